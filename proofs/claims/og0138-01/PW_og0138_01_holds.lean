import PyProof.Rows.All
import Wide.All
import OpenK.AllK
import Wide.FinOn
import PySem.Challenge.RW_og0138_01
set_option Elab.async false
set_option linter.all false

section
open PySem PySem.W PyProof.Rows PySem.Calls
set_option linter.all false
set_option maxRecDepth 100000
set_option maxHeartbeats 4000000
namespace Mine

noncomputable def defIn (n : Str) : List Stmt → Stmt
  | [] => .Pass ⟨0, 0, 0, 0⟩
  | .FunctionDef m a b c d e f g h i :: r => if m = n then .FunctionDef m a b c d e f g h i else defIn n r
  | _ :: r => defIn n r
noncomputable def clsBody (n : Str) : List Stmt → List Stmt
  | [] => []
  | .ClassDef m _ _ b _ _ _ _ _ _ _ :: r => if m = n then b else clsBody n r
  | _ :: r => clsBody n r
noncomputable def theBody : List Stmt := Challenge.rw_og0138_01.row.prog.main.body
noncomputable def bodyS : Stmt → List Stmt
  | .FunctionDef _ _ b _ _ _ _ _ _ _ => b
  | _ => []
noncomputable def paramsS : Stmt → Arguments
  | .FunctionDef _ a _ _ _ _ _ _ _ _ => a
  | _ => { posonlyargs := [], args := [], vararg := none, kwonlyargs := [], kw_defaults := [], kwarg := none, defaults := [] }
noncomputable def scopeS : Stmt → Scope
  | .FunctionDef _ _ _ _ _ _ s _ _ _ => s
  | _ => { kind := .function, names := [], isGenerator := false, isCoroutine := false }
noncomputable def bodyOf (n : Str) : List Stmt := bodyS (defIn n theBody)
noncomputable def paramsOf (n : Str) : Arguments := paramsS (defIn n theBody)
noncomputable def scopeOf (n : Str) : Scope := scopeS (defIn n theBody)
noncomputable def bodyOfM (n : Str) : List Stmt := bodyS (defIn n (clsBody "PaperError" theBody))
noncomputable def paramsOfM (n : Str) : Arguments := paramsS (defIn n (clsBody "PaperError" theBody))
noncomputable def scopeOfM (n : Str) : Scope := scopeS (defIn n (clsBody "PaperError" theBody))

noncomputable def kfAt : List Addr := [3, 29, 35, 36, 45, 46, 58, 59, 67, 68, 74, 75, 81, 82, 88, 89, 95, 96, 102, 103, 107, 108, 112, 113, 117, 118, 124, 125, 129, 130]
noncomputable def KF (P : Params) : Frag := [
  (3, { cls := Value.type "dict", data := Data.dict #[{ hash := PyData.keyHash P (Str.ofString "__name__"), key := Value.str (Str.ofString "__name__") 165, val := Value.str (Str.ofString "law_og0138_01") 327 }, { hash := PyData.keyHash P (Str.ofString "__doc__"), key := Value.str (Str.ofString "__doc__") 166, val := Value.none }, { hash := PyData.keyHash P (Str.ofString "__package__"), key := Value.str (Str.ofString "__package__") 167, val := Value.none }, { hash := PyData.keyHash P (Str.ofString "__loader__"), key := Value.str (Str.ofString "__loader__") 168, val := Value.builtin "__main__.__loader__#opaque" }, { hash := PyData.keyHash P (Str.ofString "__spec__"), key := Value.str (Str.ofString "__spec__") 169, val := Value.none }, { hash := PyData.keyHash P (Str.ofString "__annotations__"), key := Value.str (Str.ofString "__annotations__") 170, val := Value.ref 6 }, { hash := PyData.keyHash P (Str.ofString "__builtins__"), key := Value.str (Str.ofString "__builtins__") 171, val := Value.ref 4 }, { hash := PyData.keyHash P (Str.ofString "__file__"), key := Value.str (Str.ofString "__file__") 173, val := Value.str (Str.ofString "/claim/cut.py") 172 }, { hash := PyData.keyHash P (Str.ofString "__cached__"), key := Value.str (Str.ofString "__cached__") 174, val := Value.none }, { hash := PyData.keyHash P (Str.ofString "_wall"), key := Value.str (Str.ofString "_wall") 193, val := Value.ref 21 }, { hash := PyData.keyHash P (Str.ofString "PaperError"), key := Value.str (Str.ofString "PaperError") 235, val := Value.ref 46 }, { hash := PyData.keyHash P (Str.ofString "FilterFault"), key := Value.str (Str.ofString "FilterFault") 251, val := Value.ref 59 }, { hash := PyData.keyHash P (Str.ofString "greatest_length"), key := Value.str (Str.ofString "greatest_length") 260, val := Value.ref 68 }, { hash := PyData.keyHash P (Str.ofString "tally_of"), key := Value.str (Str.ofString "tally_of") 269, val := Value.ref 75 }, { hash := PyData.keyHash P (Str.ofString "room_left"), key := Value.str (Str.ofString "room_left") 278, val := Value.ref 82 }, { hash := PyData.keyHash P (Str.ofString "is_full"), key := Value.str (Str.ofString "is_full") 285, val := Value.ref 89 }, { hash := PyData.keyHash P (Str.ofString "cost"), key := Value.str (Str.ofString "cost") 295, val := Value.ref 96 }, { hash := PyData.keyHash P (Str.ofString "merged"), key := Value.str (Str.ofString "merged") 308, val := Value.ref 103 }, { hash := PyData.keyHash P (Str.ofString "package_rows"), key := Value.str (Str.ofString "package_rows") 314, val := Value.ref 108 }, { hash := PyData.keyHash P (Str.ofString "code_lengths"), key := Value.str (Str.ofString "code_lengths") 320, val := Value.ref 113 }, { hash := PyData.keyHash P (Str.ofString "tree_lengths"), key := Value.str (Str.ofString "tree_lengths") 326, val := Value.ref 118 }, { hash := PyData.keyHash P (Str.ofString "_law_drawn"), key := Value.str (Str.ofString "_law_drawn") 339, val := Value.ref 125 }, { hash := PyData.keyHash P (Str.ofString "_law_cost"), key := Value.str (Str.ofString "_law_cost") 345, val := Value.ref 130 }, { hash := PyData.keyHash P (Str.ofString "law"), key := Value.str (Str.ofString "law") 351, val := Value.ref 135 }] 24 }),
  (29, { cls := Value.type "tuple", data := Data.seq #[Value.int (-1) 209] }),
  (35, { cls := Value.type "code", data := Data.fields #[Value.str (Str.ofString "__init__") 210, Value.str (Str.ofString "PaperError.__init__") 211, Value.str (Str.ofString "/claim/cut.py") 212, Value.int 7 0, Value.int 3 0, Value.int 0 0, Value.int 0 0, Value.int 3 0, Value.ref 30, Value.bool true, Value.int 181 0, Value.ref 31, Value.none, Value.ref 32, Value.ref 33, Value.ref 34, Value.int 216 0, Value.int 7 0, Value.str (Str.ofString "/claim/cut.py") 217] }),
  (36, { cls := Value.type "function", data := Data.func { name := Str.ofString "__init__", qualname := Str.ofString "PaperError.__init__", params := paramsOfM "__init__", body := .stmts (bodyOfM "__init__"), scope := scopeOfM "__init__", globals := 3, closure := [], defaults := Value.ref 29, kwdefaults := Value.none, pyModule := Value.str (Str.ofString "paperhold.errors") 194, code := Value.ref 35 } }),
  (45, { cls := Value.type "dict", data := Data.dict #[{ hash := PyData.keyHash P (Str.ofString "__module__"), key := Value.str (Str.ofString "__module__") 203, val := Value.str (Str.ofString "paperhold.errors") 194 }, { hash := PyData.keyHash P (Str.ofString "__firstlineno__"), key := Value.str (Str.ofString "__firstlineno__") 207, val := Value.int 5 206 }, { hash := PyData.keyHash P (Str.ofString "__init__"), key := Value.str (Str.ofString "__init__") 218, val := Value.ref 36 }, { hash := PyData.keyHash P (Str.ofString "told"), key := Value.str (Str.ofString "told") 225, val := Value.ref 43 }, { hash := PyData.keyHash P (Str.ofString "__static_attributes__"), key := Value.str (Str.ofString "__static_attributes__") 228, val := Value.ref 44 }, { hash := PyData.keyHash P (Str.ofString "__weakref__"), key := Value.str (Str.ofString "__weakref__") 230, val := Value.ref 47 }, { hash := PyData.keyHash P (Str.ofString "__doc__"), key := Value.str (Str.ofString "__doc__") 231, val := Value.none }] 3 }),
  (46, { cls := Value.type "type", data := Data.cls { name := Str.ofString "PaperError", bases := [Value.type "Exception"], mro := [Value.ref 46, Value.type "Exception", Value.type "BaseException", Value.type "object"], ns := 45, qualname := Str.ofString "PaperError", subclasses := [Value.ref 59] }, slots := #[some (Value.ref 22), none, some (Value.str (Str.ofString "PaperError") 196), some (Value.str (Str.ofString "PaperError") 204), some (Value.builtin "Exception.__new__"), some (Value.bool true)] }),
  (58, { cls := Value.type "dict", data := Data.dict #[{ hash := PyData.keyHash P (Str.ofString "__module__"), key := Value.str (Str.ofString "__module__") 243, val := Value.str (Str.ofString "paperhold.errors") 194 }, { hash := PyData.keyHash P (Str.ofString "__firstlineno__"), key := Value.str (Str.ofString "__firstlineno__") 247, val := Value.int 14 246 }, { hash := PyData.keyHash P (Str.ofString "__static_attributes__"), key := Value.str (Str.ofString "__static_attributes__") 248, val := Value.ref 57 }, { hash := PyData.keyHash P (Str.ofString "__doc__"), key := Value.str (Str.ofString "__doc__") 249, val := Value.none }] 2 }),
  (59, { cls := Value.type "type", data := Data.cls { name := Str.ofString "FilterFault", bases := [Value.ref 46], mro := [Value.ref 59, Value.ref 46, Value.type "Exception", Value.type "BaseException", Value.type "object"], ns := 58, qualname := Str.ofString "FilterFault" }, slots := #[some (Value.ref 50), none, some (Value.str (Str.ofString "FilterFault") 236), some (Value.str (Str.ofString "FilterFault") 244), some (Value.builtin "Exception.__new__"), some (Value.bool true)] }),
  (67, { cls := Value.type "code", data := Data.fields #[Value.str (Str.ofString "greatest_length") 254, Value.str (Str.ofString "greatest_length") 255, Value.str (Str.ofString "/claim/cut.py") 256, Value.int 17 0, Value.int 1 0, Value.int 0 0, Value.int 0 0, Value.int 3 0, Value.ref 62, Value.bool true, Value.int 181 0, Value.ref 63, Value.none, Value.ref 64, Value.ref 65, Value.ref 66, Value.int 258 0, Value.int 17 0, Value.str (Str.ofString "/claim/cut.py") 259] }),
  (68, { cls := Value.type "function", data := Data.func { name := Str.ofString "greatest_length", qualname := Str.ofString "greatest_length", params := paramsOf "greatest_length", body := .stmts (bodyOf "greatest_length"), scope := scopeOf "greatest_length", globals := 3, closure := [], defaults := Value.none, kwdefaults := Value.none, pyModule := Value.str (Str.ofString "paperhold.huffman") 252, code := Value.ref 67 } }),
  (74, { cls := Value.type "code", data := Data.fields #[Value.str (Str.ofString "tally_of") 261, Value.str (Str.ofString "tally_of") 262, Value.str (Str.ofString "/claim/cut.py") 263, Value.int 19 0, Value.int 1 0, Value.int 0 0, Value.int 0 0, Value.int 3 0, Value.ref 69, Value.bool true, Value.int 181 0, Value.ref 70, Value.none, Value.ref 71, Value.ref 72, Value.ref 73, Value.int 267 0, Value.int 19 0, Value.str (Str.ofString "/claim/cut.py") 268] }),
  (75, { cls := Value.type "function", data := Data.func { name := Str.ofString "tally_of", qualname := Str.ofString "tally_of", params := paramsOf "tally_of", body := .stmts (bodyOf "tally_of"), scope := scopeOf "tally_of", globals := 3, closure := [], defaults := Value.none, kwdefaults := Value.none, pyModule := Value.str (Str.ofString "paperhold.huffman") 252, code := Value.ref 74 } }),
  (81, { cls := Value.type "code", data := Data.fields #[Value.str (Str.ofString "room_left") 270, Value.str (Str.ofString "room_left") 271, Value.str (Str.ofString "/claim/cut.py") 272, Value.int 25 0, Value.int 1 0, Value.int 0 0, Value.int 0 0, Value.int 3 0, Value.ref 76, Value.bool true, Value.int 181 0, Value.ref 77, Value.none, Value.ref 78, Value.ref 79, Value.ref 80, Value.int 276 0, Value.int 25 0, Value.str (Str.ofString "/claim/cut.py") 277] }),
  (82, { cls := Value.type "function", data := Data.func { name := Str.ofString "room_left", qualname := Str.ofString "room_left", params := paramsOf "room_left", body := .stmts (bodyOf "room_left"), scope := scopeOf "room_left", globals := 3, closure := [], defaults := Value.none, kwdefaults := Value.none, pyModule := Value.str (Str.ofString "paperhold.huffman") 252, code := Value.ref 81 } }),
  (88, { cls := Value.type "code", data := Data.fields #[Value.str (Str.ofString "is_full") 279, Value.str (Str.ofString "is_full") 280, Value.str (Str.ofString "/claim/cut.py") 281, Value.int 30 0, Value.int 1 0, Value.int 0 0, Value.int 0 0, Value.int 3 0, Value.ref 83, Value.bool true, Value.int 181 0, Value.ref 84, Value.none, Value.ref 85, Value.ref 86, Value.ref 87, Value.int 283 0, Value.int 30 0, Value.str (Str.ofString "/claim/cut.py") 284] }),
  (89, { cls := Value.type "function", data := Data.func { name := Str.ofString "is_full", qualname := Str.ofString "is_full", params := paramsOf "is_full", body := .stmts (bodyOf "is_full"), scope := scopeOf "is_full", globals := 3, closure := [], defaults := Value.none, kwdefaults := Value.none, pyModule := Value.str (Str.ofString "paperhold.huffman") 252, code := Value.ref 88 } }),
  (95, { cls := Value.type "code", data := Data.fields #[Value.str (Str.ofString "cost") 286, Value.str (Str.ofString "cost") 287, Value.str (Str.ofString "/claim/cut.py") 288, Value.int 32 0, Value.int 2 0, Value.int 0 0, Value.int 0 0, Value.int 3 0, Value.ref 90, Value.bool true, Value.int 181 0, Value.ref 91, Value.none, Value.ref 92, Value.ref 93, Value.ref 94, Value.int 293 0, Value.int 32 0, Value.str (Str.ofString "/claim/cut.py") 294] }),
  (96, { cls := Value.type "function", data := Data.func { name := Str.ofString "cost", qualname := Str.ofString "cost", params := paramsOf "cost", body := .stmts (bodyOf "cost"), scope := scopeOf "cost", globals := 3, closure := [], defaults := Value.none, kwdefaults := Value.none, pyModule := Value.str (Str.ofString "paperhold.huffman") 252, code := Value.ref 95 } }),
  (102, { cls := Value.type "code", data := Data.fields #[Value.str (Str.ofString "merged") 296, Value.str (Str.ofString "merged") 297, Value.str (Str.ofString "/claim/cut.py") 298, Value.int 40 0, Value.int 2 0, Value.int 0 0, Value.int 0 0, Value.int 3 0, Value.ref 97, Value.bool true, Value.int 181 0, Value.ref 98, Value.none, Value.ref 99, Value.ref 100, Value.ref 101, Value.int 306 0, Value.int 40 0, Value.str (Str.ofString "/claim/cut.py") 307] }),
  (103, { cls := Value.type "function", data := Data.func { name := Str.ofString "merged", qualname := Str.ofString "merged", params := paramsOf "merged", body := .stmts (bodyOf "merged"), scope := scopeOf "merged", globals := 3, closure := [], defaults := Value.none, kwdefaults := Value.none, pyModule := Value.str (Str.ofString "paperhold.huffman") 252, code := Value.ref 102 } }),
  (107, { cls := Value.type "code", data := Data.fields #[Value.str (Str.ofString "package_rows") 309, Value.str (Str.ofString "package_rows") 310, Value.str (Str.ofString "/claim/cut.py") 311, Value.int 53 0, Value.int 2 0, Value.int 0 0, Value.int 0 0, Value.int 3 0, Value.ref 104, Value.bool true, Value.int 181 0, Value.ref 105, Value.none, Value.none, Value.none, Value.ref 106, Value.int 312 0, Value.int 53 0, Value.str (Str.ofString "/claim/cut.py") 313] }),
  (108, { cls := Value.type "function", data := Data.func { name := Str.ofString "package_rows", qualname := Str.ofString "package_rows", params := paramsOf "package_rows", body := .stmts (bodyOf "package_rows"), scope := scopeOf "package_rows", globals := 3, closure := [], defaults := Value.none, kwdefaults := Value.none, pyModule := Value.str (Str.ofString "paperhold.huffman") 252, code := Value.ref 107 } }),
  (112, { cls := Value.type "code", data := Data.fields #[Value.str (Str.ofString "code_lengths") 315, Value.str (Str.ofString "code_lengths") 316, Value.str (Str.ofString "/claim/cut.py") 317, Value.int 61 0, Value.int 2 0, Value.int 0 0, Value.int 0 0, Value.int 3 0, Value.ref 109, Value.bool true, Value.int 181 0, Value.ref 110, Value.none, Value.none, Value.none, Value.ref 111, Value.int 318 0, Value.int 61 0, Value.str (Str.ofString "/claim/cut.py") 319] }),
  (113, { cls := Value.type "function", data := Data.func { name := Str.ofString "code_lengths", qualname := Str.ofString "code_lengths", params := paramsOf "code_lengths", body := .stmts (bodyOf "code_lengths"), scope := scopeOf "code_lengths", globals := 3, closure := [], defaults := Value.none, kwdefaults := Value.none, pyModule := Value.str (Str.ofString "paperhold.huffman") 252, code := Value.ref 112 } }),
  (117, { cls := Value.type "code", data := Data.fields #[Value.str (Str.ofString "tree_lengths") 321, Value.str (Str.ofString "tree_lengths") 322, Value.str (Str.ofString "/claim/cut.py") 323, Value.int 78 0, Value.int 1 0, Value.int 0 0, Value.int 0 0, Value.int 3 0, Value.ref 114, Value.bool true, Value.int 181 0, Value.ref 115, Value.none, Value.none, Value.none, Value.ref 116, Value.int 324 0, Value.int 78 0, Value.str (Str.ofString "/claim/cut.py") 325] }),
  (118, { cls := Value.type "function", data := Data.func { name := Str.ofString "tree_lengths", qualname := Str.ofString "tree_lengths", params := paramsOf "tree_lengths", body := .stmts (bodyOf "tree_lengths"), scope := scopeOf "tree_lengths", globals := 3, closure := [], defaults := Value.none, kwdefaults := Value.none, pyModule := Value.str (Str.ofString "paperhold.huffman") 252, code := Value.ref 117 } }),
  (124, { cls := Value.type "code", data := Data.fields #[Value.str (Str.ofString "_law_drawn") 329, Value.str (Str.ofString "_law_drawn") 330, Value.str (Str.ofString "/claim/cut.py") 331, Value.int 104 0, Value.int 2 0, Value.int 0 0, Value.int 0 0, Value.int 3 0, Value.ref 119, Value.bool true, Value.int 181 0, Value.ref 120, Value.none, Value.ref 121, Value.ref 122, Value.ref 123, Value.int 337 0, Value.int 104 0, Value.str (Str.ofString "/claim/cut.py") 338] }),
  (125, { cls := Value.type "function", data := Data.func { name := Str.ofString "_law_drawn", qualname := Str.ofString "_law_drawn", params := paramsOf "_law_drawn", body := .stmts (bodyOf "_law_drawn"), scope := scopeOf "_law_drawn", globals := 3, closure := [], defaults := Value.none, kwdefaults := Value.none, pyModule := Value.str (Str.ofString "law_og0138_01") 327, code := Value.ref 124 } }),
  (129, { cls := Value.type "code", data := Data.fields #[Value.str (Str.ofString "_law_cost") 340, Value.str (Str.ofString "_law_cost") 341, Value.str (Str.ofString "/claim/cut.py") 342, Value.int 110 0, Value.int 1 0, Value.int 0 0, Value.int 0 0, Value.int 3 0, Value.ref 126, Value.bool true, Value.int 181 0, Value.ref 127, Value.none, Value.none, Value.none, Value.ref 128, Value.int 343 0, Value.int 110 0, Value.str (Str.ofString "/claim/cut.py") 344] }),
  (130, { cls := Value.type "function", data := Data.func { name := Str.ofString "_law_cost", qualname := Str.ofString "_law_cost", params := paramsOf "_law_cost", body := .stmts (bodyOf "_law_cost"), scope := scopeOf "_law_cost", globals := 3, closure := [], defaults := Value.none, kwdefaults := Value.none, pyModule := Value.str (Str.ofString "law_og0138_01") 327, code := Value.ref 129 } })]
end Mine
end

section
open PySem PySem.W PyProof.Rows PySem.Calls
set_option linter.all false
set_option maxRecDepth 100000
namespace Mine

noncomputable abbrev PH := Addr → Option Obj

inductive D where
  | int (i : Int)
  | bool (b : Bool)
  | tup (ds : List D)
  | lst (ds : List D)

noncomputable def lstO (vs : List Value) (n : Nat) : Obj := { cls := .type "list", data := .seq vs.toArray n }
noncomputable def TupO (o : Obj) (vs : List Value) : Prop := o.cls = .type "tuple" ∧ ∃ n, o.data = .seq vs.toArray n
noncomputable def tupO (vs : List Value) (n : Nat) : Obj := { cls := .type "tuple", data := .seq vs.toArray n }


theorem nsm {α : Type} {a : α} (h : (none : Option α) = some a) : False := nomatch h
theorem ftm (h : false = true) : False := nomatch h
theorem bnd {α β : Type} {o : Option α} {f : α → Option β} {r : β} (h : o.bind f = some r) : ∃ a, o = some a ∧ f a = some r := by
  cases o with
  | none => cases h
  | some a => exact ⟨a, rfl, h⟩
theorem mpd {α β : Type} {o : Option α} {f : α → β} {r : β} (h : o.map f = some r) : ∃ a, o = some a ∧ f a = r := by
  cases o with
  | none => cases h
  | some a => exact ⟨a, rfl, Option.some.inj h⟩
noncomputable abbrev obind {α β : Type} (o : Option α) (f : α → Option β) : Option β := match o with
  | some a => f a
  | none => none
theorem bno {α β : Type} {o : Option α} {f : α → Option β} {r : β} (h : obind o f = some r) : ∃ a, o = some a ∧ f a = some r := by
  cases o with
  | none => exact (nsm h).elim
  | some a => exact ⟨a, rfl, h⟩
noncomputable def one {α : Type} : List α → Option α
  | [a] => some a
  | _ => none
theorem one_some {α : Type} {l : List α} {a : α} (h : one l = some a) : l = [a] := by
  match l, h with
  | [b], h => exact congrArg (fun x => [x]) (Option.some.inj h)
noncomputable def one1 : List D → Option (List D)
  | [.lst a] => some a
  | _ => none
theorem one1_some {l : List D} {a : List D} (h : one1 l = some a) : l = [.lst a] := by
  match l, h with
  | [.lst b], h => exact congrArg (fun x => [D.lst x]) (Option.some.inj h)
noncomputable def two2 : List D → Option (List D × List D)
  | [.lst a, .lst b] => some (a, b)
  | _ => none
theorem two2_some {l : List D} {a b : List D} (h : two2 l = some (a, b)) : l = [.lst a, .lst b] := by
  match l, h with
  | [.lst x, .lst y], h => cases h; rfl
noncomputable def asL : D → Option (List D)
  | .lst a => some a
  | _ => none
theorem asL_some {d : D} {a : List D} (h : asL d = some a) : d = .lst a := by
  cases d with
  | lst x => exact congrArg D.lst (Option.some.inj h)
  | _ => exact (nsm h).elim

noncomputable def nm : Expr → Option Str
  | .Name x _ => some x
  | _ => none
theorem nm_some {e : Expr} {x : Str} (h : nm e = some x) : ∃ p, e = .Name x p := by
  cases e with
  | Name y p => obtain rfl : y = x := Option.some.inj h; exact ⟨p, rfl⟩
  | _ => exact (nsm h).elim
noncomputable def isMul : Operator → Bool
  | .Mult => true
  | _ => false
theorem isMul_some {o : Operator} (h : isMul o = true) : o = .Mult := by cases o <;> first | rfl | exact (ftm h).elim
noncomputable def isAdd : Operator → Bool
  | .Add => true
  | _ => false
theorem isAdd_some {o : Operator} (h : isAdd o = true) : o = .Add := by cases o <;> first | rfl | exact (ftm h).elim
noncomputable def nm2 : List Expr → Option (Str × Str)
  | [a, b] => (nm a).bind fun x => (nm b).map fun y => (x, y)
  | _ => none
theorem nm2_some {l : List Expr} {x y : Str} (h : nm2 l = some (x, y)) : ∃ p q, l = [.Name x p, .Name y q] := by
  match l, h with
  | [a, b], h =>
    obtain ⟨x', h1, h2⟩ := bnd h
    obtain ⟨y', h3, h4⟩ := mpd h2
    obtain ⟨p, rfl⟩ := nm_some h1
    obtain ⟨q, rfl⟩ := nm_some h3
    cases h4
    exact ⟨p, q, rfl⟩
noncomputable def asI : D → Option Int
  | .int a => some a
  | _ => none
theorem asI_some {d : D} {a : Int} (h : asI d = some a) : d = .int a := by
  cases d with
  | int x => exact congrArg D.int (Option.some.inj h)
  | _ => exact (nsm h).elim
noncomputable def tup2 : D → Option (D × D)
  | .tup [a, b] => some (a, b)
  | _ => none
theorem tup2_some {d a b : D} (h : tup2 d = some (a, b)) : d = .tup [a, b] := by
  match d, h with
  | .tup [x, y], h => cases h; rfl

mutual
inductive DI (g : PH) : Value → D → Prop
  | int (i : Int) (t : Tok) : DI g (.int i t) (.int i)
  | bool (b : Bool) : DI g (.bool b) (.bool b)
  | tup {a : Addr} {o : Obj} {vs : List Value} {ds : List D} : g a = some o → TupO o vs → DIs g vs ds → DI g (.ref a) (.tup ds)
  | lst {a : Addr} {vs : List Value} {n : Nat} {ds : List D} : g a = some (lstO vs n) → DIs g vs ds → DI g (.ref a) (.lst ds)
inductive DIs (g : PH) : List Value → List D → Prop
  | nil : DIs g [] []
  | cons {v : Value} {vs : List Value} {d : D} {ds : List D} : DI g v d → DIs g vs ds → DIs g (v :: vs) (d :: ds)
end

noncomputable def Sub (g g' : PH) : Prop := ∀ a o, g a = some o → g' a = some o
noncomputable def HS (g : PH) (h : Heap) : Prop := ∀ a o, g a = some o → h.get? a = some o
noncomputable def Kp (h h' : Heap) : Prop := ∀ a o, h.get? a = some o → h'.get? a = some o

theorem Sub.refl (g : PH) : Sub g g := fun _ _ h => h
theorem Sub.trans {a b c : PH} (x : Sub a b) (y : Sub b c) : Sub a c := fun _ _ h => y _ _ (x _ _ h)
theorem Kp.refl (h : Heap) : Kp h h := fun _ _ h => h
theorem Kp.trans {a b c : Heap} (x : Kp a b) (y : Kp b c) : Kp a c := fun _ _ h => y _ _ (x _ _ h)
theorem HS.kp {g : PH} {h h' : Heap} (x : HS g h) (k : Kp h h') : HS g h' := fun _ _ e => k _ _ (x _ _ e)
theorem HS.sub {g g' : PH} {h : Heap} (x : HS g' h) (k : Sub g g') : HS g h := fun _ _ e => x _ _ (k _ _ e)

mutual
theorem DI.mono {g g' : PH} (k : Sub g g') : ∀ {v : Value} {d : D}, DI g v d → DI g' v d
  | _, _, .int i t => .int i t
  | _, _, .bool b => .bool b
  | _, _, .tup e t r => .tup (k _ _ e) t (DIs.mono k r)
  | _, _, .lst e r => .lst (k _ _ e) (DIs.mono k r)
theorem DIs.mono {g g' : PH} (k : Sub g g') : ∀ {vs : List Value} {ds : List D}, DIs g vs ds → DIs g' vs ds
  | _, _, .nil => .nil
  | _, _, .cons h r => .cons (DI.mono k h) (DIs.mono k r)
end

theorem DI.int_inv {g : PH} {v : Value} {i : Int} (h : DI g v (.int i)) : ∃ t, v = .int i t := by cases h; exact ⟨_, rfl⟩
theorem DI.bool_inv {g : PH} {v : Value} {b : Bool} (h : DI g v (.bool b)) : v = .bool b := by cases h; rfl
theorem DI.tup_inv {g : PH} {v : Value} {ds : List D} (h : DI g v (.tup ds)) : ∃ a vs o, v = .ref a ∧ g a = some o ∧ TupO o vs ∧ DIs g vs ds := by cases h with | tup e t r => exact ⟨_, _, _, rfl, e, t, r⟩
theorem DI.lst_inv {g : PH} {v : Value} {ds : List D} (h : DI g v (.lst ds)) : ∃ a vs n, v = .ref a ∧ g a = some (lstO vs n) ∧ DIs g vs ds := by cases h with | lst e r => exact ⟨_, _, _, rfl, e, r⟩
theorem DIs.cons_inv {g : PH} {vs : List Value} {d : D} {ds : List D} (h : DIs g vs (d :: ds)) : ∃ v ws, vs = v :: ws ∧ DI g v d ∧ DIs g ws ds := by cases h with | cons a b => exact ⟨_, _, rfl, a, b⟩
theorem DIs.nil_inv {g : PH} {vs : List Value} (h : DIs g vs []) : vs = [] := by cases h; rfl
theorem DIs.one_inv {g : PH} {vs : List Value} {a : D} (h : DIs g vs [a]) : ∃ v, vs = [v] ∧ DI g v a := by
  obtain ⟨v, ws, rfl, h1, h2⟩ := h.cons_inv
  obtain rfl := h2.nil_inv
  exact ⟨v, rfl, h1⟩
theorem DIs.two_inv {g : PH} {vs : List Value} {a b : D} (h : DIs g vs [a, b]) : ∃ va vb, vs = [va, vb] ∧ DI g va a ∧ DI g vb b := by
  obtain ⟨v, ws, rfl, h1, h2⟩ := h.cons_inv
  obtain ⟨u, rfl, h3⟩ := h2.one_inv
  exact ⟨v, u, rfl, h1, h3⟩
theorem DIs.three_inv {g : PH} {vs : List Value} {a b c : D} (h : DIs g vs [a, b, c]) : ∃ va vb vc, vs = [va, vb, vc] ∧ DI g va a ∧ DI g vb b ∧ DI g vc c := by
  obtain ⟨v, ws, rfl, h1, h2⟩ := h.cons_inv
  obtain ⟨u, w, rfl, h3, h4⟩ := h2.two_inv
  exact ⟨v, u, w, rfl, h1, h3, h4⟩
theorem DIs.length {g : PH} {ds : List D} : ∀ {vs : List Value}, DIs g vs ds → vs.length = ds.length := by
  induction ds with
  | nil => intro vs h; rw [h.nil_inv]; rfl
  | cons d ds ih => intro vs h; obtain ⟨v, ws, rfl, _, r⟩ := h.cons_inv; rw [List.length_cons, List.length_cons, ih r]
theorem DIs.append {g : PH} {vs ws : List Value} {ds es : List D} (h : DIs g vs ds) (k : DIs g ws es) : DIs g (vs ++ ws) (ds ++ es) := by
  induction ds generalizing vs with
  | nil => rw [h.nil_inv]; exact k
  | cons d ds ih => obtain ⟨v, us, rfl, a, r⟩ := h.cons_inv; exact .cons a (ih r)
theorem DIs.get {g : PH} {ds : List D} : ∀ {vs : List Value}, DIs g vs ds → ∀ {k : Nat} {d : D}, ds[k]? = some d → ∃ v, vs[k]? = some v ∧ DI g v d := by
  induction ds with
  | nil => intro vs h k d e; exact nomatch e
  | cons a ds ih =>
    intro vs h k d e
    obtain ⟨v, us, rfl, b, r⟩ := h.cons_inv
    cases k with
    | zero => obtain rfl : a = d := Option.some.inj e; exact ⟨v, rfl, b⟩
    | succ k => exact ih r e
theorem DIs.of_get {g : PH} {ds : List D} : ∀ {vs : List Value}, DIs g vs ds → ∀ {k : Nat} {v : Value}, vs[k]? = some v → ∃ d, ds[k]? = some d ∧ DI g v d := by
  induction ds with
  | nil => intro vs h k d e; rw [h.nil_inv] at e; exact nomatch e
  | cons a ds ih =>
    intro vs h k d e
    obtain ⟨v, us, rfl, b, r⟩ := h.cons_inv
    cases k with
    | zero => obtain rfl : v = d := Option.some.inj e; exact ⟨a, rfl, b⟩
    | succ k => exact ih r e
theorem DIs.drop {g : PH} {ds : List D} : ∀ {vs : List Value}, DIs g vs ds → ∀ k : Nat, DIs g (vs.drop k) (ds.drop k) := by
  induction ds with
  | nil => intro vs h k; rw [h.nil_inv, List.drop_nil, List.drop_nil]; exact .nil
  | cons a ds ih =>
    intro vs h k
    obtain ⟨v, us, rfl, b, r⟩ := h.cons_inv
    cases k with
    | zero => exact .cons b r
    | succ k => exact ih r k
theorem DIs.take {g : PH} {ds : List D} : ∀ {vs : List Value}, DIs g vs ds → ∀ k : Nat, DIs g (vs.take k) (ds.take k) := by
  induction ds with
  | nil => intro vs h k; rw [h.nil_inv, List.take_nil, List.take_nil]; exact .nil
  | cons a ds ih =>
    intro vs h k
    obtain ⟨v, us, rfl, b, r⟩ := h.cons_inv
    cases k with
    | zero => exact .nil
    | succ k => exact .cons b (ih r k)
theorem DIs.reverse {g : PH} {vs : List Value} {ds : List D} (x : DIs g vs ds) : DIs g vs.reverse ds.reverse := by
  induction ds generalizing vs with
  | nil => cases x; exact .nil
  | cons d ds ih => cases x with | cons h r => rw [List.reverse_cons, List.reverse_cons]; exact (ih r).append (.cons h .nil)
theorem DIs.replicate {g : PH} {vs : List Value} {ds : List D} (x : DIs g vs ds) (n : Nat) : DIs g (List.replicate n vs).flatten (List.replicate n ds).flatten := by
  induction n with
  | zero => exact .nil
  | succ n ih => simp only [List.replicate_succ, List.flatten_cons]; exact x.append ih
theorem DIs.set {g : PH} {ds : List D} : ∀ {vs : List Value}, DIs g vs ds → ∀ {k : Nat} {v : Value} {d : D}, DI g v d → DIs g (vs.set k v) (ds.set k d) := by
  induction ds with
  | nil => intro vs h k v d x; rw [h.nil_inv]; exact .nil
  | cons a ds ih =>
    intro vs h k v d x
    obtain ⟨u, us, rfl, b, r⟩ := h.cons_inv
    cases k with
    | zero => exact .cons x r
    | succ k => exact .cons b (ih r x)

/-- what an evaluation does: it only makes objects -/
structure Ext (h h' : Heap) (g g' : PH) : Prop where
  kp : Kp h h'
  gg : Sub g g'
  gh : HS g' h'
  nw : ∀ a, g a = none → g' a ≠ none → h.get? a = none

theorem Ext.refl {h : Heap} {g : PH} (x : HS g h) : Ext h h g g := ⟨Kp.refl _, Sub.refl _, x, fun _ e n => absurd e n⟩
theorem Kp.none {h h' : Heap} (k : Kp h h') {a : Addr} (e : h'.get? a = none) : h.get? a = none := by
  cases q : h.get? a with
  | none => rfl
  | some o => rw [k _ _ q] at e; cases e
theorem Ext.trans {h h' h'' : Heap} {g g' g'' : PH} (x : Ext h h' g g') (y : Ext h' h'' g' g'') : Ext h h'' g g'' :=
  ⟨x.kp.trans y.kp, x.gg.trans y.gg, y.gh, fun a e n => by
    by_cases q : g' a = none
    · exact x.kp.none (y.nw a q n)
    · exact x.nw a e q⟩
/-- heap grows, nothing learned -/
theorem Ext.of_kp {h h' : Heap} {g : PH} (x : HS g h) (k : Kp h h') : Ext h h' g g := ⟨k, Sub.refl _, x.kp k, fun _ e n => absurd e n⟩

noncomputable def ins (g : PH) (a : Addr) (o : Obj) : PH := fun x => if x = a then some o else g x
theorem ins_self (g : PH) (a : Addr) (o : Obj) : ins g a o a = some o := by simp [ins]
theorem ins_sub {g : PH} {a : Addr} {o : Obj} (h : g a = none) : Sub g (ins g a o) := fun x p e => by
  unfold ins
  by_cases q : x = a
  · subst q; rw [h] at e; cases e
  · rw [if_neg q]; exact e

theorem get_size_none (h : Heap) : h.get? h.objs.size = none := by
  cases q : h.get? h.objs.size with
  | none => rfl
  | some o => exact absurd (Heap.lt_size q) (Nat.lt_irrefl _)
theorem HS.none {g : PH} {h : Heap} (x : HS g h) {a : Addr} (e : h.get? a = none) : g a = none := by
  cases q : g a with
  | none => rfl
  | some o => rw [x _ _ q] at e; cases e
/-- an object that was not there is now, and all that was stays -/
theorem Ext.new {h h' : Heap} {g : PH} {a : Addr} {o : Obj} (x : HS g h) (k : Kp h h') (e : h.get? a = none) (n : h'.get? a = some o) : Ext h h' g (ins g a o) :=
  ⟨k, ins_sub (x.none e), fun b p q => by
    unfold ins at q
    by_cases z : b = a
    · subst z; rw [if_pos rfl] at q; cases q; exact n
    · rw [if_neg z] at q; exact k _ _ (x _ _ q), fun b z m => by
    unfold ins at m
    by_cases w : b = a
    · subst w; exact e
    · rw [if_neg w] at m; exact absurd z m⟩
theorem Ext.push {h : Heap} {g : PH} (x : HS g h) (o : Obj) (hf : o.isFreed = false := by rfl) : Ext h (h.push o) g (ins g h.objs.size o) :=
  Ext.new x (fun _ _ e => Heap.get?_push_of_some _ e) (get_size_none h) (Heap.get?_push_size _ hf)
theorem Ext.grow {h : Heap} {g : PH} (x : HS g h) (o : Obj) : Ext h (h.push o) g g := Ext.of_kp x fun _ _ e => Heap.get?_push_of_some _ e

theorem lstO_isList {h : Heap} {a : Addr} {vs : List Value} {n : Nat} (e : h.get? a = some (lstO vs n)) : h.IsList a vs.toArray := ⟨_, e, rfl, n, rfl⟩
theorem tupO_ok (vs : List Value) (n : Nat) : TupO (tupO vs n) vs := ⟨rfl, n, rfl⟩
theorem tupO_isTup {h : Heap} {a : Addr} {o : Obj} {vs : List Value} (e : h.get? a = some o) (t : TupO o vs) : IsTup h a vs.toArray := ⟨_, e, t.1, t.2⟩

end Mine
end

section
open PySem PySem.W PyProof.Rows PySem.Calls PySem.SeqAt
set_option linter.all false
set_option maxRecDepth 100000
namespace Mine

noncomputable def big : Nat := 1048576
noncomputable def intsOf : List D → Option (List Int)
  | [] => some []
  | .int i :: r => (intsOf r).map (i :: ·)
  | _ :: _ => none
noncomputable def boolsOf : List D → Option (List Bool)
  | [] => some []
  | .bool i :: r => (boolsOf r).map (i :: ·)
  | _ :: _ => none

theorem intsOf_map (l : List Int) : intsOf (l.map D.int) = some l := by
  induction l with
  | nil => rfl
  | cons a l ih => simp [intsOf, ih]
theorem boolsOf_map (l : List Bool) : boolsOf (l.map D.bool) = some l := by
  induction l with
  | nil => rfl
  | cons a l ih => simp [boolsOf, ih]
theorem intsOf_cons {d : D} {ds : List D} {ns : List Int} (h : intsOf (d :: ds) = some ns) : ∃ i ms, d = .int i ∧ intsOf ds = some ms ∧ ns = i :: ms := by
  cases d with
  | int i => obtain ⟨ms, h1, rfl⟩ := mpd (show (intsOf ds).map (i :: ·) = some ns from h); exact ⟨i, ms, rfl, h1, rfl⟩
  | _ => exact (nsm h).elim
theorem DIs.ints {g : PH} {ds : List D} : ∀ {vs : List Value} {ns : List Int}, DIs g vs ds → intsOf ds = some ns → IntsAre vs ns := by
  induction ds with
  | nil =>
    intro vs ns h e
    obtain rfl := h.nil_inv
    obtain rfl : [] = ns := Option.some.inj e
    exact .nil
  | cons d ds ih =>
    intro vs ns h e
    obtain ⟨v, ws, rfl, h1, h2⟩ := h.cons_inv
    obtain ⟨i, ms, rfl, e1, rfl⟩ := intsOf_cons e
    obtain ⟨t, rfl⟩ := h1.int_inv
    exact .cons i t (ih h2 e1)

noncomputable def binI (op : Operator) (a b : Int) : Option D := match op with
  | .Add => some (.int (a + b))
  | .Sub => some (.int (a - b))
  | .Mult => if a.natAbs < 2 ^ 62 then some (.int (a * b)) else none
  | .Mod => if 0 < b then some (.int (a % b)) else none
  | .FloorDiv => if 0 < b ∧ b.toNat < 1000000000 then some (.int (a / b)) else none
  | .LShift => if 0 ≤ b ∧ b ≤ 1000 ∧ a.natAbs < 2 ^ 62 then some (.int (a * 2 ^ b.toNat)) else none
  | .Pow => if 0 ≤ b ∧ b ≤ 1000 ∧ a.natAbs < 2 ^ 62 then some (.int (a ^ b.toNat)) else none
  | _ => none
noncomputable def binL (op : Operator) (a b : List D) : Option D := if isAdd op then (if a.length ≤ big ∧ b.length ≤ big then some (.lst (a ++ b)) else none) else none
noncomputable def binR (op : Operator) (a : List D) (k : Int) : Option D := if isMul op then (if k.toNat < big ∧ 0 ≤ k ∧ a.length = 1 then some (.lst (List.replicate k.toNat a).flatten) else none) else none
noncomputable def binD (op : Operator) (a b : D) : Option D := match a with
  | .int x => (asI b).bind fun y => binI op x y
  | .lst x => (match b with
    | .lst y => binL op x y
    | .int k => binR op x k
    | _ => none)
  | _ => none

noncomputable def cmpI : CmpOp → Int → Int → Option Bool
  | .Lt, a, b => some (decide (a < b))
  | .LtE, a, b => some (decide (a ≤ b))
  | .Gt, a, b => some (decide (b < a))
  | .GtE, a, b => some (decide (b ≤ a))
  | .Eq, a, b => some (decide (a = b))
  | .NotEq, a, b => some (!decide (a = b))
  | _, _, _ => none
noncomputable def isEq : CmpOp → Bool
  | .Eq => true
  | _ => false
noncomputable def isNe : CmpOp → Bool
  | .NotEq => true
  | _ => false
noncomputable def isNi : CmpOp → Bool
  | .NotIn => true
  | _ => false
theorem isEq_some {o : CmpOp} (h : isEq o = true) : o = .Eq := by cases o <;> first | rfl | exact (ftm h).elim
theorem isNe_some {o : CmpOp} (h : isNe o = true) : o = .NotEq := by cases o <;> first | rfl | exact (ftm h).elim
theorem isNi_some {o : CmpOp} (h : isNi o = true) : o = .NotIn := by cases o <;> first | rfl | exact (ftm h).elim
noncomputable def cmpD (op : CmpOp) (a b : D) : Option Bool := match a with
  | .int a => (match b with
    | .int b => cmpI op a b
    | .tup b => if isNi op then (intsOf b).map fun y => !(y.any (· == a)) else none
    | _ => none)
  | .bool a => (match b with
    | .bool b => if isNe op then some (a != b) else none
    | _ => none)
  | .lst a => (asL b).bind fun b => (intsOf a).bind fun x => (intsOf b).bind fun y => if isEq op then some (decide (x = y)) else if isNe op then some (!decide (x = y)) else none
  | _ => none
noncomputable def truD : D → Option Bool
  | .bool b => some b
  | .lst a => if a.length ≤ big then some (!a.isEmpty) else none
  | _ => none

section
variable {prog : Program} {w : World} {A : Around} {E : Value → Shared → Prop} {s : Shared} {g : PH}

theorem add_lists_D {l b : Addr} {vs ws : List Value} {n k : Nat} {Q : Value → Shared → Prop} (hl : s.heap.get? l = some (lstO vs n)) (hb : s.heap.get? b = some (lstO ws k)) (hsz : vs.length + ws.length ≤ sizeLine)
    (h : Q (.ref s.heap.objs.size) { s with heap := s.heap.push (lstO (vs ++ ws) 0) }) : wpAny (model prog w) A (binaryOp .Add (.ref l) (.ref b)) Q E s := by
  refine P.add_list hl hb ?_ (by simpa using hsz)
  have e : (vs.toArray ++ ws.toArray) = (vs ++ ws).toArray := by simp
  rw [e]; exact h

theorem foldl_rep (vs : List Value) (n : Nat) (acc : Array Value) : List.foldl (fun x1 x2 => x1 ++ x2) acc (List.replicate n vs.toArray) = acc ++ ((List.replicate n vs).flatten).toArray := by
  induction n generalizing acc with
  | zero => simp
  | succ n ih => simp only [List.replicate_succ, List.foldl_cons, List.flatten_cons]; rw [ih]; simp [Array.append_assoc]

theorem mul_list_D {l : Addr} {vs : List Value} {n : Nat} {x : Int} {u : Tok} {Q : Value → Shared → Prop} (hl : s.heap.get? l = some (lstO vs n)) (hlo : 0 ≤ x) (hhi : x < 2 ^ 63) (hsz : vs.length * x.toNat ≤ 2 ^ 24) (hne : vs ≠ [])
    (h : Q (.ref s.heap.objs.size) { s with heap := s.heap.push (lstO (List.replicate x.toNat vs).flatten 0) }) : wpAny (model prog w) A (binaryOp .Mult (.ref l) (.int x u)) Q E s := by
  have hl' : s.heap.get? l = some { cls := .type "list", dict := none, data := .seq vs.toArray n, slots := #[] } := hl
  refine wpAny_binaryOp_repeat_ref (T := "list") (U := "int") (by decide) ⟨_, hl', rfl⟩ (fun s' => typeIs_int s' x u) noFill_list_mul F.fills_int_mul F.slot_int_rmul repeat_list F.slot_int_index.lookup
    (call_meets F.slot_int_rmul (typeIs_int s x u) F.entry_int_rmul (F.args_int_rmul_2 _ _) (int___rmul___int_list x u l vs.toArray n)
      ⟨hl', rfl, ⟨_, hl', rfl⟩, call_meets F.slot_list_mul ⟨_, hl', rfl⟩ F.entry_list_mul (F.args_list_mul_2 _ _)
        (AutoListH.list___mul___list_int_3 l vs.toArray n x u (by simp [Builtin.List.listFitsIndex]; (first | lia | omega)) (by simp; (first | lia | omega)) (by simp [Builtin.List.listTooLong, sizeLine]; (first | lia | omega)))
        ⟨hl', ?_⟩⟩)
  have e : vs.toArray.isEmpty = false := by cases vs with | nil => exact absurd rfl hne | cons a l => rfl
  have e2 := foldl_rep vs x.toNat #[]
  simp only [e, Bool.false_eq_true, if_false]
  rw [e2]
  simpa [lstO] using h

/-- binary operators over data -/
theorem bin_sound {op : Operator} {a b d : D} {va vb : Value} {Q : Value → Shared → Prop} (e : binD op a b = some d) (ha : DI g va a) (hb : DI g vb b) (hg : HS g s.heap)
    (h : ∀ v h' g' tk, Ext s.heap h' g g' → DI g' v d → Q v { s with heap := h', toks := tk }) : wpAny (model prog w) A (binaryOp op va vb) Q E s := by
  have int {i : Int} (e : d = .int i) : Q (.int i s.toks) { s with toks := s.toks + 1 } := h _ s.heap g _ (Ext.refl hg) (e ▸ .int _ _)
  unfold binD at e
  split at e
  · rename_i x
    replace e := bnd e
    obtain ⟨y, q, e⟩ := e
    obtain rfl := asI_some q
    obtain ⟨t, rfl⟩ := ha.int_inv
    obtain ⟨u, rfl⟩ := hb.int_inv
    unfold binI at e
    split at e
    · obtain rfl := Option.some.inj e; exact PyProof.Rows.add_int (int rfl)
    · obtain rfl := Option.some.inj e; exact PyProof.Rows.sub_int (int rfl)
    · split at e
      · rename_i hs; obtain rfl := Option.some.inj e
        exact PyProof.Rows.mul_int (int rfl) (.of_left (intBits_le (by first | lia | omega)))
      · exact (nsm e).elim
    · split at e
      · rename_i hs; obtain rfl := Option.some.inj e
        refine PyProof.Rows.mod_int (Int.ne_of_gt hs) ?_
        rw [Int.fmod_eq_emod_of_nonneg _ (Int.le_of_lt hs)]
        exact int rfl
      · exact (nsm e).elim
    · split at e
      · rename_i hs; obtain rfl := Option.some.inj e
        refine PyProof.Rows.floordiv_int (Int.ne_of_gt hs.1) ?_ (Or.inl (PyProof.noPylong_small (by first | lia | omega)))
        rw [Int.fdiv_eq_ediv_of_nonneg _ (Int.le_of_lt hs.1)]
        exact int rfl
      · exact (nsm e).elim
    · split at e
      · rename_i hs; obtain rfl := Option.some.inj e
        exact PyProof.Rows.lshift_int_small (by first | lia | omega) (by first | lia | omega) (by first | lia | omega) (int rfl)
      · exact (nsm e).elim
    · split at e
      · rename_i hs; obtain rfl := Option.some.inj e
        exact PyProof.Rows.pow_int_small (by first | lia | omega) (by first | lia | omega) (by first | lia | omega) (int rfl)
      · exact (nsm e).elim
    · exact (nsm e).elim
  · rename_i x
    obtain ⟨xa, vs, na, rfl, ea, ra⟩ := ha.lst_inv
    split at e
    · obtain ⟨xb, ws, nb, rfl, eb, rb⟩ := hb.lst_inv
      unfold binL at e
      split at e
      · rename_i ho; obtain rfl := isAdd_some ho
        split at e
        · rename_i hs; obtain rfl := Option.some.inj e
          have l1 := ra.length; have l2 := rb.length
          refine add_lists_D (hg _ _ ea) (hg _ _ eb) (by rw [sizeLine_eq]; unfold big at hs; (first | lia | omega)) ?_
          have X := Ext.push hg (lstO (vs ++ ws) 0)
          exact h _ _ _ _ X (.lst (ins_self _ _ _) ((ra.append rb).mono X.gg))
        · exact (nsm e).elim
      · exact (nsm e).elim
    · rename_i k
      obtain ⟨u, rfl⟩ := hb.int_inv
      unfold binR at e
      split at e
      · rename_i ho; obtain rfl := isMul_some ho
        split at e
        · rename_i hs; obtain rfl := Option.some.inj e
          have l1 := ra.length
          unfold big at hs
          refine mul_list_D (hg _ _ ea) hs.2.1 (by first | lia | omega) (by rw [l1, hs.2.2]; (first | lia | omega)) (by intro z; subst z; rw [hs.2.2] at l1; exact Nat.noConfusion l1) ?_
          exact h _ _ _ _ (Ext.push hg (lstO (List.replicate k.toNat vs).flatten 0)) (.lst (ins_self _ _ _) ((ra.replicate _).mono (Ext.push hg (lstO (List.replicate k.toNat vs).flatten 0)).gg))
        · exact (nsm e).elim
      · exact (nsm e).elim
    · exact (nsm e).elim
  · exact (nsm e).elim

theorem getD_int {vs : List Value} {ns : List Int} (hi : IntsAre vs ns) (j : Nat) (h1 : j < vs.toArray.size) : ∃ t, vs.toArray[j] = .int (ns.getD j 0) t := by
  have hl := hi.length
  have h1' : j < vs.length := by simpa using h1
  have h2 : j < ns.length := by first | lia | omega
  obtain ⟨t, e⟩ := hi.get j ns[j] (by simp [h2])
  refine ⟨t, ?_⟩
  have e2 : vs[j]? = some vs[j] := by simp [h1']
  rw [e2] at e
  simp only [Option.some.injEq] at e
  simp [e, h2]
theorem all_eq_ints (xs ys : List Int) (h : xs.length = ys.length) : (List.range xs.length).all (fun j => xs.getD j 0 == ys.getD j 0) = decide (xs = ys) := by
  rw [Bool.eq_iff_iff, List.all_eq_true, decide_eq_true_eq]
  constructor
  · intro q
    refine List.ext_getElem h fun i h1 h2 => ?_
    have := q i (List.mem_range.mpr h1)
    simpa [h1, h2] using this
  · rintro rfl j _; simp

theorem eq_ints {va vb : Addr} {xs ys : List Int} {vs ws : List Value} {n k : Nat} (hu : A.units < cLine) (ha : s.heap.get? va = some (lstO vs n)) (hb : s.heap.get? vb = some (lstO ws k)) (hi : IntsAre vs xs) (hj : IntsAre ws ys) :
    RcAt A s (.ref va) (.ref vb) (decide (xs = ys)) ∧ RcNeAt A s (.ref va) (.ref vb) (!decide (xs = ys)) := by
  have l1 := hi.length
  have l2 := hj.length
  by_cases hl : xs.length = ys.length
  · have he : ∀ j (h1 : j < vs.toArray.size) (h2 : j < ws.toArray.size), EqAt A.in1 s vs.toArray[j] ws.toArray[j] ((fun j => xs.getD j 0 == ys.getD j 0) j) := fun j h1 h2 => by
      obtain ⟨t, e1⟩ := getD_int hi j h1
      obtain ⟨u, e2⟩ := getD_int hj j h2
      rw [e1, e2]
      exact EqAt.int_int _ _ _ _
    have hsz : vs.toArray.size = ws.toArray.size := by simp [l1, l2, hl]
    have r1 := RcAt.lists (A := A) (s := s) (lstO_isList ha) (lstO_isList hb) hsz hu he
    have r2 := RcNeAt.lists (A := A) (s := s) (lstO_isList ha) (lstO_isList hb) hsz hu he
    have e : vs.toArray.size = xs.length := by simp [l1]
    rw [e, all_eq_ints xs ys hl] at r1 r2
    exact ⟨r1, r2⟩
  · have hsz : (vs.toArray.size != ws.toArray.size) = true := by simp [l1, l2, hl]
    have e : decide (xs = ys) = false := decide_eq_false fun q => hl (by rw [q])
    rw [e]
    exact ⟨RcAt.lists_lengths (lstO_isList ha) (lstO_isList hb) hsz hu, RcNeAt.lists_lengths (lstO_isList ha) (lstO_isList hb) hsz hu⟩

theorem cmp_sound {op : CmpOp} {a b : D} {r : Bool} {va vb : Value} {Q : Value → Shared → Prop} (hu : A.units < cLine) (e : cmpD op a b = some r) (ha : DI g va a) (hb : DI g vb b) (hg : HS g s.heap)
    (h : Q (.bool r) s) : wpAny (model prog w) A (compareOp op va vb) Q E s := by
  unfold cmpD at e
  split at e
  · obtain ⟨t, rfl⟩ := ha.int_inv
    split at e
    · obtain ⟨u, rfl⟩ := hb.int_inv
      unfold cmpI at e
      split at e
      · obtain rfl := Option.some.inj e; exact P.lt_int h
      · obtain rfl := Option.some.inj e; exact P.le_int h
      · obtain rfl := Option.some.inj e; exact P.gt_int h
      · obtain rfl := Option.some.inj e; exact P.ge_int h
      · obtain rfl := Option.some.inj e; exact P.eq_int h
      · obtain rfl := Option.some.inj e; exact P.ne_int h
      · exact (nsm e).elim
    · split at e
      · rename_i ho; obtain rfl := isNi_some ho
        obtain ⟨xb, ws, nb, rfl, eb, tb, rb⟩ := hb.tup_inv
        obtain ⟨ys, e2, rfl⟩ := mpd e
        exact notin_tuple_ints (tupO_isTup (hg _ _ eb) tb) (rb.ints e2) h
      · exact (nsm e).elim
    · exact (nsm e).elim
  · obtain rfl := ha.bool_inv
    split at e
    · obtain rfl := hb.bool_inv
      split at e
      · rename_i ho; obtain rfl := isNe_some ho
        obtain rfl := Option.some.inj e; exact ne_bool h
      · exact (nsm e).elim
    · exact (nsm e).elim
  · obtain ⟨xa, vs, na, rfl, ea, ra⟩ := ha.lst_inv
    replace e := bnd e
    obtain ⟨y, q, e⟩ := e
    obtain rfl := asL_some q
    obtain ⟨xb, ws, nb, rfl, eb, rb⟩ := hb.lst_inv
    replace e := bnd e
    obtain ⟨xs, e1, e⟩ := e
    replace e := bnd e
    obtain ⟨ys, e2, e⟩ := e
    have k := eq_ints hu (hg _ _ ea) (hg _ _ eb) (ra.ints e1) (rb.ints e2)
    split at e
    · rename_i ho; obtain rfl := isEq_some ho
      obtain rfl := Option.some.inj e
      exact k.1 prog w E Q h
    · split at e
      · rename_i ho; obtain rfl := isNe_some ho
        obtain rfl := Option.some.inj e
        exact k.2 prog w E Q h
      · exact (nsm e).elim
  · exact (nsm e).elim

theorem tru_sound {d : D} {b : Bool} {v : Value} {Q : Bool → Shared → Prop} (e : truD d = some b) (hd : DI g v d) (hg : HS g s.heap) (h : ∀ tk, Q b { s with toks := tk }) : wpAny (model prog w) A (truthy v) Q E s := by
  unfold truD at e
  split at e
  · cases hd; cases e; exact wpAny_truthy_bool (h s.toks)
  · obtain ⟨xa, vs, na, rfl, ea, ra⟩ := hd.lst_inv
    split at e
    · rename_i hs
      cases e
      have l1 := ra.length
      refine wpAny_truthy_list (lstO_isList (hg _ _ ea)) (by simp [l1]; unfold big at hs; (first | lia | omega)) ?_
      cases ra with
      | nil => exact h _
      | cons _ _ => exact h _
    · cases e
  · cases e
end
end Mine
end

section
open PySem PySem.W PyProof.Rows PySem.Calls PySem.SeqAt
set_option linter.all false
set_option maxRecDepth 100000
namespace Mine

/-- a callee that only makes objects, as a function of data -/
structure FnOk (prog : Program) (w : World) (A : Around) (base : Heap) (fv : Value) (φ : List D → Option D) : Prop where
  keep : ∀ h, Kp base h → ∃ k, (k = Keeper.frame ∨ k = Keeper.machine ∨ k = Keeper.boundFrame) ∧ Looks (model prog w) h (keeperOf fv) k
  call : ∀ (vs : List Value) (ds : List D) (d : D) (g : PH) (s : Shared) (Q : Value → Shared → Prop) (E : Value → Shared → Prop), φ ds = some d → DIs g vs ds → HS g s.heap → Kp base s.heap →
    (∀ v h' g' tk, Ext s.heap h' g g' → DI g' v d → Q v { s with heap := h', toks := tk }) → wpAny (model prog w) A (call fv vs) Q E s

theorem keep_builtin {prog : Program} {w : World} {base : Heap} {id : String} : ∀ h, Kp base h → ∃ k, (k = Keeper.frame ∨ k = Keeper.machine ∨ k = Keeper.boundFrame) ∧ Looks (model prog w) h (keeperOf (.builtin id)) k :=
  fun _ _ => ⟨.machine, .inr (.inl rfl), Looks.of_pure rfl⟩
theorem keep_type {prog : Program} {w : World} {base : Heap} {id : String} : ∀ h, Kp base h → ∃ k, (k = Keeper.frame ∨ k = Keeper.machine ∨ k = Keeper.boundFrame) ∧ Looks (model prog w) h (keeperOf (.type id)) k :=
  fun _ _ => ⟨.machine, .inr (.inl rfl), Looks.of_pure rfl⟩

noncomputable def φlen : List D → Option D
  | [.lst a] => if a.length ≤ big then some (.int a.length) else none
  | _ => none
noncomputable def maxL : List Int → Int
  | [] => 0
  | a :: l => l.foldl max a
noncomputable def φmax : List D → Option D
  | [.lst a] => (intsOf a).bind fun ns => if ns = [] then none else some (.int (maxL ns))
  | _ => none
noncomputable def φsum : List D → Option D
  | [.lst a] => (intsOf a).bind fun ns => if ns.length ≤ big ∧ ns.all (fun x => decide (0 ≤ x ∧ x < 2 ^ 40)) = true then some (.int ns.sum) else none
  | _ => none
noncomputable def φlist : List D → Option D
  | [.lst a] => if a.length ≤ big then some (.lst a) else none
  | _ => none

theorem maxL_spec (l : List Int) (h : l ≠ []) : maxL l ∈ l ∧ ∀ x ∈ l, x ≤ maxL l := by
  cases l with
  | nil => exact absurd rfl h
  | cons a l =>
    show l.foldl max a ∈ a :: l ∧ ∀ x ∈ a :: l, x ≤ l.foldl max a
    clear h
    induction l generalizing a with
    | nil => simp
    | cons b l ih =>
      simp only [List.foldl_cons]
      obtain ⟨h1, h2⟩ := ih (max a b)
      refine ⟨?_, fun x hx => ?_⟩
      · rcases List.mem_cons.mp h1 with e | e
        · rw [e]
          rcases Int.le_total a b with q | q
          · rw [Int.max_eq_right q]; simp
          · rw [Int.max_eq_left q]; simp
        · simp [e]
      · have hm := h2 (max a b) (by simp)
        rcases List.mem_cons.mp hx with e | e
        · subst e; (first | lia | omega)
        · rcases List.mem_cons.mp e with e | e
          · subst e; (first | lia | omega)
          · exact h2 x (by simp [e])
theorem maxL_uniq {l : List Int} {m : Int} (h1 : m ∈ l) (h2 : ∀ x ∈ l, x ≤ m) : m = maxL l := by
  have hne : l ≠ [] := fun e => by rw [e] at h1; cases h1
  obtain ⟨a, b⟩ := maxL_spec l hne
  exact Int.le_antisymm (b m h1) (h2 _ a)

section
variable {prog : Program} {w : World} {A : Around} {base : Heap}

theorem fn_len : FnOk prog w A base (.builtin "len") φlen where
  keep := keep_builtin
  call := fun vs ds d g s Q E e hd hg hb h => by
    unfold φlen at e
    split at e
    · cases hd with | cons h1 h2 => ?_
      cases h2
      obtain ⟨a, us, n, rfl, ea, ra⟩ := h1.lst_inv
      split at e
      · rename_i hs
        cases e
        have l1 := ra.length
        unfold big at hs
        refine Calls.call_len_list (lstO_isList (hg _ _ ea)) (by simp [l1]; (first | lia | omega)) ?_
        have q := h (.int us.toArray.size (s.toks + 1)) s.heap g (s.toks + 1 + 1) (Ext.refl hg) (by simp [l1]; exact .int _ _)
        exact q
      · cases e
    · cases e

theorem fn_list : FnOk prog w A base (.type "list") φlist where
  keep := keep_type
  call := fun vs ds d g s Q E e hd hg hb h => by
    unfold φlist at e
    split at e
    · cases hd with | cons h1 h2 => ?_
      cases h2
      obtain ⟨a, us, n, rfl, ea, ra⟩ := h1.lst_inv
      split at e
      · rename_i hs
        cases e
        have l1 := ra.length
        unfold big at hs
        refine call_list_seq a (T := "list") (.inl rfl) (hg _ _ ea) rfl rfl (fun h' c' k1 k2 => ?_) (by rw [sizeLine_eq]; simp [l1]; (first | lia | omega))
        have X : Ext s.heap h' g (ins g s.heap.objs.size (lstO us c')) := Ext.new hg k1 (get_size_none _) k2
        exact h _ _ _ _ X (.lst (ins_self _ _ _) (ra.mono X.gg))
      · cases e
    · cases e

theorem iter_list {l : Addr} {items : Array Value} {E : Value → Shared → Prop} {s : Shared} {Q : Value → Shared → Prop} (hl : s.heap.IsList l items)
    (h : ∀ s₂ : Shared, s₂ = { s with heap := s.heap.push { cls := .type "list_iterator", data := .fields #[.ref l, .int 0 0] } } →
      (s₂.heap.IsListIter s.heap.objs.size l 0 ∧ s₂.heap.IsList l items) → (∀ b ∈ [s.heap.objs.size, l], b < s₂.heap.objs.size) → l ≠ s.heap.objs.size → Q (.ref s.heap.objs.size) s₂) :
    wpAny (model prog w) A (pyIter (.ref l)) Q E s := by
  have hlt : l < s.heap.objs.size := by obtain ⟨_, e, _⟩ := hl; exact Heap.lt_size e
  refine wpAny_pyIter_list hl (h _ rfl ⟨⟨_, Heap.get?_push_size _ rfl, rfl, rfl⟩, hl.push _⟩ (fun b hb => ?_) (Nat.ne_of_lt hlt))
  show b < (s.heap.push _).objs.size
  rw [Heap.size_push]
  rcases List.mem_cons.mp hb with rfl | hb
  · exact Nat.lt_succ_self _
  · rcases List.mem_cons.mp hb with rfl | hb
    · exact Nat.lt_succ_of_lt hlt
    · cases hb

theorem at_ints {vs : List Value} {ns : List Int} (hi : IntsAre vs ns) {i : Nat} {v : Value} (h : vs.toArray[i]? = some v) : ∃ t, v = .int (ns.getD i 0) t := by
  have hl := hi.length
  have h' : vs[i]? = some v := by simpa using h
  have h1 : i < vs.length := by
    rcases Nat.lt_or_ge i vs.length with q | q
    · exact q
    · rw [List.getElem?_eq_none q] at h'; cases h'
  have h2 : i < ns.length := by first | lia | omega
  obtain ⟨t, e⟩ := hi.get i ns[i] (by simp [h2])
  rw [h'] at e
  exact ⟨t, by simp only [Option.some.injEq] at e; simp [e, h2]⟩

theorem fn_max (hh : A.handled = none) : FnOk prog w A base (.builtin "max") φmax where
  keep := keep_builtin
  call := fun vs ds d g s Q E e hd hg hb h => by
    unfold φmax at e
    split at e
    · cases hd with | cons h1 h2 => ?_
      cases h2
      obtain ⟨a, us, n, rfl, ea, ra⟩ := h1.lst_inv
      simp only [Option.bind_eq_some_iff] at e
      obtain ⟨ns, e1, e⟩ := e
      split at e
      · cases e
      · rename_i hne
        cases e
        have hi := ra.ints e1
        have hl := hi.length
        have hpos : 0 < ns.length := List.length_pos_iff.mpr hne
        refine call_max_walk (iter_list (lstO_isList (hg _ _ ea)) fun s₂ e st hfp hlI => ?_)
        subst e
        refine ⟨_, _, _, _, _, _, _, rfl, Walks.list (A := A.in1) hh _ a hlI us.toArray, st, hfp, by simp [hl]; (first | lia | omega), CmpOf.ints_gt (fun i => ns.getD i 0) (fun _ _ => at_ints hi), fun v h' tk hP hk => ?_⟩
        obtain ⟨t, rfl⟩ := at_ints hi hP
        have hsz : us.toArray.size = ns.length := by simp [hl]
        rw [hsz] at *
        obtain ⟨q1, q2⟩ := argBest_gt (fun i => ns.getD i 0) (ns.length - 1)
        have hm : ns.getD (argBest (fun i j => decide (ns.getD i 0 > ns.getD j 0)) (ns.length - 1)) 0 = maxL ns := by
          refine maxL_uniq ?_ fun x hx => ?_
          · have hlt : argBest (fun i j => decide (ns.getD i 0 > ns.getD j 0)) (ns.length - 1) < ns.length := by first | lia | omega
            rw [List.getD_eq_getElem?_getD, List.getElem?_eq_getElem hlt]
            exact List.getElem_mem hlt
          · obtain ⟨j, hj, rfl⟩ := List.mem_iff_getElem.mp hx
            have := q2 j (by first | lia | omega)
            rw [List.getD_eq_getElem?_getD, List.getElem?_eq_getElem hj] at this
            exact this
        have X : Ext s.heap h' g g := Ext.of_kp hg (old_kept hk)
        exact h _ _ _ _ X (by rw [hm]; exact .int _ _)
    · cases e

theorem preSum_bound (ns : List Int) (hb : ∀ x ∈ ns, 0 ≤ x ∧ x < 2 ^ 40) (j : Nat) : 0 ≤ (ns.take j).sum ∧ (ns.take j).sum ≤ j * 2 ^ 40 := by
  induction j with
  | zero => simp
  | succ j ih =>
    rw [List.take_add_one]
    cases q : ns[j]? with
    | none => simp; (first | lia | omega)
    | some x =>
      have := hb x (List.mem_of_getElem? q)
      simp only [Option.toList, List.sum_append, List.sum_cons, List.sum_nil]
      (first | lia | omega)

theorem fn_sum (hh : A.handled = none) : FnOk prog w A base (.builtin "sum") φsum where
  keep := keep_builtin
  call := fun vs ds d g s Q E e hd hg hb h => by
    unfold φsum at e
    split at e
    · cases hd with | cons h1 h2 => ?_
      cases h2
      obtain ⟨a, us, n, rfl, ea, ra⟩ := h1.lst_inv
      simp only [Option.bind_eq_some_iff] at e
      obtain ⟨ns, e1, e⟩ := e
      split at e
      · rename_i hs
        cases e
        have hi := ra.ints e1
        have hl := hi.length
        have hall : ∀ x ∈ ns, 0 ≤ x ∧ x < 2 ^ 40 := fun x hx => of_decide_eq_true (List.all_eq_true.mp hs.2 x hx)
        have hbig := hs.1
        unfold big at hbig
        refine call_sum_walk (iter_list (lstO_isList (hg _ _ ea)) fun s₂ e st hfp hlI => ?_)
        subst e
        refine ⟨_, _, _, _, _, _, (fun i => ns.getD i 0), rfl, Walks.list (A := A.in1) hh _ a hlI us.toArray, st, hfp, (fun _ _ => at_ints hi), (fun j hj => ?_), fun h' tk t' hk => ?_⟩
        · have hj' : j < ns.length := by simp [hl] at hj; (first | lia | omega)
          rw [preSum_getD]
          have b1 := preSum_bound ns hall (j + 1)
          have b2 := hall _ (List.getElem_mem hj')
          have e3 : ns.getD j 0 = ns[j] := by simp [hj']
          refine ⟨?_, ?_⟩
          · show -2 ^ 63 ≤ ns.getD j 0 ∧ ns.getD j 0 < 2 ^ 63; rw [e3]; (first | lia | omega)
          · unfold InLong; (first | lia | omega)
        · have hsz : us.toArray.size = ns.length := by simp [hl]
          rw [hsz, preSum_getD, List.take_length]
          exact h _ _ _ _ (Ext.of_kp hg (old_kept hk)) (.int _ _)
      · cases e
    · cases e

/-- xs.count(True) -/
theorem count_sound {s : Shared} {g : PH} {Q : Value → Shared → Prop} {E : Value → Shared → Prop} {l : Addr} {us : List Value} {n : Nat} {bs : List D} {xs : List Bool} {k : Bool} (hg : HS g s.heap) (hl : s.heap.get? l = some (lstO us n)) (hd : DIs g us bs) (hx : boolsOf bs = some xs)
    (h : ∀ t tk, Q (.int (xs.countP (· == k) : Nat) t) { s with toks := tk }) : wpAny (model prog w) A (call (.builtin "list.count") [.ref l, .bool k]) Q E s := by
  have vals : ∀ {us : List Value} {bs : List D} {xs : List Bool}, DIs g us bs → boolsOf bs = some xs → us = xs.map Value.bool := by
    intro us bs xs hd
    induction bs generalizing us xs with
    | nil => intro q; cases hd; simp [boolsOf] at q; subst q; rfl
    | cons b bs ih =>
      intro q
      cases hd with
      | cons h1 h2 =>
        cases h1 with
        | bool b =>
          simp only [boolsOf, Option.map_eq_some_iff] at q
          obtain ⟨ms, m1, rfl⟩ := q
          rw [ih h2 m1]; rfl
        | _ => simp [boolsOf] at q
  have ev := vals hd hx
  subst ev
  refine call_meets PySem.F.slot_list_count ⟨_, hl, rfl⟩ PySem.F.entry_list_count (PySem.F.args_list_count_2 _ _) (list_countAt l _ n none #[] (.bool k) (fun v => v == .bool k)) ⟨hl, fun y hy => ?_, ?_⟩
  · obtain ⟨b, _, rfl⟩ : ∃ b, b ∈ xs ∧ Value.bool b = y := by simpa using hy
    have e : (Value.bool b == Value.bool k) = (b == k) := by cases b <;> cases k <;> rfl
    rw [e]
    exact EqAt.bool_bool _ _
  · have e : (List.map Value.bool xs).toArray.toList.countP (fun v => v == Value.bool k) = xs.countP (· == k) := by
      show List.countP _ (List.map Value.bool xs) = _
      rw [List.countP_map]
      refine List.countP_congr fun b _ => ?_
      cases b <;> cases k <;> simp <;> decide
    rw [e]
    exact h _ _
end
end Mine
end

section
open PySem PySem.W PyProof.Rows PySem.Calls PySem.SeqAt
set_option linter.all false
set_option maxRecDepth 100000
namespace Mine

/-- an iterator at I that hands out ds, one at a turn, as a loop with the target tg asks them -/
structure Src (prog : Program) (w : World) (A : Around) (tg : Expr) (I : Addr) (fp wr : List Addr) (g₀ : PH) (ds : List D) (St : Nat → Heap → Prop) : Prop where
  sub : ∀ b ∈ wr, b ∈ fp
  frame : ∀ i h h', St i h → (∀ b ∈ fp, ∀ o, h.get? b = some o → h'.get? b = some o) → St i h'
  live : ∀ i h, St i h → ∀ b ∈ fp, h.get? b ≠ none
  item : ∀ (i : Nat) (d : D) (g : PH) (s : Shared) (Q : Value → Shared → Prop) (E : Value → Shared → Prop), ds[i]? = some d → St i s.heap → Sub g₀ g → HS g s.heap → (∀ a ∈ wr, g a = none) →
    (∀ v h' g' tk, DI g' v d → St (i + 1) h' → Sub g g' → HS g' h' → (∀ a, g a = none → g' a ≠ none → s.heap.get? a = none) → (∀ b o, b ∉ wr → s.heap.get? b = some o → h'.get? b = some o) → (∀ a ∈ wr, g' a = none) → Q v { s with heap := h', toks := tk }) →
    wpAny (model prog w) A (pyNext (.ref I)) (fun r s₁ => ∃ v, r = some v ∧ wpAny (model prog w) A (letOwnedTupleGo tg (.ref I) v) (fun _ s₂ => Q v s₂) E s₁) E s
  done : ∀ (s : Shared) (Q : Option Value → Shared → Prop) (E : Value → Shared → Prop), St ds.length s.heap →
    (∀ h' tk, (∀ b o, b ∉ wr → s.heap.get? b = some o → h'.get? b = some o) → Q none { s with heap := h', toks := tk }) → wpAny (model prog w) A (pyNext (.ref I)) Q E s
  self : ∀ (i : Nat) (s : Shared) (Q : Value → Shared → Prop) (E : Value → Shared → Prop), St i s.heap → Q (.ref I) s → wpAny (model prog w) A (pyIter (.ref I)) Q E s

section
variable {prog : Program} {w : World} {A : Around}

theorem Src.of_walks {tg : Expr} {I : Addr} {fp wr : List Addr} {g₀ : PH} {ds : List D} {P : Nat → Value → Prop} {St : Nat → Heap → Prop} (W : Walks prog w A I fp wr ds.length P St)
    (hval : ∀ i v d, ds[i]? = some d → P i v → DI g₀ v d)
    (hgo : ∀ i v (s : Shared) (Q : Unit → Shared → Prop) (E : Value → Shared → Prop), P i v → St (i + 1) s.heap → Q () s → wpAny (model prog w) A (letOwnedTupleGo tg (.ref I) v) Q E s) (hlive : ∀ i h, St i h → ∀ b ∈ fp, h.get? b ≠ none) : Src prog w A tg I fp wr g₀ ds St where
  sub := W.sub
  frame := W.frame
  live := hlive
  item := fun i d g s Q E hd hst hs hg hw h => by
    have hi : i < ds.length := by
      rcases Nat.lt_or_ge i ds.length with q | q
      · exact q
      · rw [List.getElem?_eq_none q] at hd; cases hd
    refine W.item i s _ _ hi hst fun v h' tk hP hst' hk => ⟨v, rfl, ?_⟩
    refine hgo i v _ _ _ hP hst' ?_
    refine h v h' g tk ((hval i v d hd hP).mono hs) hst' (Sub.refl _) (fun a o e => ?_) (fun a e n => absurd e n) hk hw
    exact hk a o (fun m => by rw [hw a m] at e; cases e) (hg a o e)
  done := W.done
  self := W.self

theorem go_name {x : Str} {p : Pos} {it v : Value} {s : Shared} {Q : Unit → Shared → Prop} {E : Value → Shared → Prop} (h : Q () s) : wpAny (model prog w) A (letOwnedTupleGo (.Name x p) it v) Q E s := wpAny_pure h

theorem nref {it : Value} {tg : Expr} {i : Int} {t : Tok} : letOwnedTupleGo tg it (.int i t) = pure () := by
  have k : ∀ {es k p}, letOwnedTupleGo (.Tuple es k p) it (.int i t) = pure () := by intro es k p; cases it <;> rfl
  have k2 : ∀ {es p}, letOwnedTupleGo (.List es p) it (.int i t) = pure () := by intro es p; cases it <;> rfl
  cases tg with
  | Tuple es n p => exact k
  | List es p => exact k2
  | _ => rfl

/-- pyIter of x gives a source of ds -/
noncomputable def Iters (prog : Program) (w : World) (A : Around) (tg : Expr) (x : Value) (s : Shared) (g : PH) (ds : List D) : Prop :=
  ∀ (Q : Value → Shared → Prop) (E : Value → Shared → Prop), (∀ I fp wr St h', Kp s.heap h' → Src prog w A tg I fp wr g ds St → St 0 h' → (∀ b ∈ wr, s.heap.get? b = none) → (∀ b ∈ fp, s.heap.get? b = none ∨ g b ≠ none) → (∀ b ∈ fp, h'.get? b ≠ none) → Q (.ref I) { s with heap := h' }) →
    wpAny (model prog w) A (pyIter x) Q E s

/-- the same, for a source that stands behind some new objects -/
noncomputable def ItersN (prog : Program) (w : World) (A : Around) (tg : Expr) (x : Value) (s₀ : Heap) (s : Shared) (g : PH) (ds : List D) : Prop :=
  ∀ (Q : Value → Shared → Prop) (E : Value → Shared → Prop), (∀ I fp wr St h', Kp s.heap h' → Src prog w A tg I fp wr g ds St → St 0 h' → (∀ b ∈ wr, s₀.get? b = none) → (∀ b ∈ wr, g b = none) → (∀ b ∈ fp, s₀.get? b = none ∨ g b ≠ none) → (∀ b ∈ fp, h'.get? b ≠ none) → Q (.ref I) { s with heap := h' }) →
    wpAny (model prog w) A (pyIter x) Q E s

theorem iters_list {tg : Expr} {s : Shared} {g : PH} {a : Addr} {vs : List Value} {n : Nat} {ds : List D} {s₀ : Heap} (hh : A.handled = none) (ht : (∃ x p, tg = .Name x p) ∨ (∃ es k p, tg = .Tuple es k p)) (hg : HS g s.heap) (e : g a = some (lstO vs n)) (r : DIs g vs ds) (k0 : Kp s₀ s.heap) : ItersN prog w A tg (.ref a) s₀ s g ds := by
  intro Q E h
  refine iter_list (lstO_isList (hg _ _ e)) fun s₂ e2 st hfp hne => ?_
  subst e2
  have hl : vs.toArray.size = ds.length := by simp [r.length]
  have W := Walks.list (prog := prog) (w := w) hh s.heap.objs.size a hne vs.toArray
  rw [hl] at W
  have hnw : s.heap.get? s.heap.objs.size = none := get_size_none _
  have hsrc : Src prog w A tg s.heap.objs.size [s.heap.objs.size, a] [s.heap.objs.size] g ds (fun i h => h.IsListIter s.heap.objs.size a i ∧ h.IsList a vs.toArray) := by
    refine Src.of_walks W (fun i v d hd hP => ?_) (fun i v s' Q' E' hP hst hQ => ?_) (fun i h hst b hb => ?_)
    rotate_left 2
    · obtain ⟨⟨o1, q1, _⟩, o2, q2, _⟩ := hst
      rcases List.mem_cons.mp hb with q | q
      · rw [q, q1]; simp
      · rw [List.mem_singleton.mp q, q2]; simp
    · obtain ⟨v', e1, e2⟩ := r.get hd
      have : vs[i]? = some v := by simpa using hP
      rw [this] at e1; cases e1; exact e2
    · rcases ht with ⟨x, p, rfl⟩ | ⟨es, k, p, rfl⟩
      · exact wpAny_pure hQ
      · cases v with
        | ref T => exact wpAny_letOwnedTupleGo_listiter hst.1 hQ
        | _ => exact wpAny_pure hQ
  refine h _ _ _ _ _ (fun _ _ q => Heap.get?_push_of_some _ q) hsrc st (fun b hb => ?_) (fun b hb => ?_) (fun b hb => ?_) (fun b hb => ?_)
  · rw [List.mem_singleton.mp hb]; exact k0.none hnw
  · rw [List.mem_singleton.mp hb]; exact hg.none hnw
  · rcases List.mem_cons.mp hb with q | q
    · rw [q]; exact .inl (k0.none hnw)
    · rw [List.mem_singleton.mp q]; exact .inr (by rw [e]; simp)
  · rcases List.mem_cons.mp hb with q | q
    · subst q
      show (s.heap.push _).get? s.heap.objs.size ≠ none
      rw [Heap.get?_push_size _ rfl]; simp
    · rw [List.mem_singleton.mp q]
      show (s.heap.push _).get? a ≠ none
      rw [Heap.get?_push_of_some _ (hg _ _ e)]; simp

theorem iters_rev {s : Shared} {x : Str} {p : Pos} {g : PH} {a I : Addr} {vs : List Value} {n : Nat} {ds : List D} {s₀ : Heap} (hh : A.handled = none) (hg : HS g s.heap) (e : g a = some (lstO vs n)) (r : DIs g vs ds)
    (hI : s.heap.get? I = some (revObj a ((vs.toArray.size : Int) - 1))) (h0 : s₀.get? I = none) (hgI : g I = none) : ItersN prog w A (.Name x p) (.ref I) s₀ s g ds.reverse := by
  intro Q E h
  have hne : a ≠ I := fun q => by rw [q] at e; rw [e] at hgI; cases hgI
  have hrv : s.heap.IsRevIter I a ((vs.toArray.size : Int) - 1) := ⟨_, hI, rfl, rfl⟩
  refine wpAny_pyIter_revIter hrv ?_
  have hl : vs.toArray.size = ds.reverse.length := by simp [r.length]
  have W := Walks.listRev (prog := prog) (w := w) hh I a hne vs.toArray
  have hsz : vs.toArray.size = ds.length := by simp [r.length]
  have hsrc : Src prog w A (.Name x p) I [I, a] [I] g ds.reverse (fun i h => i ≤ vs.toArray.size ∧ h.IsRevIter I a ((vs.toArray.size : Int) - 1 - i) ∧ h.IsList a vs.toArray) := by
    have W' : Walks prog w A I [I, a] [I] ds.reverse.length (fun i v => vs.toArray[vs.toArray.size - 1 - i]? = some v) (fun i h => i ≤ vs.toArray.size ∧ h.IsRevIter I a ((vs.toArray.size : Int) - 1 - i) ∧ h.IsList a vs.toArray) := by
      rw [← hl]; exact W
    refine Src.of_walks W' (fun i v d hd hP => ?_) (fun i v s' Q' E' hP hst hQ => wpAny_pure hQ) (fun i h hst b hb => ?_)
    rotate_left
    · obtain ⟨_, ⟨o1, q1, _⟩, o2, q2, _⟩ := hst
      rcases List.mem_cons.mp hb with q | q
      · rw [q, q1]; simp
      · rw [List.mem_singleton.mp q, q2]; simp
    have hi : i < ds.reverse.length := by
      rcases Nat.lt_or_ge i ds.reverse.length with q | q
      · exact q
      · rw [List.getElem?_eq_none q] at hd; cases hd
    rw [List.length_reverse] at hi
    rw [List.getElem?_reverse hi] at hd
    obtain ⟨v', e1, e2⟩ := r.get hd
    have : vs[ds.length - 1 - i]? = some v := by rw [← hsz]; simpa using hP
    rw [this] at e1; cases e1; exact e2
  refine h _ _ _ _ s.heap (Kp.refl _) hsrc ⟨Nat.zero_le _, by simpa using hrv, lstO_isList (hg _ _ e)⟩ (fun b hb => ?_) (fun b hb => ?_) (fun b hb => ?_) (fun b hb => ?_)
  · rw [List.mem_singleton.mp hb]; exact h0
  · rw [List.mem_singleton.mp hb]; exact hgI
  · rcases List.mem_cons.mp hb with q | q
    · rw [q]; exact .inl h0
    · rw [List.mem_singleton.mp q]; exact .inr (by rw [e]; simp)
  · rcases List.mem_cons.mp hb with q | q
    · subst q; rw [hI]; simp
    · rw [List.mem_singleton.mp q, hg _ _ e]; simp

noncomputable def rangeD (a c : Int) (n : Nat) : List D := (List.range n).map fun (i : Nat) => D.int (a + (i : Int) * c)

theorem iters_range {s : Shared} {tg : Expr} {g : PH} {r : Addr} {a b c : Int} {t u v : Tok} {n : Nat} {s₀ : Heap} (hh : A.handled = none) (hg : HS g s.heap) (hr : IsRange s.heap r a b c t u v)
    (hs : Builtin.Range.small a b c = true) (hn : Builtin.Range.rangeSize a b c = (n : Int)) (k0 : Kp s₀ s.heap) : ItersN prog w A tg (.ref r) s₀ s g (rangeD a c n) := by
  intro Q E h
  refine wpAny_pyIter_range hr hs ?_
  have hnw : s.heap.get? s.heap.objs.size = none := get_size_none _
  have W := Walks.range (prog := prog) (w := w) hh s.heap.objs.size a c n
  have hl : (rangeD a c n).length = n := by simp [rangeD]
  have W' : Walks prog w A s.heap.objs.size [s.heap.objs.size] [s.heap.objs.size] (rangeD a c n).length (fun i v => ∃ t, v = Value.int (a + (i : Int) * c) t) (fun i h => IsRangeIter h s.heap.objs.size (a + (i : Int) * c) ((n : Int) - (i : Int)) c) := by rw [hl]; exact W
  have hsrc : Src prog w A tg s.heap.objs.size [s.heap.objs.size] [s.heap.objs.size] g (rangeD a c n) (fun i h => IsRangeIter h s.heap.objs.size (a + (i : Int) * c) ((n : Int) - (i : Int)) c) := by
    refine Src.of_walks W' (fun i v d hd hP => ?_) (fun i v s' Q' E' hP hst hQ => ?_) (fun i h hst b hb => ?_)
    rotate_left 2
    · rw [List.mem_singleton.mp hb, hst]; simp
    · obtain ⟨t, rfl⟩ := hP
      simp only [rangeD, List.getElem?_map, Option.map_eq_some_iff] at hd
      obtain ⟨j, hj, rfl⟩ := hd
      have : j = i := by
        rcases Nat.lt_or_ge i n with q | q
        · simp [q] at hj; (first | lia | omega)
        · rw [List.getElem?_eq_none (by simp; exact q)] at hj; cases hj
      subst this
      exact .int _ _
    · obtain ⟨t, rfl⟩ := hP
      rw [nref]
      exact wpAny_pure hQ
  refine h _ _ _ _ _ (fun _ _ q => Heap.get?_push_of_some _ q) hsrc ?_ (fun b hb => ?_) (fun b hb => ?_) (fun b hb => ?_) (fun b hb => ?_)
  · rw [← hn]; simpa using Heap.get?_push_size s.heap (o := { cls := .type "range_iterator", data := .fields #[rawInt a, rawInt (Builtin.Range.rangeSize a b c), rawInt c] }) rfl
  · rw [List.mem_singleton.mp hb]; exact k0.none hnw
  · rw [List.mem_singleton.mp hb]; exact hg.none hnw
  · rw [List.mem_singleton.mp hb]; exact .inl (k0.none hnw)
  · rw [List.mem_singleton.mp hb]
    show (s.heap.push _).get? s.heap.objs.size ≠ none
    rw [Heap.get?_push_size _ rfl]; simp

theorem pair_DI {g : PH} {h : Heap} {T : Addr} {vals : Array Value} {va vb : Value} {a b : D} (hT : h.IsTuple T vals) (hv : vals = #[va, vb]) (ha : DI g va a) (hb : DI g vb b) (hg : g T = none) :
    ∃ o, h.get? T = some o ∧ DI (ins g T o) (.ref T) (.tup [a, b]) := by
  obtain ⟨o, ho, hc, n, hd⟩ := hT
  refine ⟨o, ho, .tup (ins_self _ _ _) ⟨hc, n, ?_⟩ ((DIs.cons ha (.cons hb .nil)).mono (ins_sub hg))⟩
  rw [hd, hv]

/-- a source whose items are new tuples, under a tuple target -/
theorem Src.of_walksT {es : List Expr} {k : Nat} {p : Pos} {I : Addr} {fp wr : List Addr} {g₀ : PH} {ds : List D} {Pt : Nat → Array Value → Prop} {St : Nat → Heap → Prop} {Mid : Nat → Addr → Heap → Prop}
    (W : WalksT prog w A I fp wr ds.length Pt St Mid) (hval : ∀ i vals d, ds[i]? = some d → Pt i vals → ∃ va vb a b, vals = #[va, vb] ∧ d = .tup [a, b] ∧ DI g₀ va a ∧ DI g₀ vb b) (hlive : ∀ i h, St i h → ∀ b ∈ fp, h.get? b ≠ none) : Src prog w A (.Tuple es k p) I fp wr g₀ ds St where
  sub := W.sub
  frame := W.frame
  live := hlive
  item := fun i d g s Q E hd hst hs hg hw h => by
    have hi : i < ds.length := by
      rcases Nat.lt_or_ge i ds.length with q | q
      · exact q
      · rw [List.getElem?_eq_none q] at hd; cases hd
    refine W.item i s _ _ hi hst fun T vals h' tk hP hle hT hM hk => ⟨.ref T, rfl, ?_⟩
    obtain ⟨va, vb, a, b, e1, e2, d1, d2⟩ := hval i vals d hd hP
    have hTn : s.heap.get? T = none := by
      cases q : s.heap.get? T with
      | none => rfl
      | some o => exact absurd (Heap.lt_size q) (Nat.not_lt.mpr hle)
    have hgT : g T = none := hg.none hTn
    have hTw : T ∉ wr := W.apart _ _ _ hM
    refine W.go es k p i T _ _ _ hM fun h'' hst'' hk'' => ?_
    have hT'' : h''.IsTuple T vals := by
      obtain ⟨o, ho, r⟩ := hT
      exact ⟨o, hk'' T o hTw ho, r⟩
    obtain ⟨o, ho, hd'⟩ := pair_DI hT'' e1 (d1.mono hs) (d2.mono hs) hgT
    have kept : ∀ b o, b ∉ wr → s.heap.get? b = some o → h''.get? b = some o := fun b o hb e => hk'' b o hb (hk b o hb e)
    refine h (.ref T) h'' (ins g T o) tk (e2 ▸ hd') hst'' (ins_sub hgT) (fun x q e => ?_) (fun x e n => ?_) kept (fun x hx => ?_)
    · unfold ins at e
      by_cases z : x = T
      · subst z; rw [if_pos rfl] at e; cases e; exact ho
      · rw [if_neg z] at e
        exact kept x q (fun m => by rw [hw x m] at e; cases e) (hg x q e)
    · unfold ins at n
      by_cases z : x = T
      · subst z; exact hTn
      · rw [if_neg z] at n; exact absurd e n
    · unfold ins
      rw [if_neg (fun (z : x = T) => hTw (z ▸ hx))]
      exact hw x hx
  done := W.done
  self := W.self

noncomputable def zipD : List D → List D → List D
  | a :: as, b :: bs => .tup [a, b] :: zipD as bs
  | _, _ => []
theorem zipD_len : ∀ (as bs : List D), (zipD as bs).length = min as.length bs.length
  | [], _ => by simp [zipD]
  | _ :: _, [] => by simp [zipD]
  | _ :: as, _ :: bs => by simp [zipD, zipD_len as bs]
theorem zipD_get : ∀ (as bs : List D) (i : Nat) (d : D), (zipD as bs)[i]? = some d → ∃ a b, as[i]? = some a ∧ bs[i]? = some b ∧ d = .tup [a, b]
  | [], _, i, d, h => by simp [zipD] at h
  | _ :: _, [], i, d, h => by simp [zipD] at h
  | a :: as, b :: bs, 0, d, h => by simp [zipD] at h; exact ⟨a, b, rfl, rfl, h.symm⟩
  | a :: as, b :: bs, i + 1, d, h => by
    simp only [zipD, List.getElem?_cons_succ] at h
    simpa using zipD_get as bs i d h
noncomputable def enumD (ds : List D) : List D := zipD (rangeD 0 1 ds.length) ds

theorem iters_zip {s : Shared} {es : List Expr} {k : Nat} {p : Pos} {g : PH} {a b : Addr} {vs ws : List Value} {n m : Nat} {ds es' : List D} (hh : A.handled = none) (hg : HS g s.heap)
    (ea : g a = some (lstO vs n)) (ra : DIs g vs ds) (eb : g b = some (lstO ws m)) (rb : DIs g ws es') {Q : Value → Shared → Prop} {E : Value → Shared → Prop}
    (h : ∀ x h', Kp s.heap h' → ItersN prog w A (.Tuple es k p) x s.heap { s with heap := h' } g (zipD ds es') → Q x { s with heap := h' }) : wpAny (model prog w) A (call (.type "zip") [.ref a, .ref b]) Q E s := by
  refine call_zip_2 (lstO_isList (hg _ _ ea)) (lstO_isList (hg _ _ eb)) fun h' z1 z2 z3 z4 z5 z6 kp => ?_
  have la : a < s.heap.objs.size := Heap.lt_size (hg _ _ ea)
  have lb : b < s.heap.objs.size := Heap.lt_size (hg _ _ eb)
  refine h _ h' kp fun Q' E' h2 => ?_
  refine wpAny_pyIter_zip z1 ?_
  have Dz : ZipApart (s.heap.objs.size + 4) (s.heap.objs.size + 2) (s.heap.objs.size + 3) s.heap.objs.size (s.heap.objs.size + 1) a b := by
    constructor <;> (unfold Addr at *; (first | lia | omega))
  have W := WalksT.zip2 (prog := prog) (w := w) hh _ _ _ _ _ a b Dz vs.toArray ws.toArray
  have hl : min vs.toArray.size ws.toArray.size = (zipD ds es').length := by rw [zipD_len]; simp [ra.length, rb.length]
  rw [hl] at W
  have fresh : ∀ c, s.heap.objs.size ≤ c → s.heap.get? c = none := fun c hc => by
    cases q : s.heap.get? c with
    | none => rfl
    | some o => exact absurd (Heap.lt_size q) (Nat.not_lt.mpr hc)
  have hsrc := Src.of_walksT (es := es) (k := k) (p := p) (g₀ := g) W (fun i vals d hd hP => by
    obtain ⟨x, y, hx, hy, e⟩ := hP
    obtain ⟨p1, p2, q1, q2, q3⟩ := zipD_get _ _ _ _ hd
    obtain ⟨v1, r1, r2⟩ := ra.get q1
    obtain ⟨v2, r3, r4⟩ := rb.get q2
    have t1 : vs[i]? = some x := by simpa using hx
    have t2 : ws[i]? = some y := by simpa using hy
    rw [t1] at r1; rw [t2] at r3
    cases r1; cases r3
    exact ⟨_, _, _, _, e, q3, r2, r4⟩) (fun i h hst c hc => by
    obtain ⟨q1, q2, ⟨_, _, q3⟩, ⟨o4, q4, _⟩, ⟨o5, q5, _⟩, ⟨o6, q6, _⟩, o7, q7, _⟩ := hst
    simp only [List.mem_cons, List.not_mem_nil, or_false] at hc
    rcases hc with rfl | rfl | rfl | rfl | rfl | rfl | rfl
    · rw [q1]; simp
    · rw [q2]; simp
    · rw [q3]; simp
    · rw [q4]; simp
    · rw [q5]; simp
    · rw [q6]; simp
    · rw [q7]; simp)
  refine h2 _ _ _ _ h' (Kp.refl _) hsrc ⟨z1, z2, ⟨_, _, z3⟩, z4, z5, (lstO_isList (hg _ _ ea)).at fun o q => kp _ _ q, (lstO_isList (hg _ _ eb)).at fun o q => kp _ _ q⟩ (fun c hc => ?_) (fun c hc => ?_) (fun c hc => ?_) (fun c hc => ?_)
  · exact fresh c (by simp only [List.mem_cons, List.not_mem_nil, or_false] at hc; unfold Addr at *; (first | lia | omega))
  · exact hg.none (fresh c (by simp only [List.mem_cons, List.not_mem_nil, or_false] at hc; unfold Addr at *; (first | lia | omega)))
  · simp only [List.mem_cons, List.not_mem_nil, or_false] at hc
    by_cases q : s.heap.objs.size ≤ c
    · exact .inl (fresh c q)
    · have : c = a ∨ c = b := by unfold Addr at *; (first | lia | omega)
      rcases this with r | r
      · rw [r, ea]; exact .inr (by simp)
      · rw [r, eb]; exact .inr (by simp)
  · simp only [List.mem_cons, List.not_mem_nil, or_false] at hc
    rcases hc with rfl | rfl | rfl | rfl | rfl | rfl | rfl
    · rw [z1]; simp
    · rw [z2]; simp
    · rw [z3]; simp
    · obtain ⟨o, q, _⟩ := z4; rw [q]; simp
    · obtain ⟨o, q, _⟩ := z5; rw [q]; simp
    · rw [kp _ _ (hg _ _ ea)]; simp
    · rw [kp _ _ (hg _ _ eb)]; simp

theorem iters_enum {s : Shared} {es : List Expr} {k : Nat} {p : Pos} {g : PH} {a : Addr} {vs : List Value} {n : Nat} {ds : List D} (hh : A.handled = none) (hg : HS g s.heap)
    (ea : g a = some (lstO vs n)) (ra : DIs g vs ds) {Q : Value → Shared → Prop} {E : Value → Shared → Prop}
    (h : ∀ x h', Kp s.heap h' → ItersN prog w A (.Tuple es k p) x s.heap { s with heap := h' } g (enumD ds) → Q x { s with heap := h' }) : wpAny (model prog w) A (call (.type "enumerate") [.ref a]) Q E s := by
  refine call_enumerate_list (lstO_isList (hg _ _ ea)) fun h' z1 z2 z3 kp => ?_
  have la : a < s.heap.objs.size := Heap.lt_size (hg _ _ ea)
  refine h _ h' kp fun Q' E' h2 => ?_
  refine wpAny_pyIter_enum z1 ?_
  have W := WalksT.enumerate (prog := prog) (w := w) hh (s.heap.objs.size + 1) s.heap.objs.size a (by unfold Addr at *; (first | lia | omega)) (by unfold Addr at *; (first | lia | omega)) (by unfold Addr at *; (first | lia | omega)) vs.toArray
  have hl : vs.toArray.size = (enumD ds).length := by unfold enumD; rw [zipD_len]; simp [ra.length, rangeD]
  rw [hl] at W
  have fresh : ∀ c, s.heap.objs.size ≤ c → s.heap.get? c = none := fun c hc => by
    cases q : s.heap.get? c with
    | none => rfl
    | some o => exact absurd (Heap.lt_size q) (Nat.not_lt.mpr hc)
  have hsrc := Src.of_walksT (es := es) (k := k) (p := p) (g₀ := g) W (fun i vals d hd hP => by
    obtain ⟨t, x, hx, e⟩ := hP
    obtain ⟨p1, p2, q1, q2, q3⟩ := zipD_get _ _ _ _ hd
    obtain ⟨v2, r3, r4⟩ := ra.get q2
    have t2 : vs[i]? = some x := by simpa using hx
    rw [t2] at r3
    cases r3
    simp only [rangeD, List.getElem?_map, Option.map_eq_some_iff] at q1
    obtain ⟨j, hj, rfl⟩ := q1
    have hji : j = i := by
      rcases Nat.lt_or_ge i ds.length with q | q
      · simp [q] at hj; (first | lia | omega)
      · rw [List.getElem?_eq_none (by simp; exact q)] at hj; cases hj
    subst hji
    refine ⟨_, _, _, _, e, q3, ?_, r4⟩
    rw [show (0 : Int) + (j : Int) * 1 = (j : Int) by first | lia | omega]
    exact .int _ _) (fun i h hst c hc => by
    obtain ⟨⟨_, q1⟩, ⟨o2, q2, _⟩, o3, q3, _⟩ := hst
    simp only [List.mem_cons, List.not_mem_nil, or_false] at hc
    rcases hc with rfl | rfl | rfl
    · rw [q1]; simp
    · rw [q2]; simp
    · rw [q3]; simp)
  refine h2 _ _ _ _ h' (Kp.refl _) hsrc ⟨⟨_, z1⟩, z2, (lstO_isList (hg _ _ ea)).at fun o q => kp _ _ q⟩ (fun c hc => ?_) (fun c hc => ?_) (fun c hc => ?_) (fun c hc => ?_)
  · exact fresh c (by simp only [List.mem_cons, List.not_mem_nil, or_false] at hc; unfold Addr at *; (first | lia | omega))
  · exact hg.none (fresh c (by simp only [List.mem_cons, List.not_mem_nil, or_false] at hc; unfold Addr at *; (first | lia | omega)))
  · simp only [List.mem_cons, List.not_mem_nil, or_false] at hc
    by_cases q : s.heap.objs.size ≤ c
    · exact .inl (fresh c q)
    · have : c = a := by unfold Addr at *; (first | lia | omega)
      rw [this, ea]; exact .inr (by simp)
  · simp only [List.mem_cons, List.not_mem_nil, or_false] at hc
    rcases hc with rfl | rfl | rfl
    · rw [z1]; simp
    · obtain ⟨o, q, _⟩ := z2; rw [q]; simp
    · rw [kp _ _ (hg _ _ ea)]; simp

end
end Mine
end

section
open PySem PySem.W PyProof.Rows PySem.Calls PySem.SeqAt
set_option linter.all false
set_option maxRecDepth 100000
namespace Mine

inductive Slot where
  | st (d : D)
  | own (ds : List D)
noncomputable abbrev Rho := Str → Option Slot
noncomputable def upd (ρ : Rho) (x : Str) (s : Slot) : Rho := fun y => if y = x then some s else ρ y

noncomputable def SI (g : PH) (h : Heap) (a : Addr) (v : Value) : Slot → Prop
  | .st d => DI g v d
  | .own ds => v = .ref a ∧ ∃ vs n, h.get? a = some (lstO vs n) ∧ DIs g vs ds

structure St (env : Env) (ow : Str → Addr) (g : PH) (ρ : Rho) (h : Heap) : Prop where
  hk : env.scope.kind = .function
  gh : HS g h
  loc : ∃ m, h.Ns env.locals m ∧ ∀ x sl, ρ x = some sl → env.kindOf x = some .local → ∃ v, m x = some v ∧ SI g h (ow x) v sl
  cel : ∀ x sl, ρ x = some sl → env.kindOf x ≠ some .local → env.kindOf x = some .cell ∧ ∃ c v, env.cells.lookup x = some c ∧ h.IsCell c (some v) ∧ SI g h (ow x) v sl
  isc : ∀ x c, env.cells.lookup x = some c → ∃ v, h.IsCell c v
  apart : ∀ x y c, env.cells.lookup x = some c → env.cells.lookup y = some c → x = y
  wL : g env.locals = none
  wC : ∀ x c, env.cells.lookup x = some c → g c = none ∧ c ≠ env.locals
  wO : ∀ x ds, ρ x = some (.own ds) → g (ow x) = none ∧ ow x ≠ env.locals ∧ ∀ y c, env.cells.lookup y = some c → c ≠ ow x
  inj : ∀ x y ds es, ρ x = some (.own ds) → ρ y = some (.own es) → ow x = ow y → x = y

/-- what the frame may change -/
noncomputable def Wp (env : Env) (ow : Str → Addr) (ρ : Rho) (a : Addr) : Prop := a = env.locals ∨ (∃ x, env.cells.lookup x = some a) ∨ (∃ x ds, ρ x = some (.own ds) ∧ ow x = a)

theorem SI.kp {g g' : PH} {h h' : Heap} {a : Addr} {v : Value} {sl : Slot} (x : SI g h a v sl) (k : Sub g g') (q : ∀ o, h.get? a = some o → h'.get? a = some o) : SI g' h' a v sl := by
  cases sl with
  | st d => exact DI.mono k x
  | own ds => obtain ⟨e, vs, n, e1, e2⟩ := x; exact ⟨e, vs, n, q _ e1, e2.mono k⟩

section
variable {env : Env} {ow : Str → Addr} {g g' : PH} {ρ : Rho} {h h' : Heap}

theorem St.ns_some (S : St env ow g ρ h) : ∃ o, h.get? env.locals = some o := by
  obtain ⟨m, ⟨o, _, _, ho, _⟩, _⟩ := S.loc
  exact ⟨o, ho⟩
theorem St.slot (S : St env ow g ρ h) {x : Str} {sl : Slot} (e : ρ x = some sl) : ∃ v, SI g h (ow x) v sl := by
  by_cases k : env.kindOf x = some .local
  · obtain ⟨m, _, hm⟩ := S.loc
    obtain ⟨v, _, q⟩ := hm x sl e k
    exact ⟨v, q⟩
  · obtain ⟨_, c, v, _, _, q⟩ := S.cel x sl e k
    exact ⟨v, q⟩
theorem St.own_some (S : St env ow g ρ h) {x : Str} {ds : List D} (e : ρ x = some (.own ds)) : ∃ vs n, h.get? (ow x) = some (lstO vs n) ∧ DIs g vs ds := by
  obtain ⟨v, _, q⟩ := S.slot e
  exact q
theorem St.w_some (S : St env ow g ρ h) {a : Addr} (w : Wp env ow ρ a) : h.get? a ≠ none := by
  rcases w with rfl | ⟨x, e⟩ | ⟨x, ds, e, rfl⟩
  · obtain ⟨o, ho⟩ := S.ns_some; rw [ho]; simp
  · obtain ⟨v, o, ho, _⟩ := S.isc x a e; rw [ho]; simp
  · obtain ⟨vs, n, q, _⟩ := S.own_some e; rw [q]; simp
theorem St.w_none (S : St env ow g ρ h) {a : Addr} (w : Wp env ow ρ a) : g a = none := by
  rcases w with rfl | ⟨x, e⟩ | ⟨x, ds, e, rfl⟩
  · exact S.wL
  · exact (S.wC x a e).1
  · exact (S.wO x ds e).1

theorem St.ext (S : St env ow g ρ h) (X : Ext h h' g g') : St env ow g' ρ h' where
  hk := S.hk
  gh := X.gh
  loc := by
    obtain ⟨m, hn, hm⟩ := S.loc
    refine ⟨m, hn.keeps X.kp, fun x sl e k => ?_⟩
    obtain ⟨v, e1, e2⟩ := hm x sl e k
    exact ⟨v, e1, e2.kp X.gg (fun o => X.kp _ o)⟩
  cel := fun x sl e k => by
    obtain ⟨k2, c, v, e1, e2, e3⟩ := S.cel x sl e k
    exact ⟨k2, c, v, e1, e2.keeps X.kp, e3.kp X.gg (fun o => X.kp _ o)⟩
  isc := fun x c e => let ⟨v, q⟩ := S.isc x c e; ⟨v, q.keeps X.kp⟩
  apart := S.apart
  wL := by
    cases q : g' env.locals with
    | none => rfl
    | some o => exact absurd (X.nw _ S.wL (by rw [q]; simp)) (S.w_some (.inl rfl))
  wC := fun x c e => ⟨by
    cases q : g' c with
    | none => rfl
    | some o => exact absurd (X.nw _ (S.wC x c e).1 (by rw [q]; simp)) (S.w_some (.inr (.inl ⟨x, e⟩))), (S.wC x c e).2⟩
  wO := fun x ds e => ⟨by
    cases q : g' (ow x) with
    | none => rfl
    | some o => exact absurd (X.nw _ (S.wO x ds e).1 (by rw [q]; simp)) (S.w_some (.inr (.inr ⟨x, ds, e, rfl⟩))), (S.wO x ds e).2⟩
  inj := S.inj

/-- an iterator's step, or anything that leaves the frame's own objects -/
theorem St.step (S : St env ow g ρ h) (gg : Sub g g') (gh : HS g' h') (kw : ∀ a, Wp env ow ρ a → ∀ o, h.get? a = some o → h'.get? a = some o) (nw : ∀ a, g a = none → g' a ≠ none → h.get? a = none) : St env ow g' ρ h' where
  hk := S.hk
  gh := gh
  loc := by
    obtain ⟨m, hn, hm⟩ := S.loc
    refine ⟨m, hn.at' (kw _ (.inl rfl)), fun x sl e k => ?_⟩
    obtain ⟨v, e1, e2⟩ := hm x sl e k
    refine ⟨v, e1, ?_⟩
    cases sl with
    | st d => exact DI.mono gg e2
    | own ds => exact e2.kp gg (kw _ (.inr (.inr ⟨x, ds, e, rfl⟩)))
  cel := fun x sl e k => by
    obtain ⟨k2, c, v, e1, e2, e3⟩ := S.cel x sl e k
    refine ⟨k2, c, v, e1, ?_, ?_⟩
    · obtain ⟨o, ho, hd⟩ := e2
      exact ⟨o, kw c (.inr (.inl ⟨x, e1⟩)) o ho, hd⟩
    · cases sl with
      | st d => exact DI.mono gg e3
      | own ds => exact e3.kp gg (kw _ (.inr (.inr ⟨x, ds, e, rfl⟩)))
  isc := fun x c e => by
    obtain ⟨v, o, ho, hd⟩ := S.isc x c e
    exact ⟨v, o, kw c (.inr (.inl ⟨x, e⟩)) o ho, hd⟩
  apart := S.apart
  wL := by
    cases q : g' env.locals with
    | none => rfl
    | some o => exact absurd (nw _ S.wL (by rw [q]; simp)) (S.w_some (.inl rfl))
  wC := fun x c e => ⟨by
    cases q : g' c with
    | none => rfl
    | some o => exact absurd (nw _ (S.wC x c e).1 (by rw [q]; simp)) (S.w_some (.inr (.inl ⟨x, e⟩))), (S.wC x c e).2⟩
  wO := fun x ds e => ⟨by
    cases q : g' (ow x) with
    | none => rfl
    | some o => exact absurd (nw _ (S.wO x ds e).1 (by rw [q]; simp)) (S.w_some (.inr (.inr ⟨x, ds, e, rfl⟩))), (S.wO x ds e).2⟩
  inj := S.inj

/-- a name is read -/
theorem St.load {M : Model} {A : Around} {E : Value → Shared → Prop} {s : Shared} {x : Str} {sl : Slot} {Q : Value → Shared → Prop} (S : St env ow g ρ s.heap) (e : ρ x = some sl)
    (h : ∀ v, SI g s.heap (ow x) v sl → Q v s) : wpAny M A (loadName env x) Q E s := by
  by_cases k : env.kindOf x = some .local
  · obtain ⟨m, hn, hm⟩ := S.loc
    obtain ⟨v, e1, e2⟩ := hm x sl e k
    exact wpAny_loadName_local S.hk k hn e1 (h v e2)
  · obtain ⟨k2, c, v, e1, e2, e3⟩ := S.cel x sl e k
    exact wpAny_loadName_cell S.hk k2 e1 e2 (h v e3)
end

/-- names of a target and what they get -/
noncomputable def tgD (tg : Expr) (d : D) : Option (List (Str × D)) := match tg with
  | .Name x _ => some [(x, d)]
  | .Tuple es _ _ => (nm2 es).bind fun xy => (tup2 d).map fun ab => [(xy.1, ab.1), (xy.2, ab.2)]
  | _ => none
theorem tgD_inv {tg : Expr} {d : D} {bs : List (Str × D)} (h : tgD tg d = some bs) : (∃ x p, tg = .Name x p ∧ bs = [(x, d)]) ∨ (∃ x p y q k r a b, tg = .Tuple [.Name x p, .Name y q] k r ∧ d = .tup [a, b] ∧ bs = [(x, a), (y, b)]) := by
  cases tg with
  | Name x p => exact .inl ⟨x, p, rfl, (Option.some.inj h).symm⟩
  | Tuple es k r =>
    obtain ⟨⟨x, y⟩, h1, h2⟩ := bnd h
    obtain ⟨⟨a, b⟩, h3, rfl⟩ := mpd h2
    obtain ⟨p, q, rfl⟩ := nm2_some h1
    exact .inr ⟨x, p, y, q, k, r, a, b, rfl, tup2_some h3, rfl⟩
  | _ => exact (nsm h).elim
noncomputable def tgN : Expr → List Str
  | .Name x _ => [x]
  | .Tuple es _ _ => ((nm2 es).map fun xy => [xy.1, xy.2]).getD []
  | _ => []
theorem tgN_one {x : Str} {p : Pos} : tgN (.Name x p) = [x] := rfl
theorem tgN_two {x y : Str} {p q r : Pos} {k : Nat} : tgN (.Tuple [.Name x p, .Name y q] k r) = [x, y] := rfl
noncomputable def updAll (ρ : Rho) : List (Str × D) → Rho
  | [] => ρ
  | (x, d) :: r => updAll (upd ρ x (.st d)) r

section
variable {env : Env} {ow : Str → Addr} {g g' : PH} {ρ : Rho} {h h' : Heap}

/-- the places that storing x may change -/
noncomputable def place (env : Env) (x : Str) (b : Addr) : Prop := b = env.locals ∨ (env.kindOf x ≠ some .local ∧ env.cells.lookup x = some b)

/-- storing: a slot whose datum is already related -/
theorem St.storeG {M : Model} {A : Around} {E : Value → Shared → Prop} {s : Shared} {x : Str} {sl : Slot} {v : Value} {a : Addr} {Q : Unit → Shared → Prop} (S : St env ow g ρ s.heap)
    (hkx : env.kindOf x = some .local ∨ (env.kindOf x = some .cell ∧ (env.cells.lookup x).isSome = true))
    (hsi : SI g s.heap a v sl) (hown : ∀ ds, sl = .own ds → g a = none ∧ a ≠ env.locals ∧ (∀ y c, env.cells.lookup y = some c → c ≠ a) ∧ ∀ y es, y ≠ x → ρ y = some (.own es) → ow y ≠ a)
    (h : ∀ h' tk, St env (fun y => if y = x then a else ow y) g (upd ρ x sl) h' → (∀ b o, ¬ place env x b → s.heap.get? b = some o → h'.get? b = some o) → Q () { s with heap := h', toks := tk }) : wpAny M A (storeName env x v) Q E s := by
  have hfun : (env.scope.kind == .class || (env.scope.kind == .module && env.locals != env.globals)) = false := by rw [S.hk]; rfl
  rcases hkx with k | ⟨k, hc⟩
  · obtain ⟨m, hn, hm⟩ := S.loc
    refine wpAny_storeName_local k hn (fun h' hn' hs' => h h' _ ?_ fun b o hb e => (hs'.2 b (fun q => hb (.inl q))).trans e) hfun
    have kp : ∀ b o, b ≠ env.locals → s.heap.get? b = some o → h'.get? b = some o := fun b o hb e => (hs'.2 b hb).trans e
    have gh' : HS g h' := fun b o e => kp b o (fun q => by rw [q, S.wL] at e; cases e) (S.gh b o e)
    have oldSI : ∀ y sl', y ≠ x → ρ y = some sl' → ∀ v', SI g s.heap (ow y) v' sl' → SI g h' (if y = x then a else ow y) v' sl' := fun y sl' hy e v' q => by
      rw [if_neg hy]
      cases sl' with
      | st d => exact q
      | own ds => exact q.kp (Sub.refl _) fun o z => kp _ o (S.wO y ds e).2.1 z
    refine ⟨S.hk, gh', ⟨_, hn', fun y sl' e ky => ?_⟩, fun y sl' e ky => ?_, fun y c e => ?_, S.apart, S.wL, S.wC, fun y ds e => ?_, fun y z ds es ey ez q => ?_⟩
    · unfold upd at e
      by_cases z : y = x
      · subst z
        rw [if_pos rfl] at e
        cases e
        refine ⟨v, by simp, ?_⟩
        rw [if_pos rfl]
        cases sl with
        | st d => exact hsi
        | own ds => exact hsi.kp (Sub.refl _) fun o z => kp _ o (hown ds rfl).2.1 z
      · rw [if_neg z] at e
        obtain ⟨v', e1, e2⟩ := hm y sl' e ky
        exact ⟨v', by simp [z, e1], oldSI y sl' z e v' e2⟩
    · unfold upd at e
      by_cases z : y = x
      · subst z; exact absurd k ky
      · rw [if_neg z] at e
        obtain ⟨k2, c, v', e1, e2, e3⟩ := S.cel y sl' e ky
        exact ⟨k2, c, v', e1, e2.sameBut hs' (S.wC y c e1).2, oldSI y sl' z e v' e3⟩
    · obtain ⟨v', q⟩ := S.isc y c e
      exact ⟨v', q.sameBut hs' (S.wC y c e).2⟩
    · unfold upd at e
      by_cases z : y = x
      · subst z
        rw [if_pos rfl] at e
        cases e
        obtain ⟨q1, q2, q3, _⟩ := hown ds rfl
        simp only [if_pos rfl]
        exact ⟨q1, q2, q3⟩
      · rw [if_neg z] at e
        simp only [if_neg z]
        exact S.wO y ds e
    · unfold upd at ey ez
      by_cases z1 : y = x
      · by_cases z2 : z = x
        · rw [z1, z2]
        · rw [if_pos z1] at ey
          rw [if_neg z2] at ez
          simp only [if_pos z1, if_neg z2] at q
          cases ey
          exact absurd q.symm ((hown ds rfl).2.2.2 z es z2 ez)
      · by_cases z2 : z = x
        · rw [if_neg z1] at ey
          rw [if_pos z2] at ez
          simp only [if_neg z1, if_pos z2] at q
          cases ez
          exact absurd q ((hown es rfl).2.2.2 y ds z1 ey)
        · rw [if_neg z1] at ey
          rw [if_neg z2] at ez
          simp only [if_neg z1, if_neg z2] at q
          exact S.inj y z ds es ey ez q
  · obtain ⟨c, hc⟩ := Option.isSome_iff_exists.mp hc
    obtain ⟨v0, hv0⟩ := S.isc x c hc
    refine wpAny_storeName_cell S.hk k hc hv0 (fun h' hv' hs' => ?_)
    have hkl : env.kindOf x ≠ some .local := by rw [k]; decide
    refine h h' s.toks ?_ fun b o hb e => (hs'.2 b (fun q => hb (.inr ⟨hkl, by rw [q]; exact hc⟩))).trans e
    have kp : ∀ b o, b ≠ c → s.heap.get? b = some o → h'.get? b = some o := fun b o hb e => (hs'.2 b hb).trans e
    have gh' : HS g h' := fun b o e => kp b o (fun q => by rw [q, (S.wC x c hc).1] at e; cases e) (S.gh b o e)
    have oldSI : ∀ y sl', y ≠ x → ρ y = some sl' → ∀ v', SI g s.heap (ow y) v' sl' → SI g h' (if y = x then a else ow y) v' sl' := fun y sl' hy e v' q => by
      rw [if_neg hy]
      cases sl' with
      | st d => exact q
      | own ds => exact q.kp (Sub.refl _) fun o z => kp _ o (fun w => (S.wO y ds e).2.2 x c hc w.symm) z
    refine ⟨S.hk, gh', ?_, fun y sl' e ky => ?_, fun y c' e => ?_, S.apart, S.wL, S.wC, fun y ds e => ?_, fun y z ds es ey ez q => ?_⟩
    · obtain ⟨m, hn, hm⟩ := S.loc
      refine ⟨m, hn.sameBut hs' (S.wC x c hc).2.symm, fun y sl' e ky => ?_⟩
      unfold upd at e
      by_cases z : y = x
      · subst z; exact absurd ky hkl
      · rw [if_neg z] at e
        obtain ⟨v', e1, e2⟩ := hm y sl' e ky
        exact ⟨v', e1, oldSI y sl' z e v' e2⟩
    · unfold upd at e
      by_cases z : y = x
      · subst z
        rw [if_pos rfl] at e
        cases e
        refine ⟨k, c, v, hc, hv', ?_⟩
        rw [if_pos rfl]
        cases sl with
        | st d => exact hsi
        | own ds => exact hsi.kp (Sub.refl _) fun o z => kp _ o (fun w => (hown ds rfl).2.2.1 y c hc w.symm) z
      · rw [if_neg z] at e
        obtain ⟨k2, c', v', e1, e2, e3⟩ := S.cel y sl' e ky
        exact ⟨k2, c', v', e1, e2.sameBut hs' (fun w => z (S.apart y x c (w ▸ e1) hc)), oldSI y sl' z e v' e3⟩
    · by_cases z : y = x
      · subst z; rw [hc] at e; cases e; exact ⟨_, hv'⟩
      · obtain ⟨v', q⟩ := S.isc y c' e
        exact ⟨v', q.sameBut hs' (fun w => z (S.apart y x c (w ▸ e) hc))⟩
    · unfold upd at e
      by_cases z : y = x
      · subst z
        rw [if_pos rfl] at e
        cases e
        obtain ⟨q1, q2, q3, _⟩ := hown ds rfl
        simp only [if_pos rfl]
        exact ⟨q1, q2, q3⟩
      · rw [if_neg z] at e
        simp only [if_neg z]
        exact S.wO y ds e
    · unfold upd at ey ez
      by_cases z1 : y = x
      · by_cases z2 : z = x
        · rw [z1, z2]
        · rw [if_pos z1] at ey
          rw [if_neg z2] at ez
          simp only [if_pos z1, if_neg z2] at q
          cases ey
          exact absurd q.symm ((hown ds rfl).2.2.2 z es z2 ez)
      · by_cases z2 : z = x
        · rw [if_neg z1] at ey
          rw [if_pos z2] at ez
          simp only [if_neg z1, if_pos z2] at q
          cases ez
          exact absurd q ((hown es rfl).2.2.2 y ds z1 ey)
        · rw [if_neg z1] at ey
          rw [if_neg z2] at ez
          simp only [if_neg z1, if_neg z2] at q
          exact S.inj y z ds es ey ez q
end
end Mine
end

section
open PySem PySem.W PyProof.Rows PySem.Calls PySem.SeqAt
set_option linter.all false
set_option maxRecDepth 100000
namespace Mine

noncomputable def kindOk (env : Env) (x : Str) : Prop := env.kindOf x = some .local ∨ (env.kindOf x = some .cell ∧ (env.cells.lookup x).isSome = true)

theorem ow_same (ow : Str → Addr) (x : Str) : (fun y => if y = x then ow x else ow y) = ow := by
  funext y
  by_cases h : y = x
  · rw [if_pos h, h]
  · rw [if_neg h]

section
variable {env : Env} {ow : Str → Addr} {g : PH} {ρ : Rho}

theorem St.store {M : Model} {A : Around} {E : Value → Shared → Prop} {s : Shared} {x : Str} {d : D} {v : Value} {Q : Unit → Shared → Prop} (S : St env ow g ρ s.heap) (hkx : kindOk env x) (hd : DI g v d)
    (h : ∀ h' tk, St env ow g (upd ρ x (.st d)) h' → (∀ b o, ¬ place env x b → s.heap.get? b = some o → h'.get? b = some o) → Q () { s with heap := h', toks := tk }) : wpAny M A (storeName env x v) Q E s := by
  refine S.storeG (sl := .st d) (a := ow x) hkx hd (fun ds e => nomatch e) fun h' tk S' k => ?_
  rw [ow_same] at S'
  exact h h' tk S' k

theorem assign_sound {prog : Program} {w : World} {A : Around} {E : Value → Shared → Prop} {s : Shared} {tg : Expr} {d : D} {bs : List (Str × D)} {v : Value} {Q : Unit → Shared → Prop} (hh : A.handled = none)
    (S : St env ow g ρ s.heap) (e : tgD tg d = some bs) (hk : ∀ x ∈ tgN tg, kindOk env x) (hd : DI g v d)
    (h : ∀ h' tk, St env ow g (updAll ρ bs) h' → (∀ b o, (∀ x ∈ tgN tg, ¬ place env x b) → s.heap.get? b = some o → h'.get? b = some o) → Q () { s with heap := h', toks := tk }) : wpAny (model prog w) A (assign tg env v) Q E s := by
  rcases tgD_inv e with ⟨x, p, rfl, rfl⟩ | ⟨x, px, y, py, k, p, a, b, rfl, rfl, rfl⟩
  · refine wpAny_assign_Name (S.store (hk x (by simp [tgN_one, tgN_two])) hd fun h' tk S' k => h h' tk S' fun b o hb q => k b o (hb x (by simp [tgN_one, tgN_two])) q)
  · obtain ⟨t, vs, o, rfl, et, ot, rt⟩ := hd.tup_inv
    obtain ⟨va, vb, rfl, ha, hb⟩ := rt.two_inv
    have hT : s.heap.IsTuple t #[va, vb] := ⟨o, S.gh _ _ et, ot.1, ot.2⟩
    refine wpAny_assign_Tuple hh hT rfl rfl fun h₁ hx => ?_
    have k1 : Kp s.heap h₁ := fun b o e => hx b o (Nat.ne_of_lt (Heap.lt_size e)) e
    have S1 : St env ow g ρ h₁ := S.ext (Ext.of_kp S.gh k1)
    show wpAny _ A (assignInOrder [assign (.Name x px) env, assign (.Name y py) env] [va, vb]) Q E _
    unfold assignInOrder
    refine wpAny_bind (wpAny_holding (wpAny_assign_Name (St.store (s := { s with heap := h₁ }) S1 (hk x (by simp [tgN_one, tgN_two])) ha fun h₂ tk₂ S2 k2 => ?_)))
    unfold assignInOrder
    refine wpAny_bind (wpAny_holding (wpAny_assign_Name (St.store (s := { s with heap := h₂, toks := tk₂ }) S2 (hk y (by simp [tgN_one, tgN_two])) hb fun h₃ tk₃ S3 k3 => ?_)))
    unfold assignInOrder
    refine wpAny_pure (h h₃ tk₃ S3 fun b o hb q => ?_)
    exact k3 b o (hb y (by simp [tgN_one, tgN_two])) (k2 b o (hb x (by simp [tgN_one, tgN_two])) (k1 b o q))
end
end Mine
end

section
open PySem PySem.W PyProof.Rows PySem.Calls PySem.SeqAt
set_option linter.all false
set_option maxRecDepth 100000
namespace Mine

structure Sig where
  fn : Str → Option (List D → Option D) := fun _ => none
  len : Bool := false
  rng : Bool := false
  zip : Bool := false
  enu : Bool := false
  rev : Bool := false
  cells : List Str := []
  loc : List Str := []
noncomputable def noSig : Sig := {}

noncomputable def idxD : D → D → Option D
  | .lst ds, .int k => if 0 ≤ k ∧ ds.length ≤ big then ds[k.toNat]? else none
  | .tup ds, .int k => if 0 ≤ k ∧ ds.length ≤ big then ds[k.toNat]? else none
  | _, _ => none
noncomputable def fromD : D → D → Option D
  | .lst ds, .int k => if 0 ≤ k ∧ ds.length ≤ big then some (.lst (ds.drop k.toNat)) else none
  | _, _ => none
noncomputable def uptoD : D → D → Option D
  | .lst ds, .int k => if 0 ≤ k ∧ ds.length ≤ big then some (.lst (ds.take k.toNat)) else none
  | _, _ => none
noncomputable def cntD (k : Bool) : D → Option D
  | .lst ds => (boolsOf ds).map fun bs => .int (bs.countP (· == k) : Nat)
  | _ => none
noncomputable def shD : Slot → D
  | .st d => d
  | .own ds => .lst ds

noncomputable def compGo (f : D → Option (Option D)) : List D → Option (List D)
  | [] => some []
  | d :: r => (f d).bind fun o => (compGo f r).map fun t => o.toList ++ t

noncomputable def compOk (Γ : Sig) (sc : Scope) (tg : Expr) : Bool :=
  sc.kind == .function && sc.names.all (fun x => x.2 != .cell) && sc.names.all (fun x => x.2 != .local || sc.names.lookup x.1 == some .local) && (tgN tg).all (fun x => sc.names.lookup x == some .local) &&
  sc.names.all (fun x => x.2 != .free || (Γ.cells.contains x.1 && sc.names.lookup x.1 == some .free))
noncomputable def compRho (sc : Scope) (ρ : Rho) : Rho := fun x => if sc.names.lookup x = some .free then ρ x else none

noncomputable def rangeOf : List D → Option (List D)
  | [.int b] => if b.natAbs < 2 ^ 40 then some (rangeD 0 1 b.toNat) else none
  | [.int a, .int b, .int c] => if a = 0 ∧ c = 2 ∧ b.natAbs < 2 ^ 40 then some (rangeD 0 2 ((b + 1) / 2).toNat) else none
  | _ => none
noncomputable def isTup : Expr → Bool
  | .Tuple .. => true
  | _ => false
noncomputable def isName : Expr → Bool
  | .Name .. => true
  | _ => false

noncomputable def cstD : Const → Option D
  | .int i => some (.int i)
  | .bool b => some (.bool b)
  | _ => none
noncomputable def cBool : Expr → Option Bool
  | .Constant c _ _ => (match c with | .bool b => some b | _ => none)
  | _ => none
theorem cBool_some {e : Expr} {b : Bool} (h : cBool e = some b) : ∃ k p, e = .Constant (.bool b) k p := by
  cases e with
  | Constant c k p => cases c with
    | bool b' => obtain rfl : b' = b := Option.some.inj h; exact ⟨_, _, rfl⟩
    | _ => exact (nsm h).elim
  | _ => exact (nsm h).elim
noncomputable def isSub : Expr → Bool
  | .Subscript .. => true
  | _ => false
theorem isSub_some {e : Expr} (h : isSub e = true) : ∃ a b c, e = .Subscript a b c := by
  cases e with
  | Subscript a b c => exact ⟨_, _, _, rfl⟩
  | _ => exact (ftm h).elim
/-- the kind of a place in brackets -/
inductive SK where
  | idx
  | from (e : Expr)
  | upto (e : Expr)
theorem nskI {e : Expr} (h : SK.idx = .from e) : False := nomatch h
theorem nskU {e : Expr} (h : SK.idx = .upto e) : False := nomatch h
noncomputable def sk : Expr → SK
  | .Slice a b c _ => (match a, b, c with
    | some lo, none, none => .from lo
    | none, some up, none => .upto up
    | _, _, _ => .idx)
  | _ => .idx
theorem sk_from {e x : Expr} (h : sk e = .from x) : ∃ p, e = .Slice (some x) none none p := by
  cases e with
  | Slice a b c p => cases a <;> cases b <;> cases c <;> cases h; exact ⟨_, rfl⟩
  | _ => exact (nskI h).elim
theorem sk_upto {e x : Expr} (h : sk e = .upto x) : ∃ p, e = .Slice none (some x) none p := by
  cases e with
  | Slice a b c p => cases a <;> cases b <;> cases c <;> cases h; exact ⟨_, rfl⟩
  | _ => exact (nskU h).elim
mutual
noncomputable def evE : Nat → Sig → Rho → Expr → Option D
  | 0, _, _, _ => none
  | n + 1, Γ, ρ, e => match e with
    | .Name x _ => if x == ("__debug__" : Str) then none else match ρ x with
      | some (.st d) => some d
      | _ => none
    | .Constant c _ _ => cstD c
    | .BinOp l op r _ => (evE n Γ ρ l).bind fun a => (evE n Γ ρ r).bind fun b => binD op a b
    | .Compare l ops rs _ => obind (one ops) fun op => obind (one rs) fun r => if behindInMarks op r then none else (evE n Γ ρ l).bind fun a => (evE n Γ ρ r).bind fun b => (cmpD op a b).map D.bool
    | .IfExp t a b _ => (evT n Γ ρ t).bind fun c => if c then evE n Γ ρ a else evE n Γ ρ b
    | .Subscript v i _ => (match sk i with
      | .from lo => (evE n Γ ρ v).bind fun d => (evE n Γ ρ lo).bind fun k => fromD d k
      | .upto up => (evE n Γ ρ v).bind fun d => (evE n Γ ρ up).bind fun k => uptoD d k
      | .idx => (evB n Γ ρ v).bind fun d => (evE n Γ ρ i).bind fun k => idxD d k)
    | .List es _ => (evEs n Γ ρ es).bind fun ds => if ds.length ≤ big then some (.lst ds) else none
    | .Tuple es _ _ => (evEs n Γ ρ es).bind fun ds => if ds.length ≤ big then some (.tup ds) else none
    | .ListComp elt gens sc _ => obind (one gens) fun c => if c.is_async = 0 ∧ compOk Γ sc c.target = true then
        (evIt n Γ ρ c.target c.iter).bind fun ds => if ds.length ≤ big then (compGo (fun d => (tgD c.target d).bind fun bs => (evTs n noSig (updAll (compRho sc ρ) bs) .And c.ifs).bind fun c => if c then (evE n noSig (updAll (compRho sc ρ) bs) elt).map some else some none) ds).map D.lst else none
      else none
    | .Call f args ks pos => if ks.isEmpty then (match f with
        | .Name f _ => if f == ("len" : Str) then (if Γ.len then obind (one args) fun a => (evB n Γ ρ a).bind fun d => φlen [d] else none)
          else (Γ.fn f).bind fun φ => if args.isEmpty then none else (evEs n Γ ρ args).bind φ
        | .Attribute b name apos => obind ((one args).bind cBool) fun k => if isSub b && name == ("count" : Str) && apos.endLine == pos.line then (evE n Γ ρ b).bind fun d => cntD k d else none
        | _ => none) else none
    | _ => none
noncomputable def evB : Nat → Sig → Rho → Expr → Option D
  | 0, _, _, _ => none
  | n + 1, Γ, ρ, e => match e with
    | .Name x _ => if x == ("__debug__" : Str) then none else (ρ x).map shD
    | e => evE n Γ ρ e
noncomputable def evT : Nat → Sig → Rho → Expr → Option Bool
  | 0, _, _, _ => none
  | n + 1, Γ, ρ, e => match e with
    | .UnaryOp op x _ => (match op with
      | .Not => (evT n Γ ρ x).map (!·)
      | _ => none)
    | .BoolOp op vs _ => evTs n Γ ρ op vs
    | .Compare l ops rs _ => obind (one ops) fun op => obind (one rs) fun r => if behindInMarks op r then none else (evE n Γ ρ l).bind fun a => (evE n Γ ρ r).bind fun b => cmpD op a b
    | .Name x p => (evE n Γ ρ (.Name x p)).bind truD
    | .Call f as ks p => (evE n Γ ρ (.Call f as ks p)).bind truD
    | _ => none
noncomputable def evTs : Nat → Sig → Rho → BoolOp → List Expr → Option Bool
  | 0, _, _, _, _ => none
  | _ + 1, _, _, op, [] => some (op == .And)
  | n + 1, Γ, ρ, op, x :: r => (evT n Γ ρ x).bind fun b => match op, b with
    | .And, false => some false
    | .And, true => evTs n Γ ρ .And r
    | .Or, true => some true
    | .Or, false => evTs n Γ ρ .Or r
noncomputable def evEs : Nat → Sig → Rho → List Expr → Option (List D)
  | 0, _, _, _ => none
  | _ + 1, _, _, [] => some []
  | n + 1, Γ, ρ, e :: r => (evE n Γ ρ e).bind fun d => (evEs n Γ ρ r).map (d :: ·)
noncomputable def evIt : Nat → Sig → Rho → Expr → Expr → Option (List D)
  | 0, _, _, _, _ => none
  | n + 1, Γ, ρ, tg, e => match e with
    | .Call f args ks p2 => if ks.isEmpty then (match f with
      | .Name f _ =>
        if Γ.rng && f == ("range" : Str) then (evEs n Γ ρ args).bind rangeOf
        else if Γ.zip && f == ("zip" : Str) then (if isTup tg then ((evEs n Γ ρ args).bind two2).map fun x => zipD x.1 x.2 else none)
        else if Γ.enu && f == ("enumerate" : Str) then (if isTup tg then ((evEs n Γ ρ args).bind one1).bind fun a => if a.length < 2 ^ 40 then some (enumD a) else none else none)
        else if Γ.rev && f == ("reversed" : Str) then (if isName tg then ((evEs n Γ ρ args).bind one1).map List.reverse else none)
        else none
      | _ => none) else none
    | .Name x p => ((evE n Γ ρ (.Name x p)).bind asL).bind fun a => if isTup tg || isName tg then some a else none
    | .Subscript v i p => ((evE n Γ ρ (.Subscript v i p)).bind asL).bind fun a => if isTup tg || isName tg then some a else none
    | _ => none
end
end Mine
end

section
open PySem PySem.W PyProof.Rows PySem.Calls PySem.SeqAt
set_option linter.all false
set_option maxRecDepth 100000
namespace Mine

/-- the cells that a comprehension's frame takes along -/
noncomputable def clF (env : Env) : List (Str × NameKind) → List (Str × Addr) → List (Str × Addr)
  | [], acc => acc
  | (n, k) :: r, acc => if k == .free then clF env r ((n, (env.cells.lookup n).getD 0) :: acc) else clF env r acc

theorem forIn_clF {env : Env} (f : Str × NameKind → List (Str × Addr) → Sem (ForInStep (List (Str × Addr)))) (hf : ∀ n k cs, f (n, k) cs = if k == .free then (do let c ← cellOf env n; pure (.yield ((n, c) :: cs))) else pure (.yield cs)) :
    ∀ (names : List (Str × NameKind)) (acc : List (Str × Addr)), (∀ x ∈ names, x.2 = .free → (env.cells.lookup x.1).isSome = true) → (forIn names acc f : Sem _) = pure (clF env names acc)
  | [], acc, _ => by rw [List.forIn_nil]; rfl
  | (n, k) :: r, acc, h => by
    have hr : ∀ x ∈ r, x.2 = .free → (env.cells.lookup x.1).isSome = true := fun x hx => h x (List.mem_cons_of_mem _ hx)
    rw [List.forIn_cons, hf]
    unfold clF
    by_cases hk : (k == NameKind.free) = true
    · rw [if_pos hk, if_pos hk]
      obtain ⟨c, hc⟩ := Option.isSome_iff_exists.mp (h (n, k) (List.mem_cons_self ..) (beq_iff_eq.mp hk))
      have e : cellOf env n = pure c := by unfold cellOf; rw [hc]
      rw [e, hc]
      have := forIn_clF f hf r ((n, c) :: acc) hr
      simpa using this
    · rw [if_neg hk, if_neg hk]
      have := forIn_clF f hf r acc hr
      simpa using this

theorem closure_eq {scope : Scope} {env : Env} (h : ∀ x ∈ scope.names, x.2 = .free → (env.cells.lookup x.1).isSome = true) : closureFor scope env = pure (clF env scope.names []) := by
  unfold closureFor
  have e := forIn_clF (env := env) (fun (x : Str × NameKind) (cs : List (Str × Addr)) => if (x.2 == NameKind.free) = true then (do let c ← cellOf env x.1; pure (ForInStep.yield ((x.1, c) :: cs))) else pure (ForInStep.yield cs)) (fun n k cs => rfl) scope.names [] h
  show ((forIn scope.names ([] : List (Str × Addr)) fun (x : Str × NameKind) cs => if (x.2 == NameKind.free) = true then (do let c ← cellOf env x.1; pure (ForInStep.yield ((x.1, c) :: cs))) else pure (ForInStep.yield cs)) >>= fun cs => pure cs) = _
  rw [e]
  rfl

theorem clF_lookup {env : Env} : ∀ (names : List (Str × NameKind)) (acc : List (Str × Addr)) (x : Str) (c : Addr), (∀ z ∈ names, z.2 = .free → (env.cells.lookup z.1).isSome = true) → (∀ y d, acc.lookup y = some d → env.cells.lookup y = some d) →
    (clF env names acc).lookup x = some c → env.cells.lookup x = some c
  | [], acc, x, c, _, ha, e => ha x c e
  | (n, k) :: r, acc, x, c, h, ha, e => by
    have hr : ∀ x ∈ r, x.2 = .free → (env.cells.lookup x.1).isSome = true := fun x hx => h x (List.mem_cons_of_mem _ hx)
    unfold clF at e
    by_cases hk : (k == NameKind.free) = true
    · rw [if_pos hk] at e
      refine clF_lookup r _ x c hr (fun y d q => ?_) e
      obtain ⟨c', hc⟩ := Option.isSome_iff_exists.mp (h (n, k) (List.mem_cons_self ..) (beq_iff_eq.mp hk))
      rw [List.lookup_cons] at q
      cases hy : y == n with
      | true => rw [hy, hc] at q; cases q; rw [beq_iff_eq.mp hy]; exact hc
      | false => rw [hy] at q; exact ha y d q
    · rw [if_neg hk] at e
      exact clF_lookup r acc x c hr ha e
theorem clF_acc {env : Env} : ∀ (names : List (Str × NameKind)) (acc : List (Str × Addr)) (x : Str), (acc.lookup x).isSome = true → ((clF env names acc).lookup x).isSome = true
  | [], _, _, h => h
  | (n, k) :: r, acc, x, h => by
    unfold clF
    split
    · refine clF_acc r _ x ?_
      rw [List.lookup_cons]
      cases hy : x == n with
      | true => rfl
      | false => exact h
    · exact clF_acc r acc x h
theorem clF_some {env : Env} : ∀ (names : List (Str × NameKind)) (acc : List (Str × Addr)) (x : Str), names.lookup x = some .free → ((clF env names acc).lookup x).isSome = true
  | (n, k) :: r, acc, x, h => by
    unfold clF
    rw [List.lookup_cons] at h
    cases hy : x == n with
    | true =>
      rw [hy] at h
      cases h
      rw [if_pos (by rfl)]
      refine clF_acc r _ x ?_
      rw [List.lookup_cons, hy]
      rfl
    | false =>
      rw [hy] at h
      split
      · exact clF_some r _ x h
      · exact clF_some r _ x h

theorem lookup_relabel_free {env : Env} (hk : env.scope.kind = .function) : ∀ {names : List (Str × NameKind)} {x : Str}, names.lookup x = some .free → env.kindOf x = some .cell →
    (names.map fun (n, k) => if (k == NameKind.free && env.scope.kind == .function && env.kindOf n == some .cell) then (n, NameKind.cell) else (n, k)).lookup x = some .cell
  | [], _, h, _ => by simp at h
  | (n, k) :: r, x, h, hx => by
    have ih := @lookup_relabel_free env hk r x
    show List.lookup x ((if (k == NameKind.free && env.scope.kind == .function && env.kindOf n == some .cell) = true then (n, NameKind.cell) else (n, k)) :: _) = _
    cases hxn : x == n with
    | true =>
      simp only [List.lookup_cons, hxn] at h
      cases h
      have e : n = x := (beq_iff_eq.mp hxn).symm
      rw [if_pos (by rw [hk, e, hx]; rfl)]
      simp [List.lookup_cons, hxn]
    | false =>
      simp only [List.lookup_cons, hxn] at h
      by_cases hc : (k == NameKind.free && env.scope.kind == .function && env.kindOf n == some .cell) = true
      · rw [if_pos hc]; simp only [List.lookup_cons, hxn]; exact ih h hx
      · rw [if_neg hc]; simp only [List.lookup_cons, hxn]; exact ih h hx

theorem St.weaken {env : Env} {ow : Str → Addr} {g : PH} {ρ ρ' : Rho} {h : Heap} (S : St env ow g ρ' h) (k : ∀ x sl, ρ x = some sl → ρ' x = some sl) : St env ow g ρ h where
  hk := S.hk
  gh := S.gh
  loc := let ⟨m, a, b⟩ := S.loc; ⟨m, a, fun x sl e => b x sl (k x sl e)⟩
  cel := fun x sl e => S.cel x sl (k x sl e)
  isc := S.isc
  apart := S.apart
  wL := S.wL
  wC := S.wC
  wO := fun x ds e => S.wO x ds (k _ _ e)
  inj := fun x y ds es e1 e2 => S.inj x y ds es (k _ _ e1) (k _ _ e2)

theorem updAll_other {tg : Expr} {d : D} {bs : List (Str × D)} (e : tgD tg d = some bs) (ρ : Rho) {x : Str} (hx : x ∉ tgN tg) : updAll ρ bs x = ρ x := by
  rcases tgD_inv e with ⟨y, p, rfl, rfl⟩ | ⟨y, p, z, q, k, r, a, b, rfl, rfl, rfl⟩
  · simp only [tgN_one, List.mem_singleton] at hx
    simp [updAll, upd, hx]
  · simp only [tgN_two, List.mem_cons, List.not_mem_nil, or_false, not_or] at hx
    simp [updAll, upd, hx.1, hx.2]

section
variable {prog : Program} {w : World} {A : Around}

theorem compLoop_any {elt target iter : Expr} {ifs : List Expr} {scope : Scope} {pos : Pos} {it acc : Value} {env : Env} {R : Result → Shared → Prop} {s : Shared} (I : Nat → Shared → Prop)
    (turn : ∀ n s, I n s → wpAny (model prog w) A (pyNext it) (fun r s₁ => match r with
      | none => R (.ok .next) s₁
      | some v => wpAny (model prog w) A (letOwnedTupleGo target it v) (fun _ s₁' => wpAny (model prog w) A (assign target env v) (fun _ s₂ =>
          wpAny (model prog w) A (forIn ifs true fun c r => if r = true then do let ok ← isTrue c env (eval c env); pure (ForInStep.yield ok) else pure (ForInStep.yield r)) (fun ok s₃ =>
            if ok = true then wpAny (model prog w) A (eval elt env) (fun x s₄ =>
              wpAny (model prog w) A (call (.builtin "list.append") [acc, x]) (fun _ s₅ => ∃ m, m < n ∧ I m s₅) (notedBy (model prog w) A env fun e s' => R (.error e) s') s₄) (notedBy (model prog w) A env fun e s' => R (.error e) s') s₃
            else ∃ m, m < n ∧ I m s₃) (notedBy (model prog w) A env fun e s' => R (.error e) s') s₂) (notedBy (model prog w) A env fun e s' => R (.error e) s') s₁') (notedBy (model prog w) A env fun e s' => R (.error e) s') s₁) (notedBy (model prog w) A env fun e s' => R (.error e) s') s)
    (n : Nat) (h : I n s) :
    codeAny (model prog w) A (.compLoop (.ListComp elt [⟨target, iter, ifs, 0⟩] scope pos) 0 it acc env) R s := by
  refine codeAny_loop rfl I (fun n s hI => ?_) n h
  show wpAny _ A ((compTurn (.ListComp elt [⟨target, iter, ifs, 0⟩] scope pos) 0 it acc env).onRaise (fun x => do noteFrame x env; theTreesLotGoes x)) _ _ s
  refine wpAny_noted ?_
  rw [compTurn_list]
  refine wpAny_bind (wpAny_standAt (wpAny_bind (wpAny_mono (turn n s hI) (fun r s₁ h₁ => ?_) fun _ _ h' => h')))
  cases r with
  | none => exact wpAny_pure h₁
  | some v =>
    refine wpAny_bind (wpAny_mono h₁ (fun _ s₁' h₁' => ?_) fun _ _ h' => h')
    refine wpAny_bind (wpAny_mono h₁' (fun _ s₂ h₂ => wpAny_bind (wpAny_mono h₂ (fun ok s₃ h₃ => ?_) fun _ _ h' => h')) fun _ _ h' => h')
    cases ok with
    | false => exact wpAny_pure ⟨rfl, h₃⟩
    | true =>
      exact wpAny_bind (wpAny_bind (wpAny_mono h₃ (fun x s₄ h₄ => wpAny_bind (wpAny_mono h₄ (fun _ s₅ h₅ => wpAny_pure (wpAny_pure ⟨rfl, h₅⟩)) fun _ _ h' => h')) fun _ _ h' => h'))

theorem compGo_snoc {f : D → Option (Option D)} : ∀ {ds : List D} {outs : List D} {d : D} {o : Option D}, compGo f ds = some outs → f d = some o → compGo f (ds ++ [d]) = some (outs ++ o.toList)
  | [], outs, d, o, e, e2 => by simp [compGo] at e; subst e; simp [compGo, e2]
  | d' :: r, outs, d, o, e, e2 => by
    simp only [compGo, Option.bind_eq_some_iff, Option.map_eq_some_iff] at e
    obtain ⟨o', h1, t, h2, rfl⟩ := e
    have := compGo_snoc h2 e2
    simp [compGo, h1, this]
theorem compGo_take {f : D → Option (Option D)} : ∀ {ds : List D} {outs : List D}, compGo f ds = some outs → ∀ i, ∃ t, compGo f (ds.take i) = some t ∧ t.length ≤ i
  | [], _, _, i => by simp [compGo]
  | d :: r, outs, e, 0 => ⟨[], by simp [compGo], Nat.le_refl _⟩
  | d :: r, outs, e, i + 1 => by
    simp only [compGo, Option.bind_eq_some_iff, Option.map_eq_some_iff] at e
    obtain ⟨o', h1, t, h2, rfl⟩ := e
    obtain ⟨t', q1, q2⟩ := compGo_take h2 i
    refine ⟨o'.toList ++ t', by simp [compGo, h1, q1], ?_⟩
    cases o' <;> simp <;> (first | lia | omega)
theorem compGo_at {f : D → Option (Option D)} : ∀ {ds : List D} {outs : List D}, compGo f ds = some outs → ∀ {i : Nat} {d : D}, ds[i]? = some d → ∃ o, f d = some o
  | [], _, _, i, d, h => by simp at h
  | d' :: r, outs, e, 0, d, h => by
    simp only [compGo, Option.bind_eq_some_iff, Option.map_eq_some_iff] at e
    obtain ⟨o', h1, t, h2, rfl⟩ := e
    simp at h; subst h; exact ⟨_, h1⟩
  | d' :: r, outs, e, i + 1, d, h => by
    simp only [compGo, Option.bind_eq_some_iff, Option.map_eq_some_iff] at e
    obtain ⟨o', h1, t, h2, rfl⟩ := e
    simp at h; exact compGo_at h2 h

/-- one turn of the comprehension's body, in its frame -/
noncomputable def CompTurn (prog : Program) (w : World) (A : Around) (base : Heap) (cenv : Env) (tg : Expr) (ifs : List Expr) (elt : Expr) (ρc : Rho) (f : D → Option (Option D)) : Prop :=
  ∀ (d : D) (o : Option D) (ow : Str → Addr) (g : PH) (s : Shared) (v : Value) (E : Value → Shared → Prop) (Y : Value → Shared → Prop) (N : Shared → Prop), f d = some o → St cenv ow g ρc s.heap → base.get? cenv.locals = none → Kp base s.heap → DI g v d →
    (∀ y h' g' tk dd, o = some dd → DI g' y dd → St cenv ow g' ρc h' → Sub g g' → (∀ a, g a = none → g' a ≠ none → s.heap.get? a = none) → (∀ b o, b ≠ cenv.locals → s.heap.get? b = some o → h'.get? b = some o) → Y y { s with heap := h', toks := tk }) →
    (∀ h' g' tk, o = none → St cenv ow g' ρc h' → Sub g g' → (∀ a, g a = none → g' a ≠ none → s.heap.get? a = none) → (∀ b o, b ≠ cenv.locals → s.heap.get? b = some o → h'.get? b = some o) → N { s with heap := h', toks := tk }) →
    wpAny (model prog w) A (assign tg cenv v) (fun _ s₂ => wpAny (model prog w) A (forIn ifs true fun c r => if r = true then do let ok ← isTrue c cenv (eval c cenv); pure (ForInStep.yield ok) else pure (ForInStep.yield r))
      (fun ok s₃ => if ok = true then wpAny (model prog w) A (eval elt cenv) Y E s₃ else N s₃) E s₂) E s

theorem Src.next {tg : Expr} {I : Addr} {fp wr : List Addr} {g₀ : PH} {ds : List D} {St : Nat → Heap → Prop} (W : Src prog w A tg I fp wr g₀ ds St) (i : Nat) (d : D) (g : PH) (s : Shared) {Q : Value → Shared → Prop} {K : Option Value → Shared → Prop} {E : Value → Shared → Prop}
    (hd : ds[i]? = some d) (hst : St i s.heap) (hs : Sub g₀ g) (hg : HS g s.heap) (hw : ∀ a ∈ wr, g a = none)
    (hk : ∀ v s₁, wpAny (model prog w) A (letOwnedTupleGo tg (.ref I) v) (fun _ s₂ => Q v s₂) E s₁ → K (some v) s₁)
    (h : ∀ v h' g' tk, DI g' v d → St (i + 1) h' → Sub g g' → HS g' h' → (∀ a, g a = none → g' a ≠ none → s.heap.get? a = none) → (∀ b o, b ∉ wr → s.heap.get? b = some o → h'.get? b = some o) → (∀ a ∈ wr, g' a = none) → Q v { s with heap := h', toks := tk }) :
    wpAny (model prog w) A (pyNext (.ref I)) K E s :=
  wpAny_mono (W.item i d g s Q E hd hst hs hg hw h) (fun r s₁ hr => by obtain ⟨v, rfl, hv⟩ := hr; exact hk v s₁ hv) fun _ _ e => e

set_option maxHeartbeats 2000000 in
theorem comp_core {base : Heap} {tg elt iter : Expr} {ifs : List Expr} {scope : Scope} {pos : Pos} {env : Env} {ow : Str → Addr} {g : PH} {ρ : Rho} {s₂ : Shared} {I : Addr} {fp wr : List Addr} {ds outs : List D} {StS : Nat → Heap → Prop} {E : Value → Shared → Prop}
    {f : D → Option (Option D)} {RR : Value → Addr → Result → Shared → Prop} {cl : List (Str × Addr)}
    (S : St env ow g ρ s₂.heap) (hb : Kp base s₂.heap) (W : Src prog w A tg I fp wr g ds StS) (hst : StS 0 s₂.heap) (hwr : ∀ b ∈ wr, g b = none) (hwW : ∀ b ∈ wr, ¬ Wp env ow ρ b) (hfp : ∀ b ∈ fp, s₂.heap.get? b ≠ none) (hwb : ∀ b ∈ wr, base.get? b = none)
    (hcell : ∀ x ∈ scope.names, x.2 ≠ .cell) (hkind : scope.kind = .function) (hnl : ∀ x ∈ tgN tg, scope.names.lookup x = some .local)
    (hfree : ∀ x ∈ scope.names, x.2 = .free → env.kindOf x.1 = some .cell ∧ (env.cells.lookup x.1).isSome = true) (hfl : ∀ x ∈ scope.names, x.2 = .free → scope.names.lookup x.1 = some .free)
    (hcl : cl = clF env scope.names [])
    (hturn : ∀ C, CompTurn prog w A base (compEnvC scope cl C env) tg ifs elt (compRho scope ρ) f)
    (hgo : compGo f ds = some outs) (hlen : ds.length ≤ big)
    (hRR : ∀ D C h' g' tk m ys n, s₂.heap.get? D = none → s₂.heap.get? C = none → D ≠ C → h'.Ns C m → h'.get? D = some (lstO ys n) → DIs g' ys outs → g' D = none → g' C = none → Sub g g' → HS g' h' →
      (∀ a, g a = none → g' a ≠ none → s₂.heap.get? a = none) → (∀ b o, b ∉ wr → s₂.heap.get? b = some o → h'.get? b = some o) → RR (.ref D) C (.ok .next) { s₂ with heap := h', toks := tk }) :
    wpAny (model prog w) A (newList []) (fun acc s₃ => wpAny (model prog w) A (newFunctionEnv scope env.globals cl [] env.qual none .none (some env)) (fun cenv s₄ =>
      codeAny (model prog w) A (.compStart (.ListComp elt [⟨tg, iter, ifs, 0⟩] scope pos) 0 (.ref I) acc { cenv with scope := relabel scope env }) (RR acc cenv.locals) s₄) E s₃) E s₂ := by
  refine wpAny_newObj_type (wpAny_newFunctionEnv hcell (by intro y hy; simp at hy) (fun h₁ hns₁ hsb₁ => ?_) hkind)
  dsimp only at hns₁ hsb₁ ⊢
  generalize hH2 : s₂.heap.push { cls := .type "list", dict := none, data := .seq ([] : List Value).toArray } = H2 at hns₁ hsb₁ ⊢
  have hC : H2.objs.size = s₂.heap.objs.size + 1 := by rw [← hH2, Heap.size_push]
  have hDC : s₂.heap.objs.size ≠ H2.objs.size := by rw [hC]; exact Nat.ne_of_lt (Nat.lt_succ_self _)
  have fresh : ∀ a, s₂.heap.objs.size ≤ a → s₂.heap.get? a = none := fun a ha => by
    cases e : s₂.heap.get? a with
    | none => rfl
    | some o' => exact absurd (Heap.lt_size e) (Nat.not_lt.mpr ha)
  have hDn : s₂.heap.get? s₂.heap.objs.size = none := fresh _ (Nat.le_refl _)
  have hCn : s₂.heap.get? H2.objs.size = none := fresh _ (by rw [hC]; exact Nat.le_succ _)
  have below : ∀ b o, s₂.heap.get? b = some o → b ≠ H2.objs.size ∧ b ≠ s₂.heap.objs.size := fun b o e => ⟨fun q => (by rw [q, hCn] at e; cases e), fun q => (by rw [q, hDn] at e; cases e)⟩
  have old : Kp s₂.heap h₁ := fun b o e => hsb₁.extBut b o (below b o e).1 (Heap.get?_push_of_some _ (hH2 ▸ Heap.get?_push_of_some _ e))
  have hacc : h₁.get? s₂.heap.objs.size = some (lstO [] 0) := hsb₁.extBut _ _ hDC (Heap.get?_push_of_some _ (hH2 ▸ Heap.get?_push_size _ rfl))
  generalize hDd : s₂.heap.objs.size = DD at *
  generalize hCC : H2.objs.size = CC at *
  have hDf : DD ∉ fp := fun m => hfp _ m hDn
  have hCf : CC ∉ fp := fun m => hfp _ m hCn
  have hDw : DD ∉ wr := fun m => hDf (W.sub _ m)
  have hCw : CC ∉ wr := fun m => hCf (W.sub _ m)
  have hgD : g DD = none := S.gh.none hDn
  have hgC : g CC = none := S.gh.none hCn
  have hfc : ∀ z ∈ scope.names, z.2 = .free → (env.cells.lookup z.1).isSome = true := fun z hz q => (hfree z hz q).2
  have clk : ∀ x c, cl.lookup x = some c → env.cells.lookup x = some c := fun x c e => by rw [hcl] at e; exact clF_lookup _ _ x c hfc (fun _ _ q => by simp at q) e
  have freeMem : ∀ {x : Str}, scope.names.lookup x = some .free → (x, NameKind.free) ∈ scope.names := fun q => mem_of_lookup q
  -- the frame of the block
  have S₁ : St (compEnvC scope cl CC env) ow g (compRho scope ρ) h₁ := by
    refine ⟨by simp [compEnvC, relabel, hkind], S.gh.kp old, ⟨_, hns₁, fun x sl e k => ?_⟩, fun x sl e k => ?_, fun x c e => ?_, fun x y c e1 e2 => S.apart x y c (clk x c e1) (clk y c e2), hgC, fun x c e => ?_, fun x es e => ?_, fun x y es fs e1 e2 => ?_⟩
    · exfalso
      unfold compRho at e
      split at e
      · rename_i q
        have := lookup_relabel_free S.hk q (hfree _ (freeMem q) rfl).1
        have k' : (relabel scope env).names.lookup x = some .local := k
        unfold relabel at k'
        rw [this] at k'; cases k'
      · cases e
    · unfold compRho at e
      split at e
      · rename_i q
        have hkx := (hfree _ (freeMem q) rfl).1
        refine ⟨lookup_relabel_free S.hk q hkx, ?_⟩
        obtain ⟨_, c, v, e1, e2, e3⟩ := S.cel x sl e (by rw [hkx]; decide)
        obtain ⟨c', hc'⟩ := Option.isSome_iff_exists.mp (clF_some (env := env) scope.names [] x q)
        have hc2 := clk x c' (by rw [hcl]; exact hc')
        rw [e1] at hc2; cases hc2
        exact ⟨c, v, by show cl.lookup x = _; rw [hcl]; exact hc', e2.keeps old, e3.kp (Sub.refl _) fun o => old _ o⟩
      · cases e
    · obtain ⟨v, q⟩ := S.isc x c (clk x c e)
      exact ⟨v, q.keeps old⟩
    · refine ⟨(S.wC x c (clk x c e)).1, ?_⟩
      obtain ⟨v, o, ho, _⟩ := S.isc x c (clk x c e)
      exact (below c o ho).1
    · have e' : ρ x = some (.own es) := by unfold compRho at e; split at e <;> first | exact e | cases e
      obtain ⟨vs, n, q, _⟩ := S.own_some e'
      exact ⟨(S.wO x es e').1, (below _ _ q).1, fun y c ey => (S.wO x es e').2.2 y c (clk y c ey)⟩
    · have e1' : ρ x = some (.own es) := by unfold compRho at e1; split at e1 <;> first | exact e1 | cases e1
      have e2' : ρ y = some (.own fs) := by unfold compRho at e2; split at e2 <;> first | exact e2 | cases e2
      exact S.inj x y es fs e1' e2'
  have wold : ∀ a, Wp (compEnvC scope cl CC env) ow (compRho scope ρ) a → a = CC ∨ s₂.heap.get? a ≠ none := fun a wa => by
    rcases wa with q | ⟨x, e⟩ | ⟨x, es, e, rfl⟩
    · exact .inl q
    · obtain ⟨v, o, ho, _⟩ := S.isc x a (clk x a e)
      exact .inr (by rw [ho]; simp)
    · have e' : ρ x = some (.own es) := by unfold compRho at e; split at e <;> first | exact e | cases e
      obtain ⟨vs, n, q, _⟩ := S.own_some e'
      exact .inr (by rw [q]; simp)
  have wnot : ∀ a, Wp (compEnvC scope cl CC env) ow (compRho scope ρ) a → a ∉ wr ∧ a ≠ DD := fun a wa => by
    refine ⟨fun m => ?_, fun q => ?_⟩
    · rcases wa with q | ⟨x, e⟩ | ⟨x, es, e, q⟩
      · exact hCw (by rw [← show a = CC from q]; exact m)
      · exact hwW a m (.inr (.inl ⟨x, clk x a e⟩))
      · have e' : ρ x = some (.own es) := by unfold compRho at e; split at e <;> first | exact e | cases e
        exact hwW a m (.inr (.inr ⟨x, es, e', q⟩))
    · rcases wold a wa with r | r
      · exact hDC (q ▸ r)
      · exact r (q ▸ hDn)
  have loop : ∀ s₃ : Shared, s₃ = { s₂ with heap := h₁, toks := s₂.toks + ([] : List (Str × Value)).length } →
      codeAny (model prog w) A (.compLoop (.ListComp elt [⟨tg, iter, ifs, 0⟩] scope pos) 0 (.ref I) (.ref DD) (compEnvC scope cl CC env)) (RR (.ref DD) CC) s₃ := by
    rintro s₃ rfl
    refine compLoop_any (fun k s' => ∃ i h' g' tk ys n t, s' = { s₂ with heap := h', toks := tk } ∧ k = ds.length + 1 - i ∧ i ≤ ds.length ∧ StS i h' ∧ h'.get? DD = some (lstO ys n) ∧ compGo f (ds.take i) = some t ∧ DIs g' ys t ∧
      St (compEnvC scope cl CC env) ow g' (compRho scope ρ) h' ∧ g' DD = none ∧ (∀ b ∈ wr, g' b = none) ∧ Sub g g' ∧ (∀ a, g a = none → g' a ≠ none → s₂.heap.get? a = none) ∧ (∀ b o, b ∉ wr → s₂.heap.get? b = some o → h'.get? b = some o)) ?_ (ds.length + 1)
      ⟨0, h₁, g, _, [], 0, [], rfl, by first | lia | omega, Nat.zero_le _, W.frame _ _ _ hst fun b _ o e => old b o e, hacc, by simp [compGo], .nil, S₁, hgD, hwr, Sub.refl _, fun a e n => absurd e n, fun b o _ e => old b o e⟩
    rintro k s' ⟨i, h', g', tk, ys, n, t, rfl, rfl, hi, hst', hD', ht, hys, S', hgD', hw', hsub, hnw, hkp⟩
    have hb' : Kp base h' := fun b o e => hkp b o (fun m => by rw [hwb b m] at e; cases e) (hb b o e)
    rcases Nat.lt_or_ge i ds.length with hlt | hge
    · -- an item
      obtain ⟨o, ho⟩ := compGo_at hgo (List.getElem?_eq_getElem hlt)
      refine W.next i ds[i] g' { s₂ with heap := h', toks := tk } (List.getElem?_eq_getElem hlt) hst' hsub S'.gh hw' (fun v s₁ hv => hv) ?_
      · intro v h₂ g₂ tk₂ hdv hst₂ hsub₂ hHS₂ hnw₂ hkp₂ hw₂
        have hD₂ : h₂.get? DD = some (lstO ys n) := hkp₂ _ _ hDw hD'
        have hgD₂ : g₂ DD = none := by
          cases q : g₂ DD with
          | none => rfl
          | some o => have := hnw₂ DD hgD' (by rw [q]; simp); rw [show ({ s₂ with heap := h', toks := tk } : Shared).heap = h' from rfl, hD'] at this; cases this
        have S₂ : St (compEnvC scope cl CC env) ow g₂ (compRho scope ρ) h₂ := S'.step hsub₂ hHS₂ (fun a wa o e => hkp₂ a o (wnot a wa).1 e) hnw₂
        have hb₂ : Kp base h₂ := fun b o e => hkp₂ b o (fun m => by rw [hwb b m] at e; cases e) (hb' b o e)
        have live₂ := W.live _ _ hst₂
        have fin : ∀ (h₃ : Heap) (g₃ : PH) (tk₃ : Nat), St (compEnvC scope cl CC env) ow g₃ (compRho scope ρ) h₃ → Sub g₂ g₃ → (∀ a, g₂ a = none → g₃ a ≠ none → h₂.get? a = none) → (∀ b o, b ≠ CC → h₂.get? b = some o → h₃.get? b = some o) →
            g₃ DD = none ∧ (∀ b ∈ wr, g₃ b = none) ∧ Sub g g₃ ∧ (∀ a, g a = none → g₃ a ≠ none → s₂.heap.get? a = none) ∧ (∀ b o, b ∉ wr → s₂.heap.get? b = some o → h₃.get? b = some o) ∧ StS (i + 1) h₃ ∧ h₃.get? DD = some (lstO ys n) := by
          intro h₃ g₃ tk₃ S₃ hsub₃ hnw₃ hkp₃
          refine ⟨?_, fun b hbw => ?_, hsub.trans (hsub₂.trans hsub₃), fun a e m => ?_, fun b o hbw e => hkp₃ b o (below b o e).1 (hkp₂ b o hbw (hkp b o hbw e)), W.frame _ _ _ hst₂ fun b hb o e => hkp₃ b o (fun q => hCf (q ▸ hb)) e, hkp₃ _ _ hDC hD₂⟩
          · cases q : g₃ DD with
            | none => rfl
            | some o => have := hnw₃ DD hgD₂ (by rw [q]; simp); rw [hD₂] at this; cases this
          · cases q : g₃ b with
            | none => rfl
            | some o => exact absurd (hnw₃ b (hw₂ b hbw) (by rw [q]; simp)) (live₂ b (W.sub b hbw))
          · cases z : s₂.heap.get? a with
            | none => rfl
            | some o =>
              exfalso
              by_cases zw : a ∈ wr
              · by_cases q : g₂ a = none
                · exact live₂ a (W.sub a zw) (hnw₃ a q m)
                · exact q (hw₂ a zw)
              · have z1 := hkp a o zw z
                have z2 := hkp₂ a o zw z1
                by_cases q : g₂ a = none
                · have := hnw₃ a q m
                  rw [z2] at this; cases this
                · by_cases q' : g' a = none
                  · have := hnw₂ a q' q
                    rw [z1] at this; cases this
                  · have := hnw a e q'
                    rw [z] at this; cases this
        refine hturn CC ds[i] o ow g₂ { s₂ with heap := h₂, toks := tk₂ } v _ _ _ ho S₂ (hb.none hCn) hb₂ hdv (fun y h₃ g₃ tk₃ dd eo hy S₃ hsub₃ hnw₃ hkp₃ => ?_) (fun h₃ g₃ tk₃ eo S₃ hsub₃ hnw₃ hkp₃ => ?_)
        · obtain ⟨f1, f2, f3, f4, f5, f6, f7⟩ := fin h₃ g₃ tk₃ S₃ hsub₃ hnw₃ hkp₃
          obtain ⟨t', q1, q2⟩ := compGo_take hgo i
          rw [ht] at q1; cases q1
          have hyl := hys.length
          refine wpAny_list_append_plain (s := { s₂ with heap := h₃, toks := tk₃ }) (items := ys.toArray) ⟨n, f7⟩ (fun h₄ hpl hs₄ => ?_) (by rw [sizeLine_eq]; simp; unfold big at hlen; (first | lia | omega))
          obtain ⟨n₄, hD₄⟩ := hpl
          have hk₄ : ∀ b o, b ≠ DD → h₃.get? b = some o → h₄.get? b = some o := fun b o hb e => (hs₄.2 b hb).trans e
          have hD₄' : h₄.get? DD = some (lstO (ys ++ [y]) n₄) := by rw [hD₄]; simp [lstO]
          refine ⟨ds.length + 1 - (i + 1), by first | lia | omega, i + 1, h₄, g₃, tk₃, ys ++ [y], n₄, t ++ [dd], rfl, rfl, hlt, ?_, hD₄', ?_, ?_, ?_, f1, f2, f3, f4, fun b o hbw e => hk₄ b o (below b o e).2 (f5 b o hbw e)⟩
          · exact W.frame _ _ _ f6 fun b hb o e => hk₄ b o (fun q => hDf (q ▸ hb)) e
          · rw [List.take_add_one, List.getElem?_eq_getElem hlt]
            have := compGo_snoc ht ho
            rw [eo] at this
            simpa using this
          · exact (hys.mono (hsub₂.trans hsub₃)).append (.cons hy .nil)
          · exact S₃.step (Sub.refl _) (fun b o e => hk₄ b o (fun q => by rw [q, f1] at e; cases e) (S₃.gh b o e)) (fun a wa o e => hk₄ a o (wnot a wa).2 e) (fun a e n => absurd e n)
        · obtain ⟨f1, f2, f3, f4, f5, f6, f7⟩ := fin h₃ g₃ tk₃ S₃ hsub₃ hnw₃ hkp₃
          refine ⟨ds.length + 1 - (i + 1), by first | lia | omega, i + 1, h₃, g₃, tk₃, ys, n, t, rfl, rfl, hlt, f6, f7, ?_, hys.mono (hsub₂.trans hsub₃), S₃, f1, f2, f3, f4, f5⟩
          rw [List.take_add_one, List.getElem?_eq_getElem hlt]
          have := compGo_snoc ht ho
          rw [eo] at this
          simpa using this
    · have hie : i = ds.length := by first | lia | omega
      subst hie
      refine W.done { s₂ with heap := h', toks := tk } _ _ hst' fun h₂ tk₂ hkp₂ => ?_
      rw [List.take_length] at ht
      rw [hgo] at ht; cases ht
      obtain ⟨m, hn, _⟩ := S'.loc
      refine hRR DD CC h₂ g' tk₂ m ys n hDn hCn hDC (hn.at' fun o e => hkp₂ CC o hCw e) (hkp₂ _ _ hDw hD') hys hgD' S'.wL hsub (fun b o e => hkp₂ b o (fun q => by rw [hw' b q] at e; cases e) (S'.gh b o e)) hnw (fun b o hbw e => hkp₂ b o hbw (hkp b o hbw e))
  exact codeAny_compStart_list (loop _ rfl) (W.self 0 _ _ _ (W.frame _ _ _ hst fun b _ o e => old b o e) (loop _ rfl))
end
end Mine
end

section
open PySem PySem.W PyProof.Rows PySem.Calls PySem.SeqAt
set_option linter.all false
set_option maxRecDepth 100000
namespace Mine

noncomputable def GlobIs (prog : Program) (w : World) (A : Around) (base : Heap) (env : Env) (f : Str) (fv : Value) : Prop :=
  ∀ (s : Shared) (Q E : Value → Shared → Prop) (pos : Pos), Kp base s.heap → Q fv s → wpAny (model prog w) A (eval (.Name f pos) env) Q E s

structure SigOk (prog : Program) (w : World) (A : Around) (base : Heap) (env : Env) (Γ : Sig) : Prop where
  fn : ∀ f φ, Γ.fn f = some φ → ∃ fv, GlobIs prog w A base env f fv ∧ FnOk prog w A base fv φ
  len : Γ.len = true → GlobIs prog w A base env "len" (.builtin "len")
  rng : Γ.rng = true → GlobIs prog w A base env "range" (.type "range")
  zip : Γ.zip = true → GlobIs prog w A base env "zip" (.type "zip")
  enu : Γ.enu = true → GlobIs prog w A base env "enumerate" (.type "enumerate")
  rev : Γ.rev = true → GlobIs prog w A base env "reversed" (.type "reversed")
  cells : ∀ x ∈ Γ.cells, env.kindOf x = some .cell ∧ (env.cells.lookup x).isSome = true
  loc : ∀ x ∈ Γ.loc, kindOk env x

theorem SigOk.no {prog : Program} {w : World} {A : Around} {base : Heap} {env : Env} : SigOk prog w A base env noSig :=
  ⟨fun _ _ e => by simp [noSig] at e, fun e => by simp [noSig] at e, fun e => by simp [noSig] at e, fun e => by simp [noSig] at e, fun e => by simp [noSig] at e, fun e => by simp [noSig] at e, fun _ e => by simp [noSig] at e, fun _ e => by simp [noSig] at e⟩

noncomputable def SD (g : PH) (h : Heap) (v : Value) (d : D) : Prop := DI g v d ∨ ∃ a vs n ds, v = .ref a ∧ h.get? a = some (lstO vs n) ∧ DIs g vs ds ∧ d = .lst ds

noncomputable def PoE (g : PH) (s : Shared) (Q : Value → Shared → Prop) (d : D) : Prop := ∀ v h' g' tk, Ext s.heap h' g g' → DI g' v d → Q v { s with heap := h', toks := tk }
noncomputable def PoB (g : PH) (s : Shared) (Q : Value → Shared → Prop) (d : D) : Prop := ∀ v h' g' tk, Ext s.heap h' g g' → SD g' h' v d → Q v { s with heap := h', toks := tk }
noncomputable def PoT (g : PH) (s : Shared) (Q : Bool → Shared → Prop) (b : Bool) : Prop := ∀ h' g' tk, Ext s.heap h' g g' → Q b { s with heap := h', toks := tk }
noncomputable def PoEs (g : PH) (s : Shared) (Q : List Value → Shared → Prop) (ds : List D) : Prop := ∀ vs h' g' tk, Ext s.heap h' g g' → DIs g' vs ds → Q vs { s with heap := h', toks := tk }
noncomputable def PoI (prog : Program) (w : World) (A : Around) (g : PH) (s : Shared) (Q : Value → Shared → Prop) (tg : Expr) (ds : List D) : Prop := ∀ I fp wr StS h' g' tk, Ext s.heap h' g g' → Src prog w A tg I fp wr g' ds StS → StS 0 h' → (∀ b ∈ wr, s.heap.get? b = none ∧ g' b = none) → (∀ b ∈ fp, s.heap.get? b = none ∨ g' b ≠ none) → Q (.ref I) { s with heap := h', toks := tk }
section
variable (prog : Program) (w : World) (A : Around) (base : Heap)

noncomputable def SndE (n : Nat) : Prop := ∀ Γ ρ e d, evE n Γ ρ e = some d → ∀ (env : Env) (ow : Str → Addr) (g : PH) (s : Shared) (Q E : Value → Shared → Prop), St env ow g ρ s.heap → SigOk prog w A base env Γ → Kp base s.heap →
  PoE g s Q d → wpAny (model prog w) A (eval e env) Q E s
noncomputable def SndB (n : Nat) : Prop := ∀ Γ ρ e d, evB n Γ ρ e = some d → ∀ (env : Env) (ow : Str → Addr) (g : PH) (s : Shared) (Q E : Value → Shared → Prop), St env ow g ρ s.heap → SigOk prog w A base env Γ → Kp base s.heap →
  PoB g s Q d → wpAny (model prog w) A (eval e env) Q E s
noncomputable def SndT (n : Nat) : Prop := ∀ Γ ρ e b, evT n Γ ρ e = some b → ∀ (env : Env) (ow : Str → Addr) (g : PH) (s : Shared) (Q : Bool → Shared → Prop) (E : Value → Shared → Prop), St env ow g ρ s.heap → SigOk prog w A base env Γ → Kp base s.heap →
  PoT g s Q b → wpAny (model prog w) A (PySem.isTrue e env (eval e env)) Q E s
noncomputable def SndTs (n : Nat) : Prop := ∀ Γ ρ op es b, evTs n Γ ρ op es = some b → ∀ (env : Env) (ow : Str → Addr) (g : PH) (s : Shared) (Q : Bool → Shared → Prop) (E : Value → Shared → Prop), St env ow g ρ s.heap → SigOk prog w A base env Γ → Kp base s.heap →
  PoT g s Q b → wpAny (model prog w) A (allTrue op es env) Q E s
noncomputable def SndIfs (n : Nat) : Prop := ∀ Γ ρ es b, evTs n Γ ρ .And es = some b → ∀ (env : Env) (ow : Str → Addr) (g : PH) (s : Shared) (Q : Bool → Shared → Prop) (E : Value → Shared → Prop), St env ow g ρ s.heap → SigOk prog w A base env Γ → Kp base s.heap →
  PoT g s Q b →
  wpAny (model prog w) A (forIn es true fun c r => if r = true then do let ok ← PySem.isTrue c env (eval c env); pure (ForInStep.yield ok) else pure (ForInStep.yield r)) Q E s
noncomputable def SndEs (n : Nat) : Prop := ∀ Γ ρ es ds, evEs n Γ ρ es = some ds → ∀ (env : Env) (ow : Str → Addr) (g : PH) (s : Shared) (Q : List Value → Shared → Prop) (E : Value → Shared → Prop), St env ow g ρ s.heap → SigOk prog w A base env Γ → Kp base s.heap →
  PoEs g s Q ds → wpAny (model prog w) A (spliced (es.map fun e => (false, eval e env))) Q E s
noncomputable def SndIt (n : Nat) : Prop := ∀ Γ ρ tg e ds, evIt n Γ ρ tg e = some ds → ∀ (env : Env) (ow : Str → Addr) (g : PH) (s : Shared) (Q E : Value → Shared → Prop), St env ow g ρ s.heap → SigOk prog w A base env Γ → Kp base s.heap →
  PoI prog w A g s Q tg ds →
  wpAny (model prog w) A (eval e env) (fun x s₁ => wpAny (model prog w) A (pyIter x) Q E s₁) E s

structure All (n : Nat) : Prop where
  e : SndE prog w A base n
  b : SndB prog w A base n
  t : SndT prog w A base n
  ts : SndTs prog w A base n
  ifs : SndIfs prog w A base n
  es : SndEs prog w A base n
  it : SndIt prog w A base n
end

theorem notStar {n : Nat} {Γ : Sig} {ρ : Rho} {e : Expr} {d : D} (h : evE n Γ ρ e = some d) : ∀ x p, e ≠ .Starred x p := by
  rintro x p rfl
  cases n with
  | zero => exact nomatch (show (none : Option D) = some d from h)
  | succ n => exact nomatch (show (none : Option D) = some d from h)
theorem star_eq {Γ : Sig} {ρ : Rho} {env : Env} : ∀ {n : Nat} {es : List Expr} {ds : List D}, evEs n Γ ρ es = some ds → ∀ pos, backTo pos (starEach es env) = es.map fun e => (false, eval e env)
  | 0, _, _, h, _ => by simp [evEs] at h
  | _ + 1, [], _, _, _ => rfl
  | n + 1, e :: r, ds, h, pos => by
    obtain ⟨d, h1, h⟩ := bnd (show ((evE n Γ ρ e).bind fun d => (evEs n Γ ρ r).map (d :: ·)) = some ds from h)
    obtain ⟨t, h2, rfl⟩ := mpd h
    have ih := star_eq (env := env) (n := n) h2 pos
    have hs := notStar h1
    have q : starEach (e :: r) env = (false, eval e env) :: starEach r env := by
      cases e <;> first | rfl | (exact absurd rfl (hs _ _))
    rw [q]
    show (false, eval e env) :: backTo pos (starEach r env) = _
    rw [ih]; rfl

section
variable {prog : Program} {w : World} {A : Around} {base : Heap}

theorem snd_zero : All prog w A base 0 := by
  constructor <;> intro <;> simp_all [evE, evB, evT, evTs, evEs, evIt]

theorem sndB_step {n : Nat} (h : All prog w A base n) : SndB prog w A base (n + 1) := by
  intro Γ ρ e d he env ow g s Q E S hs hb post
  have gen : evE n Γ ρ e = some d → wpAny (model prog w) A (eval e env) Q E s := fun h1 => h.e Γ ρ e d h1 env ow g s Q E S hs hb fun v h' g' tk X hd => post v h' g' tk X (.inl hd)
  unfold evB at he
  split at he
  · rename_i x p
    split at he
    · cases he
    · rename_i hx
      obtain ⟨sl, h1, rfl⟩ := Option.map_eq_some_iff.mp he
      refine wpAny_Name (S.load h1 fun v hv => ?_) (by simpa using hx)
      cases sl with
      | st d => exact post v s.heap g s.toks (Ext.refl S.gh) (.inl hv)
      | own ds =>
        obtain ⟨rfl, vs, k, q1, q2⟩ := hv
        exact post _ s.heap g s.toks (Ext.refl S.gh) (.inr ⟨_, vs, k, ds, rfl, q1, q2, rfl⟩)
  · exact gen he

theorem sndEs_step {n : Nat} (h : All prog w A base n) : SndEs prog w A base (n + 1) := by
  intro Γ ρ es ds he env ow g s Q E S hs hb post
  cases es with
  | nil =>
    obtain rfl : [] = ds := Option.some.inj he
    exact spliced_nil (post [] s.heap g s.toks (Ext.refl S.gh) .nil)
  | cons e r =>
    obtain ⟨d, h1, he⟩ := bnd (show ((evE n Γ ρ e).bind fun d => (evEs n Γ ρ r).map (d :: ·)) = some ds from he)
    obtain ⟨t, h2, rfl⟩ := mpd he
    show wpAny _ A (spliced ((false, eval e env) :: r.map fun e => (false, eval e env))) Q E s
    refine spliced_cons (h.e Γ ρ e d h1 env ow g s _ E S hs hb fun v h' g' tk X hd => ?_)
    refine h.es Γ ρ r t h2 env ow g' { s with heap := h', toks := tk } _ E (S.ext X) hs (hb.trans X.kp) fun vs h'' g'' tk' X' hds => ?_
    exact post (v :: vs) h'' g'' tk' (X.trans X') (.cons (hd.mono X'.gg) hds)

theorem sndTs_step {n : Nat} (h : All prog w A base n) : SndTs prog w A base (n + 1) := by
  intro Γ ρ op es b he env ow g s Q E S hs hb post
  cases es with
  | nil =>
    obtain rfl : (_ == BoolOp.And) = b := Option.some.inj he
    exact wpAny_pure (post s.heap g s.toks (Ext.refl S.gh))
  | cons e r =>
    unfold evTs at he
    obtain ⟨c, h1, h2⟩ := bnd he
    cases op with
    | And =>
      refine wpAny_allTrue_And_cons (h.t Γ ρ e c h1 env ow g s _ E S hs hb fun h' g' tk X => ?_)
      cases c with
      | false => simp only at h2; cases h2; exact post h' g' tk X
      | true =>
        simp only at h2
        exact h.ts Γ ρ .And r b h2 env ow g' { s with heap := h', toks := tk } _ E (S.ext X) hs (hb.trans X.kp) fun h'' g'' tk' X' => post h'' g'' tk' (X.trans X')
    | Or =>
      refine wpAny_allTrue_Or_cons (h.t Γ ρ e c h1 env ow g s _ E S hs hb fun h' g' tk X => ?_)
      cases c with
      | true => simp only at h2; cases h2; exact post h' g' tk X
      | false =>
        simp only at h2
        exact h.ts Γ ρ .Or r b h2 env ow g' { s with heap := h', toks := tk } _ E (S.ext X) hs (hb.trans X.kp) fun h'' g'' tk' X' => post h'' g'' tk' (X.trans X')

theorem ifs_false {env : Env} : ∀ (r : List Expr), (forIn r false fun c r => if r = true then do let ok ← PySem.isTrue c env (eval c env); pure (ForInStep.yield ok) else pure (ForInStep.yield r) : Sem Bool) = pure false
  | [] => rfl
  | e :: r => by
    rw [List.forIn_cons]
    simp only [Bool.false_eq_true, if_false, pure_bind]
    exact ifs_false r

theorem sndIfs_step {n : Nat} (h : All prog w A base n) : SndIfs prog w A base (n + 1) := by
  intro Γ ρ es b he env ow g s Q E S hs hb post
  cases es with
  | nil =>
    obtain rfl : (_ == BoolOp.And) = b := Option.some.inj he
    exact wpAny_pure (post s.heap g s.toks (Ext.refl S.gh))
  | cons e r =>
    unfold evTs at he
    obtain ⟨c, h1, h2⟩ := bnd he
    rw [List.forIn_cons]
    simp only [if_true]
    refine wpAny_bind (wpAny_bind (h.t Γ ρ e c h1 env ow g s _ E S hs hb fun h' g' tk X => wpAny_pure ?_))
    cases c with
    | false =>
      simp only at h2; cases h2
      show wpAny _ A (forIn r false _) Q E _
      rw [ifs_false]
      exact wpAny_pure (post h' g' tk X)
    | true =>
      simp only at h2
      exact h.ifs Γ ρ r b h2 env ow g' { s with heap := h', toks := tk } _ E (S.ext X) hs (hb.trans X.kp) fun h'' g'' tk' X' => post h'' g'' tk' (X.trans X')

theorem sndT_step (hu : A.units < cLine) {n : Nat} (h : All prog w A base n) : SndT prog w A base (n + 1) := by
  intro Γ ρ e b he env ow g s Q E S hs hb post
  unfold evT at he
  split at he
  · rename_i op x p
    split at he
    · obtain ⟨c, h1, rfl⟩ := mpd he
      exact wpAny_isTrue_Not (h.t Γ ρ x c h1 env ow g s _ E S hs hb fun h' g' tk X => post h' g' tk X)
    · cases he
  · rename_i op vs p
    exact wpAny_isTrue_BoolOp (h.ts Γ ρ op vs b he env ow g s _ E S hs hb post)
  · rename_i l ops rs p
    obtain ⟨op, q1, he1⟩ := bno he
    obtain ⟨r, q2, he2⟩ := bno he1
    clear he he1
    obtain rfl := one_some q1
    obtain rfl := one_some q2
    split at he2
    · cases he2
    · rename_i hm
      obtain ⟨a, h1, he3⟩ := bnd he2
      obtain ⟨c, h2, h3⟩ := bnd he3
      refine wpAny_isTrue_Compare1 (h.e Γ ρ l a h1 env ow g s _ E S hs hb fun v h' g' tk X hd => ?_) (by simpa using hm)
      refine h.e Γ ρ r c h2 env ow g' { s with heap := h', toks := tk } _ E (S.ext X) hs (hb.trans X.kp) fun v' h'' g'' tk' X' hd' => ?_
      refine cmp_sound (s := { s with heap := h'', toks := tk' }) hu h3 (hd.mono X'.gg) hd' X'.gh ?_
      exact wpAny_truthy_bool (post h'' g'' tk' (X.trans X'))
  · rename_i x p
    obtain ⟨d, h1, h2⟩ := bnd he
    refine wpAny_isTrue_value (h.e Γ ρ _ d h1 env ow g s _ E S hs hb fun v h' g' tk X hd => ?_) rfl
    exact tru_sound (s := { s with heap := h', toks := tk }) h2 hd X.gh fun tk' => post h' g' tk' X
  · rename_i f as ks p
    obtain ⟨d, h1, h2⟩ := bnd he
    refine wpAny_isTrue_value (h.e Γ ρ _ d h1 env ow g s _ E S hs hb fun v h' g' tk X hd => ?_) rfl
    exact tru_sound (s := { s with heap := h', toks := tk }) h2 hd X.gh fun tk' => post h' g' tk' X
  · cases he
end
end Mine
end

section
open PySem PySem.W PyProof.Rows PySem.Calls PySem.SeqAt
set_option linter.all false
set_option maxRecDepth 100000
namespace Mine
section
variable {prog : Program} {w : World} {A : Around} {base : Heap}

theorem subs_eq {i : Expr} {o k : Value} (h : ∀ l u s p, i ≠ .Slice l u s p) : subscripted i false o k = operate [o, k] (getItem o k) := by
  cases i <;> first | rfl | (exact absurd rfl (h _ _ _ _))

theorem idx_sound {s : Shared} {g : PH} {h9 : HS g s.heap} {value slice : Expr} {d k r : D} {o i : Value} {Q E : Value → Shared → Prop} (e : idxD d k = some r) (ho : SD g s.heap o d) (hi : DI g i k) (hs : ∀ l u s p, slice ≠ .Slice l u s p)
    (h : ∀ v, DI g v r → Q v s) : wpAny (model prog w) A (subscriptTail value slice o i) Q E s := by
  unfold idxD at e
  split at e
  · obtain ⟨u, rfl⟩ := hi.int_inv
    split at e
    · rename_i ds z hz
      have key : ∀ a vs n, s.heap.get? a = some (lstO vs n) → DIs g vs ds → wpAny (model prog w) A (subscriptTail value slice (.ref a) (.int z u)) Q E s := by
        intro a vs n ea ra
        obtain ⟨x, e1, e2⟩ := ra.get e
        have hl := lstO_isList ea
        have hlen : z.toNat < ds.length := by
          rcases Nat.lt_or_ge z.toNat ds.length with q | q
          · exact q
          · rw [List.getElem?_eq_none q] at e; cases e
        unfold big at hz
        exact tail_any hl.typeIs slot_list_getitem.lookup (wpAny_getItem_list hl hz.1 (by first | lia | omega) (by simpa using e1) (h x e2)) (subs_eq hs)
      rcases ho with hd | ⟨a, vs, n, ds', rfl, ea, ra, q⟩
      · obtain ⟨a, vs, n, rfl, ea, ra⟩ := hd.lst_inv
        exact key a vs n (h9 _ _ ea) ra
      · cases q; exact key a vs n ea ra
    · cases e
  · obtain ⟨u, rfl⟩ := hi.int_inv
    split at e
    · rename_i ds z hz
      rcases ho with hd | ⟨a, vs, n, ds', rfl, ea, ra, q⟩
      · obtain ⟨a, vs, o, rfl, ea, ta, ra⟩ := hd.tup_inv
        obtain ⟨x, e1, e2⟩ := ra.get e
        have hlen : z.toNat < ds.length := by
          rcases Nat.lt_or_ge z.toNat ds.length with q | q
          · exact q
          · rw [List.getElem?_eq_none q] at e; cases e
        unfold big at hz
        have hvl := ra.length
        refine tail_any (tupO_isTup (h9 _ _ ea) ta).typeIs slot_tuple_getitem.lookup (getItem_tuple (j := z.toNat) (tupO_isTup (h9 _ _ ea) ta) (by first | lia | omega) (by first | lia | omega) ?_ (by simpa using e1) (h x e2)) (subs_eq hs)
        unfold seqIndex?
        simp only [List.size_toArray]
        have h1 : ¬ z < 0 := by first | lia | omega
        simp [h1]
        (first | lia | omega)
      · cases q
    · cases e
  · cases e

theorem slice_sound {s : Shared} {g : PH} (hg : HS g s.heap) {value : Expr} {low upp : Option Expr} {p : Pos} {ds' : List D} {a : Addr} {vs vs' : List Value} {n : Nat} {vl vu : Value} {lo hi : Option Int} {Q E : Value → Shared → Prop} {tk : Nat} {h2 : Heap} {sl : Addr}
    (ea : g a = some (lstO vs n)) (pl : IsPart vl lo) (pu : IsPart vu hi) (he : slicePick vs.toArray lo hi none = vs'.toArray) (hds : DIs g vs' ds') (hsz : vs.length ≤ sizeLine)
    (hsl : sl = s.heap.objs.size) (hh : h2 = s.heap.push { cls := .type "slice", data := .fields #[vl, vu, .none] })
    (h : ∀ v h' g' tk, Ext s.heap h' g g' → DI g' v (.lst ds') → Q v { s with heap := h', toks := tk }) :
    wpAny (model prog w) A (subscriptTail value (.Slice low upp none p) (.ref a) (.ref sl)) Q E { s with heap := h2, toks := tk } := by
  subst hsl hh
  have hl : (s.heap.push { cls := .type "slice", data := .fields #[vl, vu, .none] }).IsList a vs.toArray := (lstO_isList (hg _ _ ea)).push _
  have X1 : Ext s.heap (s.heap.push { cls := .type "slice", data := .fields #[vl, vu, .none] }) g g := Ext.grow hg _
  refine tail_any (Heap.IsList.typeIs (s := { s with heap := s.heap.push { cls := .type "slice", data := .fields #[vl, vu, .none] }, toks := tk }) hl) slot_list_getitem.lookup ?_ (by rfl)
  refine wpAny_getItem_list_slice (s := { s with heap := s.heap.push { cls := .type "slice", data := .fields #[vl, vu, .none] }, toks := tk }) hl (Heap.IsSliceOf.new _ _ _ _) pl pu .none (by simp) ?_ (by simpa using hsz)
  rw [he]
  have X2 := Ext.push X1.gh (lstO vs' 0)
  exact h _ _ _ _ (X1.trans X2) (.lst (ins_self _ _ _) (hds.mono X2.gg))

theorem call_sound {φ : List D → Option D} {fv : Value} {f : Str} {fp pos : Pos} {args : List Expr} {n : Nat} {Γ : Sig} {ρ : Rho} {ds : List D} {d : D} {env : Env} {ow : Str → Addr} {g : PH} {s : Shared} {Q E : Value → Shared → Prop}
    (hes : SndEs prog w A base n) (hne : args ≠ []) (hf : GlobIs prog w A base env f fv) (F : FnOk prog w A base fv φ) (h1 : evEs n Γ ρ args = some ds) (h2 : φ ds = some d) (S : St env ow g ρ s.heap) (hs : SigOk prog w A base env Γ) (hb : Kp base s.heap)
    (post : ∀ v h' g' tk, Ext s.heap h' g g' → DI g' v d → Q v { s with heap := h', toks := tk }) : wpAny (model prog w) A (eval (.Call (.Name f fp) args [] pos) env) Q E s := by
  refine Call_ (hf s _ E fp hb ?_)
  have hst := star_eq (env := env) h1 pos
  rw [hst]
  refine callWith_of (P := Kp base) ?_ F.keep ?_
  · have : ∀ l : List Expr, (l.map fun e => (false, eval e env)).any (·.1) = false := by
      intro l; induction l <;> simp_all
    rw [this]; rfl
  · have key : wpAny (model prog w) A (spliced (args.map fun e => (false, eval e env))) (fun vs s₁ => Kp base s₁.heap ∧ wpAny (model prog w) A (call fv ([] ++ vs) []) Q E s₁) E s :=
      hes Γ ρ args ds h1 env ow g s _ E S hs hb fun vs h' g' tk X hd => ⟨hb.trans X.kp, F.call vs ds d g' { s with heap := h', toks := tk } Q E h2 hd X.gh (hb.trans X.kp) fun v h'' g'' tk' X' hd' => post v h'' g'' tk' (X.trans X') hd'⟩
    cases args with
    | nil => exact absurd rfl hne
    | cons e r => exact Calls.evalArgs_plain key

theorem it_form {n : Nat} {Γ : Sig} {ρ : Rho} {tg e : Expr} {ds : List D} (h : evIt n Γ ρ tg e = some ds) (env : Env) (x : Value) : foldedSetIterable e env x = pure x := by
  cases n with
  | zero => exact nomatch (show (none : Option (List D)) = some ds from h)
  | succ n => cases e <;> first | rfl | exact nomatch (show (none : Option (List D)) = some ds from h)

theorem any_false : ∀ (l : List Expr) (env : Env), (l.map fun e => (false, eval e env)).any (·.1) = false := by
  intro l env; induction l <;> simp_all

theorem comp_turn {n : Nat} (H : All prog w A base n) (hh : A.handled = none) {env : Env} {tg elt : Expr} {ifs : List Expr} {sc : Scope} {cl : List (Str × Addr)} {ρ : Rho} (C : Addr) (hnl : ∀ x ∈ tgN tg, sc.names.lookup x = some .local) :
    CompTurn prog w A base (compEnvC sc cl C env) tg ifs elt (compRho sc ρ) (fun d => (tgD tg d).bind fun bs => (evTs n noSig (updAll (compRho sc ρ) bs) .And ifs).bind fun c => if c then (evE n noSig (updAll (compRho sc ρ) bs) elt).map some else some none) := by
  intro d o ow g s v E Y N hf S hbC hb hd hy hn
  simp only [Option.bind_eq_some_iff] at hf
  obtain ⟨bs, h1, c, h2, h3⟩ := hf
  have hkl : ∀ x ∈ tgN tg, (compEnvC sc cl C env).kindOf x = some .local := fun x hx => lookup_relabel_local (hnl x hx)
  have hw : ∀ x sl, compRho sc ρ x = some sl → updAll (compRho sc ρ) bs x = some sl := fun x sl e => by
    rw [updAll_other h1]
    · exact e
    · intro hx
      unfold compRho at e
      rw [hnl x hx] at e
      simp at e
  refine assign_sound hh S h1 (fun x hx => .inl (hkl x hx)) hd fun h' tk S' kp => ?_
  have kp' : ∀ b o, b ≠ (compEnvC sc cl C env).locals → s.heap.get? b = some o → h'.get? b = some o := fun b o hb e => kp b o (fun x hx q => by
    rcases q with q | ⟨q, _⟩
    · exact hb q
    · exact q (hkl x hx)) e
  have hb' : Kp base h' := fun b o e => kp' b o (fun q => by rw [q, hbC] at e; cases e) (hb b o e)
  have hsome : ∀ a, s.heap.get? a ≠ none → h'.get? a ≠ none := fun a e => by
    by_cases q : a = (compEnvC sc cl C env).locals
    · rw [q]; obtain ⟨o, ho⟩ := S'.ns_some; rw [ho]; simp
    · cases z : s.heap.get? a with
      | none => exact absurd z e
      | some o => rw [kp' a o q z]; simp
  have back : ∀ {h₂ : Heap} {g₂ : PH}, Ext h' h₂ g g₂ → (∀ a, g a = none → g₂ a ≠ none → s.heap.get? a = none) ∧ (∀ b o, b ≠ (compEnvC sc cl C env).locals → s.heap.get? b = some o → h₂.get? b = some o) := fun X =>
    ⟨fun a e m => by
      have := X.nw a e m
      cases z : s.heap.get? a with
      | none => rfl
      | some o => exact absurd this (hsome a (by rw [z]; simp)), fun b o hb e => X.kp b o (kp' b o hb e)⟩
  refine H.ifs noSig _ ifs c h2 _ ow g { s with heap := h', toks := tk } _ E S' .no hb' fun h₂ g₂ tk₂ X₂ => ?_
  cases c with
  | false =>
    simp only [Bool.false_eq_true, if_false] at h3 ⊢
    cases h3
    exact hn h₂ g₂ tk₂ rfl ((S'.ext X₂).weaken hw) X₂.gg (back X₂).1 (back X₂).2
  | true =>
    simp only [if_true] at h3 ⊢
    obtain ⟨dd, h4, rfl⟩ := Option.map_eq_some_iff.mp h3
    refine H.e noSig _ elt dd h4 _ ow g₂ { s with heap := h₂, toks := tk₂ } _ E (S'.ext X₂) .no (hb'.trans X₂.kp) fun y h₃ g₃ tk₃ X₃ hdd => ?_
    have X := X₂.trans X₃
    exact hy y h₃ g₃ tk₃ dd rfl hdd ((S'.ext X).weaken hw) X.gg (back X).1 (back X).2

structure CompSc (sc : Scope) (tg : Expr) (env : Env) : Prop where
  kind : sc.kind = .function
  cell : ∀ x ∈ sc.names, x.2 ≠ .cell
  names : ∀ x ∈ sc.names, x.2 = .local → sc.names.lookup x.1 = some .local
  nl : ∀ x ∈ tgN tg, sc.names.lookup x = some .local
  free : ∀ x ∈ sc.names, x.2 = .free → env.kindOf x.1 = some .cell ∧ (env.cells.lookup x.1).isSome = true
  fl : ∀ x ∈ sc.names, x.2 = .free → sc.names.lookup x.1 = some .free

theorem compSc {Γ : Sig} {sc : Scope} {tg : Expr} {env : Env} (hs : SigOk prog w A base env Γ) (h : compOk Γ sc tg = true) : CompSc sc tg env := by
  unfold compOk at h
  simp only [Bool.and_eq_true, List.all_eq_true, beq_iff_eq, bne_iff_ne, Bool.or_eq_true, ne_eq] at h
  obtain ⟨⟨⟨⟨a1, a2⟩, a3⟩, a4⟩, a5⟩ := h
  refine ⟨a1, a2, fun x hx q => ?_, a4, fun x hx q => ?_, fun x hx q => ?_⟩
  · rcases a3 x hx with r | r
    · exact absurd q r
    · exact r
  · rcases a5 x hx with r | r
    · exact absurd q r
    · exact hs.cells _ (by simpa using r.1)
  · rcases a5 x hx with r | r
    · exact absurd q r
    · exact r.2

theorem listcomp_sound {n : Nat} (H : All prog w A base n) (hh : A.handled = none) {Γ : Sig} {ρ : Rho} {tg it elt : Expr} {ifs : List Expr} {sc : Scope} {pos : Pos} {ds outs : List D} {env : Env} {ow : Str → Addr} {g : PH} {s : Shared} {Q E : Value → Shared → Prop}
    (hc : compOk Γ sc tg = true) (h1 : evIt n Γ ρ tg it = some ds) (hlen : ds.length ≤ big) (h2 : compGo (fun d => (tgD tg d).bind fun bs => (evTs n noSig (updAll (compRho sc ρ) bs) .And ifs).bind fun c => if c then (evE n noSig (updAll (compRho sc ρ) bs) elt).map some else some none) ds = some outs)
    (S : St env ow g ρ s.heap) (hs : SigOk prog w A base env Γ) (hb : Kp base s.heap)
    (post : ∀ v h' g' tk, Ext s.heap h' g g' → DI g' v (.lst outs) → Q v { s with heap := h', toks := tk }) : wpAny (model prog w) A (eval (.ListComp elt [⟨tg, it, ifs, 0⟩] sc pos) env) Q E s := by
  have K := compSc hs hc
  rw [eval_ListComp]
  have hfc : ∀ x ∈ sc.names, x.2 = .free → (env.cells.lookup x.1).isSome = true := fun x hx q => (K.free x hx q).2
  refine wpAny_comprehension_free (use := none) rfl (fun x => it_form h1 env x) (closure_eq hfc) K.kind K.names ?_
  refine H.it Γ ρ tg it ds h1 env ow g s _ E S hs hb fun I fp wr StS h' g' tk X W hst hwr hfp => ?_
  have S' := S.ext X
  refine comp_core (s₂ := { s with heap := h', toks := tk }) (RR := fun acc C => compPost (model prog w) A E none Q acc C) S' (hb.trans X.kp) W hst (fun b q => (hwr b q).2) (fun b q wp => ?_) (W.live _ _ hst) (fun b q => hb.none (hwr b q).1) K.cell K.kind K.nl K.free K.fl rfl
    (fun C => comp_turn H hh C K.nl) h2 hlen ?_
  · exact S.w_some wp (hwr b q).1
  · intro D C h'' g'' tk'' m ys k hD hC hDC hn hDo hys hgD hgC hsub hHS hnw hkp
    refine ⟨m, hn, fun h3 hs3 => ?_⟩
    have kp3 : Kp s.heap h3 := fun b o e => by
      have e' := X.kp b o e
      refine (hs3.2 b (fun q => ?_)).trans (hkp b o (fun q => ?_) e')
      · rw [q] at e'; rw [show ({ s with heap := h', toks := tk } : Shared).heap = h' from rfl] at hC; rw [hC] at e'; cases e'
      · rw [(hwr b q).1] at e; cases e
    have hD3 : h3.get? D = some (lstO ys k) := (hs3.2 D hDC).trans hDo
    have hsD : s.heap.get? D = none := X.kp.none hD
    have HS3 : HS g'' h3 := fun b o e => (hs3.2 b (fun q => by rw [q, hgC] at e; cases e)).trans (hHS b o e)
    refine post (.ref D) h3 (ins g'' D (lstO ys k)) tk'' ⟨kp3, X.gg.trans (hsub.trans (ins_sub hgD)), fun b o e => ?_, fun b e m' => ?_⟩ (.lst (ins_self _ _ _) (hys.mono (ins_sub hgD)))
    · unfold ins at e
      by_cases q : b = D
      · subst q; rw [if_pos rfl] at e; cases e; exact hD3
      · rw [if_neg q] at e; exact HS3 b o e
    · unfold ins at m'
      by_cases q : b = D
      · subst q; exact hsD
      · rw [if_neg q] at m'
        by_cases z : g' b = none
        · exact X.kp.none (hnw b z m')
        · exact X.nw b e z
end
end Mine
end

section
open PySem PySem.W PyProof.Rows PySem.Calls PySem.SeqAt
set_option linter.all false
set_option maxRecDepth 100000
namespace Mine
section
variable {prog : Program} {w : World} {A : Around} {base : Heap}

theorem evE_notSlice {n : Nat} {Γ : Sig} {ρ : Rho} {e : Expr} {d : D} (h : evE n Γ ρ e = some d) : ∀ l u s p, e ≠ .Slice l u s p := by
  rintro l u s p rfl
  cases n with
  | zero => exact nomatch (show (none : Option D) = some d from h)
  | succ n => exact nomatch (show (none : Option D) = some d from h)

set_option maxHeartbeats 2000000 in
theorem sndE_step (hh : A.handled = none) (hu : A.units < cLine) {n : Nat} (H : All prog w A base n) : SndE prog w A base (n + 1) := by
  intro Γ ρ e d he env ow g s Q E S hs hb post
  unfold evE at he
  split at he
  · -- Name
    rename_i x p
    split at he
    · cases he
    · rename_i hx
      split at he
      · rename_i d' h1
        cases he
        exact wpAny_Name (S.load h1 fun v hv => post v s.heap g s.toks (Ext.refl S.gh) hv) (by simpa using hx)
      · cases he
  · rename_i c k p
    cases c with
    | int i =>
      obtain rfl : D.int i = d := Option.some.inj he
      exact wpAny_Constant_int (post _ s.heap g _ (Ext.refl S.gh) (.int _ _))
    | bool i =>
      obtain rfl : D.bool i = d := Option.some.inj he
      exact wpAny_Constant_bool (post _ s.heap g s.toks (Ext.refl S.gh) (.bool _))
    | _ => exact nomatch (show (none : Option D) = some d from he)
  · -- BinOp
    rename_i l op r p
    obtain ⟨a, h1, he1⟩ := bnd he
    obtain ⟨b, h2, h3⟩ := bnd he1
    refine wpAny_BinOp (H.e Γ ρ l a h1 env ow g s _ E S hs hb fun v h' g' tk X hd => ?_)
    refine H.e Γ ρ r b h2 env ow g' { s with heap := h', toks := tk } _ E (S.ext X) hs (hb.trans X.kp) fun v' h'' g'' tk' X' hd' => ?_
    exact bin_sound (s := { s with heap := h'', toks := tk' }) h3 (hd.mono X'.gg) hd' X'.gh fun v3 h3 g3 tk3 X3 hd3 => post v3 h3 g3 tk3 ((X.trans X').trans X3) hd3
  · -- Compare
    rename_i l ops rs p
    obtain ⟨op, q1, he1⟩ := bno he
    obtain ⟨r, q2, he2⟩ := bno he1
    clear he he1
    obtain rfl := one_some q1
    obtain rfl := one_some q2
    split at he2
    · cases he2
    · rename_i hm
      obtain ⟨a, h1, he3⟩ := bnd he2
      obtain ⟨b, h2, he4⟩ := bnd he3
      obtain ⟨c, h3, rfl⟩ := mpd he4
      refine wpAny_Compare1 (H.e Γ ρ l a h1 env ow g s _ E S hs hb fun v h' g' tk X hd => ?_) (by simpa using hm)
      refine H.e Γ ρ r b h2 env ow g' { s with heap := h', toks := tk } _ E (S.ext X) hs (hb.trans X.kp) fun v' h'' g'' tk' X' hd' => ?_
      exact cmp_sound (s := { s with heap := h'', toks := tk' }) hu h3 (hd.mono X'.gg) hd' X'.gh (post _ h'' g'' tk' (X.trans X') (.bool _))
  · -- IfExp
    rename_i t a b p
    obtain ⟨c, h1, h2⟩ := bnd he
    refine wpAny_IfExp (H.t Γ ρ t c h1 env ow g s _ E S hs hb fun h' g' tk X => ?_)
    cases c with
    | true =>
      simp only [if_true] at h2 ⊢
      exact H.e Γ ρ a d h2 env ow g' { s with heap := h', toks := tk } _ E (S.ext X) hs (hb.trans X.kp) fun v h'' g'' tk' X' hd => post v h'' g'' tk' (X.trans X') hd
    | false =>
      simp only [Bool.false_eq_true, if_false] at h2 ⊢
      exact H.e Γ ρ b d h2 env ow g' { s with heap := h', toks := tk } _ E (S.ext X) hs (hb.trans X.kp) fun v h'' g'' tk' X' hd => post v h'' g'' tk' (X.trans X') hd
  · -- in brackets
    rename_i v i p
    split at he
    · rename_i lo hk
      obtain ⟨p2, rfl⟩ := sk_from hk
      obtain ⟨a, h1, he1⟩ := bnd he
      obtain ⟨k, h2, h3⟩ := bnd he1
      unfold fromD at h3
      split at h3
      · rename_i ds z
        split at h3
        · rename_i hz
          cases h3
          refine Subscript_ (H.e Γ ρ v _ h1 env ow g s _ E S hs hb fun o h' g' tk X hd => ?_)
          obtain ⟨a, vs, n, rfl, ea, ra⟩ := hd.lst_inv
          refine wpAny_Slice ?_
          rw [evalPart_some]
          refine H.e Γ ρ lo _ h2 env ow g' { s with heap := h', toks := tk } _ E (S.ext X) hs (hb.trans X.kp) fun o2 h'' g'' tk' X' hd' => ?_
          obtain ⟨u, rfl⟩ := hd'.int_inv
          rw [evalPart_none]
          refine wpAny_pure (wpAny_pure ?_)
          have hl := ra.length
          refine slice_sound (s := { s with heap := h'', toks := tk' }) X'.gh (X'.gg _ _ ea) (.int z u) .none ?_ ((ra.mono X'.gg).drop z.toNat) (by rw [sizeLine_eq]; unfold big at hz; (first | lia | omega)) rfl rfl fun v3 h3 g3 tk3 X3 hd3 => post v3 h3 g3 tk3 ((X.trans X').trans X3) hd3
          have := slicePick_from' vs.toArray z.toNat
          rw [Int.toNat_of_nonneg hz.1] at this
          exact this.trans (by simp)
        · cases h3
      · cases h3
    · rename_i up hk
      obtain ⟨p2, rfl⟩ := sk_upto hk
      obtain ⟨a, h1, he1⟩ := bnd he
      obtain ⟨k, h2, h3⟩ := bnd he1
      unfold uptoD at h3
      split at h3
      · rename_i ds z
        split at h3
        · rename_i hz
          cases h3
          refine Subscript_ (H.e Γ ρ v _ h1 env ow g s _ E S hs hb fun o h' g' tk X hd => ?_)
          obtain ⟨a, vs, n, rfl, ea, ra⟩ := hd.lst_inv
          refine wpAny_Slice ?_
          rw [evalPart_none]
          refine wpAny_pure ?_
          rw [evalPart_some]
          refine H.e Γ ρ up _ h2 env ow g' { s with heap := h', toks := tk } _ E (S.ext X) hs (hb.trans X.kp) fun o2 h'' g'' tk' X' hd' => ?_
          obtain ⟨u, rfl⟩ := hd'.int_inv
          refine wpAny_pure ?_
          have hl := ra.length
          refine slice_sound (s := { s with heap := h'', toks := tk' }) X'.gh (X'.gg _ _ ea) .none (.int z u) ?_ ((ra.mono X'.gg).take z.toNat) (by rw [sizeLine_eq]; unfold big at hz; (first | lia | omega)) rfl rfl fun v3 h3 g3 tk3 X3 hd3 => post v3 h3 g3 tk3 ((X.trans X').trans X3) hd3
          have := slicePick_upto' vs.toArray z.toNat
          rw [Int.toNat_of_nonneg hz.1] at this
          exact this.trans (by simp)
        · cases h3
      · cases h3
    · rename_i hk
      obtain ⟨a, h1, he1⟩ := bnd he
      obtain ⟨k, h2, h3⟩ := bnd he1
      refine Subscript_ (H.b Γ ρ v a h1 env ow g s _ E S hs hb fun o h' g' tk X hd => ?_)
      refine H.e Γ ρ i k h2 env ow g' { s with heap := h', toks := tk } _ E (S.ext X) hs (hb.trans X.kp) fun o2 h'' g'' tk' X' hd' => ?_
      have hd2 : SD g'' h'' o a := by
        rcases hd with q | ⟨x, vs, m, ds, q1, q2, q3, q4⟩
        · exact .inl (q.mono X'.gg)
        · exact .inr ⟨x, vs, m, ds, q1, X'.kp _ _ q2, q3.mono X'.gg, q4⟩
      exact idx_sound (s := { s with heap := h'', toks := tk' }) (h9 := X'.gh) h3 hd2 hd' (evE_notSlice h2) fun v3 hd3 => post v3 h'' g'' tk' (X.trans X') hd3
  · -- List
    rename_i es p
    obtain ⟨ds, h1, h2⟩ := bnd he
    split at h2
    · rename_i hl
      cases h2
      refine List_ ?_
      rw [star_eq (env := env) h1 p]
      refine H.es Γ ρ es ds h1 env ow g s _ E S hs hb fun vs h' g' tk X hd => ?_
      have hvl := hd.length
      refine wpAny_newList ?_ (by rw [sizeLine_eq]; unfold big at hl; (first | lia | omega))
      have X2 := Ext.push X.gh (lstO vs 0)
      exact post _ _ _ _ (X.trans X2) (.lst (ins_self _ _ _) (hd.mono X2.gg))
    · cases h2
  · -- Tuple
    rename_i es k p
    obtain ⟨ds, h1, h2⟩ := bnd he
    split at h2
    · rename_i hl
      cases h2
      refine Tuple_ ?_
      rw [star_eq (env := env) h1 p]
      refine H.es Γ ρ es ds h1 env ow g s _ E S hs hb fun vs h' g' tk X hd => ?_
      have hvl := hd.length
      refine wpAny_newTuple ?_ (by rw [sizeLine_eq]; unfold big at hl; (first | lia | omega))
      have X2 := Ext.push X.gh (tupO vs 0)
      exact post _ _ _ _ (X.trans X2) (.tup (ins_self _ _ _) (tupO_ok _ _) (hd.mono X2.gg))
    · cases h2
  · -- ListComp
    rename_i elt gens sc p
    obtain ⟨c, q1, he1⟩ := bno he
    clear he
    obtain rfl := one_some q1
    obtain ⟨tg, it, ifs, a⟩ := c
    dsimp only at he1
    split at he1
    · rename_i ha
      obtain ⟨rfl, hc⟩ := ha
      obtain ⟨ds, h1, h2⟩ := bnd he1
      split at h2
      · rename_i hl
        obtain ⟨outs, h3, rfl⟩ := mpd h2
        exact listcomp_sound H hh hc h1 hl h3 S hs hb post
      · cases h2
    · cases he1
  · -- Call
    rename_i f args ks p
    split at he
    · rename_i hks
      obtain rfl := List.isEmpty_iff.mp hks
      split at he
      · rename_i f fp
        split at he
        · rename_i hf
          split at he
          · rename_i hl
            obtain ⟨a, q1, he1⟩ := bno he
            clear he
            obtain rfl := one_some q1
            · obtain ⟨x, h1, h2⟩ := bnd he1
              have hf' : f = Str.ofString "len" := by simpa using hf
              subst hf'
              refine Call_ (hs.len hl s _ E fp hb ?_)
              have hst : ∀ x q, a ≠ .Starred x q := by
                rintro y q rfl
                cases n with
                | zero => exact nomatch (show (none : Option D) = some x from h1)
                | succ n => cases n with
                  | zero => exact nomatch (show (none : Option D) = some x from h1)
                  | succ n => exact nomatch (show (none : Option D) = some x from h1)
              have hse : backTo p (starEach [a] env) = [(false, eval a env)] := by
                cases a <;> first | rfl | (exact absurd rfl (hst _ _))
              rw [hse]
              refine callWith_of (P := Kp base) rfl (fn_len (prog := prog) (w := w) (A := A) (base := base)).keep ?_
              refine Calls.evalArgs_plain (spliced_cons (H.b Γ ρ a x h1 env ow g s _ E S hs hb fun v h' g' tk X hd => spliced_nil ⟨hb.trans X.kp, ?_⟩))
              show wpAny _ A (call (.builtin "len") [v]) Q E _
              rcases hd with q | ⟨b, vs, m, ds, rfl, q2, q3, rfl⟩
              · exact fn_len.call [v] [x] d g' { s with heap := h', toks := tk } Q E h2 (.cons q .nil) X.gh (hb.trans X.kp) fun v h'' g'' tk' X' hd' => post v h'' g'' tk' (X.trans X') hd'
              · unfold φlen at h2
                simp only at h2
                split at h2
                · rename_i hz
                  cases h2
                  have l1 := q3.length
                  unfold big at hz
                  refine Calls.call_len_list (s := { s with heap := h', toks := tk }) (lstO_isList q2) (by simp [l1]; (first | lia | omega)) ?_
                  refine post (.int vs.toArray.size (tk + 1)) h' g' (tk + 1 + 1) X ?_
                  simp [l1]
                  exact .int _ _
                · cases h2
          · cases he
        · obtain ⟨φ, h1, h2⟩ := bnd he
          split at h2
          · cases h2
          · rename_i hne
            obtain ⟨ds, h3, h4⟩ := bnd h2
            obtain ⟨fv, hf, F⟩ := hs.fn f φ h1
            exact call_sound H.es (by intro q; rw [q] at hne; simp at hne) hf F h3 h4 S hs hb post
      · rename_i b name apos
        obtain ⟨k, q, he1⟩ := bno he
        obtain ⟨a, q1, q2⟩ := bnd q
        obtain rfl := one_some q1
        obtain ⟨q1', q2', rfl⟩ := cBool_some q2
        split at he1
        · rename_i hn
          simp only [Bool.and_eq_true] at hn
          obtain ⟨v, sl, sp, rfl⟩ := isSub_some hn.1.1
          have hname : name = Str.ofString "count" := by simpa using hn.1.2
          subst hname
          obtain ⟨x, h1, h2⟩ := bnd he1
          unfold cntD at h2
          split at h2
          · rename_i ds
            obtain ⟨bs, h3, rfl⟩ := mpd h2
            refine wpAny_Call_method (T := "list") (id := "list.count") rfl rfl hn.2 PySem.F.plainAttrs_list PySem.F.slot_list_count PySem.F.type_list_count ?_
            refine H.e Γ ρ _ _ h1 env ow g s _ E S hs hb fun o h' g' tk X hd => ?_
            obtain ⟨a, vs, m, rfl, ea, ra⟩ := hd.lst_inv
            have hl := X.gh _ _ ea
            refine ⟨⟨_, hl, rfl⟩, fun b e => by cases e; exact ⟨_, hl, rfl⟩, ?_⟩
            refine callWith_of (P := Kp base) rfl keep_builtin ?_
            refine Calls.evalArgs_plain (spliced_cons (wpAny_Constant_bool (k := q1') (pos := q2') (spliced_nil ⟨hb.trans X.kp, ?_⟩)))
            exact count_sound (s := { s with heap := h', toks := tk }) X.gh hl ra h3 fun t tk' => post _ h' g' tk' X (.int _ _)
          · cases h2
        · cases he1
      · cases he
    · cases he
  · cases he

theorem Src.fpOk {s : Shared} {h' : Heap} {g g' : PH} (X : Ext s.heap h' g g') {b : Addr} (hb : h'.get? b = none) : s.heap.get? b = none := X.kp.none hb

theorem range_size (a b c : Int) (hc : 0 < c) : Builtin.Range.rangeSize a b c = if a < b then (b - a - 1) / c + 1 else 0 := by
  unfold Builtin.Range.rangeSize
  rw [if_pos hc]

set_option maxHeartbeats 2000000 in
theorem sndIt_step (hh : A.handled = none) {n : Nat} (H : All prog w A base n) : SndIt prog w A base (n + 1) := by
  intro Γ ρ tg e ds he env ow g s Q E S hs hb post
  -- a list that stands
  have lists : ∀ (e : Expr) (a : List D), evE n Γ ρ e = some (.lst a) → ((isTup tg || isName tg) = true) → (∀ I fp wr StS h' g' tk, Ext s.heap h' g g' → Src prog w A tg I fp wr g' a StS → StS 0 h' → (∀ b ∈ wr, s.heap.get? b = none ∧ g' b = none) → (∀ b ∈ fp, s.heap.get? b = none ∨ g' b ≠ none) → Q (.ref I) { s with heap := h', toks := tk }) →
      wpAny (model prog w) A (eval e env) (fun x s₁ => wpAny (model prog w) A (pyIter x) Q E s₁) E s := by
    intro e a h1 ht post
    refine H.e Γ ρ e _ h1 env ow g s _ E S hs hb fun v h' g' tk X hd => ?_
    obtain ⟨l, vs, m, rfl, el, rl⟩ := hd.lst_inv
    have htg : (∃ x p, tg = .Name x p) ∨ (∃ es k p, tg = .Tuple es k p) := by
      cases tg <;> simp [isTup, isName] at ht <;> first | exact .inl ⟨_, _, rfl⟩ | exact .inr ⟨_, _, _, rfl⟩
    refine iters_list (s := { s with heap := h', toks := tk }) (s₀ := s.heap) hh htg X.gh el rl X.kp Q E fun I fp wr StS h'' kp W hst w1 w2 w3 w4 => ?_
    exact post I fp wr StS h'' g' tk (X.trans (Ext.of_kp X.gh kp)) W hst (fun b q => ⟨w1 b q, w2 b q⟩) w3
  unfold evIt at he
  split at he
  · rename_i f0 args ks p2
    split at he
    rotate_left
    · cases he
    rename_i hks
    obtain rfl := List.isEmpty_iff.mp hks
    split at he
    rotate_left
    · cases he
    rename_i f p
    -- the callee's value, then its arguments
    have callT : ∀ (T : String) (dsa : List D) (K : Value → Shared → Prop), GlobIs prog w A base env f (.type T) → evEs n Γ ρ args = some dsa → args ≠ [] → (∀ vs h' g' tk, Ext s.heap h' g g' → DIs g' vs dsa → wpAny (model prog w) A (call (.type T) vs) K E { s with heap := h', toks := tk }) →
        wpAny (model prog w) A (eval (.Call (.Name f p) args [] p2) env) K E s := by
      intro T dsa K hf h1 hne hk
      refine Call_ (hf s _ E p hb ?_)
      rw [star_eq (env := env) h1 p2]
      refine callWith_of (P := Kp base) (by rw [any_false]; rfl) keep_type ?_
      have key : wpAny (model prog w) A (spliced (args.map fun e => (false, eval e env))) (fun vs s₁ => Kp base s₁.heap ∧ wpAny (model prog w) A (call (.type T) ([] ++ vs) []) K E s₁) E s :=
        H.es Γ ρ args dsa h1 env ow g s _ E S hs hb fun vs h' g' tk X hd => ⟨hb.trans X.kp, hk vs h' g' tk X hd⟩
      cases args with
      | nil => exact absurd rfl hne
      | cons e r => exact Calls.evalArgs_plain key
    have ne : ∀ {dsa : List D}, evEs n Γ ρ args = some dsa → dsa ≠ [] → args ≠ [] := by
      intro dsa h1 h2 q
      subst q
      cases n with
      | zero => exact nomatch (show (none : Option (List D)) = some dsa from h1)
      | succ n => exact h2 (Option.some.inj (show some [] = some dsa from h1)).symm
    split at he
    · -- range
      rename_i hr
      simp only [Bool.and_eq_true] at hr
      have hf : f = Str.ofString "range" := by simpa using hr.2
      obtain ⟨dsa, h1, h2⟩ := bnd he
      unfold rangeOf at h2
      split at h2
      · rename_i b
        split at h2
        · rename_i hz
          cases h2
          refine callT "range" _ _ (by rw [hf]; exact hs.rng hr.1) h1 (ne h1 (by simp)) fun vs h' g' tk X hd => ?_
          obtain ⟨x3, rfl, h3⟩ := hd.one_inv
          obtain ⟨u, rfl⟩ := h3.int_inv
          refine call_range_1 (s := { s with heap := h', toks := tk }) ?_
          have X2 : Ext h' (h'.push { cls := .type "range", data := .fields #[.int 0 tk, .int b u, .int 1 (tk + 1)] }) g' g' := Ext.grow X.gh _
          have X3 := X.trans X2
          have hn : Builtin.Range.rangeSize 0 b 1 = ((b.toNat : Nat) : Int) := by rw [rangeSize_one]; split <;> (first | lia | omega)
          refine iters_range (tg := tg) (s := { s with heap := h'.push { cls := .type "range", data := .fields #[.int 0 tk, .int b u, .int 1 (tk + 1)] }, toks := tk + 1 + 1 }) (s₀ := s.heap) hh X2.gh (IsRange.new h' 0 b 1 tk u (tk + 1)) (small_one (by first | lia | omega) (by first | lia | omega) (by first | lia | omega) (by first | lia | omega)) hn X3.kp Q E fun I fp wr StS h'' kp W hst w1 w2 w3 w4 => ?_
          exact post I fp wr StS h'' g' _ (X3.trans (Ext.of_kp X3.gh kp)) W hst (fun b q => ⟨w1 b q, w2 b q⟩) w3
        · cases h2
      · rename_i a b c
        split at h2
        · rename_i hz
          obtain ⟨rfl, rfl, hz⟩ := hz
          cases h2
          refine callT "range" _ _ (by rw [hf]; exact hs.rng hr.1) h1 (ne h1 (by simp)) fun vs h' g' tk X hd => ?_
          obtain ⟨x3, x5, x7, rfl, h3, h5, h7⟩ := hd.three_inv
          obtain ⟨t, rfl⟩ := h3.int_inv
          obtain ⟨u, rfl⟩ := h5.int_inv
          obtain ⟨v, rfl⟩ := h7.int_inv
          refine call_range_3 (s := { s with heap := h', toks := tk }) (by first | lia | omega) ?_ (Or.inl (PyProof.noPylong_small (by first | lia | omega)))
          have X2 : Ext h' (h'.push { cls := .type "range", data := .fields #[.int 0 t, .int b u, .int 2 v] }) g' g' := Ext.grow X.gh _
          have X3 := X.trans X2
          have hn : Builtin.Range.rangeSize 0 b 2 = ((((b + 1) / 2).toNat : Nat) : Int) := by rw [range_size _ _ _ (by first | lia | omega)]; split <;> (first | lia | omega)
          have hsm : Builtin.Range.small 0 b 2 = true := by
            unfold Builtin.Range.small
            rw [range_size _ _ _ (by first | lia | omega)]
            simp only [Builtin.Range.rangeFitsLong, Bool.and_eq_true, Bool.or_eq_true, decide_eq_true_eq, beq_iff_eq, show (2 : Int) > 0 by decide, if_true]
            split <;> (first | lia | omega)
          refine iters_range (tg := tg) (s := { s with heap := h'.push { cls := .type "range", data := .fields #[.int 0 t, .int b u, .int 2 v] }, toks := tk }) (s₀ := s.heap) hh X2.gh (IsRange.new h' 0 b 2 t u v) hsm hn X3.kp Q E fun I fp wr StS h'' kp W hst w1 w2 w3 w4 => ?_
          exact post I fp wr StS h'' g' _ (X3.trans (Ext.of_kp X3.gh kp)) W hst (fun b q => ⟨w1 b q, w2 b q⟩) w3
        · cases h2
      · cases h2
    · split at he
      · -- zip
        rename_i hr
        simp only [Bool.and_eq_true] at hr
        have hf : f = Str.ofString "zip" := by simpa using hr.2
        split at he
        · rename_i ht
          obtain ⟨⟨la, lb⟩, he1, rfl⟩ := mpd he
          obtain ⟨dsa, h1, h2⟩ := bnd he1
          obtain rfl := two2_some h2
          · obtain ⟨es, k, tp, rfl⟩ : ∃ es k p, tg = .Tuple es k p := by cases tg <;> simp [Mine.isTup] at ht; exact ⟨_, _, _, rfl⟩
            refine callT "zip" _ _ (by rw [hf]; exact hs.zip hr.1) h1 (ne h1 (by simp)) fun vs h' g' tk X hd => ?_
            obtain ⟨x3, x5, rfl, h3, h5⟩ := hd.two_inv
            obtain ⟨a, us, m, rfl, ea, ra⟩ := h3.lst_inv
            obtain ⟨b, ws, m2, rfl, eb, rb⟩ := h5.lst_inv
            refine iters_zip (es := es) (k := k) (p := tp) (s := { s with heap := h', toks := tk }) hh X.gh ea ra eb rb fun x h2 kp it => ?_
            refine it Q E fun I fp wr StS h'' kp2 W hst w1 w2 w3 w4 => ?_
            have X2 : Ext s.heap h'' g g' := X.trans (Ext.of_kp X.gh (kp.trans kp2))
            exact post I fp wr StS h'' g' tk X2 W hst (fun b q => ⟨X.kp.none (w1 b q), w2 b q⟩) (fun b q => (w3 b q).imp (fun z => X.kp.none z) id)
        · cases he
      · split at he
        · -- enumerate
          rename_i hr
          simp only [Bool.and_eq_true] at hr
          have hf : f = Str.ofString "enumerate" := by simpa using hr.2
          split at he
          · rename_i ht
            obtain ⟨la, he1, h3⟩ := bnd he
            obtain ⟨dsa, h1, h2⟩ := bnd he1
            obtain rfl := one1_some h2
            · split at h3
              · cases h3
                obtain ⟨es, k, tp, rfl⟩ : ∃ es k p, tg = .Tuple es k p := by cases tg <;> simp [Mine.isTup] at ht; exact ⟨_, _, _, rfl⟩
                refine callT "enumerate" _ _ (by rw [hf]; exact hs.enu hr.1) h1 (ne h1 (by simp)) fun vs h' g' tk X hd => ?_
                obtain ⟨x3, rfl, h3⟩ := hd.one_inv
                obtain ⟨a, us, m, rfl, ea, ra⟩ := h3.lst_inv
                refine iters_enum (es := es) (k := k) (p := tp) (s := { s with heap := h', toks := tk }) hh X.gh ea ra fun x h2 kp it => ?_
                refine it Q E fun I fp wr StS h'' kp2 W hst w1 w2 w3 w4 => ?_
                have X2 : Ext s.heap h'' g g' := X.trans (Ext.of_kp X.gh (kp.trans kp2))
                exact post I fp wr StS h'' g' tk X2 W hst (fun b q => ⟨X.kp.none (w1 b q), w2 b q⟩) (fun b q => (w3 b q).imp (fun z => X.kp.none z) id)
              · cases h3
          · cases he
        · split at he
          · -- reversed
            rename_i hr
            simp only [Bool.and_eq_true] at hr
            have hf : f = Str.ofString "reversed" := by simpa using hr.2
            split at he
            · rename_i ht
              obtain ⟨la, he1, rfl⟩ := mpd he
              obtain ⟨dsa, h1, h2⟩ := bnd he1
              obtain rfl := one1_some h2
              · obtain ⟨x, tp, rfl⟩ : ∃ x p, tg = .Name x p := by cases tg <;> simp [isName] at ht; exact ⟨_, _, rfl⟩
                refine callT "reversed" _ _ (by rw [hf]; exact hs.rev hr.1) h1 (ne h1 (by simp)) fun vs h' g' tk X hd => ?_
                obtain ⟨x3, rfl, h3⟩ := hd.one_inv
                obtain ⟨a, us, m, rfl, ea, ra⟩ := h3.lst_inv
                refine call_reversed_list (s := { s with heap := h', toks := tk }) (lstO_isList (X.gh _ _ ea)) ?_
                have X2 : Ext h' (h'.push (revObj a ((us.toArray.size : Int) - 1))) g' g' := Ext.grow X.gh _
                have X3 := X.trans X2
                have hnw : h'.get? h'.objs.size = none := get_size_none _
                refine iters_rev (x := x) (p := tp) (s := { s with heap := h'.push (revObj a ((us.toArray.size : Int) - 1)), toks := tk }) (s₀ := s.heap) hh X2.gh ea ra (Heap.get?_push_size _ rfl) (X.kp.none hnw) (X.gh.none hnw) Q E fun I fp wr StS h'' kp W hst w1 w2 w3 w4 => ?_
                exact post I fp wr StS h'' g' tk (X3.trans (Ext.of_kp X3.gh kp)) W hst (fun b q => ⟨w1 b q, w2 b q⟩) w3
            · cases he
          · cases he
  · rename_i x p
    obtain ⟨a, he1, h2⟩ := bnd he
    obtain ⟨d, h1, h3⟩ := bnd he1
    obtain rfl := asL_some h3
    split at h2
    · rename_i ht
      cases h2
      exact lists _ _ h1 ht post
    · cases h2
  · rename_i v i p
    obtain ⟨a, he1, h2⟩ := bnd he
    obtain ⟨d, h1, h3⟩ := bnd he1
    obtain rfl := asL_some h3
    split at h2
    · rename_i ht
      cases h2
      exact lists _ _ h1 ht post
    · cases h2
  · cases he

theorem snd_all (hh : A.handled = none) (hu : A.units < cLine) : ∀ n, All prog w A base n
  | 0 => snd_zero
  | n + 1 => by
    have H := snd_all hh hu n
    exact ⟨sndE_step hh hu H, sndB_step H, sndT_step hu H, sndTs_step H, sndIfs_step H, sndEs_step H, sndIt_step hh H⟩
end
end Mine
end

section
open PySem PySem.W PyProof.Rows PySem.Calls PySem.SeqAt
set_option linter.all false
set_option maxRecDepth 100000
namespace Mine

inductive Fl where
  | next
  | ret (d : D)

noncomputable def freeze (ρ : Rho) (xs : List Str) : Rho := fun x => if xs.contains x then (match ρ x with | some (.own ds) => some (.st (.lst ds)) | o => o) else ρ x

/-- the names of an expression that may come to stand in what it gives -/
noncomputable def namesIn : Nat → Expr → List Str
  | 0, _ => []
  | n + 1, e => match e with
    | .Name x _ => [x]
    | .Tuple es _ _ => es.flatMap (namesIn n)
    | .List es _ => es.flatMap (namesIn n)
    | .BinOp l _ r _ => namesIn n l ++ namesIn n r
    | .Subscript v i _ => namesIn n v ++ namesIn n i
    | .Call _ args _ _ => args.flatMap (namesIn n)
    | _ => []

noncomputable def small : Nat := 100

noncomputable def cInt : Expr → Option Int
  | .Constant c _ _ => (match c with | .int b => some b | _ => none)
  | _ => none
theorem cInt_some {e : Expr} {b : Int} (h : cInt e = some b) : ∃ k p, e = .Constant (.int b) k p := by
  cases e with
  | Constant c k p => cases c with
    | int b' => obtain rfl : b' = b := Option.some.inj h; exact ⟨_, _, rfl⟩
    | _ => exact (nsm h).elim
  | _ => exact (nsm h).elim
noncomputable def lsE : Expr → Option (List Expr)
  | .List es _ => some es
  | _ => none
theorem lsE_some {e : Expr} {es : List Expr} (h : lsE e = some es) : ∃ p, e = .List es p := by
  cases e with
  | List y p => obtain rfl : y = es := Option.some.inj h; exact ⟨p, rfl⟩
  | _ => exact (nsm h).elim
noncomputable def mulE : Expr → Option (List Expr × Expr)
  | .BinOp l op r _ => if isMul op then (lsE l).map fun es => (es, r) else none
  | _ => none
theorem mulE_some {e r : Expr} {es : List Expr} (h : mulE e = some (es, r)) : ∃ p q, e = .BinOp (.List es p) .Mult r q := by
  cases e with
  | BinOp l op r' q =>
    change (if isMul op then (lsE l).map fun es => (es, r') else none) = _ at h
    split at h
    · rename_i ho
      obtain ⟨es', h1, h2⟩ := mpd h
      obtain ⟨p, rfl⟩ := lsE_some h1
      obtain rfl := isMul_some ho
      cases h2
      exact ⟨p, q, rfl⟩
    · cases h
  | _ => exact (nsm h).elim
noncomputable def isCallE : Expr → Bool
  | .Call .. => true
  | _ => false
theorem isCallE_some {e : Expr} (h : isCallE e = true) : ∃ a b c d, e = .Call a b c d := by
  cases e with
  | Call a b c d => exact ⟨_, _, _, _, rfl⟩
  | _ => exact (ftm h).elim
noncomputable def ownD : Option Slot → Option (List D)
  | some (.own ds) => some ds
  | _ => none
theorem ownD_some {o : Option Slot} {ds : List D} (h : ownD o = some ds) : o = some (.own ds) := by
  match o, h with
  | some (.own x), h => cases h; rfl
noncomputable def stI : Option Slot → Option Int
  | some (.st d) => asI d
  | _ => none
theorem stI_some {o : Option Slot} {a : Int} (h : stI o = some a) : o = some (.st (.int a)) := by
  match o, h with
  | some (.st d), h => rw [asI_some h]
noncomputable def isPlain : Expr → Bool
  | .List .. => false
  | .BinOp l op _ _ => !(isMul op && (lsE l).isSome)
  | _ => true

noncomputable def asgN (n : Nat) (Γ : Sig) (ρ : Rho) (x : Str) (v : Expr) : Option (Fl × Rho) :=
  if !Γ.loc.contains x then none else
  if isPlain v then (evE n Γ ρ v).map fun d => (.next, upd ρ x (.st d)) else
  match lsE v with
  | some es => (evEs n Γ ρ es).bind fun ds => if ds.length ≤ big then some (.next, upd ρ x (.own ds)) else none
  | none => obind (mulE v) fun z => (evEs n Γ ρ z.1).bind fun ds => ((evE n Γ ρ z.2).bind asI).bind fun k =>
      if k.toNat < big ∧ 0 ≤ k ∧ ds.length = 1 then some (.next, upd ρ x (.own (List.replicate k.toNat ds).flatten)) else none
noncomputable def asgT (n : Nat) (Γ : Sig) (ρ : Rho) (t : Expr) (es : List Expr) (v : Expr) : Option (Fl × Rho) :=
  obind (nm2 es) fun xy => if isCallE v then (if !(Γ.loc.contains xy.1 && Γ.loc.contains xy.2) then none else
    (evE n Γ (freeze ρ (namesIn 50 v)) v).bind fun d => (tgD t d).map fun bs => (.next, updAll (freeze ρ (namesIn 50 v)) bs)) else none
noncomputable def asgS (n : Nat) (Γ : Sig) (ρ : Rho) (b i v : Expr) : Option (Fl × Rho) :=
  obind (nm b) fun x => obind (cInt v) fun c => if x == ("__debug__" : Str) then none else (ownD (ρ x)).bind fun ds => ((evE n Γ ρ i).bind asI).bind fun k =>
    if 0 ≤ k ∧ k.toNat < ds.length ∧ ds.length ≤ big then some (.next, upd ρ x (.own (ds.set k.toNat (.int c)))) else none
noncomputable def asg1 (n : Nat) (Γ : Sig) (ρ : Rho) (t v : Expr) : Option (Fl × Rho) := match t with
  | .Name x _ => asgN n Γ ρ x v
  | .Tuple es k p => asgT n Γ ρ (.Tuple es k p) es v
  | .Subscript b i _ => asgS n Γ ρ b i v
  | _ => none
noncomputable def augA (n : Nat) (Γ : Sig) (ρ : Rho) (t v : Expr) : Option (Fl × Rho) := match t with
  | .Name x _ => if !Γ.loc.contains x then none else (stI (ρ x)).bind fun a => ((evE n Γ ρ v).bind asI).bind fun b => some (.next, upd ρ x (.st (.int (a + b))))
  | .Subscript b i _ => obind (nm b) fun x => obind (cInt v) fun c => if x == ("__debug__" : Str) then none else (ownD (ρ x)).bind fun ds => ((evE n Γ ρ i).bind asI).bind fun k =>
      if 0 ≤ k ∧ k.toNat < ds.length ∧ ds.length ≤ big then ((ds[k.toNat]?).bind asI).bind fun a => some (.next, upd ρ x (.own (ds.set k.toNat (.int (a + c))))) else none
  | _ => none
/-- x.m(e) -/
noncomputable def methE : Expr → Option (Str × Str × Expr × Pos × Pos × List Keyword)
  | .Call f args ks pos => (match f with
    | .Attribute b m apos => (nm b).bind fun x => (one args).map fun e => (x, m, e, apos, pos, ks)
    | _ => none)
  | _ => none
theorem methE_some {c e : Expr} {x m : Str} {apos pos : Pos} {ks : List Keyword} (h : methE c = some (x, m, e, apos, pos, ks)) : ∃ p, c = .Call (.Attribute (.Name x p) m apos) [e] ks pos := by
  cases c with
  | Call f args ks' pos' => cases f with
    | Attribute b m' apos' =>
      obtain ⟨x', h1, h2⟩ := bnd h
      obtain ⟨e', h3, h4⟩ := mpd h2
      obtain ⟨p, rfl⟩ := nm_some h1
      obtain rfl := one_some h3
      cases h4
      exact ⟨p, rfl⟩
    | _ => exact (nsm h).elim
  | _ => exact (nsm h).elim
noncomputable def exprA (n : Nat) (Γ : Sig) (ρ : Rho) (c : Expr) : Option (Fl × Rho) :=
  obind (methE c) fun z => if z.2.2.2.2.2.isEmpty then (if z.2.2.2.1.endLine == z.2.2.2.2.1.line && !(namesIn 50 z.2.2.1).contains z.1 && z.1 != ("__debug__" : Str) then
    (ownD ((freeze ρ (namesIn 50 z.2.2.1)) z.1)).bind fun ds =>
      if z.2.1 == ("append" : Str) then (evE n Γ (freeze ρ (namesIn 50 z.2.2.1)) z.2.2.1).bind fun d => if ds.length ≤ big then some (.next, upd (freeze ρ (namesIn 50 z.2.2.1)) z.1 (.own (ds ++ [d]))) else none
      else if z.2.1 == ("extend" : Str) then ((evE n Γ (freeze ρ (namesIn 50 z.2.2.1)) z.2.2.1).bind asL).bind fun es => if ds.length + es.length ≤ big then some (.next, upd (freeze ρ (namesIn 50 z.2.2.1)) z.1 (.own (ds ++ es))) else none
      else none
    else none) else none

mutual
noncomputable def exe : Nat → Sig → Rho → Stmt → Option (Fl × Rho)
  | 0, _, _, _ => none
  | n + 1, Γ, ρ, st => match st with
    | .Assign ts v _ => obind (one ts) fun t => asg1 n Γ ρ t v
    | .AugAssign t op v _ => if isAdd op then augA n Γ ρ t v else none
    | .For tg it body els _ => if els.isEmpty then (if !(tgN tg).all Γ.loc.contains then none else (evIt n Γ (freeze ρ (namesIn 50 it)) tg it).bind fun ds => loopA n Γ tg body ds (freeze ρ (namesIn 50 it))) else none
    | .While t body els _ => if els.isEmpty then whileA n Γ t body small ρ else none
    | .If t a b _ => (evT n Γ ρ t).bind fun c => if c then run n Γ ρ a else run n Γ ρ b
    | .Return oe _ => obind oe fun e => (evE n Γ (freeze ρ (namesIn 50 e)) e).map fun d => (.ret d, freeze ρ (namesIn 50 e))
    | .Expr c _ => exprA n Γ ρ c
    | _ => none
noncomputable def run : Nat → Sig → Rho → List Stmt → Option (Fl × Rho)
  | 0, _, _, _ => none
  | _ + 1, _, ρ, [] => some (.next, ρ)
  | n + 1, Γ, ρ, st :: r => (exe n Γ ρ st).bind fun q => match q.1 with
    | .next => run n Γ q.2 r
    | .ret d => some (.ret d, q.2)
noncomputable def loopA : Nat → Sig → Expr → List Stmt → List D → Rho → Option (Fl × Rho)
  | 0, _, _, _, _, _ => none
  | _ + 1, _, _, _, [], ρ => some (.next, ρ)
  | n + 1, Γ, tg, body, d :: ds, ρ => (tgD tg d).bind fun bs => (run n Γ (updAll ρ bs) body).bind fun q => match q.1 with
    | .next => loopA n Γ tg body ds q.2
    | .ret d => some (.ret d, q.2)
noncomputable def whileA : Nat → Sig → Expr → List Stmt → Nat → Rho → Option (Fl × Rho)
  | 0, _, _, _, _, _ => none
  | _ + 1, _, _, _, 0, _ => none
  | n + 1, Γ, t, body, k + 1, ρ => (evT n Γ ρ t).bind fun c => if c then (run n Γ ρ body).bind fun q => (match q.1 with
      | .next => whileA n Γ t body k q.2
      | .ret d => some (.ret d, q.2)) else some (.next, ρ)
end

structure Stp (W W' : Addr → Prop) (h h' : Heap) (g g' : PH) : Prop where
  kp : ∀ a o, ¬ W a → h.get? a = some o → h'.get? a = some o
  gg : Sub g g'
  nw : ∀ a, g a = none → g' a ≠ none → h.get? a = none ∨ W a
  ww : ∀ a, W' a → W a ∨ h.get? a = none

theorem Stp.trans {W W' W'' : Addr → Prop} {h h' h'' : Heap} {g g' g'' : PH} (x : Stp W W' h h' g g') (y : Stp W' W'' h' h'' g' g'') : Stp W W'' h h'' g g'' := by
  have dead : ∀ a, h'.get? a = none → h.get? a = none ∨ W a := fun a e => by
    by_cases wa : W a
    · exact .inr wa
    · cases q : h.get? a with
      | none => exact .inl rfl
      | some o => rw [x.kp a o wa q] at e; cases e
  refine ⟨fun a o wa e => ?_, x.gg.trans y.gg, fun a e m => ?_, fun a wa => ?_⟩
  · refine y.kp a o (fun w' => ?_) (x.kp a o wa e)
    rcases x.ww a w' with r | r
    · exact wa r
    · rw [e] at r; cases r
  · by_cases q : g' a = none
    · rcases y.nw a q m with r | r
      · exact dead a r
      · exact (x.ww a r).symm
    · exact x.nw a e q
  · rcases y.ww a wa with r | r
    · exact x.ww a r
    · exact (dead a r).symm

theorem Stp.of_ext {W : Addr → Prop} {h h' : Heap} {g g' : PH} (X : Ext h h' g g') : Stp W W h h' g g' :=
  ⟨fun a o _ e => X.kp a o e, X.gg, fun a e m => .inl (X.nw a e m), fun a w => .inl w⟩
theorem Stp.same {W W' : Addr → Prop} {h : Heap} {g : PH} (k : ∀ a, W' a → W a) : Stp W W' h h g g :=
  ⟨fun a o _ e => e, Sub.refl _, fun a e m => absurd e m, fun a w => .inl (k a w)⟩

/-- what a callee does that changes one list of the frame's own -/
structure OneStep (a : Addr) (h h' : Heap) (g g' : PH) : Prop where
  kp : ∀ b o, b ≠ a → h.get? b = some o → h'.get? b = some o
  gg : Sub g g'
  gh : HS g' h'
  nw : ∀ b, g b = none → g' b ≠ none → h.get? b = none

section
variable {env : Env} {ow : Str → Addr} {g g' : PH} {ρ : Rho} {h h' : Heap}

theorem St.turn (S : St env ow g ρ h) {x : Str} {ds ds' : List D} {vs' : List Value} {n' : Nat} (e : ρ x = some (.own ds)) (O : OneStep (ow x) h h' g g') (hn : h'.get? (ow x) = some (lstO vs' n')) (hd : DIs g' vs' ds') :
    St env ow g' (upd ρ x (.own ds')) h' ∧ Stp (Wp env ow ρ) (Wp env ow (upd ρ x (.own ds'))) h h' g g' := by
  have wx := S.wO x ds e
  have kw : ∀ a, Wp env ow ρ a → a ≠ ow x → ∀ o, h.get? a = some o → h'.get? a = some o := fun a _ ha o q => O.kp a o ha q
  have oldSI : ∀ y sl v, y ≠ x → ρ y = some sl → SI g h (ow y) v sl → SI g' h' (ow y) v sl := fun y sl v hy q z => by
    cases sl with
    | st d => exact DI.mono O.gg z
    | own es => exact z.kp O.gg fun o => O.kp _ o (fun w => hy (S.inj y x es ds q e w))
  have newV : ∀ v, SI g h (ow x) v (.own ds) → SI g' h' (ow x) v (.own ds') := fun v z => ⟨z.1, vs', n', hn, hd⟩
  have g0 : ∀ a, g a = none → h.get? a ≠ none → g' a = none := fun a ga ha => by
    cases q : g' a with
    | none => rfl
    | some o => exact absurd (O.nw a ga (by rw [q]; simp)) ha
  have oldOwn : ∀ y es, upd ρ x (.own ds') y = some (.own es) → ∃ es', ρ y = some (.own es') := fun y es q => by
    unfold upd at q
    by_cases z : y = x
    · subst z; exact ⟨_, e⟩
    · rw [if_neg z] at q; exact ⟨_, q⟩
  refine ⟨⟨S.hk, O.gh, ?_, fun y sl q k => ?_, fun y c q => ?_, S.apart, g0 _ S.wL (S.w_some (.inl rfl)), fun y c q => ⟨g0 _ (S.wC y c q).1 (S.w_some (.inr (.inl ⟨y, q⟩))), (S.wC y c q).2⟩, fun y es q => ?_, fun y z es fs q1 q2 w => ?_⟩,
    ⟨fun a o wa q => O.kp a o (fun w => wa (.inr (.inr ⟨x, ds, e, w.symm⟩))) q, O.gg, fun a q m => .inl (O.nw a q m), fun a wa => ?_⟩⟩
  · obtain ⟨m, hn', hm⟩ := S.loc
    refine ⟨m, hn'.at' (kw _ (.inl rfl) wx.2.1.symm), fun y sl q k => ?_⟩
    unfold upd at q
    by_cases z : y = x
    · subst z
      rw [if_pos rfl] at q; cases q
      obtain ⟨v, e1, e2⟩ := hm y _ e k
      exact ⟨v, e1, newV v e2⟩
    · rw [if_neg z] at q
      obtain ⟨v, e1, e2⟩ := hm y sl q k
      exact ⟨v, e1, oldSI y sl v z q e2⟩
  · unfold upd at q
    by_cases z : y = x
    · subst z
      rw [if_pos rfl] at q; cases q
      obtain ⟨k2, c, v, e1, ⟨o, ho, hd2⟩, e3⟩ := S.cel y _ e k
      exact ⟨k2, c, v, e1, ⟨o, kw c (.inr (.inl ⟨y, e1⟩)) (wx.2.2 y c e1) o ho, hd2⟩, newV v e3⟩
    · rw [if_neg z] at q
      obtain ⟨k2, c, v, e1, ⟨o, ho, hd2⟩, e3⟩ := S.cel y sl q k
      exact ⟨k2, c, v, e1, ⟨o, kw c (.inr (.inl ⟨y, e1⟩)) (wx.2.2 y c e1) o ho, hd2⟩, oldSI y sl v z q e3⟩
  · obtain ⟨v, o, ho, hd2⟩ := S.isc y c q
    exact ⟨v, o, kw c (.inr (.inl ⟨y, q⟩)) (wx.2.2 y c q) o ho, hd2⟩
  · obtain ⟨es', q'⟩ := oldOwn y es q
    exact ⟨g0 _ (S.wO y es' q').1 (S.w_some (.inr (.inr ⟨y, es', q', rfl⟩))), (S.wO y es' q').2⟩
  · obtain ⟨e1, h1⟩ := oldOwn y es q1
    obtain ⟨e2, h2⟩ := oldOwn z fs q2
    exact S.inj y z e1 e2 h1 h2 w
  · rcases wa with r | r | ⟨y, es, q, r⟩
    · exact .inl (.inl r)
    · exact .inl (.inr (.inl r))
    · obtain ⟨es', q'⟩ := oldOwn y es q
      exact .inl (.inr (.inr ⟨y, es', q', r⟩))
/-- an owned list is given up -/
theorem St.freezeG (S : St env ow g ρ h) {x : Str} {ds : List D} {vs : List Value} {n : Nat} (e : ρ x = some (.own ds)) (ho : h.get? (ow x) = some (lstO vs n)) (hd : DIs g vs ds) :
    St env ow (ins g (ow x) (lstO vs n)) (upd ρ x (.st (.lst ds))) h ∧ Stp (Wp env ow ρ) (Wp env ow (upd ρ x (.st (.lst ds)))) h h g (ins g (ow x) (lstO vs n)) := by
  have wx := S.wO x ds e
  have hs := ins_sub (o := lstO vs n) wx.1
  refine ⟨⟨S.hk, fun b o q => ?_, ?_, fun y sl q k => ?_, S.isc, S.apart, ?_, fun y c q => ?_, fun y es q => ?_, fun y z es fs q1 q2 w => ?_⟩, ⟨fun a o _ q => q, hs, fun a q m => ?_, fun a wa => ?_⟩⟩
  · unfold ins at q
    by_cases z : b = ow x
    · subst z; rw [if_pos rfl] at q; cases q; exact ho
    · rw [if_neg z] at q; exact S.gh b o q
  · obtain ⟨m, hn', hm⟩ := S.loc
    refine ⟨m, hn', fun y sl q k => ?_⟩
    unfold upd at q
    by_cases z : y = x
    · subst z
      rw [if_pos rfl] at q; cases q
      obtain ⟨v, e1, rfl, _⟩ := hm y _ e k
      exact ⟨_, e1, .lst (ins_self _ _ _) (hd.mono hs)⟩
    · rw [if_neg z] at q
      obtain ⟨v, e1, e2⟩ := hm y sl q k
      exact ⟨v, e1, e2.kp hs fun o q => q⟩
  · unfold upd at q
    by_cases z : y = x
    · subst z
      rw [if_pos rfl] at q; cases q
      obtain ⟨k2, c, v, e1, e2, rfl, _⟩ := S.cel y _ e k
      exact ⟨k2, c, _, e1, e2, .lst (ins_self _ _ _) (hd.mono hs)⟩
    · rw [if_neg z] at q
      obtain ⟨k2, c, v, e1, e2, e3⟩ := S.cel y sl q k
      exact ⟨k2, c, v, e1, e2, e3.kp hs fun o q => q⟩
  · unfold ins; rw [if_neg wx.2.1.symm]; exact S.wL
  · refine ⟨?_, (S.wC y c q).2⟩
    unfold ins; rw [if_neg (wx.2.2 y c q)]; exact (S.wC y c q).1
  · unfold upd at q
    by_cases z : y = x
    · subst z; rw [if_pos rfl] at q; cases q
    · rw [if_neg z] at q
      refine ⟨?_, (S.wO y es q).2⟩
      unfold ins; rw [if_neg (fun w => z (S.inj y x es ds q e w))]; exact (S.wO y es q).1
  · unfold upd at q1 q2
    by_cases z1 : y = x
    · rw [if_pos z1] at q1; cases q1
    · by_cases z2 : z = x
      · rw [if_pos z2] at q2; cases q2
      · rw [if_neg z1] at q1; rw [if_neg z2] at q2
        exact S.inj y z es fs q1 q2 w
  · unfold ins at m
    by_cases z : a = ow x
    · exact .inr (.inr (.inr ⟨x, ds, e, z.symm⟩))
    · rw [if_neg z] at m; exact absurd q m
  · rcases wa with r | r | ⟨y, es, q, r⟩
    · exact .inl (.inl r)
    · exact .inl (.inr (.inl r))
    · unfold upd at q
      by_cases z : y = x
      · subst z; rw [if_pos rfl] at q; cases q
      · rw [if_neg z] at q; exact .inl (.inr (.inr ⟨y, es, q, r⟩))

end
section
variable {env : Env} {ow : Str → Addr} {g : PH} {ρ : Rho} {h h' : Heap}
/-- a list of the frame's own changes -/
theorem St.mutate (S : St env ow g ρ h) {x : Str} {ds ds' : List D} {vs' : List Value} {n' : Nat} (e : ρ x = some (.own ds)) (hs : Heap.SameBut (ow x) h h') (hn : h'.get? (ow x) = some (lstO vs' n')) (hd : DIs g vs' ds') :
    St env ow g (upd ρ x (.own ds')) h' ∧ Stp (Wp env ow ρ) (Wp env ow (upd ρ x (.own ds'))) h h' g g :=
  S.turn e ⟨fun b o hb q => (hs.2 b hb).trans q, Sub.refl _, fun b o q => (hs.2 b fun z => by rw [z, (S.wO x ds e).1] at q; cases q).trans (S.gh b o q), fun _ z n => absurd z n⟩ hn hd
/-- an owned list is given up -/
theorem St.freeze1 (S : St env ow g ρ h) {x : Str} {ds : List D} (e : ρ x = some (.own ds)) :
    ∃ g', St env ow g' (upd ρ x (.st (.lst ds))) h ∧ Stp (Wp env ow ρ) (Wp env ow (upd ρ x (.st (.lst ds)))) h h g g' := by
  obtain ⟨vs, n, ho, hd⟩ := S.own_some e
  exact ⟨_, S.freezeG e ho hd⟩

theorem freeze_cons (ρ : Rho) (x : Str) (xs : List Str) : freeze ρ (x :: xs) = freeze (match ρ x with | some (.own ds) => upd ρ x (.st (.lst ds)) | _ => ρ) xs := by
  funext y
  unfold freeze
  by_cases hy : xs.contains y = true
  · by_cases hx : y = x
    · subst hx
      simp only [List.contains_cons, beq_self_eq_true, Bool.true_or, if_true, hy]
      cases q : ρ y with
      | none => simp [q]
      | some sl => cases sl <;> simp [q, upd]
    · have : (x :: xs).contains y = true := by
        have hm : y ∈ xs := by simpa using hy
        simp [hm]
      rw [if_pos this, if_pos hy]
      cases q : ρ x with
      | none => rfl
      | some sl => cases sl <;> simp [upd, hx]
  · by_cases hx : y = x
    · subst hx
      have : (y :: xs).contains y = true := by simp
      rw [if_pos this, if_neg hy]
      cases q : ρ y with
      | none => simp [q]
      | some sl => cases sl <;> simp [q, upd]
    · have : ¬ (x :: xs).contains y = true := by simpa [List.contains_cons, hx] using hy
      rw [if_neg this, if_neg hy]
      cases q : ρ x with
      | none => rfl
      | some sl => cases sl <;> simp [upd, hx]

theorem St.freezeAll (xs : List Str) : ∀ {ρ : Rho} {g : PH}, St env ow g ρ h → ∃ g', St env ow g' (freeze ρ xs) h ∧ Stp (Wp env ow ρ) (Wp env ow (freeze ρ xs)) h h g g' := by
  induction xs with
  | nil =>
    intro ρ g S
    have : freeze ρ [] = ρ := by funext y; simp [freeze]
    rw [this]
    exact ⟨g, S, Stp.same fun _ w => w⟩
  | cons x xs ih =>
    intro ρ g S
    rw [freeze_cons]
    cases q : ρ x with
    | none => exact ih S
    | some sl =>
      cases sl with
      | st d => exact ih S
      | own ds =>
        obtain ⟨g₁, S₁, T₁⟩ := S.freeze1 q
        obtain ⟨g₂, S₂, T₂⟩ := ih S₁
        exact ⟨g₂, S₂, T₁.trans T₂⟩
end
end Mine
end

section
open PySem PySem.W PyProof.Rows PySem.Calls PySem.SeqAt
set_option linter.all false
set_option maxRecDepth 100000
namespace Mine

/-- a frame at work -/
structure Cf (base : Heap) (env : Env) (ow : Str → Addr) (g : PH) (ρ : Rho) (h : Heap) : Prop where
  S : St env ow g ρ h
  b : Kp base h
  wb : ∀ a, Wp env ow ρ a → base.get? a = none

theorem Cf.ext {base : Heap} {env : Env} {ow : Str → Addr} {g g' : PH} {ρ : Rho} {h h' : Heap} (c : Cf base env ow g ρ h) (X : Ext h h' g g') : Cf base env ow g' ρ h' := ⟨c.S.ext X, c.b.trans X.kp, c.wb⟩
theorem Cf.stp {base : Heap} {env : Env} {ow ow' : Str → Addr} {g g' : PH} {ρ ρ' : Rho} {h h' : Heap} (c : Cf base env ow g ρ h) (S : St env ow' g' ρ' h') (T : Stp (Wp env ow ρ) (Wp env ow' ρ') h h' g g') : Cf base env ow' g' ρ' h' :=
  ⟨S, fun a o e => T.kp a o (fun w => by rw [c.wb a w] at e; cases e) (c.b a o e), fun a w => (T.ww a w).elim (c.wb a) fun q => c.b.none q⟩

noncomputable def FlR (g : PH) : Fl → Flow → Prop
  | .next, f => f = .next
  | .ret d, f => ∃ v, f = .ret v ∧ DI g v d

noncomputable def PoX (env : Env) (ow : Str → Addr) (g : PH) (ρ : Rho) (s : Shared) (Q : Flow → Shared → Prop) (r : Fl × Rho) : Prop := ∀ f ow' g' h' tk, FlR g' r.1 f → St env ow' g' r.2 h' → Stp (Wp env ow ρ) (Wp env ow' r.2) s.heap h' g g' → Q f { s with heap := h', toks := tk }
section
variable (prog : Program) (w : World) (A : Around) (base : Heap)
noncomputable def SndX (n : Nat) : Prop := ∀ Γ ρ st r, exe n Γ ρ st = some r → ∀ (env : Env) (ow : Str → Addr) (g : PH) (s : Shared) (Q : Flow → Shared → Prop) (E : Value → Shared → Prop), Cf base env ow g ρ s.heap → SigOk prog w A base env Γ →
  PoX env ow g ρ s Q r → wpAny (model prog w) A (exec st env) Q E s
noncomputable def SndR (n : Nat) : Prop := ∀ Γ ρ body r, run n Γ ρ body = some r → ∀ (env : Env) (ow : Str → Addr) (g : PH) (s : Shared) (Q : Flow → Shared → Prop) (E : Value → Shared → Prop), Cf base env ow g ρ s.heap → SigOk prog w A base env Γ →
  PoX env ow g ρ s Q r → wpAny (model prog w) A (execs body env) Q E s
end

section
variable {prog : Program} {w : World} {A : Around} {base : Heap}

theorem interactive_fn {env : Env} (h : env.scope.kind = .function) : interactive env = false := by unfold interactive; rw [h]; rfl

theorem place_w {env : Env} {ow : Str → Addr} {ρ : Rho} {x : Str} {b : Addr} (h : place env x b) : Wp env ow ρ b := h.elim .inl fun q => .inr (.inl ⟨x, q.2⟩)

/-- a store's step -/
theorem store_stp {env : Env} {ow ow' : Str → Addr} {g : PH} {ρ ρ' : Rho} {h h' : Heap} (xs : List Str) (hk : ∀ b o, (∀ x ∈ xs, ¬ place env x b) → h.get? b = some o → h'.get? b = some o) (hw : ∀ a, Wp env ow' ρ' a → Wp env ow ρ a ∨ h.get? a = none) :
    Stp (Wp env ow ρ) (Wp env ow' ρ') h h' g g :=
  ⟨fun a o wa e => hk a o (fun _ _ q => wa (place_w q)) e, Sub.refl _, fun _ e m => absurd e m, hw⟩

theorem wp_upd_st {env : Env} {ow : Str → Addr} {ρ : Rho} {x : Str} {d : D} {a : Addr} (h : Wp env ow (upd ρ x (.st d)) a) : Wp env ow ρ a := by
  rcases h with r | r | ⟨y, es, q, r⟩
  · exact .inl r
  · exact .inr (.inl r)
  · unfold upd at q
    by_cases z : y = x
    · rw [if_pos z] at q; cases q
    · rw [if_neg z] at q; exact .inr (.inr ⟨y, es, q, r⟩)
theorem wp_updAll {env : Env} {ow : Str → Addr} {a : Addr} : ∀ {bs : List (Str × D)} {ρ : Rho}, Wp env ow (updAll ρ bs) a → Wp env ow ρ a
  | [], _, h => h
  | (_, _) :: _, _, h => wp_upd_st (wp_updAll h)

/-- a fresh list is bound -/
theorem own_store {M : Model} {env : Env} {ow : Str → Addr} {g g' : PH} {ρ : Rho} {s : Shared} {h' : Heap} {tk : Nat} {x : Str} {ds : List D} {vs : List Value} {n : Nat} {a : Addr} {Q : Unit → Shared → Prop} {E : Value → Shared → Prop}
    (C : Cf base env ow g ρ s.heap) (X : Ext s.heap h' g g') (ha : h'.get? a = some (lstO vs n)) (hd : DIs g' vs ds) (hn : s.heap.get? a = none) (hg : g' a = none) (hk : kindOk env x)
    (post : ∀ ow' h'' tk', St env ow' g' (upd ρ x (.own ds)) h'' → Stp (Wp env ow ρ) (Wp env ow' (upd ρ x (.own ds))) s.heap h'' g g' → Q () { s with heap := h'', toks := tk' }) :
    wpAny M A (storeName env x (.ref a)) Q E { s with heap := h', toks := tk } := by
  have S' := C.S.ext X
  have wn : ∀ b, Wp env ow ρ b → b ≠ a := fun b wb q => C.S.w_some wb (q ▸ hn)
  refine S'.storeG (s := { s with heap := h', toks := tk }) (sl := .own ds) (a := a) hk ⟨rfl, vs, n, ha, hd⟩ (fun es e => ⟨hg, fun q => wn _ (.inl rfl) q.symm, fun y c e => wn c (.inr (.inl ⟨y, e⟩)), fun y es' hy e => wn _ (.inr (.inr ⟨y, es', e, rfl⟩))⟩) fun h'' tk' S'' kp => ?_
  refine post _ h'' tk' S'' ⟨fun b o wb e => kp b o (fun q => wb (place_w q)) (X.kp b o e), X.gg, fun b e m => .inl (X.nw b e m), fun b wb => ?_⟩
  rcases wb with r | r | ⟨y, es, q, r⟩
  · exact .inl (.inl r)
  · exact .inl (.inr (.inl r))
  · unfold upd at q
    by_cases z : y = x
    · subst z
      simp only [if_pos rfl] at r
      exact .inr (r ▸ hn)
    · rw [if_neg z] at q
      simp only [if_neg z] at r
      exact .inl (.inr (.inr ⟨y, es, q, r⟩))

theorem st_store {M : Model} {env : Env} {ow : Str → Addr} {g g' : PH} {ρ : Rho} {s : Shared} {h' : Heap} {tk : Nat} {x : Str} {d : D} {v : Value} {Q : Unit → Shared → Prop} {E : Value → Shared → Prop}
    (C : Cf base env ow g ρ s.heap) (X : Ext s.heap h' g g') (hd : DI g' v d) (hk : kindOk env x)
    (post : ∀ h'' tk', St env ow g' (upd ρ x (.st d)) h'' → Stp (Wp env ow ρ) (Wp env ow (upd ρ x (.st d))) s.heap h'' g g' → Q () { s with heap := h'', toks := tk' }) :
    wpAny M A (storeName env x v) Q E { s with heap := h', toks := tk } :=
  (C.S.ext X).store (s := { s with heap := h', toks := tk }) hk hd fun h'' tk' S'' kp =>
    post h'' tk' S'' ((Stp.of_ext X).trans (store_stp [x] (fun b o q e => kp b o (q x (by simp)) e) fun b wb => .inl (wp_upd_st wb)))

/-- the comprehension, for any use of what it makes -/
theorem listcomp_gen {n : Nat} (H : All prog w A base n) (hh : A.handled = none) {Γ : Sig} {ρ : Rho} {tg it elt : Expr} {ifs : List Expr} {sc : Scope} {pos fpos : Pos} {ds outs : List D} {env : Env} {ow : Str → Addr} {g : PH} {s : Shared} {Q E : Value → Shared → Prop} {use : Option (Value → Sem Unit)}
    (hc : compOk Γ sc tg = true) (h1 : evIt n Γ ρ tg it = some ds) (hlen : ds.length ≤ big) (h2 : compGo (fun d => (tgD tg d).bind fun bs => (evTs n noSig (updAll (compRho sc ρ) bs) .And ifs).bind fun c => if c then (evE n noSig (updAll (compRho sc ρ) bs) elt).map some else some none) ds = some outs)
    (S : St env ow g ρ s.heap) (hs : SigOk prog w A base env Γ) (hb : Kp base s.heap)
    (post : ∀ D C h' g' tk m, Ext s.heap h' g g' → DI g' (.ref D) (.lst outs) → s.heap.get? C = none → g' C = none → h'.Ns C m → compPost (model prog w) A E use Q (.ref D) C (.ok .next) { s with heap := h', toks := tk }) :
    wpAny (model prog w) A (comprehension (.ListComp elt [⟨tg, it, ifs, 0⟩] sc pos) sc env fpos (newList []) false (eval it env) use) Q E s := by
  have K := compSc hs hc
  have hfc : ∀ x ∈ sc.names, x.2 = .free → (env.cells.lookup x.1).isSome = true := fun x hx q => (K.free x hx q).2
  refine wpAny_comprehension_free (use := use) rfl (fun x => it_form h1 env x) (closure_eq hfc) K.kind K.names ?_
  refine H.it Γ ρ tg it ds h1 env ow g s _ E S hs hb fun I fp wr StS h' g' tk X W hst hwr hfp => ?_
  have S' := S.ext X
  refine comp_core (s₂ := { s with heap := h', toks := tk }) (RR := fun acc C => compPost (model prog w) A E use Q acc C) S' (hb.trans X.kp) W hst (fun b q => (hwr b q).2) (fun b q wp => ?_) (W.live _ _ hst) (fun b q => hb.none (hwr b q).1) K.cell K.kind K.nl K.free K.fl rfl
    (fun C => comp_turn H hh C K.nl) h2 hlen ?_
  · exact S.w_some wp (hwr b q).1
  · intro D C h3 g'' tk'' m ys k hD hC hDC hn hDo hys hgD hgC hsub hHS hnw hkp
    have kp3 : Kp s.heap h3 := fun b o e => by
      have e' := X.kp b o e
      refine hkp b o (fun q => ?_) e'
      rw [(hwr b q).1] at e; cases e
    have hsD : s.heap.get? D = none := X.kp.none hD
    refine post D C h3 (ins g'' D (lstO ys k)) tk'' m ⟨kp3, X.gg.trans (hsub.trans (ins_sub hgD)), fun b o e => ?_, fun b e m' => ?_⟩ (.lst (ins_self _ _ _) (hys.mono (ins_sub hgD))) (X.kp.none hC) (by unfold ins; rw [if_neg hDC.symm]; exact hgC) hn
    · unfold ins at e
      by_cases q : b = D
      · subst q; rw [if_pos rfl] at e; cases e; exact hDo
      · rw [if_neg q] at e; exact hHS b o e
    · unfold ins at m'
      by_cases q : b = D
      · subst q; exact hsD
      · rw [if_neg q] at m'
        by_cases z : g' b = none
        · exact X.kp.none (hnw b z m')
        · exact X.nw b e z

theorem assign_comp {n : Nat} (H : All prog w A base n) (hh : A.handled = none) {Γ : Sig} {ρ : Rho} {x : Str} {px spos : Pos} {v : Expr} {d : D} {env : Env} {ow : Str → Addr} {g : PH} {s : Shared} {Q : Flow → Shared → Prop} {E : Value → Shared → Prop}
    (h1 : evE n Γ ρ v = some d) (Hn : ∀ m, m ≤ n → All prog w A base m) (C : Cf base env ow g ρ s.heap) (hs : SigOk prog w A base env Γ) (hk : kindOk env x)
    (post : ∀ g' h' tk, St env ow g' (upd ρ x (.st d)) h' → Stp (Wp env ow ρ) (Wp env ow (upd ρ x (.st d))) s.heap h' g g' → Q .next { s with heap := h', toks := tk }) :
    wpAny (model prog w) A (exec (.Assign [.Name x px] v spos) env) Q E s := by
  have plain : swapsWith v (some (.Name x px)) spos.line env = pure false → wpAny (model prog w) A (exec (.Assign [.Name x px] v spos) env) Q E s := fun hsw =>
    wpAny_Assign_Name (H.e Γ ρ v d h1 env ow g s _ E C.S hs C.b fun v h' g' tk X hd => st_store C X hd hk fun h'' tk' S'' T => post g' h'' tk' S'' T) hsw
  cases v with
  | ListComp elt gens sc p =>
    have hb : ∃ b : Bool, swapsWith (.ListComp elt gens sc p) (some (.Name x px)) spos.line env = pure b := ⟨_, rfl⟩
    obtain ⟨b, hb⟩ := hb
    cases b with
    | false => exact plain hb
    | true =>
      cases n with
      | zero => exact (nsm h1).elim
      | succ n =>
        have h2 := h1
        unfold evE at h2
        obtain ⟨c, q1, h3⟩ := bno h2
        clear h2
        obtain rfl := one_some q1
        obtain ⟨tg, it, ifs, a⟩ := c
        dsimp only at h3
        split at h3
        · rename_i ha
          obtain ⟨rfl, hc⟩ := ha
          obtain ⟨ds, e1, e2⟩ := bnd h3
          split at e2
          · rename_i hl
            obtain ⟨outs, e3, rfl⟩ := mpd e2
            rw [exec_Assign_Name_used _ _ _ _ hb]
            refine wpAny_bind (wpAny_standAt (wpAny_bind ?_))
            show wpAny _ A (do let _ ← comprehension (.ListComp elt [⟨tg, it, ifs, 0⟩] sc p) sc env _ (newList []) false (eval it env) (some (assign (.Name x px) env))) _ _ s
            refine wpAny_bind (wpAny_mono (listcomp_gen (Hn n (Nat.le_succ n)) hh (Q := fun _ s' => Q .next s') hc e1 hl e3 C.S hs C.b fun D CC h' g' tk m X hd hCn hgC hns => ?_) (fun _ s' hq => wpAny_pure (wpAny_pure hq)) fun _ _ e => e)
            show wpAny _ A (assign (.Name x px) env (.ref D)) _ _ _
            have wn : ∀ b, Wp env ow ρ b → b ≠ CC := fun b wb q => C.S.w_some wb (q ▸ hCn)
            refine wpAny_assign_Name ((C.S.ext X).store (s := { s with heap := h', toks := tk }) hk hd fun h'' tk' S'' kp => ?_)
            have hCp : ¬ place env x CC := fun q => wn CC (place_w q) rfl
            refine ⟨m, hns.at' fun o e => kp CC o hCp e, fun h3 hs3 => ?_⟩
            have S3 : St env ow g' (upd ρ x (.st (.lst outs))) h3 := S''.step (Sub.refl _) (fun b o e => (hs3.2 b (fun q => by rw [q, hgC] at e; cases e)).trans (S''.gh b o e))
              (fun b wb o e => (hs3.2 b (wn b (wp_upd_st wb))).trans e) (fun _ e m => absurd e m)
            refine post g' h3 tk' S3 ⟨fun b o wb e => (hs3.2 b (fun q => by rw [q, hCn] at e; cases e)).trans (kp b o (fun q => wb (place_w q)) (X.kp b o e)), X.gg, fun b e m => .inl (X.nw b e m), fun b wb => .inl (wp_upd_st wb)⟩
          · cases e2
        · cases h3
  | SetComp a b c p => cases n with
    | zero => exact (nsm h1).elim
    | succ n => exact (nsm h1).elim
  | DictComp a b c d p => cases n with
    | zero => exact (nsm h1).elim
    | succ n => exact (nsm h1).elim
  | _ => exact plain rfl
end
end Mine
end

section
open PySem PySem.W PyProof.Rows PySem.Calls PySem.SeqAt
set_option linter.all false
set_option maxRecDepth 100000
namespace Mine

theorem Stp.dead {W W' : Addr → Prop} {h h' : Heap} {g g' : PH} (x : Stp W W' h h' g g') {a : Addr} (e : h'.get? a = none) : h.get? a = none ∨ W a := by
  by_cases wa : W a
  · exact .inr wa
  · cases q : h.get? a with
    | none => exact .inl rfl
    | some o => rw [x.kp a o wa q] at e; cases e

/-- a step that changes some places which were not there at the start -/
theorem Stp.next {W W' : Addr → Prop} {h₀ h h' : Heap} {g₀ g g' : PH} {wr : List Addr} (T : Stp W W' h₀ h g₀ g) (hw : ∀ b ∈ wr, h₀.get? b = none) (kp : ∀ b o, b ∉ wr → h.get? b = some o → h'.get? b = some o) (gg : Sub g g') (nw : ∀ a, g a = none → g' a ≠ none → h.get? a = none) :
    Stp W W' h₀ h' g₀ g' :=
  ⟨fun a o wa e => kp a o (fun m => by rw [hw a m] at e; cases e) (T.kp a o wa e), T.gg.trans gg, fun a e m => by
    by_cases q : g a = none
    · exact T.dead (nw a q m)
    · exact T.nw a e q, T.ww⟩

section
variable {prog : Program} {w : World} {A : Around} {base : Heap}

set_option maxHeartbeats 2000000 in
theorem for_sound (hh : A.handled = none) {n : Nat} (Hr : ∀ m, m ≤ n → SndR prog w A base m) {Γ : Sig} {tg : Expr} {body : List Stmt} {ds : List D} {ρ : Rho} {r : Fl × Rho} {env : Env} {ow : Str → Addr} {g g₁ : PH} {h₀ h₁ : Heap} {s : Shared} {I : Addr} {fp wr : List Addr} {StS : Nat → Heap → Prop} {R : Result → Shared → Prop} {tk₁ : Tok}
    (hl : loopA n Γ tg body ds ρ = some r) (hs : SigOk prog w A base env Γ) (hk : ∀ x ∈ tgN tg, kindOk env x) (C : Cf base env ow g ρ h₀) (X : Ext h₀ h₁ g g₁) (W : Src prog w A tg I fp wr g₁ ds StS) (hst : StS 0 h₁)
    (hwr : ∀ b ∈ wr, h₀.get? b = none ∧ g₁ b = none) (hfp : ∀ b ∈ fp, h₀.get? b = none ∨ g₁ b ≠ none)
    (post : ∀ f ow' g' h' tk, FlR g' r.1 f → St env ow' g' r.2 h' → Stp (Wp env ow ρ) (Wp env ow' r.2) h₀ h' g g' → R (.ok f) { s with heap := h', toks := tk }) :
    codeAny (model prog w) A (.forLoop tg (.ref I) body [] env) R { s with heap := h₁, toks := tk₁ } := by
  have C₁ := C.ext X
  have hfW : ∀ b ∈ fp, ¬ Wp env ow ρ b := fun b hb wb => by
    rcases hfp b hb with q | q
    · exact C.S.w_some wb q
    · exact q (C₁.S.w_none wb)
  refine codeAny_forLoop_any (fun k s' => ∃ i m owi gi ρi hi tk, s' = { s with heap := hi, toks := tk } ∧ k = ds.length + 1 - i ∧ i ≤ ds.length ∧ m ≤ n ∧ loopA m Γ tg body (ds.drop i) ρi = some r ∧ St env owi gi ρi hi ∧ StS i hi ∧ (∀ b ∈ wr, gi b = none) ∧ (∀ b ∈ fp, ¬ Wp env owi ρi b) ∧ Sub g₁ gi ∧
      Stp (Wp env ow ρ) (Wp env owi ρi) h₀ hi g gi) ?_ (ds.length + 1) ⟨0, n, ow, g₁, ρ, h₁, tk₁, rfl, by first | lia | omega, Nat.zero_le _, Nat.le_refl _, by simpa using hl, C₁.S, hst, fun b hb => (hwr b hb).2, hfW, Sub.refl _, .of_ext X⟩
  rintro k s' ⟨i, m, owi, gi, ρi, hi, tk, rfl, rfl, hile, hmn, hloop, S, hsti, hwi, hfWi, hsub, T⟩
  have Ci : Cf base env owi gi ρi hi := C.stp S T
  rcases Nat.lt_or_ge i ds.length with hlt | hge
  · have hdrop : ds.drop i = ds[i] :: ds.drop (i + 1) := List.drop_eq_getElem_cons hlt
    rw [hdrop] at hloop
    cases m with
    | zero => simp [loopA] at hloop
    | succ m =>
      simp only [loopA, Option.bind_eq_some_iff] at hloop
      obtain ⟨bs, e1, q, e2, e3⟩ := hloop
      refine W.next i ds[i] gi { s with heap := hi, toks := tk } (List.getElem?_eq_getElem hlt) hsti hsub S.gh hwi (fun v s₁ hv => hv) ?_
      intro v h₂ g₂ tk₂ hdv hst₂ hsub₂ hHS₂ hnw₂ hkp₂ hw₂
      have S₂ : St env owi g₂ ρi h₂ := S.step hsub₂ hHS₂ (fun a wa o e => hkp₂ a o (fun mm => hfWi a (W.sub a mm) wa) e) hnw₂
      have T₂ := T.next (fun b hb => (hwr b hb).1) hkp₂ hsub₂ hnw₂
      refine assign_sound (s := { s with heap := h₂, toks := tk₂ }) hh S₂ e1 hk hdv fun h₃ tk₃ S₃ kp₃ => ?_
      have T₃ : Stp (Wp env ow ρ) (Wp env owi (updAll ρi bs)) h₀ h₃ g g₂ := T₂.trans (store_stp (tgN tg) kp₃ fun a wa => .inl (wp_updAll wa))
      have hfW₃ : ∀ b ∈ fp, ¬ Wp env owi (updAll ρi bs) b := fun b hb wb => hfWi b hb (wp_updAll wb)
      have hst₃ : StS (i + 1) h₃ := W.frame _ _ _ hst₂ fun b hb o e => kp₃ b o (fun x _ pl => hfWi b hb (place_w pl)) e
      refine Hr m (by first | lia | omega) Γ _ body q e2 env owi g₂ { s with heap := h₃, toks := tk₃ } _ _ (C.stp S₃ T₃) hs fun f ow₄ g₄ h₄ tk₄ hf S₄ T₄ => ?_
      have T₅ := T₃.trans T₄
      obtain ⟨fl, ρ₄⟩ := q
      cases fl with
      | next =>
        have hf' : f = .next := hf
        subst hf'
        simp only at e3
        refine ⟨ds.length + 1 - (i + 1), by first | lia | omega, i + 1, m, ow₄, g₄, ρ₄, h₄, tk₄, rfl, rfl, hlt, by first | lia | omega, e3, S₄, ?_, fun b hb => ?_, fun b hb wb => ?_, (hsub.trans hsub₂).trans T₄.gg, T₅⟩
        · exact W.frame _ _ _ hst₃ fun b hb o e => T₄.kp b o (hfW₃ b hb) e
        · cases z : g₄ b with
          | none => rfl
          | some o =>
            exfalso
            rcases T₄.nw b (hw₂ b hb) (by rw [z]; simp) with y | y
            · exact W.live _ _ hst₃ b (W.sub b hb) y
            · exact hfW₃ b (W.sub b hb) y
        · rcases T₄.ww b wb with y | y
          · exact hfW₃ b hb y
          · exact W.live _ _ hst₃ b hb y
      | ret d =>
        obtain ⟨v', rfl, hd'⟩ := hf
        simp only at e3
        cases e3
        exact post (.ret v') ow₄ g₄ h₄ tk₄ ⟨v', rfl, hd'⟩ S₄ T₅
  · have hie : i = ds.length := by first | lia | omega
    subst hie
    rw [List.drop_length] at hloop
    cases m with
    | zero => simp [loopA] at hloop
    | succ m =>
      simp only [loopA] at hloop
      cases hloop
      refine W.done { s with heap := hi, toks := tk } _ _ hsti fun h₂ tk₂ hkp₂ => ?_
      have T₂ : Stp (Wp env ow ρ) (Wp env owi ρi) h₀ h₂ g gi := T.next (fun b hb => (hwr b hb).1) hkp₂ (Sub.refl _) (fun _ e m => absurd e m)
      have S₂ : St env owi gi ρi h₂ := S.step (Sub.refl _) (fun b o e => hkp₂ b o (fun q => by rw [hwi b q] at e; cases e) (S.gh b o e)) (fun a wa o e => hkp₂ a o (fun mm => hfWi a (W.sub a mm) wa) e) (fun _ e m => absurd e m)
      exact wpAny_execs_nil (post .next owi gi h₂ tk₂ rfl S₂ T₂)

set_option maxHeartbeats 2000000 in
theorem while_sound {n : Nat} (Hr : ∀ m, m ≤ n → SndR prog w A base m) (Ht : ∀ m, m ≤ n → SndT prog w A base m) {Γ : Sig} {t : Expr} {body : List Stmt} {k₀ : Nat} {ρ : Rho} {r : Fl × Rho} {env : Env} {ow : Str → Addr} {g : PH} {s : Shared} {R : Result → Shared → Prop}
    (hl : whileA n Γ t body k₀ ρ = some r) (hs : SigOk prog w A base env Γ) (C : Cf base env ow g ρ s.heap)
    (post : ∀ f ow' g' h' tk, FlR g' r.1 f → St env ow' g' r.2 h' → Stp (Wp env ow ρ) (Wp env ow' r.2) s.heap h' g g' → R (.ok f) { s with heap := h', toks := tk }) :
    codeAny (model prog w) A (.whileLoop t body [] env) R s := by
  refine codeAny_whileLoop (fun k s' => ∃ m owi gi ρi hi tk, s' = { s with heap := hi, toks := tk } ∧ m ≤ n ∧ whileA m Γ t body k ρi = some r ∧ St env owi gi ρi hi ∧ Stp (Wp env ow ρ) (Wp env owi ρi) s.heap hi g gi) ?_ k₀ ⟨n, ow, g, ρ, s.heap, s.toks, rfl, Nat.le_refl _, hl, C.S, Stp.same fun _ w => w⟩
  rintro k s' ⟨m, owi, gi, ρi, hi, tk, rfl, hmn, hloop, S, T⟩
  have Ci : Cf base env owi gi ρi hi := C.stp S T
  cases m with
  | zero => simp [whileA] at hloop
  | succ m =>
    cases k with
    | zero => simp [whileA] at hloop
    | succ k =>
      simp only [whileA, Option.bind_eq_some_iff] at hloop
      obtain ⟨c, e1, e2⟩ := hloop
      refine Ht m (by first | lia | omega) Γ ρi t c e1 env owi gi { s with heap := hi, toks := tk } _ _ S hs Ci.b fun h₂ g₂ tk₂ X => ?_
      have C₂ : Cf base env owi g₂ ρi h₂ := Ci.ext X
      have T₂ := T.trans (Stp.of_ext (W := Wp env owi ρi) X)
      cases c with
      | false =>
        simp only [Bool.false_eq_true, if_false] at e2 ⊢
        cases e2
        exact wpAny_execs_nil (post .next owi g₂ h₂ tk₂ rfl C₂.S T₂)
      | true =>
        simp only [if_true, Option.bind_eq_some_iff] at e2 ⊢
        obtain ⟨q, e3, e4⟩ := e2
        refine Hr m (by first | lia | omega) Γ _ body q e3 env owi g₂ { s with heap := h₂, toks := tk₂ } _ _ C₂ hs fun f ow₄ g₄ h₄ tk₄ hf S₄ T₄ => ?_
        have T₅ := T₂.trans T₄
        obtain ⟨fl, ρ₄⟩ := q
        cases fl with
        | next =>
          have hf' : f = .next := hf
          subst hf'
          simp only at e4
          exact ⟨k, Nat.lt_succ_self _, m, ow₄, g₄, ρ₄, h₄, tk₄, rfl, by first | lia | omega, e4, S₄, T₅⟩
        | ret d =>
          obtain ⟨v', rfl, hd'⟩ := hf
          simp only at e4
          cases e4
          exact post (.ret v') ow₄ g₄ h₄ tk₄ ⟨v', rfl, hd'⟩ S₄ T₅
end
end Mine
end

section
open PySem PySem.W PyProof.Rows PySem.Calls PySem.SeqAt
set_option linter.all false
set_option maxRecDepth 100000
namespace Mine
section
variable {prog : Program} {w : World} {A : Around} {base : Heap}

theorem notBool {c : Bool} {x : Option (Fl × Rho)} {r : Fl × Rho} (h : (if (!c) = true then none else x) = some r) : c = true ∧ x = some r := by
  cases c
  · simp at h
  · simpa using h
theorem notDbg {c : Bool} {x : Option (Fl × Rho)} {r : Fl × Rho} (h : (if c = true then none else x) = some r) : c = false ∧ x = some r := by
  cases c
  · simpa using h
  · simp at h

theorem ints_iadd {E : Value → Shared → Prop} {s : Shared} {a b : Int} {t u : Tok} {Q : Value → Shared → Prop} (h : ∀ t' tk, Q (.int (a + b) t') { s with toks := tk }) : wpAny (model prog w) A (inplaceOp .Add (.int a t) (.int b u)) Q E s :=
  PyProof.Rows.iadd_int (h _ _)

theorem setOwn {env : Env} {ow : Str → Addr} {g : PH} {ρ : Rho} {s : Shared} {x : Str} {ds : List D} {d : D} {v : Value} {k : Int} {t : Tok} {Q : Unit → Shared → Prop} {E : Value → Shared → Prop} (S : St env ow g ρ s.heap) (e : ρ x = some (.own ds)) (hk : 0 ≤ k) (hlt : k.toNat < ds.length) (hbig : ds.length ≤ big) (hd : DI g v d)
    (post : ∀ h', St env ow g (upd ρ x (.own (ds.set k.toNat d))) h' → Stp (Wp env ow ρ) (Wp env ow (upd ρ x (.own (ds.set k.toNat d)))) s.heap h' g g → Q () { s with heap := h' }) :
    wpAny (model prog w) A (setItem (.ref (ow x)) (.int k t) v) Q E s := by
  obtain ⟨vs, n, ho, hds⟩ := S.own_some e
  have l1 := hds.length
  unfold big at hbig
  refine ki_setAt (items := vs.toArray) (n := n) ho hk (by first | lia | omega) (by simp [l1]; (first | lia | omega)) ?_
  have hn' : (s.heap.update (ow x) (Obj.mapSeq (·.setIfInBounds k.toNat v))).get? (ow x) = some (lstO (vs.set k.toNat v) n) := by
    have := PySem.IsL.update (n := n) (items := vs.toArray) ho (·.setIfInBounds k.toNat v)
    simpa [PySem.IsL, lstO] using this
  obtain ⟨S', T⟩ := S.mutate e (Heap.SameBut.update ..) hn' (hds.set hd)
  exact post _ S' T

theorem appOwn {env : Env} {ow : Str → Addr} {g : PH} {ρ : Rho} {h : Heap} {x : Str} {ds es : List D} {us : List Value} (S : St env ow g ρ h) (e : ρ x = some (.own ds)) (hd : DIs g us es) :
    ∃ vs n, h.get? (ow x) = some (lstO vs n) ∧ vs.length = ds.length ∧ St env ow g (upd ρ x (.own (ds ++ es))) (h.update (ow x) (Obj.mapSeq (fun xs => xs ++ us.toArray))) ∧ Stp (Wp env ow ρ) (Wp env ow (upd ρ x (.own (ds ++ es)))) h (h.update (ow x) (Obj.mapSeq (fun xs => xs ++ us.toArray))) g g := by
  obtain ⟨vs, n, ho, hds⟩ := S.own_some e
  have := PySem.IsL.update (n := n) (items := vs.toArray) ho (fun xs => xs ++ us.toArray)
  obtain ⟨S', T⟩ := S.mutate (vs' := vs ++ us) e (Heap.SameBut.update ..) (by simpa [PySem.IsL, lstO] using this) (hds.append hd)
  exact ⟨vs, n, ho, hds.length, S', T⟩

theorem Cf.frz {env : Env} {ow : Str → Addr} {g : PH} {ρ : Rho} {h : Heap} (C : Cf base env ow g ρ h) (xs : List Str) : ∃ g', Cf base env ow g' (freeze ρ xs) h ∧ Stp (Wp env ow ρ) (Wp env ow (freeze ρ xs)) h h g g' := by
  obtain ⟨g', S, T⟩ := C.S.freezeAll xs
  exact ⟨g', C.stp S T, T⟩

/-- a list literal, as a fresh plain list -/
theorem list_lit {n : Nat} (H : All prog w A base n) {Γ : Sig} {ρ : Rho} {es : List Expr} {p : Pos} {ds : List D} {env : Env} {ow : Str → Addr} {g : PH} {s : Shared} {Q E : Value → Shared → Prop}
    (h1 : evEs n Γ ρ es = some ds) (hl : ds.length ≤ big) (C : Cf base env ow g ρ s.heap) (hs : SigOk prog w A base env Γ)
    (post : ∀ a vs h' g' tk, Ext s.heap h' g g' → DIs g' vs ds → s.heap.get? a = none → g' a = none → h'.get? a = some (lstO vs 0) → Q (.ref a) { s with heap := h', toks := tk }) :
    wpAny (model prog w) A (eval (.List es p) env) Q E s := by
  refine List_ ?_
  rw [star_eq (env := env) h1 p]
  refine H.es Γ ρ es ds h1 env ow g s _ E C.S hs C.b fun vs h' g' tk X hd => ?_
  have hvl := hd.length
  refine wpAny_newList ?_ (by rw [sizeLine_eq]; unfold big at hl; (first | lia | omega))
  have hno := get_size_none h'
  exact post _ vs _ g' _ (X.trans (Ext.grow X.gh (lstO vs 0))) hd (X.kp.none hno) (X.gh.none hno) (Heap.get?_push_size _ rfl)

variable (hh : A.handled = none) (hu : A.units < cLine)
include hh hu

set_option maxHeartbeats 4000000 in
theorem sndX_step {n : Nat} (H : ∀ m, All prog w A base m) (Hr : ∀ m, m ≤ n → SndR prog w A base m) : SndX prog w A base (n + 1) := by
  intro Γ ρ st r he env ow g s Q E C hs post
  unfold exe at he
  split at he
  · rename_i ts v p2
    replace he := bno he
    obtain ⟨t, q, he⟩ := he
    obtain rfl := one_some q
    unfold asg1 at he
    split at he
    · rename_i x p1
      unfold asgN at he
      replace he := notBool he
      obtain ⟨hx, he⟩ := he
      split at he
      · replace he := mpd he
        obtain ⟨d, e1, rfl⟩ := he
        refine assign_comp (H n) hh e1 (fun m _ => H m) C hs (hs.loc x (by simpa using hx)) fun g' h' tk S T => post .next ow g' h' tk rfl S T
      · split at he
        · rename_i es hes
          obtain ⟨p3, rfl⟩ := lsE_some hes
          replace he := bnd he
          obtain ⟨ds, e1, e2⟩ := he
          split at e2
          · rename_i hl
            cases e2
            refine wpAny_Assign_Name ?_ rfl
            refine list_lit (H n) e1 hl C hs fun a vs h' g' tk X hd hn hg ha => ?_
            exact own_store C X ha hd hn hg (hs.loc x (by simpa using hx)) fun ow' h'' tk' S T => post .next ow' g' h'' tk' rfl S T
          · cases e2
        · replace he := bno he
          obtain ⟨⟨es, rr⟩, q, he⟩ := he
          obtain ⟨p3, p4, rfl⟩ := mulE_some q
          replace he := bnd he
          obtain ⟨ds, e1, he⟩ := he
          replace he := bnd he
          obtain ⟨k, e2, e3⟩ := he
          replace e2 := bnd e2
          obtain ⟨kd, e2, q⟩ := e2
          obtain rfl := asI_some q
          dsimp only at e1 e2 e3
          split at e3
          · rename_i hk
            cases e3
            refine wpAny_Assign_Name (wpAny_BinOp ?_) rfl
            refine list_lit (H n) e1 (by unfold big; (first | lia | omega)) C hs fun a vs h' g' tk X hd hn hg ha => ?_
            have C' := C.ext X
            refine (H n).e Γ ρ rr _ e2 env ow g' { s with heap := h', toks := tk } _ E C'.S hs C'.b fun v h2 g2 tk2 X2 hd2 => ?_
            obtain ⟨t, rfl⟩ := hd2.int_inv
            have hvl := hd.length
            have hk1 := hk.1
            unfold big at hk1
            refine mul_list_D (s := { s with heap := h2, toks := tk2 }) (X2.kp _ _ ha) hk.2.1 (by first | lia | omega) (by rw [hvl, hk.2.2]; (first | lia | omega)) (by intro q; rw [q] at hvl; simp at hvl; (first | lia | omega)) ?_
            have hno := get_size_none h2
            have XX := X.trans X2
            refine own_store (s := s) (h' := h2.push (lstO (List.replicate k.toNat vs).flatten 0)) (tk := tk2) C (XX.trans (Ext.grow XX.gh (lstO (List.replicate k.toNat vs).flatten 0))) (Heap.get?_push_size _ rfl) ((hd.mono X2.gg).replicate k.toNat) (XX.kp.none hno) (XX.gh.none hno) (hs.loc x (by simpa using hx)) fun ow' h'' tk' S T => post .next ow' g2 h'' tk' rfl S T
          · cases e3
    · rename_i es k p3
      unfold asgT at he
      replace he := bno he
      obtain ⟨⟨x, y⟩, q, he⟩ := he
      obtain ⟨p1, p2, rfl⟩ := nm2_some q
      split at he
      · rename_i hc
        obtain ⟨f, as, ks, p4, rfl⟩ := isCallE_some hc
        replace he := notBool he
        obtain ⟨hx, he⟩ := he
        replace he := bnd he
        obtain ⟨d, e1, he⟩ := he
        replace he := mpd he
        obtain ⟨bs, e2, rfl⟩ := he
        simp only [Bool.and_eq_true] at hx
        refine Assign_Tuple ?_ rfl rfl
        obtain ⟨g₁, C₁, T₁⟩ := C.frz (namesIn 50 (.Call f as ks p4))
        refine (H n).e Γ _ _ d e1 env ow g₁ s _ E C₁.S hs C₁.b fun v h' g' tk X hd => ?_
        refine assign_sound (s := { s with heap := h', toks := tk }) hh (C₁.S.ext X) e2 (fun z hz => ?_) hd fun h'' tk' S k => ?_
        · simp [tgN_two] at hz
          rcases hz with rfl | rfl
          · exact hs.loc _ (by simpa using hx.1)
          · exact hs.loc _ (by simpa using hx.2)
        · exact post .next ow g' h'' tk' rfl S (T₁.trans ((Stp.of_ext X).trans (store_stp _ k fun a wa => .inl (wp_updAll wa))))
      · cases he
    · rename_i b i p3
      unfold asgS at he
      replace he := bno he
      obtain ⟨x, q, he⟩ := he
      obtain ⟨p1, rfl⟩ := nm_some q
      replace he := bno he
      obtain ⟨c, q, he⟩ := he
      obtain ⟨k0, p4, rfl⟩ := cInt_some q
      replace he := notDbg he
      obtain ⟨hx, he⟩ := he
      replace he := bnd he
      obtain ⟨ds, q, he⟩ := he
      have hρ := ownD_some q
      replace he := bnd he
      obtain ⟨k, e1, e2⟩ := he
      replace e1 := bnd e1
      obtain ⟨kd, e1, q⟩ := e1
      obtain rfl := asI_some q
      split at e2
      · rename_i hk
        cases e2
        refine wpAny_Assign_Subscript (wpAny_Constant_int (wpAny_Name (St.load (s := { s with toks := s.toks + 1 }) C.S hρ fun v hv => ?_) (by simpa using hx))) rfl
        obtain ⟨rfl, vs, m, q1, q2⟩ := hv
        refine (H n).e Γ ρ i _ e1 env ow g { s with toks := s.toks + 1 } _ E C.S hs C.b fun v h' g' tk X hd => ?_
        obtain ⟨t, rfl⟩ := hd.int_inv
        have C' := C.ext X
        refine setOwn (s := { s with heap := h', toks := tk }) C'.S hρ hk.1 hk.2.1 hk.2.2 (.int c _) fun h'' S T => ?_
        exact post .next ow g' h'' tk rfl S ((Stp.of_ext X).trans T)
      · cases e2
    · cases he
  · rename_i t op v p2
    split at he
    rotate_left
    · cases he
    rename_i ho
    obtain rfl := isAdd_some ho
    unfold augA at he
    split at he
    · rename_i x p1
      replace he := notBool he
      obtain ⟨hx, he⟩ := he
      replace he := bnd he
      obtain ⟨a, q, he⟩ := he
      have hρ := stI_some q
      replace he := bnd he
      obtain ⟨b, e1, e2⟩ := he
      replace e1 := bnd e1
      obtain ⟨kd, e1, q⟩ := e1
      obtain rfl := asI_some q
      cases e2
      refine wpAny_AugAssign_Name (C.S.load hρ fun v₁ hv => ?_)
      obtain ⟨t, rfl⟩ := DI.int_inv hv
      refine (H n).e Γ ρ v _ e1 env ow g s _ E C.S hs C.b fun v h' g' tk X hd => ?_
      obtain ⟨u, rfl⟩ := hd.int_inv
      refine ints_iadd fun t' tk' => ?_
      exact st_store (s := s) C X (.int _ _) (hs.loc x (by simpa using hx)) fun h'' tk'' S T => post .next ow g' h'' tk'' rfl S T
    · rename_i b i p3
      replace he := bno he
      obtain ⟨x, q, he⟩ := he
      obtain ⟨p1, rfl⟩ := nm_some q
      replace he := bno he
      obtain ⟨c, q, he⟩ := he
      obtain ⟨k0, p4, rfl⟩ := cInt_some q
      replace he := notDbg he
      obtain ⟨hx, he⟩ := he
      replace he := bnd he
      obtain ⟨ds, q, he⟩ := he
      have hρ := ownD_some q
      replace he := bnd he
      obtain ⟨k, e1, e2⟩ := he
      replace e1 := bnd e1
      obtain ⟨kd, e1, q⟩ := e1
      obtain rfl := asI_some q
      split at e2
      · rename_i hk
        replace e2 := bnd e2
        obtain ⟨a, q, e2⟩ := e2
        replace q := bnd q
        obtain ⟨ad, ha, q⟩ := q
        obtain rfl := asI_some q
        cases e2
        refine wpAny_AugAssign_SubscriptAny (wpAny_Name (C.S.load hρ fun v hv => ?_) (by simpa using hx)) (by intro ov iv new; cases i <;> first | rfl | exact absurd rfl (evE_notSlice e1 _ _ _ _))
        obtain ⟨rfl, vs, m, q1, q2⟩ := hv
        refine (H n).e Γ ρ i _ e1 env ow g s _ E C.S hs C.b fun v h' g' tk X hd => ?_
        obtain ⟨t, rfl⟩ := hd.int_inv
        have C' := C.ext X
        obtain ⟨vs', m', o1, o2⟩ := C'.S.own_some hρ
        obtain ⟨v0, ev, hv0⟩ := o2.get ha
        obtain ⟨u, rfl⟩ := hv0.int_inv
        have hk3 := hk.2.2
        unfold big at hk3
        refine wpAny_getItem_list (s := { s with heap := h', toks := tk }) (lstO_isList o1) hk.1 (by first | lia | omega) (by simpa using ev) ?_
        refine wpAny_Constant_int (ints_iadd fun t' tk' => ?_)
        refine setOwn (s := { s with heap := h', toks := tk' }) C'.S hρ hk.1 hk.2.1 hk.2.2 (.int _ _) fun h'' S T => ?_
        exact post .next ow g' h'' tk' rfl S ((Stp.of_ext X).trans T)
      · cases e2
    · cases he
  · rename_i tg it body els p1
    split at he
    rotate_left
    · cases he
    rename_i hels
    obtain rfl := List.isEmpty_iff.mp hels
    replace he := notBool he
    obtain ⟨hx, he⟩ := he
    replace he := bnd he
    obtain ⟨ds, e1, e2⟩ := he
    obtain ⟨g₁, C₁, T₁⟩ := C.frz (namesIn 50 it)
    refine wpAny_For ?_ fun x => it_form e1 env x
    refine (H n).it Γ _ tg it ds e1 env ow g₁ s _ E C₁.S hs C.b fun I fp wr StS h' g' tk X W hst hwr hfp => ?_
    refine for_sound (s := s) hh Hr e2 hs (fun x hx' => hs.loc x (by simpa using (List.all_eq_true.mp hx) x hx')) C₁ X W hst hwr hfp fun f ow' g'' h'' tk' hf S T => ?_
    exact post f ow' g'' h'' tk' hf S (T₁.trans T)
  · rename_i t body els p1
    split at he
    rotate_left
    · cases he
    rename_i hels
    obtain rfl := List.isEmpty_iff.mp hels
    refine wpAny_While ?_
    exact while_sound Hr (fun m _ => (H m).t) he hs C fun f ow' g' h' tk hf S T => post f ow' g' h' tk hf S T
  · rename_i t a b p1
    replace he := bnd he
    obtain ⟨c, e1, e2⟩ := he
    refine wpAny_If ((H n).t Γ ρ t c e1 env ow g s _ E C.S hs C.b fun h' g' tk X => ?_)
    have C' := C.ext X
    have T' : Stp (Wp env ow ρ) (Wp env ow ρ) s.heap h' g g' := Stp.of_ext X
    cases c with
    | true => exact Hr n (Nat.le_refl _) Γ ρ a r e2 env ow g' { s with heap := h', toks := tk } Q E C' hs fun f ow' g'' h'' tk' hf S T => post f ow' g'' h'' tk' hf S (T'.trans T)
    | false => exact Hr n (Nat.le_refl _) Γ ρ b r e2 env ow g' { s with heap := h', toks := tk } Q E C' hs fun f ow' g'' h'' tk' hf S T => post f ow' g'' h'' tk' hf S (T'.trans T)
  · rename_i oe p1
    replace he := bno he
    obtain ⟨e, rfl, he⟩ := he
    replace he := mpd he
    obtain ⟨d, e1, rfl⟩ := he
    obtain ⟨g₁, C₁, T₁⟩ := C.frz (namesIn 50 e)
    refine wpAny_Return_some ((H n).e Γ _ e d e1 env ow g₁ s _ E C₁.S hs C.b fun v h' g' tk X hd => ?_)
    exact post (.ret v) ow g' h' tk ⟨v, rfl, hd⟩ (C₁.S.ext X) (T₁.trans (Stp.of_ext X))
  · rename_i c p2
    unfold exprA at he
    replace he := bno he
    obtain ⟨⟨x, m, e, apos, pos, ks⟩, q, he⟩ := he
    obtain ⟨p1, rfl⟩ := methE_some q
    dsimp only at he
    split at he
    rotate_left
    · cases he
    rename_i hks
    obtain rfl := List.isEmpty_iff.mp hks
    split at he
    · rename_i hc
      simp only [Bool.and_eq_true] at hc
      obtain ⟨⟨hline, hnx⟩, hdbg⟩ := hc
      replace he := bnd he
      obtain ⟨ds, q, he⟩ := he
      have hρ := ownD_some q
      obtain ⟨g₁, C₁, T₁⟩ := C.frz (namesIn 50 e)
      obtain ⟨vs₀, n₀, o1, o2⟩ := C₁.S.own_some hρ
      split at he
      · rename_i hm
        have hm' : m = Str.ofString "append" := by simpa using hm
        subst hm'
        replace he := bnd he
        obtain ⟨d, e1, e2⟩ := he
        split at e2
        · rename_i hl
          cases e2
          have hst : backTo pos (starEach [e] env) = [(false, eval e env)] := by
            cases e <;> first | rfl | (exact absurd rfl (notStar e1 _ _))
          refine wpAny_Expr (wpAny_Call_method (T := "list") (id := "list.append") rfl (by rw [hst]; rfl) hline PySem.F.plainAttrs_list PySem.F.slot_list_append PySem.F.type_list_append ?_) (interactive_fn C.S.hk) (by rfl)
          refine wpAny_Name (C₁.S.load hρ fun v hv => ?_) (by simpa using hdbg)
          obtain ⟨rfl, vs, k, q1, q2⟩ := hv
          refine ⟨⟨_, q1, rfl⟩, fun b eb => by cases eb; exact ⟨_, q1, rfl⟩, ?_⟩
          rw [hst]
          refine P.append_list ((H n).e Γ _ e d e1 env ow g₁ s _ E C₁.S hs C₁.b fun v h' g' tk X hd => ?_)
          obtain ⟨vs', n', a1, a2, S, T⟩ := appOwn (C₁.ext X).S hρ (.cons hd .nil)
          refine ⟨vs'.toArray, n', by simp [a2]; unfold big at hl; rw [sizeLine_eq]; (first | lia | omega), a1, ?_⟩
          have eqf : (fun xs : Array Value => xs.push v) = fun xs => xs ++ [v].toArray := by funext xs; simp
          show Q .next _
          rw [eqf]
          exact post .next ow g' _ tk rfl S (T₁.trans ((Stp.of_ext X).trans T))
        · cases e2
      · split at he
        · rename_i hm
          have hm' : m = Str.ofString "extend" := by simpa using hm
          subst hm'
          replace he := bnd he
          obtain ⟨es, e1, e2⟩ := he
          replace e1 := bnd e1
          obtain ⟨d, e1, q⟩ := e1
          obtain rfl := asL_some q
          split at e2
          · rename_i hl
            cases e2
            have hst : backTo pos (starEach [e] env) = [(false, eval e env)] := by
              cases e <;> first | rfl | (exact absurd rfl (notStar e1 _ _))
            refine wpAny_Expr (wpAny_Call_method (T := "list") (id := "list.extend") rfl (by rw [hst]; rfl) hline PySem.F.plainAttrs_list PySem.F.slot_list_extend PySem.F.type_list_extend ?_) (interactive_fn C.S.hk) (by rfl)
            refine wpAny_Name (C₁.S.load hρ fun v hv => ?_) (by simpa using hdbg)
            obtain ⟨rfl, vs, k, q1, q2⟩ := hv
            refine ⟨⟨_, q1, rfl⟩, fun b eb => by cases eb; exact ⟨_, q1, rfl⟩, ?_⟩
            rw [hst]
            refine P.extend_list ((H n).e Γ _ e _ e1 env ow g₁ s _ E C₁.S hs C₁.b fun v h' g' tk X hd => ?_)
            obtain ⟨b, us, m, rfl, ea, ra⟩ := hd.lst_inv
            obtain ⟨vs', n', a1, a2, S, T⟩ := appOwn (C₁.ext X).S hρ ra
            have hul := ra.length
            unfold big at hl
            have hsz : vs'.toArray.size + us.toArray.size ≤ sizeLine := by simp [a2, hul]; rw [sizeLine_eq]; (first | lia | omega)
            refine ⟨b, vs'.toArray, us.toArray, n', m, by first | lia | omega, by first | lia | omega, extend_door hsz, rfl, a1, X.gh _ _ ea, ?_⟩
            exact post .next ow g' _ tk rfl S (T₁.trans ((Stp.of_ext X).trans T))
          · cases e2
        · cases he
    · cases he
  · cases he

omit hh hu in
theorem sndR_step {n : Nat} (Hx : SndX prog w A base n) (Hr : SndR prog w A base n) : SndR prog w A base (n + 1) := by
  intro Γ ρ body r he env ow g s Q E C hs post
  cases body with
  | nil =>
    simp only [run] at he
    cases he
    exact wpAny_execs_nil (post .next ow g s.heap s.toks rfl C.S (Stp.same fun _ q => q))
  | cons st rest =>
    simp only [run, Option.bind_eq_some_iff] at he
    obtain ⟨q, e1, e2⟩ := he
    refine wpAny_execs_cons (Hx Γ ρ st q e1 env ow g s _ E C hs fun f ow' g' h' tk hf S T => ?_)
    have C' := C.stp S T
    obtain ⟨fl, ρ'⟩ := q
    cases fl with
    | next =>
      have hf' : f = .next := hf
      subst hf'
      simp only at e2
      exact Hr Γ ρ' rest r e2 env ow' g' { s with heap := h', toks := tk } Q E C' hs fun f ow'' g'' h'' tk' hf S' T' => post f ow'' g'' h'' tk' hf S' (T.trans T')
    | ret d =>
      obtain ⟨v, rfl, hd⟩ := hf
      simp only at e2
      cases e2
      exact post (.ret v) ow' g' h' tk ⟨v, rfl, hd⟩ S T

theorem snd_run : ∀ n, ∀ m, m ≤ n → SndX prog w A base m ∧ SndR prog w A base m
  | 0, m, h => by
    obtain rfl : m = 0 := by first | lia | omega
    exact ⟨fun _ _ _ _ e => by simp [exe] at e, fun _ _ _ _ e => by simp [run] at e⟩
  | n + 1, m, h => by
    have ih := snd_run n
    rcases Nat.lt_or_ge m (n + 1) with q | q
    · exact ih m (by first | lia | omega)
    · obtain rfl : m = n + 1 := by first | lia | omega
      exact ⟨sndX_step hh hu (snd_all hh hu) fun k hk => (ih k hk).2, sndR_step (ih n (Nat.le_refl _)).1 (ih n (Nat.le_refl _)).2⟩
end
end Mine
end

section
open PySem PySem.W PyProof.Rows PySem.Calls PySem.SeqAt
set_option linter.all false
set_option maxRecDepth 100000
namespace Mine

theorem vs_nil {α : Type} {vs : List α} (h : vs.length = 0) : vs = [] := List.length_eq_zero_iff.mp h
theorem vs_cons {α : Type} {vs : List α} {n : Nat} (h : vs.length = n + 1) : ∃ v ws, vs = v :: ws ∧ ws.length = n := by
  cases vs with
  | nil => exact nomatch h
  | cons v ws => exact ⟨v, ws, rfl, Nat.succ.inj h⟩
theorem len1 {α : Type} {P : List α → Prop} (h : ∀ a, P [a]) (vs : List α) (e : vs.length = 1) : P vs := by
  obtain ⟨v, ws, rfl, k⟩ := vs_cons e
  obtain rfl := vs_nil k
  exact h v
theorem len2 {α : Type} {P : List α → Prop} (h : ∀ a b, P [a, b]) (vs : List α) (e : vs.length = 2) : P vs := by
  obtain ⟨v, ws, rfl, k⟩ := vs_cons e
  exact len1 (P := fun ws => P (v :: ws)) (h v) ws k
theorem bind1 {fd : FuncData} {x : Str} (h : ∀ a, bindArgs fd ⟨[a], []⟩ = pure ([x].zip [a])) (vs : List Value) (e : vs.length = [x].length) : bindArgs fd ⟨vs, []⟩ = pure ([x].zip vs) :=
  len1 (P := fun vs => bindArgs fd ⟨vs, []⟩ = pure ([x].zip vs)) h vs e
theorem bind2 {fd : FuncData} {x y : Str} (h : ∀ a b, bindArgs fd ⟨[a, b], []⟩ = pure ([x, y].zip [a, b])) (vs : List Value) (e : vs.length = [x, y].length) : bindArgs fd ⟨vs, []⟩ = pure ([x, y].zip vs) :=
  len2 (P := fun vs => bindArgs fd ⟨vs, []⟩ = pure ([x, y].zip vs)) h vs e
/-- what the ground gives -/
structure Gr (K : Frag) (mg mb : Str → Option Value) (base : Heap) : Prop where
  k : K.In base
  g : base.Ns mainGlobals mg
  b : base.Ns builtinsNs mb
  lim : base.NoLimit
  bi : ∀ x : Str, x ≠ "__name__" → mb x = bootBuiltins x

section
variable {prog : Program} {w : World} {A : Around} {base : Heap} {K : Frag} {mg mb : Str → Option Value}

theorem glob_def (G : Gr K mg mb base) {env : Env} {f : Str} {v : Value} (e : nsIn K mainGlobals f = some (some v)) (hk : env.scope.kind = .function) (hg : env.globals = mainGlobals) (hx : env.kindOf f = some .globalImplicit)
    (hd : (f == ("__debug__" : Str)) = false := by decide) : GlobIs prog w A base env f v := fun s Q E pos hb hQ =>
  Name_function_global hk hx (loadGlobal_global (env := env) (show s.heap.Ns env.globals mg from hg ▸ G.g.keeps hb) (mg_of G.k G.g e) hQ) hd
theorem glob_built (G : Gr K mg mb base) {env : Env} {f : Str} {v : Value} (e : nsIn K mainGlobals f = some none) (hv : bootBuiltins f = some v) (hk : env.scope.kind = .function) (hg : env.globals = mainGlobals) (hbb : env.builtins = builtinsNs) (hx : env.kindOf f = some .globalImplicit)
    (hn : f ≠ "__name__" := by decide) (hd : (f == ("__debug__" : Str)) = false := by decide) : GlobIs prog w A base env f v := fun s Q E pos hb hQ =>
  Name_function_global hk hx (loadGlobal_builtin (env := env) (show s.heap.Ns env.globals mg from hg ▸ G.g.keeps hb) (mg_none_of G.k G.g e) (show s.heap.Ns env.builtins mb from hbb ▸ G.b.keeps hb) ((G.bi f hn).trans hv) hQ) hd

noncomputable def rho0 : List Str → List D → Rho
  | x :: xs, d :: ds => fun y => if y = x then some (.st d) else rho0 xs ds y
  | _, _ => fun _ => none

noncomputable def finR (o : Option (Fl × Rho)) : Option D := o.bind fun q => match q.1 with
    | .ret d => some d
    | .next => none
noncomputable def φdef (n : Nat) (Γ : Sig) (xs : List Str) (body : List Stmt) (ds : List D) : Option D :=
  if ds.length = xs.length then finR (run n Γ (rho0 xs ds) body) else none

theorem bindL_other {kindOf : Str → Option NameKind} {y : Str} : ∀ {xs : List Str} {vs : List Value} {m : Str → Option Value}, y ∉ xs → bindL kindOf (xs.zip vs) m y = m y
  | [], _, _, _ => rfl
  | _ :: _, [], _, _ => rfl
  | x :: xs, v :: vs, m, h => by
    simp only [List.zip_cons_cons, bindL]
    rw [bindL_other (fun q => h (List.mem_cons_of_mem _ q))]
    have : y ≠ x := fun q => h (q ▸ List.mem_cons_self)
    split <;> simp [this]
theorem bindC_other {kindOf : Str → Option NameKind} {y : Str} : ∀ {xs : List Str} {vs : List Value} {m : Str → Option Value}, y ∉ xs → bindC kindOf (xs.zip vs) m y = m y
  | [], _, _, _ => rfl
  | _ :: _, [], _, _ => rfl
  | x :: xs, v :: vs, m, h => by
    simp only [List.zip_cons_cons, bindC]
    rw [bindC_other (fun q => h (List.mem_cons_of_mem _ q))]
    have : y ≠ x := fun q => h (q ▸ List.mem_cons_self)
    split <;> simp [this]

theorem rho0_mem {xs : List Str} {ds : List D} {x : Str} {sl : Slot} (e : rho0 xs ds x = some sl) : x ∈ xs := by
  induction xs generalizing ds with
  | nil => simp [rho0] at e
  | cons y xs ih =>
    cases ds with
    | nil => simp [rho0] at e
    | cons d ds =>
      simp only [rho0] at e
      by_cases q : x = y
      · subst q; exact List.mem_cons_self
      · rw [if_neg q] at e; exact List.mem_cons_of_mem _ (ih e)

theorem rho0_own {xs : List Str} {ds es : List D} {x : Str} (e : rho0 xs ds x = some (.own es)) : False := by
  induction xs generalizing ds with
  | nil => simp [rho0] at e
  | cons y xs ih =>
    cases ds with
    | nil => simp [rho0] at e
    | cons d ds =>
      simp only [rho0] at e
      by_cases q : x = y
      · subst q; simp at e
      · rw [if_neg q] at e; exact ih e

theorem binds_slot {g : PH} {h : Heap} {a : Addr} {kindOf : Str → Option NameKind} {x : Str} {sl : Slot} : ∀ {xs : List Str} {vs : List Value} {ds : List D} {m cm : Str → Option Value}, DIs g vs ds → xs.Nodup → rho0 xs ds x = some sl →
    (kindOf x = some .local → ∃ v, bindL kindOf (xs.zip vs) m x = some v ∧ SI g h a v sl) ∧ (kindOf x ≠ some .local → ∃ v, bindC kindOf (xs.zip vs) cm x = some v ∧ SI g h a v sl)
  | [], _, _, _, _, _, _, e => by simp [rho0] at e
  | y :: xs, [], _, _, _, .nil, _, e => by simp [rho0] at e
  | y :: xs, v :: vs, d :: ds, m, cm, .cons hd hds, hn, e => by
    have hn' := List.nodup_cons.mp hn
    simp only [rho0] at e
    by_cases q : x = y
    · subst q
      simp only [if_true] at e
      cases e
      refine ⟨fun k => ⟨v, ?_, hd⟩, fun k => ⟨v, ?_, hd⟩⟩
      · simp only [List.zip_cons_cons, bindL]
        rw [bindL_other hn'.1, if_pos k, if_pos rfl]
      · simp only [List.zip_cons_cons, bindC]
        rw [bindC_other hn'.1, if_neg k, if_pos rfl]
    · rw [if_neg q] at e
      simp only [List.zip_cons_cons, bindL, bindC]
      exact binds_slot hds hn'.2 e

theorem Cf.low {b b' h : Heap} {env : Env} {ow : Str → Addr} {g : PH} {ρ : Rho} (C : Cf b' env ow g ρ h) (k : Kp b b') : Cf b env ow g ρ h := ⟨C.S, k.trans C.b, fun a wa => k.none (C.wb a wa)⟩
/-- into the body of a def -/
theorem fn_enter (G : Gr K mg mb base) (hroom : A.depth < recursionLimit) {f : Addr} {fd : FuncData} {oc : Value} {od : Option Addr} {osl : Array (Option Value)} {body : List Stmt} {xs : List Str}
    (ho : K.lookup f = some ⟨oc, od, .func fd, osl⟩) (hcd : codeIn K fd.code fd.qualname = true) (hbody : fd.body = .stmts body) (hclo : fd.closure = [])
    (hbind : ∀ vs : List Value, vs.length = xs.length → bindArgs fd ⟨vs, []⟩ = pure (xs.zip vs)) (hco : fd.scope.isCoroutine = false) (hgen : fd.scope.isGenerator = false) (hk : fd.scope.kind = .function) (hxs : xs.Nodup)
    (hkind : ∀ n, ∀ x ∈ xs, fd.scope.names.lookup x = some .local ∨ (fd.scope.names.lookup x = some .cell ∧ ((cellsFrom n fd.scope.names []).lookup x).isSome = true))
    {vs : List Value} {ds : List D} {g : PH} {s : Shared} {Q E : Value → Shared → Prop} (hlen : ds.length = xs.length) (hds : DIs g vs ds) (hg : HS g s.heap) (hb : Kp base s.heap)
    (hq : ∀ h₁ tk, Cf s.heap (callEnvC fd s.heap.objs.size f) (fun _ => 0) g (rho0 xs ds) h₁ →
      wpAny (model prog w) (A.deeper (callEnvC fd s.heap.objs.size f)) (execs body (callEnvC fd s.heap.objs.size f)) (fun fl s' => Q (match fl with | .ret v => v | _ => .none) s')
        (fun e s' => wpAny (model prog w) (A.deeper (callEnvC fd s.heap.objs.size f)) (leaving (callEnvC fd s.heap.objs.size f) e) (fun _ s'' => E e s'') (fun e' s'' => E e' s'') s') { s with heap := h₁, toks := tk }) :
    wpAny (model prog w) A (call (.ref f) vs) Q E s := by
  have hvl : vs.length = xs.length := hds.length.trans hlen
  have hbound : ∀ x ∈ xs.zip vs, x.1 ∈ xs := fun x hx => (List.of_mem_zip hx).1
  refine wpAny_call (codeAny_call_cells hroom (G.k.keeps hb _ _ ho) rfl (G.lim.keeps hb) (codeRec_of (G.k.keeps hb) hcd) hbody (hbind vs hvl) hclo (fun x hx => hkind _ x.1 (hbound x hx)) (fun s₁ X => ?_) hco hgen hk)
  obtain ⟨h₁, tk, rfl, kp⟩ := X.done
  have kp : Kp s.heap h₁ := kp
  have hL := get_size_none s.heap
  have hce : ∀ x c, (callEnvC fd s.heap.objs.size f).cells.lookup x = some c → s.heap.objs.size < c := fun x c e => X.above x c (mem_of_lookup e)
  have hcn : ∀ x c, (callEnvC fd s.heap.objs.size f).cells.lookup x = some c → s.heap.get? c = none := fun x c e => Heap.get?_none_of_le (Nat.le_of_lt (hce x c e))
  have mem2 : ∀ (l : List (Str × Addr)), l.Pairwise (fun x y => x.2 ≠ y.2) → ∀ x y c, (x, c) ∈ l → (y, c) ∈ l → x = y := fun l => by
    induction l with
    | nil => intro _ x y c m; cases m
    | cons z l ih =>
      intro hp x y c a b
      rw [List.pairwise_cons] at hp
      rcases List.mem_cons.mp a with a | a <;> rcases List.mem_cons.mp b with b | b
      · exact (Prod.mk.inj (a.trans b.symm)).1
      · exact absurd (by rw [← a]) (hp.1 _ b)
      · exact absurd (by rw [← b]) (hp.1 _ a)
      · exact ih hp.2 x y c a b
  have S : St (callEnvC fd s.heap.objs.size f) (fun _ => 0) g (rho0 xs ds) h₁ := {
    hk := hk
    gh := hg.kp kp
    loc := ⟨_, X.toInCall.ns, fun x sl e k => (binds_slot (cm := fun _ => none) hds hxs e).1 k⟩
    cel := fun x sl e k => by
      have hkx := (hkind (s.heap.objs.size + 1) x (rho0_mem e)).resolve_left k
      obtain ⟨c, hc⟩ := Option.isSome_iff_exists.mp hkx.2
      obtain ⟨v, e1, e2⟩ := (binds_slot (h := h₁) (a := 0) (cm := fun _ => none) (m := fun _ => none) (kindOf := (callEnvC fd s.heap.objs.size f).kindOf) hds hxs e).2 k
      exact ⟨hkx.1, c, v, hc, by have := X.cell x c hc; rwa [e1] at this, e2⟩
    isc := fun x c e => ⟨_, X.cell x c e⟩
    apart := fun x y c e1 e2 => mem2 _ X.apart x y c (mem_of_lookup e1) (mem_of_lookup e2)
    wL := hg.none hL
    wC := fun x c e => ⟨hg.none (hcn x c e), fun q => absurd (hce x c e) (by rw [q]; exact Nat.lt_irrefl _)⟩
    wO := fun x ds' e => (rho0_own e).elim
    inj := fun x y ds' es e _ _ => (rho0_own e).elim }
  exact hq h₁ tk ⟨S, kp, fun a wa => by
    rcases wa with rfl | ⟨x, e⟩ | ⟨x, es, e, _⟩
    · exact hL
    · exact hcn x a e
    · exact (rho0_own e).elim⟩

theorem fn_def (G : Gr K mg mb base) (hh : A.handled = none) (hu : A.units + 3 < cLine) (hroom : A.depth < recursionLimit) {f : Addr} {fd : FuncData} {oc : Value} {od : Option Addr} {osl : Array (Option Value)} {body : List Stmt} {xs : List Str} {Γ : Sig} (N : Nat)
    (ho : K.lookup f = some ⟨oc, od, .func fd, osl⟩) (hcd : codeIn K fd.code fd.qualname = true) (hbody : fd.body = .stmts body) (hclo : fd.closure = [])
    (hbind : ∀ vs : List Value, vs.length = xs.length → bindArgs fd ⟨vs, []⟩ = pure (xs.zip vs)) (hco : fd.scope.isCoroutine = false) (hgen : fd.scope.isGenerator = false) (hk : fd.scope.kind = .function) (hxs : xs.Nodup)
    (hkind : ∀ n, ∀ x ∈ xs, fd.scope.names.lookup x = some .local ∨ (fd.scope.names.lookup x = some .cell ∧ ((cellsFrom n fd.scope.names []).lookup x).isSome = true))
    (hΓ : ∀ L, SigOk prog w (A.deeper (callEnvC fd L f)) base (callEnvC fd L f) Γ) :
    FnOk prog w A base (.ref f) (φdef N Γ xs body) where
  keep h hb := by
    refine keeps_K ?_ h (G.k.keeps hb)
    unfold keepIn
    simp [ho]
  call := by
    intro vs ds d g s Q E e hds hg hb post
    unfold φdef at e
    split at e
    · rename_i hlen
      obtain ⟨q, e1, e2⟩ := bnd e
      refine fn_enter G hroom ho hcd hbody hclo hbind hco hgen hk hxs hkind hlen hds hg hb fun h₁ tk C => ?_
      refine ((snd_run (prog := prog) (w := w) (A := A.deeper (callEnvC fd s.heap.objs.size f)) (base := base) hh hu N) N (Nat.le_refl _)).2 Γ _ body q e1 _ _ g { s with heap := h₁, toks := tk } _ _ (C.low hb) (hΓ _) fun fl ow' g' h' tk' hf S' T => ?_
      obtain ⟨fl', ρ'⟩ := q
      cases fl' with
      | next => exact (nsm e2).elim
      | ret d' =>
        obtain rfl : d' = d := Option.some.inj e2
        obtain ⟨v, rfl, hv⟩ := hf
        exact post v h' g' tk' ⟨fun b o e => T.kp b o (fun wb => by rw [C.wb b wb] at e; cases e) (C.b b o e), T.gg, S'.gh, fun b e m => (T.nw b e m).elim C.b.none (C.wb b)⟩ hv
    · exact (nsm e).elim
end
end Mine
end

section
open PySem PySem.W PyProof.Rows PySem.Calls PySem.SeqAt
set_option linter.all false
set_option maxRecDepth 100000
namespace Mine

/-- a strict order without ties below n -/
structure LtN (n : Nat) (lt : Nat → Nat → Bool) : Prop where
  trans : ∀ i j k, i < n → j < n → k < n → lt i j = true → lt j k = true → lt i k = true
  tot : ∀ i j, i < n → j < n → i ≠ j → lt i j = false → lt j i = true
  asym : ∀ i j, i < n → j < n → lt i j = true → lt j i = false

noncomputable def at0 (p : Array Nat) (i : Nat) : Nat := p.getD i 0
noncomputable def InN (n : Nat) (p : Array Nat) : Prop := p.size = n ∧ (∀ i, i < n → at0 p i < n) ∧ (∀ i j, i < n → j < n → at0 p i = at0 p j → i = j) ∧ p.Perm (List.toArray (List.range n))
noncomputable def Asc (lt : Nat → Nat → Bool) (p : Array Nat) (m : Nat) : Prop := ∀ i j, i < j → j < m → lt (at0 p i) (at0 p j) = true
noncomputable def Dsc (lt : Nat → Nat → Bool) (p : Array Nat) (m : Nat) : Prop := ∀ i j, i < j → j < m → lt (at0 p j) (at0 p i) = true

theorem at0_some {p : Array Nat} {i : Nat} (h : i < p.size) : p[i]? = some (at0 p i) := by
  unfold at0
  simp [Array.getD, h]
theorem at0_of {p q : Array Nat} {i j : Nat} (h : p[i]? = q[j]?) : at0 p i = at0 q j := by
  unfold at0
  rw [Array.getD_eq_getD_getElem?, Array.getD_eq_getD_getElem?, h]

theorem inN_range (n : Nat) : InN n (List.toArray (List.range n)) := by
  have e : ∀ i, i < n → at0 (List.toArray (List.range n)) i = i := fun i hi => by
    unfold at0; simp [Array.getD, hi]
  exact ⟨by simp, fun i hi => by rw [e i hi]; exact hi, fun i j hi hj q => (by rwa [e i hi, e j hj] at q), Array.Perm.refl _⟩

section
variable {n : Nat} {lt : Nat → Nat → Bool} {s : Shared} {cmp : Nat → Nat → (Bool → Shared → Prop) → Shared → Prop}

theorem Asc.succ (hL : LtN n lt) {p : Array Nat} (hp : InN n p) {m : Nat} (h1 : 1 ≤ m) (hm : m < n) (h : Asc lt p m) (e : lt (at0 p (m - 1)) (at0 p m) = true) : Asc lt p (m + 1) := by
  intro i j hij hj
  rcases Nat.lt_or_ge j m with q | q
  · exact h i j hij q
  · obtain rfl : j = m := by first | lia | omega
    rcases Nat.lt_or_ge i (j - 1) with r | r
    · exact hL.trans _ _ _ (hp.2.1 i (by first | lia | omega)) (hp.2.1 (j - 1) (by first | lia | omega)) (hp.2.1 j hm) (h i (j - 1) r (by first | lia | omega)) e
    · obtain rfl : i = j - 1 := by first | lia | omega
      exact e
theorem Dsc.succ (hL : LtN n lt) {p : Array Nat} (hp : InN n p) {m : Nat} (h1 : 1 ≤ m) (hm : m < n) (h : Dsc lt p m) (e : lt (at0 p m) (at0 p (m - 1)) = true) : Dsc lt p (m + 1) := by
  intro i j hij hj
  rcases Nat.lt_or_ge j m with q | q
  · exact h i j hij q
  · obtain rfl : j = m := by first | lia | omega
    rcases Nat.lt_or_ge i (j - 1) with r | r
    · exact hL.trans _ _ _ (hp.2.1 j hm) (hp.2.1 (j - 1) (by first | lia | omega)) (hp.2.1 i (by first | lia | omega)) e (h i (j - 1) r (by first | lia | omega))
    · obtain rfl : i = j - 1 := by first | lia | omega
      exact e

variable (hc : ∀ i j C, i < n → j < n → C (lt i j) s → cmp i j C s) (hL : LtN n lt)
include hc hL

theorem asc_wp {p : Array Nat} (hp : InN n p) {Q : Nat → Shared → Prop} : ∀ (f m : Nat), 1 ≤ m → m + f ≤ n → Asc lt p m → (∀ m', m ≤ m' → m' ≤ m + f → Asc lt p m' → (m' < m + f → lt (at0 p m') (at0 p (m' - 1)) = true) → Q m' s) → (kas_asc p f m).kasWp cmp Q s
  | 0, m, h1, hf, ha, h => h m (Nat.le_refl _) (by first | lia | omega) ha (by first | lia | omega)
  | f + 1, m, h1, hf, ha, h => by
    show cmp (at0 p m) (at0 p (m - 1)) _ s
    refine hc _ _ _ (hp.2.1 m (by first | lia | omega)) (hp.2.1 _ (by first | lia | omega)) ?_
    dsimp only
    cases e : lt (at0 p m) (at0 p (m - 1)) with
    | true =>
      simp only [if_true]
      exact h m (Nat.le_refl _) (by first | lia | omega) ha fun _ => e
    | false =>
      simp only [Bool.false_eq_true, if_false]
      have e2 := hL.tot _ _ (hp.2.1 m (by first | lia | omega)) (hp.2.1 (m - 1) (by first | lia | omega)) (fun q => absurd (hp.2.2.1 m (m - 1) (by first | lia | omega) (by first | lia | omega) q) (by first | lia | omega)) e
      exact asc_wp hp f (m + 1) (by first | lia | omega) (by first | lia | omega) (ha.succ hL hp h1 (by first | lia | omega) e2) fun m' h1' h2' h3' h4' => h m' (by first | lia | omega) (by first | lia | omega) h3' fun q => h4' (by first | lia | omega)

theorem desc_wp {p : Array Nat} (hp : InN n p) {Q : Array Nat × Nat × Nat → Shared → Prop} : ∀ (f m : Nat), 1 ≤ m → m + f ≤ n → Dsc lt p m → (∀ m', m ≤ m' → m' ≤ m + f → Dsc lt p m' → Q (p, m', 0) s) → (kas_desc f p m 0).kasWp cmp Q s
  | 0, m, h1, hf, ha, h => h m (Nat.le_refl _) (by first | lia | omega) ha
  | f + 1, m, h1, hf, ha, h => by
    show cmp (at0 p m) (at0 p (m - 1)) _ s
    refine hc _ _ _ (hp.2.1 m (by first | lia | omega)) (hp.2.1 _ (by first | lia | omega)) ?_
    dsimp only
    cases e : lt (at0 p m) (at0 p (m - 1)) with
    | true =>
      simp only [if_true]
      rw [if_neg (by first | lia | omega)]
      exact desc_wp hp f (m + 1) (by first | lia | omega) (by first | lia | omega) (ha.succ hL hp h1 (by first | lia | omega) e) fun m' h1' h2' h3' => h m' (by first | lia | omega) (by first | lia | omega) h3'
    | false =>
      simp only [Bool.false_eq_true, if_false]
      have e2 := hL.tot _ _ (hp.2.1 m (by first | lia | omega)) (hp.2.1 (m - 1) (by first | lia | omega)) (fun q => absurd (hp.2.2.1 m (m - 1) (by first | lia | omega) (by first | lia | omega) q) (by first | lia | omega)) e
      show cmp (at0 p (m - 1)) (at0 p m) _ s
      refine hc _ _ _ (hp.2.1 _ (by first | lia | omega)) (hp.2.1 m (by first | lia | omega)) ?_
      dsimp only
      rw [e2]
      simp only [if_true]
      exact h m (Nat.le_refl _) (by first | lia | omega) ha

omit hc hL in
theorem rev_at {p : Array Nat} (hp : InN n p) {m : Nat} (hm : m ≤ n) (k : Nat) : at0 (kas_rev p 0 m) k = if k < m then at0 p (m - 1 - k) else at0 p k := by
  have := getElem?_mirror_all (xs := p) (i := 0) (j := m) (by rw [hp.1]; exact hm) k
  unfold kas_rev
  by_cases q : k < m
  · rw [if_pos q]
    rw [if_pos ⟨Nat.zero_le _, q⟩] at this
    simp only [Nat.zero_add] at this
    exact at0_of this
  · rw [if_neg q]
    rw [if_neg (fun z => q z.2)] at this
    exact at0_of this
omit hc hL in
theorem rev_in {p : Array Nat} (hp : InN n p) {m : Nat} (hm : m ≤ n) : InN n (kas_rev p 0 m) := by
  refine ⟨(mirror_size ..).trans hp.1, fun i hi => ?_, fun i j hi hj e => ?_, (mirror_perm ..).trans hp.2.2.2⟩
  · rw [rev_at hp hm]; split
    · exact hp.2.1 _ (by first | lia | omega)
    · exact hp.2.1 _ hi
  · rw [rev_at hp hm, rev_at hp hm] at e
    split at e <;> split at e <;> have := hp.2.2.1 _ _ (by first | lia | omega) (by first | lia | omega) e <;> (first | lia | omega)
omit hc hL in
theorem bub_at {p : Array Nat} (hp : InN n p) {k l : Nat} (hk : k < n) (hl : l ≤ k) (i : Nat) : at0 (bubble p k (k - l)) i = if i = l then at0 p k else if l < i ∧ i ≤ k then at0 p (i - 1) else at0 p i := by
  have := getElem?_bubble (xs := p) (src := k) (by rw [hp.1]; exact hk) (k - l) (by first | lia | omega) i
  have e : k - (k - l) = l := by first | lia | omega
  rw [e] at this
  split at this
  · rename_i q; rw [if_pos q]; exact at0_of this
  · rename_i q
    rw [if_neg q]
    split at this
    · rename_i q2; rw [if_pos q2]; exact at0_of this
    · rename_i q2; rw [if_neg q2]; exact at0_of this
omit hc hL in
theorem bub_in {p : Array Nat} (hp : InN n p) {k l : Nat} (hk : k < n) (hl : l ≤ k) : InN n (bubble p k (k - l)) := by
  refine ⟨(bubble_size ..).trans hp.1, fun i hi => ?_, fun i j hi hj e => ?_, (bubble_perm ..).trans hp.2.2.2⟩
  · rw [bub_at hp hk hl]
    split
    · exact hp.2.1 _ hk
    · split
      · exact hp.2.1 _ (by first | lia | omega)
      · exact hp.2.1 _ hi
  · rw [bub_at hp hk hl, bub_at hp hk hl] at e
    repeat' split at e
    all_goals have := hp.2.2.1 _ _ (by first | lia | omega) (by first | lia | omega) e; (first | lia | omega)

theorem count_wp {p : Array Nat} (hp : InN n p) (h2 : 2 ≤ n) {Q : Nat × Array Nat → Shared → Prop} (h : ∀ m p', 1 ≤ m → m ≤ n → InN n p' → Asc lt p' m → Q (m, p') s) : (kas_count n p).kasWp cmp Q s := by
  unfold kas_count
  rw [KasT.kasWp_bind]
  refine asc_wp hc hL hp (n - 1) 1 (Nat.le_refl _) (by first | lia | omega) (fun i j _ _ => by first | lia | omega) fun m hm1 hm2 ha hb => ?_
  by_cases q : m = n
  · rw [if_pos (by simp [q])]
    exact h m p hm1 (by first | lia | omega) hp ha
  · rw [if_neg (by simp [q])]
    by_cases q2 : m > 1
    · rw [if_pos q2]
      show cmp (at0 p 0) (at0 p (m - 1)) _ s
      refine hc _ _ _ (hp.2.1 _ (by first | lia | omega)) (hp.2.1 _ (by first | lia | omega)) ?_
      dsimp only
      rw [ha 0 (m - 1) (by first | lia | omega) (by first | lia | omega)]
      simp only [if_true]
      exact h m p hm1 (by first | lia | omega) hp ha
    · rw [if_neg q2]
      obtain rfl : m = 1 := by first | lia | omega
      have e := hb (by first | lia | omega)
      unfold kas_descPart
      rw [KasT.kasWp_bind]
      refine desc_wp hc hL hp _ 2 (by first | lia | omega) (by first | lia | omega) (fun i j hij hj => ?_) fun m' h1' h2' hd => ?_
      · obtain rfl : i = 0 := by first | lia | omega
        obtain rfl : j = 1 := by first | lia | omega
        exact e
      · dsimp only
        rw [if_neg (by first | lia | omega)]
        unfold kas_tail3
        rw [KasT.kasWp_bind]
        have hr := rev_in hp (m := m') (by first | lia | omega)
        refine asc_wp hc hL hr _ m' (by first | lia | omega) (by first | lia | omega) (fun i j hij hj => ?_) fun m'' h1'' h2'' ha'' _ => ?_
        · rw [rev_at hp (by first | lia | omega), rev_at hp (by first | lia | omega), if_pos (by first | lia | omega), if_pos hj]
          exact hd _ _ (by first | lia | omega) (by first | lia | omega)
        · exact h m'' _ (by first | lia | omega) (by first | lia | omega) hr ha''

theorem place_wp {p : Array Nat} (hp : InN n p) {k : Nat} (hk : k < n) (ha : Asc lt p k) {Q : Nat → Shared → Prop} (h : ∀ l, l ≤ k → (∀ i, i < l → lt (at0 p i) (at0 p k) = true) → (∀ i, l ≤ i → i < k → lt (at0 p k) (at0 p i) = true) → Q l s) :
    ∀ (f l r : Nat), l ≤ r → r ≤ k → r - l ≤ f → (∀ i, i < l → lt (at0 p i) (at0 p k) = true) → (∀ i, r ≤ i → i < k → lt (at0 p k) (at0 p i) = true) → (kas_place p k f l r).kasWp cmp Q s
  | 0, l, r, h1, h2, hf, hlo, hhi => by
    obtain rfl : l = r := by first | lia | omega
    exact h l h2 hlo hhi
  | f + 1, l, r, h1, h2, hf, hlo, hhi => by
    unfold kas_place
    by_cases q : l ≥ r
    · rw [if_pos q]
      obtain rfl : l = r := by first | lia | omega
      exact h l h2 hlo hhi
    · rw [if_neg q]
      show cmp (at0 p k) (at0 p ((l + r) / 2)) _ s
      have hm : (l + r) / 2 < k := by first | lia | omega
      refine hc _ _ _ (hp.2.1 k hk) (hp.2.1 _ (by first | lia | omega)) ?_
      dsimp only
      cases e : lt (at0 p k) (at0 p ((l + r) / 2)) with
      | true =>
        simp only [if_true]
        refine place_wp hp hk ha h f l ((l + r) / 2) (by first | lia | omega) (by first | lia | omega) (by first | lia | omega) hlo fun i hi hik => ?_
        rcases Nat.lt_or_ge ((l + r) / 2) i with z | z
        · exact hL.trans _ _ _ (hp.2.1 k hk) (hp.2.1 _ (by first | lia | omega)) (hp.2.1 i (by first | lia | omega)) e (ha _ _ z hik)
        · obtain rfl : i = (l + r) / 2 := by first | lia | omega
          exact e
      | false =>
        simp only [Bool.false_eq_true, if_false]
        have e2 := hL.tot _ _ (hp.2.1 k hk) (hp.2.1 ((l + r) / 2) (by first | lia | omega)) (fun q => absurd (hp.2.2.1 k _ hk (by first | lia | omega) q) (by first | lia | omega)) e
        refine place_wp hp hk ha h f ((l + r) / 2 + 1) r (by first | lia | omega) h2 (by first | lia | omega) (fun i hi => ?_) hhi
        rcases Nat.lt_or_ge i ((l + r) / 2) with z | z
        · exact hL.trans _ _ _ (hp.2.1 i (by first | lia | omega)) (hp.2.1 _ (by first | lia | omega)) (hp.2.1 k hk) (ha _ _ z (by first | lia | omega)) e2
        · obtain rfl : i = (l + r) / 2 := by first | lia | omega
          exact e2

theorem bin_wp {Q : Array Nat → Shared → Prop} (h : ∀ p, InN n p → Asc lt p n → Q p s) : ∀ (f : Nat) (p : Array Nat) (k : Nat), InN n p → k + f = n → Asc lt p k → (kas_bin f p k).kasWp cmp Q s
  | 0, p, k, hp, hf, ha => h p hp (by obtain rfl : k = n := by first | lia | omega
                                      exact ha)
  | f + 1, p, k, hp, hf, ha => by
    unfold kas_bin
    rw [KasT.kasWp_bind]
    have hk : k < n := by first | lia | omega
    refine place_wp hc hL hp hk ha (fun l hl hlo hhi => ?_) k 0 k (Nat.zero_le _) (Nat.le_refl _) (by first | lia | omega) (fun i hi => by first | lia | omega) (fun i h1 h2 => by first | lia | omega)
    refine bin_wp h f _ (k + 1) (bub_in hp hk hl) (by first | lia | omega) fun i j hij hj => ?_
    rw [bub_at hp hk hl, bub_at hp hk hl]
    by_cases a1 : i = l
    · rw [if_pos a1, if_neg (by first | lia | omega), if_pos (by first | lia | omega)]
      exact hhi _ (by first | lia | omega) (by first | lia | omega)
    · rw [if_neg a1]
      by_cases a2 : l < i ∧ i ≤ k
      · rw [if_pos a2, if_neg (by first | lia | omega), if_pos (by first | lia | omega)]
        exact ha _ _ (by first | lia | omega) (by first | lia | omega)
      · rw [if_neg a2]
        by_cases b1 : j = l
        · rw [if_pos b1]; exact hlo _ (by first | lia | omega)
        · rw [if_neg b1]
          by_cases b2 : l < j ∧ j ≤ k
          · rw [if_pos b2]; exact ha _ _ (by first | lia | omega) (by first | lia | omega)
          · rw [if_neg b2]; exact ha _ _ (by first | lia | omega) (by first | lia | omega)

theorem sort_wp (h2 : 2 ≤ n) {Q : Array Nat → Shared → Prop} (h : ∀ p, InN n p → Asc lt p n → Q p s) : (kas_sort n).kasWp cmp Q s := by
  unfold kas_sort
  rw [KasT.kasWp_bind]
  have h0 := inN_range n
  refine count_wp hc hL h0 h2 fun m p' h1 h2' hp ha => ?_
  dsimp only
  by_cases q : m < n
  · rw [if_pos q]
    have : max m 1 = m := by first | lia | omega
    rw [this]
    exact bin_wp hc hL h _ _ _ hp (by first | lia | omega) ha
  · rw [if_neg q]
    obtain rfl : m = n := by first | lia | omega
    exact h p' hp ha
end
end Mine
end

section
open PySem PySem.W PyProof.Rows PySem.Calls PySem.SeqAt
set_option linter.all false
set_option maxRecDepth 100000
namespace Mine

noncomputable abbrev IP := Int × Int
noncomputable def ltP (p q : IP) : Bool := if p.1 = q.1 then decide (p.2 < q.2) else decide (p.1 < q.1)
noncomputable def insP (p : IP) : List IP → List IP
  | [] => [p]
  | q :: r => if ltP p q then p :: q :: r else q :: insP p r
noncomputable def sortP : List IP → List IP
  | [] => []
  | p :: r => insP p (sortP r)
noncomputable def pairD (p : IP) : D := .tup [.int p.1, .int p.2]
noncomputable def pairI (d : D) : Option IP := (tup2 d).bind fun x => (asI x.1).bind fun a => (asI x.2).map fun b => (a, b)
noncomputable def pairsD : List D → Option (List IP)
  | [] => some []
  | d :: r => (pairI d).bind fun p => (pairsD r).map (p :: ·)
theorem pairsD_map (l : List IP) : pairsD (l.map pairD) = some l := by
  induction l with
  | nil => rfl
  | cons p l ih =>
    show (pairsD (l.map pairD)).map (p :: ·) = _
    rw [ih]; rfl
theorem pairI_eq {d : D} {p : IP} (h : pairI d = some p) : d = pairD p := by
  obtain ⟨⟨x, y⟩, h1, h⟩ := bnd h
  obtain ⟨a, h2, h⟩ := bnd h
  obtain ⟨b, h3, rfl⟩ := mpd h
  obtain rfl := tup2_some h1
  obtain rfl := asI_some h2
  obtain rfl := asI_some h3
  rfl
theorem pairsD_eq {ds : List D} : ∀ {ps : List IP}, pairsD ds = some ps → ds = ps.map pairD := by
  induction ds with
  | nil => intro ps h; obtain rfl : [] = ps := Option.some.inj h; rfl
  | cons d r ih =>
    intro ps h
    obtain ⟨p, h1, h⟩ := bnd h
    obtain ⟨t, h2, rfl⟩ := mpd h
    rw [pairI_eq h1, ih h2]; rfl

theorem ltP_trans {a b c : IP} (h1 : ltP a b = true) (h2 : ltP b c = true) : ltP a c = true := by
  unfold ltP at *
  split at h1 <;> split at h2 <;> split <;> simp only [decide_eq_true_eq] at * <;> (first | lia | omega)
theorem ltP_asym {a b : IP} (h1 : ltP a b = true) : ltP b a = false := by
  unfold ltP at *
  split at h1 <;> split <;> simp only [decide_eq_true_eq, decide_eq_false_iff_not] at * <;> (first | lia | omega)
theorem ltP_tot {a b : IP} (hn : a ≠ b) (h1 : ltP a b = false) : ltP b a = true := by
  obtain ⟨a1, a2⟩ := a
  obtain ⟨b1, b2⟩ := b
  unfold ltP at *
  have : ¬ (a1 = b1 ∧ a2 = b2) := fun q => hn (by rw [q.1, q.2])
  split at h1 <;> split <;> simp only [decide_eq_true_eq, decide_eq_false_iff_not] at * <;> (first | lia | omega)

theorem insP_perm (p : IP) : ∀ l, (insP p l).Perm (p :: l)
  | [] => .refl _
  | q :: r => by
    unfold insP
    split
    · exact .refl _
    · exact ((insP_perm p r).cons q).trans (.swap p q r)
theorem sortP_perm : ∀ l, (sortP l).Perm l
  | [] => .refl _
  | p :: r => (insP_perm p _).trans ((sortP_perm r).cons p)
theorem insP_asc {p : IP} : ∀ {l : List IP}, l.Pairwise (fun a b => ltP a b = true) → p ∉ l → (insP p l).Pairwise fun a b => ltP a b = true
  | [], _, _ => List.pairwise_singleton _ _
  | q :: r, h, hn => by
    rw [List.pairwise_cons] at h
    unfold insP
    split
    · rename_i e
      refine List.pairwise_cons.mpr ⟨fun b hb => ?_, List.pairwise_cons.mpr h⟩
      rcases List.mem_cons.mp hb with rfl | hb
      · exact e
      · exact ltP_trans e (h.1 b hb)
    · rename_i e
      refine List.pairwise_cons.mpr ⟨fun b hb => ?_, insP_asc h.2 fun q => hn (List.mem_cons_of_mem _ q)⟩
      rcases List.mem_cons.mp ((insP_perm p r).mem_iff.mp hb) with rfl | hb
      · exact ltP_tot (fun z => hn (by rw [z]; exact List.mem_cons_self)) (by simpa using e)
      · exact h.1 b hb
theorem sortP_asc : ∀ {l : List IP}, l.Nodup → (sortP l).Pairwise fun a b => ltP a b = true
  | [], _ => .nil
  | p :: r, h => by
    have h' := List.nodup_cons.mp h
    exact insP_asc (sortP_asc h'.2) fun q => h'.1 ((sortP_perm r).mem_iff.mp q)
theorem asc_uniq : ∀ {a b : List IP}, a.Perm b → a.Pairwise (fun x y => ltP x y = true) → b.Pairwise (fun x y => ltP x y = true) → a = b
  | [], b, h, _, _ => by have := h.length_eq; cases b with | nil => rfl | cons => simp at this
  | x :: a, [], h, _, _ => by have := h.length_eq; simp at this
  | x :: a, y :: b, h, ha, hb => by
    have ha' := List.pairwise_cons.mp ha
    have hb' := List.pairwise_cons.mp hb
    have e : x = y := by
      rcases List.mem_cons.mp (h.mem_iff.mp List.mem_cons_self) with q | q
      · exact q
      · rcases List.mem_cons.mp (h.mem_iff.mpr List.mem_cons_self) with q2 | q2
        · exact q2.symm
        · have := ltP_asym (ha'.1 _ q2)
          rw [hb'.1 _ q] at this; cases this
    subst e
    rw [asc_uniq h.cons_inv ha'.2 hb'.2]

/-- what the tree's end makes of the pairs -/
theorem sorted_out {ps : List IP} (hn : ps.Nodup) {p : Array Nat} (hp : InN ps.length p) (ha : Asc (fun i j => ltP (ps.getD i (0, 0)) (ps.getD j (0, 0))) p ps.length) :
    p.toList.map (fun i => ps.getD i (0, 0)) = sortP ps := by
  refine asc_uniq ?_ ?_ (sortP_asc hn)
  · refine List.Perm.trans ?_ (sortP_perm ps).symm
    have h0 : p.toList.Perm (List.range ps.length) := by simpa using hp.2.2.2.toList
    have h1 := h0.map fun i => ps.getD i (0, 0)
    refine h1.trans (List.Perm.of_eq ?_)
    refine List.ext_getElem? fun i => ?_
    by_cases q : i < ps.length
    · simp [q]
    · simp [q]
  · rw [List.pairwise_iff_getElem]
    intro i j hi hj hij
    simp only [List.length_map, Array.length_toList, hp.1] at hi hj
    have ea : ∀ k (hk : k < p.size), p[k] = at0 p k := fun k hk => by unfold at0; simp [Array.getD, hk]
    simp only [List.getElem_map, Array.getElem_toList]
    rw [ea, ea]
    exact ha i j hij hj

section
variable {prog : Program} {w : World} {A : Around} {E : Value → Shared → Prop} {s : Shared}

theorem sort_list {a : Addr} {vs : List Value} {n : Nat} {κ : SortKind} {lt : Nat → Nat → Bool} {P : PySem.Fin → Shared → Prop} (ho : s.heap.get? a = some (seqObj "list" vs.toArray n)) (h64 : vs.length < 64)
    (hk : 2 ≤ vs.length → ∀ h', (∀ b o, b ≠ a → s.heap.get? b = some o → h'.get? b = some o) → ∀ (Q : SortKind → Shared → Prop), Q κ { s with heap := h' } → wpAny (model prog w) A (keyKind' vs.toArray) Q (fun _ _ => False) { s with heap := h' })
    (hlt : ∀ h', (∀ b o, b ≠ a → s.heap.get? b = some o → h'.get? b = some o) → ∀ i j C, i < vs.length → j < vs.length → C (lt i j) { s with heap := h' } → kas_ask prog w A κ vs i j C { s with heap := h' })
    (hL : LtN vs.length lt)
    (h : ∀ p h' c, InN vs.length p → Asc lt p vs.length → (∀ b o, b ≠ a → s.heap.get? b = some o → h'.get? b = some o) → h'.get? a = some (seqObj "list" (p.toList.map fun i => vs.getD i Value.none).toArray c) → P (.done (.ret .none)) { s with heap := h' }) :
    wpAny (model prog w) A (Builtin.«list.sort» ⟨[.ref a], []⟩) P E s := by
  have e1 := get?_update_seq ho fun _ => (#[] : Array Value)
  have kp0 : ∀ b o, b ≠ a → s.heap.get? b = some o → (((s.heap.update a (Obj.mapSeq fun _ => (#[] : Array Value))).push (seqObj "tuple" vs.toArray 0)).push (seqObj "list" #[] 0)).get? b = some o := fun b o hb e =>
    Heap.get?_push_of_some _ (Heap.get?_push_of_some _ (((Heap.SameBut.update s.heap a (Obj.mapSeq fun _ => (#[] : Array Value))).2 b hb).trans e))
  obtain ⟨c1, e2⟩ : ∃ c, (((s.heap.update a (Obj.mapSeq fun _ => (#[] : Array Value))).push (seqObj "tuple" vs.toArray 0)).push (seqObj "list" #[] 0)).get? a = some (seqObj "list" #[] c) :=
    ⟨_, Heap.get?_push_of_some _ (Heap.get?_push_of_some _ e1)⟩
  generalize hH : (((s.heap.update a (Obj.mapSeq fun _ => (#[] : Array Value))).push (seqObj "tuple" vs.toArray 0)).push (seqObj "list" #[] 0)) = H at kp0 e2
  have tail : ∀ (p : Array Nat) (st : SortSt), InN vs.length p → Asc lt p vs.length → (arrOf st).map (·.2) = (p.toList.map fun i => vs.getD i Value.none).toArray → failedOf st = none →
      wpAny (model prog w) A (do
        let touched := (← seqEpoch a) != c1
        Builtin.List.listUpdate (.ref a) fun _ => (arrOf st).map (·.2)
        if let some e := failedOf st then rule "list.sort.comparison-raised"; throw e
        if touched then rule "list.sort.modified"; raiseError "ValueError" "list modified during sort"
        ret .none) P E { s with heap := H } := by
    intro p st hp ha hout hf
    have hsz : ((arrOf st).map (·.2)).size = vs.length := by rw [hout]; simp [hp.1]
    refine wpAny_bind (seqEpoch_at e2 rfl ?_)
    refine wpAny_bind (listUpdate_at e2 rfl ?_ (Nat.zero_le _) (Nat.le_trans (Nat.le_of_eq hsz) (by rw [sizeLine_eq]; (first | lia | omega))))
    rw [hf]
    simp only [bne_self_eq_false, Bool.false_eq_true, if_false]
    obtain ⟨c2, hc2⟩ : ∃ c2, (H.update a (Obj.mapSeq fun _ => (arrOf st).map (·.2))).get? a = some (seqObj "list" ((arrOf st).map (·.2)) c2) := ⟨_, get?_update_seq e2 fun _ => (arrOf st).map (·.2)⟩
    refine wpAny_pure (h p _ c2 hp ha (fun b o hb e => ((Heap.SameBut.update H a _).2 b hb).trans (kp0 b o hb e)) ?_)
    rw [← hout]
    exact hc2
  rw [list_sort_plain]
  refine wpAny_bind (listItems_at ho rfl (wpAny_bind (listUpdate_at ho rfl ?_ (by rw [List.size_toArray, sizeLine_eq]; (first | lia | omega)) (Nat.zero_le _))))
  refine wpAny_bind (seqEpoch_at e1 rfl (wpAny_bind (wpAny_newTuple ?_ (by show vs.length ≤ _; rw [sizeLine_eq]; (first | lia | omega)))))
  refine wpAny_bind (wpAny_newList ?_ (Nat.zero_le _))
  refine wpAny_holding ?_
  have hc1 : (if (#[] : Array Value).size == vs.toArray.size then n else n + 1) = c1 := by
    have := Heap.get?_push_of_some (seqObj "list" #[] 0) (Heap.get?_push_of_some (seqObj "tuple" vs.toArray 0) e1)
    rw [hH, e2] at this
    simp only [Option.some.injEq, Obj.mk.injEq, Data.seq.injEq] at this
    exact this.2.2.1.2.symm
  show wpAny (model prog w) A _ P E { s with heap := (((s.heap.update a (Obj.mapSeq fun _ => (#[] : Array Value))).push (seqObj "tuple" vs.toArray 0)).push (seqObj "list" #[] 0)) }
  rw [hH, hc1]
  dsimp only
  by_cases h2 : vs.toArray.size < 2
  · rw [if_pos h2, if_pos h2]
    refine wpAny_bind (wpAny_pure ?_)
    rw [StateT.run_pure]
    refine wpAny_bind (wpAny_pure ?_)
    dsimp only
    have hl : vs.length < 2 := by simpa using h2
    refine tail (List.range vs.length).toArray (SortSt.mk' general' (vs.toArray.zip vs.toArray) #[] 7 none) (inN_range _) (fun i j hi hj => by first | lia | omega) ?_ rfl
    cases vs with
    | nil => simp
    | cons v ws =>
      obtain rfl := vs_nil (Nat.le_zero.mp (Nat.le_of_lt_succ (Nat.lt_of_succ_lt_succ hl)))
      simp [List.range, List.range.loop]; exact ⟨v, rfl⟩
  · rw [if_neg h2, if_neg h2]
    have hl : 2 ≤ vs.length := by simpa using h2
    refine wpAny_bind (wpAny_mono (hk hl H kp0 (fun κ' s' => κ = κ' ∧ s' = { s with heap := H }) ⟨rfl, rfl⟩) ?_ fun _ _ x => x.elim)
    rintro _ _ ⟨rfl, rfl⟩
    have run := kat_run (ks := vs) (vs := vs) (s := { s with heap := H }) (A := A) (E := E) (w := w) (prog := prog) (κ := κ) (Q := fun st' s' => s' = { s with heap := H } ∧ ∃ p, InN vs.length p ∧ Asc lt p vs.length ∧ (arrOf st').map (·.2) = (p.toList.map fun i => vs.getD i Value.none).toArray ∧ failedOf st' = none)
      (G := fun p s' => s' = { s with heap := H } ∧ InN vs.length p ∧ Asc lt p vs.length) rfl hl h64 (fun p st' s' _ a1 a2 a3 => ⟨a3.1, p, a3.2.1, a3.2.2, kat_snds rfl a1, a2⟩)
      (sort_wp (s := { s with heap := H }) (hlt H kp0) hL hl fun p hp ha => ⟨rfl, hp, ha⟩)
    refine wpAny_bind (wpAny_mono run ?_ fun _ _ e => e)
    rintro ⟨⟨⟩, st'⟩ s' ⟨rfl, p, hp, ha, hout, hf⟩
    exact tail p st' hp ha hout hf

theorem firsts {g : PH} {h' : Heap} (hg : HS g h') {ps : List IP} : ∀ {vs : List Value}, DIs g vs (ps.map pairD) → ∃ fs, KatTups h' vs fs ∧ fs.length = ps.length ∧ ∀ v ∈ fs, ∃ i t, v = .int i t := by
  induction ps with
  | nil =>
    intro vs h
    obtain rfl := h.nil_inv
    exact ⟨[], KatTups.nil, rfl, fun _ h => nomatch h⟩
  | cons p ps ih =>
    intro vs h
    obtain ⟨v, ws, rfl, hd, hr⟩ := h.cons_inv
    obtain ⟨fs, h1, h2, h3⟩ := ih hr
    obtain ⟨a, us, o, rfl, e1, e2, e3⟩ := DI.tup_inv hd
    obtain ⟨x, y, rfl, hx, hy⟩ := e3.two_inv
    obtain ⟨t, rfl⟩ := hx.int_inv
    obtain ⟨n, hn⟩ := e2.2
    exact ⟨_ :: fs, KatTups.cons (hg _ _ e1) e2.1 hn rfl h1, by rw [List.length_cons, List.length_cons, h2], fun v hv => by
      rcases List.mem_cons.mp hv with rfl | hv
      · exact ⟨_, _, rfl⟩
      · exact h3 v hv⟩

noncomputable def κp : SortKind := tuples' (Value.type "int" != Value.type "tuple")

theorem ask_pairs {g : PH} {h' : Heap} (hg : HS g h') {vs : List Value} {ps : List IP} (hd : DIs g vs (ps.map pairD)) {i j : Nat} (hi : i < ps.length) (hj : j < ps.length) {C : Bool → Shared → Prop}
    (hC : C (ltP (ps.getD i (0, 0)) (ps.getD j (0, 0))) { s with heap := h' }) : kas_ask prog w A κp vs i j C { s with heap := h' } := by
  obtain ⟨v, e1, e2⟩ := hd.get (k := i) (d := pairD (ps.getD i (0, 0))) (by simp [hi])
  obtain ⟨u, f1, f2⟩ := hd.get (k := j) (d := pairD (ps.getD j (0, 0))) (by simp [hj])
  unfold kas_ask
  have g1 : vs.getD i Value.none = v := by rw [List.getD_eq_getElem?_getD, e1]; rfl
  have g2 : vs.getD j Value.none = u := by rw [List.getD_eq_getElem?_getD, f1]; rfl
  rw [g1, g2]
  generalize ps.getD i (0, 0) = p at *
  generalize ps.getD j (0, 0) = q at *
  obtain ⟨a, ws, o, rfl, q1, q2, q3⟩ := DI.tup_inv e2
  obtain ⟨b, us, r, rfl, r1, r2, r3⟩ := DI.tup_inv f2
  obtain ⟨n, hn⟩ := q2.2
  obtain ⟨m, hm⟩ := r2.2
  obtain ⟨x, x', rfl, x1, x2⟩ := q3.two_inv
  obtain ⟨y, y', rfl, y1, y2⟩ := r3.two_inv
  obtain ⟨t1, rfl⟩ := x1.int_inv
  obtain ⟨t2, rfl⟩ := x2.int_inv
  obtain ⟨t3, rfl⟩ := y1.int_inv
  obtain ⟨t4, rfl⟩ := y2.int_inv
  refine kat_lt (s := { s with heap := h' }) (hg _ _ q1) hn (hg _ _ r1) hm ?_
  show KatLex prog w A _ _ C [(Value.int p.1 t1, Value.int q.1 t3), (Value.int p.2 t2, Value.int q.2 t4)] 0 _
  refine kat_cons (wpAny_eqBool_int (kat_go (fun e => kat_yes (kat_cons (wpAny_eqBool_int (kat_go (fun e' => kat_yes (kat_nil ?_)) fun e' => kat_no ?_)))) fun e => kat_no ?_))
  · have e1 : p.1 = q.1 := by simpa using e
    have e2 : p.2 = q.2 := by simpa using e'
    have : ltP p q = false := by unfold ltP; rw [if_pos e1]; simp [e2]
    rw [this] at hC
    exact hC
  · have e1 : p.1 = q.1 := by simpa using e
    have : ltP p q = decide (p.2 < q.2) := by unfold ltP; rw [if_pos e1]
    rw [this] at hC
    show wpAny _ _ (oneLt' _ _ _) _ _ _
    have hb : ((Value.type "int" != Value.type "tuple") && (0 + 1 == 0)) = false := by simp
    rw [hb]
    exact kat_one _ _ (P.lt_int hC)
  · have e1 : p.1 ≠ q.1 := by simpa using e
    have : ltP p q = decide (p.1 < q.1) := by unfold ltP; rw [if_neg e1]
    rw [this] at hC
    have hb : ((Value.type "int" != Value.type "tuple") && (0 == 0)) = true := by rfl
    rw [hb]
    exact oneLt_int hC

noncomputable def φsorted : List D → Option D
  | [.lst ds] => (pairsD ds).bind fun ps => if ps.length < 64 ∧ ps.Nodup then some (.lst ((sortP ps).map pairD)) else none
  | _ => none

theorem fn_sorted {base : Heap} : FnOk prog w A base (.builtin "sorted") φsorted where
  keep := keep_builtin
  call := by
    intro vs ds d g s Q E e hds hg hb post
    unfold φsorted at e
    split at e
    · rename_i ds
      obtain ⟨x0, rfl, hd⟩ := hds.one_inv
      obtain ⟨ps, e1, e2⟩ := bnd e
      split at e2
      · rename_i hc
        cases e2
        obtain ⟨h64, hnd⟩ := hc
        have := pairsD_eq e1
        subst this
        obtain ⟨l, us, n, rfl, el, hd⟩ := hd.lst_inv
        have hul : us.length = ps.length := by simpa using hd.length
        have hl : s.heap.IsList l us.toArray := lstO_isList (hg _ _ el)
        refine Calls.call_function_entry kind_sorted plain_sorted entry_sorted (args_sorted1 _) ?_
        unfold Builtin.«sorted»
        refine wpAny_bind (m := checkCount "sorted" 1 1 _) (wpAny_pure ?_)
        refine wpAny_bind (collect_list hl ?_ (by rw [sizeLine_eq]; (first | lia | omega)))
        refine wpAny_bind (wpAny_newList ?_ (by rw [sizeLine_eq]; (first | lia | omega)))
        have k1 : Kp s.heap ((s.heap.push (seqObj "list" #[] 0)).update s.heap.objs.size (Obj.mapSeq (· ++ us.toArray))) := fun b o q =>
          ((Heap.SameBut.update (s.heap.push (seqObj "list" #[] 0)) s.heap.objs.size (Obj.mapSeq (· ++ us.toArray))).2 b (Nat.ne_of_lt (Heap.lt_size q))).trans (Heap.get?_push_of_some _ q)
        generalize ((s.heap.push (seqObj "list" #[] 0)).update s.heap.objs.size (Obj.mapSeq (· ++ us.toArray))) = h1 at k1 ⊢
        have hno : s.heap.get? h1.objs.size = none := k1.none (get_size_none h1)
        have hoL : (h1.push (seqObj "list" us.toArray 0)).get? h1.objs.size = some (seqObj "list" us.toArray 0) := Heap.get?_push_size _ rfl
        have k2 : Kp s.heap (h1.push (seqObj "list" us.toArray 0)) := fun b o q => Heap.get?_push_of_some _ (k1 b o q)
        have nb : ∀ b o, s.heap.get? b = some o → b ≠ h1.objs.size := fun b o q z => by rw [z, hno] at q; cases q
        show wpAny _ _ _ _ _ { s with heap := h1.push (seqObj "list" us.toArray 0) }
        refine wpAny_bind (wpAny_holding (wpAny_call_entry slot_list_sort ⟨_, hoL, rfl⟩ entry_list_sort ?_ (args_list_sort _)))
        have keepAll : ∀ {h' : Heap}, (∀ b o, b ≠ h1.objs.size → (h1.push (seqObj "list" us.toArray 0)).get? b = some o → h'.get? b = some o) → Kp s.heap h' := fun k b o q => k b o (nb b o q) (k2 b o q)
        refine sort_list (s := { s with heap := h1.push (seqObj "list" us.toArray 0) }) (κ := κp) (lt := fun i j => ltP (ps.getD i (0, 0)) (ps.getD j (0, 0))) hoL (by first | lia | omega) (fun h2 h' k Q' hq => ?_) (fun h' k i j C hi hj hC => ?_) ?_ fun p h' c hp ha k hout => ?_
        · obtain ⟨fs, f1, f2, f3⟩ := firsts (hg.kp (keepAll k)) hd
          exact kat_kind (T := .type "int") f1 (by first | lia | omega) (fun v hv => by obtain ⟨i, t, rfl⟩ := f3 v hv; exact Looks.of_pure rfl) (by rfl) hq
        · exact ask_pairs (s := { s with heap := h1.push (seqObj "list" us.toArray 0) }) (hg.kp (keepAll k)) hd (by first | lia | omega) (by first | lia | omega) hC
        · rw [hul]
          have ne : ∀ i j, i < ps.length → j < ps.length → i ≠ j → ps.getD i (0, 0) ≠ ps.getD j (0, 0) := fun i j hi hj hij q => by
            have e1 : ps.getD i (0, 0) = ps[i] := by simp [hi]
            have e2 : ps.getD j (0, 0) = ps[j] := by simp [hj]
            rw [e1, e2] at q
            have := List.pairwise_iff_getElem.mp hnd
            rcases Nat.lt_or_ge i j with z | z
            · exact this i j hi hj z q
            · exact this j i hj hi (by first | lia | omega) q.symm
          exact ⟨fun i j k _ _ _ a b => ltP_trans a b, fun i j hi hj hij a => ltP_tot (ne i j hi hj hij) a, fun i j _ _ a => ltP_asym a⟩
        · rw [hul] at hp ha
          have hs := sorted_out hnd hp ha
          refine ⟨_, rfl, wpAny_pure ⟨_, rfl, ?_⟩⟩
          have kk := keepAll k
          have X : Ext s.heap h' g (ins g h1.objs.size (lstO (p.toList.map fun i => us.getD i Value.none) c)) := Ext.new hg kk hno hout
          refine post (.ref h1.objs.size) h' _ s.toks X (.lst (ins_self _ _ _) ?_)
          rw [← hs, List.map_map]
          have : ∀ l : List Nat, (∀ i ∈ l, i < ps.length) → DIs (ins g h1.objs.size (lstO (p.toList.map fun i => us.getD i Value.none) c)) (l.map fun i => us.getD i Value.none) (l.map (pairD ∘ fun i => ps.getD i (0, 0))) := by
            intro l
            induction l with
            | nil => intro _; exact .nil
            | cons i l ih =>
              intro hl
              obtain ⟨v, e1, e2⟩ := hd.get (k := i) (d := pairD (ps.getD i (0, 0))) (by simp [hl i List.mem_cons_self])
              have g1 : us.getD i Value.none = v := by rw [List.getD_eq_getElem?_getD, e1]; rfl
              refine .cons ?_ (ih fun j hj => hl j (List.mem_cons_of_mem _ hj))
              show DI _ (us.getD i Value.none) (pairD (ps.getD i (0, 0)))
              rw [g1]
              exact e2.mono X.gg
          refine this _ fun i hi => ?_
          obtain ⟨k, hk, rfl⟩ := List.getElem_of_mem hi
          simp only [Array.length_toList] at hk
          have := hp.2.1 k (by rw [← hp.1]; exact hk)
          unfold at0 at this
          simpa [Array.getD, hk] using this
      · cases e2
    · cases e
end
end Mine
end

section
open PySem PySem.W PyProof.Rows PySem.Calls PySem.SeqAt
set_option linter.all false
set_option maxRecDepth 100000
set_option maxHeartbeats 4000000
namespace Mine

noncomputable def fnL (l : List (Str × (List D → Option D))) : Str → Option (List D → Option D) := fun x => l.lookup x

theorem fnL_cons {prog : Program} {w : World} {A : Around} {base : Heap} {env : Env} {f : Str} {φ : List D → Option D} {l : List (Str × (List D → Option D))} (h : ∃ fv, GlobIs prog w A base env f fv ∧ FnOk prog w A base fv φ)
    (r : ∀ f φ, fnL l f = some φ → ∃ fv, GlobIs prog w A base env f fv ∧ FnOk prog w A base fv φ) : ∀ f' φ', fnL ((f, φ) :: l) f' = some φ' → ∃ fv, GlobIs prog w A base env f' fv ∧ FnOk prog w A base fv φ' := by
  intro f' φ' e
  unfold fnL at e
  rw [List.lookup_cons] at e
  split at e
  · rename_i q
    cases e
    have : f' = f := by simpa using q
    rw [this]; exact h
  · exact r f' φ' e
theorem fnL_nil {prog : Program} {w : World} {A : Around} {base : Heap} {env : Env} : ∀ f φ, fnL [] f = some φ → ∃ fv, GlobIs prog w A base env f fv ∧ FnOk prog w A base fv φ := fun f φ e => by cases e
theorem all_nil {P : Str → Prop} : ∀ x ∈ ([] : List Str), P x := fun _ h => nomatch h
theorem all_cons {P : Str → Prop} {a : Str} {l : List Str} (h : P a) (r : ∀ x ∈ l, P x) : ∀ x ∈ a :: l, P x := fun x hx => by
  rcases List.mem_cons.mp hx with rfl | hx
  · exact h
  · exact r x hx

section
variable {prog : Program} {w : World} {A : Around} {base : Heap} {mg mb : Str → Option Value}

noncomputable def B_greatest_length : List Stmt := bodyOf "greatest_length"
noncomputable def Γ_greatest_length : Sig := { fn := fnL [("max", φmax), ("list", φlist)], cells := [], loc := [] }
noncomputable def φ_greatest_length : List D → Option D := φdef 400 Γ_greatest_length ["lengths"] B_greatest_length
theorem fn_greatest_length (G : Gr (KF w.params) mg mb base) (hh : A.handled = none) (hu : A.units + 3 < cLine) (hroom : A.depth + 1 ≤ recursionLimit) : FnOk prog w A base (.ref 68) φ_greatest_length := by
  refine fn_def G hh (Nat.lt_of_le_of_lt (by first | lia | omega) hu) (Nat.lt_of_lt_of_le (by first | lia | omega) hroom) 400 (by rfl) (by rfl) (by rfl) (by rfl) (fun vs hv => ?_) (by rfl) (by rfl) (by rfl) (by decide) (fun n => ?_) (fun L => ?_)
  · exact bind1 (fun _ => rfl) vs hv
  · exact (all_cons (.inl (by rfl)) all_nil)
  · exact ⟨(fnL_cons ⟨_, glob_built (v := .builtin "max") G (by rfl) (by rfl) (by rfl) (by rfl) (by rfl) (by rfl), fn_max hh⟩ (fnL_cons ⟨_, glob_built (v := .type "list") G (by rfl) (by rfl) (by rfl) (by rfl) (by rfl) (by rfl), fn_list⟩ fnL_nil)),
      (fun e => nomatch e),
      (fun e => nomatch e),
      (fun e => nomatch e),
      (fun e => nomatch e),
      (fun e => nomatch e),
      all_nil,
      all_nil⟩

noncomputable def B_tally_of : List Stmt := bodyOf "tally_of"
noncomputable def Γ_tally_of : Sig := { fn := fnL [("greatest_length", φ_greatest_length)], cells := [], loc := ["tally", "length"] }
noncomputable def φ_tally_of : List D → Option D := φdef 400 Γ_tally_of ["lengths"] B_tally_of
theorem fn_tally_of (G : Gr (KF w.params) mg mb base) (hh : A.handled = none) (hu : A.units + 6 < cLine) (hroom : A.depth + 2 ≤ recursionLimit) : FnOk prog w A base (.ref 75) φ_tally_of := by
  refine fn_def G hh (Nat.lt_of_le_of_lt (by first | lia | omega) hu) (Nat.lt_of_lt_of_le (by first | lia | omega) hroom) 400 (by rfl) (by rfl) (by rfl) (by rfl) (fun vs hv => ?_) (by rfl) (by rfl) (by rfl) (by decide) (fun n => ?_) (fun L => ?_)
  · exact bind1 (fun _ => rfl) vs hv
  · exact (all_cons (.inl (by rfl)) all_nil)
  · exact ⟨(fnL_cons ⟨_, glob_def (v := .ref 68) G (by rfl) (by rfl) (by rfl) (by rfl), fn_greatest_length G hh (Nat.lt_of_le_of_lt (by simp only [Around.deeper_units]; (first | lia | omega)) hu) (Nat.le_trans (by simp only [Around.deeper]; (first | lia | omega)) hroom)⟩ fnL_nil),
      (fun e => nomatch e),
      (fun e => nomatch e),
      (fun e => nomatch e),
      (fun e => nomatch e),
      (fun e => nomatch e),
      all_nil,
      (all_cons (.inl (by rfl)) (all_cons (.inl (by rfl)) all_nil))⟩

noncomputable def B_room_left : List Stmt := bodyOf "room_left"
noncomputable def Γ_room_left : Sig := { fn := fnL [("tally_of", φ_tally_of)], cells := [], loc := ["room", "taken"] }
noncomputable def φ_room_left : List D → Option D := φdef 400 Γ_room_left ["lengths"] B_room_left
theorem fn_room_left (G : Gr (KF w.params) mg mb base) (hh : A.handled = none) (hu : A.units + 9 < cLine) (hroom : A.depth + 3 ≤ recursionLimit) : FnOk prog w A base (.ref 82) φ_room_left := by
  refine fn_def G hh (Nat.lt_of_le_of_lt (by first | lia | omega) hu) (Nat.lt_of_lt_of_le (by first | lia | omega) hroom) 400 (by rfl) (by rfl) (by rfl) (by rfl) (fun vs hv => ?_) (by rfl) (by rfl) (by rfl) (by decide) (fun n => ?_) (fun L => ?_)
  · exact bind1 (fun _ => rfl) vs hv
  · exact (all_cons (.inl (by rfl)) all_nil)
  · exact ⟨(fnL_cons ⟨_, glob_def (v := .ref 75) G (by rfl) (by rfl) (by rfl) (by rfl), fn_tally_of G hh (Nat.lt_of_le_of_lt (by simp only [Around.deeper_units]; (first | lia | omega)) hu) (Nat.le_trans (by simp only [Around.deeper]; (first | lia | omega)) hroom)⟩ fnL_nil),
      (fun e => nomatch e),
      (fun e => nomatch e),
      (fun e => nomatch e),
      (fun e => nomatch e),
      (fun e => nomatch e),
      all_nil,
      (all_cons (.inl (by rfl)) (all_cons (.inl (by rfl)) all_nil))⟩

noncomputable def B_is_full : List Stmt := bodyOf "is_full"
noncomputable def Γ_is_full : Sig := { fn := fnL [("room_left", φ_room_left)], cells := [], loc := [] }
noncomputable def φ_is_full : List D → Option D := φdef 400 Γ_is_full ["lengths"] B_is_full
theorem fn_is_full (G : Gr (KF w.params) mg mb base) (hh : A.handled = none) (hu : A.units + 12 < cLine) (hroom : A.depth + 4 ≤ recursionLimit) : FnOk prog w A base (.ref 89) φ_is_full := by
  refine fn_def G hh (Nat.lt_of_le_of_lt (by first | lia | omega) hu) (Nat.lt_of_lt_of_le (by first | lia | omega) hroom) 400 (by rfl) (by rfl) (by rfl) (by rfl) (fun vs hv => ?_) (by rfl) (by rfl) (by rfl) (by decide) (fun n => ?_) (fun L => ?_)
  · exact bind1 (fun _ => rfl) vs hv
  · exact (all_cons (.inl (by rfl)) all_nil)
  · exact ⟨(fnL_cons ⟨_, glob_def (v := .ref 82) G (by rfl) (by rfl) (by rfl) (by rfl), fn_room_left G hh (Nat.lt_of_le_of_lt (by simp only [Around.deeper_units]; (first | lia | omega)) hu) (Nat.le_trans (by simp only [Around.deeper]; (first | lia | omega)) hroom)⟩ fnL_nil),
      (fun e => nomatch e),
      (fun e => nomatch e),
      (fun e => nomatch e),
      (fun e => nomatch e),
      (fun e => nomatch e),
      all_nil,
      all_nil⟩

noncomputable def B_cost : List Stmt := bodyOf "cost"
noncomputable def Γ_cost : Sig := { fn := fnL [], rng := true, len := true, cells := [], loc := ["total", "symbol"] }
noncomputable def φ_cost : List D → Option D := φdef 400 Γ_cost ["counts", "lengths"] B_cost
theorem fn_cost (G : Gr (KF w.params) mg mb base) (hh : A.handled = none) (hu : A.units + 3 < cLine) (hroom : A.depth + 1 ≤ recursionLimit) : FnOk prog w A base (.ref 96) φ_cost := by
  refine fn_def G hh (Nat.lt_of_le_of_lt (by first | lia | omega) hu) (Nat.lt_of_lt_of_le (by first | lia | omega) hroom) 400 (by rfl) (by rfl) (by rfl) (by rfl) (fun vs hv => ?_) (by rfl) (by rfl) (by rfl) (by decide) (fun n => ?_) (fun L => ?_)
  · exact bind2 (fun _ _ => rfl) vs hv
  · exact (all_cons (.inl (by rfl)) (all_cons (.inl (by rfl)) all_nil))
  · exact ⟨fnL_nil,
      (fun _ => glob_built (v := .builtin "len") G (by rfl) (by rfl) (by rfl) (by rfl) (by rfl) (by rfl)),
      (fun _ => glob_built (v := .type "range") G (by rfl) (by rfl) (by rfl) (by rfl) (by rfl) (by rfl)),
      (fun e => nomatch e),
      (fun e => nomatch e),
      (fun e => nomatch e),
      all_nil,
      (all_cons (.inl (by rfl)) (all_cons (.inl (by rfl)) all_nil))⟩

noncomputable def B_merged : List Stmt := bodyOf "merged"
noncomputable def Γ_merged : Sig := { fn := fnL [], len := true, cells := [], loc := ["weights", "flags", "place", "leaf", "rest"] }
noncomputable def φ_merged : List D → Option D := φdef 400 Γ_merged ["leaves", "packages"] B_merged
theorem fn_merged (G : Gr (KF w.params) mg mb base) (hh : A.handled = none) (hu : A.units + 3 < cLine) (hroom : A.depth + 1 ≤ recursionLimit) : FnOk prog w A base (.ref 103) φ_merged := by
  refine fn_def G hh (Nat.lt_of_le_of_lt (by first | lia | omega) hu) (Nat.lt_of_lt_of_le (by first | lia | omega) hroom) 400 (by rfl) (by rfl) (by rfl) (by rfl) (fun vs hv => ?_) (by rfl) (by rfl) (by rfl) (by decide) (fun n => ?_) (fun L => ?_)
  · exact bind2 (fun _ _ => rfl) vs hv
  · exact (all_cons (.inl (by rfl)) (all_cons (.inl (by rfl)) all_nil))
  · exact ⟨fnL_nil,
      (fun _ => glob_built (v := .builtin "len") G (by rfl) (by rfl) (by rfl) (by rfl) (by rfl) (by rfl)),
      (fun e => nomatch e),
      (fun e => nomatch e),
      (fun e => nomatch e),
      (fun e => nomatch e),
      all_nil,
      (all_cons (.inl (by rfl)) (all_cons (.inl (by rfl)) (all_cons (.inl (by rfl)) (all_cons (.inl (by rfl)) (all_cons (.inl (by rfl)) all_nil)))))⟩

noncomputable def B_package_rows : List Stmt := bodyOf "package_rows"
noncomputable def Γ_package_rows : Sig := { fn := fnL [("merged", φ_merged)], rng := true, len := true, cells := ["weights"], loc := ["rows", "packages", "level", "weights", "flags"] }
noncomputable def φ_package_rows : List D → Option D := φdef 400 Γ_package_rows ["leaves", "most"] B_package_rows
theorem fn_package_rows (G : Gr (KF w.params) mg mb base) (hh : A.handled = none) (hu : A.units + 6 < cLine) (hroom : A.depth + 2 ≤ recursionLimit) : FnOk prog w A base (.ref 108) φ_package_rows := by
  refine fn_def G hh (Nat.lt_of_le_of_lt (by first | lia | omega) hu) (Nat.lt_of_lt_of_le (by first | lia | omega) hroom) 400 (by rfl) (by rfl) (by rfl) (by rfl) (fun vs hv => ?_) (by rfl) (by rfl) (by rfl) (by decide) (fun n => ?_) (fun L => ?_)
  · exact bind2 (fun _ _ => rfl) vs hv
  · exact (all_cons (.inl (by rfl)) (all_cons (.inl (by rfl)) all_nil))
  · exact ⟨(fnL_cons ⟨_, glob_def (v := .ref 103) G (by rfl) (by rfl) (by rfl) (by rfl), fn_merged G hh (Nat.lt_of_le_of_lt (by simp only [Around.deeper_units]; (first | lia | omega)) hu) (Nat.le_trans (by simp only [Around.deeper]; (first | lia | omega)) hroom)⟩ fnL_nil),
      (fun _ => glob_built (v := .builtin "len") G (by rfl) (by rfl) (by rfl) (by rfl) (by rfl) (by rfl)),
      (fun _ => glob_built (v := .type "range") G (by rfl) (by rfl) (by rfl) (by rfl) (by rfl) (by rfl)),
      (fun e => nomatch e),
      (fun e => nomatch e),
      (fun e => nomatch e),
      (all_cons ⟨by rfl, by rfl⟩ all_nil),
      (all_cons (.inl (by rfl)) (all_cons (.inl (by rfl)) (all_cons (.inl (by rfl)) (all_cons (.inr ⟨by rfl, by rfl⟩) (all_cons (.inl (by rfl)) all_nil)))))⟩

noncomputable def B_code_lengths : List Stmt := bodyOf "code_lengths"
noncomputable def Γ_code_lengths : Sig := { fn := fnL [("sorted", φsorted), ("package_rows", φ_package_rows)], rng := true, len := true, rev := true, cells := ["counts"], loc := ["symbol", "order", "lengths", "weight", "rows", "wanted", "flags", "leaves"] }
noncomputable def φ_code_lengths : List D → Option D := φdef 400 Γ_code_lengths ["counts", "most"] B_code_lengths
theorem fn_code_lengths (G : Gr (KF w.params) mg mb base) (hh : A.handled = none) (hu : A.units + 9 < cLine) (hroom : A.depth + 3 ≤ recursionLimit) : FnOk prog w A base (.ref 113) φ_code_lengths := by
  refine fn_def G hh (Nat.lt_of_le_of_lt (by first | lia | omega) hu) (Nat.lt_of_lt_of_le (by first | lia | omega) hroom) 400 (by rfl) (by rfl) (by rfl) (by rfl) (fun vs hv => ?_) (by rfl) (by rfl) (by rfl) (by decide) (fun n => ?_) (fun L => ?_)
  · exact bind2 (fun _ _ => rfl) vs hv
  · exact (all_cons (.inr ⟨by rfl, by rfl⟩) (all_cons (.inl (by rfl)) all_nil))
  · exact ⟨(fnL_cons ⟨_, glob_built (v := .builtin "sorted") G (by rfl) (by rfl) (by rfl) (by rfl) (by rfl) (by rfl), fn_sorted⟩ (fnL_cons ⟨_, glob_def (v := .ref 108) G (by rfl) (by rfl) (by rfl) (by rfl), fn_package_rows G hh (Nat.lt_of_le_of_lt (by simp only [Around.deeper_units]; (first | lia | omega)) hu) (Nat.le_trans (by simp only [Around.deeper]; (first | lia | omega)) hroom)⟩ fnL_nil)),
      (fun _ => glob_built (v := .builtin "len") G (by rfl) (by rfl) (by rfl) (by rfl) (by rfl) (by rfl)),
      (fun _ => glob_built (v := .type "range") G (by rfl) (by rfl) (by rfl) (by rfl) (by rfl) (by rfl)),
      (fun e => nomatch e),
      (fun e => nomatch e),
      (fun _ => glob_built (v := .type "reversed") G (by rfl) (by rfl) (by rfl) (by rfl) (by rfl) (by rfl)),
      (all_cons ⟨by rfl, by rfl⟩ all_nil),
      (all_cons (.inl (by rfl)) (all_cons (.inl (by rfl)) (all_cons (.inl (by rfl)) (all_cons (.inl (by rfl)) (all_cons (.inl (by rfl)) (all_cons (.inl (by rfl)) (all_cons (.inl (by rfl)) (all_cons (.inl (by rfl)) all_nil))))))))⟩

noncomputable def B_tree_lengths : List Stmt := bodyOf "tree_lengths"
noncomputable def Γ_tree_lengths : Sig := { fn := fnL [("sorted", φsorted)], rng := true, len := true, cells := ["counts"], loc := ["symbol", "order", "lengths", "weight", "leaves", "joined", "leaf", "tree", "members", "turn", "one"] }
noncomputable def φ_tree_lengths : List D → Option D := φdef 400 Γ_tree_lengths ["counts"] B_tree_lengths
theorem fn_tree_lengths (G : Gr (KF w.params) mg mb base) (hh : A.handled = none) (hu : A.units + 3 < cLine) (hroom : A.depth + 1 ≤ recursionLimit) : FnOk prog w A base (.ref 118) φ_tree_lengths := by
  refine fn_def G hh (Nat.lt_of_le_of_lt (by first | lia | omega) hu) (Nat.lt_of_lt_of_le (by first | lia | omega) hroom) 400 (by rfl) (by rfl) (by rfl) (by rfl) (fun vs hv => ?_) (by rfl) (by rfl) (by rfl) (by decide) (fun n => ?_) (fun L => ?_)
  · exact bind1 (fun _ => rfl) vs hv
  · exact (all_cons (.inr ⟨by rfl, by rfl⟩) all_nil)
  · exact ⟨(fnL_cons ⟨_, glob_built (v := .builtin "sorted") G (by rfl) (by rfl) (by rfl) (by rfl) (by rfl) (by rfl), fn_sorted⟩ fnL_nil),
      (fun _ => glob_built (v := .builtin "len") G (by rfl) (by rfl) (by rfl) (by rfl) (by rfl) (by rfl)),
      (fun _ => glob_built (v := .type "range") G (by rfl) (by rfl) (by rfl) (by rfl) (by rfl) (by rfl)),
      (fun e => nomatch e),
      (fun e => nomatch e),
      (fun e => nomatch e),
      (all_cons ⟨by rfl, by rfl⟩ all_nil),
      (all_cons (.inl (by rfl)) (all_cons (.inl (by rfl)) (all_cons (.inl (by rfl)) (all_cons (.inl (by rfl)) (all_cons (.inl (by rfl)) (all_cons (.inl (by rfl)) (all_cons (.inl (by rfl)) (all_cons (.inl (by rfl)) (all_cons (.inl (by rfl)) (all_cons (.inl (by rfl)) (all_cons (.inl (by rfl)) all_nil)))))))))))⟩

noncomputable def B__law_cost : List Stmt := bodyOf "_law_cost"
noncomputable def Γ__law_cost : Sig := { fn := fnL [("tree_lengths", φ_tree_lengths), ("sum", φsum)], rng := true, len := true, cells := ["counts", "lengths"], loc := ["lengths"] }
noncomputable def φ__law_cost : List D → Option D := φdef 400 Γ__law_cost ["counts"] B__law_cost
theorem fn__law_cost (G : Gr (KF w.params) mg mb base) (hh : A.handled = none) (hu : A.units + 6 < cLine) (hroom : A.depth + 2 ≤ recursionLimit) : FnOk prog w A base (.ref 130) φ__law_cost := by
  refine fn_def G hh (Nat.lt_of_le_of_lt (by first | lia | omega) hu) (Nat.lt_of_lt_of_le (by first | lia | omega) hroom) 400 (by rfl) (by rfl) (by rfl) (by rfl) (fun vs hv => ?_) (by rfl) (by rfl) (by rfl) (by decide) (fun n => ?_) (fun L => ?_)
  · exact bind1 (fun _ => rfl) vs hv
  · exact (all_cons (.inr ⟨by rfl, by rfl⟩) all_nil)
  · exact ⟨(fnL_cons ⟨_, glob_def (v := .ref 118) G (by rfl) (by rfl) (by rfl) (by rfl), fn_tree_lengths G hh (Nat.lt_of_le_of_lt (by simp only [Around.deeper_units]; (first | lia | omega)) hu) (Nat.le_trans (by simp only [Around.deeper]; (first | lia | omega)) hroom)⟩ (fnL_cons ⟨_, glob_built (v := .builtin "sum") G (by rfl) (by rfl) (by rfl) (by rfl) (by rfl) (by rfl), fn_sum hh⟩ fnL_nil)),
      (fun _ => glob_built (v := .builtin "len") G (by rfl) (by rfl) (by rfl) (by rfl) (by rfl) (by rfl)),
      (fun _ => glob_built (v := .type "range") G (by rfl) (by rfl) (by rfl) (by rfl) (by rfl) (by rfl)),
      (fun e => nomatch e),
      (fun e => nomatch e),
      (fun e => nomatch e),
      (all_cons ⟨by rfl, by rfl⟩ (all_cons ⟨by rfl, by rfl⟩ all_nil)),
      (all_cons (.inr ⟨by rfl, by rfl⟩) all_nil)⟩

end
end Mine
end

section
open PySem PySem.W PyProof.Rows PySem.Calls PySem.SeqAt
set_option linter.all false
set_option maxRecDepth 100000
set_option maxHeartbeats 4000000
namespace Mine
section
variable {n : Nat} {Γ : Sig} {ρ : Rho}

noncomputable def stD : Option Slot → Option D
  | some (.st d) => some d
  | _ => none
theorem t_st {d : D} : stD (some (.st d)) = some d := rfl
noncomputable def b2 (x y : Option D) (f : D → D → Option D) : Option D := x.bind fun a => y.bind fun b => f a b
theorem t_b2 {a b : D} {f : D → D → Option D} : b2 (some a) (some b) f = f a b := rfl
noncomputable def cmR (x y : Option D) (op : CmpOp) : Option D := x.bind fun a => y.bind fun b => (cmpD op a b).map D.bool
theorem t_cm {a b : D} {op : CmpOp} : cmR (some a) (some b) op = (cmpD op a b).map D.bool := rfl
noncomputable def ctR (x y : Option D) (op : CmpOp) : Option Bool := x.bind fun a => y.bind fun b => cmpD op a b
theorem t_ct {a b : D} {op : CmpOp} : ctR (some a) (some b) op = cmpD op a b := rfl
noncomputable def ifE (c : Option Bool) (n : Nat) (Γ : Sig) (ρ : Rho) (a b : Expr) : Option D := c.bind fun c => if c then evE n Γ ρ a else evE n Γ ρ b
theorem t_ifT {a b : Expr} : ifE (some true) n Γ ρ a b = evE n Γ ρ a := rfl
theorem t_ifF {a b : Expr} : ifE (some false) n Γ ρ a b = evE n Γ ρ b := rfl
noncomputable def lsR (o : Option (List D)) : Option D := o.bind fun ds => if ds.length ≤ big then some (.lst ds) else none
theorem t_ls {ds : List D} : lsR (some ds) = if ds.length ≤ big then some (.lst ds) else none := rfl
noncomputable def tuR (o : Option (List D)) : Option D := o.bind fun ds => if ds.length ≤ big then some (.tup ds) else none
theorem t_tu {ds : List D} : tuR (some ds) = if ds.length ≤ big then some (.tup ds) else none := rfl
noncomputable def coR (x : Option D) (y : Option (List D)) : Option (List D) := x.bind fun d => y.map (d :: ·)
theorem t_co {d : D} {ds : List D} : coR (some d) (some ds) = some (d :: ds) := rfl
noncomputable def leR (b : Bool) (o : Option D) : Option D := if b = true then o.bind fun d => φlen [d] else none
theorem t_le {d : D} : leR true (some d) = φlen [d] := rfl
noncomputable def caR (f : Option (List D → Option D)) (o : Option (List D)) : Option D := f.bind fun φ => o.bind φ
theorem t_ca {φ : List D → Option D} {ds : List D} : caR (some φ) (some ds) = φ ds := rfl
noncomputable def cnR (o : Option D) (k : Bool) : Option D := o.bind fun d => cntD k d
theorem t_cn {d : D} {k : Bool} : cnR (some d) k = cntD k d := rfl
noncomputable def coD (o : Option (List D)) (n : Nat) (sc : Scope) (ρ : Rho) (tg : Expr) (ifs : List Expr) (elt : Expr) : Option D :=
  o.bind fun ds => if ds.length ≤ big then (compGo (fun d => (tgD tg d).bind fun bs => (evTs n noSig (updAll (compRho sc ρ) bs) .And ifs).bind fun c => if c then (evE n noSig (updAll (compRho sc ρ) bs) elt).map some else some none) ds).map D.lst else none
noncomputable def compF (n : Nat) (sc : Scope) (ρ : Rho) (tg : Expr) (ifs : List Expr) (elt : Expr) (d : D) : Option (Option D) :=
  (tgD tg d).bind fun bs => (evTs n noSig (updAll (compRho sc ρ) bs) .And ifs).bind fun c => if c then (evE n noSig (updAll (compRho sc ρ) bs) elt).map some else some none
theorem t_cd {ds : List D} {sc : Scope} {tg elt : Expr} {ifs : List Expr} : coD (some ds) n sc ρ tg ifs elt = if ds.length ≤ big then (compGo (compF n sc ρ tg ifs elt) ds).map D.lst else none := rfl
noncomputable def seR (c : Option Bool) (n : Nat) (ρ : Rho) (e : Expr) : Option (Option D) := c.bind fun c => if c then (evE n noSig ρ e).map some else some none
theorem t_seT {e : Expr} : seR (some true) n ρ e = (evE n noSig ρ e).map some := rfl
theorem t_seF {e : Expr} : seR (some false) n ρ e = some none := rfl
theorem q_cfN {sc : Scope} {x : Str} {p : Pos} {ifs : List Expr} {elt : Expr} {d : D} : compF n sc ρ (.Name x p) ifs elt d = seR (evTs n noSig (upd (compRho sc ρ) x (.st d)) .And ifs) n (upd (compRho sc ρ) x (.st d)) elt := rfl
theorem q_cfT {sc : Scope} {x y : Str} {p q r : Pos} {k : Nat} {ifs : List Expr} {elt : Expr} {a b : D} : compF n sc ρ (.Tuple [.Name x p, .Name y q] k r) ifs elt (.tup [a, b]) = seR (evTs n noSig (upd (upd (compRho sc ρ) x (.st a)) y (.st b)) .And ifs) n (upd (upd (compRho sc ρ) x (.st a)) y (.st b)) elt := rfl
noncomputable def noR (c : Option Bool) : Option Bool := c.map (!·)
theorem t_nTT : (true != true) = false := rfl
theorem t_nFF : (false != false) = false := rfl
theorem t_nTF : (true != false) = true := rfl
theorem t_nFT : (false != true) = true := rfl
theorem t_no {b : Bool} : noR (some b) = some (!b) := rfl
noncomputable def tsR (op : BoolOp) (c : Option Bool) (n : Nat) (Γ : Sig) (ρ : Rho) (r : List Expr) : Option Bool := c.bind fun b => match op, b with
    | .And, false => some false
    | .And, true => evTs n Γ ρ .And r
    | .Or, true => some true
    | .Or, false => evTs n Γ ρ .Or r
theorem t_tsAT {r : List Expr} : tsR .And (some true) n Γ ρ r = evTs n Γ ρ .And r := rfl
theorem t_tsAF {r : List Expr} : tsR .And (some false) n Γ ρ r = some false := rfl
theorem t_tsOT {r : List Expr} : tsR .Or (some true) n Γ ρ r = some true := rfl
theorem t_tsOF {r : List Expr} : tsR .Or (some false) n Γ ρ r = evTs n Γ ρ .Or r := rfl
noncomputable def itR (o : Option D) (b : Bool) : Option (List D) := (o.bind asL).bind fun a => if b = true then some a else none
theorem t_it {a : List D} {b : Bool} : itR (some (.lst a)) b = if b = true then some a else none := rfl
noncomputable def ziR (o : Option (List D)) : Option (List D) := (o.bind two2).map fun x => zipD x.1 x.2
theorem t_zi {a b : List D} : ziR (some [.lst a, .lst b]) = some (zipD a b) := rfl
noncomputable def enR (o : Option (List D)) : Option (List D) := (o.bind one1).bind fun a => if a.length < 2 ^ 40 then some (enumD a) else none
theorem t_en {a : List D} : enR (some [.lst a]) = if a.length < 2 ^ 40 then some (enumD a) else none := rfl
noncomputable def reR (o : Option (List D)) : Option (List D) := (o.bind one1).map List.reverse
theorem t_re {a : List D} : reR (some [.lst a]) = some a.reverse := rfl
/-- the next statement -/
noncomputable def thR (o : Option (Fl × Rho)) (n : Nat) (Γ : Sig) (r : List Stmt) : Option (Fl × Rho) := o.bind fun q => match q.1 with
    | .next => run n Γ q.2 r
    | .ret d => some (.ret d, q.2)
theorem t_thN {r : List Stmt} : thR (some (.next, ρ)) n Γ r = run n Γ ρ r := rfl
theorem t_thR {r : List Stmt} {d : D} : thR (some (.ret d, ρ)) n Γ r = some (.ret d, ρ) := rfl
theorem t_fin {d : D} : finR (some (.ret d, ρ)) = some d := rfl
noncomputable def ifR (c : Option Bool) (n : Nat) (Γ : Sig) (ρ : Rho) (a b : List Stmt) : Option (Fl × Rho) := c.bind fun c => if c then run n Γ ρ a else run n Γ ρ b
theorem t_siT {a b : List Stmt} : ifR (some true) n Γ ρ a b = run n Γ ρ a := rfl
theorem t_siF {a b : List Stmt} : ifR (some false) n Γ ρ a b = run n Γ ρ b := rfl
noncomputable def rtR (o : Option D) (F : Rho) : Option (Fl × Rho) := o.map fun d => (.ret d, F)
theorem t_rt {d : D} {F : Rho} : rtR (some d) F = some (.ret d, F) := rfl
noncomputable def foR (o : Option (List D)) (n : Nat) (Γ : Sig) (tg : Expr) (body : List Stmt) (F : Rho) : Option (Fl × Rho) := o.bind fun ds => loopA n Γ tg body ds F
theorem t_fo {ds : List D} {tg : Expr} {body : List Stmt} {F : Rho} : foR (some ds) n Γ tg body F = loopA n Γ tg body ds F := rfl
noncomputable def asR (o : Option D) (ρ : Rho) (x : Str) : Option (Fl × Rho) := o.map fun d => (.next, upd ρ x (.st d))
theorem t_as {d : D} {x : Str} : asR (some d) ρ x = some (.next, upd ρ x (.st d)) := rfl
noncomputable def alR (o : Option (List D)) (ρ : Rho) (x : Str) : Option (Fl × Rho) := o.bind fun ds => if ds.length ≤ big then some (.next, upd ρ x (.own ds)) else none
theorem t_al {ds : List D} {x : Str} : alR (some ds) ρ x = if ds.length ≤ big then some (.next, upd ρ x (.own ds)) else none := rfl
noncomputable def amR (o : Option (List D)) (k : Option D) (ρ : Rho) (x : Str) : Option (Fl × Rho) := o.bind fun ds => (k.bind asI).bind fun k => if k.toNat < big ∧ 0 ≤ k ∧ ds.length = 1 then some (.next, upd ρ x (.own (List.replicate k.toNat ds).flatten)) else none
theorem t_am {ds : List D} {k : Int} {x : Str} : amR (some ds) (some (.int k)) ρ x = if k.toNat < big ∧ 0 ≤ k ∧ ds.length = 1 then some (.next, upd ρ x (.own (List.replicate k.toNat ds).flatten)) else none := rfl
noncomputable def atR (o : Option D) (t : Expr) (F : Rho) : Option (Fl × Rho) := o.bind fun d => (tgD t d).map fun bs => (.next, updAll F bs)
theorem t_at {x y : Str} {p q r : Pos} {k : Nat} {a b : D} {F : Rho} : atR (some (.tup [a, b])) (.Tuple [.Name x p, .Name y q] k r) F = some (.next, upd (upd F x (.st a)) y (.st b)) := rfl
noncomputable def suR (o : Option Slot) (k : Option D) (ρ : Rho) (x : Str) (c : Int) : Option (Fl × Rho) := (ownD o).bind fun ds => (k.bind asI).bind fun k => if 0 ≤ k ∧ k.toNat < ds.length ∧ ds.length ≤ big then some (.next, upd ρ x (.own (ds.set k.toNat (.int c)))) else none
theorem t_su {ds : List D} {k c : Int} {x : Str} : suR (some (.own ds)) (some (.int k)) ρ x c = if 0 ≤ k ∧ k.toNat < ds.length ∧ ds.length ≤ big then some (.next, upd ρ x (.own (ds.set k.toNat (.int c)))) else none := rfl
noncomputable def auR (o : Option Slot) (v : Option D) (ρ : Rho) (x : Str) : Option (Fl × Rho) := (stI o).bind fun a => (v.bind asI).bind fun b => some (.next, upd ρ x (.st (.int (a + b))))
theorem t_au {a b : Int} {x : Str} : auR (some (.st (.int a))) (some (.int b)) ρ x = some (.next, upd ρ x (.st (.int (a + b)))) := rfl
noncomputable def axR (o : Option D) (ds : List D) (k : Int) (ρ : Rho) (x : Str) (c : Int) : Option (Fl × Rho) := (o.bind asI).bind fun a => some (.next, upd ρ x (.own (ds.set k.toNat (.int (a + c)))))
theorem t_ax {a : Int} {ds : List D} {k c : Int} {x : Str} : axR (some (.int a)) ds k ρ x c = some (.next, upd ρ x (.own (ds.set k.toNat (.int (a + c))))) := rfl
noncomputable def ayR (o : Option Slot) (k : Option D) (ρ : Rho) (x : Str) (c : Int) : Option (Fl × Rho) := (ownD o).bind fun ds => (k.bind asI).bind fun k => if 0 ≤ k ∧ k.toNat < ds.length ∧ ds.length ≤ big then ((ds[k.toNat]?).bind asI).bind fun a => some (.next, upd ρ x (.own (ds.set k.toNat (.int (a + c))))) else none
theorem t_ay {ds : List D} {k c : Int} {x : Str} : ayR (some (.own ds)) (some (.int k)) ρ x c = if 0 ≤ k ∧ k.toNat < ds.length ∧ ds.length ≤ big then axR (ds[k.toNat]?) ds k ρ x c else none := rfl
noncomputable def apR (o : Option Slot) (v : Option D) (F : Rho) (x : Str) : Option (Fl × Rho) := (ownD o).bind fun ds => v.bind fun d => if ds.length ≤ big then some (.next, upd F x (.own (ds ++ [d]))) else none
theorem t_ap {ds : List D} {d : D} {F : Rho} {x : Str} : apR (some (.own ds)) (some d) F x = if ds.length ≤ big then some (.next, upd F x (.own (ds ++ [d]))) else none := rfl
noncomputable def exR (o : Option Slot) (v : Option D) (F : Rho) (x : Str) : Option (Fl × Rho) := (ownD o).bind fun ds => (v.bind asL).bind fun es => if ds.length + es.length ≤ big then some (.next, upd F x (.own (ds ++ es))) else none
theorem t_ex {ds es : List D} {F : Rho} {x : Str} : exR (some (.own ds)) (some (.lst es)) F x = if ds.length + es.length ≤ big then some (.next, upd F x (.own (ds ++ es))) else none := rfl
noncomputable def tgR (o : Option (List (Str × D))) (n : Nat) (Γ : Sig) (ρ : Rho) (body : List Stmt) : Option (Fl × Rho) := o.bind fun bs => run n Γ (updAll ρ bs) body
theorem t_tg {bs : List (Str × D)} {body : List Stmt} : tgR (some bs) n Γ ρ body = run n Γ (updAll ρ bs) body := rfl

theorem q_name {x : Str} {p : Pos} : evE (n + 1) Γ ρ (.Name x p) = if x == ("__debug__" : Str) then none else stD (ρ x) := rfl
theorem q_int {i : Int} {k : Nat} {p : Pos} : evE (n + 1) Γ ρ (.Constant (.int i) k p) = some (.int i) := rfl
theorem q_bool {i : Bool} {k : Nat} {p : Pos} : evE (n + 1) Γ ρ (.Constant (.bool i) k p) = some (.bool i) := rfl
theorem q_bin {l r : Expr} {op : Operator} {p : Pos} : evE (n + 1) Γ ρ (.BinOp l op r p) = b2 (evE n Γ ρ l) (evE n Γ ρ r) (binD op) := rfl
theorem q_cmp {l r : Expr} {op : CmpOp} {p : Pos} : evE (n + 1) Γ ρ (.Compare l [op] [r] p) = if behindInMarks op r = true then none else cmR (evE n Γ ρ l) (evE n Γ ρ r) op := rfl
theorem q_if {t a b : Expr} {p : Pos} : evE (n + 1) Γ ρ (.IfExp t a b p) = ifE (evT n Γ ρ t) n Γ ρ a b := rfl
theorem q_from {v lo : Expr} {p q : Pos} : evE (n + 1) Γ ρ (.Subscript v (.Slice (some lo) none none p) q) = b2 (evE n Γ ρ v) (evE n Γ ρ lo) fromD := rfl
theorem q_upto {v lo : Expr} {p q : Pos} : evE (n + 1) Γ ρ (.Subscript v (.Slice none (some lo) none p) q) = b2 (evE n Γ ρ v) (evE n Γ ρ lo) uptoD := rfl
theorem q_subN {v : Expr} {x : Str} {p q : Pos} : evE (n + 1) Γ ρ (.Subscript v (.Name x p) q) = b2 (evB n Γ ρ v) (evE n Γ ρ (.Name x p)) idxD := rfl
theorem q_subC {v : Expr} {c : Const} {k : Nat} {p q : Pos} : evE (n + 1) Γ ρ (.Subscript v (.Constant c k p) q) = b2 (evB n Γ ρ v) (evE n Γ ρ (.Constant c k p)) idxD := rfl
theorem q_subB {v a c : Expr} {b : Operator} {p q : Pos} : evE (n + 1) Γ ρ (.Subscript v (.BinOp a b c p) q) = b2 (evB n Γ ρ v) (evE n Γ ρ (.BinOp a b c p)) idxD := rfl
theorem q_subS {v a b : Expr} {p q : Pos} : evE (n + 1) Γ ρ (.Subscript v (.Subscript a b p) q) = b2 (evB n Γ ρ v) (evE n Γ ρ (.Subscript a b p)) idxD := rfl
theorem q_list {es : List Expr} {p : Pos} : evE (n + 1) Γ ρ (.List es p) = lsR (evEs n Γ ρ es) := rfl
theorem q_tuple {es : List Expr} {k : Nat} {p : Pos} : evE (n + 1) Γ ρ (.Tuple es k p) = tuR (evEs n Γ ρ es) := rfl
theorem q_comp {elt tg it : Expr} {ifs : List Expr} {a : Int} {sc : Scope} {p : Pos} : evE (n + 1) Γ ρ (.ListComp elt [⟨tg, it, ifs, a⟩] sc p) = if a = 0 ∧ compOk Γ sc tg = true then coD (evIt n Γ ρ tg it) n sc ρ tg ifs elt else none := rfl
theorem q_len {a : Expr} {p q : Pos} : evE (n + 1) Γ ρ (.Call (.Name "len" p) [a] [] q) = leR Γ.len (evB n Γ ρ a) := rfl
theorem q_call {a : Expr} {r : List Expr} {p q : Pos} {f : Str} (h : f ≠ "len") : evE (n + 1) Γ ρ (.Call (.Name f p) (a :: r) [] q) = caR (Γ.fn f) (evEs n Γ ρ (a :: r)) := by
  have e : ¬ (f == ("len" : Str)) = true := by simpa using h
  exact if_neg e
theorem q_count {v sl : Expr} {sp apos pos q : Pos} {k : Bool} {j : Nat} : evE (n + 1) Γ ρ (.Call (.Attribute (.Subscript v sl sp) "count" apos) [.Constant (.bool k) j q] [] pos) = if (apos.endLine == pos.line) = true then cnR (evE n Γ ρ (.Subscript v sl sp)) k else none := rfl
theorem q_bname {x : Str} {p : Pos} : evB (n + 1) Γ ρ (.Name x p) = if x == ("__debug__" : Str) then none else (ρ x).map shD := rfl
theorem q_bsub {v i : Expr} {p : Pos} : evB (n + 1) Γ ρ (.Subscript v i p) = evE n Γ ρ (.Subscript v i p) := rfl
theorem q_btup {es : List Expr} {k : Nat} {p : Pos} : evB (n + 1) Γ ρ (.Tuple es k p) = evE n Γ ρ (.Tuple es k p) := rfl
theorem q_tnot {x : Expr} {p : Pos} : evT (n + 1) Γ ρ (.UnaryOp .Not x p) = noR (evT n Γ ρ x) := rfl
theorem q_tbool {op : BoolOp} {vs : List Expr} {p : Pos} : evT (n + 1) Γ ρ (.BoolOp op vs p) = evTs n Γ ρ op vs := rfl
theorem q_tcmp {l r : Expr} {op : CmpOp} {p : Pos} : evT (n + 1) Γ ρ (.Compare l [op] [r] p) = if behindInMarks op r = true then none else ctR (evE n Γ ρ l) (evE n Γ ρ r) op := rfl
theorem q_tname {x : Str} {p : Pos} : evT (n + 1) Γ ρ (.Name x p) = (evE n Γ ρ (.Name x p)).bind truD := rfl
theorem q_tcall {f : Expr} {as : List Expr} {ks : List Keyword} {p : Pos} : evT (n + 1) Γ ρ (.Call f as ks p) = (evE n Γ ρ (.Call f as ks p)).bind truD := rfl
theorem q_tsnA : evTs (n + 1) Γ ρ .And [] = some true := rfl
theorem q_tsnO : evTs (n + 1) Γ ρ .Or [] = some false := rfl
theorem q_tscons {op : BoolOp} {x : Expr} {r : List Expr} : evTs (n + 1) Γ ρ op (x :: r) = tsR op (evT n Γ ρ x) n Γ ρ r := rfl
theorem q_esnil : evEs (n + 1) Γ ρ [] = some [] := rfl
theorem q_escons {e : Expr} {r : List Expr} : evEs (n + 1) Γ ρ (e :: r) = coR (evE n Γ ρ e) (evEs n Γ ρ r) := rfl
theorem q_itname {tg : Expr} {x : Str} {p : Pos} : evIt (n + 1) Γ ρ tg (.Name x p) = itR (evE n Γ ρ (.Name x p)) (isTup tg || isName tg) := rfl
theorem q_itsub {tg v i : Expr} {p : Pos} : evIt (n + 1) Γ ρ tg (.Subscript v i p) = itR (evE n Γ ρ (.Subscript v i p)) (isTup tg || isName tg) := rfl
theorem q_itrng {tg : Expr} {p q : Pos} {args : List Expr} : evIt (n + 1) Γ ρ tg (.Call (.Name "range" p) args [] q) = if Γ.rng then (evEs n Γ ρ args).bind rangeOf else none := by
  show (if (Γ.rng && _) = true then _ else _) = _
  have e1 : ((Str.ofString "range") == ("range" : Str)) = true := by decide
  have e2 : ((Str.ofString "range") == ("zip" : Str)) = false := by decide
  have e3 : ((Str.ofString "range") == ("enumerate" : Str)) = false := by decide
  have e4 : ((Str.ofString "range") == ("reversed" : Str)) = false := by decide
  rw [e1, e2, e3, e4]
  simp only [Bool.and_false, Bool.and_true, Bool.false_eq_true, if_false]
  try (cases Γ.rng <;> rfl)
theorem q_itrev {tg : Expr} {p q : Pos} {args : List Expr} : evIt (n + 1) Γ ρ tg (.Call (.Name "reversed" p) args [] q) = if Γ.rev then (if isName tg then reR (evEs n Γ ρ args) else none) else none := by
  show (if (Γ.rng && _) = true then _ else _) = _
  have e1 : ((Str.ofString "reversed") == ("range" : Str)) = false := by decide
  have e2 : ((Str.ofString "reversed") == ("zip" : Str)) = false := by decide
  have e3 : ((Str.ofString "reversed") == ("enumerate" : Str)) = false := by decide
  have e4 : ((Str.ofString "reversed") == ("reversed" : Str)) = true := by decide
  rw [e1, e2, e3, e4]
  simp only [Bool.and_false, Bool.and_true, Bool.false_eq_true, if_false]
  try (cases Γ.rev <;> rfl)
theorem q_itzip {tg : Expr} {p q : Pos} {args : List Expr} : evIt (n + 1) Γ ρ tg (.Call (.Name "zip" p) args [] q) = if Γ.zip then (if isTup tg then ziR (evEs n Γ ρ args) else none) else none := by
  show (if (Γ.rng && _) = true then _ else _) = _
  have e1 : ((Str.ofString "zip") == ("range" : Str)) = false := by decide
  have e2 : ((Str.ofString "zip") == ("zip" : Str)) = true := by decide
  have e3 : ((Str.ofString "zip") == ("enumerate" : Str)) = false := by decide
  have e4 : ((Str.ofString "zip") == ("reversed" : Str)) = false := by decide
  rw [e1, e2, e3, e4]
  simp only [Bool.and_false, Bool.and_true, Bool.false_eq_true, if_false]
  try (cases Γ.zip <;> rfl)
theorem q_itenum {tg : Expr} {p q : Pos} {args : List Expr} : evIt (n + 1) Γ ρ tg (.Call (.Name "enumerate" p) args [] q) = if Γ.enu then (if isTup tg then enR (evEs n Γ ρ args) else none) else none := by
  show (if (Γ.rng && _) = true then _ else _) = _
  have e1 : ((Str.ofString "enumerate") == ("range" : Str)) = false := by decide
  have e2 : ((Str.ofString "enumerate") == ("zip" : Str)) = false := by decide
  have e3 : ((Str.ofString "enumerate") == ("enumerate" : Str)) = true := by decide
  have e4 : ((Str.ofString "enumerate") == ("reversed" : Str)) = false := by decide
  rw [e1, e2, e3, e4]
  simp only [Bool.and_false, Bool.and_true, Bool.false_eq_true, if_false]
  try (cases Γ.enu <;> rfl)

theorem q_nil : run (n + 1) Γ ρ [] = some (.next, ρ) := rfl
theorem q_cons {st : Stmt} {r : List Stmt} : run (n + 1) Γ ρ (st :: r) = thR (exe n Γ ρ st) n Γ r := rfl
theorem q_asgName {x : Str} {p q : Pos} {v : Expr} (h : isPlain v = true) : exe (n + 1) Γ ρ (.Assign [.Name x p] v q) = if (!Γ.loc.contains x) = true then none else asR (evE n Γ ρ v) ρ x := by
  show (if (!Γ.loc.contains x) = true then none else if isPlain v = true then _ else _) = _
  rw [h]; rfl
theorem q_asgList {x : Str} {p q r : Pos} {es : List Expr} : exe (n + 1) Γ ρ (.Assign [.Name x p] (.List es r) q) = if (!Γ.loc.contains x) = true then none else alR (evEs n Γ ρ es) ρ x := rfl
theorem q_asgMul {x : Str} {p q r r2 : Pos} {es : List Expr} {e : Expr} : exe (n + 1) Γ ρ (.Assign [.Name x p] (.BinOp (.List es r) .Mult e r2) q) = if (!Γ.loc.contains x) = true then none else amR (evEs n Γ ρ es) (evE n Γ ρ e) ρ x := rfl
theorem q_asgTup {x y : Str} {p1 p2 p p3 q : Pos} {k : Nat} {f : Expr} {as : List Expr} {ks : List Keyword} : exe (n + 1) Γ ρ (.Assign [.Tuple [.Name x p1, .Name y p2] k p] (.Call f as ks p3) q) = if (!(Γ.loc.contains x && Γ.loc.contains y)) = true then none else atR (evE n Γ (freeze ρ (namesIn 50 (.Call f as ks p3))) (.Call f as ks p3)) (.Tuple [.Name x p1, .Name y p2] k p) (freeze ρ (namesIn 50 (.Call f as ks p3))) := rfl
theorem q_asgSub {x : Str} {p1 p2 p3 q : Pos} {i : Expr} {c : Int} {k : Nat} : exe (n + 1) Γ ρ (.Assign [.Subscript (.Name x p1) i p2] (.Constant (.int c) k p3) q) = if x == ("__debug__" : Str) then none else suR (ρ x) (evE n Γ ρ i) ρ x c := rfl
theorem q_aug {x : Str} {p q : Pos} {v : Expr} : exe (n + 1) Γ ρ (.AugAssign (.Name x p) .Add v q) = if (!Γ.loc.contains x) = true then none else auR (ρ x) (evE n Γ ρ v) ρ x := rfl
theorem q_augSub {x : Str} {p1 p2 p3 q : Pos} {i : Expr} {c : Int} {k : Nat} : exe (n + 1) Γ ρ (.AugAssign (.Subscript (.Name x p1) i p2) .Add (.Constant (.int c) k p3) q) = if x == ("__debug__" : Str) then none else ayR (ρ x) (evE n Γ ρ i) ρ x c := rfl
theorem q_for {tg it : Expr} {body : List Stmt} {p : Pos} : exe (n + 1) Γ ρ (.For tg it body [] p) = if (!(tgN tg).all Γ.loc.contains) = true then none else foR (evIt n Γ (freeze ρ (namesIn 50 it)) tg it) n Γ tg body (freeze ρ (namesIn 50 it)) := rfl
theorem q_while {t : Expr} {body : List Stmt} {p : Pos} : exe (n + 1) Γ ρ (.While t body [] p) = whileA n Γ t body small ρ := rfl
theorem q_ifs {t : Expr} {a b : List Stmt} {p : Pos} : exe (n + 1) Γ ρ (.If t a b p) = ifR (evT n Γ ρ t) n Γ ρ a b := rfl
theorem q_ret {e : Expr} {p : Pos} : exe (n + 1) Γ ρ (.Return (some e) p) = rtR (evE n Γ (freeze ρ (namesIn 50 e)) e) (freeze ρ (namesIn 50 e)) := rfl
theorem q_app {x : Str} {p apos pos q : Pos} {e : Expr} : exe (n + 1) Γ ρ (.Expr (.Call (.Attribute (.Name x p) "append" apos) [e] [] pos) q) = if (apos.endLine == pos.line && !(namesIn 50 e).contains x && x != ("__debug__" : Str)) = true then apR ((freeze ρ (namesIn 50 e)) x) (evE n Γ (freeze ρ (namesIn 50 e)) e) (freeze ρ (namesIn 50 e)) x else none := rfl
theorem q_ext {x : Str} {p apos pos q : Pos} {e : Expr} : exe (n + 1) Γ ρ (.Expr (.Call (.Attribute (.Name x p) "extend" apos) [e] [] pos) q) = if (apos.endLine == pos.line && !(namesIn 50 e).contains x && x != ("__debug__" : Str)) = true then exR ((freeze ρ (namesIn 50 e)) x) (evE n Γ (freeze ρ (namesIn 50 e)) e) (freeze ρ (namesIn 50 e)) x else none := rfl
theorem q_loopNil {tg : Expr} {body : List Stmt} : loopA (n + 1) Γ tg body [] ρ = some (.next, ρ) := rfl
theorem q_loopCons {tg : Expr} {body : List Stmt} {d : D} {ds : List D} : loopA (n + 1) Γ tg body (d :: ds) ρ = (tgD tg d).bind fun bs => (run n Γ (updAll ρ bs) body).bind fun q => match q.1 with
    | .next => loopA n Γ tg body ds q.2
    | .ret d => some (.ret d, q.2) := rfl
theorem q_whileSucc {t : Expr} {body : List Stmt} {k : Nat} : whileA (n + 1) Γ t body (k + 1) ρ = (evT n Γ ρ t).bind fun c => if c then (run n Γ ρ body).bind fun q => (match q.1 with
      | .next => whileA n Γ t body k q.2
      | .ret d => some (.ret d, q.2)) else some (.next, ρ) := rfl

noncomputable def Ok (o : Option (Fl × Rho)) (P : Rho → Prop) : Prop := match o with
  | some (.next, ρ) => P ρ
  | _ => False
theorem q_ok {P : Rho → Prop} : Ok (some (.next, ρ)) P = P ρ := rfl
theorem Ok.out {o : Option (Fl × Rho)} {P : Rho → Prop} (h : Ok o P) : ∃ ρ', o = some (.next, ρ') ∧ P ρ' := by
  match o, h with
  | some (.next, ρ'), h => exact ⟨ρ', rfl, h⟩
theorem Ok.bindG {α : Type} {o : Option (Fl × Rho)} {P : Rho → Prop} {f : Fl × Rho → Option α} {r : Option α} (h : Ok o P) (k : ∀ ρ', P ρ' → f (.next, ρ') = r) : o.bind f = r := by
  obtain ⟨ρ', rfl, h⟩ := h.out
  exact k ρ' h
theorem Ok.bindOkG {o : Option (Fl × Rho)} {P P' : Rho → Prop} {f : Fl × Rho → Option (Fl × Rho)} (h : Ok o P) (k : ∀ ρ', P ρ' → Ok (f (.next, ρ')) P') : Ok (o.bind f) P' := by
  obtain ⟨ρ', rfl, h⟩ := h.out
  exact k ρ' h
theorem Ok.bind {o : Option (Fl × Rho)} {P : Rho → Prop} {r : List Stmt} {x : Option D} (h : Ok o P) (k : ∀ ρ', P ρ' → finR (run n Γ ρ' r) = x) : finR (thR o n Γ r) = x := by
  obtain ⟨ρ', rfl, h⟩ := h.out
  exact k ρ' h
theorem Ok.bindOk {o : Option (Fl × Rho)} {P P' : Rho → Prop} {r : List Stmt} (h : Ok o P) (k : ∀ ρ', P ρ' → Ok (run n Γ ρ' r) P') : Ok (thR o n Γ r) P' := by
  obtain ⟨ρ', rfl, h⟩ := h.out
  exact k ρ' h
theorem Ok.mono {o : Option (Fl × Rho)} {P P' : Rho → Prop} (h : Ok o P) (k : ∀ ρ', P ρ' → P' ρ') : Ok o P' := by
  obtain ⟨ρ', rfl, h⟩ := h.out
  exact k ρ' h

/-- a loop that keeps on, with what it keeps true -/
theorem loop_ok {tg : Expr} {body : List Stmt} {σ : Type} (Inv : σ → Rho → Prop) (step : σ → D → σ) (c : Nat) : ∀ {ds : List D} {ρ : Rho} (s : σ) {n : Nat},
    (∀ m s ρ, ∀ d ∈ ds, Inv s ρ → Ok (tgR (tgD tg d) (m + c) Γ ρ body) (Inv (step s d))) → Inv s ρ → c + ds.length + 1 ≤ n → Ok (loopA n Γ tg body ds ρ) (Inv (ds.foldl step s))
  | [], ρ, s, n + 1, _, hi, _ => by rw [q_loopNil]; exact hi
  | d :: ds, ρ, s, n + 1, h, hi, hn => by
    simp only [List.length_cons] at hn
    obtain ⟨m, rfl⟩ : ∃ m, n = m + c := ⟨n - c, by first | lia | omega⟩
    have h1 := h m s ρ d List.mem_cons_self hi
    rw [q_loopCons]
    cases e : tgD tg d with
    | none => rw [e] at h1; exact h1.elim
    | some bs =>
      rw [e] at h1
      rw [t_tg] at h1
      rw [Option.bind_some]
      exact h1.bindOkG fun ρ' hi' => loop_ok Inv step c (ds := ds) (step s d) (n := m + c) (fun m s ρ d hd => h m s ρ d (List.mem_cons_of_mem _ hd)) hi' (by first | lia | omega)
  | _, _, _, 0, _, _, h => by first | lia | omega

theorem loop_okI {tg : Expr} {body : List Stmt} {σ : Type} (Inv : Nat → σ → Rho → Prop) (step : σ → D → σ) (c N : Nat) : ∀ {ds : List D} {ρ : Rho} (i : Nat) (s : σ) {n : Nat}, i + ds.length = N →
    (∀ m i s ρ, ∀ d ∈ ds, i < N → Inv i s ρ → Ok (tgR (tgD tg d) (m + c) Γ ρ body) (Inv (i + 1) (step s d))) → Inv i s ρ → c + ds.length + 1 ≤ n → Ok (loopA n Γ tg body ds ρ) (Inv N (ds.foldl step s))
  | [], ρ, i, s, n + 1, hN, _, hi, _ => by
    rw [q_loopNil]
    obtain rfl : i = N := by simpa using hN
    exact hi
  | d :: ds, ρ, i, s, n + 1, hN, h, hi, hn => by
    simp only [List.length_cons] at hn hN
    obtain ⟨m, rfl⟩ : ∃ m, n = m + c := ⟨n - c, by first | lia | omega⟩
    have h1 := h m i s ρ d List.mem_cons_self (by first | lia | omega) hi
    rw [q_loopCons]
    cases e : tgD tg d with
    | none => rw [e] at h1; exact h1.elim
    | some bs =>
      rw [e] at h1
      rw [t_tg] at h1
      rw [Option.bind_some]
      exact h1.bindOkG fun ρ' hi' => loop_okI Inv step c N (ds := ds) (i + 1) (step s d) (n := m + c) (by first | lia | omega) (fun m i s ρ d hd => h m i s ρ d (List.mem_cons_of_mem _ hd)) hi' (by first | lia | omega)
  | _, _, _, _, 0, _, _, _, h => by first | lia | omega

noncomputable def whileF {σ : Type} (go : σ → Bool) (step : σ → σ) : Nat → σ → σ
  | 0, s => s
  | j + 1, s => if go s then whileF go step j (step s) else s
theorem while_ok {t : Expr} {body : List Stmt} {σ : Type} (Inv : σ → Rho → Prop) (step : σ → σ) (go : σ → Bool) (c : Nat) : ∀ (j : Nat) {ρ : Rho} (s : σ) {n k : Nat},
    (∀ m s ρ, Inv s ρ → evT (m + c) Γ ρ t = some (go s) ∧ (go s = true → Ok (run (m + c) Γ ρ body) (Inv (step s)))) → Inv s ρ → go (whileF go step j s) = false → c + j + 1 ≤ n → j + 1 ≤ k →
    Ok (whileA n Γ t body k ρ) (Inv (whileF go step j s))
  | j, ρ, s, n + 1, k + 1, h, hi, hg, hn, hk => by
    obtain ⟨m, rfl⟩ : ∃ m, n = m + c := ⟨n - c, by first | lia | omega⟩
    obtain ⟨h1, h2⟩ := h m s ρ hi
    rw [q_whileSucc, h1, Option.bind_some]
    cases e : go s with
    | false =>
      simp only [Bool.false_eq_true, if_false]
      have : whileF go step j s = s := by
        cases j with
        | zero => rfl
        | succ j => unfold whileF; rw [e]; try rfl
      rw [this]
      exact hi
    | true =>
      simp only [if_true]
      cases j with
      | zero => rw [show whileF go step 0 s = s from rfl, e] at hg; cases hg
      | succ j =>
        have rp : whileF go step (j + 1) s = whileF go step j (step s) := by
          show (if go s then _ else _) = _
          rw [e]; try rfl
        rw [rp] at hg ⊢
        exact (h2 e).bindOkG fun ρ' hi' => while_ok Inv step go c j (step s) (n := m + c) (k := k) h hi' hg (by first | lia | omega) (by first | lia | omega)

theorem comp_eq {f : D → Option (Option D)} {g : D → Option D} : ∀ {ds : List D}, (∀ d ∈ ds, f d = some (g d)) → compGo f ds = some (ds.filterMap g)
  | [], _ => rfl
  | d :: ds, h => by
    rw [compGo, h d List.mem_cons_self, Option.bind_some, comp_eq fun d hd => h d (List.mem_cons_of_mem _ hd), Option.map_some, List.filterMap_cons]
    cases g d <;> rfl
theorem comp_map {f : D → Option (Option D)} {g : D → D} {ds : List D} (h : ∀ d ∈ ds, f d = some (some (g d))) : compGo f ds = some (ds.map g) := by
  rw [comp_eq (g := fun d => some (g d)) h]
  simp

theorem n_name {x : Str} {p : Pos} : namesIn (n + 1) (.Name x p) = [x] := rfl
theorem n_tuple {es : List Expr} {k : Nat} {p : Pos} : namesIn (n + 1) (.Tuple es k p) = es.flatMap (namesIn n) := rfl
theorem n_list {es : List Expr} {p : Pos} : namesIn (n + 1) (.List es p) = es.flatMap (namesIn n) := rfl
theorem n_bin {l r : Expr} {op : Operator} {p : Pos} : namesIn (n + 1) (.BinOp l op r p) = namesIn n l ++ namesIn n r := rfl
theorem n_sub {l r : Expr} {p : Pos} : namesIn (n + 1) (.Subscript l r p) = namesIn n l ++ namesIn n r := rfl
theorem n_call {f : Expr} {as : List Expr} {ks : List Keyword} {p : Pos} : namesIn (n + 1) (.Call f as ks p) = as.flatMap (namesIn n) := rfl
theorem n_const {c : Const} {k : Nat} {p : Pos} : namesIn (n + 1) (.Constant c k p) = [] := rfl
theorem n_slice {a b c : Option Expr} {p : Pos} : namesIn (n + 1) (.Slice a b c p) = [] := rfl
theorem n_cmp {l : Expr} {os : List CmpOp} {rs : List Expr} {p : Pos} : namesIn (n + 1) (.Compare l os rs p) = [] := rfl
theorem n_if {a b c : Expr} {p : Pos} : namesIn (n + 1) (.IfExp a b c p) = [] := rfl
theorem n_comp {a : Expr} {b : List Comprehension} {c : Scope} {p : Pos} : namesIn (n + 1) (.ListComp a b c p) = [] := rfl

theorem q_asL {a : List D} : asL (.lst a) = some a := rfl
theorem q_asI {a : Int} : asI (.int a) = some a := rfl
theorem q_one1 {a : List D} : one1 [.lst a] = some a := rfl
theorem q_two2 {a b : List D} : two2 [.lst a, .lst b] = some (a, b) := rfl
theorem q_ownD {ds : List D} : ownD (some (.own ds)) = some ds := rfl
theorem q_stI {a : Int} : stI (some (.st (.int a))) = some a := rfl
theorem q_tgN {x : Str} {p : Pos} {d : D} : tgD (.Name x p) d = some [(x, d)] := rfl
theorem q_tgT {x y : Str} {p q r : Pos} {k : Nat} {a b : D} : tgD (.Tuple [.Name x p, .Name y q] k r) (.tup [a, b]) = some [(x, a), (y, b)] := rfl
theorem q_freeze {xs : List Str} {x : Str} : freeze ρ xs x = if xs.contains x = true then (match ρ x with | some (.own ds) => some (.st (.lst ds)) | o => o) else ρ x := rfl
theorem q_rho0 {x y : Str} {xs : List Str} {d : D} {ds : List D} : rho0 (x :: xs) (d :: ds) y = if y = x then some (.st d) else rho0 xs ds y := rfl
theorem q_upd {x y : Str} {s : Slot} : upd ρ x s y = if y = x then some s else ρ y := rfl
theorem q_fnL {f g : Str} {φ : List D → Option D} {l : List (Str × (List D → Option D))} : fnL ((g, φ) :: l) f = if f = g then some φ else fnL l f := by
  unfold fnL
  rw [List.lookup_cons]
  by_cases h : f = g
  · simp [h]
  · have : (f == g) = false := by simpa using h
    rw [this, if_neg h]
theorem q_compRho {sc : Scope} {x : Str} : compRho sc ρ x = if sc.names.lookup x = some .free then ρ x else none := rfl
end
end Mine
end

section
open PySem PySem.W PyProof.Rows PySem.Calls PySem.SeqAt
set_option linter.all false
set_option maxRecDepth 100000
set_option maxHeartbeats 4000000
namespace Mine

noncomputable def il (l : List Int) : D := .lst (l.map .int)
noncomputable def bl (l : List Bool) : D := .lst (l.map .bool)

theorem φ_greatest_eq (ls : List Int) (h : ls.length ≤ 1000) : φ_greatest_length [il ls] = some (.int (maxL (0 :: ls))) := by
  unfold φ_greatest_length φdef
  rw [if_pos (by rfl)]
  conv => lhs; arg 1; arg 4; whnf
  have hb : ls.length ≤ big := by unfold big; (first | lia | omega)
  have h1 : (1 : Nat) ≤ big := by decide
  simp (config := { decide := true }) only [↓reduceIte, q_name, q_int, q_bool, q_bin, q_cmp, q_if, q_from, q_upto, q_subN, q_subC, q_subB, q_subS, q_list, q_tuple, q_comp, q_len, q_call, q_count, q_bname, q_bsub, q_btup, q_tnot, q_tbool, q_tcmp, q_tname, q_tcall, q_tsnA, q_tsnO, q_esnil, q_escons, q_itname, q_itsub, q_itrng, q_itrev, q_itzip, q_itenum, q_nil, q_ok, q_cons, q_asgName, q_asgList, q_asgMul, q_asgTup, q_asgSub, q_aug, q_augSub, q_for, q_while, q_ifs, q_ret, q_app, q_ext, q_freeze, n_name, n_tuple, n_list, n_bin, n_sub, n_call, n_const, n_slice, n_cmp, n_if, n_comp, List.flatMap_cons, List.flatMap_nil, List.append_nil, List.cons_append, List.nil_append, q_rho0, q_upd, q_fnL, q_compRho, updAll, q_tgN, q_tgT, q_asI, q_asL, Option.bind_some, Option.map_some, reduceCtorEq, ne_eq, not_false_eq_true, implies_true, and_self, if_true, if_false, Bool.false_eq_true, true_and, and_true, shD, t_st, t_b2, t_cm, t_ct, t_ifT, t_ifF, t_ls, t_tu, t_co, t_le, t_ca, t_cn, t_cd, t_seT, t_seF, q_cfN, q_cfT, t_no, t_nTT, t_nFF, t_nTF, t_nFT, t_tsAT, t_tsAF, t_tsOT, t_tsOF, t_it, t_zi, t_en, t_re, t_thN, t_thR, t_fin, t_siT, t_siF, t_rt, t_fo, t_as, t_al, t_am, t_at, t_su, t_au, t_ax, t_ay, t_ap, t_ex, t_tg, q_tscons, Γ_greatest_length, il, φlist, List.length_map, List.length_cons, List.length_nil, hb, h1, binD, binI, binL, binR, isAdd, isMul, φmax, List.cons_append, List.nil_append, intsOf, intsOf_map]

noncomputable def tallyS (t : List Int) (x : Int) : List Int := if 0 < x then t.set x.toNat (t.getD x.toNat 0 + 1) else t
noncomputable def tallyF (ls : List Int) : List Int := ls.foldl tallyS (List.replicate (maxL (0 :: ls) + 1).toNat 0)
noncomputable def ofI : D → Int
  | .int x => x
  | _ => 0
theorem tallyS_len (t : List Int) (x : Int) : (tallyS t x).length = t.length := by unfold tallyS; split <;> simp
theorem get_map {l : List Int} {k : Nat} (h : k < l.length) : (l.map D.int)[k]? = some (.int (l.getD k 0)) := by simp [h]
theorem flat_rep (k : Nat) (d : D) : (List.replicate k [d]).flatten = List.replicate k d := by
  induction k with
  | zero => rfl
  | succ k ih => simp [List.replicate_succ, ih]

theorem φ_tally_eq (ls : List Int) (h : ls.length ≤ 100) (hm : maxL (0 :: ls) < 1000) : φ_tally_of [il ls] = some (il (tallyF ls)) := by
  unfold φ_tally_of φdef
  rw [if_pos (by rfl)]
  conv => lhs; arg 1; arg 4; whnf
  have hb : ls.length ≤ big := by unfold big; (first | lia | omega)
  have h1 : (1 : Nat) ≤ big := by decide
  have sp := maxL_spec (0 :: ls) (by simp)
  have h0 : 0 ≤ maxL (0 :: ls) := sp.2 0 (by simp)
  have hk : (maxL (0 :: ls) + 1).toNat < big := by unfold big; (first | lia | omega)
  have hk0 : 0 ≤ maxL (0 :: ls) + 1 := by first | lia | omega
  simp (config := { decide := true }) only [↓reduceIte, q_name, q_int, q_bool, q_bin, q_cmp, q_if, q_from, q_upto, q_subN, q_subC, q_subB, q_subS, q_list, q_tuple, q_comp, q_len, q_call, q_count, q_bname, q_bsub, q_btup, q_tnot, q_tbool, q_tcmp, q_tname, q_tcall, q_tsnA, q_tsnO, q_esnil, q_escons, q_itname, q_itsub, q_itrng, q_itrev, q_itzip, q_itenum, q_nil, q_ok, q_cons, q_asgName, q_asgList, q_asgMul, q_asgTup, q_asgSub, q_aug, q_augSub, q_for, q_while, q_ifs, q_ret, q_app, q_ext, q_freeze, n_name, n_tuple, n_list, n_bin, n_sub, n_call, n_const, n_slice, n_cmp, n_if, n_comp, List.flatMap_cons, List.flatMap_nil, List.append_nil, List.cons_append, List.nil_append, q_rho0, q_upd, q_fnL, q_compRho, updAll, q_tgN, q_tgT, q_asI, q_asL, Option.bind_some, Option.map_some, reduceCtorEq, ne_eq, not_false_eq_true, implies_true, and_self, if_true, if_false, Bool.false_eq_true, true_and, and_true, shD, t_st, t_b2, t_cm, t_ct, t_ifT, t_ifF, t_ls, t_tu, t_co, t_le, t_ca, t_cn, t_cd, t_seT, t_seF, q_cfN, q_cfT, t_no, t_nTT, t_nFF, t_nTF, t_nFT, t_tsAT, t_tsAF, t_tsOT, t_tsOF, t_it, t_zi, t_en, t_re, t_thN, t_thR, t_fin, t_siT, t_siF, t_rt, t_fo, t_as, t_al, t_am, t_at, t_su, t_au, t_ax, t_ay, t_ap, t_ex, t_tg, q_tscons, Γ_tally_of, φ_greatest_eq ls (by first | lia | omega), binD, binI, binL, binR, isAdd, isMul, hk, hk0, List.length_cons, List.length_nil]
  simp (config := { decide := true }) only [↓reduceIte, q_name, q_int, q_bool, q_bin, q_cmp, q_if, q_from, q_upto, q_subN, q_subC, q_subB, q_subS, q_list, q_tuple, q_comp, q_len, q_call, q_count, q_bname, q_bsub, q_btup, q_tnot, q_tbool, q_tcmp, q_tname, q_tcall, q_tsnA, q_tsnO, q_esnil, q_escons, q_itname, q_itsub, q_itrng, q_itrev, q_itzip, q_itenum, q_nil, q_ok, q_cons, q_asgName, q_asgList, q_asgMul, q_asgTup, q_asgSub, q_aug, q_augSub, q_for, q_while, q_ifs, q_ret, q_app, q_ext, q_freeze, n_name, n_tuple, n_list, n_bin, n_sub, n_call, n_const, n_slice, n_cmp, n_if, n_comp, List.flatMap_cons, List.flatMap_nil, List.append_nil, List.cons_append, List.nil_append, q_rho0, q_upd, q_fnL, q_compRho, updAll, q_tgN, q_tgT, q_asI, q_asL, Option.bind_some, Option.map_some, reduceCtorEq, ne_eq, not_false_eq_true, implies_true, and_self, if_true, if_false, Bool.false_eq_true, true_and, and_true, shD, t_st, t_b2, t_cm, t_ct, t_ifT, t_ifF, t_ls, t_tu, t_co, t_le, t_ca, t_cn, t_cd, t_seT, t_seF, q_cfN, q_cfT, t_no, t_nTT, t_nFF, t_nTF, t_nFT, t_tsAT, t_tsAF, t_tsOT, t_tsOF, t_it, t_zi, t_en, t_re, t_thN, t_thR, t_fin, t_siT, t_siF, t_rt, t_fo, t_as, t_al, t_am, t_at, t_su, t_au, t_ax, t_ay, t_ap, t_ex, t_tg, q_tscons, il]
  refine (loop_ok (fun t ρ => ρ "tally" = some (.own (t.map .int)) ∧ t.length = (maxL (0 :: ls) + 1).toNat) (fun t d => tallyS t (ofI d)) 30 (List.replicate (maxL (0 :: ls) + 1).toNat 0) (fun m t ρ d hd hi => ?_) ?_ ?_).bind fun ρ' hi => ?_
  · obtain ⟨x, hx, rfl⟩ := List.mem_map.mp hd
    obtain ⟨i1, i2⟩ := hi
    have hx' : x ≤ maxL (0 :: ls) := sp.2 x (List.mem_cons_of_mem _ hx)
    by_cases hp : 0 < x
    · have g0 : 0 ≤ x := by first | lia | omega
      have g1 : x.toNat < t.length := by first | lia | omega
      have g2 : t.length ≤ big := by unfold big; (first | lia | omega)
      simp (config := { decide := true }) only [↓reduceIte, q_name, q_int, q_bool, q_bin, q_cmp, q_if, q_from, q_upto, q_subN, q_subC, q_subB, q_subS, q_list, q_tuple, q_comp, q_len, q_call, q_count, q_bname, q_bsub, q_btup, q_tnot, q_tbool, q_tcmp, q_tname, q_tcall, q_tsnA, q_tsnO, q_esnil, q_escons, q_itname, q_itsub, q_itrng, q_itrev, q_itzip, q_itenum, q_nil, q_ok, q_cons, q_asgName, q_asgList, q_asgMul, q_asgTup, q_asgSub, q_aug, q_augSub, q_for, q_while, q_ifs, q_ret, q_app, q_ext, q_freeze, n_name, n_tuple, n_list, n_bin, n_sub, n_call, n_const, n_slice, n_cmp, n_if, n_comp, List.flatMap_cons, List.flatMap_nil, List.append_nil, List.cons_append, List.nil_append, q_rho0, q_upd, q_fnL, q_compRho, updAll, q_tgN, q_tgT, q_asI, q_asL, Option.bind_some, Option.map_some, reduceCtorEq, ne_eq, not_false_eq_true, implies_true, and_self, if_true, if_false, Bool.false_eq_true, true_and, and_true, shD, t_st, t_b2, t_cm, t_ct, t_ifT, t_ifF, t_ls, t_tu, t_co, t_le, t_ca, t_cn, t_cd, t_seT, t_seF, q_cfN, q_cfT, t_no, t_nTT, t_nFF, t_nTF, t_nFT, t_tsAT, t_tsAF, t_tsOT, t_tsOF, t_it, t_zi, t_en, t_re, t_thN, t_thR, t_fin, t_siT, t_siF, t_rt, t_fo, t_as, t_al, t_am, t_at, t_su, t_au, t_ax, t_ay, t_ap, t_ex, t_tg, q_tscons, ofI, cmpD, isEq, isNe, isNi, cmpI, hp, decide_true, i1, List.length_map, g0, g1, g2, get_map g1, tallyS, List.length_set]
      exact ⟨by rw [List.map_set], i2⟩
    · simp (config := { decide := true }) only [↓reduceIte, q_name, q_int, q_bool, q_bin, q_cmp, q_if, q_from, q_upto, q_subN, q_subC, q_subB, q_subS, q_list, q_tuple, q_comp, q_len, q_call, q_count, q_bname, q_bsub, q_btup, q_tnot, q_tbool, q_tcmp, q_tname, q_tcall, q_tsnA, q_tsnO, q_esnil, q_escons, q_itname, q_itsub, q_itrng, q_itrev, q_itzip, q_itenum, q_nil, q_ok, q_cons, q_asgName, q_asgList, q_asgMul, q_asgTup, q_asgSub, q_aug, q_augSub, q_for, q_while, q_ifs, q_ret, q_app, q_ext, q_freeze, n_name, n_tuple, n_list, n_bin, n_sub, n_call, n_const, n_slice, n_cmp, n_if, n_comp, List.flatMap_cons, List.flatMap_nil, List.append_nil, List.cons_append, List.nil_append, q_rho0, q_upd, q_fnL, q_compRho, updAll, q_tgN, q_tgT, q_asI, q_asL, Option.bind_some, Option.map_some, reduceCtorEq, ne_eq, not_false_eq_true, implies_true, and_self, if_true, if_false, Bool.false_eq_true, true_and, and_true, shD, t_st, t_b2, t_cm, t_ct, t_ifT, t_ifF, t_ls, t_tu, t_co, t_le, t_ca, t_cn, t_cd, t_seT, t_seF, q_cfN, q_cfT, t_no, t_nTT, t_nFF, t_nTF, t_nFT, t_tsAT, t_tsAF, t_tsOT, t_tsOF, t_it, t_zi, t_en, t_re, t_thN, t_thR, t_fin, t_siT, t_siF, t_rt, t_fo, t_as, t_al, t_am, t_at, t_su, t_au, t_ax, t_ay, t_ap, t_ex, t_tg, q_tscons, ofI, cmpD, isEq, isNe, isNi, cmpI, hp, decide_false, i1, tallyS, i2]
  · simp (config := { decide := true }) only [↓reduceIte, q_name, q_int, q_bool, q_bin, q_cmp, q_if, q_from, q_upto, q_subN, q_subC, q_subB, q_subS, q_list, q_tuple, q_comp, q_len, q_call, q_count, q_bname, q_bsub, q_btup, q_tnot, q_tbool, q_tcmp, q_tname, q_tcall, q_tsnA, q_tsnO, q_esnil, q_escons, q_itname, q_itsub, q_itrng, q_itrev, q_itzip, q_itenum, q_nil, q_ok, q_cons, q_asgName, q_asgList, q_asgMul, q_asgTup, q_asgSub, q_aug, q_augSub, q_for, q_while, q_ifs, q_ret, q_app, q_ext, q_freeze, n_name, n_tuple, n_list, n_bin, n_sub, n_call, n_const, n_slice, n_cmp, n_if, n_comp, List.flatMap_cons, List.flatMap_nil, List.append_nil, List.cons_append, List.nil_append, q_rho0, q_upd, q_fnL, q_compRho, updAll, q_tgN, q_tgT, q_asI, q_asL, Option.bind_some, Option.map_some, reduceCtorEq, ne_eq, not_false_eq_true, implies_true, and_self, if_true, if_false, Bool.false_eq_true, true_and, and_true, shD, t_st, t_b2, t_cm, t_ct, t_ifT, t_ifF, t_ls, t_tu, t_co, t_le, t_ca, t_cn, t_cd, t_seT, t_seF, q_cfN, q_cfT, t_no, t_nTT, t_nFF, t_nTF, t_nFT, t_tsAT, t_tsAF, t_tsOT, t_tsOF, t_it, t_zi, t_en, t_re, t_thN, t_thR, t_fin, t_siT, t_siF, t_rt, t_fo, t_as, t_al, t_am, t_at, t_su, t_au, t_ax, t_ay, t_ap, t_ex, t_tg, q_tscons, List.length_replicate, flat_rep, List.map_replicate]
  · simp; (first | lia | omega)
  · simp (config := { decide := true }) only [↓reduceIte, q_name, q_int, q_bool, q_bin, q_cmp, q_if, q_from, q_upto, q_subN, q_subC, q_subB, q_subS, q_list, q_tuple, q_comp, q_len, q_call, q_count, q_bname, q_bsub, q_btup, q_tnot, q_tbool, q_tcmp, q_tname, q_tcall, q_tsnA, q_tsnO, q_esnil, q_escons, q_itname, q_itsub, q_itrng, q_itrev, q_itzip, q_itenum, q_nil, q_ok, q_cons, q_asgName, q_asgList, q_asgMul, q_asgTup, q_asgSub, q_aug, q_augSub, q_for, q_while, q_ifs, q_ret, q_app, q_ext, q_freeze, n_name, n_tuple, n_list, n_bin, n_sub, n_call, n_const, n_slice, n_cmp, n_if, n_comp, List.flatMap_cons, List.flatMap_nil, List.append_nil, List.cons_append, List.nil_append, q_rho0, q_upd, q_fnL, q_compRho, updAll, q_tgN, q_tgT, q_asI, q_asL, Option.bind_some, Option.map_some, reduceCtorEq, ne_eq, not_false_eq_true, implies_true, and_self, if_true, if_false, Bool.false_eq_true, true_and, and_true, shD, t_st, t_b2, t_cm, t_ct, t_ifT, t_ifF, t_ls, t_tu, t_co, t_le, t_ca, t_cn, t_cd, t_seT, t_seF, q_cfN, q_cfT, t_no, t_nTT, t_nFF, t_nTF, t_nFT, t_tsAT, t_tsAF, t_tsOT, t_tsOF, t_it, t_zi, t_en, t_re, t_thN, t_thR, t_fin, t_siT, t_siF, t_rt, t_fo, t_as, t_al, t_am, t_at, t_su, t_au, t_ax, t_ay, t_ap, t_ex, t_tg, q_tscons, hi.1, tallyF]
    simp [List.foldl_map, ofI]

theorem tally_fold_len (l : List Int) (t : List Int) : (l.foldl tallyS t).length = t.length := by
  induction l generalizing t with
  | nil => rfl
  | cons x l ih => rw [List.foldl_cons, ih, tallyS_len]
theorem tallyF_len (ls : List Int) (hm : maxL (0 :: ls) < 1000) : (tallyF ls).length ≤ 1000 := by
  unfold tallyF
  rw [tally_fold_len, List.length_replicate]
  (first | lia | omega)

noncomputable def roomF (ls : List Int) : Int := ((tallyF ls).drop 1).foldl (fun r t => 2 * r - t) 1

theorem φ_room_eq (ls : List Int) (h : ls.length ≤ 50) (hm : maxL (0 :: ls) < 50) : φ_room_left [il ls] = some (.int (roomF ls)) := by
  unfold φ_room_left φdef
  rw [if_pos (by rfl)]
  conv => lhs; arg 1; arg 4; whnf
  have hl : (tallyF ls).length ≤ 50 := by
    unfold tallyF
    rw [tally_fold_len, List.length_replicate]
    (first | lia | omega)
  have hb : (tallyF ls).length ≤ big := by unfold big; (first | lia | omega)
  simp (config := { decide := true }) only [↓reduceIte, q_name, q_int, q_bool, q_bin, q_cmp, q_if, q_from, q_upto, q_subN, q_subC, q_subB, q_subS, q_list, q_tuple, q_comp, q_len, q_call, q_count, q_bname, q_bsub, q_btup, q_tnot, q_tbool, q_tcmp, q_tname, q_tcall, q_tsnA, q_tsnO, q_esnil, q_escons, q_itname, q_itsub, q_itrng, q_itrev, q_itzip, q_itenum, q_nil, q_ok, q_cons, q_asgName, q_asgList, q_asgMul, q_asgTup, q_asgSub, q_aug, q_augSub, q_for, q_while, q_ifs, q_ret, q_app, q_ext, q_freeze, n_name, n_tuple, n_list, n_bin, n_sub, n_call, n_const, n_slice, n_cmp, n_if, n_comp, List.flatMap_cons, List.flatMap_nil, List.append_nil, List.cons_append, List.nil_append, q_rho0, q_upd, q_fnL, q_compRho, updAll, q_tgN, q_tgT, q_asI, q_asL, Option.bind_some, Option.map_some, reduceCtorEq, ne_eq, not_false_eq_true, implies_true, and_self, if_true, if_false, Bool.false_eq_true, true_and, and_true, shD, t_st, t_b2, t_cm, t_ct, t_ifT, t_ifF, t_ls, t_tu, t_co, t_le, t_ca, t_cn, t_cd, t_seT, t_seF, q_cfN, q_cfT, t_no, t_nTT, t_nFF, t_nTF, t_nFT, t_tsAT, t_tsAF, t_tsOT, t_tsOF, t_it, t_zi, t_en, t_re, t_thN, t_thR, t_fin, t_siT, t_siF, t_rt, t_fo, t_as, t_al, t_am, t_at, t_su, t_au, t_ax, t_ay, t_ap, t_ex, t_tg, q_tscons, Γ_room_left, φ_tally_eq ls (by first | lia | omega) (by first | lia | omega)]
  simp (config := { decide := true }) only [↓reduceIte, q_name, q_int, q_bool, q_bin, q_cmp, q_if, q_from, q_upto, q_subN, q_subC, q_subB, q_subS, q_list, q_tuple, q_comp, q_len, q_call, q_count, q_bname, q_bsub, q_btup, q_tnot, q_tbool, q_tcmp, q_tname, q_tcall, q_tsnA, q_tsnO, q_esnil, q_escons, q_itname, q_itsub, q_itrng, q_itrev, q_itzip, q_itenum, q_nil, q_ok, q_cons, q_asgName, q_asgList, q_asgMul, q_asgTup, q_asgSub, q_aug, q_augSub, q_for, q_while, q_ifs, q_ret, q_app, q_ext, q_freeze, n_name, n_tuple, n_list, n_bin, n_sub, n_call, n_const, n_slice, n_cmp, n_if, n_comp, List.flatMap_cons, List.flatMap_nil, List.append_nil, List.cons_append, List.nil_append, q_rho0, q_upd, q_fnL, q_compRho, updAll, q_tgN, q_tgT, q_asI, q_asL, Option.bind_some, Option.map_some, reduceCtorEq, ne_eq, not_false_eq_true, implies_true, and_self, if_true, if_false, Bool.false_eq_true, true_and, and_true, shD, t_st, t_b2, t_cm, t_ct, t_ifT, t_ifF, t_ls, t_tu, t_co, t_le, t_ca, t_cn, t_cd, t_seT, t_seF, q_cfN, q_cfT, t_no, t_nTT, t_nFF, t_nTF, t_nFT, t_tsAT, t_tsAF, t_tsOT, t_tsOF, t_it, t_zi, t_en, t_re, t_thN, t_thR, t_fin, t_siT, t_siF, t_rt, t_fo, t_as, t_al, t_am, t_at, t_su, t_au, t_ax, t_ay, t_ap, t_ex, t_tg, q_tscons, il, fromD, List.length_map, hb]
  refine (loop_ok (fun r ρ => ρ "room" = some (.st (.int r))) (fun r d => 2 * r - ofI d) 30 1 (fun m r ρ d hd hi => ?_) ?_ ?_).bind fun ρ' hi => ?_
  · rw [← List.map_drop] at hd
    obtain ⟨x, hx, rfl⟩ := List.mem_map.mp hd
    simp (config := { decide := true }) only [↓reduceIte, q_name, q_int, q_bool, q_bin, q_cmp, q_if, q_from, q_upto, q_subN, q_subC, q_subB, q_subS, q_list, q_tuple, q_comp, q_len, q_call, q_count, q_bname, q_bsub, q_btup, q_tnot, q_tbool, q_tcmp, q_tname, q_tcall, q_tsnA, q_tsnO, q_esnil, q_escons, q_itname, q_itsub, q_itrng, q_itrev, q_itzip, q_itenum, q_nil, q_ok, q_cons, q_asgName, q_asgList, q_asgMul, q_asgTup, q_asgSub, q_aug, q_augSub, q_for, q_while, q_ifs, q_ret, q_app, q_ext, q_freeze, n_name, n_tuple, n_list, n_bin, n_sub, n_call, n_const, n_slice, n_cmp, n_if, n_comp, List.flatMap_cons, List.flatMap_nil, List.append_nil, List.cons_append, List.nil_append, q_rho0, q_upd, q_fnL, q_compRho, updAll, q_tgN, q_tgT, q_asI, q_asL, Option.bind_some, Option.map_some, reduceCtorEq, ne_eq, not_false_eq_true, implies_true, and_self, if_true, if_false, Bool.false_eq_true, true_and, and_true, shD, t_st, t_b2, t_cm, t_ct, t_ifT, t_ifF, t_ls, t_tu, t_co, t_le, t_ca, t_cn, t_cd, t_seT, t_seF, q_cfN, q_cfT, t_no, t_nTT, t_nFF, t_nTF, t_nFT, t_tsAT, t_tsAF, t_tsOT, t_tsOF, t_it, t_zi, t_en, t_re, t_thN, t_thR, t_fin, t_siT, t_siF, t_rt, t_fo, t_as, t_al, t_am, t_at, t_su, t_au, t_ax, t_ay, t_ap, t_ex, t_tg, q_tscons, ofI, hi, binD, binI, binL, binR, isAdd, isMul]
  · simp (config := { decide := true }) only [↓reduceIte, q_name, q_int, q_bool, q_bin, q_cmp, q_if, q_from, q_upto, q_subN, q_subC, q_subB, q_subS, q_list, q_tuple, q_comp, q_len, q_call, q_count, q_bname, q_bsub, q_btup, q_tnot, q_tbool, q_tcmp, q_tname, q_tcall, q_tsnA, q_tsnO, q_esnil, q_escons, q_itname, q_itsub, q_itrng, q_itrev, q_itzip, q_itenum, q_nil, q_ok, q_cons, q_asgName, q_asgList, q_asgMul, q_asgTup, q_asgSub, q_aug, q_augSub, q_for, q_while, q_ifs, q_ret, q_app, q_ext, q_freeze, n_name, n_tuple, n_list, n_bin, n_sub, n_call, n_const, n_slice, n_cmp, n_if, n_comp, List.flatMap_cons, List.flatMap_nil, List.append_nil, List.cons_append, List.nil_append, q_rho0, q_upd, q_fnL, q_compRho, updAll, q_tgN, q_tgT, q_asI, q_asL, Option.bind_some, Option.map_some, reduceCtorEq, ne_eq, not_false_eq_true, implies_true, and_self, if_true, if_false, Bool.false_eq_true, true_and, and_true, shD, t_st, t_b2, t_cm, t_ct, t_ifT, t_ifF, t_ls, t_tu, t_co, t_le, t_ca, t_cn, t_cd, t_seT, t_seF, q_cfN, q_cfT, t_no, t_nTT, t_nFF, t_nTF, t_nFT, t_tsAT, t_tsAF, t_tsOT, t_tsOF, t_it, t_zi, t_en, t_re, t_thN, t_thR, t_fin, t_siT, t_siF, t_rt, t_fo, t_as, t_al, t_am, t_at, t_su, t_au, t_ax, t_ay, t_ap, t_ex, t_tg, q_tscons]
  · simp; (first | lia | omega)
  · simp (config := { decide := true }) only [↓reduceIte, q_name, q_int, q_bool, q_bin, q_cmp, q_if, q_from, q_upto, q_subN, q_subC, q_subB, q_subS, q_list, q_tuple, q_comp, q_len, q_call, q_count, q_bname, q_bsub, q_btup, q_tnot, q_tbool, q_tcmp, q_tname, q_tcall, q_tsnA, q_tsnO, q_esnil, q_escons, q_itname, q_itsub, q_itrng, q_itrev, q_itzip, q_itenum, q_nil, q_ok, q_cons, q_asgName, q_asgList, q_asgMul, q_asgTup, q_asgSub, q_aug, q_augSub, q_for, q_while, q_ifs, q_ret, q_app, q_ext, q_freeze, n_name, n_tuple, n_list, n_bin, n_sub, n_call, n_const, n_slice, n_cmp, n_if, n_comp, List.flatMap_cons, List.flatMap_nil, List.append_nil, List.cons_append, List.nil_append, q_rho0, q_upd, q_fnL, q_compRho, updAll, q_tgN, q_tgT, q_asI, q_asL, Option.bind_some, Option.map_some, reduceCtorEq, ne_eq, not_false_eq_true, implies_true, and_self, if_true, if_false, Bool.false_eq_true, true_and, and_true, shD, t_st, t_b2, t_cm, t_ct, t_ifT, t_ifF, t_ls, t_tu, t_co, t_le, t_ca, t_cn, t_cd, t_seT, t_seF, q_cfN, q_cfT, t_no, t_nTT, t_nFF, t_nTF, t_nFT, t_tsAT, t_tsAF, t_tsOT, t_tsOF, t_it, t_zi, t_en, t_re, t_thN, t_thR, t_fin, t_siT, t_siF, t_rt, t_fo, t_as, t_al, t_am, t_at, t_su, t_au, t_ax, t_ay, t_ap, t_ex, t_tg, q_tscons, hi, roomF]
    rw [show Int.toNat 1 = 1 from rfl, ← List.map_drop, List.foldl_map]
    rfl

theorem φ_is_full_eq (ls : List Int) (h : ls.length ≤ 50) (hm : maxL (0 :: ls) < 50) : φ_is_full [il ls] = some (.bool (decide (roomF ls = 0))) := by
  unfold φ_is_full φdef
  rw [if_pos (by rfl)]
  conv => lhs; arg 1; arg 4; whnf
  simp (config := { decide := true }) only [↓reduceIte, q_name, q_int, q_bool, q_bin, q_cmp, q_if, q_from, q_upto, q_subN, q_subC, q_subB, q_subS, q_list, q_tuple, q_comp, q_len, q_call, q_count, q_bname, q_bsub, q_btup, q_tnot, q_tbool, q_tcmp, q_tname, q_tcall, q_tsnA, q_tsnO, q_esnil, q_escons, q_itname, q_itsub, q_itrng, q_itrev, q_itzip, q_itenum, q_nil, q_ok, q_cons, q_asgName, q_asgList, q_asgMul, q_asgTup, q_asgSub, q_aug, q_augSub, q_for, q_while, q_ifs, q_ret, q_app, q_ext, q_freeze, n_name, n_tuple, n_list, n_bin, n_sub, n_call, n_const, n_slice, n_cmp, n_if, n_comp, List.flatMap_cons, List.flatMap_nil, List.append_nil, List.cons_append, List.nil_append, q_rho0, q_upd, q_fnL, q_compRho, updAll, q_tgN, q_tgT, q_asI, q_asL, Option.bind_some, Option.map_some, reduceCtorEq, ne_eq, not_false_eq_true, implies_true, and_self, if_true, if_false, Bool.false_eq_true, true_and, and_true, shD, t_st, t_b2, t_cm, t_ct, t_ifT, t_ifF, t_ls, t_tu, t_co, t_le, t_ca, t_cn, t_cd, t_seT, t_seF, q_cfN, q_cfT, t_no, t_nTT, t_nFF, t_nTF, t_nFT, t_tsAT, t_tsAF, t_tsOT, t_tsOF, t_it, t_zi, t_en, t_re, t_thN, t_thR, t_fin, t_siT, t_siF, t_rt, t_fo, t_as, t_al, t_am, t_at, t_su, t_au, t_ax, t_ay, t_ap, t_ex, t_tg, q_tscons, Γ_is_full, φ_room_eq ls h hm, behindInMarks, cmpD, isEq, isNe, isNi, cmpI]

noncomputable def costS (cs ls : List Int) (t : Int) (i : Nat) : Int := if 0 < cs.getD i 0 then t + cs.getD i 0 * ls.getD i 0 else t
noncomputable def costF (cs ls : List Int) : Int := (List.range cs.length).foldl (costS cs ls) 0

theorem φ_cost_eq (cs ls : List Int) (h : cs.length ≤ 50) (hl : ls.length = cs.length) (hp : ∀ i, i < cs.length → 0 < cs.getD i 0 → ls.getD i 0 ≠ 0) (hc : ∀ i, i < cs.length → (cs.getD i 0).natAbs < 2 ^ 62) :
    φ_cost [il cs, il ls] = some (.int (costF cs ls)) := by
  unfold φ_cost φdef
  rw [if_pos (by rfl)]
  conv => lhs; arg 1; arg 4; whnf
  have hb : cs.length ≤ big := by unfold big; (first | lia | omega)
  have hb2 : ls.length ≤ big := by unfold big; (first | lia | omega)
  have h40 : (Int.natAbs (cs.length : Int)) < 2 ^ 40 := by first | lia | omega
  simp (config := { decide := true }) only [↓reduceIte, q_name, q_int, q_bool, q_bin, q_cmp, q_if, q_from, q_upto, q_subN, q_subC, q_subB, q_subS, q_list, q_tuple, q_comp, q_len, q_call, q_count, q_bname, q_bsub, q_btup, q_tnot, q_tbool, q_tcmp, q_tname, q_tcall, q_tsnA, q_tsnO, q_esnil, q_escons, q_itname, q_itsub, q_itrng, q_itrev, q_itzip, q_itenum, q_nil, q_ok, q_cons, q_asgName, q_asgList, q_asgMul, q_asgTup, q_asgSub, q_aug, q_augSub, q_for, q_while, q_ifs, q_ret, q_app, q_ext, q_freeze, n_name, n_tuple, n_list, n_bin, n_sub, n_call, n_const, n_slice, n_cmp, n_if, n_comp, List.flatMap_cons, List.flatMap_nil, List.append_nil, List.cons_append, List.nil_append, q_rho0, q_upd, q_fnL, q_compRho, updAll, q_tgN, q_tgT, q_asI, q_asL, Option.bind_some, Option.map_some, reduceCtorEq, ne_eq, not_false_eq_true, implies_true, and_self, if_true, if_false, Bool.false_eq_true, true_and, and_true, shD, t_st, t_b2, t_cm, t_ct, t_ifT, t_ifF, t_ls, t_tu, t_co, t_le, t_ca, t_cn, t_cd, t_seT, t_seF, q_cfN, q_cfT, t_no, t_nTT, t_nFF, t_nTF, t_nFT, t_tsAT, t_tsAF, t_tsOT, t_tsOF, t_it, t_zi, t_en, t_re, t_thN, t_thR, t_fin, t_siT, t_siF, t_rt, t_fo, t_as, t_al, t_am, t_at, t_su, t_au, t_ax, t_ay, t_ap, t_ex, t_tg, q_tscons, Γ_cost, φlen, il, List.length_map, hb, rangeOf, h40]
  refine (loop_ok (fun t ρ => ρ "total" = some (.st (.int t)) ∧ ρ "counts" = some (.st (il cs)) ∧ ρ "lengths" = some (.st (il ls))) (fun t d => costS cs ls t (ofI d).toNat) 40 0 (fun m r ρ d hd hi => ?_) ?_ ?_).bind fun ρ' hi => ?_
  · unfold rangeD at hd
    obtain ⟨i, hi2, rfl⟩ := List.mem_map.mp hd
    have hlt : i < cs.length := by simpa using hi2
    obtain ⟨i1, i2, i3⟩ := hi
    have e0 : (0 + (i : Int) * 1) = (i : Int) := by first | lia | omega
    have e1 : (cs.map D.int)[i]? = some (.int (cs.getD i 0)) := get_map hlt
    have e2 : (ls.map D.int)[i]? = some (.int (ls.getD i 0)) := get_map (by first | lia | omega)
    have e3 : (0 : Int) ≤ (i : Int) := by first | lia | omega
    have e4 : ¬ ((ls.length : Int) ≤ (i : Int)) := by first | lia | omega
    rw [e0]
    by_cases hq : 0 < cs.getD i 0
    · have hz := hp i hlt hq
      have hn := hc i hlt
      simp (config := { decide := true }) only [↓reduceIte, q_name, q_int, q_bool, q_bin, q_cmp, q_if, q_from, q_upto, q_subN, q_subC, q_subB, q_subS, q_list, q_tuple, q_comp, q_len, q_call, q_count, q_bname, q_bsub, q_btup, q_tnot, q_tbool, q_tcmp, q_tname, q_tcall, q_tsnA, q_tsnO, q_esnil, q_escons, q_itname, q_itsub, q_itrng, q_itrev, q_itzip, q_itenum, q_nil, q_ok, q_cons, q_asgName, q_asgList, q_asgMul, q_asgTup, q_asgSub, q_aug, q_augSub, q_for, q_while, q_ifs, q_ret, q_app, q_ext, q_freeze, n_name, n_tuple, n_list, n_bin, n_sub, n_call, n_const, n_slice, n_cmp, n_if, n_comp, List.flatMap_cons, List.flatMap_nil, List.append_nil, List.cons_append, List.nil_append, q_rho0, q_upd, q_fnL, q_compRho, updAll, q_tgN, q_tgT, q_asI, q_asL, Option.bind_some, Option.map_some, reduceCtorEq, ne_eq, not_false_eq_true, implies_true, and_self, if_true, if_false, Bool.false_eq_true, true_and, and_true, shD, t_st, t_b2, t_cm, t_ct, t_ifT, t_ifF, t_ls, t_tu, t_co, t_le, t_ca, t_cn, t_cd, t_seT, t_seF, q_cfN, q_cfT, t_no, t_nTT, t_nFF, t_nTF, t_nFT, t_tsAT, t_tsAF, t_tsOT, t_tsOF, t_it, t_zi, t_en, t_re, t_thN, t_thR, t_fin, t_siT, t_siF, t_rt, t_fo, t_as, t_al, t_am, t_at, t_su, t_au, t_ax, t_ay, t_ap, t_ex, t_tg, q_tscons, ofI, i1, i2, i3, il, idxD, e1, e2, e3, List.length_map, hb, hb2, Int.toNat_natCast, cmpD, isEq, isNe, isNi, cmpI, hq, decide_true, φlen, e4, decide_false, hz, binD, binI, binL, binR, isAdd, isMul, hn, costS]
    · simp (config := { decide := true }) only [↓reduceIte, q_name, q_int, q_bool, q_bin, q_cmp, q_if, q_from, q_upto, q_subN, q_subC, q_subB, q_subS, q_list, q_tuple, q_comp, q_len, q_call, q_count, q_bname, q_bsub, q_btup, q_tnot, q_tbool, q_tcmp, q_tname, q_tcall, q_tsnA, q_tsnO, q_esnil, q_escons, q_itname, q_itsub, q_itrng, q_itrev, q_itzip, q_itenum, q_nil, q_ok, q_cons, q_asgName, q_asgList, q_asgMul, q_asgTup, q_asgSub, q_aug, q_augSub, q_for, q_while, q_ifs, q_ret, q_app, q_ext, q_freeze, n_name, n_tuple, n_list, n_bin, n_sub, n_call, n_const, n_slice, n_cmp, n_if, n_comp, List.flatMap_cons, List.flatMap_nil, List.append_nil, List.cons_append, List.nil_append, q_rho0, q_upd, q_fnL, q_compRho, updAll, q_tgN, q_tgT, q_asI, q_asL, Option.bind_some, Option.map_some, reduceCtorEq, ne_eq, not_false_eq_true, implies_true, and_self, if_true, if_false, Bool.false_eq_true, true_and, and_true, shD, t_st, t_b2, t_cm, t_ct, t_ifT, t_ifF, t_ls, t_tu, t_co, t_le, t_ca, t_cn, t_cd, t_seT, t_seF, q_cfN, q_cfT, t_no, t_nTT, t_nFF, t_nTF, t_nFT, t_tsAT, t_tsAF, t_tsOT, t_tsOF, t_it, t_zi, t_en, t_re, t_thN, t_thR, t_fin, t_siT, t_siF, t_rt, t_fo, t_as, t_al, t_am, t_at, t_su, t_au, t_ax, t_ay, t_ap, t_ex, t_tg, q_tscons, ofI, i1, i2, i3, il, idxD, e1, e2, e3, List.length_map, hb, hb2, Int.toNat_natCast, cmpD, isEq, isNe, isNi, cmpI, hq, decide_false, costS]
  · simp (config := { decide := true }) only [↓reduceIte, q_name, q_int, q_bool, q_bin, q_cmp, q_if, q_from, q_upto, q_subN, q_subC, q_subB, q_subS, q_list, q_tuple, q_comp, q_len, q_call, q_count, q_bname, q_bsub, q_btup, q_tnot, q_tbool, q_tcmp, q_tname, q_tcall, q_tsnA, q_tsnO, q_esnil, q_escons, q_itname, q_itsub, q_itrng, q_itrev, q_itzip, q_itenum, q_nil, q_ok, q_cons, q_asgName, q_asgList, q_asgMul, q_asgTup, q_asgSub, q_aug, q_augSub, q_for, q_while, q_ifs, q_ret, q_app, q_ext, q_freeze, n_name, n_tuple, n_list, n_bin, n_sub, n_call, n_const, n_slice, n_cmp, n_if, n_comp, List.flatMap_cons, List.flatMap_nil, List.append_nil, List.cons_append, List.nil_append, q_rho0, q_upd, q_fnL, q_compRho, updAll, q_tgN, q_tgT, q_asI, q_asL, Option.bind_some, Option.map_some, reduceCtorEq, ne_eq, not_false_eq_true, implies_true, and_self, if_true, if_false, Bool.false_eq_true, true_and, and_true, shD, t_st, t_b2, t_cm, t_ct, t_ifT, t_ifF, t_ls, t_tu, t_co, t_le, t_ca, t_cn, t_cd, t_seT, t_seF, q_cfN, q_cfT, t_no, t_nTT, t_nFF, t_nTF, t_nFT, t_tsAT, t_tsAF, t_tsOT, t_tsOF, t_it, t_zi, t_en, t_re, t_thN, t_thR, t_fin, t_siT, t_siF, t_rt, t_fo, t_as, t_al, t_am, t_at, t_su, t_au, t_ax, t_ay, t_ap, t_ex, t_tg, q_tscons, il]
  · simp [rangeD]; (first | lia | omega)
  · simp (config := { decide := true }) only [↓reduceIte, q_name, q_int, q_bool, q_bin, q_cmp, q_if, q_from, q_upto, q_subN, q_subC, q_subB, q_subS, q_list, q_tuple, q_comp, q_len, q_call, q_count, q_bname, q_bsub, q_btup, q_tnot, q_tbool, q_tcmp, q_tname, q_tcall, q_tsnA, q_tsnO, q_esnil, q_escons, q_itname, q_itsub, q_itrng, q_itrev, q_itzip, q_itenum, q_nil, q_ok, q_cons, q_asgName, q_asgList, q_asgMul, q_asgTup, q_asgSub, q_aug, q_augSub, q_for, q_while, q_ifs, q_ret, q_app, q_ext, q_freeze, n_name, n_tuple, n_list, n_bin, n_sub, n_call, n_const, n_slice, n_cmp, n_if, n_comp, List.flatMap_cons, List.flatMap_nil, List.append_nil, List.cons_append, List.nil_append, q_rho0, q_upd, q_fnL, q_compRho, updAll, q_tgN, q_tgT, q_asI, q_asL, Option.bind_some, Option.map_some, reduceCtorEq, ne_eq, not_false_eq_true, implies_true, and_self, if_true, if_false, Bool.false_eq_true, true_and, and_true, shD, t_st, t_b2, t_cm, t_ct, t_ifT, t_ifF, t_ls, t_tu, t_co, t_le, t_ca, t_cn, t_cd, t_seT, t_seF, q_cfN, q_cfT, t_no, t_nTT, t_nFF, t_nTF, t_nFT, t_tsAT, t_tsAF, t_tsOT, t_tsOF, t_it, t_zi, t_en, t_re, t_thN, t_thR, t_fin, t_siT, t_siF, t_rt, t_fo, t_as, t_al, t_am, t_at, t_su, t_au, t_ax, t_ay, t_ap, t_ex, t_tg, q_tscons, hi.1, costF]
    rw [rangeD, List.foldl_map]
    simp [ofI]
end Mine
end

section
open PySem PySem.W PyProof.Rows PySem.Calls PySem.SeqAt
set_option linter.all false
set_option maxRecDepth 100000
set_option maxHeartbeats 4000000
namespace Mine

/-- the merging of leaves and packages: weights, flags, place -/
noncomputable abbrev MS := List Int × List Bool × Nat
noncomputable def mGo (ps : List Int) (leaf : Int) (s : MS) : Bool := decide (s.2.2 < ps.length) && decide (ps.getD s.2.2 0 < leaf)
noncomputable def mStep (ps : List Int) (s : MS) : MS := (s.1 ++ [ps.getD s.2.2 0], s.2.1 ++ [false], s.2.2 + 1)
noncomputable def mLeaf (ps : List Int) (s : MS) (leaf : Int) : MS :=
  let r := whileF (mGo ps leaf) (mStep ps) ps.length s
  (r.1 ++ [leaf], r.2.1 ++ [true], r.2.2)
noncomputable def mEnd (ls ps : List Int) : MS := ls.foldl (mLeaf ps) ([], [], 0)
noncomputable def mW (ls ps : List Int) : List Int := (mEnd ls ps).1 ++ ps.drop (mEnd ls ps).2.2
noncomputable def mF (ls ps : List Int) : List Bool := (mEnd ls ps).2.1 ++ List.replicate (ps.length - (mEnd ls ps).2.2) false

structure MOk (ps : List Int) (k : Nat) (s : MS) : Prop where
  w : s.1.length = k + s.2.2
  f : s.2.1.length = k + s.2.2
  p : s.2.2 ≤ ps.length

theorem mOk_while {ps : List Int} {leaf : Int} {k : Nat} : ∀ (j : Nat) {s : MS}, MOk ps k s → MOk ps k (whileF (mGo ps leaf) (mStep ps) j s)
  | 0, _, h => h
  | j + 1, s, h => by
    unfold whileF
    split
    · rename_i g
      refine mOk_while j ⟨?_, ?_, ?_⟩
      · simp [mStep, h.w]; (first | lia | omega)
      · simp [mStep, h.f]; (first | lia | omega)
      · simp only [mGo, Bool.and_eq_true, decide_eq_true_eq] at g
        exact g.1
    · exact h
theorem m_done {ps : List Int} {leaf : Int} : ∀ (j : Nat) (s : MS), ps.length ≤ s.2.2 + j → mGo ps leaf (whileF (mGo ps leaf) (mStep ps) j s) = false
  | 0, s, h => by
    show mGo ps leaf s = false
    have : ¬ s.2.2 < ps.length := by first | lia | omega
    simp [mGo, this]
  | j + 1, s, h => by
    unfold whileF
    cases e : mGo ps leaf s with
    | false => simpa using e
    | true =>
      simp only [if_true]
      exact m_done j _ (by simp [mStep]; (first | lia | omega))
theorem mOk_step {ps : List Int} {k : Nat} {s : MS} (h : MOk ps k s) (q : s.2.2 < ps.length) : MOk ps k (mStep ps s) :=
  ⟨by simp [mStep, h.w]; (first | lia | omega), by simp [mStep, h.f]; (first | lia | omega), by simp [mStep]; (first | lia | omega)⟩
theorem mOk_leaf {ps : List Int} {leaf : Int} {k : Nat} {s : MS} (h : MOk ps k s) : MOk ps (k + 1) (mLeaf ps s leaf) := by
  have q := mOk_while (leaf := leaf) ps.length h
  exact ⟨by simp [mLeaf, q.w]; (first | lia | omega), by simp [mLeaf, q.f]; (first | lia | omega), by simp [mLeaf, q.p]⟩
theorem mOk_fold {ps : List Int} : ∀ (ls : List Int) {k : Nat} {s : MS}, MOk ps k s → MOk ps (k + ls.length) (ls.foldl (mLeaf ps) s)
  | [], k, s, h => h
  | l :: ls, k, s, h => by
    have := mOk_fold ls (mOk_leaf (leaf := l) h)
    simp only [List.foldl_cons, List.length_cons]
    rwa [show k + (ls.length + 1) = k + 1 + ls.length by first | lia | omega]
theorem mOk_end (ls ps : List Int) : MOk ps ls.length (mEnd ls ps) := by
  have := mOk_fold (ps := ps) ls (k := 0) (s := ([], [], 0)) ⟨rfl, rfl, Nat.zero_le _⟩
  rwa [Nat.zero_add] at this
theorem mW_len (ls ps : List Int) : (mW ls ps).length = ls.length + ps.length := by
  have h := mOk_end ls ps
  have h2 := h.p
  simp [mW, h.w]; (first | lia | omega)
theorem mF_len (ls ps : List Int) : (mF ls ps).length = ls.length + ps.length := by
  have h := mOk_end ls ps
  have h2 := h.p
  simp [mF, h.f]; (first | lia | omega)

noncomputable def MInv (ls ps : List Int) (s : MS) (ρ : Rho) : Prop :=
  ρ "weights" = some (.own (s.1.map .int)) ∧ ρ "flags" = some (.own (s.2.1.map .bool)) ∧ ρ "place" = some (.st (.int s.2.2)) ∧ ρ "packages" = some (.st (il ps)) ∧ ρ "leaves" = some (.st (il ls))

theorem φ_merged_eq (ls ps : List Int) (h : ls.length ≤ 20) (hp : ps.length ≤ 20) : φ_merged [il ls, il ps] = some (.tup [il (mW ls ps), bl (mF ls ps)]) := by
  unfold φ_merged φdef
  rw [if_pos (by rfl)]
  conv => lhs; arg 1; arg 4; whnf
  have hb : ps.length ≤ big := by unfold big; (first | lia | omega)
  have h0 : (0 : Nat) ≤ big := by decide
  simp (config := { decide := true }) only [↓reduceIte, q_name, q_int, q_bool, q_bin, q_cmp, q_if, q_from, q_upto, q_subN, q_subC, q_subB, q_subS, q_list, q_tuple, q_comp, q_len, q_call, q_count, q_bname, q_bsub, q_btup, q_tnot, q_tbool, q_tcmp, q_tname, q_tcall, q_tsnA, q_tsnO, q_esnil, q_escons, q_itname, q_itsub, q_itrng, q_itrev, q_itzip, q_itenum, q_nil, q_ok, q_cons, q_asgName, q_asgList, q_asgMul, q_asgTup, q_asgSub, q_aug, q_augSub, q_for, q_while, q_ifs, q_ret, q_app, q_ext, q_freeze, n_name, n_tuple, n_list, n_bin, n_sub, n_call, n_const, n_slice, n_cmp, n_if, n_comp, List.flatMap_cons, List.flatMap_nil, List.append_nil, List.cons_append, List.nil_append, q_rho0, q_upd, q_fnL, q_compRho, updAll, q_tgN, q_tgT, q_asI, q_asL, Option.bind_some, Option.map_some, reduceCtorEq, ne_eq, not_false_eq_true, implies_true, and_self, if_true, if_false, Bool.false_eq_true, true_and, and_true, shD, t_st, t_b2, t_cm, t_ct, t_ifT, t_ifF, t_ls, t_tu, t_co, t_le, t_ca, t_cn, t_cd, t_seT, t_seF, q_cfN, q_cfT, t_no, t_nTT, t_nFF, t_nTF, t_nFT, t_tsAT, t_tsAF, t_tsOT, t_tsOF, t_it, t_zi, t_en, t_re, t_thN, t_thR, t_fin, t_siT, t_siF, t_rt, t_fo, t_as, t_al, t_am, t_at, t_su, t_au, t_ax, t_ay, t_ap, t_ex, t_tg, q_tscons, Γ_merged, il, List.length_nil]
  refine (loop_okI (fun k s ρ => MInv ls ps s ρ ∧ MOk ps k s) (fun s d => mLeaf ps s (ofI d)) 70 ls.length 0 ([], [], 0) (by simp) (fun m k s ρ d hd hk hi => ?_) ?_ ?_).bind fun ρ' hi => ?_
  · obtain ⟨x, hx, rfl⟩ := List.mem_map.mp hd
    obtain ⟨⟨i1, i2, i3, i4, i5⟩, ok⟩ := hi
    simp (config := { decide := true }) only [↓reduceIte, q_name, q_int, q_bool, q_bin, q_cmp, q_if, q_from, q_upto, q_subN, q_subC, q_subB, q_subS, q_list, q_tuple, q_comp, q_len, q_call, q_count, q_bname, q_bsub, q_btup, q_tnot, q_tbool, q_tcmp, q_tname, q_tcall, q_tsnA, q_tsnO, q_esnil, q_escons, q_itname, q_itsub, q_itrng, q_itrev, q_itzip, q_itenum, q_nil, q_ok, q_cons, q_asgName, q_asgList, q_asgMul, q_asgTup, q_asgSub, q_aug, q_augSub, q_for, q_while, q_ifs, q_ret, q_app, q_ext, q_freeze, n_name, n_tuple, n_list, n_bin, n_sub, n_call, n_const, n_slice, n_cmp, n_if, n_comp, List.flatMap_cons, List.flatMap_nil, List.append_nil, List.cons_append, List.nil_append, q_rho0, q_upd, q_fnL, q_compRho, updAll, q_tgN, q_tgT, q_asI, q_asL, Option.bind_some, Option.map_some, reduceCtorEq, ne_eq, not_false_eq_true, implies_true, and_self, if_true, if_false, Bool.false_eq_true, true_and, and_true, shD, t_st, t_b2, t_cm, t_ct, t_ifT, t_ifF, t_ls, t_tu, t_co, t_le, t_ca, t_cn, t_cd, t_seT, t_seF, q_cfN, q_cfT, t_no, t_nTT, t_nFF, t_nTF, t_nFT, t_tsAT, t_tsAF, t_tsOT, t_tsOF, t_it, t_zi, t_en, t_re, t_thN, t_thR, t_fin, t_siT, t_siF, t_rt, t_fo, t_as, t_al, t_am, t_at, t_su, t_au, t_ax, t_ay, t_ap, t_ex, t_tg, q_tscons, ofI, small]
    refine (while_ok (fun s ρ => MInv ls ps s ρ ∧ MOk ps k s ∧ ρ "leaf" = some (.st (.int x))) (mStep ps) (mGo ps x) 40 ps.length s (fun m s ρ hi => ?_) ⟨⟨?_, ?_, ?_, ?_, ?_⟩, ok, ?_⟩ (m_done _ _ (by first | lia | omega)) (by first | lia | omega) (by first | lia | omega)).bindOk fun ρ' hi => ?_
    · obtain ⟨⟨i1, i2, i3, i4, i5⟩, ok, i6⟩ := hi
      have z0 : (0 : Int) ≤ (s.2.2 : Int) := by first | lia | omega
      have hw := ok.w
      have hf := ok.f
      have hpl := ok.p
      have b1 : s.1.length ≤ big := by unfold big; (first | lia | omega)
      have b2 : s.2.1.length ≤ big := by unfold big; (first | lia | omega)
      by_cases q1 : s.2.2 < ps.length
      · have e1 : (ps.map D.int)[s.2.2]? = some (.int (ps.getD s.2.2 0)) := get_map q1
        have q1' : (s.2.2 : Int) < (ps.length : Int) := by first | lia | omega
        refine ⟨?_, fun hg => ?_⟩
        · simp (config := { decide := true }) only [↓reduceIte, q_name, q_int, q_bool, q_bin, q_cmp, q_if, q_from, q_upto, q_subN, q_subC, q_subB, q_subS, q_list, q_tuple, q_comp, q_len, q_call, q_count, q_bname, q_bsub, q_btup, q_tnot, q_tbool, q_tcmp, q_tname, q_tcall, q_tsnA, q_tsnO, q_esnil, q_escons, q_itname, q_itsub, q_itrng, q_itrev, q_itzip, q_itenum, q_nil, q_ok, q_cons, q_asgName, q_asgList, q_asgMul, q_asgTup, q_asgSub, q_aug, q_augSub, q_for, q_while, q_ifs, q_ret, q_app, q_ext, q_freeze, n_name, n_tuple, n_list, n_bin, n_sub, n_call, n_const, n_slice, n_cmp, n_if, n_comp, List.flatMap_cons, List.flatMap_nil, List.append_nil, List.cons_append, List.nil_append, q_rho0, q_upd, q_fnL, q_compRho, updAll, q_tgN, q_tgT, q_asI, q_asL, Option.bind_some, Option.map_some, reduceCtorEq, ne_eq, not_false_eq_true, implies_true, and_self, if_true, if_false, Bool.false_eq_true, true_and, and_true, shD, t_st, t_b2, t_cm, t_ct, t_ifT, t_ifF, t_ls, t_tu, t_co, t_le, t_ca, t_cn, t_cd, t_seT, t_seF, q_cfN, q_cfT, t_no, t_nTT, t_nFF, t_nTF, t_nFT, t_tsAT, t_tsAF, t_tsOT, t_tsOF, t_it, t_zi, t_en, t_re, t_thN, t_thR, t_fin, t_siT, t_siF, t_rt, t_fo, t_as, t_al, t_am, t_at, t_su, t_au, t_ax, t_ay, t_ap, t_ex, t_tg, q_tscons, Γ_merged, i3, i4, i6, il, φlen, List.length_map, hb, cmpD, isEq, isNe, isNi, cmpI, q1', decide_true, behindInMarks, idxD, z0, Int.toNat_natCast, e1]
          by_cases q2 : ps.getD s.2.2 0 < x
          · simp only [q2, decide_true, t_tsAT, q_tsnA, mGo, q1, Bool.and_self]
          · simp only [q2, decide_true, decide_false, t_tsAF, mGo, q1, Bool.and_false]
        · simp (config := { decide := true }) only [↓reduceIte, q_name, q_int, q_bool, q_bin, q_cmp, q_if, q_from, q_upto, q_subN, q_subC, q_subB, q_subS, q_list, q_tuple, q_comp, q_len, q_call, q_count, q_bname, q_bsub, q_btup, q_tnot, q_tbool, q_tcmp, q_tname, q_tcall, q_tsnA, q_tsnO, q_esnil, q_escons, q_itname, q_itsub, q_itrng, q_itrev, q_itzip, q_itenum, q_nil, q_ok, q_cons, q_asgName, q_asgList, q_asgMul, q_asgTup, q_asgSub, q_aug, q_augSub, q_for, q_while, q_ifs, q_ret, q_app, q_ext, q_freeze, n_name, n_tuple, n_list, n_bin, n_sub, n_call, n_const, n_slice, n_cmp, n_if, n_comp, List.flatMap_cons, List.flatMap_nil, List.append_nil, List.cons_append, List.nil_append, q_rho0, q_upd, q_fnL, q_compRho, updAll, q_tgN, q_tgT, q_asI, q_asL, Option.bind_some, Option.map_some, reduceCtorEq, ne_eq, not_false_eq_true, implies_true, and_self, if_true, if_false, Bool.false_eq_true, true_and, and_true, shD, t_st, t_b2, t_cm, t_ct, t_ifT, t_ifF, t_ls, t_tu, t_co, t_le, t_ca, t_cn, t_cd, t_seT, t_seF, q_cfN, q_cfT, t_no, t_nTT, t_nFF, t_nTF, t_nFT, t_tsAT, t_tsAF, t_tsOT, t_tsOF, t_it, t_zi, t_en, t_re, t_thN, t_thR, t_fin, t_siT, t_siF, t_rt, t_fo, t_as, t_al, t_am, t_at, t_su, t_au, t_ax, t_ay, t_ap, t_ex, t_tg, q_tscons, MInv, Γ_merged, i1, i2, i3, i4, i5, i6, il, List.length_map, hb, idxD, z0, Int.toNat_natCast, e1, b1, b2, binD, binI, binL, binR, isAdd, isMul]
          refine ⟨⟨?_, ?_, ?_⟩, mOk_step ok q1⟩
          · simp [mStep]
          · simp [mStep]
          · simp [mStep]
      · have q1' : ¬ (s.2.2 : Int) < (ps.length : Int) := by first | lia | omega
        have hg : mGo ps x s = false := by simp [mGo, q1]
        refine ⟨?_, fun hg' => by rw [hg] at hg'; cases hg'⟩
        simp (config := { decide := true }) only [↓reduceIte, q_name, q_int, q_bool, q_bin, q_cmp, q_if, q_from, q_upto, q_subN, q_subC, q_subB, q_subS, q_list, q_tuple, q_comp, q_len, q_call, q_count, q_bname, q_bsub, q_btup, q_tnot, q_tbool, q_tcmp, q_tname, q_tcall, q_tsnA, q_tsnO, q_esnil, q_escons, q_itname, q_itsub, q_itrng, q_itrev, q_itzip, q_itenum, q_nil, q_ok, q_cons, q_asgName, q_asgList, q_asgMul, q_asgTup, q_asgSub, q_aug, q_augSub, q_for, q_while, q_ifs, q_ret, q_app, q_ext, q_freeze, n_name, n_tuple, n_list, n_bin, n_sub, n_call, n_const, n_slice, n_cmp, n_if, n_comp, List.flatMap_cons, List.flatMap_nil, List.append_nil, List.cons_append, List.nil_append, q_rho0, q_upd, q_fnL, q_compRho, updAll, q_tgN, q_tgT, q_asI, q_asL, Option.bind_some, Option.map_some, reduceCtorEq, ne_eq, not_false_eq_true, implies_true, and_self, if_true, if_false, Bool.false_eq_true, true_and, and_true, shD, t_st, t_b2, t_cm, t_ct, t_ifT, t_ifF, t_ls, t_tu, t_co, t_le, t_ca, t_cn, t_cd, t_seT, t_seF, q_cfN, q_cfT, t_no, t_nTT, t_nFF, t_nTF, t_nFT, t_tsAT, t_tsAF, t_tsOT, t_tsOF, t_it, t_zi, t_en, t_re, t_thN, t_thR, t_fin, t_siT, t_siF, t_rt, t_fo, t_as, t_al, t_am, t_at, t_su, t_au, t_ax, t_ay, t_ap, t_ex, t_tg, q_tscons, Γ_merged, i3, i4, i6, il, φlen, List.length_map, hb, cmpD, isEq, isNe, isNi, cmpI, q1', decide_false, behindInMarks, hg]
    · simp (config := { decide := true }) only [↓reduceIte, q_name, q_int, q_bool, q_bin, q_cmp, q_if, q_from, q_upto, q_subN, q_subC, q_subB, q_subS, q_list, q_tuple, q_comp, q_len, q_call, q_count, q_bname, q_bsub, q_btup, q_tnot, q_tbool, q_tcmp, q_tname, q_tcall, q_tsnA, q_tsnO, q_esnil, q_escons, q_itname, q_itsub, q_itrng, q_itrev, q_itzip, q_itenum, q_nil, q_ok, q_cons, q_asgName, q_asgList, q_asgMul, q_asgTup, q_asgSub, q_aug, q_augSub, q_for, q_while, q_ifs, q_ret, q_app, q_ext, q_freeze, n_name, n_tuple, n_list, n_bin, n_sub, n_call, n_const, n_slice, n_cmp, n_if, n_comp, List.flatMap_cons, List.flatMap_nil, List.append_nil, List.cons_append, List.nil_append, q_rho0, q_upd, q_fnL, q_compRho, updAll, q_tgN, q_tgT, q_asI, q_asL, Option.bind_some, Option.map_some, reduceCtorEq, ne_eq, not_false_eq_true, implies_true, and_self, if_true, if_false, Bool.false_eq_true, true_and, and_true, shD, t_st, t_b2, t_cm, t_ct, t_ifT, t_ifF, t_ls, t_tu, t_co, t_le, t_ca, t_cn, t_cd, t_seT, t_seF, q_cfN, q_cfT, t_no, t_nTT, t_nFF, t_nTF, t_nFT, t_tsAT, t_tsAF, t_tsOT, t_tsOF, t_it, t_zi, t_en, t_re, t_thN, t_thR, t_fin, t_siT, t_siF, t_rt, t_fo, t_as, t_al, t_am, t_at, t_su, t_au, t_ax, t_ay, t_ap, t_ex, t_tg, q_tscons, i1]
    · simp (config := { decide := true }) only [↓reduceIte, q_name, q_int, q_bool, q_bin, q_cmp, q_if, q_from, q_upto, q_subN, q_subC, q_subB, q_subS, q_list, q_tuple, q_comp, q_len, q_call, q_count, q_bname, q_bsub, q_btup, q_tnot, q_tbool, q_tcmp, q_tname, q_tcall, q_tsnA, q_tsnO, q_esnil, q_escons, q_itname, q_itsub, q_itrng, q_itrev, q_itzip, q_itenum, q_nil, q_ok, q_cons, q_asgName, q_asgList, q_asgMul, q_asgTup, q_asgSub, q_aug, q_augSub, q_for, q_while, q_ifs, q_ret, q_app, q_ext, q_freeze, n_name, n_tuple, n_list, n_bin, n_sub, n_call, n_const, n_slice, n_cmp, n_if, n_comp, List.flatMap_cons, List.flatMap_nil, List.append_nil, List.cons_append, List.nil_append, q_rho0, q_upd, q_fnL, q_compRho, updAll, q_tgN, q_tgT, q_asI, q_asL, Option.bind_some, Option.map_some, reduceCtorEq, ne_eq, not_false_eq_true, implies_true, and_self, if_true, if_false, Bool.false_eq_true, true_and, and_true, shD, t_st, t_b2, t_cm, t_ct, t_ifT, t_ifF, t_ls, t_tu, t_co, t_le, t_ca, t_cn, t_cd, t_seT, t_seF, q_cfN, q_cfT, t_no, t_nTT, t_nFF, t_nTF, t_nFT, t_tsAT, t_tsAF, t_tsOT, t_tsOF, t_it, t_zi, t_en, t_re, t_thN, t_thR, t_fin, t_siT, t_siF, t_rt, t_fo, t_as, t_al, t_am, t_at, t_su, t_au, t_ax, t_ay, t_ap, t_ex, t_tg, q_tscons, i2]
    · simp (config := { decide := true }) only [↓reduceIte, q_name, q_int, q_bool, q_bin, q_cmp, q_if, q_from, q_upto, q_subN, q_subC, q_subB, q_subS, q_list, q_tuple, q_comp, q_len, q_call, q_count, q_bname, q_bsub, q_btup, q_tnot, q_tbool, q_tcmp, q_tname, q_tcall, q_tsnA, q_tsnO, q_esnil, q_escons, q_itname, q_itsub, q_itrng, q_itrev, q_itzip, q_itenum, q_nil, q_ok, q_cons, q_asgName, q_asgList, q_asgMul, q_asgTup, q_asgSub, q_aug, q_augSub, q_for, q_while, q_ifs, q_ret, q_app, q_ext, q_freeze, n_name, n_tuple, n_list, n_bin, n_sub, n_call, n_const, n_slice, n_cmp, n_if, n_comp, List.flatMap_cons, List.flatMap_nil, List.append_nil, List.cons_append, List.nil_append, q_rho0, q_upd, q_fnL, q_compRho, updAll, q_tgN, q_tgT, q_asI, q_asL, Option.bind_some, Option.map_some, reduceCtorEq, ne_eq, not_false_eq_true, implies_true, and_self, if_true, if_false, Bool.false_eq_true, true_and, and_true, shD, t_st, t_b2, t_cm, t_ct, t_ifT, t_ifF, t_ls, t_tu, t_co, t_le, t_ca, t_cn, t_cd, t_seT, t_seF, q_cfN, q_cfT, t_no, t_nTT, t_nFF, t_nTF, t_nFT, t_tsAT, t_tsAF, t_tsOT, t_tsOF, t_it, t_zi, t_en, t_re, t_thN, t_thR, t_fin, t_siT, t_siF, t_rt, t_fo, t_as, t_al, t_am, t_at, t_su, t_au, t_ax, t_ay, t_ap, t_ex, t_tg, q_tscons, i3]
    · simp (config := { decide := true }) only [↓reduceIte, q_name, q_int, q_bool, q_bin, q_cmp, q_if, q_from, q_upto, q_subN, q_subC, q_subB, q_subS, q_list, q_tuple, q_comp, q_len, q_call, q_count, q_bname, q_bsub, q_btup, q_tnot, q_tbool, q_tcmp, q_tname, q_tcall, q_tsnA, q_tsnO, q_esnil, q_escons, q_itname, q_itsub, q_itrng, q_itrev, q_itzip, q_itenum, q_nil, q_ok, q_cons, q_asgName, q_asgList, q_asgMul, q_asgTup, q_asgSub, q_aug, q_augSub, q_for, q_while, q_ifs, q_ret, q_app, q_ext, q_freeze, n_name, n_tuple, n_list, n_bin, n_sub, n_call, n_const, n_slice, n_cmp, n_if, n_comp, List.flatMap_cons, List.flatMap_nil, List.append_nil, List.cons_append, List.nil_append, q_rho0, q_upd, q_fnL, q_compRho, updAll, q_tgN, q_tgT, q_asI, q_asL, Option.bind_some, Option.map_some, reduceCtorEq, ne_eq, not_false_eq_true, implies_true, and_self, if_true, if_false, Bool.false_eq_true, true_and, and_true, shD, t_st, t_b2, t_cm, t_ct, t_ifT, t_ifF, t_ls, t_tu, t_co, t_le, t_ca, t_cn, t_cd, t_seT, t_seF, q_cfN, q_cfT, t_no, t_nTT, t_nFF, t_nTF, t_nFT, t_tsAT, t_tsAF, t_tsOT, t_tsOF, t_it, t_zi, t_en, t_re, t_thN, t_thR, t_fin, t_siT, t_siF, t_rt, t_fo, t_as, t_al, t_am, t_at, t_su, t_au, t_ax, t_ay, t_ap, t_ex, t_tg, q_tscons, i4]
    · simp (config := { decide := true }) only [↓reduceIte, q_name, q_int, q_bool, q_bin, q_cmp, q_if, q_from, q_upto, q_subN, q_subC, q_subB, q_subS, q_list, q_tuple, q_comp, q_len, q_call, q_count, q_bname, q_bsub, q_btup, q_tnot, q_tbool, q_tcmp, q_tname, q_tcall, q_tsnA, q_tsnO, q_esnil, q_escons, q_itname, q_itsub, q_itrng, q_itrev, q_itzip, q_itenum, q_nil, q_ok, q_cons, q_asgName, q_asgList, q_asgMul, q_asgTup, q_asgSub, q_aug, q_augSub, q_for, q_while, q_ifs, q_ret, q_app, q_ext, q_freeze, n_name, n_tuple, n_list, n_bin, n_sub, n_call, n_const, n_slice, n_cmp, n_if, n_comp, List.flatMap_cons, List.flatMap_nil, List.append_nil, List.cons_append, List.nil_append, q_rho0, q_upd, q_fnL, q_compRho, updAll, q_tgN, q_tgT, q_asI, q_asL, Option.bind_some, Option.map_some, reduceCtorEq, ne_eq, not_false_eq_true, implies_true, and_self, if_true, if_false, Bool.false_eq_true, true_and, and_true, shD, t_st, t_b2, t_cm, t_ct, t_ifT, t_ifF, t_ls, t_tu, t_co, t_le, t_ca, t_cn, t_cd, t_seT, t_seF, q_cfN, q_cfT, t_no, t_nTT, t_nFF, t_nTF, t_nFT, t_tsAT, t_tsAF, t_tsOT, t_tsOF, t_it, t_zi, t_en, t_re, t_thN, t_thR, t_fin, t_siT, t_siF, t_rt, t_fo, t_as, t_al, t_am, t_at, t_su, t_au, t_ax, t_ay, t_ap, t_ex, t_tg, q_tscons, i5]
    · simp (config := { decide := true }) only [↓reduceIte, q_name, q_int, q_bool, q_bin, q_cmp, q_if, q_from, q_upto, q_subN, q_subC, q_subB, q_subS, q_list, q_tuple, q_comp, q_len, q_call, q_count, q_bname, q_bsub, q_btup, q_tnot, q_tbool, q_tcmp, q_tname, q_tcall, q_tsnA, q_tsnO, q_esnil, q_escons, q_itname, q_itsub, q_itrng, q_itrev, q_itzip, q_itenum, q_nil, q_ok, q_cons, q_asgName, q_asgList, q_asgMul, q_asgTup, q_asgSub, q_aug, q_augSub, q_for, q_while, q_ifs, q_ret, q_app, q_ext, q_freeze, n_name, n_tuple, n_list, n_bin, n_sub, n_call, n_const, n_slice, n_cmp, n_if, n_comp, List.flatMap_cons, List.flatMap_nil, List.append_nil, List.cons_append, List.nil_append, q_rho0, q_upd, q_fnL, q_compRho, updAll, q_tgN, q_tgT, q_asI, q_asL, Option.bind_some, Option.map_some, reduceCtorEq, ne_eq, not_false_eq_true, implies_true, and_self, if_true, if_false, Bool.false_eq_true, true_and, and_true, shD, t_st, t_b2, t_cm, t_ct, t_ifT, t_ifF, t_ls, t_tu, t_co, t_le, t_ca, t_cn, t_cd, t_seT, t_seF, q_cfN, q_cfT, t_no, t_nTT, t_nFF, t_nTF, t_nFT, t_tsAT, t_tsAF, t_tsOT, t_tsOF, t_it, t_zi, t_en, t_re, t_thN, t_thR, t_fin, t_siT, t_siF, t_rt, t_fo, t_as, t_al, t_am, t_at, t_su, t_au, t_ax, t_ay, t_ap, t_ex, t_tg, q_tscons]
    · obtain ⟨⟨i1, i2, i3, i4, i5⟩, ok', i6⟩ := hi
      have hw := ok'.w
      have hf := ok'.f
      have hpl := ok'.p
      generalize hs' : whileF (mGo ps x) (mStep ps) ps.length s = s' at *
      have b1 : s'.1.length ≤ big := by unfold big; (first | lia | omega)
      have b2 : s'.2.1.length ≤ big := by unfold big; (first | lia | omega)
      have hq := mOk_leaf (leaf := x) ok
      have hm : mLeaf ps s x = (s'.1 ++ [x], s'.2.1 ++ [true], s'.2.2) := by simp only [mLeaf, hs']
      rw [hm] at hq ⊢
      simp (config := { decide := true }) only [↓reduceIte, q_name, q_int, q_bool, q_bin, q_cmp, q_if, q_from, q_upto, q_subN, q_subC, q_subB, q_subS, q_list, q_tuple, q_comp, q_len, q_call, q_count, q_bname, q_bsub, q_btup, q_tnot, q_tbool, q_tcmp, q_tname, q_tcall, q_tsnA, q_tsnO, q_esnil, q_escons, q_itname, q_itsub, q_itrng, q_itrev, q_itzip, q_itenum, q_nil, q_ok, q_cons, q_asgName, q_asgList, q_asgMul, q_asgTup, q_asgSub, q_aug, q_augSub, q_for, q_while, q_ifs, q_ret, q_app, q_ext, q_freeze, n_name, n_tuple, n_list, n_bin, n_sub, n_call, n_const, n_slice, n_cmp, n_if, n_comp, List.flatMap_cons, List.flatMap_nil, List.append_nil, List.cons_append, List.nil_append, q_rho0, q_upd, q_fnL, q_compRho, updAll, q_tgN, q_tgT, q_asI, q_asL, Option.bind_some, Option.map_some, reduceCtorEq, ne_eq, not_false_eq_true, implies_true, and_self, if_true, if_false, Bool.false_eq_true, true_and, and_true, shD, t_st, t_b2, t_cm, t_ct, t_ifT, t_ifF, t_ls, t_tu, t_co, t_le, t_ca, t_cn, t_cd, t_seT, t_seF, q_cfN, q_cfT, t_no, t_nTT, t_nFF, t_nTF, t_nFT, t_tsAT, t_tsAF, t_tsOT, t_tsOF, t_it, t_zi, t_en, t_re, t_thN, t_thR, t_fin, t_siT, t_siF, t_rt, t_fo, t_as, t_al, t_am, t_at, t_su, t_au, t_ax, t_ay, t_ap, t_ex, t_tg, q_tscons, MInv, i1, i2, i3, i4, i5, i6, List.length_map, b1, b2]
      refine ⟨⟨?_, ?_⟩, hq⟩ <;> simp
  · simp (config := { decide := true }) only [↓reduceIte, q_name, q_int, q_bool, q_bin, q_cmp, q_if, q_from, q_upto, q_subN, q_subC, q_subB, q_subS, q_list, q_tuple, q_comp, q_len, q_call, q_count, q_bname, q_bsub, q_btup, q_tnot, q_tbool, q_tcmp, q_tname, q_tcall, q_tsnA, q_tsnO, q_esnil, q_escons, q_itname, q_itsub, q_itrng, q_itrev, q_itzip, q_itenum, q_nil, q_ok, q_cons, q_asgName, q_asgList, q_asgMul, q_asgTup, q_asgSub, q_aug, q_augSub, q_for, q_while, q_ifs, q_ret, q_app, q_ext, q_freeze, n_name, n_tuple, n_list, n_bin, n_sub, n_call, n_const, n_slice, n_cmp, n_if, n_comp, List.flatMap_cons, List.flatMap_nil, List.append_nil, List.cons_append, List.nil_append, q_rho0, q_upd, q_fnL, q_compRho, updAll, q_tgN, q_tgT, q_asI, q_asL, Option.bind_some, Option.map_some, reduceCtorEq, ne_eq, not_false_eq_true, implies_true, and_self, if_true, if_false, Bool.false_eq_true, true_and, and_true, shD, t_st, t_b2, t_cm, t_ct, t_ifT, t_ifF, t_ls, t_tu, t_co, t_le, t_ca, t_cn, t_cd, t_seT, t_seF, q_cfN, q_cfT, t_no, t_nTT, t_nFF, t_nTF, t_nFT, t_tsAT, t_tsAF, t_tsOT, t_tsOF, t_it, t_zi, t_en, t_re, t_thN, t_thR, t_fin, t_siT, t_siF, t_rt, t_fo, t_as, t_al, t_am, t_at, t_su, t_au, t_ax, t_ay, t_ap, t_ex, t_tg, q_tscons, MInv, il]
    exact ⟨⟨rfl, rfl, rfl⟩, ⟨rfl, rfl, Nat.zero_le _⟩⟩
  · simp; (first | lia | omega)
  · obtain ⟨⟨i1, i2, i3, i4, i5⟩, ok⟩ := hi
    have hfold : ∀ (l : List Int) (s : MS), (l.map D.int).foldl (fun s d => mLeaf ps s (ofI d)) s = l.foldl (mLeaf ps) s := fun l s => by rw [List.foldl_map]; rfl
    rw [hfold] at i1 i2 i3 ok
    have hme : ls.foldl (mLeaf ps) ([], [], 0) = mEnd ls ps := rfl
    rw [hme] at i1 i2 i3 ok
    have hw := ok.w
    have hf := ok.f
    have hpl := ok.p
    have z0 : (0 : Int) ≤ ((mEnd ls ps).2.2 : Int) := by first | lia | omega
    have b1 : (mEnd ls ps).1.length ≤ big := by unfold big; (first | lia | omega)
    have b2 : (mEnd ls ps).2.1.length ≤ big := by unfold big; (first | lia | omega)
    obtain ⟨r, hr⟩ : ∃ r, (List.drop (mEnd ls ps).2.2 (List.map D.int ps)).length = r := ⟨_, rfl⟩
    have hr2 : r = ps.length - (mEnd ls ps).2.2 := by rw [← hr]; simp
    have b3 : r ≤ big := by unfold big; (first | lia | omega)
    have b4 : r < big := by unfold big; (first | lia | omega)
    have b5 : (0 : Int) ≤ (r : Int) := by first | lia | omega
    simp (config := { decide := true }) only [↓reduceIte, q_name, q_int, q_bool, q_bin, q_cmp, q_if, q_from, q_upto, q_subN, q_subC, q_subB, q_subS, q_list, q_tuple, q_comp, q_len, q_call, q_count, q_bname, q_bsub, q_btup, q_tnot, q_tbool, q_tcmp, q_tname, q_tcall, q_tsnA, q_tsnO, q_esnil, q_escons, q_itname, q_itsub, q_itrng, q_itrev, q_itzip, q_itenum, q_nil, q_ok, q_cons, q_asgName, q_asgList, q_asgMul, q_asgTup, q_asgSub, q_aug, q_augSub, q_for, q_while, q_ifs, q_ret, q_app, q_ext, q_freeze, n_name, n_tuple, n_list, n_bin, n_sub, n_call, n_const, n_slice, n_cmp, n_if, n_comp, List.flatMap_cons, List.flatMap_nil, List.append_nil, List.cons_append, List.nil_append, q_rho0, q_upd, q_fnL, q_compRho, updAll, q_tgN, q_tgT, q_asI, q_asL, Option.bind_some, Option.map_some, reduceCtorEq, ne_eq, not_false_eq_true, implies_true, and_self, if_true, if_false, Bool.false_eq_true, true_and, and_true, shD, t_st, t_b2, t_cm, t_ct, t_ifT, t_ifF, t_ls, t_tu, t_co, t_le, t_ca, t_cn, t_cd, t_seT, t_seF, q_cfN, q_cfT, t_no, t_nTT, t_nFF, t_nTF, t_nFT, t_tsAT, t_tsAF, t_tsOT, t_tsOF, t_it, t_zi, t_en, t_re, t_thN, t_thR, t_fin, t_siT, t_siF, t_rt, t_fo, t_as, t_al, t_am, t_at, t_su, t_au, t_ax, t_ay, t_ap, t_ex, t_tg, q_tscons, Γ_merged, i1, i2, i3, i4, i5, il, fromD, z0, List.length_map, hb, Int.toNat_natCast, hr, φlen, b3, binD, binI, binL, binR, isAdd, isMul, b4, b5, List.length_cons, List.length_nil, b1, b2, flat_rep, List.length_replicate]
    rw [hr2]
    simp [mW, mF, bl, il]
end Mine
end

section
open PySem PySem.W PyProof.Rows PySem.Calls PySem.SeqAt
set_option linter.all false
set_option maxRecDepth 100000
set_option maxHeartbeats 4000000
namespace Mine

noncomputable def pairUp (ws : List Int) : List Int := (List.range (ws.length / 2)).map fun i => ws.getD (2 * i) 0 + ws.getD (2 * i + 1) 0
noncomputable abbrev RS := List (List Bool) × List Int
noncomputable def rStep (ls : List Int) (s : RS) : RS := (s.1 ++ [mF ls s.2], pairUp (mW ls s.2))
noncomputable def rowsF (ls : List Int) : Nat → RS
  | 0 => ([], [])
  | n + 1 => rStep ls (rowsF ls n)

structure ROk (ls : List Int) (k : Nat) (s : RS) : Prop where
  r : s.1.length = k
  p : s.2.length ≤ ls.length
  e : s = rowsF ls k
theorem rOk_step {ls : List Int} {k : Nat} {s : RS} (h : ROk ls k s) : ROk ls (k + 1) (rStep ls s) :=
  ⟨by simp [rStep, h.r], by
    have := h.p
    simp only [rStep, pairUp, List.length_map, List.length_range, mW_len]
    (first | lia | omega), by rw [h.e]; rfl⟩

noncomputable def RInv (ls : List Int) (s : RS) (ρ : Rho) : Prop :=
  ρ "rows" = some (.own (s.1.map bl)) ∧ (ρ "packages" = some (.own (s.2.map .int)) ∨ ρ "packages" = some (.st (il s.2))) ∧ ρ "leaves" = some (.st (il ls))

theorem φ_rows_eq (ls : List Int) (n : Nat) (h : ls.length ≤ 10) (hn : n ≤ 20) : φ_package_rows [il ls, .int n] = some (.lst ((rowsF ls n).1.map bl)) := by
  unfold φ_package_rows φdef
  rw [if_pos (by rfl)]
  conv => lhs; arg 1; arg 4; whnf
  have h0 : (0 : Nat) ≤ big := by decide
  have h40 : Int.natAbs (n : Int) < 2 ^ 40 := by first | lia | omega
  simp (config := { decide := true }) only [↓reduceIte, q_name, q_int, q_bool, q_bin, q_cmp, q_if, q_from, q_upto, q_subN, q_subC, q_subB, q_subS, q_list, q_tuple, q_comp, q_len, q_call, q_count, q_bname, q_bsub, q_btup, q_tnot, q_tbool, q_tcmp, q_tname, q_tcall, q_tsnA, q_tsnO, q_esnil, q_escons, q_itname, q_itsub, q_itrng, q_itrev, q_itzip, q_itenum, q_nil, q_ok, q_cons, q_asgName, q_asgList, q_asgMul, q_asgTup, q_asgSub, q_aug, q_augSub, q_for, q_while, q_ifs, q_ret, q_app, q_ext, q_freeze, n_name, n_tuple, n_list, n_bin, n_sub, n_call, n_const, n_slice, n_cmp, n_if, n_comp, List.flatMap_cons, List.flatMap_nil, List.append_nil, List.cons_append, List.nil_append, q_rho0, q_upd, q_fnL, q_compRho, updAll, q_tgN, q_tgT, q_asI, q_asL, Option.bind_some, Option.map_some, reduceCtorEq, ne_eq, not_false_eq_true, implies_true, and_self, if_true, if_false, Bool.false_eq_true, true_and, and_true, shD, t_st, t_b2, t_cm, t_ct, t_ifT, t_ifF, t_ls, t_tu, t_co, t_le, t_ca, t_cn, t_cd, t_seT, t_seF, q_cfN, q_cfT, t_no, t_nTT, t_nFF, t_nTF, t_nFT, t_tsAT, t_tsAF, t_tsOT, t_tsOF, t_it, t_zi, t_en, t_re, t_thN, t_thR, t_fin, t_siT, t_siF, t_rt, t_fo, t_as, t_al, t_am, t_at, t_su, t_au, t_ax, t_ay, t_ap, t_ex, t_tg, q_tscons, Γ_package_rows, rangeOf, h40, Int.toNat_natCast, List.length_nil]
  refine (loop_okI (fun k s ρ => RInv ls s ρ ∧ ROk ls k s) (fun s _ => rStep ls s) 70 n 0 ([], []) (by simp [rangeD]) (fun m k s ρ d hd hk hi => ?_) ?_ ?_).bind fun ρ' hi => ?_
  · obtain ⟨⟨i1, i2, i3⟩, ok⟩ := hi
    have hp := ok.p
    have hr := ok.r
    have b1 : s.1.length ≤ big := by unfold big; (first | lia | omega)
    have hm := φ_merged_eq ls s.2 (by first | lia | omega) (by first | lia | omega)
    obtain ⟨W, hW⟩ : ∃ W, mW ls s.2 = W := ⟨_, rfl⟩
    obtain ⟨F, hF⟩ : ∃ F, mF ls s.2 = F := ⟨_, rfl⟩
    have hWl : W.length = ls.length + s.2.length := hW ▸ mW_len ls s.2
    have hst : rStep ls s = (s.1 ++ [F], pairUp W) := by simp only [rStep, hW, hF]
    rw [hW, hF] at hm
    have ok' := rOk_step ok
    rw [hst] at ok' ⊢
    have b2 : W.length ≤ big := by unfold big; (first | lia | omega)
    have hl40 : ((W.length : Int) - 1).natAbs < 2 ^ 40 := by first | lia | omega
    have hcnt : (((W.length : Int) - 1 + 1) / 2).toNat = W.length / 2 := by first | lia | omega
    have hz : (0 : Int) = 0 := rfl
    simp only [il, bl] at hm i3
    have hrl : (rangeD 0 2 (W.length / 2)).length ≤ big := by simp [rangeD]; unfold big; (first | lia | omega)
    rcases i2 with i2 | i2
    all_goals
      try simp only [il] at i2
      simp (config := { decide := true }) only [↓reduceIte, q_name, q_int, q_bool, q_bin, q_cmp, q_if, q_from, q_upto, q_subN, q_subC, q_subB, q_subS, q_list, q_tuple, q_comp, q_len, q_call, q_count, q_bname, q_bsub, q_btup, q_tnot, q_tbool, q_tcmp, q_tname, q_tcall, q_tsnA, q_tsnO, q_esnil, q_escons, q_itname, q_itsub, q_itrng, q_itrev, q_itzip, q_itenum, q_nil, q_ok, q_cons, q_asgName, q_asgList, q_asgMul, q_asgTup, q_asgSub, q_aug, q_augSub, q_for, q_while, q_ifs, q_ret, q_app, q_ext, q_freeze, n_name, n_tuple, n_list, n_bin, n_sub, n_call, n_const, n_slice, n_cmp, n_if, n_comp, List.flatMap_cons, List.flatMap_nil, List.append_nil, List.cons_append, List.nil_append, q_rho0, q_upd, q_fnL, q_compRho, updAll, q_tgN, q_tgT, q_asI, q_asL, Option.bind_some, Option.map_some, reduceCtorEq, ne_eq, not_false_eq_true, implies_true, and_self, if_true, if_false, Bool.false_eq_true, true_and, and_true, shD, t_st, t_b2, t_cm, t_ct, t_ifT, t_ifF, t_ls, t_tu, t_co, t_le, t_ca, t_cn, t_cd, t_seT, t_seF, q_cfN, q_cfT, t_no, t_nTT, t_nFF, t_nTF, t_nFT, t_tsAT, t_tsAF, t_tsOT, t_tsOF, t_it, t_zi, t_en, t_re, t_thN, t_thR, t_fin, t_siT, t_siF, t_rt, t_fo, t_as, t_al, t_am, t_at, t_su, t_au, t_ax, t_ay, t_ap, t_ex, t_tg, q_tscons, Γ_package_rows, i1, i2, i3, hm, φlen, List.length_map, b1, b2, binD, binI, binL, binR, isAdd, isMul, rangeOf, hl40, hcnt, hrl, bl]
      rw [comp_map (g := fun d => .int (W.getD (ofI d).toNat 0 + W.getD ((ofI d).toNat + 1) 0)) (fun d hd => ?_)]
      rotate_left
      · obtain ⟨i, hi, rfl⟩ := List.mem_map.mp hd
        have hi2 : i < W.length / 2 := by simpa using hi
        have e0 : (0 + (i : Int) * 2) = ((2 * i : Nat) : Int) := by first | lia | omega
        have e1 : (W.map D.int)[2 * i]? = some (.int (W.getD (2 * i) 0)) := get_map (by first | lia | omega)
        have e2 : (W.map D.int)[2 * i + 1]? = some (.int (W.getD (2 * i + 1) 0)) := get_map (by first | lia | omega)
        have e3 : (0 : Int) ≤ ((2 * i : Nat) : Int) := by first | lia | omega
        have e4 : (0 : Int) ≤ ((2 * i : Nat) : Int) + 1 := by first | lia | omega
        have e5 : (((2 * i : Nat) : Int) + 1).toNat = 2 * i + 1 := by first | lia | omega
        rw [e0]
        simp (config := { decide := true }) only [↓reduceIte, q_name, q_int, q_bool, q_bin, q_cmp, q_if, q_from, q_upto, q_subN, q_subC, q_subB, q_subS, q_list, q_tuple, q_comp, q_len, q_call, q_count, q_bname, q_bsub, q_btup, q_tnot, q_tbool, q_tcmp, q_tname, q_tcall, q_tsnA, q_tsnO, q_esnil, q_escons, q_itname, q_itsub, q_itrng, q_itrev, q_itzip, q_itenum, q_nil, q_ok, q_cons, q_asgName, q_asgList, q_asgMul, q_asgTup, q_asgSub, q_aug, q_augSub, q_for, q_while, q_ifs, q_ret, q_app, q_ext, q_freeze, n_name, n_tuple, n_list, n_bin, n_sub, n_call, n_const, n_slice, n_cmp, n_if, n_comp, List.flatMap_cons, List.flatMap_nil, List.append_nil, List.cons_append, List.nil_append, q_rho0, q_upd, q_fnL, q_compRho, updAll, q_tgN, q_tgT, q_asI, q_asL, Option.bind_some, Option.map_some, reduceCtorEq, ne_eq, not_false_eq_true, implies_true, and_self, if_true, if_false, Bool.false_eq_true, true_and, and_true, shD, t_st, t_b2, t_cm, t_ct, t_ifT, t_ifF, t_ls, t_tu, t_co, t_le, t_ca, t_cn, t_cd, t_seT, t_seF, q_cfN, q_cfT, t_no, t_nTT, t_nFF, t_nTF, t_nFT, t_tsAT, t_tsAF, t_tsOT, t_tsOF, t_it, t_zi, t_en, t_re, t_thN, t_thR, t_fin, t_siT, t_siF, t_rt, t_fo, t_as, t_al, t_am, t_at, t_su, t_au, t_ax, t_ay, t_ap, t_ex, t_tg, q_tscons, idxD, List.length_map, b2, e1, e2, e3, e4, e5, Int.toNat_natCast, binD, binI, binL, binR, isAdd, isMul, ofI]
      · simp (config := { decide := true }) only [↓reduceIte, q_name, q_int, q_bool, q_bin, q_cmp, q_if, q_from, q_upto, q_subN, q_subC, q_subB, q_subS, q_list, q_tuple, q_comp, q_len, q_call, q_count, q_bname, q_bsub, q_btup, q_tnot, q_tbool, q_tcmp, q_tname, q_tcall, q_tsnA, q_tsnO, q_esnil, q_escons, q_itname, q_itsub, q_itrng, q_itrev, q_itzip, q_itenum, q_nil, q_ok, q_cons, q_asgName, q_asgList, q_asgMul, q_asgTup, q_asgSub, q_aug, q_augSub, q_for, q_while, q_ifs, q_ret, q_app, q_ext, q_freeze, n_name, n_tuple, n_list, n_bin, n_sub, n_call, n_const, n_slice, n_cmp, n_if, n_comp, List.flatMap_cons, List.flatMap_nil, List.append_nil, List.cons_append, List.nil_append, q_rho0, q_upd, q_fnL, q_compRho, updAll, q_tgN, q_tgT, q_asI, q_asL, Option.bind_some, Option.map_some, reduceCtorEq, ne_eq, not_false_eq_true, implies_true, and_self, if_true, if_false, Bool.false_eq_true, true_and, and_true, shD, t_st, t_b2, t_cm, t_ct, t_ifT, t_ifF, t_ls, t_tu, t_co, t_le, t_ca, t_cn, t_cd, t_seT, t_seF, q_cfN, q_cfT, t_no, t_nTT, t_nFF, t_nTF, t_nFT, t_tsAT, t_tsAF, t_tsOT, t_tsOF, t_it, t_zi, t_en, t_re, t_thN, t_thR, t_fin, t_siT, t_siF, t_rt, t_fo, t_as, t_al, t_am, t_at, t_su, t_au, t_ax, t_ay, t_ap, t_ex, t_tg, q_tscons, RInv, i3, il]
        refine ⟨⟨by simp [bl], .inr ?_⟩, ok'⟩
        simp only [pairUp, rangeD, List.map_map]
        congr 3
        refine List.map_congr_left fun i _ => ?_
        show D.int _ = D.int _
        have e0 : (ofI (D.int (0 + (i : Int) * 2))).toNat = 2 * i := by simp only [ofI]; (first | lia | omega)
        rw [e0]
  · simp (config := { decide := true }) only [↓reduceIte, q_name, q_int, q_bool, q_bin, q_cmp, q_if, q_from, q_upto, q_subN, q_subC, q_subB, q_subS, q_list, q_tuple, q_comp, q_len, q_call, q_count, q_bname, q_bsub, q_btup, q_tnot, q_tbool, q_tcmp, q_tname, q_tcall, q_tsnA, q_tsnO, q_esnil, q_escons, q_itname, q_itsub, q_itrng, q_itrev, q_itzip, q_itenum, q_nil, q_ok, q_cons, q_asgName, q_asgList, q_asgMul, q_asgTup, q_asgSub, q_aug, q_augSub, q_for, q_while, q_ifs, q_ret, q_app, q_ext, q_freeze, n_name, n_tuple, n_list, n_bin, n_sub, n_call, n_const, n_slice, n_cmp, n_if, n_comp, List.flatMap_cons, List.flatMap_nil, List.append_nil, List.cons_append, List.nil_append, q_rho0, q_upd, q_fnL, q_compRho, updAll, q_tgN, q_tgT, q_asI, q_asL, Option.bind_some, Option.map_some, reduceCtorEq, ne_eq, not_false_eq_true, implies_true, and_self, if_true, if_false, Bool.false_eq_true, true_and, and_true, shD, t_st, t_b2, t_cm, t_ct, t_ifT, t_ifF, t_ls, t_tu, t_co, t_le, t_ca, t_cn, t_cd, t_seT, t_seF, q_cfN, q_cfT, t_no, t_nTT, t_nFF, t_nTF, t_nFT, t_tsAT, t_tsAF, t_tsOT, t_tsOF, t_it, t_zi, t_en, t_re, t_thN, t_thR, t_fin, t_siT, t_siF, t_rt, t_fo, t_as, t_al, t_am, t_at, t_su, t_au, t_ax, t_ay, t_ap, t_ex, t_tg, q_tscons, RInv, il]
    exact ⟨⟨rfl, .inl rfl⟩, ⟨rfl, Nat.zero_le _, rfl⟩⟩
  · simp [rangeD]; (first | lia | omega)
  · obtain ⟨⟨i1, i2, i3⟩, ok⟩ := hi
    have he := ok.e
    rw [he] at i1
    simp (config := { decide := true }) only [↓reduceIte, q_name, q_int, q_bool, q_bin, q_cmp, q_if, q_from, q_upto, q_subN, q_subC, q_subB, q_subS, q_list, q_tuple, q_comp, q_len, q_call, q_count, q_bname, q_bsub, q_btup, q_tnot, q_tbool, q_tcmp, q_tname, q_tcall, q_tsnA, q_tsnO, q_esnil, q_escons, q_itname, q_itsub, q_itrng, q_itrev, q_itzip, q_itenum, q_nil, q_ok, q_cons, q_asgName, q_asgList, q_asgMul, q_asgTup, q_asgSub, q_aug, q_augSub, q_for, q_while, q_ifs, q_ret, q_app, q_ext, q_freeze, n_name, n_tuple, n_list, n_bin, n_sub, n_call, n_const, n_slice, n_cmp, n_if, n_comp, List.flatMap_cons, List.flatMap_nil, List.append_nil, List.cons_append, List.nil_append, q_rho0, q_upd, q_fnL, q_compRho, updAll, q_tgN, q_tgT, q_asI, q_asL, Option.bind_some, Option.map_some, reduceCtorEq, ne_eq, not_false_eq_true, implies_true, and_self, if_true, if_false, Bool.false_eq_true, true_and, and_true, shD, t_st, t_b2, t_cm, t_ct, t_ifT, t_ifF, t_ls, t_tu, t_co, t_le, t_ca, t_cn, t_cd, t_seT, t_seF, q_cfN, q_cfT, t_no, t_nTT, t_nFF, t_nTF, t_nFT, t_tsAT, t_tsAF, t_tsOT, t_tsOF, t_it, t_zi, t_en, t_re, t_thN, t_thR, t_fin, t_siT, t_siF, t_rt, t_fo, t_as, t_al, t_am, t_at, t_su, t_au, t_ax, t_ay, t_ap, t_ex, t_tg, q_tscons, i1]
end Mine
end

section
open PySem PySem.W PyProof.Rows PySem.Calls PySem.SeqAt
set_option linter.all false
set_option maxRecDepth 100000
set_option maxHeartbeats 4000000
namespace Mine

theorem fm_congr {α β : Type} {f g : α → Option β} : ∀ {l : List α}, (∀ x ∈ l, f x = g x) → l.filterMap f = l.filterMap g
  | [], _ => rfl
  | x :: l, h => by
    rw [List.filterMap_cons, List.filterMap_cons, h x List.mem_cons_self, fm_congr fun y hy => h y (List.mem_cons_of_mem _ hy)]
noncomputable def ordL (cs : List Int) : List IP := (List.range cs.length).filterMap fun i => if 0 < cs.getD i 0 then some (cs.getD i 0, (i : Int)) else none
theorem ordL_len (cs : List Int) : (ordL cs).length ≤ cs.length := by
  have := List.length_filterMap_le (fun i => if 0 < cs.getD i 0 then some (cs.getD i 0, (i : Int)) else none) (List.range cs.length)
  simpa [ordL] using this
theorem ordL_nodup (cs : List Int) : (ordL cs).Nodup := by
  unfold ordL List.Nodup
  rw [List.pairwise_filterMap]
  refine List.Pairwise.imp ?_ List.pairwise_lt_range
  intro i j hij a ha b hb q
  subst q
  split at ha
  · cases ha
    split at hb
    · simp only [Option.some.injEq, Prod.mk.injEq] at hb
      (first | lia | omega)
    · cases hb
  · cases ha
theorem ordL_mem {cs : List Int} {p : IP} (h : p ∈ ordL cs) : 0 < p.1 ∧ 0 ≤ p.2 ∧ p.2.toNat < cs.length ∧ p.1 = cs.getD p.2.toNat 0 := by
  unfold ordL at h
  obtain ⟨i, hi, e⟩ := List.mem_filterMap.mp h
  split at e
  · cases e
    rename_i q
    exact ⟨q, by simp, by simpa using hi, by simp⟩
  · cases e
noncomputable def ordF (cs : List Int) : List IP := sortP (ordL cs)
theorem ordF_len (cs : List Int) : (ordF cs).length ≤ cs.length := by rw [ordF, (sortP_perm _).length_eq]; exact ordL_len cs
theorem ordF_mem {cs : List Int} {p : IP} (h : p ∈ ordF cs) : 0 < p.1 ∧ 0 ≤ p.2 ∧ p.2.toNat < cs.length ∧ p.1 = cs.getD p.2.toNat 0 := ordL_mem ((sortP_perm _).mem_iff.mp h)

/-- the comprehension that lists what counts -/
theorem ord_comp {f : D → Option (Option D)} {cs : List Int} (h : ∀ i, i < cs.length → f (.int (0 + (i : Int) * 1)) = some (if 0 < cs.getD i 0 then some (.tup [.int (cs.getD i 0), .int i]) else none)) :
    compGo f (rangeD 0 1 cs.length) = some ((ordL cs).map pairD) := by
  rw [comp_eq (g := fun d => if 0 < cs.getD (ofI d).toNat 0 then some (.tup [.int (cs.getD (ofI d).toNat 0), d]) else none)]
  · unfold rangeD ordL
    rw [List.filterMap_map, List.map_filterMap]
    congr 1
    refine fm_congr fun i _ => ?_
    have e : (0 + (i : Int) * 1) = (i : Int) := by first | lia | omega
    simp only [Function.comp, ofI, e, Int.toNat_natCast]
    split <;> rfl
  · intro d hd
    obtain ⟨i, hi, rfl⟩ := List.mem_map.mp hd
    have e : (0 + (i : Int) * 1) = (i : Int) := by first | lia | omega
    rw [h i (by simpa using hi)]
    simp only [ofI, e, Int.toNat_natCast]

theorem sorted_eq {cs : List Int} (h : cs.length ≤ 50) : φsorted [.lst ((ordL cs).map pairD)] = some (.lst ((ordF cs).map pairD)) := by
  have hl := ordL_len cs
  simp only [φsorted, pairsD_map, Option.bind_some]
  rw [if_pos ⟨by first | lia | omega, ordL_nodup cs⟩]
  rfl

/-- the tree's nodes: a weight and the symbols below -/
noncomputable abbrev Nd := Int × List Int
noncomputable def ndD (x : Nd) : D := .tup [.int x.1, il x.2]
noncomputable abbrev TT := Int × List Int × Nat × Nat
noncomputable abbrev TS := List Int × List Nd × Nat × Nat
noncomputable def tLeft (lv jd : List Nd) (lf tr : Nat) : Bool := decide (tr = jd.length) || (decide (lf < lv.length) && decide ((lv.getD lf (0, [])).1 ≤ (jd.getD tr (0, [])).1))
noncomputable def tTurn (lv jd : List Nd) (t : TT) : TT :=
  if tLeft lv jd t.2.2.1 t.2.2.2 then (t.1 + (lv.getD t.2.2.1 (0, [])).1, t.2.1 ++ (lv.getD t.2.2.1 (0, [])).2, t.2.2.1 + 1, t.2.2.2)
  else (t.1 + (jd.getD t.2.2.2 (0, [])).1, t.2.1 ++ (jd.getD t.2.2.2 (0, [])).2, t.2.2.1, t.2.2.2 + 1)
noncomputable def incAt (l : List Int) (x : Int) : List Int := l.set x.toNat (l.getD x.toNat 0 + 1)
noncomputable def tPair (lv : List Nd) (s : TS) : TT := tTurn lv s.2.1 (tTurn lv s.2.1 (0, [], s.2.2.1, s.2.2.2))
noncomputable def tStep (lv : List Nd) (s : TS) : TS :=
  let r := tPair lv s
  (r.2.1.foldl incAt s.1, s.2.1 ++ [(r.1, r.2.1)], r.2.2.1, r.2.2.2)
noncomputable def tGo (lv : List Nd) (s : TS) : Bool := decide (1 < (lv.length : Int) - s.2.2.1 + s.2.1.length - s.2.2.2)
noncomputable def leavesF (o : List IP) : List Nd := o.map fun p => (p.1, [p.2])
noncomputable def ls0 (cs : List Int) : List Int := if (ordF cs).length = 1 then (List.replicate cs.length 0).set ((ordF cs).getD 0 (0, 0)).2.toNat 1 else List.replicate cs.length 0
noncomputable def treeF (cs : List Int) : List Int := (whileF (tGo (leavesF (ordF cs))) (tStep (leavesF (ordF cs))) (ordF cs).length (ls0 cs, [], 0, 0)).1

/-- the turn's own facts -/
structure TTok (n : Nat) (lv jd : List Nd) (i : Nat) (t : TT) : Prop where
  sum : t.2.2.1 + t.2.2.2 = 2 * jd.length + i
  lf : t.2.2.1 ≤ lv.length
  tr : t.2.2.2 ≤ jd.length
  len : t.2.1.length ≤ i * 2 ^ jd.length
  rng : ∀ x ∈ t.2.1, 0 ≤ x ∧ x.toNat < n
structure TSok (n : Nat) (lv : List Nd) (s : TS) : Prop where
  sum : s.2.2.1 + s.2.2.2 = 2 * s.2.1.length
  lf : s.2.2.1 ≤ lv.length
  tr : s.2.2.2 ≤ s.2.1.length
  jl : s.2.1.length ≤ lv.length
  len : ∀ x ∈ s.2.1, x.2.length ≤ 2 ^ s.2.1.length
  rng : ∀ x ∈ s.2.1, ∀ y ∈ x.2, 0 ≤ y ∧ y.toNat < n
  ll : s.1.length = n
structure LvOk (n : Nat) (lv : List Nd) : Prop where
  one : ∀ x ∈ lv, x.2.length ≤ 1
  rng : ∀ x ∈ lv, ∀ y ∈ x.2, 0 ≤ y ∧ y.toNat < n

theorem getD_mem {α : Type} {l : List α} {i : Nat} {d : α} (h : i < l.length) : l.getD i d ∈ l := by
  simp [h]
theorem tLeft_lt {n : Nat} {lv jd : List Nd} {i : Nat} {t : TT} (h : TTok n lv jd i t) (hi : i < 2) (hg : jd.length + 1 < lv.length) : (tLeft lv jd t.2.2.1 t.2.2.2 = true → t.2.2.1 < lv.length) ∧ (tLeft lv jd t.2.2.1 t.2.2.2 = false → t.2.2.2 < jd.length) := by
  have h1 := h.sum
  have h2 := h.lf
  have h3 := h.tr
  constructor
  · intro e
    simp only [tLeft, Bool.or_eq_true, Bool.and_eq_true, decide_eq_true_eq] at e
    (first | lia | omega)
  · intro e
    simp only [tLeft, Bool.or_eq_false_iff, decide_eq_false_iff_not] at e
    (first | lia | omega)
theorem tt_step {n : Nat} {lv jd : List Nd} (hL : LvOk n lv) (hj1 : ∀ x ∈ jd, x.2.length ≤ 2 ^ jd.length) (hj2 : ∀ x ∈ jd, ∀ y ∈ x.2, 0 ≤ y ∧ y.toNat < n) {i : Nat} {t : TT} (h : TTok n lv jd i t) (hi : i < 2) (hg : jd.length + 1 < lv.length) : TTok n lv jd (i + 1) (tTurn lv jd t) := by
  have h1 := h.sum
  have h2 := h.lf
  have h3 := h.tr
  have h4 := h.len
  obtain ⟨q1, q2⟩ := tLeft_lt h hi hg
  have hp : 1 ≤ 2 ^ jd.length := Nat.one_le_two_pow
  have hmul : (i + 1) * 2 ^ jd.length = i * 2 ^ jd.length + 2 ^ jd.length := by rw [Nat.add_mul, Nat.one_mul]
  unfold tTurn
  cases e : tLeft lv jd t.2.2.1 t.2.2.2 with
  | true =>
    have hm := getD_mem (d := ((0 : Int), ([] : List Int))) (q1 e)
    have ho := hL.one _ hm
    simp only [if_true]
    refine ⟨by simp only; (first | lia | omega), q1 e, h3, by simp only [List.length_append]; (first | lia | omega), fun x hx => ?_⟩
    rcases List.mem_append.mp hx with hx | hx
    · exact h.rng x hx
    · exact hL.rng _ hm x hx
  | false =>
    have hm := getD_mem (d := ((0 : Int), ([] : List Int))) (q2 e)
    have ho := hj1 _ hm
    simp only [Bool.false_eq_true, if_false]
    refine ⟨by simp only; (first | lia | omega), h2, q2 e, by simp only [List.length_append]; (first | lia | omega), fun x hx => ?_⟩
    rcases List.mem_append.mp hx with hx | hx
    · exact h.rng x hx
    · exact hj2 _ hm x hx

theorem ts_go {n : Nat} {lv : List Nd} {s : TS} (h : TSok n lv s) : tGo lv s = decide (s.2.1.length + 1 < lv.length) := by
  have h1 := h.sum
  have h2 := h.lf
  have h3 := h.tr
  unfold tGo
  congr 1
  apply propext
  (first | lia | omega)
theorem inc_len (l : List Int) (ms : List Int) : (ms.foldl incAt l).length = l.length := by
  induction ms generalizing l with
  | nil => rfl
  | cons m ms ih => rw [List.foldl_cons, ih]; simp [incAt]
theorem ts_pair {n : Nat} {lv : List Nd} (hL : LvOk n lv) {s : TS} (h : TSok n lv s) (hg : s.2.1.length + 1 < lv.length) : TTok n lv s.2.1 2 (tPair lv s) := by
  have t0 : TTok n lv s.2.1 0 (0, [], s.2.2.1, s.2.2.2) := ⟨by simpa using h.sum, h.lf, h.tr, by simp, fun x hx => nomatch hx⟩
  exact tt_step hL h.len h.rng (tt_step hL h.len h.rng t0 (by first | lia | omega) hg) (by first | lia | omega) hg
theorem ts_step {n : Nat} {lv : List Nd} (hL : LvOk n lv) {s : TS} (h : TSok n lv s) (hg : s.2.1.length + 1 < lv.length) : TSok n lv (tStep lv s) := by
  have t2 := ts_pair hL h hg
  have e : 2 ^ (s.2.1.length + 1) = 2 * 2 ^ s.2.1.length := by rw [Nat.pow_succ, Nat.mul_comm]
  have hs := t2.sum
  have hl := t2.len
  refine ⟨?_, t2.lf, ?_, ?_, fun x hx => ?_, fun x hx => ?_, by simp only [tStep, inc_len]; exact h.ll⟩
  · simp only [tStep, List.length_append, List.length_cons, List.length_nil]; (first | lia | omega)
  · have := t2.tr
    simp only [tStep, List.length_append, List.length_cons, List.length_nil]; (first | lia | omega)
  · simp only [tStep, List.length_append, List.length_cons, List.length_nil]; (first | lia | omega)
  · simp only [tStep, List.length_append, List.length_cons, List.length_nil] at hx ⊢
    rw [Nat.zero_add, e]
    rcases List.mem_append.mp hx with hx | hx
    · have := h.len x hx; (first | lia | omega)
    · obtain rfl : x = _ := by simpa using hx
      exact hl
  · simp only [tStep] at hx
    rcases List.mem_append.mp hx with hx | hx
    · exact h.rng x hx
    · obtain rfl : x = _ := by simpa using hx
      exact t2.rng
theorem t_done {n : Nat} {lv : List Nd} (hL : LvOk n lv) : ∀ (j : Nat) {s : TS}, TSok n lv s → lv.length ≤ s.2.1.length + j + 1 → tGo lv (whileF (tGo lv) (tStep lv) j s) = false
  | 0, s, h, hj => by
    show tGo lv s = false
    rw [ts_go h]
    simp; (first | lia | omega)
  | j + 1, s, h, hj => by
    unfold whileF
    cases e : tGo lv s with
    | false => simpa using e
    | true =>
      simp only [if_true]
      rw [ts_go h] at e
      have hg : s.2.1.length + 1 < lv.length := by simpa using e
      exact t_done hL j (ts_step hL h hg) (by simp only [tStep, List.length_append, List.length_cons, List.length_nil]; (first | lia | omega))
theorem leaves_ok {cs : List Int} : LvOk cs.length (leavesF (ordF cs)) := by
  constructor
  · intro x hx
    obtain ⟨p, _, rfl⟩ := List.mem_map.mp hx
    exact Nat.le_refl _
  · intro x hx y hy
    obtain ⟨p, hp, rfl⟩ := List.mem_map.mp hx
    obtain rfl : y = p.2 := by simpa using hy
    have := ordF_mem hp
    exact ⟨this.2.1, this.2.2.1⟩
theorem ls0_len (cs : List Int) : (ls0 cs).length = cs.length := by unfold ls0; split <;> simp
end Mine
end

section
open PySem PySem.W PyProof.Rows PySem.Calls PySem.SeqAt
set_option linter.all false
set_option maxRecDepth 100000
set_option maxHeartbeats 4000000
namespace Mine

noncomputable def TInv (lv : List Nd) (s : TS) (ρ : Rho) : Prop :=
  ρ "lengths" = some (.own (s.1.map .int)) ∧ ρ "joined" = some (.own (s.2.1.map ndD)) ∧ ρ "leaf" = some (.st (.int s.2.2.1)) ∧ ρ "tree" = some (.st (.int s.2.2.2)) ∧ ρ "leaves" = some (.st (.lst (lv.map ndD)))
noncomputable def TTInv (lv : List Nd) (ls : List Int) (jd : List Nd) (t : TT) (ρ : Rho) : Prop :=
  ρ "lengths" = some (.own (ls.map .int)) ∧ ρ "joined" = some (.own (jd.map ndD)) ∧ ρ "leaf" = some (.st (.int t.2.2.1)) ∧ ρ "tree" = some (.st (.int t.2.2.2)) ∧ ρ "leaves" = some (.st (.lst (lv.map ndD))) ∧ ρ "weight" = some (.st (.int t.1)) ∧ ρ "members" = some (.own (t.2.1.map .int))
theorem get_nd {l : List Nd} {k : Nat} (h : k < l.length) : (l.map ndD)[k]? = some (ndD (l.getD k (0, []))) := by simp [h]

theorem idx0 (x : Nd) : idxD (ndD x) (.int 0) = some (.int x.1) := rfl
theorem idx1 (x : Nd) : idxD (ndD x) (.int 1) = some (.lst (x.2.map .int)) := rfl
theorem idxN {l : List Nd} {k : Nat} (h : k < l.length) (hb : l.length ≤ big) : idxD (.lst (l.map ndD)) (.int k) = some (ndD (l.getD k (0, []))) := by
  simp only [idxD]
  rw [if_pos ⟨by first | lia | omega, by simpa using hb⟩]
  exact get_nd h
theorem len_nd {l : List Nd} (hb : l.length ≤ big) : φlen [.lst (l.map ndD)] = some (.int l.length) := by
  simp only [φlen, List.length_map]
  rw [if_pos hb]
noncomputable def lvD : D → D
  | .tup [.int a, .int b] => ndD (a, [b])
  | d => d
theorem lv_map (o : List IP) : (o.map pairD).map lvD = (leavesF o).map ndD := by
  simp only [leavesF, List.map_map]
  rfl

theorem φ_tree_eq (cs : List Int) (h : cs.length ≤ 8) : φ_tree_lengths [il cs] = some (il (treeF cs)) := by
  unfold φ_tree_lengths φdef
  rw [if_pos (by rfl)]
  conv => lhs; arg 1; arg 4; whnf
  have hb : cs.length ≤ big := by unfold big; (first | lia | omega)
  have hlt : cs.length < big := by unfold big; (first | lia | omega)
  have h40 : Int.natAbs (cs.length : Int) < 2 ^ 40 := by first | lia | omega
  have hn0 : (0 : Int) ≤ (cs.length : Int) := by first | lia | omega
  have hrl : (rangeD 0 1 cs.length).length ≤ big := by simpa [rangeD] using hb
  have hol : (ordF cs).length ≤ cs.length := ordF_len cs
  have hob : (ordF cs).length ≤ big := by first | lia | omega
  simp (config := { decide := true }) only [↓reduceIte, q_name, q_int, q_bool, q_bin, q_cmp, q_if, q_from, q_upto, q_subN, q_subC, q_subB, q_subS, q_list, q_tuple, q_comp, q_len, q_call, q_count, q_bname, q_bsub, q_btup, q_tnot, q_tbool, q_tcmp, q_tname, q_tcall, q_tsnA, q_tsnO, q_esnil, q_escons, q_itname, q_itsub, q_itrng, q_itrev, q_itzip, q_itenum, q_nil, q_ok, q_cons, q_asgName, q_asgList, q_asgMul, q_asgTup, q_asgSub, q_aug, q_augSub, q_for, q_while, q_ret, q_app, q_ext, q_freeze, n_name, n_tuple, n_list, n_bin, n_sub, n_call, n_const, n_slice, n_cmp, n_if, n_comp, List.flatMap_cons, List.flatMap_nil, List.append_nil, List.cons_append, List.nil_append, q_rho0, q_upd, q_fnL, q_compRho, updAll, q_tgN, q_tgT, q_asI, q_asL, Option.bind_some, Option.map_some, reduceCtorEq, ne_eq, not_false_eq_true, implies_true, and_self, if_true, if_false, Bool.false_eq_true, true_and, and_true, shD, t_st, t_b2, t_cm, t_ct, t_ifT, t_ifF, t_ls, t_tu, t_co, t_le, t_ca, t_cn, t_cd, t_seT, t_seF, q_cfN, q_cfT, t_no, t_nTT, t_nFF, t_nTF, t_nFT, t_tsAT, t_tsAF, t_tsOT, t_tsOF, t_it, t_zi, t_en, t_re, t_thN, t_thR, t_fin, t_siT, t_siF, t_rt, t_fo, t_as, t_al, t_am, t_at, t_su, t_au, t_ax, t_ay, t_ap, t_ex, t_tg, q_tscons, Γ_tree_lengths, φlen, il, List.length_map, hb, rangeOf, h40, Int.toNat_natCast, hrl]
  rw [ord_comp (fun i hi => ?_)]
  rotate_left
  · have e0 : (0 + (i : Int) * 1) = (i : Int) := by first | lia | omega
    have e1 : (cs.map D.int)[i]? = some (.int (cs.getD i 0)) := get_map hi
    have e3 : (0 : Int) ≤ (i : Int) := by first | lia | omega
    rw [e0]
    by_cases hq : 0 < cs.getD i 0
    · simp (config := { decide := true }) only [↓reduceIte, q_name, q_int, q_bool, q_bin, q_cmp, q_if, q_from, q_upto, q_subN, q_subC, q_subB, q_subS, q_list, q_tuple, q_comp, q_len, q_call, q_count, q_bname, q_bsub, q_btup, q_tnot, q_tbool, q_tcmp, q_tname, q_tcall, q_tsnA, q_tsnO, q_esnil, q_escons, q_itname, q_itsub, q_itrng, q_itrev, q_itzip, q_itenum, q_nil, q_ok, q_cons, q_asgName, q_asgList, q_asgMul, q_asgTup, q_asgSub, q_aug, q_augSub, q_for, q_while, q_ifs, q_ret, q_app, q_ext, q_freeze, n_name, n_tuple, n_list, n_bin, n_sub, n_call, n_const, n_slice, n_cmp, n_if, n_comp, List.flatMap_cons, List.flatMap_nil, List.append_nil, List.cons_append, List.nil_append, q_rho0, q_upd, q_fnL, q_compRho, updAll, q_tgN, q_tgT, q_asI, q_asL, Option.bind_some, Option.map_some, reduceCtorEq, ne_eq, not_false_eq_true, implies_true, and_self, if_true, if_false, Bool.false_eq_true, true_and, and_true, shD, t_st, t_b2, t_cm, t_ct, t_ifT, t_ifF, t_ls, t_tu, t_co, t_le, t_ca, t_cn, t_cd, t_seT, t_seF, q_cfN, q_cfT, t_no, t_nTT, t_nFF, t_nTF, t_nFT, t_tsAT, t_tsAF, t_tsOT, t_tsOF, t_it, t_zi, t_en, t_re, t_thN, t_thR, t_fin, t_siT, t_siF, t_rt, t_fo, t_as, t_al, t_am, t_at, t_su, t_au, t_ax, t_ay, t_ap, t_ex, t_tg, q_tscons, idxD, List.length_map, hb, e1, e3, Int.toNat_natCast, behindInMarks, cmpD, isEq, isNe, isNi, cmpI, hq, decide_true]
      rfl
    · simp (config := { decide := true }) only [↓reduceIte, q_name, q_int, q_bool, q_bin, q_cmp, q_if, q_from, q_upto, q_subN, q_subC, q_subB, q_subS, q_list, q_tuple, q_comp, q_len, q_call, q_count, q_bname, q_bsub, q_btup, q_tnot, q_tbool, q_tcmp, q_tname, q_tcall, q_tsnA, q_tsnO, q_esnil, q_escons, q_itname, q_itsub, q_itrng, q_itrev, q_itzip, q_itenum, q_nil, q_ok, q_cons, q_asgName, q_asgList, q_asgMul, q_asgTup, q_asgSub, q_aug, q_augSub, q_for, q_while, q_ifs, q_ret, q_app, q_ext, q_freeze, n_name, n_tuple, n_list, n_bin, n_sub, n_call, n_const, n_slice, n_cmp, n_if, n_comp, List.flatMap_cons, List.flatMap_nil, List.append_nil, List.cons_append, List.nil_append, q_rho0, q_upd, q_fnL, q_compRho, updAll, q_tgN, q_tgT, q_asI, q_asL, Option.bind_some, Option.map_some, reduceCtorEq, ne_eq, not_false_eq_true, implies_true, and_self, if_true, if_false, Bool.false_eq_true, true_and, and_true, shD, t_st, t_b2, t_cm, t_ct, t_ifT, t_ifF, t_ls, t_tu, t_co, t_le, t_ca, t_cn, t_cd, t_seT, t_seF, q_cfN, q_cfT, t_no, t_nTT, t_nFF, t_nTF, t_nFT, t_tsAT, t_tsAF, t_tsOT, t_tsOF, t_it, t_zi, t_en, t_re, t_thN, t_thR, t_fin, t_siT, t_siF, t_rt, t_fo, t_as, t_al, t_am, t_at, t_su, t_au, t_ax, t_ay, t_ap, t_ex, t_tg, q_tscons, idxD, List.length_map, hb, e1, e3, Int.toNat_natCast, behindInMarks, cmpD, isEq, isNe, isNi, cmpI, hq, decide_false]
  · simp (config := { decide := true }) only [↓reduceIte, q_name, q_int, q_bool, q_bin, q_cmp, q_if, q_from, q_upto, q_subN, q_subC, q_subB, q_subS, q_list, q_tuple, q_comp, q_len, q_call, q_count, q_bname, q_bsub, q_btup, q_tnot, q_tbool, q_tcmp, q_tname, q_tcall, q_tsnA, q_tsnO, q_esnil, q_escons, q_itname, q_itsub, q_itrng, q_itrev, q_itzip, q_itenum, q_nil, q_ok, q_cons, q_asgName, q_asgList, q_asgMul, q_asgTup, q_asgSub, q_aug, q_augSub, q_for, q_while, q_ret, q_app, q_ext, q_freeze, n_name, n_tuple, n_list, n_bin, n_sub, n_call, n_const, n_slice, n_cmp, n_if, n_comp, List.flatMap_cons, List.flatMap_nil, List.append_nil, List.cons_append, List.nil_append, q_rho0, q_upd, q_fnL, q_compRho, updAll, q_tgN, q_tgT, q_asI, q_asL, Option.bind_some, Option.map_some, reduceCtorEq, ne_eq, not_false_eq_true, implies_true, and_self, if_true, if_false, Bool.false_eq_true, true_and, and_true, shD, t_st, t_b2, t_cm, t_ct, t_ifT, t_ifF, t_ls, t_tu, t_co, t_le, t_ca, t_cn, t_cd, t_seT, t_seF, q_cfN, q_cfT, t_no, t_nTT, t_nFF, t_nTF, t_nFT, t_tsAT, t_tsAF, t_tsOT, t_tsOF, t_it, t_zi, t_en, t_re, t_thN, t_thR, t_fin, t_siT, t_siF, t_rt, t_fo, t_as, t_al, t_am, t_at, t_su, t_au, t_ax, t_ay, t_ap, t_ex, t_tg, q_tscons, sorted_eq (show cs.length ≤ 50 by first | lia | omega), φlen, binD, binI, binL, binR, isAdd, isMul, hlt, hn0, List.length_cons, List.length_nil, List.length_map, hb, Int.toNat_natCast, flat_rep]
    refine Ok.bind (P := fun ρ => ρ "order" = some (.st (.lst ((ordF cs).map pairD))) ∧ ρ "lengths" = some (.own ((ls0 cs).map .int))) ?_ fun ρ1 h1 => ?_
    · by_cases hq : (ordF cs).length = 1
      · obtain ⟨p, hp⟩ := List.length_eq_one_iff.mp hq
        have hm := ordF_mem (cs := cs) (p := p) (by rw [hp]; exact List.mem_cons_self)
        have hm1 := hm.2.1
        have hm2 := hm.2.2.1
        have hls : ls0 cs = (List.replicate cs.length 0).set p.2.toNat 1 := by unfold ls0; rw [if_pos hq, hp]; rfl
        simp (config := { decide := true }) only [↓reduceIte, q_name, q_int, q_bool, q_bin, q_cmp, q_if, q_from, q_upto, q_subN, q_subC, q_subB, q_subS, q_list, q_tuple, q_comp, q_len, q_call, q_count, q_bname, q_bsub, q_btup, q_tnot, q_tbool, q_tcmp, q_tname, q_tcall, q_tsnA, q_tsnO, q_esnil, q_escons, q_itname, q_itsub, q_itrng, q_itrev, q_itzip, q_itenum, q_nil, q_ok, q_cons, q_asgName, q_asgList, q_asgMul, q_asgTup, q_asgSub, q_aug, q_augSub, q_for, q_while, q_ifs, q_ret, q_app, q_ext, q_freeze, n_name, n_tuple, n_list, n_bin, n_sub, n_call, n_const, n_slice, n_cmp, n_if, n_comp, List.flatMap_cons, List.flatMap_nil, List.append_nil, List.cons_append, List.nil_append, q_rho0, q_upd, q_fnL, q_compRho, updAll, q_tgN, q_tgT, q_asI, q_asL, Option.bind_some, Option.map_some, reduceCtorEq, ne_eq, not_false_eq_true, implies_true, and_self, if_true, if_false, Bool.false_eq_true, true_and, and_true, shD, t_st, t_b2, t_cm, t_ct, t_ifT, t_ifF, t_ls, t_tu, t_co, t_le, t_ca, t_cn, t_cd, t_seT, t_seF, q_cfN, q_cfT, t_no, t_nTT, t_nFF, t_nTF, t_nFT, t_tsAT, t_tsAF, t_tsOT, t_tsOF, t_it, t_zi, t_en, t_re, t_thN, t_thR, t_fin, t_siT, t_siF, t_rt, t_fo, t_as, t_al, t_am, t_at, t_su, t_au, t_ax, t_ay, t_ap, t_ex, t_tg, q_tscons, φlen, List.length_map, hp, List.map_cons, List.map_nil, List.length_cons, List.length_nil, cmpD, isEq, isNe, isNi, cmpI, decide_true, idxD, pairD, List.length_replicate, hm1, hm2, hb]
        have e0 : [D.tup [D.int p.1, D.int p.2]][Int.toNat 0]? = some (D.tup [D.int p.1, D.int p.2]) := rfl
        have e1 : [D.int p.1, D.int p.2][Int.toNat 1]? = some (D.int p.2) := rfl
        simp (config := { decide := true }) only [↓reduceIte, q_name, q_int, q_bool, q_bin, q_cmp, q_if, q_from, q_upto, q_subN, q_subC, q_subB, q_subS, q_list, q_tuple, q_comp, q_len, q_call, q_count, q_bname, q_bsub, q_btup, q_tnot, q_tbool, q_tcmp, q_tname, q_tcall, q_tsnA, q_tsnO, q_esnil, q_escons, q_itname, q_itsub, q_itrng, q_itrev, q_itzip, q_itenum, q_nil, q_ok, q_cons, q_asgName, q_asgList, q_asgMul, q_asgTup, q_asgSub, q_aug, q_augSub, q_for, q_while, q_ifs, q_ret, q_app, q_ext, q_freeze, n_name, n_tuple, n_list, n_bin, n_sub, n_call, n_const, n_slice, n_cmp, n_if, n_comp, List.flatMap_cons, List.flatMap_nil, List.append_nil, List.cons_append, List.nil_append, q_rho0, q_upd, q_fnL, q_compRho, updAll, q_tgN, q_tgT, q_asI, q_asL, Option.bind_some, Option.map_some, reduceCtorEq, ne_eq, not_false_eq_true, implies_true, and_self, if_true, if_false, Bool.false_eq_true, true_and, and_true, shD, t_st, t_b2, t_cm, t_ct, t_ifT, t_ifF, t_ls, t_tu, t_co, t_le, t_ca, t_cn, t_cd, t_seT, t_seF, q_cfN, q_cfT, t_no, t_nTT, t_nFF, t_nTF, t_nFT, t_tsAT, t_tsAF, t_tsOT, t_tsOF, t_it, t_zi, t_en, t_re, t_thN, t_thR, t_fin, t_siT, t_siF, t_rt, t_fo, t_as, t_al, t_am, t_at, t_su, t_au, t_ax, t_ay, t_ap, t_ex, t_tg, q_tscons, e0, e1, idxD, List.length_cons, List.length_nil, List.length_replicate, hm1, hm2, hb, hls]
        simp
      · have hq' : ¬ (((ordF cs).length : Int) = 1) := by first | lia | omega
        have hls : ls0 cs = List.replicate cs.length 0 := by unfold ls0; rw [if_neg hq]
        simp (config := { decide := true }) only [↓reduceIte, q_name, q_int, q_bool, q_bin, q_cmp, q_if, q_from, q_upto, q_subN, q_subC, q_subB, q_subS, q_list, q_tuple, q_comp, q_len, q_call, q_count, q_bname, q_bsub, q_btup, q_tnot, q_tbool, q_tcmp, q_tname, q_tcall, q_tsnA, q_tsnO, q_esnil, q_escons, q_itname, q_itsub, q_itrng, q_itrev, q_itzip, q_itenum, q_nil, q_ok, q_cons, q_asgName, q_asgList, q_asgMul, q_asgTup, q_asgSub, q_aug, q_augSub, q_for, q_while, q_ifs, q_ret, q_app, q_ext, q_freeze, n_name, n_tuple, n_list, n_bin, n_sub, n_call, n_const, n_slice, n_cmp, n_if, n_comp, List.flatMap_cons, List.flatMap_nil, List.append_nil, List.cons_append, List.nil_append, q_rho0, q_upd, q_fnL, q_compRho, updAll, q_tgN, q_tgT, q_asI, q_asL, Option.bind_some, Option.map_some, reduceCtorEq, ne_eq, not_false_eq_true, implies_true, and_self, if_true, if_false, Bool.false_eq_true, true_and, and_true, shD, t_st, t_b2, t_cm, t_ct, t_ifT, t_ifF, t_ls, t_tu, t_co, t_le, t_ca, t_cn, t_cd, t_seT, t_seF, q_cfN, q_cfT, t_no, t_nTT, t_nFF, t_nTF, t_nFT, t_tsAT, t_tsAF, t_tsOT, t_tsOF, t_it, t_zi, t_en, t_re, t_thN, t_thR, t_fin, t_siT, t_siF, t_rt, t_fo, t_as, t_al, t_am, t_at, t_su, t_au, t_ax, t_ay, t_ap, t_ex, t_tg, q_tscons, φlen, List.length_map, hob, cmpD, isEq, isNe, isNi, cmpI, hq', decide_false, hls]
        simp
    · obtain ⟨i1, i2⟩ := h1
      simp (config := { decide := true }) only [↓reduceIte, q_name, q_int, q_bool, q_bin, q_cmp, q_if, q_from, q_upto, q_subN, q_subC, q_subB, q_subS, q_list, q_tuple, q_comp, q_len, q_call, q_count, q_bname, q_bsub, q_btup, q_tnot, q_tbool, q_tcmp, q_tname, q_tcall, q_tsnA, q_tsnO, q_esnil, q_escons, q_itname, q_itsub, q_itrng, q_itrev, q_itzip, q_itenum, q_nil, q_ok, q_cons, q_asgName, q_asgList, q_asgMul, q_asgTup, q_asgSub, q_aug, q_augSub, q_for, q_while, q_ifs, q_ret, q_app, q_ext, q_freeze, n_name, n_tuple, n_list, n_bin, n_sub, n_call, n_const, n_slice, n_cmp, n_if, n_comp, List.flatMap_cons, List.flatMap_nil, List.append_nil, List.cons_append, List.nil_append, q_rho0, q_upd, q_fnL, q_compRho, updAll, q_tgN, q_tgT, q_asI, q_asL, Option.bind_some, Option.map_some, reduceCtorEq, ne_eq, not_false_eq_true, implies_true, and_self, if_true, if_false, Bool.false_eq_true, true_and, and_true, shD, t_st, t_b2, t_cm, t_ct, t_ifT, t_ifF, t_ls, t_tu, t_co, t_le, t_ca, t_cn, t_cd, t_seT, t_seF, q_cfN, q_cfT, t_no, t_nTT, t_nFF, t_nTF, t_nFT, t_tsAT, t_tsAF, t_tsOT, t_tsOF, t_it, t_zi, t_en, t_re, t_thN, t_thR, t_fin, t_siT, t_siF, t_rt, t_fo, t_as, t_al, t_am, t_at, t_su, t_au, t_ax, t_ay, t_ap, t_ex, t_tg, q_tscons, i1, List.length_map, hob]
      rw [comp_map (g := lvD) (fun d hd => ?_)]
      rotate_left
      · obtain ⟨p, hp, rfl⟩ := List.mem_map.mp hd
        simp (config := { decide := true }) only [↓reduceIte, q_name, q_int, q_bool, q_bin, q_cmp, q_if, q_from, q_upto, q_subN, q_subC, q_subB, q_subS, q_list, q_tuple, q_comp, q_len, q_call, q_count, q_bname, q_bsub, q_btup, q_tnot, q_tbool, q_tcmp, q_tname, q_tcall, q_tsnA, q_tsnO, q_esnil, q_escons, q_itname, q_itsub, q_itrng, q_itrev, q_itzip, q_itenum, q_nil, q_ok, q_cons, q_asgName, q_asgList, q_asgMul, q_asgTup, q_asgSub, q_aug, q_augSub, q_for, q_while, q_ifs, q_ret, q_app, q_ext, q_freeze, n_name, n_tuple, n_list, n_bin, n_sub, n_call, n_const, n_slice, n_cmp, n_if, n_comp, List.flatMap_cons, List.flatMap_nil, List.append_nil, List.cons_append, List.nil_append, q_rho0, q_upd, q_fnL, q_compRho, updAll, q_tgN, q_tgT, q_asI, q_asL, Option.bind_some, Option.map_some, reduceCtorEq, ne_eq, not_false_eq_true, implies_true, and_self, if_true, if_false, Bool.false_eq_true, true_and, and_true, shD, t_st, t_b2, t_cm, t_ct, t_ifT, t_ifF, t_ls, t_tu, t_co, t_le, t_ca, t_cn, t_cd, t_seT, t_seF, q_cfN, q_cfT, t_no, t_nTT, t_nFF, t_nTF, t_nFT, t_tsAT, t_tsAF, t_tsOT, t_tsOF, t_it, t_zi, t_en, t_re, t_thN, t_thR, t_fin, t_siT, t_siF, t_rt, t_fo, t_as, t_al, t_am, t_at, t_su, t_au, t_ax, t_ay, t_ap, t_ex, t_tg, q_tscons, pairD, List.length_cons, List.length_nil]
        rfl
      · rw [lv_map]
        simp (config := { decide := true }) only [↓reduceIte, q_name, q_int, q_bool, q_bin, q_cmp, q_if, q_from, q_upto, q_subN, q_subC, q_subB, q_subS, q_list, q_tuple, q_comp, q_len, q_call, q_count, q_bname, q_bsub, q_btup, q_tnot, q_tbool, q_tcmp, q_tname, q_tcall, q_tsnA, q_tsnO, q_esnil, q_escons, q_itname, q_itsub, q_itrng, q_itrev, q_itzip, q_itenum, q_nil, q_ok, q_cons, q_asgName, q_asgList, q_asgMul, q_asgTup, q_asgSub, q_aug, q_augSub, q_for, q_while, q_ifs, q_ret, q_app, q_ext, q_freeze, n_name, n_tuple, n_list, n_bin, n_sub, n_call, n_const, n_slice, n_cmp, n_if, n_comp, List.flatMap_cons, List.flatMap_nil, List.append_nil, List.cons_append, List.nil_append, q_rho0, q_upd, q_fnL, q_compRho, updAll, q_tgN, q_tgT, q_asI, q_asL, Option.bind_some, Option.map_some, reduceCtorEq, ne_eq, not_false_eq_true, implies_true, and_self, if_true, if_false, Bool.false_eq_true, true_and, and_true, shD, t_st, t_b2, t_cm, t_ct, t_ifT, t_ifF, t_ls, t_tu, t_co, t_le, t_ca, t_cn, t_cd, t_seT, t_seF, q_cfN, q_cfT, t_no, t_nTT, t_nFF, t_nTF, t_nFT, t_tsAT, t_tsAF, t_tsOT, t_tsOF, t_it, t_zi, t_en, t_re, t_thN, t_thR, t_fin, t_siT, t_siF, t_rt, t_fo, t_as, t_al, t_am, t_at, t_su, t_au, t_ax, t_ay, t_ap, t_ex, t_tg, q_tscons, i1, i2, small, List.length_nil]
        have hlv : (leavesF (ordF cs)).length = (ordF cs).length := by simp [leavesF]
        generalize hL : leavesF (ordF cs) = lv at hlv ⊢
        have lok : LvOk cs.length lv := hL ▸ leaves_ok
        have hs0 : TSok cs.length lv (ls0 cs, [], 0, 0) := ⟨rfl, Nat.zero_le _, Nat.le_refl _, Nat.zero_le _, fun x hx => (nomatch hx), fun x hx => (nomatch hx), ls0_len cs⟩
        refine (while_ok (fun s ρ => TInv lv s ρ ∧ TSok cs.length lv s) (tStep lv) (tGo lv) 250 (ordF cs).length (ls0 cs, [], 0, 0) (fun m s ρ hi => ?_) ?_ (t_done lok _ hs0 (by simp only [List.length_nil]; (first | lia | omega))) (by first | lia | omega) (by first | lia | omega)).bind fun ρ' hi => ?_
        · obtain ⟨⟨i1, i2, i3, i4, i5⟩, ok⟩ := hi
          have hlb : lv.length ≤ big := by unfold big; (first | lia | omega)
          have hl10 : lv.length ≤ 8 := by first | lia | omega
          have hjl := ok.jl
          have hjb : s.2.1.length ≤ big := by first | lia | omega
          refine ⟨?_, fun hg => ?_⟩
          · simp (config := { decide := true }) only [↓reduceIte, q_name, q_int, q_bool, q_bin, q_cmp, q_if, q_from, q_upto, q_subN, q_subC, q_subB, q_subS, q_list, q_tuple, q_comp, q_len, q_call, q_count, q_bname, q_bsub, q_btup, q_tnot, q_tbool, q_tcmp, q_tname, q_tcall, q_tsnA, q_tsnO, q_esnil, q_escons, q_itname, q_itsub, q_itrng, q_itrev, q_itzip, q_itenum, q_nil, q_ok, q_cons, q_asgName, q_asgList, q_asgMul, q_asgTup, q_asgSub, q_aug, q_augSub, q_for, q_while, q_ifs, q_ret, q_app, q_ext, q_freeze, n_name, n_tuple, n_list, n_bin, n_sub, n_call, n_const, n_slice, n_cmp, n_if, n_comp, List.flatMap_cons, List.flatMap_nil, List.append_nil, List.cons_append, List.nil_append, q_rho0, q_upd, q_fnL, q_compRho, updAll, q_tgN, q_tgT, q_asI, q_asL, Option.bind_some, Option.map_some, reduceCtorEq, ne_eq, not_false_eq_true, implies_true, and_self, if_true, if_false, Bool.false_eq_true, true_and, and_true, shD, t_st, t_b2, t_cm, t_ct, t_ifT, t_ifF, t_ls, t_tu, t_co, t_le, t_ca, t_cn, t_cd, t_seT, t_seF, q_cfN, q_cfT, t_no, t_nTT, t_nFF, t_nTF, t_nFT, t_tsAT, t_tsAF, t_tsOT, t_tsOF, t_it, t_zi, t_en, t_re, t_thN, t_thR, t_fin, t_siT, t_siF, t_rt, t_fo, t_as, t_al, t_am, t_at, t_su, t_au, t_ax, t_ay, t_ap, t_ex, t_tg, q_tscons, Γ_tree_lengths, i2, i3, i4, i5, len_nd hlb, len_nd hjb, binD, binI, binL, binR, isAdd, isMul, cmpD, isEq, isNe, isNi, cmpI, behindInMarks]
            rfl
          · have hg2 : s.2.1.length + 1 < lv.length := by
              rw [ts_go ok] at hg
              simpa using hg
            have tp := ts_pair lok ok hg2
            have ok' := ts_step lok ok hg2
            have p10 : 2 ^ s.2.1.length ≤ 2 ^ 6 := Nat.pow_le_pow_right (by first | lia | omega) (by first | lia | omega)
            simp (config := { decide := true }) only [↓reduceIte, q_name, q_int, q_bool, q_bin, q_cmp, q_if, q_from, q_upto, q_subN, q_subC, q_subB, q_subS, q_list, q_tuple, q_comp, q_len, q_call, q_count, q_bname, q_bsub, q_btup, q_tnot, q_tbool, q_tcmp, q_tname, q_tcall, q_tsnA, q_tsnO, q_esnil, q_escons, q_itname, q_itsub, q_itrng, q_itrev, q_itzip, q_itenum, q_nil, q_ok, q_cons, q_asgName, q_asgList, q_asgMul, q_asgTup, q_asgSub, q_aug, q_augSub, q_for, q_while, q_ifs, q_ret, q_app, q_ext, q_freeze, n_name, n_tuple, n_list, n_bin, n_sub, n_call, n_const, n_slice, n_cmp, n_if, n_comp, List.flatMap_cons, List.flatMap_nil, List.append_nil, List.cons_append, List.nil_append, q_rho0, q_upd, q_fnL, q_compRho, updAll, q_tgN, q_tgT, q_asI, q_asL, Option.bind_some, Option.map_some, reduceCtorEq, ne_eq, not_false_eq_true, implies_true, and_self, if_true, if_false, Bool.false_eq_true, true_and, and_true, shD, t_st, t_b2, t_cm, t_ct, t_ifT, t_ifF, t_ls, t_tu, t_co, t_le, t_ca, t_cn, t_cd, t_seT, t_seF, q_cfN, q_cfT, t_no, t_nTT, t_nFF, t_nTF, t_nFT, t_tsAT, t_tsAF, t_tsOT, t_tsOF, t_it, t_zi, t_en, t_re, t_thN, t_thR, t_fin, t_siT, t_siF, t_rt, t_fo, t_as, t_al, t_am, t_at, t_su, t_au, t_ax, t_ay, t_ap, t_ex, t_tg, q_tscons, Γ_tree_lengths, rangeOf]
            refine (loop_okI (fun i t ρ => TTInv lv s.1 s.2.1 t ρ ∧ TTok cs.length lv s.2.1 i t) (fun t _ => tTurn lv s.2.1 t) 50 2 0 (0, [], s.2.2.1, s.2.2.2) rfl (fun m i t ρ d hd hi2 hi => ?_) ?_ ?_).bindOk fun ρ1 hi => ?_
            · obtain ⟨⟨i1, i2, i3, i4, i5, i6, i7⟩, tok⟩ := hi
              obtain ⟨q1, q2⟩ := tLeft_lt tok hi2 hg2
              have okn := tt_step lok ok.len ok.rng tok hi2 hg2
              have hmn := okn.len
              have hm0 := tok.len
              have n2 : (i + 1) * 2 ^ s.2.1.length ≤ 2 * 2 ^ s.2.1.length := Nat.mul_le_mul_right _ (by first | lia | omega)
              have n1 : i * 2 ^ s.2.1.length ≤ 2 * 2 ^ s.2.1.length := Nat.mul_le_mul_right _ (by first | lia | omega)
              have htr := tok.tr
              cases e : tLeft lv s.2.1 t.2.2.1 t.2.2.2 with
              | true =>
                have w1 := q1 e
                have mb : t.2.1.length + (lv.getD t.2.2.1 (0, [])).2.length ≤ big := by
                  have := lok.one _ (getD_mem (d := ((0 : Int), ([] : List Int))) w1)
                  unfold big; (first | lia | omega)
                have tt : tTurn lv s.2.1 t = (t.1 + (lv.getD t.2.2.1 (0, [])).1, t.2.1 ++ (lv.getD t.2.2.1 (0, [])).2, t.2.2.1 + 1, t.2.2.2) := by unfold tTurn; rw [e]; rfl
                rw [tt] at okn ⊢
                have xb : True := trivial
                by_cases a1 : t.2.2.2 = s.2.1.length
                · have a1' : (t.2.2.2 : Int) = (s.2.1.length : Int) := by first | lia | omega
                  simp (config := { decide := true }) only [↓reduceIte, q_name, q_int, q_bool, q_bin, q_cmp, q_if, q_from, q_upto, q_subN, q_subC, q_subB, q_subS, q_list, q_tuple, q_comp, q_len, q_call, q_count, q_bname, q_bsub, q_btup, q_tnot, q_tbool, q_tcmp, q_tname, q_tcall, q_tsnA, q_tsnO, q_esnil, q_escons, q_itname, q_itsub, q_itrng, q_itrev, q_itzip, q_itenum, q_nil, q_ok, q_cons, q_asgName, q_asgList, q_asgMul, q_asgTup, q_asgSub, q_aug, q_augSub, q_for, q_while, q_ifs, q_ret, q_app, q_ext, q_freeze, n_name, n_tuple, n_list, n_bin, n_sub, n_call, n_const, n_slice, n_cmp, n_if, n_comp, List.flatMap_cons, List.flatMap_nil, List.append_nil, List.cons_append, List.nil_append, q_rho0, q_upd, q_fnL, q_compRho, updAll, q_tgN, q_tgT, q_asI, q_asL, Option.bind_some, Option.map_some, reduceCtorEq, ne_eq, not_false_eq_true, implies_true, and_self, if_true, if_false, Bool.false_eq_true, true_and, and_true, shD, t_st, t_b2, t_cm, t_ct, t_ifT, t_ifF, t_ls, t_tu, t_co, t_le, t_ca, t_cn, t_cd, t_seT, t_seF, q_cfN, q_cfT, t_no, t_nTT, t_nFF, t_nTF, t_nFT, t_tsAT, t_tsAF, t_tsOT, t_tsOF, t_it, t_zi, t_en, t_re, t_thN, t_thR, t_fin, t_siT, t_siF, t_rt, t_fo, t_as, t_al, t_am, t_at, t_su, t_au, t_ax, t_ay, t_ap, t_ex, t_tg, q_tscons, i1, i2, i3, i4, i5, i6, i7, len_nd hlb, len_nd hjb, cmpD, isEq, isNe, isNi, cmpI, a1', decide_true, decide_false, idxN w1 hlb, idx0, idx1, binD, binI, binL, binR, isAdd, isMul, List.length_map, mb, xb, TTInv]
                  refine ⟨⟨?_, ?_⟩, okn⟩ <;> simp
                · have a1' : ¬ (t.2.2.2 : Int) = (s.2.1.length : Int) := by first | lia | omega
                  have w2 : t.2.2.2 < s.2.1.length := by first | lia | omega
                  have a2 : (t.2.2.1 : Int) < (lv.length : Int) := by first | lia | omega
                  have a3 : (lv.getD t.2.2.1 (0, [])).1 ≤ (s.2.1.getD t.2.2.2 (0, [])).1 := by
                    simp only [tLeft, a1, w1, decide_true, decide_false, Bool.false_or, Bool.true_and, decide_eq_true_eq] at e
                    exact e
                  simp (config := { decide := true }) only [↓reduceIte, q_name, q_int, q_bool, q_bin, q_cmp, q_if, q_from, q_upto, q_subN, q_subC, q_subB, q_subS, q_list, q_tuple, q_comp, q_len, q_call, q_count, q_bname, q_bsub, q_btup, q_tnot, q_tbool, q_tcmp, q_tname, q_tcall, q_tsnA, q_tsnO, q_esnil, q_escons, q_itname, q_itsub, q_itrng, q_itrev, q_itzip, q_itenum, q_nil, q_ok, q_cons, q_asgName, q_asgList, q_asgMul, q_asgTup, q_asgSub, q_aug, q_augSub, q_for, q_while, q_ifs, q_ret, q_app, q_ext, q_freeze, n_name, n_tuple, n_list, n_bin, n_sub, n_call, n_const, n_slice, n_cmp, n_if, n_comp, List.flatMap_cons, List.flatMap_nil, List.append_nil, List.cons_append, List.nil_append, q_rho0, q_upd, q_fnL, q_compRho, updAll, q_tgN, q_tgT, q_asI, q_asL, Option.bind_some, Option.map_some, reduceCtorEq, ne_eq, not_false_eq_true, implies_true, and_self, if_true, if_false, Bool.false_eq_true, true_and, and_true, shD, t_st, t_b2, t_cm, t_ct, t_ifT, t_ifF, t_ls, t_tu, t_co, t_le, t_ca, t_cn, t_cd, t_seT, t_seF, q_cfN, q_cfT, t_no, t_nTT, t_nFF, t_nTF, t_nFT, t_tsAT, t_tsAF, t_tsOT, t_tsOF, t_it, t_zi, t_en, t_re, t_thN, t_thR, t_fin, t_siT, t_siF, t_rt, t_fo, t_as, t_al, t_am, t_at, t_su, t_au, t_ax, t_ay, t_ap, t_ex, t_tg, q_tscons, i1, i2, i3, i4, i5, i6, i7, len_nd hlb, len_nd hjb, cmpD, isEq, isNe, isNi, cmpI, a1', a2, a3, idxN w2 hjb, decide_true, decide_false, idxN w1 hlb, idx0, idx1, binD, binI, binL, binR, isAdd, isMul, List.length_map, mb, xb, TTInv]
                  refine ⟨⟨?_, ?_⟩, okn⟩ <;> simp
              | false =>
                have w2 := q2 e
                have mb : t.2.1.length + (s.2.1.getD t.2.2.2 (0, [])).2.length ≤ big := by
                  have := ok.len _ (getD_mem (d := ((0 : Int), ([] : List Int))) w2)
                  unfold big; (first | lia | omega)
                have tt : tTurn lv s.2.1 t = (t.1 + (s.2.1.getD t.2.2.2 (0, [])).1, t.2.1 ++ (s.2.1.getD t.2.2.2 (0, [])).2, t.2.2.1, t.2.2.2 + 1) := by unfold tTurn; rw [e]; rfl
                rw [tt] at okn ⊢
                have xb : True := trivial
                have a1' : ¬ (t.2.2.2 : Int) = (s.2.1.length : Int) := by first | lia | omega
                by_cases a2 : t.2.2.1 < lv.length
                · have a2' : (t.2.2.1 : Int) < (lv.length : Int) := by first | lia | omega
                  have a3 : ¬ (lv.getD t.2.2.1 (0, [])).1 ≤ (s.2.1.getD t.2.2.2 (0, [])).1 := by
                    have a1 : ¬ t.2.2.2 = s.2.1.length := by first | lia | omega
                    simp only [tLeft, a1, a2, decide_true, decide_false, Bool.false_or, Bool.true_and, decide_eq_false_iff_not] at e
                    exact e
                  have w1 := a2
                  simp (config := { decide := true }) only [↓reduceIte, q_name, q_int, q_bool, q_bin, q_cmp, q_if, q_from, q_upto, q_subN, q_subC, q_subB, q_subS, q_list, q_tuple, q_comp, q_len, q_call, q_count, q_bname, q_bsub, q_btup, q_tnot, q_tbool, q_tcmp, q_tname, q_tcall, q_tsnA, q_tsnO, q_esnil, q_escons, q_itname, q_itsub, q_itrng, q_itrev, q_itzip, q_itenum, q_nil, q_ok, q_cons, q_asgName, q_asgList, q_asgMul, q_asgTup, q_asgSub, q_aug, q_augSub, q_for, q_while, q_ifs, q_ret, q_app, q_ext, q_freeze, n_name, n_tuple, n_list, n_bin, n_sub, n_call, n_const, n_slice, n_cmp, n_if, n_comp, List.flatMap_cons, List.flatMap_nil, List.append_nil, List.cons_append, List.nil_append, q_rho0, q_upd, q_fnL, q_compRho, updAll, q_tgN, q_tgT, q_asI, q_asL, Option.bind_some, Option.map_some, reduceCtorEq, ne_eq, not_false_eq_true, implies_true, and_self, if_true, if_false, Bool.false_eq_true, true_and, and_true, shD, t_st, t_b2, t_cm, t_ct, t_ifT, t_ifF, t_ls, t_tu, t_co, t_le, t_ca, t_cn, t_cd, t_seT, t_seF, q_cfN, q_cfT, t_no, t_nTT, t_nFF, t_nTF, t_nFT, t_tsAT, t_tsAF, t_tsOT, t_tsOF, t_it, t_zi, t_en, t_re, t_thN, t_thR, t_fin, t_siT, t_siF, t_rt, t_fo, t_as, t_al, t_am, t_at, t_su, t_au, t_ax, t_ay, t_ap, t_ex, t_tg, q_tscons, i1, i2, i3, i4, i5, i6, i7, len_nd hlb, len_nd hjb, cmpD, isEq, isNe, isNi, cmpI, a1', a2', a3, idxN w1 hlb, decide_true, decide_false, idxN w2 hjb, idx0, idx1, binD, binI, binL, binR, isAdd, isMul, List.length_map, mb, xb, TTInv]
                  refine ⟨⟨?_, ?_⟩, okn⟩ <;> simp
                · have a2' : ¬ (t.2.2.1 : Int) < (lv.length : Int) := by first | lia | omega
                  simp (config := { decide := true }) only [↓reduceIte, q_name, q_int, q_bool, q_bin, q_cmp, q_if, q_from, q_upto, q_subN, q_subC, q_subB, q_subS, q_list, q_tuple, q_comp, q_len, q_call, q_count, q_bname, q_bsub, q_btup, q_tnot, q_tbool, q_tcmp, q_tname, q_tcall, q_tsnA, q_tsnO, q_esnil, q_escons, q_itname, q_itsub, q_itrng, q_itrev, q_itzip, q_itenum, q_nil, q_ok, q_cons, q_asgName, q_asgList, q_asgMul, q_asgTup, q_asgSub, q_aug, q_augSub, q_for, q_while, q_ifs, q_ret, q_app, q_ext, q_freeze, n_name, n_tuple, n_list, n_bin, n_sub, n_call, n_const, n_slice, n_cmp, n_if, n_comp, List.flatMap_cons, List.flatMap_nil, List.append_nil, List.cons_append, List.nil_append, q_rho0, q_upd, q_fnL, q_compRho, updAll, q_tgN, q_tgT, q_asI, q_asL, Option.bind_some, Option.map_some, reduceCtorEq, ne_eq, not_false_eq_true, implies_true, and_self, if_true, if_false, Bool.false_eq_true, true_and, and_true, shD, t_st, t_b2, t_cm, t_ct, t_ifT, t_ifF, t_ls, t_tu, t_co, t_le, t_ca, t_cn, t_cd, t_seT, t_seF, q_cfN, q_cfT, t_no, t_nTT, t_nFF, t_nTF, t_nFT, t_tsAT, t_tsAF, t_tsOT, t_tsOF, t_it, t_zi, t_en, t_re, t_thN, t_thR, t_fin, t_siT, t_siF, t_rt, t_fo, t_as, t_al, t_am, t_at, t_su, t_au, t_ax, t_ay, t_ap, t_ex, t_tg, q_tscons, i1, i2, i3, i4, i5, i6, i7, len_nd hlb, len_nd hjb, cmpD, isEq, isNe, isNi, cmpI, a1', a2', decide_true, decide_false, idxN w2 hjb, idx0, idx1, binD, binI, binL, binR, isAdd, isMul, List.length_map, mb, xb, TTInv]
                  refine ⟨⟨?_, ?_⟩, okn⟩ <;> simp
            · simp (config := { decide := true }) only [TTInv, ↓reduceIte, q_name, q_int, q_bool, q_bin, q_cmp, q_if, q_from, q_upto, q_subN, q_subC, q_subB, q_subS, q_list, q_tuple, q_comp, q_len, q_call, q_count, q_bname, q_bsub, q_btup, q_tnot, q_tbool, q_tcmp, q_tname, q_tcall, q_tsnA, q_tsnO, q_esnil, q_escons, q_itname, q_itsub, q_itrng, q_itrev, q_itzip, q_itenum, q_nil, q_ok, q_cons, q_asgName, q_asgList, q_asgMul, q_asgTup, q_asgSub, q_aug, q_augSub, q_for, q_while, q_ifs, q_ret, q_app, q_ext, q_freeze, n_name, n_tuple, n_list, n_bin, n_sub, n_call, n_const, n_slice, n_cmp, n_if, n_comp, List.flatMap_cons, List.flatMap_nil, List.append_nil, List.cons_append, List.nil_append, q_rho0, q_upd, q_fnL, q_compRho, updAll, q_tgN, q_tgT, q_asI, q_asL, Option.bind_some, Option.map_some, reduceCtorEq, ne_eq, not_false_eq_true, implies_true, and_self, if_true, if_false, Bool.false_eq_true, true_and, and_true, shD, t_st, t_b2, t_cm, t_ct, t_ifT, t_ifF, t_ls, t_tu, t_co, t_le, t_ca, t_cn, t_cd, t_seT, t_seF, q_cfN, q_cfT, t_no, t_nTT, t_nFF, t_nTF, t_nFT, t_tsAT, t_tsAF, t_tsOT, t_tsOF, t_it, t_zi, t_en, t_re, t_thN, t_thR, t_fin, t_siT, t_siF, t_rt, t_fo, t_as, t_al, t_am, t_at, t_su, t_au, t_ax, t_ay, t_ap, t_ex, t_tg, q_tscons, i1, i2, i3, i4, i5, List.map_nil]
              exact ⟨by simpa using ok.sum, ok.lf, ok.tr, by simp, fun x hx => (nomatch hx)⟩
            · simp [rangeD]
            · obtain ⟨⟨i1, i2, i3, i4, i5, i6, i7⟩, tok⟩ := hi
              have hfold : List.foldl (fun t (_ : D) => tTurn lv s.2.1 t) (0, [], s.2.2.1, s.2.2.2) (rangeD 0 1 (Int.toNat 2)) = tPair lv s := rfl
              rw [hfold] at i3 i4 i6 i7 tok
              have hml := tok.len
              simp (config := { decide := true }) only [↓reduceIte, q_name, q_int, q_bool, q_bin, q_cmp, q_if, q_from, q_upto, q_subN, q_subC, q_subB, q_subS, q_list, q_tuple, q_comp, q_len, q_call, q_count, q_bname, q_bsub, q_btup, q_tnot, q_tbool, q_tcmp, q_tname, q_tcall, q_tsnA, q_tsnO, q_esnil, q_escons, q_itname, q_itsub, q_itrng, q_itrev, q_itzip, q_itenum, q_nil, q_ok, q_cons, q_asgName, q_asgList, q_asgMul, q_asgTup, q_asgSub, q_aug, q_augSub, q_for, q_while, q_ifs, q_ret, q_app, q_ext, q_freeze, n_name, n_tuple, n_list, n_bin, n_sub, n_call, n_const, n_slice, n_cmp, n_if, n_comp, List.flatMap_cons, List.flatMap_nil, List.append_nil, List.cons_append, List.nil_append, q_rho0, q_upd, q_fnL, q_compRho, updAll, q_tgN, q_tgT, q_asI, q_asL, Option.bind_some, Option.map_some, reduceCtorEq, ne_eq, not_false_eq_true, implies_true, and_self, if_true, if_false, Bool.false_eq_true, true_and, and_true, shD, t_st, t_b2, t_cm, t_ct, t_ifT, t_ifF, t_ls, t_tu, t_co, t_le, t_ca, t_cn, t_cd, t_seT, t_seF, q_cfN, q_cfT, t_no, t_nTT, t_nFF, t_nTF, t_nFT, t_tsAT, t_tsAF, t_tsOT, t_tsOF, t_it, t_zi, t_en, t_re, t_thN, t_thR, t_fin, t_siT, t_siF, t_rt, t_fo, t_as, t_al, t_am, t_at, t_su, t_au, t_ax, t_ay, t_ap, t_ex, t_tg, q_tscons, i7]
              refine (loop_ok (fun ls ρ => (ρ "lengths" = some (.own (ls.map .int)) ∧ ρ "joined" = some (.own (s.2.1.map ndD)) ∧ ρ "leaf" = some (.st (.int (tPair lv s).2.2.1)) ∧ ρ "tree" = some (.st (.int (tPair lv s).2.2.2)) ∧ ρ "leaves" = some (.st (.lst (lv.map ndD))) ∧ ρ "weight" = some (.st (.int (tPair lv s).1)) ∧ ρ "members" = some (.st (.lst ((tPair lv s).2.1.map .int)))) ∧ ls.length = cs.length) (fun ls d => incAt ls (ofI d)) 40 s.1 (fun m ls ρ d hd hi => ?_) ?_ ?_).bindOk fun ρ2 hi => ?_
              · obtain ⟨x, hx, rfl⟩ := List.mem_map.mp hd
                obtain ⟨⟨i1, i2, i3, i4, i5, i6, i7⟩, hll⟩ := hi
                have hr := tok.rng x hx
                have g0 := hr.1
                have g1 : x.toNat < ls.length := by rw [hll]; exact hr.2
                have g2 : ls.length ≤ big := by first | lia | omega
                simp (config := { decide := true }) only [↓reduceIte, q_name, q_int, q_bool, q_bin, q_cmp, q_if, q_from, q_upto, q_subN, q_subC, q_subB, q_subS, q_list, q_tuple, q_comp, q_len, q_call, q_count, q_bname, q_bsub, q_btup, q_tnot, q_tbool, q_tcmp, q_tname, q_tcall, q_tsnA, q_tsnO, q_esnil, q_escons, q_itname, q_itsub, q_itrng, q_itrev, q_itzip, q_itenum, q_nil, q_ok, q_cons, q_asgName, q_asgList, q_asgMul, q_asgTup, q_asgSub, q_aug, q_augSub, q_for, q_while, q_ifs, q_ret, q_app, q_ext, q_freeze, n_name, n_tuple, n_list, n_bin, n_sub, n_call, n_const, n_slice, n_cmp, n_if, n_comp, List.flatMap_cons, List.flatMap_nil, List.append_nil, List.cons_append, List.nil_append, q_rho0, q_upd, q_fnL, q_compRho, updAll, q_tgN, q_tgT, q_asI, q_asL, Option.bind_some, Option.map_some, reduceCtorEq, ne_eq, not_false_eq_true, implies_true, and_self, if_true, if_false, Bool.false_eq_true, true_and, and_true, shD, t_st, t_b2, t_cm, t_ct, t_ifT, t_ifF, t_ls, t_tu, t_co, t_le, t_ca, t_cn, t_cd, t_seT, t_seF, q_cfN, q_cfT, t_no, t_nTT, t_nFF, t_nTF, t_nFT, t_tsAT, t_tsAF, t_tsOT, t_tsOF, t_it, t_zi, t_en, t_re, t_thN, t_thR, t_fin, t_siT, t_siF, t_rt, t_fo, t_as, t_al, t_am, t_at, t_su, t_au, t_ax, t_ay, t_ap, t_ex, t_tg, q_tscons, ofI, i1, i2, i3, i4, i5, i6, i7, List.length_map, g0, g1, g2, get_map g1]
                exact ⟨by unfold incAt; rw [List.map_set], by simp [incAt, hll]⟩
              · simp (config := { decide := true }) only [↓reduceIte, q_name, q_int, q_bool, q_bin, q_cmp, q_if, q_from, q_upto, q_subN, q_subC, q_subB, q_subS, q_list, q_tuple, q_comp, q_len, q_call, q_count, q_bname, q_bsub, q_btup, q_tnot, q_tbool, q_tcmp, q_tname, q_tcall, q_tsnA, q_tsnO, q_esnil, q_escons, q_itname, q_itsub, q_itrng, q_itrev, q_itzip, q_itenum, q_nil, q_ok, q_cons, q_asgName, q_asgList, q_asgMul, q_asgTup, q_asgSub, q_aug, q_augSub, q_for, q_while, q_ifs, q_ret, q_app, q_ext, q_freeze, n_name, n_tuple, n_list, n_bin, n_sub, n_call, n_const, n_slice, n_cmp, n_if, n_comp, List.flatMap_cons, List.flatMap_nil, List.append_nil, List.cons_append, List.nil_append, q_rho0, q_upd, q_fnL, q_compRho, updAll, q_tgN, q_tgT, q_asI, q_asL, Option.bind_some, Option.map_some, reduceCtorEq, ne_eq, not_false_eq_true, implies_true, and_self, if_true, if_false, Bool.false_eq_true, true_and, and_true, shD, t_st, t_b2, t_cm, t_ct, t_ifT, t_ifF, t_ls, t_tu, t_co, t_le, t_ca, t_cn, t_cd, t_seT, t_seF, q_cfN, q_cfT, t_no, t_nTT, t_nFF, t_nTF, t_nFT, t_tsAT, t_tsAF, t_tsOT, t_tsOF, t_it, t_zi, t_en, t_re, t_thN, t_thR, t_fin, t_siT, t_siF, t_rt, t_fo, t_as, t_al, t_am, t_at, t_su, t_au, t_ax, t_ay, t_ap, t_ex, t_tg, q_tscons, i1, i2, i3, i4, i5, i6, i7, ok.ll]
              · simp; (first | lia | omega)
              · obtain ⟨⟨i1, i2, i3, i4, i5, i6, i7⟩, hll⟩ := hi
                have hfl : List.foldl (fun ls d => incAt ls (ofI d)) s.1 ((tPair lv s).2.1.map D.int) = (tPair lv s).2.1.foldl incAt s.1 := by rw [List.foldl_map]; rfl
                rw [hfl] at i1
                simp (config := { decide := true }) only [↓reduceIte, q_name, q_int, q_bool, q_bin, q_cmp, q_if, q_from, q_upto, q_subN, q_subC, q_subB, q_subS, q_list, q_tuple, q_comp, q_len, q_call, q_count, q_bname, q_bsub, q_btup, q_tnot, q_tbool, q_tcmp, q_tname, q_tcall, q_tsnA, q_tsnO, q_esnil, q_escons, q_itname, q_itsub, q_itrng, q_itrev, q_itzip, q_itenum, q_nil, q_ok, q_cons, q_asgName, q_asgList, q_asgMul, q_asgTup, q_asgSub, q_aug, q_augSub, q_for, q_while, q_ifs, q_ret, q_app, q_ext, q_freeze, n_name, n_tuple, n_list, n_bin, n_sub, n_call, n_const, n_slice, n_cmp, n_if, n_comp, List.flatMap_cons, List.flatMap_nil, List.append_nil, List.cons_append, List.nil_append, q_rho0, q_upd, q_fnL, q_compRho, updAll, q_tgN, q_tgT, q_asI, q_asL, Option.bind_some, Option.map_some, reduceCtorEq, ne_eq, not_false_eq_true, implies_true, and_self, if_true, if_false, Bool.false_eq_true, true_and, and_true, shD, t_st, t_b2, t_cm, t_ct, t_ifT, t_ifF, t_ls, t_tu, t_co, t_le, t_ca, t_cn, t_cd, t_seT, t_seF, q_cfN, q_cfT, t_no, t_nTT, t_nFF, t_nTF, t_nFT, t_tsAT, t_tsAF, t_tsOT, t_tsOF, t_it, t_zi, t_en, t_re, t_thN, t_thR, t_fin, t_siT, t_siF, t_rt, t_fo, t_as, t_al, t_am, t_at, t_su, t_au, t_ax, t_ay, t_ap, t_ex, t_tg, q_tscons, i1, i2, i3, i4, i5, i6, i7, List.length_map, List.length_cons, List.length_nil, hjb, TInv]
                refine ⟨?_, ok'⟩
                simp [tStep, ndD, il]
        · simp (config := { decide := true }) only [TInv, ↓reduceIte, q_name, q_int, q_bool, q_bin, q_cmp, q_if, q_from, q_upto, q_subN, q_subC, q_subB, q_subS, q_list, q_tuple, q_comp, q_len, q_call, q_count, q_bname, q_bsub, q_btup, q_tnot, q_tbool, q_tcmp, q_tname, q_tcall, q_tsnA, q_tsnO, q_esnil, q_escons, q_itname, q_itsub, q_itrng, q_itrev, q_itzip, q_itenum, q_nil, q_ok, q_cons, q_asgName, q_asgList, q_asgMul, q_asgTup, q_asgSub, q_aug, q_augSub, q_for, q_while, q_ifs, q_ret, q_app, q_ext, q_freeze, n_name, n_tuple, n_list, n_bin, n_sub, n_call, n_const, n_slice, n_cmp, n_if, n_comp, List.flatMap_cons, List.flatMap_nil, List.append_nil, List.cons_append, List.nil_append, q_rho0, q_upd, q_fnL, q_compRho, updAll, q_tgN, q_tgT, q_asI, q_asL, Option.bind_some, Option.map_some, reduceCtorEq, ne_eq, not_false_eq_true, implies_true, and_self, if_true, if_false, Bool.false_eq_true, true_and, and_true, shD, t_st, t_b2, t_cm, t_ct, t_ifT, t_ifF, t_ls, t_tu, t_co, t_le, t_ca, t_cn, t_cd, t_seT, t_seF, q_cfN, q_cfT, t_no, t_nTT, t_nFF, t_nTF, t_nFT, t_tsAT, t_tsAF, t_tsOT, t_tsOF, t_it, t_zi, t_en, t_re, t_thN, t_thR, t_fin, t_siT, t_siF, t_rt, t_fo, t_as, t_al, t_am, t_at, t_su, t_au, t_ax, t_ay, t_ap, t_ex, t_tg, q_tscons, i2]
          exact ⟨⟨rfl, rfl⟩, hs0⟩
        · obtain ⟨⟨i1, i2, i3, i4, i5⟩, ok⟩ := hi
          simp (config := { decide := true }) only [↓reduceIte, q_name, q_int, q_bool, q_bin, q_cmp, q_if, q_from, q_upto, q_subN, q_subC, q_subB, q_subS, q_list, q_tuple, q_comp, q_len, q_call, q_count, q_bname, q_bsub, q_btup, q_tnot, q_tbool, q_tcmp, q_tname, q_tcall, q_tsnA, q_tsnO, q_esnil, q_escons, q_itname, q_itsub, q_itrng, q_itrev, q_itzip, q_itenum, q_nil, q_ok, q_cons, q_asgName, q_asgList, q_asgMul, q_asgTup, q_asgSub, q_aug, q_augSub, q_for, q_while, q_ifs, q_ret, q_app, q_ext, q_freeze, n_name, n_tuple, n_list, n_bin, n_sub, n_call, n_const, n_slice, n_cmp, n_if, n_comp, List.flatMap_cons, List.flatMap_nil, List.append_nil, List.cons_append, List.nil_append, q_rho0, q_upd, q_fnL, q_compRho, updAll, q_tgN, q_tgT, q_asI, q_asL, Option.bind_some, Option.map_some, reduceCtorEq, ne_eq, not_false_eq_true, implies_true, and_self, if_true, if_false, Bool.false_eq_true, true_and, and_true, shD, t_st, t_b2, t_cm, t_ct, t_ifT, t_ifF, t_ls, t_tu, t_co, t_le, t_ca, t_cn, t_cd, t_seT, t_seF, q_cfN, q_cfT, t_no, t_nTT, t_nFF, t_nTF, t_nFT, t_tsAT, t_tsAF, t_tsOT, t_tsOF, t_it, t_zi, t_en, t_re, t_thN, t_thR, t_fin, t_siT, t_siF, t_rt, t_fo, t_as, t_al, t_am, t_at, t_su, t_au, t_ax, t_ay, t_ap, t_ex, t_tg, q_tscons, i1, treeF, hL]
end Mine
end

section
open PySem PySem.W PyProof.Rows PySem.Calls PySem.SeqAt
set_option linter.all false
set_option maxRecDepth 100000
set_option maxHeartbeats 4000000
namespace Mine

noncomputable abbrev CS := List Int × Nat
noncomputable def cCnt (fl : List Bool) (wn : Nat) : Nat := (fl.take wn).countP (· == true)
noncomputable def cStep (o : List IP) (s : CS) (fl : List Bool) : CS := ((o.take (cCnt fl s.2)).foldl (fun l p => incAt l p.2) s.1, 2 * (s.2 - cCnt fl s.2))
noncomputable def codeF (cs : List Int) (n : Nat) : List Int := ((rowsF ((ordF cs).map (·.1)) n).1.reverse.foldl (cStep (ordF cs)) (List.replicate cs.length 0, 2 * (ordF cs).length - 2)).1
noncomputable def ofBs : D → List Bool
  | .lst ds => (boolsOf ds).getD []
  | _ => []
theorem ofBs_bl (l : List Bool) : ofBs (bl l) = l := by simp [ofBs, bl, boolsOf_map]
theorem rows_len (ls : List Int) : ∀ n, ∀ fl ∈ (rowsF ls n).1, fl.length ≤ 2 * ls.length
  | 0, fl, h => by simp [rowsF] at h
  | n + 1, fl, h => by
    have ok : ROk ls n (rowsF ls n) := by
      have : ∀ n, ROk ls n (rowsF ls n) := by
        intro n
        induction n with
        | zero => exact ⟨rfl, Nat.zero_le _, rfl⟩
        | succ n ih => exact rOk_step ih
      exact this n
    simp only [rowsF, rStep, List.mem_append, List.mem_singleton] at h
    rcases h with h | rfl
    · exact rows_len ls n fl h
    · have := ok.p
      rw [mF_len]; (first | lia | omega)
theorem cCnt_le (fl : List Bool) (wn : Nat) : cCnt fl wn ≤ wn := by
  unfold cCnt
  have := List.countP_le_length (p := (· == true)) (l := fl.take wn)
  simp only [List.length_take] at this
  (first | lia | omega)
theorem inc_pairs_len (o : List IP) (l : List Int) : (o.foldl (fun l p => incAt l p.2) l).length = l.length := by
  induction o generalizing l with
  | nil => rfl
  | cons p o ih => rw [List.foldl_cons, ih]; simp [incAt]

theorem φ_code_eq (cs : List Int) (n : Nat) (h : cs.length ≤ 8) (h2 : 2 ≤ (ordF cs).length) (hn1 : 1 ≤ n) (hn : n ≤ 20) (hf : (ordF cs).length ≤ 2 ^ n) : φ_code_lengths [il cs, .int n] = some (il (codeF cs n)) := by
  unfold φ_code_lengths φdef
  rw [if_pos (by rfl)]
  conv => lhs; arg 1; arg 4; whnf
  have hb : cs.length ≤ big := by unfold big; (first | lia | omega)
  have hlt : cs.length < big := by unfold big; (first | lia | omega)
  have h40 : Int.natAbs (cs.length : Int) < 2 ^ 40 := by first | lia | omega
  have hn0 : (0 : Int) ≤ (cs.length : Int) := by first | lia | omega
  have hrl : (rangeD 0 1 cs.length).length ≤ big := by simpa [rangeD] using hb
  have hol : (ordF cs).length ≤ cs.length := ordF_len cs
  have hob : (ordF cs).length ≤ big := by first | lia | omega
  have c1 : ¬ ((n : Int) < 1) := by first | lia | omega
  have c2 : (0 : Int) ≤ (n : Int) ∧ (n : Int) ≤ 1000 ∧ Int.natAbs 1 < 2 ^ 62 := ⟨by first | lia | omega, by first | lia | omega, by decide⟩
  have c3 : ¬ ((1 : Int) * 2 ^ n < ((ordF cs).length : Int)) := by
    have : ((2 ^ n : Nat) : Int) = (2 : Int) ^ n := by simp
    (first | lia | omega)
  have c4 : ¬ (((ordF cs).length : Int) = 1) := by first | lia | omega
  have c5 : ¬ (((ordF cs).length : Int) < 2) := by first | lia | omega
  have c6 : (List.map pairD (ordF cs)).isEmpty = false := by
    cases q : ordF cs with
    | nil => rw [q] at h2; simp at h2
    | cons a l => rfl
  simp (config := { decide := true }) only [↓reduceIte, q_name, q_int, q_bool, q_bin, q_cmp, q_if, q_from, q_upto, q_subN, q_subC, q_subB, q_subS, q_list, q_tuple, q_comp, q_len, q_call, q_count, q_bname, q_bsub, q_btup, q_tnot, q_tbool, q_tcmp, q_tname, q_tcall, q_tsnA, q_tsnO, q_esnil, q_escons, q_itname, q_itsub, q_itrng, q_itrev, q_itzip, q_itenum, q_nil, q_ok, q_cons, q_asgName, q_asgList, q_asgMul, q_asgTup, q_asgSub, q_aug, q_augSub, q_for, q_while, q_ret, q_app, q_ext, q_freeze, n_name, n_tuple, n_list, n_bin, n_sub, n_call, n_const, n_slice, n_cmp, n_if, n_comp, List.flatMap_cons, List.flatMap_nil, List.append_nil, List.cons_append, List.nil_append, q_rho0, q_upd, q_fnL, q_compRho, updAll, q_tgN, q_tgT, q_asI, q_asL, Option.bind_some, Option.map_some, reduceCtorEq, ne_eq, not_false_eq_true, implies_true, and_self, if_true, if_false, Bool.false_eq_true, true_and, and_true, shD, t_st, t_b2, t_cm, t_ct, t_ifT, t_ifF, t_ls, t_tu, t_co, t_le, t_ca, t_cn, t_cd, t_seT, t_seF, q_cfN, q_cfT, t_no, t_nTT, t_nFF, t_nTF, t_nFT, t_tsAT, t_tsAF, t_tsOT, t_tsOF, t_it, t_zi, t_en, t_re, t_thN, t_thR, t_fin, t_siT, t_siF, t_rt, t_fo, t_as, t_al, t_am, t_at, t_su, t_au, t_ax, t_ay, t_ap, t_ex, t_tg, q_tscons, Γ_code_lengths, φlen, il, List.length_map, hb, rangeOf, h40, Int.toNat_natCast, hrl]
  rw [ord_comp (fun i hi => ?_)]
  rotate_left
  · have e0 : (0 + (i : Int) * 1) = (i : Int) := by first | lia | omega
    have e1 : (cs.map D.int)[i]? = some (.int (cs.getD i 0)) := get_map hi
    have e3 : (0 : Int) ≤ (i : Int) := by first | lia | omega
    rw [e0]
    by_cases hq : 0 < cs.getD i 0
    · simp (config := { decide := true }) only [↓reduceIte, q_name, q_int, q_bool, q_bin, q_cmp, q_if, q_from, q_upto, q_subN, q_subC, q_subB, q_subS, q_list, q_tuple, q_comp, q_len, q_call, q_count, q_bname, q_bsub, q_btup, q_tnot, q_tbool, q_tcmp, q_tname, q_tcall, q_tsnA, q_tsnO, q_esnil, q_escons, q_itname, q_itsub, q_itrng, q_itrev, q_itzip, q_itenum, q_nil, q_ok, q_cons, q_asgName, q_asgList, q_asgMul, q_asgTup, q_asgSub, q_aug, q_augSub, q_for, q_while, q_ifs, q_ret, q_app, q_ext, q_freeze, n_name, n_tuple, n_list, n_bin, n_sub, n_call, n_const, n_slice, n_cmp, n_if, n_comp, List.flatMap_cons, List.flatMap_nil, List.append_nil, List.cons_append, List.nil_append, q_rho0, q_upd, q_fnL, q_compRho, updAll, q_tgN, q_tgT, q_asI, q_asL, Option.bind_some, Option.map_some, reduceCtorEq, ne_eq, not_false_eq_true, implies_true, and_self, if_true, if_false, Bool.false_eq_true, true_and, and_true, shD, t_st, t_b2, t_cm, t_ct, t_ifT, t_ifF, t_ls, t_tu, t_co, t_le, t_ca, t_cn, t_cd, t_seT, t_seF, q_cfN, q_cfT, t_no, t_nTT, t_nFF, t_nTF, t_nFT, t_tsAT, t_tsAF, t_tsOT, t_tsOF, t_it, t_zi, t_en, t_re, t_thN, t_thR, t_fin, t_siT, t_siF, t_rt, t_fo, t_as, t_al, t_am, t_at, t_su, t_au, t_ax, t_ay, t_ap, t_ex, t_tg, q_tscons, idxD, List.length_map, hb, e1, e3, Int.toNat_natCast, behindInMarks, cmpD, isEq, isNe, isNi, cmpI, hq, decide_true]
      rfl
    · simp (config := { decide := true }) only [↓reduceIte, q_name, q_int, q_bool, q_bin, q_cmp, q_if, q_from, q_upto, q_subN, q_subC, q_subB, q_subS, q_list, q_tuple, q_comp, q_len, q_call, q_count, q_bname, q_bsub, q_btup, q_tnot, q_tbool, q_tcmp, q_tname, q_tcall, q_tsnA, q_tsnO, q_esnil, q_escons, q_itname, q_itsub, q_itrng, q_itrev, q_itzip, q_itenum, q_nil, q_ok, q_cons, q_asgName, q_asgList, q_asgMul, q_asgTup, q_asgSub, q_aug, q_augSub, q_for, q_while, q_ifs, q_ret, q_app, q_ext, q_freeze, n_name, n_tuple, n_list, n_bin, n_sub, n_call, n_const, n_slice, n_cmp, n_if, n_comp, List.flatMap_cons, List.flatMap_nil, List.append_nil, List.cons_append, List.nil_append, q_rho0, q_upd, q_fnL, q_compRho, updAll, q_tgN, q_tgT, q_asI, q_asL, Option.bind_some, Option.map_some, reduceCtorEq, ne_eq, not_false_eq_true, implies_true, and_self, if_true, if_false, Bool.false_eq_true, true_and, and_true, shD, t_st, t_b2, t_cm, t_ct, t_ifT, t_ifF, t_ls, t_tu, t_co, t_le, t_ca, t_cn, t_cd, t_seT, t_seF, q_cfN, q_cfT, t_no, t_nTT, t_nFF, t_nTF, t_nFT, t_tsAT, t_tsAF, t_tsOT, t_tsOF, t_it, t_zi, t_en, t_re, t_thN, t_thR, t_fin, t_siT, t_siF, t_rt, t_fo, t_as, t_al, t_am, t_at, t_su, t_au, t_ax, t_ay, t_ap, t_ex, t_tg, q_tscons, idxD, List.length_map, hb, e1, e3, Int.toNat_natCast, behindInMarks, cmpD, isEq, isNe, isNi, cmpI, hq, decide_false]
  · simp (config := { decide := true }) only [↓reduceIte, q_name, q_int, q_bool, q_bin, q_cmp, q_if, q_from, q_upto, q_subN, q_subC, q_subB, q_subS, q_list, q_tuple, q_comp, q_len, q_call, q_count, q_bname, q_bsub, q_btup, q_tnot, q_tbool, q_tcmp, q_tname, q_tcall, q_tsnA, q_tsnO, q_esnil, q_escons, q_itname, q_itsub, q_itrng, q_itrev, q_itzip, q_itenum, q_nil, q_ok, q_cons, q_asgName, q_asgList, q_asgMul, q_asgTup, q_asgSub, q_aug, q_augSub, q_for, q_while, q_ifs, q_ret, q_app, q_ext, q_freeze, n_name, n_tuple, n_list, n_bin, n_sub, n_call, n_const, n_slice, n_cmp, n_if, n_comp, List.flatMap_cons, List.flatMap_nil, List.append_nil, List.cons_append, List.nil_append, q_rho0, q_upd, q_fnL, q_compRho, updAll, q_tgN, q_tgT, q_asI, q_asL, Option.bind_some, Option.map_some, reduceCtorEq, ne_eq, not_false_eq_true, implies_true, and_self, if_true, if_false, Bool.false_eq_true, true_and, and_true, shD, t_st, t_b2, t_cm, t_ct, t_ifT, t_ifF, t_ls, t_tu, t_co, t_le, t_ca, t_cn, t_cd, t_seT, t_seF, q_cfN, q_cfT, t_no, t_nTT, t_nFF, t_nTF, t_nFT, t_tsAT, t_tsAF, t_tsOT, t_tsOF, t_it, t_zi, t_en, t_re, t_thN, t_thR, t_fin, t_siT, t_siF, t_rt, t_fo, t_as, t_al, t_am, t_at, t_su, t_au, t_ax, t_ay, t_ap, t_ex, t_tg, q_tscons, sorted_eq (show cs.length ≤ 50 by first | lia | omega), binD, binI, binL, binR, isAdd, isMul, hlt, hn0, List.length_cons, List.length_nil, List.length_map, hb, hob, φlen, Int.toNat_natCast, flat_rep, truD, c6, Bool.not_false, cmpD, isEq, isNe, isNi, cmpI, c1, c2, c3, c4, c5, decide_false]
    rw [comp_map (g := fun d => match d with | .tup [a, _] => a | d => d) (fun d hd => ?_)]
    rotate_left
    · obtain ⟨p, hp, rfl⟩ := List.mem_map.mp hd
      simp (config := { decide := true }) only [↓reduceIte, q_name, q_int, q_bool, q_bin, q_cmp, q_if, q_from, q_upto, q_subN, q_subC, q_subB, q_subS, q_list, q_tuple, q_comp, q_len, q_call, q_count, q_bname, q_bsub, q_btup, q_tnot, q_tbool, q_tcmp, q_tname, q_tcall, q_tsnA, q_tsnO, q_esnil, q_escons, q_itname, q_itsub, q_itrng, q_itrev, q_itzip, q_itenum, q_nil, q_ok, q_cons, q_asgName, q_asgList, q_asgMul, q_asgTup, q_asgSub, q_aug, q_augSub, q_for, q_while, q_ifs, q_ret, q_app, q_ext, q_freeze, n_name, n_tuple, n_list, n_bin, n_sub, n_call, n_const, n_slice, n_cmp, n_if, n_comp, List.flatMap_cons, List.flatMap_nil, List.append_nil, List.cons_append, List.nil_append, q_rho0, q_upd, q_fnL, q_compRho, updAll, q_tgN, q_tgT, q_asI, q_asL, Option.bind_some, Option.map_some, reduceCtorEq, ne_eq, not_false_eq_true, implies_true, and_self, if_true, if_false, Bool.false_eq_true, true_and, and_true, shD, t_st, t_b2, t_cm, t_ct, t_ifT, t_ifF, t_ls, t_tu, t_co, t_le, t_ca, t_cn, t_cd, t_seT, t_seF, q_cfN, q_cfT, t_no, t_nTT, t_nFF, t_nTF, t_nFT, t_tsAT, t_tsAF, t_tsOT, t_tsOF, t_it, t_zi, t_en, t_re, t_thN, t_thR, t_fin, t_siT, t_siF, t_rt, t_fo, t_as, t_al, t_am, t_at, t_su, t_au, t_ax, t_ay, t_ap, t_ex, t_tg, q_tscons, pairD]
    · have hws : (List.map (fun d => match d with | .tup [a, _] => a | d => d) (List.map pairD (ordF cs))) = List.map D.int ((ordF cs).map (·.1)) := by
        simp only [List.map_map]; rfl
      have hrows := φ_rows_eq ((ordF cs).map (·.1)) n (by simp; (first | lia | omega)) hn
      simp only [il] at hrows
      have hmul : ((2 : Int) * ((ordF cs).length : Int) - 2) = ((2 * (ordF cs).length - 2 : Nat) : Int) := by first | lia | omega
      rw [hws]
      simp (config := { decide := true }) only [↓reduceIte, q_name, q_int, q_bool, q_bin, q_cmp, q_if, q_from, q_upto, q_subN, q_subC, q_subB, q_subS, q_list, q_tuple, q_comp, q_len, q_call, q_count, q_bname, q_bsub, q_btup, q_tnot, q_tbool, q_tcmp, q_tname, q_tcall, q_tsnA, q_tsnO, q_esnil, q_escons, q_itname, q_itsub, q_itrng, q_itrev, q_itzip, q_itenum, q_nil, q_ok, q_cons, q_asgName, q_asgList, q_asgMul, q_asgTup, q_asgSub, q_aug, q_augSub, q_for, q_while, q_ifs, q_ret, q_app, q_ext, q_freeze, n_name, n_tuple, n_list, n_bin, n_sub, n_call, n_const, n_slice, n_cmp, n_if, n_comp, List.flatMap_cons, List.flatMap_nil, List.append_nil, List.cons_append, List.nil_append, q_rho0, q_upd, q_fnL, q_compRho, updAll, q_tgN, q_tgT, q_asI, q_asL, Option.bind_some, Option.map_some, reduceCtorEq, ne_eq, not_false_eq_true, implies_true, and_self, if_true, if_false, Bool.false_eq_true, true_and, and_true, shD, t_st, t_b2, t_cm, t_ct, t_ifT, t_ifF, t_ls, t_tu, t_co, t_le, t_ca, t_cn, t_cd, t_seT, t_seF, q_cfN, q_cfT, t_no, t_nTT, t_nFF, t_nTF, t_nFT, t_tsAT, t_tsAF, t_tsOT, t_tsOF, t_it, t_zi, t_en, t_re, t_thN, t_thR, t_fin, t_siT, t_siF, t_rt, t_fo, t_as, t_al, t_am, t_at, t_su, t_au, t_ax, t_ay, t_ap, t_ex, t_tg, q_tscons, hrows, φlen, List.length_map, hob, binD, binI, binL, binR, isAdd, isMul, hmul]
      refine (loop_ok (fun s ρ => (ρ "lengths" = some (.own (s.1.map .int)) ∧ ρ "wanted" = some (.st (.int s.2)) ∧ ρ "order" = some (.st (.lst ((ordF cs).map pairD)))) ∧ s.1.length = cs.length) (fun s d => cStep (ordF cs) s (ofBs d)) 120 (List.replicate cs.length 0, 2 * (ordF cs).length - 2) (fun m s ρ d hd hi => ?_) ?_ ?_).bind fun ρ' hi => ?_
      · rw [List.mem_reverse] at hd
        obtain ⟨fl, hfl, rfl⟩ := List.mem_map.mp hd
        have hfll := rows_len _ _ fl hfl
        simp only [List.length_map] at hfll
        obtain ⟨⟨i1, i2, i3⟩, hll⟩ := hi
        have hfb : fl.length ≤ big := by unfold big; (first | lia | omega)
        have z0 : (0 : Int) ≤ (s.2 : Int) := by first | lia | omega
        have hcl := cCnt_le fl s.2
        have hcnt : cntD true (.lst ((fl.map D.bool).take s.2)) = some (.int (cCnt fl s.2)) := by
          rw [← List.map_take]
          simp only [cntD, boolsOf_map, Option.map_some, cCnt]
        have z1 : (0 : Int) ≤ (cCnt fl s.2 : Int) := by first | lia | omega
        have hor : (ordF cs).length ≤ big := hob
        have hmul : ((2 : Int) * ((s.2 : Int) - (cCnt fl s.2 : Int))) = ((2 * (s.2 - cCnt fl s.2) : Nat) : Int) := by first | lia | omega
        rw [ofBs_bl]
        simp (config := { decide := true }) only [↓reduceIte, q_name, q_int, q_bool, q_bin, q_cmp, q_if, q_from, q_upto, q_subN, q_subC, q_subB, q_subS, q_list, q_tuple, q_comp, q_len, q_call, q_count, q_bname, q_bsub, q_btup, q_tnot, q_tbool, q_tcmp, q_tname, q_tcall, q_tsnA, q_tsnO, q_esnil, q_escons, q_itname, q_itsub, q_itrng, q_itrev, q_itzip, q_itenum, q_nil, q_ok, q_cons, q_asgName, q_asgList, q_asgMul, q_asgTup, q_asgSub, q_aug, q_augSub, q_for, q_while, q_ifs, q_ret, q_app, q_ext, q_freeze, n_name, n_tuple, n_list, n_bin, n_sub, n_call, n_const, n_slice, n_cmp, n_if, n_comp, List.flatMap_cons, List.flatMap_nil, List.append_nil, List.cons_append, List.nil_append, q_rho0, q_upd, q_fnL, q_compRho, updAll, q_tgN, q_tgT, q_asI, q_asL, Option.bind_some, Option.map_some, reduceCtorEq, ne_eq, not_false_eq_true, implies_true, and_self, if_true, if_false, Bool.false_eq_true, true_and, and_true, shD, t_st, t_b2, t_cm, t_ct, t_ifT, t_ifF, t_ls, t_tu, t_co, t_le, t_ca, t_cn, t_cd, t_seT, t_seF, q_cfN, q_cfT, t_no, t_nTT, t_nFF, t_nTF, t_nFT, t_tsAT, t_tsAF, t_tsOT, t_tsOF, t_it, t_zi, t_en, t_re, t_thN, t_thR, t_fin, t_siT, t_siF, t_rt, t_fo, t_as, t_al, t_am, t_at, t_su, t_au, t_ax, t_ay, t_ap, t_ex, t_tg, q_tscons, Γ_code_lengths, i1, i2, i3, bl, uptoD, z0, List.length_map, hfb, Int.toNat_natCast, hcnt, z1, hor]
        refine (loop_ok (fun l ρ => (ρ "lengths" = some (.own (l.map .int)) ∧ ρ "wanted" = some (.st (.int s.2)) ∧ ρ "order" = some (.st (.lst ((ordF cs).map pairD))) ∧ ρ "leaves" = some (.st (.int (cCnt fl s.2)))) ∧ l.length = cs.length) (fun l d => match d with | .tup [_, .int y] => incAt l y | _ => l) 40 s.1 (fun m l ρ d hd hi => ?_) ?_ ?_).bindOk fun ρ2 hi => ?_
        · rw [← List.map_take] at hd
          obtain ⟨p, hp, rfl⟩ := List.mem_map.mp hd
          have hpm := ordF_mem (List.mem_of_mem_take hp)
          obtain ⟨⟨i1, i2, i3, i4⟩, hll⟩ := hi
          have g0 := hpm.2.1
          have g1 : p.2.toNat < l.length := by rw [hll]; exact hpm.2.2.1
          have g2 : l.length ≤ big := by first | lia | omega
          simp (config := { decide := true }) only [↓reduceIte, q_name, q_int, q_bool, q_bin, q_cmp, q_if, q_from, q_upto, q_subN, q_subC, q_subB, q_subS, q_list, q_tuple, q_comp, q_len, q_call, q_count, q_bname, q_bsub, q_btup, q_tnot, q_tbool, q_tcmp, q_tname, q_tcall, q_tsnA, q_tsnO, q_esnil, q_escons, q_itname, q_itsub, q_itrng, q_itrev, q_itzip, q_itenum, q_nil, q_ok, q_cons, q_asgName, q_asgList, q_asgMul, q_asgTup, q_asgSub, q_aug, q_augSub, q_for, q_while, q_ifs, q_ret, q_app, q_ext, q_freeze, n_name, n_tuple, n_list, n_bin, n_sub, n_call, n_const, n_slice, n_cmp, n_if, n_comp, List.flatMap_cons, List.flatMap_nil, List.append_nil, List.cons_append, List.nil_append, q_rho0, q_upd, q_fnL, q_compRho, updAll, q_tgN, q_tgT, q_asI, q_asL, Option.bind_some, Option.map_some, reduceCtorEq, ne_eq, not_false_eq_true, implies_true, and_self, if_true, if_false, Bool.false_eq_true, true_and, and_true, shD, t_st, t_b2, t_cm, t_ct, t_ifT, t_ifF, t_ls, t_tu, t_co, t_le, t_ca, t_cn, t_cd, t_seT, t_seF, q_cfN, q_cfT, t_no, t_nTT, t_nFF, t_nTF, t_nFT, t_tsAT, t_tsAF, t_tsOT, t_tsOF, t_it, t_zi, t_en, t_re, t_thN, t_thR, t_fin, t_siT, t_siF, t_rt, t_fo, t_as, t_al, t_am, t_at, t_su, t_au, t_ax, t_ay, t_ap, t_ex, t_tg, q_tscons, pairD, i1, i2, i3, i4, List.length_map, g0, g1, g2, get_map g1]
          exact ⟨by unfold incAt; rw [List.map_set], by simp [incAt, hll]⟩
        · simp (config := { decide := true }) only [↓reduceIte, q_name, q_int, q_bool, q_bin, q_cmp, q_if, q_from, q_upto, q_subN, q_subC, q_subB, q_subS, q_list, q_tuple, q_comp, q_len, q_call, q_count, q_bname, q_bsub, q_btup, q_tnot, q_tbool, q_tcmp, q_tname, q_tcall, q_tsnA, q_tsnO, q_esnil, q_escons, q_itname, q_itsub, q_itrng, q_itrev, q_itzip, q_itenum, q_nil, q_ok, q_cons, q_asgName, q_asgList, q_asgMul, q_asgTup, q_asgSub, q_aug, q_augSub, q_for, q_while, q_ifs, q_ret, q_app, q_ext, q_freeze, n_name, n_tuple, n_list, n_bin, n_sub, n_call, n_const, n_slice, n_cmp, n_if, n_comp, List.flatMap_cons, List.flatMap_nil, List.append_nil, List.cons_append, List.nil_append, q_rho0, q_upd, q_fnL, q_compRho, updAll, q_tgN, q_tgT, q_asI, q_asL, Option.bind_some, Option.map_some, reduceCtorEq, ne_eq, not_false_eq_true, implies_true, and_self, if_true, if_false, Bool.false_eq_true, true_and, and_true, shD, t_st, t_b2, t_cm, t_ct, t_ifT, t_ifF, t_ls, t_tu, t_co, t_le, t_ca, t_cn, t_cd, t_seT, t_seF, q_cfN, q_cfT, t_no, t_nTT, t_nFF, t_nTF, t_nFT, t_tsAT, t_tsAF, t_tsOT, t_tsOF, t_it, t_zi, t_en, t_re, t_thN, t_thR, t_fin, t_siT, t_siF, t_rt, t_fo, t_as, t_al, t_am, t_at, t_su, t_au, t_ax, t_ay, t_ap, t_ex, t_tg, q_tscons, i1, i2, i3, hll]
        · simp; (first | lia | omega)
        · obtain ⟨⟨i1, i2, i3, i4⟩, hll2⟩ := hi
          have hfl2 : List.foldl (fun l d => match d with | .tup [_, .int y] => incAt l y | _ => l) s.1 (List.take (cCnt fl s.2) ((ordF cs).map pairD)) = ((ordF cs).take (cCnt fl s.2)).foldl (fun l p => incAt l p.2) s.1 := by
            rw [← List.map_take, List.foldl_map]; rfl
          rw [hfl2] at i1 hll2
          simp (config := { decide := true }) only [↓reduceIte, q_name, q_int, q_bool, q_bin, q_cmp, q_if, q_from, q_upto, q_subN, q_subC, q_subB, q_subS, q_list, q_tuple, q_comp, q_len, q_call, q_count, q_bname, q_bsub, q_btup, q_tnot, q_tbool, q_tcmp, q_tname, q_tcall, q_tsnA, q_tsnO, q_esnil, q_escons, q_itname, q_itsub, q_itrng, q_itrev, q_itzip, q_itenum, q_nil, q_ok, q_cons, q_asgName, q_asgList, q_asgMul, q_asgTup, q_asgSub, q_aug, q_augSub, q_for, q_while, q_ifs, q_ret, q_app, q_ext, q_freeze, n_name, n_tuple, n_list, n_bin, n_sub, n_call, n_const, n_slice, n_cmp, n_if, n_comp, List.flatMap_cons, List.flatMap_nil, List.append_nil, List.cons_append, List.nil_append, q_rho0, q_upd, q_fnL, q_compRho, updAll, q_tgN, q_tgT, q_asI, q_asL, Option.bind_some, Option.map_some, reduceCtorEq, ne_eq, not_false_eq_true, implies_true, and_self, if_true, if_false, Bool.false_eq_true, true_and, and_true, shD, t_st, t_b2, t_cm, t_ct, t_ifT, t_ifF, t_ls, t_tu, t_co, t_le, t_ca, t_cn, t_cd, t_seT, t_seF, q_cfN, q_cfT, t_no, t_nTT, t_nFF, t_nTF, t_nFT, t_tsAT, t_tsAF, t_tsOT, t_tsOF, t_it, t_zi, t_en, t_re, t_thN, t_thR, t_fin, t_siT, t_siF, t_rt, t_fo, t_as, t_al, t_am, t_at, t_su, t_au, t_ax, t_ay, t_ap, t_ex, t_tg, q_tscons, i1, i2, i3, i4, binD, binI, binL, binR, isAdd, isMul, hmul, cStep]
          exact hll2
      · simp (config := { decide := true }) only [↓reduceIte, q_name, q_int, q_bool, q_bin, q_cmp, q_if, q_from, q_upto, q_subN, q_subC, q_subB, q_subS, q_list, q_tuple, q_comp, q_len, q_call, q_count, q_bname, q_bsub, q_btup, q_tnot, q_tbool, q_tcmp, q_tname, q_tcall, q_tsnA, q_tsnO, q_esnil, q_escons, q_itname, q_itsub, q_itrng, q_itrev, q_itzip, q_itenum, q_nil, q_ok, q_cons, q_asgName, q_asgList, q_asgMul, q_asgTup, q_asgSub, q_aug, q_augSub, q_for, q_while, q_ifs, q_ret, q_app, q_ext, q_freeze, n_name, n_tuple, n_list, n_bin, n_sub, n_call, n_const, n_slice, n_cmp, n_if, n_comp, List.flatMap_cons, List.flatMap_nil, List.append_nil, List.cons_append, List.nil_append, q_rho0, q_upd, q_fnL, q_compRho, updAll, q_tgN, q_tgT, q_asI, q_asL, Option.bind_some, Option.map_some, reduceCtorEq, ne_eq, not_false_eq_true, implies_true, and_self, if_true, if_false, Bool.false_eq_true, true_and, and_true, shD, t_st, t_b2, t_cm, t_ct, t_ifT, t_ifF, t_ls, t_tu, t_co, t_le, t_ca, t_cn, t_cd, t_seT, t_seF, q_cfN, q_cfT, t_no, t_nTT, t_nFF, t_nTF, t_nFT, t_tsAT, t_tsAF, t_tsOT, t_tsOF, t_it, t_zi, t_en, t_re, t_thN, t_thR, t_fin, t_siT, t_siF, t_rt, t_fo, t_as, t_al, t_am, t_at, t_su, t_au, t_ax, t_ay, t_ap, t_ex, t_tg, q_tscons, List.map_replicate, List.length_replicate]
      · simp
        have : (rowsF ((ordF cs).map (·.1)) n).1.length = n := by
          have : ∀ n, ROk ((ordF cs).map (·.1)) n (rowsF ((ordF cs).map (·.1)) n) := by
            intro n
            induction n with
            | zero => exact ⟨rfl, Nat.zero_le _, rfl⟩
            | succ n ih => exact rOk_step ih
          exact (this n).r
        (first | lia | omega)
      · obtain ⟨⟨i1, i2, i3⟩, hll⟩ := hi
        rw [← List.map_reverse, List.foldl_map] at i1
        simp only [ofBs_bl] at i1
        simp (config := { decide := true }) only [↓reduceIte, q_name, q_int, q_bool, q_bin, q_cmp, q_if, q_from, q_upto, q_subN, q_subC, q_subB, q_subS, q_list, q_tuple, q_comp, q_len, q_call, q_count, q_bname, q_bsub, q_btup, q_tnot, q_tbool, q_tcmp, q_tname, q_tcall, q_tsnA, q_tsnO, q_esnil, q_escons, q_itname, q_itsub, q_itrng, q_itrev, q_itzip, q_itenum, q_nil, q_ok, q_cons, q_asgName, q_asgList, q_asgMul, q_asgTup, q_asgSub, q_aug, q_augSub, q_for, q_while, q_ifs, q_ret, q_app, q_ext, q_freeze, n_name, n_tuple, n_list, n_bin, n_sub, n_call, n_const, n_slice, n_cmp, n_if, n_comp, List.flatMap_cons, List.flatMap_nil, List.append_nil, List.cons_append, List.nil_append, q_rho0, q_upd, q_fnL, q_compRho, updAll, q_tgN, q_tgT, q_asI, q_asL, Option.bind_some, Option.map_some, reduceCtorEq, ne_eq, not_false_eq_true, implies_true, and_self, if_true, if_false, Bool.false_eq_true, true_and, and_true, shD, t_st, t_b2, t_cm, t_ct, t_ifT, t_ifF, t_ls, t_tu, t_co, t_le, t_ca, t_cn, t_cd, t_seT, t_seF, q_cfN, q_cfT, t_no, t_nTT, t_nFF, t_nTF, t_nFT, t_tsAT, t_tsAF, t_tsOT, t_tsOF, t_it, t_zi, t_en, t_re, t_thN, t_thR, t_fin, t_siT, t_siF, t_rt, t_fo, t_as, t_al, t_am, t_at, t_su, t_au, t_ax, t_ay, t_ap, t_ex, t_tg, q_tscons, i1, codeF]
end Mine
end

section
open PySem PySem.W PyProof.Rows PySem.Calls PySem.SeqAt
set_option linter.all false
set_option maxRecDepth 100000
set_option maxHeartbeats 4000000
namespace Mine

theorem t_ok {n : Nat} {lv : List Nd} (hL : LvOk n lv) : ∀ (j : Nat) {s : TS}, TSok n lv s → TSok n lv (whileF (tGo lv) (tStep lv) j s)
  | 0, s, h => h
  | j + 1, s, h => by
    unfold whileF
    cases e : tGo lv s with
    | false => simpa using h
    | true =>
      simp only [if_true]
      rw [ts_go h] at e
      exact t_ok hL j (ts_step hL h (by simpa using e))
theorem treeF_len (cs : List Int) : (treeF cs).length = cs.length :=
  (t_ok leaves_ok (ordF cs).length (s := (ls0 cs, [], 0, 0)) ⟨rfl, Nat.zero_le _, Nat.le_refl _, Nat.zero_le _, fun x hx => (nomatch hx), fun x hx => (nomatch hx), ls0_len cs⟩).ll

noncomputable def prods (cs ls : List Int) : List Int := (List.range cs.length).map fun i => cs.getD i 0 * ls.getD i 0
noncomputable def lawF (cs : List Int) : Int := (prods cs (treeF cs)).sum

theorem φ_law_eq (cs : List Int) (h : cs.length ≤ 8) (hc : ∀ i, i < cs.length → (cs.getD i 0).natAbs < 2 ^ 62) (hp : ∀ x ∈ prods cs (treeF cs), 0 ≤ x ∧ x < 2 ^ 40) : φ__law_cost [il cs] = some (.int (lawF cs)) := by
  unfold φ__law_cost φdef
  rw [if_pos (by rfl)]
  conv => lhs; arg 1; arg 4; whnf
  have hb : cs.length ≤ big := by unfold big; (first | lia | omega)
  have hb2 : (treeF cs).length ≤ big := by rw [treeF_len]; exact hb
  have h40 : Int.natAbs (cs.length : Int) < 2 ^ 40 := by first | lia | omega
  have hrl : (rangeD 0 1 cs.length).length ≤ big := by simpa [rangeD] using hb
  have ht := φ_tree_eq cs h
  simp only [il] at ht
  simp (config := { decide := true }) only [↓reduceIte, q_name, q_int, q_bool, q_bin, q_cmp, q_if, q_from, q_upto, q_subN, q_subC, q_subB, q_subS, q_list, q_tuple, q_comp, q_len, q_call, q_count, q_bname, q_bsub, q_btup, q_tnot, q_tbool, q_tcmp, q_tname, q_tcall, q_tsnA, q_tsnO, q_esnil, q_escons, q_itname, q_itsub, q_itrng, q_itrev, q_itzip, q_itenum, q_nil, q_ok, q_cons, q_asgName, q_asgList, q_asgMul, q_asgTup, q_asgSub, q_aug, q_augSub, q_for, q_while, q_ifs, q_ret, q_app, q_ext, q_freeze, n_name, n_tuple, n_list, n_bin, n_sub, n_call, n_const, n_slice, n_cmp, n_if, n_comp, List.flatMap_cons, List.flatMap_nil, List.append_nil, List.cons_append, List.nil_append, q_rho0, q_upd, q_fnL, q_compRho, updAll, q_tgN, q_tgT, q_asI, q_asL, Option.bind_some, Option.map_some, reduceCtorEq, ne_eq, not_false_eq_true, implies_true, and_self, if_true, if_false, Bool.false_eq_true, true_and, and_true, shD, t_st, t_b2, t_cm, t_ct, t_ifT, t_ifF, t_ls, t_tu, t_co, t_le, t_ca, t_cn, t_cd, t_seT, t_seF, q_cfN, q_cfT, t_no, t_nTT, t_nFF, t_nTF, t_nFT, t_tsAT, t_tsAF, t_tsOT, t_tsOF, t_it, t_zi, t_en, t_re, t_thN, t_thR, t_fin, t_siT, t_siF, t_rt, t_fo, t_as, t_al, t_am, t_at, t_su, t_au, t_ax, t_ay, t_ap, t_ex, t_tg, q_tscons, Γ__law_cost, φlen, il, List.length_map, hb, rangeOf, h40, Int.toNat_natCast, hrl, ht]
  rw [comp_map (g := fun d => .int (cs.getD (ofI d).toNat 0 * (treeF cs).getD (ofI d).toNat 0)) (fun d hd => ?_)]
  rotate_left
  · obtain ⟨i, hi, rfl⟩ := List.mem_map.mp hd
    have hi2 : i < cs.length := by simpa using hi
    have e0 : (0 + (i : Int) * 1) = (i : Int) := by first | lia | omega
    have e1 : (cs.map D.int)[i]? = some (.int (cs.getD i 0)) := get_map hi2
    have e2 : ((treeF cs).map D.int)[i]? = some (.int ((treeF cs).getD i 0)) := get_map (by rw [treeF_len]; exact hi2)
    have e3 : (0 : Int) ≤ (i : Int) := by first | lia | omega
    have hn := hc i hi2
    rw [e0]
    simp (config := { decide := true }) only [↓reduceIte, q_name, q_int, q_bool, q_bin, q_cmp, q_if, q_from, q_upto, q_subN, q_subC, q_subB, q_subS, q_list, q_tuple, q_comp, q_len, q_call, q_count, q_bname, q_bsub, q_btup, q_tnot, q_tbool, q_tcmp, q_tname, q_tcall, q_tsnA, q_tsnO, q_esnil, q_escons, q_itname, q_itsub, q_itrng, q_itrev, q_itzip, q_itenum, q_nil, q_ok, q_cons, q_asgName, q_asgList, q_asgMul, q_asgTup, q_asgSub, q_aug, q_augSub, q_for, q_while, q_ifs, q_ret, q_app, q_ext, q_freeze, n_name, n_tuple, n_list, n_bin, n_sub, n_call, n_const, n_slice, n_cmp, n_if, n_comp, List.flatMap_cons, List.flatMap_nil, List.append_nil, List.cons_append, List.nil_append, q_rho0, q_upd, q_fnL, q_compRho, updAll, q_tgN, q_tgT, q_asI, q_asL, Option.bind_some, Option.map_some, reduceCtorEq, ne_eq, not_false_eq_true, implies_true, and_self, if_true, if_false, Bool.false_eq_true, true_and, and_true, shD, t_st, t_b2, t_cm, t_ct, t_ifT, t_ifF, t_ls, t_tu, t_co, t_le, t_ca, t_cn, t_cd, t_seT, t_seF, q_cfN, q_cfT, t_no, t_nTT, t_nFF, t_nTF, t_nFT, t_tsAT, t_tsAF, t_tsOT, t_tsOF, t_it, t_zi, t_en, t_re, t_thN, t_thR, t_fin, t_siT, t_siF, t_rt, t_fo, t_as, t_al, t_am, t_at, t_su, t_au, t_ax, t_ay, t_ap, t_ex, t_tg, q_tscons, idxD, List.length_map, hb, hb2, e1, e2, e3, Int.toNat_natCast, binD, binI, binL, binR, isAdd, isMul, hn, ofI]
  · have hm : (rangeD 0 1 cs.length).map (fun d => D.int (cs.getD (ofI d).toNat 0 * (treeF cs).getD (ofI d).toNat 0)) = (prods cs (treeF cs)).map D.int := by
      simp only [rangeD, prods, List.map_map]
      refine List.map_congr_left fun i _ => ?_
      have e0 : (0 + (i : Int) * 1) = (i : Int) := by first | lia | omega
      simp only [Function.comp, ofI, e0, Int.toNat_natCast]
    have hsum : φsum [.lst ((prods cs (treeF cs)).map D.int)] = some (.int (lawF cs)) := by
      simp only [φsum, intsOf_map, Option.bind_some]
      rw [if_pos ⟨by simp [prods]; exact hb, by
        rw [List.all_eq_true]
        intro x hx
        simpa using hp x hx⟩]
      rfl
    rw [hm]
    simp (config := { decide := true }) only [↓reduceIte, q_name, q_int, q_bool, q_bin, q_cmp, q_if, q_from, q_upto, q_subN, q_subC, q_subB, q_subS, q_list, q_tuple, q_comp, q_len, q_call, q_count, q_bname, q_bsub, q_btup, q_tnot, q_tbool, q_tcmp, q_tname, q_tcall, q_tsnA, q_tsnO, q_esnil, q_escons, q_itname, q_itsub, q_itrng, q_itrev, q_itzip, q_itenum, q_nil, q_ok, q_cons, q_asgName, q_asgList, q_asgMul, q_asgTup, q_asgSub, q_aug, q_augSub, q_for, q_while, q_ifs, q_ret, q_app, q_ext, q_freeze, n_name, n_tuple, n_list, n_bin, n_sub, n_call, n_const, n_slice, n_cmp, n_if, n_comp, List.flatMap_cons, List.flatMap_nil, List.append_nil, List.cons_append, List.nil_append, q_rho0, q_upd, q_fnL, q_compRho, updAll, q_tgN, q_tgT, q_asI, q_asL, Option.bind_some, Option.map_some, reduceCtorEq, ne_eq, not_false_eq_true, implies_true, and_self, if_true, if_false, Bool.false_eq_true, true_and, and_true, shD, t_st, t_b2, t_cm, t_ct, t_ifT, t_ifF, t_ls, t_tu, t_co, t_le, t_ca, t_cn, t_cd, t_seT, t_seF, q_cfN, q_cfT, t_no, t_nTT, t_nFF, t_nTF, t_nFT, t_tsAT, t_tsAF, t_tsOT, t_tsOF, t_it, t_zi, t_en, t_re, t_thN, t_thR, t_fin, t_siT, t_siF, t_rt, t_fo, t_as, t_al, t_am, t_at, t_su, t_au, t_ax, t_ay, t_ap, t_ex, t_tg, q_tscons, hsum]
end Mine
end

section
open PySem PySem.W PyProof.Rows PySem.Calls PySem.SeqAt
set_option linter.all false
set_option maxRecDepth 100000
set_option maxHeartbeats 4000000
namespace Mine

/-- a node: its weight, and the symbols below with their depths -/
noncomputable abbrev HN (α : Type) := Nat × List (α × Nat)
noncomputable def leafN {α : Type} (p : Nat × α) : HN α := (p.1, [(p.2, 0)])
noncomputable abbrev HQ (α : Type) := List (Nat × α) × List (HN α)
noncomputable def pickH {α : Type} : HQ α → HN α × HQ α
  | ([], []) => ((0, []), ([], []))
  | (p :: lv, []) => (leafN p, (lv, []))
  | ([], x :: jd) => (x, ([], jd))
  | (p :: lv, x :: jd) => bif Nat.ble p.1 x.1 then (leafN p, (lv, x :: jd)) else (x, (p :: lv, jd))
noncomputable def upD {α : Type} (p : α × Nat) : α × Nat := (p.1, p.2 + 1)
noncomputable def stepH {α : Type} (q : HQ α) : HQ α :=
  let a := pickH q
  let b := pickH a.2
  (b.2.1, b.2.2 ++ [(a.1.1 + b.1.1, (a.1.2 ++ b.1.2).map upD)])
noncomputable def runH {α : Type} : Nat → HQ α → HQ α
  | 0, q => q
  | k + 1, q => runH k (stepH q)
noncomputable def symsQ {α : Type} (q : HQ α) : List α := q.1.map (·.2) ++ q.2.flatMap fun y => y.2.map (·.1)
/-- symbols and depths -/
noncomputable def hufA {α : Type} (o : List (Nat × α)) : List (α × Nat) := ((runH (o.length - 1) (o, [])).2.headD (0, [])).2

theorem pick_syms {α : Type} (q : HQ α) : (symsQ q).Perm ((pickH q).1.2.map (·.1) ++ symsQ (pickH q).2) := by
  match q with
  | ([], []) => exact .refl _
  | (p :: lv, []) => simp [pickH, leafN, symsQ]
  | ([], x :: jd) => simp [pickH, symsQ]
  | (p :: lv, x :: jd) =>
    simp only [pickH]
    cases Nat.ble p.1 x.1 with
    | true => simp [leafN, symsQ]
    | false =>
      simp only [cond_false, symsQ, List.flatMap_cons]
      exact (List.perm_append_comm_assoc _ _ _)

theorem step_syms {α : Type} (q : HQ α) : (symsQ q).Perm (symsQ (stepH q)) := by
  have h1 := pick_syms q
  have h2 := pick_syms (pickH q).2
  refine (h1.trans (h2.append_left _)).trans ?_
  simp only [stepH, symsQ, List.flatMap_append, List.flatMap_cons, List.flatMap_nil, List.append_nil, List.map_append, List.map_map]
  have e : ∀ l : List (α × Nat), List.map ((fun x => x.1) ∘ upD) l = l.map (·.1) := fun l => List.map_congr_left fun p _ => rfl
  rw [e, e]
  generalize (pickH q).1.2.map (·.1) = A
  generalize (pickH (pickH q).2).1.2.map (·.1) = B
  generalize (pickH (pickH q).2).2.1.map (·.2) = C
  generalize ((pickH (pickH q).2).2.2.flatMap fun y => y.2.map (·.1)) = D
  -- A ++ (B ++ (C ++ D)) ~ C ++ (D ++ (A ++ B))
  have : (A ++ (B ++ (C ++ D))) = ((A ++ B) ++ (C ++ D)) := by simp
  rw [this]
  have h3 : (C ++ (D ++ (A ++ B))) = ((C ++ D) ++ (A ++ B)) := by simp
  rw [h3]
  exact List.perm_append_comm

noncomputable def nL (p : Nat × Int) : Nd := ((p.1 : Int), [p.2])
noncomputable def nJ (y : HN Int) : Nd := ((y.1 : Int), y.2.map (·.1))

structure Sim (n : Nat) (lvS : List Nd) (s : TS) (q : HQ Int) : Prop where
  hl : lvS.drop s.2.2.1 = q.1.map nL
  hj : s.2.1.drop s.2.2.2 = q.2.map nJ
  dep : ∀ y ∈ q.2, ∀ p ∈ y.2, s.1.getD p.1.toNat 0 = (p.2 : Int)
  lz : ∀ p ∈ q.1, s.1.getD p.2.toNat 0 = 0
  nd : (symsQ q).Nodup
  rng : ∀ a ∈ symsQ q, 0 ≤ a ∧ a.toNat < n
  oz : ∀ i, (∀ a ∈ symsQ q, a.toNat ≠ i) → s.1.getD i 0 = 0
  ll : s.1.length = n

/-- one turn takes what the queues give -/
theorem turn_sim {lvS jdS : List Nd} {t : TT} {q : HQ Int} (hl : lvS.drop t.2.2.1 = q.1.map nL) (hj : jdS.drop t.2.2.2 = q.2.map nJ) (htr : t.2.2.2 ≤ jdS.length) (hne : q.1 ≠ [] ∨ q.2 ≠ []) :
    (tTurn lvS jdS t).1 = t.1 + ((pickH q).1.1 : Int) ∧ (tTurn lvS jdS t).2.1 = t.2.1 ++ (pickH q).1.2.map (·.1) ∧ lvS.drop (tTurn lvS jdS t).2.2.1 = (pickH q).2.1.map nL ∧ jdS.drop (tTurn lvS jdS t).2.2.2 = (pickH q).2.2.map nJ := by
  have hd0 : ∀ {l : List Nd} {k : Nat} {x : Nd} {r : List Nd}, l.drop k = x :: r → k < l.length ∧ l.getD k (0, []) = x ∧ l.drop (k + 1) = r := by
    intro l k x r e
    have hk : k < l.length := by
      rcases Nat.lt_or_ge k l.length with h | h
      · exact h
      · rw [List.drop_eq_nil_of_le h] at e; cases e
    rw [List.drop_eq_getElem_cons hk] at e
    simp only [List.cons.injEq] at e
    exact ⟨hk, by simp [hk, e.1], e.2⟩
  have hdn : ∀ {l : List Nd} {k : Nat}, l.drop k = [] → l.length ≤ k := fun e => List.drop_eq_nil_iff.mp e
  match q, hne with
  | (p :: lv, []), _ =>
    obtain ⟨a1, a2, a3⟩ := hd0 hl
    have a4 := hdn hj
    have e : tLeft lvS jdS t.2.2.1 t.2.2.2 = true := by
      have : t.2.2.2 = jdS.length := by first | lia | omega
      simp [tLeft, this]
    simp only [tTurn, e, if_true, a2, a3, pickH, leafN, nL, List.map_cons, List.map_nil]
    exact ⟨trivial, trivial, trivial, hj⟩
  | ([], x :: jd), _ =>
    obtain ⟨b1, b2, b3⟩ := hd0 hj
    have b4 := hdn hl
    have e : tLeft lvS jdS t.2.2.1 t.2.2.2 = false := by
      have h1 : ¬ t.2.2.2 = jdS.length := by first | lia | omega
      have h2 : ¬ t.2.2.1 < lvS.length := by first | lia | omega
      simp [tLeft, h1, h2]
    simp only [tTurn, e, Bool.false_eq_true, if_false, b2, b3, pickH, nJ]
    exact ⟨trivial, trivial, hl, trivial⟩
  | (p :: lv, x :: jd), _ =>
    obtain ⟨a1, a2, a3⟩ := hd0 hl
    obtain ⟨b1, b2, b3⟩ := hd0 hj
    have h1 : ¬ t.2.2.2 = jdS.length := by first | lia | omega
    have e : tLeft lvS jdS t.2.2.1 t.2.2.2 = Nat.ble p.1 x.1 := by
      unfold tLeft
      rw [a2, b2]
      simp only [nL, nJ, h1, decide_false, a1, decide_true, Bool.false_or, Bool.true_and]
      rw [Bool.eq_iff_iff]
      exact ⟨fun h => Nat.ble_eq.mpr (Int.ofNat_le.mp (of_decide_eq_true h)), fun h => decide_eq_true (Int.ofNat_le.mpr (Nat.ble_eq.mp h))⟩
    simp only [tTurn, e, pickH]
    cases Nat.ble p.1 x.1 with
    | true =>
      simp only [if_true, cond_true, a2, a3, leafN, nL, List.map_cons, List.map_nil]
      exact ⟨trivial, trivial, trivial, hj⟩
    | false =>
      simp only [Bool.false_eq_true, if_false, cond_false, b2, b3, nJ]
      exact ⟨trivial, trivial, hl, trivial⟩

theorem inc_notin : ∀ (ms : List Int) {L : List Int} {i : Nat}, (∀ x ∈ ms, x.toNat ≠ i) → (ms.foldl incAt L).getD i 0 = L.getD i 0
  | [], _, _, _ => rfl
  | m :: ms, L, i, h => by
    rw [List.foldl_cons, inc_notin ms fun x hx => h x (List.mem_cons_of_mem _ hx)]
    have := h m List.mem_cons_self
    simp [incAt, List.getD_eq_getElem?_getD, List.getElem?_set_ne this]
theorem inc_in : ∀ (ms : List Int) {L : List Int} {a : Int}, ms.Nodup → (∀ x ∈ ms, 0 ≤ x ∧ x.toNat < L.length) → a ∈ ms → (ms.foldl incAt L).getD a.toNat 0 = L.getD a.toNat 0 + 1
  | [], _, _, _, _, h => by cases h
  | m :: ms, L, a, hn, hr, ha => by
    have hn' := List.nodup_cons.mp hn
    have hm := hr m List.mem_cons_self
    rw [List.foldl_cons]
    by_cases q : a = m
    · subst q
      rw [inc_notin ms fun x hx e => ?_]
      · simp [incAt, List.getD_eq_getElem?_getD, hm.2]
      · have hx2 := hr x (List.mem_cons_of_mem _ hx)
        have : x = a := by first | lia | omega
        exact hn'.1 (this ▸ hx)
    · have ha' : a ∈ ms := (List.mem_cons.mp ha).resolve_left q
      rw [inc_in ms hn'.2 (fun x hx => by simp [incAt]; exact hr x (List.mem_cons_of_mem _ hx)) ha']
      have ha2 := hr a ha
      have : m.toNat ≠ a.toNat := by first | lia | omega
      simp [incAt, List.getD_eq_getElem?_getD, List.getElem?_set_ne this]

noncomputable def two {α : Type} (q : HQ α) : Prop := 2 ≤ q.1.length + q.2.length
theorem pick_len {α : Type} (q : HQ α) (h : 1 ≤ q.1.length + q.2.length) : (pickH q).2.1.length + (pickH q).2.2.length + 1 = q.1.length + q.2.length := by
  match q, h with
  | (p :: lv, []), _ => simp [pickH]
  | ([], x :: jd), _ => simp [pickH]
  | (p :: lv, x :: jd), _ =>
    simp only [pickH]
    cases Nat.ble p.1 x.1 <;> simp <;> (first | lia | omega)
theorem ne_of_len {α : Type} {q : HQ α} (h : 1 ≤ q.1.length + q.2.length) : q.1 ≠ [] ∨ q.2 ≠ [] := by
  match q, h with
  | (p :: lv, _), _ => exact .inl (by simp)
  | ([], x :: jd), _ => exact .inr (by simp)
theorem step_len {α : Type} (q : HQ α) (h : two q) : (stepH q).1.length + (stepH q).2.length + 1 = q.1.length + q.2.length := by
  have h1 := pick_len q (by unfold two at h; (first | lia | omega))
  have h2 := pick_len (pickH q).2 (by unfold two at h; (first | lia | omega))
  simp only [stepH, List.length_append, List.length_cons, List.length_nil]
  (first | lia | omega)
theorem pick_node {α : Type} (q : HQ α) {y : HN α} (h : y ∈ (pickH q).2.2) : y ∈ q.2 := by
  match q, h with
  | (p :: lv, []), h => exact h
  | ([], x :: jd), h => exact List.mem_cons_of_mem _ h
  | ([], []), h => exact h
  | (p :: lv, x :: jd), h =>
    simp only [pickH] at h
    cases e : Nat.ble p.1 x.1 with
    | true => rw [e] at h; exact h
    | false => rw [e] at h; exact List.mem_cons_of_mem _ h
theorem pick_leaf {α : Type} (q : HQ α) {y : Nat × α} (h : y ∈ (pickH q).2.1) : y ∈ q.1 := by
  match q, h with
  | (p :: lv, []), h => exact List.mem_cons_of_mem _ h
  | ([], x :: jd), h => exact h
  | ([], []), h => exact h
  | (p :: lv, x :: jd), h =>
    simp only [pickH] at h
    cases e : Nat.ble p.1 x.1 with
    | true => rw [e] at h; exact List.mem_cons_of_mem _ h
    | false => rw [e] at h; exact h
theorem pick_dep {q : HQ Int} {L : List Int} (dep : ∀ y ∈ q.2, ∀ p ∈ y.2, L.getD p.1.toNat 0 = (p.2 : Int)) (lz : ∀ p ∈ q.1, L.getD p.2.toNat 0 = 0) : ∀ p ∈ (pickH q).1.2, L.getD p.1.toNat 0 = (p.2 : Int) := by
  match q, dep, lz with
  | ([], []), _, _ => intro p h; cases h
  | (p :: lv, []), dep, lz =>
    intro r hr
    simp only [pickH, leafN, List.mem_singleton] at hr
    subst hr
    exact lz p List.mem_cons_self
  | ([], x :: jd), dep, lz => exact dep x List.mem_cons_self
  | (p :: lv, x :: jd), dep, lz =>
    simp only [pickH]
    cases Nat.ble p.1 x.1 with
    | true =>
      intro r hr
      simp only [cond_true, leafN, List.mem_singleton] at hr
      subst hr
      exact lz p List.mem_cons_self
    | false => exact dep x List.mem_cons_self

theorem step_sim {n : Nat} {lvS : List Nd} (hL : LvOk n lvS) {s : TS} {q : HQ Int} (ok : TSok n lvS s) (hg : s.2.1.length + 1 < lvS.length) (S : Sim n lvS s q) (h2 : two q) : Sim n lvS (tStep lvS s) (stepH q) := by
  have t0 : TTok n lvS s.2.1 0 (0, [], s.2.2.1, s.2.2.2) := ⟨by simpa using ok.sum, ok.lf, ok.tr, by simp, fun x hx => nomatch hx⟩
  have t1 := tt_step hL ok.len ok.rng t0 (by first | lia | omega) hg
  have t2 := ts_pair hL ok hg
  have hlen1 := pick_len q (by unfold two at h2; (first | lia | omega))
  obtain ⟨a1, a2, a3, a4⟩ := turn_sim (t := (0, [], s.2.2.1, s.2.2.2)) S.hl S.hj ok.tr (ne_of_len (by unfold two at h2; (first | lia | omega)))
  obtain ⟨b1, b2, b3, b4⟩ := turn_sim (t := tTurn lvS s.2.1 (0, [], s.2.2.1, s.2.2.2)) a3 a4 t1.tr (ne_of_len (by unfold two at h2; (first | lia | omega)))
  have hw : (tPair lvS s).1 = (((pickH q).1.1 + (pickH (pickH q).2).1.1 : Nat) : Int) := by
    unfold tPair; rw [b1, a1]; simp
  have hm : (tPair lvS s).2.1 = (pickH q).1.2.map (·.1) ++ (pickH (pickH q).2).1.2.map (·.1) := by
    unfold tPair; rw [b2, a2]; simp
  have p1 := pick_syms q
  have p2 := pick_syms (pickH q).2
  have pp : (symsQ q).Perm (((pickH q).1.2.map (·.1) ++ (pickH (pickH q).2).1.2.map (·.1)) ++ symsQ (pickH (pickH q).2).2) := by
    rw [List.append_assoc]; exact p1.trans (p2.append_left _)
  have nd2 := pp.nodup_iff.mp S.nd
  rw [List.nodup_append] at nd2
  obtain ⟨ndm, ndr, ndx⟩ := nd2
  have rngm : ∀ x ∈ (tPair lvS s).2.1, 0 ≤ x ∧ x.toNat < s.1.length := fun x hx => by
    rw [S.ll]
    exact S.rng x (pp.mem_iff.mpr (List.mem_append_left _ (hm ▸ hx)))
  have out : ∀ a ∈ symsQ (pickH (pickH q).2).2, ∀ x ∈ (tPair lvS s).2.1, x.toNat ≠ a.toNat := fun a ha x hx e => by
    have r1 := S.rng a (pp.mem_iff.mpr (List.mem_append_right _ ha))
    have r2 := rngm x hx
    have : x = a := by first | lia | omega
    exact ndx x (hm ▸ hx) a ha this
  have dep1 := pick_dep S.dep S.lz
  have dep2 : ∀ p ∈ (pickH (pickH q).2).1.2, s.1.getD p.1.toNat 0 = (p.2 : Int) := pick_dep (fun y hy => S.dep y (pick_node q hy)) fun p hp => S.lz p (pick_leaf q hp)
  have ps := step_syms q
  refine ⟨b3, ?_, fun y hy p hp => ?_, fun p hp => ?_, ps.nodup_iff.mp S.nd, fun a ha => S.rng a (ps.mem_iff.mpr ha), fun i hi => ?_, by simp only [tStep, inc_len]; exact S.ll⟩
  · simp only [tStep]
    rw [List.drop_append_of_le_length t2.tr]
    simp only [stepH, List.map_append, List.map_cons, List.map_nil]
    rw [show List.drop (tPair lvS s).2.2.2 s.2.1 = List.map nJ (pickH (pickH q).2).2.2 from b4, hw, hm]
    simp only [nJ, List.map_append, List.map_map]
    rfl
  · simp only [stepH] at hy
    simp only [tStep]
    rcases List.mem_append.mp hy with hy | hy
    · rw [inc_notin _ (out p.1 (by
        unfold symsQ
        exact List.mem_append_right _ (List.mem_flatMap.mpr ⟨y, hy, List.mem_map_of_mem hp⟩)))]
      exact S.dep y (pick_node q (pick_node _ hy)) p hp
    · rw [List.mem_singleton] at hy
      subst hy
      obtain ⟨r, hr, rfl⟩ := List.mem_map.mp hp
      have hrm : r.1 ∈ (tPair lvS s).2.1 := by
        rw [hm]
        rcases List.mem_append.mp hr with hr | hr
        · exact List.mem_append_left _ (List.mem_map_of_mem hr)
        · exact List.mem_append_right _ (List.mem_map_of_mem hr)
      show (List.foldl incAt s.1 (tPair lvS s).2.1).getD r.1.toNat 0 = ((r.2 + 1 : Nat) : Int)
      rw [inc_in _ (hm ▸ ndm) rngm hrm]
      rcases List.mem_append.mp hr with hr | hr
      · rw [dep1 r hr]; rfl
      · rw [dep2 r hr]; rfl
  · simp only [stepH] at hp
    simp only [tStep]
    rw [inc_notin _ (out p.2 (by
      unfold symsQ
      exact List.mem_append_left _ (List.mem_map_of_mem hp)))]
    exact S.lz p (pick_leaf q (pick_leaf _ hp))
  · simp only [tStep]
    have hi' : ∀ a ∈ symsQ q, a.toNat ≠ i := fun a ha => hi a (ps.mem_iff.mp ha)
    rw [inc_notin _ fun x hx => hi' x (pp.mem_iff.mpr (List.mem_append_left _ (hm ▸ hx)))]
    exact S.oz i hi'
end Mine
end

section
open PySem PySem.W PyProof.Rows PySem.Calls PySem.SeqAt
set_option linter.all false
set_option maxRecDepth 100000
set_option maxHeartbeats 4000000
namespace Mine

theorem run_syms {α : Type} : ∀ (k : Nat) (q : HQ α), (symsQ q).Perm (symsQ (runH k q))
  | 0, q => .refl _
  | k + 1, q => (step_syms q).trans (run_syms k (stepH q))
theorem run_len {α : Type} : ∀ (k : Nat) (q : HQ α), k + 1 ≤ q.1.length + q.2.length → (runH k q).1.length + (runH k q).2.length + k = q.1.length + q.2.length
  | 0, q, _ => rfl
  | k + 1, q, h => by
    have h1 := step_len q (by unfold two; (first | lia | omega))
    have := run_len k (stepH q) (by first | lia | omega)
    show (runH k (stepH q)).1.length + (runH k (stepH q)).2.length + (k + 1) = _
    (first | lia | omega)
theorem run_last {α : Type} : ∀ (k : Nat) (q : HQ α), (runH (k + 1) q).2 ≠ [] := by
  intro k
  induction k with
  | zero => intro q; show (stepH q).2 ≠ []; simp [stepH]
  | succ k ih => intro q; exact ih (stepH q)
theorem run_sim {n : Nat} {lvS : List Nd} (hL : LvOk n lvS) : ∀ (j k : Nat) {s : TS} {q : HQ Int}, TSok n lvS s → Sim n lvS s q → q.1.length + q.2.length + s.2.1.length = lvS.length → k + 1 = q.1.length + q.2.length → k ≤ j → Sim n lvS (whileF (tGo lvS) (tStep lvS) j s) (runH k q)
  | 0, k, s, q, ok, S, hr, hk, hj => by
    obtain rfl : k = 0 := by first | lia | omega
    exact S
  | j + 1, k, s, q, ok, S, hr, hk, hj => by
    unfold whileF
    rw [ts_go ok]
    by_cases hg : s.2.1.length + 1 < lvS.length
    · simp only [hg, decide_true, if_true]
      obtain ⟨k, rfl⟩ : ∃ k', k = k' + 1 := ⟨k - 1, by first | lia | omega⟩
      have h2 : two q := by unfold two; (first | lia | omega)
      have hl := step_len q h2
      exact run_sim hL j k (ts_step hL ok hg) (step_sim hL ok hg S h2) (by simp only [tStep, List.length_append, List.length_cons, List.length_nil]; (first | lia | omega)) (by first | lia | omega) (by first | lia | omega)
    · simp only [hg, decide_false, Bool.false_eq_true, if_false]
      obtain rfl : k = 0 := by first | lia | omega
      exact S

noncomputable def hufB {α : Type} : List (Nat × α) → List (α × Nat)
  | [] => []
  | [p] => [(p.2, 1)]
  | o => hufA o
noncomputable def onF (cs : List Int) : List (Nat × Int) := (ordF cs).map fun p => (p.1.toNat, p.2)
theorem onF_snd (cs : List Int) : (onF cs).map (·.2) = (ordF cs).map (·.2) := by simp [onF]
theorem leaves_on (cs : List Int) : leavesF (ordF cs) = (onF cs).map nL := by
  unfold leavesF onF
  rw [List.map_map]
  refine List.map_congr_left fun p hp => ?_
  have := (ordF_mem hp).1
  simp only [Function.comp, nL]
  rw [show ((p.1.toNat : Nat) : Int) = p.1 by first | lia | omega]
theorem ord_snd_nodup (cs : List Int) : ((ordF cs).map (·.2)).Nodup := by
  have h := ordL_nodup cs
  have hp := sortP_perm (ordL cs)
  have : ((ordL cs).map (·.2)).Nodup := by
    unfold List.Nodup
    rw [List.pairwise_map]
    refine List.Pairwise.imp_of_mem ?_ h
    intro a b ha hb hn e
    have h1 := ordL_mem ha
    have h2 := ordL_mem hb
    apply hn
    have : a.1 = b.1 := by rw [h1.2.2.2, h2.2.2.2, e]
    exact Prod.ext this e
  exact (hp.map _).nodup_iff.mpr this

structure TreeSpec (cs : List Int) (hl : List (Int × Nat)) : Prop where
  perm : (hl.map (·.1)).Perm ((ordF cs).map (·.2))
  val : ∀ p ∈ hl, (treeF cs).getD p.1.toNat 0 = (p.2 : Int)
  zero : ∀ i, (∀ a ∈ (ordF cs).map (·.2), a.toNat ≠ i) → (treeF cs).getD i 0 = 0

theorem rep_zero (n i : Nat) : (List.replicate n (0 : Int)).getD i 0 = 0 := by
  simp only [List.getD_eq_getElem?_getD, List.getElem?_replicate]
  split <;> rfl
theorem tree_spec (cs : List Int) : TreeSpec cs (hufB (onF cs)) := by
  have hol : (onF cs).length = (ordF cs).length := by simp [onF]
  match ho : ordF cs, hon : onF cs with
  | [], _ =>
    have e0 : onF cs = [] := by unfold onF; rw [ho]; rfl
    rw [← hon, e0]
    have hT : treeF cs = List.replicate cs.length 0 := by unfold treeF ls0; rw [ho]; rfl
    refine ⟨by rw [ho]; exact .refl _, fun p hp => (nomatch hp), fun i _ => by rw [hT]; exact rep_zero _ _⟩
  | [p], _ =>
    have e0 : onF cs = [(p.1.toNat, p.2)] := by unfold onF; rw [ho]; rfl
    rw [← hon, e0]
    have hm := ordF_mem (cs := cs) (p := p) (by rw [ho]; exact List.mem_cons_self)
    have hT : treeF cs = (List.replicate cs.length 0).set p.2.toNat 1 := by
      have h1 : ls0 cs = (List.replicate cs.length 0).set p.2.toNat 1 := by unfold ls0; rw [ho]; rfl
      unfold treeF
      rw [h1, ho]
      rfl
    refine ⟨by rw [ho]; exact .refl _, fun r hr => ?_, fun i hi => ?_⟩
    · obtain rfl : r = (p.2, 1) := by simpa [hufB] using hr
      rw [hT]
      simp [List.getD_eq_getElem?_getD, hm.2.2.1]
    · rw [ho] at hi
      have hne := hi p.2 (by simp)
      rw [hT, List.getD_eq_getElem?_getD, List.getElem?_set_ne hne, ← List.getD_eq_getElem?_getD]
      exact rep_zero _ _
  | a :: b :: r, o => 
    have hb : hufB o = hufA o := by
      have : o.length = r.length + 2 := by rw [← hon, hol, ho]; rfl
      match o, this with
      | _ :: _ :: _, _ => rfl
    rw [hb, ← hon]
    have hm : (ordF cs).length = r.length + 2 := by rw [ho]; rfl
    have h1 : ls0 cs = List.replicate cs.length 0 := by unfold ls0; rw [if_neg (by first | lia | omega)]
    have hs : symsQ ((onF cs, []) : HQ Int) = (ordF cs).map (·.2) := by simp [symsQ, onF_snd]
    have S0 : Sim cs.length (leavesF (ordF cs)) (ls0 cs, [], 0, 0) (onF cs, []) := by
      refine ⟨leaves_on cs, rfl, fun y hy => (nomatch hy), fun p hp => by rw [h1]; exact rep_zero _ _, by rw [hs]; exact ord_snd_nodup cs, fun x hx => ?_, fun i _ => by rw [h1]; exact rep_zero _ _, ls0_len cs⟩
      rw [hs] at hx
      obtain ⟨p, hp, rfl⟩ := List.mem_map.mp hx
      exact ⟨(ordF_mem hp).2.1, (ordF_mem hp).2.2.1⟩
    have ok0 : TSok cs.length (leavesF (ordF cs)) (ls0 cs, [], 0, 0) := ⟨rfl, Nat.zero_le _, Nat.le_refl _, Nat.zero_le _, fun x hx => (nomatch hx), fun x hx => (nomatch hx), ls0_len cs⟩
    have hlv : (leavesF (ordF cs)).length = (ordF cs).length := by simp [leavesF]
    have S := run_sim leaves_ok (ordF cs).length ((onF cs).length - 1) ok0 S0 (by simp [hlv, hol]) (by simp [hol, hm]) (by first | lia | omega)
    have hrl := run_len ((onF cs).length - 1) ((onF cs, []) : HQ Int) (by simp [hol, hm])
    have hne : (runH ((onF cs).length - 1) ((onF cs, []) : HQ Int)).2 ≠ [] := by
      rw [show (onF cs).length - 1 = r.length + 1 by first | lia | omega]
      exact run_last _ _
    have hsy := run_syms ((onF cs).length - 1) ((onF cs, []) : HQ Int)
    unfold hufA
    generalize hq : runH ((onF cs).length - 1) ((onF cs, []) : HQ Int) = q at *
    obtain ⟨q1, q2⟩ := q
    match q2, hne with
    | y :: q2, _ =>
      have e1 : q1 = [] := by
        simp only [List.length_cons, List.length_nil] at hrl
        exact List.eq_nil_of_length_eq_zero (by first | lia | omega)
      have e2 : q2 = [] := by
        simp only [List.length_cons, List.length_nil] at hrl
        exact List.eq_nil_of_length_eq_zero (by first | lia | omega)
      subst e1 e2
      have hsy2 : symsQ (([], [y]) : HQ Int) = y.2.map (·.1) := by simp [symsQ]
      rw [hs, hsy2] at hsy
      refine ⟨hsy.symm, fun p hp => S.dep y List.mem_cons_self p hp, fun i hi => S.oz i fun x hx => hi x (hsy.mem_iff.mpr (hsy2 ▸ hx))⟩
end Mine
end

section
open PySem PySem.W PyProof.Rows PySem.Calls PySem.SeqAt
set_option linter.all false
set_option maxRecDepth 100000
set_option maxHeartbeats 4000000
namespace Mine

section
variable {α β : Type} (c : Nat) (f : α → β)
noncomputable def fmL (p : Nat × α) : Nat × β := (c * p.1, f p.2)
noncomputable def fmP (p : α × Nat) : β × Nat := (f p.1, p.2)
noncomputable def fmN (y : HN α) : HN β := (c * y.1, y.2.map (fmP f))
noncomputable def fmQ (q : HQ α) : HQ β := (q.1.map (fmL c f), q.2.map (fmN c f))
theorem ble_mul (hc : 0 < c) (a b : Nat) : Nat.ble (c * a) (c * b) = Nat.ble a b := by
  rw [Bool.eq_iff_iff, Nat.ble_eq, Nat.ble_eq]
  exact Nat.mul_le_mul_left_iff hc
theorem pick_fm (hc : 0 < c) (q : HQ α) : pickH (fmQ c f q) = (fmN c f (pickH q).1, fmQ c f (pickH q).2) := by
  match q with
  | ([], []) => rfl
  | (p :: lv, []) => rfl
  | ([], x :: jd) => rfl
  | (p :: lv, x :: jd) =>
    simp only [fmQ, List.map_cons, pickH]
    rw [show Nat.ble (fmL c f p).1 (fmN c f x).1 = Nat.ble p.1 x.1 from ble_mul c hc _ _]
    cases Nat.ble p.1 x.1 <;> rfl
theorem step_fm (hc : 0 < c) (q : HQ α) : stepH (fmQ c f q) = fmQ c f (stepH q) := by
  have h1 := pick_fm c f hc q
  have h2 := pick_fm c f hc (pickH q).2
  simp only [stepH, h1, h2]
  simp only [fmQ, List.map_append, List.map_cons, List.map_nil, fmN, Nat.mul_add, List.map_map]
  refine Prod.ext rfl ?_
  simp only
  congr 3
theorem run_fm (hc : 0 < c) : ∀ (k : Nat) (q : HQ α), runH k (fmQ c f q) = fmQ c f (runH k q)
  | 0, q => rfl
  | k + 1, q => by
    show runH k (stepH (fmQ c f q)) = fmQ c f (runH k (stepH q))
    rw [step_fm c f hc, run_fm hc k]
theorem huf_fm (hc : 0 < c) (o : List (Nat × α)) : hufB (o.map (fmL c f)) = (hufB o).map (fmP f) := by
  match o with
  | [] => rfl
  | [p] => rfl
  | a :: b :: r =>
    show hufA _ = (hufA _).map _
    unfold hufA
    show ((runH (((a :: b :: r).map (fmL c f)).length - 1) (fmQ c f ((a :: b :: r), []))).2.headD (0, [])).2 = _
    rw [run_fm c f hc, List.length_map]
    generalize runH ((a :: b :: r).length - 1) ((a :: b :: r, []) : HQ α) = q
    obtain ⟨q1, q2⟩ := q
    cases q2 <;> rfl
end

theorem ordL_iff {cs : List Int} {p : IP} : p ∈ ordL cs ↔ 0 < p.1 ∧ 0 ≤ p.2 ∧ p.2.toNat < cs.length ∧ p.1 = cs.getD p.2.toNat 0 := by
  refine ⟨ordL_mem, fun ⟨h1, h2, h3, h4⟩ => ?_⟩
  unfold ordL
  refine List.mem_filterMap.mpr ⟨p.2.toNat, by simpa using h3, ?_⟩
  rw [← h4, if_pos h1]
  have : ((p.2.toNat : Nat) : Int) = p.2 := by first | lia | omega
  rw [this]
theorem ordF_nodup (cs : List Int) : (ordF cs).Nodup := (sortP_perm _).nodup_iff.mpr (ordL_nodup cs)
theorem ordF_asc (cs : List Int) : (ordF cs).Pairwise fun a b => ltP a b = true := sortP_asc (ordL_nodup cs)
theorem ordF_iff {cs : List Int} {p : IP} : p ∈ ordF cs ↔ 0 < p.1 ∧ 0 ≤ p.2 ∧ p.2.toNat < cs.length ∧ p.1 = cs.getD p.2.toNat 0 := (sortP_perm _).mem_iff.trans ordL_iff
/-- the order of other counts, by a map -/
theorem ordF_map {cs cs' : List Int} (g : IP → IP) (hm : ∀ p q, p ∈ ordF cs → q ∈ ordF cs → ltP p q = true → ltP (g p) (g q) = true) (hi : ∀ p, p ∈ ordF cs' ↔ ∃ q ∈ ordF cs, g q = p) : ordF cs' = (ordF cs).map g := by
  have ha : ((ordF cs).map g).Pairwise fun a b => ltP a b = true := by
    rw [List.pairwise_map]
    exact List.Pairwise.imp_of_mem (fun {a b} h1 h2 h => hm a b h1 h2 h) (ordF_asc cs)
  have hn : ((ordF cs).map g).Nodup := List.Pairwise.imp (fun {a b} h e => by
    subst e
    have := ltP_asym h
    rw [h] at this; cases this) ha
  refine asc_uniq ?_ (ordF_asc cs') ha
  rw [List.perm_ext_iff_of_nodup (ordF_nodup cs') hn]
  intro p
  rw [hi p, List.mem_map]

theorem getD_ext {a b : List Int} (hl : a.length = b.length) (h : ∀ i, i < a.length → a.getD i 0 = b.getD i 0) : a = b := by
  refine List.ext_getElem hl fun i h1 h2 => ?_
  have := h i h1
  simpa [h1, h2] using this

theorem syms_or (o : List IP) (i : Nat) : (∃ a ∈ o.map (·.2), a.toNat = i) ∨ ∀ a ∈ o.map (·.2), a.toNat ≠ i := by
  by_cases h : ∃ a ∈ o.map (·.2), a.toNat = i
  · exact .inl h
  · exact .inr fun a ha e => h ⟨a, ha, e⟩

/-- seven times the counts -/
theorem tree_seven (cs : List Int) : treeF (cs.map (7 * ·)) = treeF cs := by
  have hg : ∀ i, (cs.map (7 * ·)).getD i 0 = 7 * cs.getD i 0 := fun i => by
    simp only [List.getD_eq_getElem?_getD, List.getElem?_map]
    cases cs[i]? <;> simp
  have ho : ordF (cs.map (7 * ·)) = (ordF cs).map fun p => (7 * p.1, p.2) := by
    refine ordF_map _ (fun p q _ _ h => ?_) fun p => ?_
    · unfold ltP at *
      simp only at *
      split at h <;> split <;> simp only [decide_eq_true_eq] at * <;> (first | lia | omega)
    · rw [ordF_iff, hg, List.length_map]
      constructor
      · rintro ⟨h1, h2, h3, h4⟩
        exact ⟨(cs.getD p.2.toNat 0, p.2), ordF_iff.mpr ⟨by simp only; (first | lia | omega), h2, h3, rfl⟩, by rw [← h4]⟩
      · rintro ⟨q, hq, rfl⟩
        have := ordF_iff.mp hq
        simp only
        exact ⟨by first | lia | omega, this.2.1, this.2.2.1, by first | lia | omega⟩
  have hon : onF (cs.map (7 * ·)) = (onF cs).map (fmL 7 id) := by
    unfold onF
    rw [ho, List.map_map, List.map_map]
    refine List.map_congr_left fun p hp => ?_
    have := (ordF_iff.mp hp).1
    simp only [Function.comp, fmL, id]
    rw [show (7 * p.1).toNat = 7 * p.1.toNat by first | lia | omega]
  have hh : hufB (onF (cs.map (7 * ·))) = hufB (onF cs) := by
    rw [hon, huf_fm 7 id (by first | lia | omega)]
    exact (List.map_congr_left fun p _ => rfl).trans (List.map_id _)
  have s1 := tree_spec (cs.map (7 * ·))
  have s2 := tree_spec cs
  rw [hh] at s1
  have hsy : (ordF (cs.map (7 * ·))).map (·.2) = (ordF cs).map (·.2) := by rw [ho, List.map_map]; rfl
  refine getD_ext (by rw [treeF_len, treeF_len, List.length_map]) fun i _ => ?_
  rcases syms_or (ordF cs) i with ⟨a, ha, rfl⟩ | h
  · obtain ⟨p, hp, rfl⟩ := List.mem_map.mp (s2.perm.mem_iff.mpr ha)
    rw [s1.val p hp, s2.val p hp]
  · rw [s2.zero i h, s1.zero i (by rw [hsy]; exact h)]

noncomputable def shI (k : Nat) (a : Int) : Int := if a.toNat < k then a else a + 1
/-- an inserted zero -/
theorem tree_zero (cs : List Int) (k : Nat) (hk : k ≤ cs.length) : treeF (cs.take k ++ [0] ++ cs.drop k) = (treeF cs).take k ++ [0] ++ (treeF cs).drop k := by
  have gi : ∀ (l : List Int) (i : Nat), k ≤ l.length → (l.take k ++ [0] ++ l.drop k).getD i 0 = if i < k then l.getD i 0 else if i = k then 0 else l.getD (i - 1) 0 := by
    intro l i hl
    have ht : (l.take k).length = k := by simp [hl]
    simp only [List.getD_eq_getElem?_getD]
    by_cases h1 : i < k
    · rw [if_pos h1, List.append_assoc, List.getElem?_append_left (by first | lia | omega), List.getElem?_take_of_lt h1]
    · rw [if_neg h1]
      by_cases h2 : i = k
      · subst h2
        rw [if_pos rfl, List.append_assoc, List.getElem?_append_right (by first | lia | omega), ht, Nat.sub_self]
        rfl
      · rw [if_neg h2, List.getElem?_append_right (by simp [ht]; (first | lia | omega))]
        simp only [List.length_append, ht, List.length_cons, List.length_nil, List.getElem?_drop]
        rw [show k + (i - (k + 1)) = i - 1 by first | lia | omega]
  have ll : ∀ (l : List Int), k ≤ l.length → (l.take k ++ [0] ++ l.drop k).length = l.length + 1 := fun l hl => by simp; (first | lia | omega)
  generalize hcs : cs.take k ++ [0] ++ cs.drop k = cs'
  have hg : ∀ i, cs'.getD i 0 = if i < k then cs.getD i 0 else if i = k then 0 else cs.getD (i - 1) 0 := fun i => hcs ▸ gi cs i hk
  have hlen : cs'.length = cs.length + 1 := hcs ▸ ll cs hk
  have hTl := treeF_len cs
  have ho : ordF cs' = (ordF cs).map fun p => (p.1, shI k p.2) := by
    refine ordF_map _ (fun p q hp hq h => ?_) fun p => ?_
    · have h1 := (ordF_iff.mp hp).2.1
      have h2 := (ordF_iff.mp hq).2.1
      unfold ltP shI at *
      simp only at *
      split at h
      · rename_i e
        rw [if_pos e]
        simp only [decide_eq_true_eq] at *
        split <;> split <;> (first | lia | omega)
      · rename_i e
        rw [if_neg e]; exact h
    · rw [ordF_iff, hg, hlen]
      constructor
      · rintro ⟨h1, h2, h3, h4⟩
        by_cases q1 : p.2.toNat < k
        · rw [if_pos q1] at h4
          refine ⟨p, ordF_iff.mpr ⟨h1, h2, by first | lia | omega, h4⟩, ?_⟩
          simp [shI, q1]
        · rw [if_neg q1] at h4
          by_cases q2 : p.2.toNat = k
          · rw [if_pos q2] at h4; (first | lia | omega)
          · rw [if_neg q2] at h4
            have e : (p.2 - 1).toNat = p.2.toNat - 1 := by first | lia | omega
            refine ⟨(p.1, p.2 - 1), ordF_iff.mpr ⟨h1, by simp only; (first | lia | omega), by simp only; (first | lia | omega), by simp only [e]; exact h4⟩, ?_⟩
            have : ¬ (p.2 - 1).toNat < k := by first | lia | omega
            simp only [shI, if_neg this]
            exact Prod.ext rfl (by simp only; (first | lia | omega))
      · rintro ⟨q, hq, rfl⟩
        obtain ⟨h1, h2, h3, h4⟩ := ordF_iff.mp hq
        show 0 < q.1 ∧ 0 ≤ shI k q.2 ∧ (shI k q.2).toNat < cs.length + 1 ∧ q.1 = if (shI k q.2).toNat < k then cs.getD (shI k q.2).toNat 0 else if (shI k q.2).toNat = k then 0 else cs.getD ((shI k q.2).toNat - 1) 0
        by_cases q1 : q.2.toNat < k
        · have es : shI k q.2 = q.2 := by simp [shI, q1]
          rw [es, if_pos q1]
          exact ⟨h1, h2, by first | lia | omega, h4⟩
        · have es : shI k q.2 = q.2 + 1 := by simp [shI, q1]
          have e : (q.2 + 1).toNat = q.2.toNat + 1 := by first | lia | omega
          rw [es, e, if_neg (by first | lia | omega), if_neg (by first | lia | omega), Nat.add_sub_cancel]
          exact ⟨h1, by first | lia | omega, by first | lia | omega, h4⟩
  have hon : onF cs' = (onF cs).map (fmL 1 (shI k)) := by
    unfold onF
    rw [ho, List.map_map, List.map_map]
    refine List.map_congr_left fun p hp => ?_
    simp only [Function.comp, fmL, Nat.one_mul]
  have hh : hufB (onF cs') = (hufB (onF cs)).map (fmP (shI k)) := by rw [hon, huf_fm 1 (shI k) (by first | lia | omega)]
  have s1 := tree_spec cs'
  have s2 := tree_spec cs
  rw [hh] at s1
  have hsy : (ordF cs').map (·.2) = ((ordF cs).map (·.2)).map (shI k) := by rw [ho, List.map_map, List.map_map]; rfl
  refine getD_ext (by rw [treeF_len, hlen, ll _ (by first | lia | omega), hTl]) fun i _ => ?_
  rw [gi (treeF cs) i (by first | lia | omega)]
  have sh0 : ∀ a ∈ (ordF cs).map (·.2), (shI k a).toNat = if a.toNat < k then a.toNat else a.toNat + 1 := fun a ha => by
    obtain ⟨p, hp, rfl⟩ := List.mem_map.mp ha
    have := (ordF_iff.mp hp).2.1
    unfold shI
    split <;> (first | lia | omega)
  have zz : (∀ a ∈ (ordF cs).map (·.2), (shI k a).toNat ≠ i) → (treeF cs').getD i 0 = 0 := fun h => s1.zero i fun b hb => by
    rw [hsy] at hb
    obtain ⟨a, ha, rfl⟩ := List.mem_map.mp hb
    exact h a ha
  have vv : ∀ j, (∃ a ∈ (ordF cs).map (·.2), a.toNat = j) → i = (if j < k then j else j + 1) → (treeF cs').getD i 0 = (treeF cs).getD j 0 := by
    rintro j ⟨a, ha, rfl⟩ e
    obtain ⟨p, hp, rfl⟩ := List.mem_map.mp (s2.perm.mem_iff.mpr ha)
    have := s1.val (fmP (shI k) p) (List.mem_map_of_mem hp)
    simp only [fmP] at this
    rw [sh0 p.1 ha, ← e] at this
    rw [this, s2.val p hp]
  by_cases h1 : i < k
  · rw [if_pos h1]
    rcases syms_or (ordF cs) i with h | h
    · exact vv i h (by rw [if_pos h1])
    · rw [s2.zero i h]
      exact zz fun a ha e => by
        rw [sh0 a ha] at e
        have := h a ha
        split at e <;> (first | lia | omega)
  · rw [if_neg h1]
    by_cases h2 : i = k
    · rw [if_pos h2]
      exact zz fun a ha e => by
        rw [sh0 a ha] at e
        split at e <;> (first | lia | omega)
    · rw [if_neg h2]
      rcases syms_or (ordF cs) (i - 1) with h | h
      · exact vv (i - 1) h (by rw [if_neg (by first | lia | omega)]; (first | lia | omega))
      · rw [s2.zero _ h]
        exact zz fun a ha e => by
          rw [sh0 a ha] at e
          have := h a ha
          split at e <;> (first | lia | omega)
end Mine
end

section
open PySem PySem.W PyProof.Rows PySem.Calls PySem.SeqAt
set_option linter.all false
set_option maxRecDepth 100000
set_option maxHeartbeats 4000000
namespace Mine

theorem perm_sum {a b : List Int} (h : a.Perm b) : a.sum = b.sum := by
  induction h with
  | nil => rfl
  | cons x _ ih => simp [ih]
  | swap x y l => simp; (first | lia | omega)
  | trans _ _ ih1 ih2 => exact ih1.trans ih2
theorem zero_sum : ∀ {l : List Int}, (∀ x ∈ l, x = 0) → l.sum = 0
  | [], _ => rfl
  | x :: l, h => by
    rw [List.sum_cons, h x List.mem_cons_self, zero_sum fun y hy => h y (List.mem_cons_of_mem _ hy)]; rfl
theorem sum_support {f : Nat → Int} {n : Nat} {l : List Nat} (hn : l.Nodup) (hl : ∀ i ∈ l, i < n) (hz : ∀ i, i < n → i ∉ l → f i = 0) : ((List.range n).map f).sum = (l.map f).sum := by
  have hp : (List.range n).Perm (l ++ (List.range n).filter fun i => decide (i ∉ l)) := by
    rw [List.perm_ext_iff_of_nodup List.nodup_range]
    · intro a
      simp only [List.mem_range, List.mem_append, List.mem_filter, decide_eq_true_eq]
      constructor
      · intro h
        by_cases q : a ∈ l
        · exact .inl q
        · exact .inr ⟨h, q⟩
      · rintro (h | h)
        · exact hl a h
        · exact h.1
    · rw [List.nodup_append]
      refine ⟨hn, List.Pairwise.filter _ List.nodup_range, fun a ha b hb e => ?_⟩
      subst e
      simp only [List.mem_filter, decide_eq_true_eq] at hb
      exact hb.2 ha
  rw [perm_sum (hp.map f), List.map_append, List.sum_append]
  rw [zero_sum (l := List.map f (List.filter _ _)) fun x hx => ?_]
  · (first | lia | omega)
  · obtain ⟨i, hi, rfl⟩ := List.mem_map.mp hx
    simp only [List.mem_filter, List.mem_range, decide_eq_true_eq] at hi
    exact hz i hi.1 hi.2

noncomputable def wsF (cs : List Int) : List Nat := (onF cs).map (·.1)
noncomputable def wlN (ws : List Nat) : List (Nat × Nat) := hufB (ws.map fun w => (w, w))
noncomputable def costN (ws : List Nat) : Nat := ((wlN ws).map fun p => p.1 * p.2).sum
theorem on_mem {cs : List Int} {p : Nat × Int} (h : p ∈ onF cs) : 0 < p.1 ∧ 0 ≤ p.2 ∧ p.2.toNat < cs.length ∧ (p.1 : Int) = cs.getD p.2.toNat 0 := by
  obtain ⟨q, hq, rfl⟩ := List.mem_map.mp h
  obtain ⟨h1, h2, h3, h4⟩ := ordF_iff.mp hq
  exact ⟨by simp only; (first | lia | omega), h2, h3, by simp only; (first | lia | omega)⟩
theorem wl_eq (cs : List Int) : wlN (wsF cs) = (hufB (onF cs)).map fun p => ((cs.getD p.1.toNat 0).toNat, p.2) := by
  have h := huf_fm 1 (fun a : Int => (cs.getD a.toNat 0).toNat) (by first | lia | omega) (onF cs)
  have e : (onF cs).map (fmL 1 fun a : Int => (cs.getD a.toNat 0).toNat) = (wsF cs).map fun w => (w, w) := by
    unfold wsF
    rw [List.map_map]
    refine List.map_congr_left fun p hp => ?_
    have := (on_mem hp).2.2.2
    simp only [fmL, Function.comp, Nat.one_mul]
    rw [← this]; simp
  rw [e] at h
  exact h
theorem sum_cast (l : List Nat) : ((l.sum : Nat) : Int) = (l.map fun (x : Nat) => (x : Int)).sum := by
  induction l with
  | nil => rfl
  | cons a l ih => simp [ih]

theorem hl_mem {cs : List Int} {p : Int × Nat} (h : p ∈ hufB (onF cs)) : 0 ≤ p.1 ∧ p.1.toNat < cs.length ∧ 0 < cs.getD p.1.toNat 0 ∧ p.1 ∈ (ordF cs).map (·.2) := by
  have hm := (tree_spec cs).perm.mem_iff.mp (List.mem_map_of_mem h)
  obtain ⟨q, hq, e⟩ := List.mem_map.mp hm
  obtain ⟨h1, h2, h3, h4⟩ := ordF_iff.mp hq
  rw [← e]
  exact ⟨h2, h3, by first | lia | omega, List.mem_map_of_mem hq⟩
theorem hl_nodup (cs : List Int) : ((hufB (onF cs)).map fun p => p.1.toNat).Nodup := by
  have h : ((hufB (onF cs)).map (·.1)).Nodup := (tree_spec cs).perm.nodup_iff.mpr (ord_snd_nodup cs)
  unfold List.Nodup at *
  rw [List.pairwise_map] at h ⊢
  refine List.Pairwise.imp_of_mem (fun {a b} ha hb hn e => hn ?_) h
  have h1 := (hl_mem ha).1
  have h2 := (hl_mem hb).1
  (first | lia | omega)

theorem law_cost (cs : List Int) : lawF cs = (costN (wsF cs) : Int) := by
  have s := tree_spec cs
  unfold lawF prods costN
  rw [sum_support (hl_nodup cs) (fun i hi => ?_) (fun i hi hn => ?_), sum_cast, wl_eq, List.map_map, List.map_map, List.map_map]
  · refine congrArg List.sum (List.map_congr_left fun p hp => ?_)
    have h1 := (hl_mem hp).2.2.1
    simp only [Function.comp]
    rw [s.val p hp]
    have : ((cs.getD p.1.toNat 0).toNat : Int) = cs.getD p.1.toNat 0 := by first | lia | omega
    rw [Int.natCast_mul, this]
  · obtain ⟨p, hp, rfl⟩ := List.mem_map.mp hi
    exact (hl_mem hp).2.1
  · rw [s.zero i fun a ha e => ?_]
    · simp
    · obtain ⟨p, hp, rfl⟩ := List.mem_map.mp (s.perm.mem_iff.mpr ha)
      exact hn (List.mem_map.mpr ⟨p, hp, e⟩)

/-- the cost function sums products -/
theorem cost_prods {cs ls : List Int} (h : ∀ i, 0 ≤ cs.getD i 0) : costF cs ls = (prods cs ls).sum := by
  unfold costF prods
  have key : ∀ (l : List Nat) (t : Int), l.foldl (costS cs ls) t = t + (l.map fun i => cs.getD i 0 * ls.getD i 0).sum := by
    intro l
    induction l with
    | nil => intro t; simp
    | cons i l ih =>
      intro t
      rw [List.foldl_cons, ih, List.map_cons, List.sum_cons]
      unfold costS
      split
      · (first | lia | omega)
      · have := h i
        have e : cs.getD i 0 = 0 := by first | lia | omega
        rw [e]; simp
  rw [key]; (first | lia | omega)
theorem prods_inc {cs L : List Int} {a : Int} (h1 : a.toNat < L.length) (h2 : a.toNat < cs.length) : (prods cs (incAt L a)).sum = (prods cs L).sum + cs.getD a.toNat 0 := by
  unfold prods
  have key : ∀ (n : Nat), ((List.range n).map fun i => cs.getD i 0 * (incAt L a).getD i 0).sum = ((List.range n).map fun i => cs.getD i 0 * L.getD i 0).sum + if a.toNat < n then cs.getD a.toNat 0 else 0 := by
    intro n
    induction n with
    | zero => simp
    | succ n ih =>
      rw [List.range_succ, List.map_append, List.sum_append, List.map_append, List.sum_append, ih]
      simp only [List.map_cons, List.map_nil, List.sum_cons, List.sum_nil, Int.add_zero]
      by_cases q : a.toNat = n
      · subst q
        have e : (incAt L a).getD a.toNat 0 = L.getD a.toNat 0 + 1 := by simp [incAt, List.getD_eq_getElem?_getD, h1]
        rw [e, if_neg (Nat.lt_irrefl _), if_pos (Nat.lt_succ_self _), Int.mul_add, Int.mul_one]
        (first | lia | omega)
      · have e : (incAt L a).getD n 0 = L.getD n 0 := by simp [incAt, List.getD_eq_getElem?_getD, List.getElem?_set_ne q]
        rw [e]
        by_cases q2 : a.toNat < n
        · rw [if_pos q2, if_pos (by first | lia | omega)]; (first | lia | omega)
        · rw [if_neg q2, if_neg (by first | lia | omega)]; (first | lia | omega)
  rw [key, if_pos h2]

noncomputable def addO (o : List IP) (L : List Int) (a : Nat) : List Int := (o.take a).foldl (fun l p => incAt l p.2) L
theorem addO_len (o : List IP) (L : List Int) (a : Nat) : (addO o L a).length = L.length := inc_pairs_len _ _
theorem addO_sum {cs : List Int} : ∀ (o : List IP) {L : List Int}, (∀ p ∈ o, p.2.toNat < cs.length ∧ p.1 = cs.getD p.2.toNat 0) → L.length = cs.length → (prods cs (o.foldl (fun l p => incAt l p.2) L)).sum = (prods cs L).sum + (o.map (·.1)).sum
  | [], L, _, _ => by simp
  | p :: o, L, h, hL => by
    have hp := h p List.mem_cons_self
    rw [List.foldl_cons, addO_sum o (fun q hq => h q (List.mem_cons_of_mem _ hq)) (by simp [incAt, hL]), prods_inc (by first | lia | omega) hp.1, List.map_cons, List.sum_cons, ← hp.2]
    (first | lia | omega)
noncomputable def aSeq : List (List Bool) → Nat → List Nat
  | [], _ => []
  | fl :: r, wn => cCnt fl wn :: aSeq r (2 * (wn - cCnt fl wn))
theorem code_aSeq (o : List IP) : ∀ (r : List (List Bool)) (L : List Int) (wn : Nat), (r.foldl (cStep o) (L, wn)).1 = (aSeq r wn).foldl (addO o) L
  | [], _, _ => rfl
  | fl :: r, L, wn => by
    rw [List.foldl_cons, aSeq, List.foldl_cons]
    exact code_aSeq o r _ _
theorem code_sum {cs : List Int} : ∀ (as : List Nat) {L : List Int}, L.length = cs.length → (prods cs (as.foldl (addO (ordF cs)) L)).sum = (prods cs L).sum + (as.map fun a => (((ordF cs).map (·.1)).take a).sum).sum
  | [], L, _ => by simp
  | a :: as, L, hL => by
    rw [List.foldl_cons, code_sum as (by rw [addO_len, hL]), List.map_cons, List.sum_cons]
    have := addO_sum (cs := cs) ((ordF cs).take a) (L := L) (fun p hp => by
      have := ordF_iff.mp (List.mem_of_mem_take hp)
      exact ⟨this.2.2.1, this.2.2.2⟩) hL
    unfold addO
    rw [this, List.map_take]
    (first | lia | omega)
noncomputable def codeC (ws : List Nat) (as : List Nat) : Nat := (as.map fun a => (ws.take a).sum).sum
theorem ws_cast (cs : List Int) : (ordF cs).map (·.1) = (wsF cs).map fun (x : Nat) => (x : Int) := by
  unfold wsF onF
  rw [List.map_map, List.map_map]
  refine List.map_congr_left fun p hp => ?_
  have := (ordF_iff.mp hp).1
  simp only [Function.comp]
  (first | lia | omega)
theorem code_cost (cs : List Int) (n : Nat) (h : ∀ i, 0 ≤ cs.getD i 0) : costF cs (codeF cs n) = (codeC (wsF cs) (aSeq (rowsF ((ordF cs).map (·.1)) n).1.reverse (2 * (ordF cs).length - 2)) : Int) := by
  rw [cost_prods h]
  unfold codeF
  rw [code_aSeq, code_sum _ (by simp)]
  have h0 : (prods cs (List.replicate cs.length 0)).sum = 0 := zero_sum fun x hx => by
    obtain ⟨i, _, rfl⟩ := List.mem_map.mp hx
    rw [rep_zero]; simp
  rw [h0, Int.zero_add]
  unfold codeC
  rw [sum_cast, List.map_map]
  refine congrArg List.sum (List.map_congr_left fun a _ => ?_)
  simp only [Function.comp]
  rw [sum_cast, ws_cast, List.map_take]

/-- every symbol that counts gets a code -/
theorem addO_mono (o : List IP) (i : Nat) : ∀ (l : List IP) (L : List Int), L.getD i 0 ≤ (l.foldl (fun l p => incAt l p.2) L).getD i 0
  | [], _ => Int.le_refl _
  | p :: l, L => by
    rw [List.foldl_cons]
    refine Int.le_trans ?_ (addO_mono o i l _)
    by_cases q : p.2.toNat = i
    · subst q
      by_cases h : p.2.toNat < L.length
      · simp [incAt, List.getD_eq_getElem?_getD, h]
        (first | lia | omega)
      · simp [incAt, List.getD_eq_getElem?_getD, Nat.le_of_not_lt h, h]
    · simp [incAt, List.getD_eq_getElem?_getD, List.getElem?_set_ne q]
theorem as_mono (o : List IP) (i : Nat) : ∀ (as : List Nat) (L : List Int), L.getD i 0 ≤ (as.foldl (addO o) L).getD i 0
  | [], _ => Int.le_refl _
  | a :: as, L => Int.le_trans (addO_mono o i _ L) (as_mono o i as _)
theorem as_pos {cs : List Int} {p : IP} (hp : p ∈ ordF cs) : ∀ (as : List Nat) (L : List Int), L.length = cs.length → (∀ i, 0 ≤ L.getD i 0) → (∃ a ∈ as, (ordF cs).length ≤ a) → 1 ≤ (as.foldl (addO (ordF cs)) L).getD p.2.toNat 0
  | [], _, _, _, h => by obtain ⟨a, ha, _⟩ := h; cases ha
  | a :: as, L, hL, h0, h => by
    rw [List.foldl_cons]
    by_cases q : (ordF cs).length ≤ a
    · refine Int.le_trans ?_ (as_mono _ _ as _)
      unfold addO
      rw [List.take_of_length_le q]
      have e : (ordF cs).foldl (fun l p => incAt l p.2) L = ((ordF cs).map (·.2)).foldl incAt L := by rw [List.foldl_map]
      rw [e, inc_in _ (ord_snd_nodup cs) (fun x hx => ?_) (List.mem_map_of_mem hp)]
      · have := h0 p.2.toNat; (first | lia | omega)
      · obtain ⟨r, hr, rfl⟩ := List.mem_map.mp hx
        have := ordF_iff.mp hr
        exact ⟨this.2.1, by rw [hL]; exact this.2.2.1⟩
    · refine as_pos hp as _ (by rw [addO_len, hL]) (fun i => Int.le_trans (h0 i) (addO_mono (ordF cs) i _ L)) ?_
      obtain ⟨b, hb, hb2⟩ := h
      rcases List.mem_cons.mp hb with rfl | hb
      · exact absurd hb2 q
      · exact ⟨b, hb, hb2⟩
end Mine
end

section
open PySem PySem.W PyProof.Rows PySem.Calls PySem.SeqAt
set_option linter.all false
set_option maxRecDepth 100000
set_option maxHeartbeats 4000000
namespace Mine

noncomputable def mgN : Nat → List Nat → List Nat → List (Nat × Bool)
  | 0, _, _ => []
  | _ + 1, [], [] => []
  | k + 1, [], p :: ps => (p, false) :: mgN k [] ps
  | k + 1, l :: ls, [] => (l, true) :: mgN k ls []
  | k + 1, l :: ls, p :: ps => bif Nat.ble l p then (l, true) :: mgN k ls (p :: ps) else (p, false) :: mgN k (l :: ls) ps
noncomputable def iz (l : List Nat) : List Int := l.map fun (x : Nat) => (x : Int)
theorem iz_len (l : List Nat) : (iz l).length = l.length := by simp [iz]
theorem iz_getD (l : List Nat) (i : Nat) : (iz l).getD i 0 = ((l.getD i 0 : Nat) : Int) := by
  simp only [iz, List.getD_eq_getElem?_getD, List.getElem?_map]
  cases l[i]? <;> simp
theorem mgN_nil : ∀ (k : Nat) (ps : List Nat), ps.length ≤ k → mgN k [] ps = ps.map fun p => (p, false)
  | 0, [], _ => rfl
  | 0, _ :: _, h => by simp at h
  | _ + 1, [], _ => rfl
  | k + 1, p :: ps, h => by
    simp only [List.length_cons] at h
    rw [mgN, mgN_nil k ps (by first | lia | omega)]; rfl
theorem while_stable {ps : List Int} {leaf : Int} : ∀ (j j' : Nat) (s : MS), ps.length ≤ s.2.2 + j → ps.length ≤ s.2.2 + j' → whileF (mGo ps leaf) (mStep ps) j s = whileF (mGo ps leaf) (mStep ps) j' s
  | 0, 0, _, _, _ => rfl
  | 0, j' + 1, s, h, _ => by
    have : mGo ps leaf s = false := by
      have : ¬ s.2.2 < ps.length := by first | lia | omega
      simp [mGo, this]
    show s = (if mGo ps leaf s then _ else s)
    rw [this]; rfl
  | j + 1, 0, s, _, h => by
    have : mGo ps leaf s = false := by
      have : ¬ s.2.2 < ps.length := by first | lia | omega
      simp [mGo, this]
    show (if mGo ps leaf s then _ else s) = s
    rw [this]; rfl
  | j + 1, j' + 1, s, h, h' => by
    show (if mGo ps leaf s then _ else s) = (if mGo ps leaf s then _ else s)
    cases mGo ps leaf s with
    | false => rfl
    | true =>
      simp only [if_true]
      exact while_stable j j' _ (by simp [mStep]; (first | lia | omega)) (by simp [mStep]; (first | lia | omega))
theorem while_go {ps : List Int} {leaf : Int} {s : MS} (h : mGo ps leaf s = true) : whileF (mGo ps leaf) (mStep ps) ps.length s = whileF (mGo ps leaf) (mStep ps) ps.length (mStep ps s) := by
  rw [while_stable ps.length (ps.length + 1) s (by first | lia | omega) (by first | lia | omega)]
  show (if mGo ps leaf s then _ else s) = _
  rw [h]; rfl
theorem while_stop {ps : List Int} {leaf : Int} {s : MS} (h : mGo ps leaf s = false) : whileF (mGo ps leaf) (mStep ps) ps.length s = s := by
  rw [while_stable ps.length (ps.length + 1) s (by first | lia | omega) (by first | lia | omega)]
  show (if mGo ps leaf s then _ else s) = _
  rw [h]; rfl
theorem leaf_go {ps : List Int} {leaf : Int} {s : MS} (h : mGo ps leaf s = true) : mLeaf ps s leaf = mLeaf ps (mStep ps s) leaf := by
  unfold mLeaf
  rw [while_go h]
theorem leaf_stop {ps : List Int} {leaf : Int} {s : MS} (h : mGo ps leaf s = false) : mLeaf ps s leaf = (s.1 ++ [leaf], s.2.1 ++ [true], s.2.2) := by
  unfold mLeaf
  rw [while_stop h]

theorem rep_map (r : List Nat) : List.replicate r.length false = List.map ((fun x : Nat × Bool => x.2) ∘ fun p : Nat => (p, false)) r := by
  induction r with
  | nil => rfl
  | cons a r ih => simp only [List.length_cons, List.replicate_succ, List.map_cons, ih]; rfl
theorem mg_sim (PS : List Nat) : ∀ (k : Nat) (ls rest : List Nat) (s : MS), PS.drop s.2.2 = rest → s.2.2 ≤ PS.length → ls.length + rest.length ≤ k →
    ((iz ls).foldl (mLeaf (iz PS)) s).1 ++ (iz PS).drop ((iz ls).foldl (mLeaf (iz PS)) s).2.2 = s.1 ++ iz ((mgN k ls rest).map (·.1)) ∧
    ((iz ls).foldl (mLeaf (iz PS)) s).2.1 ++ List.replicate ((iz PS).length - ((iz ls).foldl (mLeaf (iz PS)) s).2.2) false = s.2.1 ++ (mgN k ls rest).map (·.2)
  | k, [], rest, s, hr, hp, hk => by
    rw [mgN_nil k rest (by simpa using hk)]
    simp only [iz, List.map_nil, List.foldl_nil, List.map_map]
    constructor
    · rw [← List.map_drop, hr]
      congr 1
    · congr 1
      rw [List.length_map]
      have : PS.length - s.2.2 = rest.length := by rw [← hr]; simp
      rw [this]
      exact rep_map rest
  | 0, l :: ls, rest, s, _, _, hk => by simp at hk
  | k + 1, l :: ls, [], s, hr, hp, hk => by
    have hge : PS.length ≤ s.2.2 := List.drop_eq_nil_iff.mp hr
    have hgo : mGo (iz PS) (l : Int) s = false := by
      have : ¬ s.2.2 < (iz PS).length := by rw [iz_len]; (first | lia | omega)
      simp [mGo, this]
    have ih := mg_sim PS k ls [] (s.1 ++ [(l : Int)], s.2.1 ++ [true], s.2.2) hr hp (by simp at hk ⊢; (first | lia | omega))
    simp only [iz, List.map_cons, List.foldl_cons]
    rw [show mLeaf (List.map (fun (x : Nat) => (x : Int)) PS) s (l : Int) = _ from leaf_stop hgo, mgN]
    simp only [List.map_cons]
    simp only [iz] at ih
    rw [ih.1, ih.2]
    simp
  | k + 1, l :: ls, p :: rest, s, hr, hp, hk => by
    have hlt : s.2.2 < PS.length := by
      rcases Nat.lt_or_ge s.2.2 PS.length with h | h
      · exact h
      · rw [List.drop_eq_nil_of_le h] at hr; cases hr
    have hat : PS.getD s.2.2 0 = p ∧ PS.drop (s.2.2 + 1) = rest := by
      rw [List.drop_eq_getElem_cons hlt] at hr
      simp only [List.cons.injEq] at hr
      exact ⟨by simp [hlt, hr.1], hr.2⟩
    have hgo : mGo (iz PS) (l : Int) s = !(Nat.ble l p) := by
      unfold mGo
      rw [iz_len, iz_getD, hat.1]
      simp only [hlt, decide_true, Bool.true_and]
      cases q : Nat.ble l p with
      | true =>
        have := Nat.ble_eq.mp q
        simp; (first | lia | omega)
      | false =>
        have : ¬ l ≤ p := fun h => by rw [Nat.ble_eq.mpr h] at q; cases q
        simp; (first | lia | omega)
    rw [mgN]
    cases q : Nat.ble l p with
    | true =>
      rw [q] at hgo
      have ih := mg_sim PS k ls (p :: rest) (s.1 ++ [(l : Int)], s.2.1 ++ [true], s.2.2) hr hp (by simp at hk ⊢; (first | lia | omega))
      simp only [iz, List.map_cons, List.foldl_cons, cond_true]
      rw [show mLeaf (List.map (fun (x : Nat) => (x : Int)) PS) s (l : Int) = _ from leaf_stop hgo]
      simp only [iz] at ih
      rw [ih.1, ih.2]
      simp
    | false =>
      rw [q] at hgo
      have hs : mStep (iz PS) s = (s.1 ++ [(p : Int)], s.2.1 ++ [false], s.2.2 + 1) := by
        unfold mStep
        rw [iz_getD, hat.1]
      have ih := mg_sim PS k (l :: ls) rest (mStep (iz PS) s) (by rw [hs]; exact hat.2) (by rw [hs]; exact hlt) (by simp at hk ⊢; (first | lia | omega))
      have hf : (iz (l :: ls)).foldl (mLeaf (iz PS)) s = (iz (l :: ls)).foldl (mLeaf (iz PS)) (mStep (iz PS) s) := by
        simp only [iz, List.map_cons, List.foldl_cons]
        rw [show mLeaf (List.map (fun (x : Nat) => (x : Int)) PS) s (l : Int) = _ from leaf_go hgo]
      rw [hf, ih.1, ih.2, hs]
      simp [iz]

noncomputable def pairN : List Nat → List Nat
  | a :: b :: r => (a + b) :: pairN r
  | _ => []
theorem pair_iz : ∀ (ws : List Nat), pairUp (iz ws) = iz (pairN ws)
  | [] => rfl
  | [_] => by simp [pairUp, iz, pairN]
  | a :: b :: r => by
    have ih := pair_iz r
    unfold pairUp at ih ⊢
    rw [iz_len] at ih ⊢
    have : (a :: b :: r).length / 2 = r.length / 2 + 1 := by simp only [List.length_cons]; (first | lia | omega)
    rw [this, List.range_succ_eq_map, List.map_cons, List.map_map, pairN]
    show _ :: _ = (((a + b : Nat) : Int)) :: iz (pairN r)
    have key : List.map ((fun i => (iz (a :: b :: r)).getD (2 * i) 0 + (iz (a :: b :: r)).getD (2 * i + 1) 0) ∘ Nat.succ) (List.range (r.length / 2)) = iz (pairN r) := by
      rw [← ih]
      refine List.map_congr_left fun i _ => ?_
      simp only [Function.comp]
      have e1 : 2 * (i + 1) = 2 * i + 1 + 1 := by first | lia | omega
      simp only [Nat.succ_eq_add_one, e1, iz, List.map_cons, List.getD_cons_succ]
    rw [key]
    rfl
noncomputable def rowsT (ws : List Nat) (k : Nat) : Nat → List (List Bool) → List Nat → List (List Bool)
  | 0, acc, _ => acc
  | n + 1, acc, ps => (fun mg : List (Nat × Bool) => rowsT ws k n (mg.map (·.2) :: acc) (pairN (mg.map (·.1)))) (mgN k ws ps)
theorem mW_iz (ws ps : List Nat) (k : Nat) (hk : ws.length + ps.length ≤ k) : mW (iz ws) (iz ps) = iz ((mgN k ws ps).map (·.1)) ∧ mF (iz ws) (iz ps) = (mgN k ws ps).map (·.2) := by
  have := mg_sim ps k ws ps ([], [], 0) rfl (Nat.zero_le _) hk
  exact this
theorem rows_sim (ws : List Nat) : ∀ (n i : Nat) (ps : List Nat), (rowsF (iz ws) i).2 = iz ps → ps.length ≤ ws.length → rowsT ws (2 * ws.length) n (rowsF (iz ws) i).1.reverse ps = (rowsF (iz ws) (i + n)).1.reverse
  | 0, i, ps, _, _ => rfl
  | n + 1, i, ps, h, hp => by
    obtain ⟨e1, e2⟩ := mW_iz ws ps (2 * ws.length) (by first | lia | omega)
    have hl : (mgN (2 * ws.length) ws ps).length = ws.length + ps.length := by
      have := mW_len (iz ws) (iz ps)
      rw [e1, iz_len, iz_len, iz_len, List.length_map] at this
      exact this
    have hs : rowsF (iz ws) (i + 1) = ((rowsF (iz ws) i).1 ++ [(mgN (2 * ws.length) ws ps).map (·.2)], iz (pairN ((mgN (2 * ws.length) ws ps).map (·.1)))) := by
      show rStep (iz ws) (rowsF (iz ws) i) = _
      unfold rStep
      rw [h, e2, e1, pair_iz]
    have hpl : (pairN ((mgN (2 * ws.length) ws ps).map (·.1))).length ≤ ws.length := by
      have : (pairUp (iz ((mgN (2 * ws.length) ws ps).map (·.1)))).length ≤ ws.length := by
        simp only [pairUp, List.length_map, List.length_range, iz_len, hl]
        (first | lia | omega)
      rwa [pair_iz, iz_len] at this
    have ih := rows_sim ws n (i + 1) (pairN ((mgN (2 * ws.length) ws ps).map (·.1))) (by rw [hs]) hpl
    rw [show i + (n + 1) = i + 1 + n by first | lia | omega, ← ih, hs]
    simp only [rowsT, List.reverse_append, List.reverse_cons, List.reverse_nil, List.nil_append, List.singleton_append]
theorem rows_eq (ws : List Nat) (n : Nat) : (rowsF (iz ws) n).1.reverse = rowsT ws (2 * ws.length) n [] [] := by
  have := rows_sim ws n 0 [] rfl (Nat.zero_le _)
  rw [Nat.zero_add] at this
  exact this.symm

noncomputable def cntN : Nat → List Bool → Nat
  | 0, _ => 0
  | _ + 1, [] => 0
  | n + 1, b :: l => bif b then Nat.succ (cntN n l) else cntN n l
theorem cnt_eq : ∀ (n : Nat) (l : List Bool), cCnt l n = cntN n l
  | 0, _ => by simp [cCnt, cntN]
  | _ + 1, [] => by simp [cCnt, cntN]
  | n + 1, b :: l => by
    have ih := cnt_eq n l
    unfold cCnt at ih ⊢
    rw [List.take_succ_cons, List.countP_cons, ih, cntN]
    cases b <;> rfl
noncomputable def aSeqN : List (List Bool) → Nat → List Nat
  | [], _ => []
  | fl :: r, wn => (fun c => c :: aSeqN r (2 * (wn - c))) (cntN wn fl)
theorem aSeq_eq : ∀ (r : List (List Bool)) (wn : Nat), aSeq r wn = aSeqN r wn
  | [], _ => rfl
  | fl :: r, wn => by
    rw [aSeq, aSeqN, cnt_eq, aSeq_eq r]
noncomputable def asN (ws : List Nat) (n : Nat) : List Nat := aSeqN (rowsT ws (2 * ws.length) n [] []) (2 * ws.length - 2)
theorem as_eq (cs : List Int) (n : Nat) : aSeq (rowsF ((ordF cs).map (·.1)) n).1.reverse (2 * (ordF cs).length - 2) = asN (wsF cs) n := by
  have hl : (ordF cs).length = (wsF cs).length := by simp [wsF, onF]
  unfold asN
  rw [aSeq_eq, ← rows_eq, ws_cast, hl]
  rfl
end Mine
end

section
open PySem PySem.W PyProof.Rows PySem.Calls PySem.SeqAt
set_option linter.all false
set_option maxRecDepth 100000
set_option maxHeartbeats 4000000
namespace Mine

noncomputable def maxN : List Nat → Nat
  | [] => 0
  | a :: l => (fun m => bif Nat.ble m a then a else m) (maxN l)
noncomputable def insN (x : Nat) : List Nat → List Nat
  | [] => [x]
  | a :: l => bif Nat.ble x a then x :: a :: l else a :: insN x l
noncomputable def sumN : List Nat → Nat
  | [] => 0
  | a :: l => Nat.add a (sumN l)
noncomputable def allN {α : Type} (f : α → Bool) : List α → Bool
  | [] => true
  | a :: l => bif f a then allN f l else false
noncomputable def anyN {α : Type} (f : α → Bool) : List α → Bool
  | [] => false
  | a :: l => bif f a then true else anyN f l
noncomputable def costW : List (Nat × Nat) → Nat
  | [] => 0
  | p :: l => Nat.add (Nat.mul p.1 p.2) (costW l)
noncomputable def kraft (m : Nat) : List (Nat × Nat) → Nat
  | [] => 0
  | p :: l => Nat.add (Nat.pow 2 (Nat.sub m p.2)) (kraft m l)
noncomputable def okC (ws : List Nat) (t : Nat → Bool) (as : List Nat) : Bool := anyN (fun a => Nat.ble ws.length a) as && t (codeC ws as)
noncomputable def chkM (ws : List Nat) (wl : List (Nat × Nat)) (c m : Nat) : Bool :=
  Nat.ble 1 m && Nat.ble m 20 && Nat.ble ws.length (2 ^ m) && Nat.beq (kraft m wl) (2 ^ m) && okC ws (fun x => Nat.beq x c) (asN ws m) &&
  (bif Nat.ble 2 m && Nat.ble ws.length (2 ^ (m - 1)) then okC ws (fun x => Nat.ble c x) (asN ws (m - 1)) else true)
noncomputable def chkR : List Nat → Nat → Bool
  | a :: b :: [], c => Nat.beq c (a + b)
  | a :: b :: r, c => Nat.beq c (a + b + costW (wlN (insN (a + b) r)))
  | _, _ => true
noncomputable def chkW (ws : List Nat) (wl : List (Nat × Nat)) : Bool :=
  allN (fun p => Nat.ble 1 p.2) wl && allN (fun p => allN (fun q => bif Nat.ble q.1 p.1 then true else Nat.ble q.2 p.2) wl) wl &&
  (bif Nat.ble 2 ws.length then chkM ws wl (costW wl) (maxN (wl.map (·.2))) && chkR ws (costW wl) else true)
noncomputable def chkN (ws : List Nat) : Bool := chkW ws (wlN ws)
end Mine
end

section
open PySem PySem.W PyProof.Rows PySem.Calls PySem.SeqAt
set_option linter.all false
set_option maxRecDepth 100000
set_option maxHeartbeats 4000000
namespace Mine

/-- positive entries, up to order -/
structure SameP (a b : List Int) : Prop where
  perm : ∃ z, a.Perm (b ++ List.replicate z 0)
theorem tallyS_comm (x y : Int) (t : List Int) : tallyS (tallyS t x) y = tallyS (tallyS t y) x := by
  unfold tallyS
  by_cases hx : 0 < x <;> by_cases hy : 0 < y <;> simp only [hx, hy, if_true, if_false]
  by_cases e : x.toNat = y.toNat
  · rw [e]
  · refine List.ext_getElem? fun i => ?_
    have e' : ¬ y.toNat = x.toNat := fun q => e q.symm
    simp only [List.getD_eq_getElem?_getD, List.getElem?_set, List.length_set]
    by_cases q1 : y.toNat = i
    · subst q1
      simp [e, e']
    · by_cases q2 : x.toNat = i
      · subst q2
        simp [e, e', q1]
      · simp [q1, q2]
theorem tally_zeros (z : Nat) (t : List Int) : (List.replicate z (0 : Int)).foldl tallyS t = t := by
  induction z with
  | zero => rfl
  | succ z ih =>
    rw [List.replicate_succ, List.foldl_cons]
    have : tallyS t 0 = t := by unfold tallyS; simp
    rw [this, ih]
theorem maxL_mem {a b : List Int} (h : ∀ x, x ∈ 0 :: a ↔ x ∈ 0 :: b) : maxL (0 :: a) = maxL (0 :: b) := by
  have h1 := maxL_spec (0 :: a) (by simp)
  exact maxL_uniq ((h _).mp h1.1) fun x hx => h1.2 x ((h x).mpr hx)
theorem sameP_max {a b : List Int} (h : SameP a b) : maxL (0 :: a) = maxL (0 :: b) := by
  obtain ⟨z, hz⟩ := h.perm
  refine maxL_mem fun x => ?_
  simp only [List.mem_cons, hz.mem_iff, List.mem_append, List.mem_replicate]
  constructor
  · rintro (h | h | h)
    · exact .inl h
    · exact .inr h
    · exact .inl h.2
  · rintro (h | h)
    · exact .inl h
    · exact .inr (.inl h)
theorem sameP_tally {a b : List Int} (h : SameP a b) : tallyF a = tallyF b := by
  obtain ⟨z, hz⟩ := h.perm
  unfold tallyF
  rw [sameP_max h, hz.foldl_eq' (fun x _ y _ t => tallyS_comm x y t), List.foldl_append, tally_zeros]
theorem sameP_room {a b : List Int} (h : SameP a b) : roomF a = roomF b := by unfold roomF; rw [sameP_tally h]

/-- the lengths are the depths, and zeros -/
theorem tree_sameP (cs : List Int) : SameP (treeF cs) ((hufB (onF cs)).map fun p => (p.2 : Int)) := by
  have s := tree_spec cs
  have hT : treeF cs = (List.range cs.length).map fun i => (treeF cs).getD i 0 := by
    refine List.ext_getElem (by simp [treeF_len]) fun i h1 h2 => ?_
    simp [h1]
  have hp : (List.range cs.length).Perm ((hufB (onF cs)).map (fun p => p.1.toNat) ++ (List.range cs.length).filter fun i => decide (i ∉ (hufB (onF cs)).map fun p => p.1.toNat)) := by
    rw [List.perm_ext_iff_of_nodup List.nodup_range]
    · intro a
      simp only [List.mem_range, List.mem_append, List.mem_filter, decide_eq_true_eq]
      constructor
      · intro h
        by_cases q : a ∈ (hufB (onF cs)).map fun p => p.1.toNat
        · exact .inl q
        · exact .inr ⟨h, q⟩
      · rintro (h | h)
        · obtain ⟨p, hp, rfl⟩ := List.mem_map.mp h
          exact (hl_mem hp).2.1
        · exact h.1
    · rw [List.nodup_append]
      refine ⟨hl_nodup cs, List.Pairwise.filter _ List.nodup_range, fun a ha b hb e => ?_⟩
      subst e
      simp only [List.mem_filter, decide_eq_true_eq] at hb
      exact hb.2 ha
  refine ⟨((List.range cs.length).filter fun i => decide (i ∉ (hufB (onF cs)).map fun p => p.1.toNat)).length, ?_⟩
  have h2 := hp.map fun i => (treeF cs).getD i 0
  rw [← hT, List.map_append, List.map_map] at h2
  refine h2.trans (List.Perm.of_eq ?_)
  congr 1
  · exact List.map_congr_left fun p hp => s.val p hp
  · refine List.eq_replicate_iff.mpr ⟨by simp, fun x hx => ?_⟩
    obtain ⟨i, hi, rfl⟩ := List.mem_map.mp hx
    simp only [List.mem_filter, decide_eq_true_eq] at hi
    refine s.zero i fun a ha e => hi.2 ?_
    obtain ⟨p, hp, rfl⟩ := List.mem_map.mp (s.perm.mem_iff.mpr ha)
    exact List.mem_map.mpr ⟨p, hp, e⟩

noncomputable def hs : List Int → Int
  | [] => 0
  | a :: l => a * 2 ^ l.length + hs l
theorem horner : ∀ (l : List Int) (r : Int), l.foldl (fun r t => 2 * r - t) r = r * 2 ^ l.length - hs l
  | [], r => by simp [hs]
  | a :: l, r => by
    rw [List.foldl_cons, horner l, hs, List.length_cons, Int.pow_succ]
    rw [Int.sub_mul, show r * (2 ^ l.length * 2) = 2 * r * 2 ^ l.length by rw [Int.mul_comm (2 ^ l.length) 2, ← Int.mul_assoc, Int.mul_comm r 2]]
    (first | lia | omega)
theorem hs_set : ∀ (l : List Int) (i : Nat) (v : Int), i < l.length → hs (l.set i v) = hs l + (v - l.getD i 0) * 2 ^ (l.length - 1 - i)
  | a :: l, 0, v, _ => by
    simp only [List.set_cons_zero, hs, List.getD_cons_zero, List.length_cons, Nat.add_sub_cancel, Nat.sub_zero, Int.sub_mul]
    (first | lia | omega)
  | a :: l, i + 1, v, h => by
    simp only [List.length_cons] at h
    have ih := hs_set l i v (by first | lia | omega)
    simp only [List.set_cons_succ, hs, List.getD_cons_succ, List.length_cons, List.length_set, ih]
    rw [show l.length + 1 - 1 - (i + 1) = l.length - 1 - i by first | lia | omega]
    (first | lia | omega)
theorem hs_rep (n : Nat) : hs (List.replicate n 0) = 0 := by
  induction n with
  | zero => rfl
  | succ n ih => rw [List.replicate_succ, hs, ih]; simp
theorem tallyS_drop {t : List Int} {x : Nat} (h1 : 1 ≤ x) (h2 : x < t.length) : hs ((tallyS t (x : Int)).drop 1) = hs (t.drop 1) + 2 ^ (t.length - 1 - x) := by
  have hx : (0 : Int) < (x : Int) := by first | lia | omega
  unfold tallyS
  rw [if_pos hx]
  match t, h2 with
  | a :: t, h2 =>
    obtain ⟨k, rfl⟩ : ∃ k, x = k + 1 := ⟨x - 1, by first | lia | omega⟩
    simp only [List.length_cons] at h2
    simp only [Int.toNat_natCast, List.set_cons_succ, List.drop_succ_cons, List.drop_zero, List.getD_cons_succ, List.length_cons]
    rw [hs_set _ _ _ (by first | lia | omega)]
    rw [show t.length + 1 - 1 - (k + 1) = t.length - 1 - k by first | lia | omega, show t.getD k 0 + 1 - t.getD k 0 = 1 by first | lia | omega, Int.one_mul]
theorem tally_hs (m : Nat) : ∀ (ds : List Nat) (t : List Int), t.length = m + 1 → (∀ d ∈ ds, 1 ≤ d ∧ d ≤ m) → hs (((iz ds).foldl tallyS t).drop 1) = hs (t.drop 1) + ((ds.map fun d => 2 ^ (m - d)).sum : Nat)
  | [], t, _, _ => by simp [iz]
  | d :: ds, t, ht, h => by
    have hd := h d List.mem_cons_self
    have ih := tally_hs m ds (tallyS t (d : Int)) (by rw [tallyS_len, ht]) fun x hx => h x (List.mem_cons_of_mem _ hx)
    simp only [iz] at ih
    simp only [iz, List.map_cons, List.foldl_cons, List.sum_cons]
    rw [ih, tallyS_drop hd.1 (by first | lia | omega), ht]
    rw [show m + 1 - 1 - d = m - d by first | lia | omega]
    have e2 : ((2 ^ (m - d) : Nat) : Int) = (2 : Int) ^ (m - d) := by simp
    rw [Int.natCast_add, e2]
    (first | lia | omega)
theorem room_kraft {ds : List Nat} {m : Nat} (hm : maxL (0 :: iz ds) = (m : Int)) (h : ∀ d ∈ ds, 1 ≤ d) (hk : (ds.map fun d => 2 ^ (m - d)).sum = 2 ^ m) : roomF (iz ds) = 0 := by
  have sp := (maxL_spec (0 :: iz ds) (by simp)).2
  have hle : ∀ d ∈ ds, 1 ≤ d ∧ d ≤ m := fun d hd => by
    have := sp (d : Int) (List.mem_cons_of_mem _ (List.mem_map_of_mem hd))
    rw [hm] at this
    exact ⟨h d hd, by first | lia | omega⟩
  have hlen : (tallyF (iz ds)).length = m + 1 := by
    unfold tallyF
    rw [tally_fold_len, List.length_replicate, hm]; (first | lia | omega)
  unfold roomF
  rw [horner, List.length_drop, hlen, Nat.add_sub_cancel]
  unfold tallyF
  rw [hm, tally_hs m ds _ (by rw [List.length_replicate]; (first | lia | omega)) hle]
  have e : (List.replicate ((m : Int) + 1).toNat (0 : Int)).drop 1 = List.replicate m 0 := by
    rw [show ((m : Int) + 1).toNat = m + 1 by first | lia | omega, List.replicate_succ]; rfl
  rw [e, hs_rep, hk]
  simp
end Mine
end

section
open PySem PySem.W PyProof.Rows PySem.Calls PySem.SeqAt
set_option linter.all false
set_option maxRecDepth 100000
set_option maxHeartbeats 4000000
namespace Mine

noncomputable def chkLw (f : List Nat → List Nat → Bool) : List Nat → List Nat → Bool
  | [], _ => true
  | v :: vs, pre => f (v :: vs) (pre ++ [v]) && chkLw f vs pre
noncomputable def chkT : Nat → List Nat → List Nat → Bool
  | 0, _, pre => chkN pre
  | k + 1, vals, pre => chkN pre && chkLw (chkT k) vals pre
theorem chk_node {k : Nat} {vals pre : List Nat} (h : chkN pre = true) (r : chkLw (chkT k) vals pre = true) : chkT (k + 1) vals pre = true := by rw [chkT, h, r]; rfl
theorem chk_nil {k : Nat} {pre : List Nat} : chkLw (chkT k) [] pre = true := by rw [chkLw]
theorem chk_cons {k v : Nat} {vs pre : List Nat} (h : chkT k (v :: vs) (pre ++ [v]) = true) (r : chkLw (chkT k) vs pre = true) : chkLw (chkT k) (v :: vs) pre = true := by rw [chkLw, h, r]; rfl

/-- a list that grows within the values -/
inductive Grow : List Nat → List Nat → Prop
  | nil {vals : List Nat} : Grow vals []
  | skip {v : Nat} {vs l : List Nat} : Grow vs l → Grow (v :: vs) l
  | take {v : Nat} {vs l : List Nat} : Grow (v :: vs) l → Grow (v :: vs) (v :: l)
theorem chk_grow : ∀ {vals l : List Nat}, Grow vals l → (∀ {k : Nat} {pre : List Nat}, chkT k vals pre = true → l.length ≤ k → chkN (pre ++ l) = true) ∧ (∀ {k : Nat} {pre : List Nat}, chkLw (chkT k) vals pre = true → l ≠ [] → l.length ≤ k + 1 → chkN (pre ++ l) = true)
  | _, _, .nil => ⟨fun {k pre} h _ => by
      rw [List.append_nil]
      cases k with
      | zero => rw [chkT] at h; exact h
      | succ k => rw [chkT, Bool.and_eq_true] at h; exact h.1, fun _ h => absurd rfl h⟩
  | _, l, .skip (v := v) (vs := vs) g => by
    obtain ⟨_, g2⟩ := chk_grow g
    refine ⟨fun {k pre} h hl => ?_, fun {k pre} h hn hl => ?_⟩
    · cases k with
      | zero =>
        obtain rfl : l = [] := List.eq_nil_of_length_eq_zero (by first | lia | omega)
        rw [List.append_nil]; rw [chkT] at h; exact h
      | succ k =>
        rw [chkT, Bool.and_eq_true] at h
        cases l with
        | nil => rw [List.append_nil]; exact h.1
        | cons a l =>
          have h2 := h.2
          rw [chkLw, Bool.and_eq_true] at h2
          exact g2 h2.2 (by simp) hl
    · rw [chkLw, Bool.and_eq_true] at h
      exact g2 h.2 hn hl
  | _, _, .take (v := v) (vs := vs) (l := l) g => by
    obtain ⟨g1, _⟩ := chk_grow g
    have key : ∀ {k : Nat} {pre : List Nat}, chkLw (chkT k) (v :: vs) pre = true → l.length ≤ k → chkN (pre ++ v :: l) = true := fun {k pre} h hl => by
      rw [chkLw, Bool.and_eq_true] at h
      have := g1 h.1 hl
      simpa using this
    refine ⟨fun {k pre} h hl => ?_, fun {k pre} h _ hl => key h (by simpa using hl)⟩
    cases k with
    | zero => simp at hl
    | succ k =>
      rw [chkT, Bool.and_eq_true] at h
      exact key h.2 (by simpa using hl)

theorem t_1_1_1_1 : chkT 3 [1, 2, 3, 4, 5, 8, 13, 1000] [1, 1, 1, 1] = true := by decide +kernel
theorem t_1_1_1_2 : chkT 3 [2, 3, 4, 5, 8, 13, 1000] [1, 1, 1, 2] = true := by decide +kernel
theorem t_1_1_1_3 : chkT 3 [3, 4, 5, 8, 13, 1000] [1, 1, 1, 3] = true := by decide +kernel
theorem t_1_1_1_4 : chkT 3 [4, 5, 8, 13, 1000] [1, 1, 1, 4] = true := by decide +kernel
theorem t_1_1_1_5 : chkT 3 [5, 8, 13, 1000] [1, 1, 1, 5] = true := by decide +kernel
theorem t_1_1_1_8 : chkT 3 [8, 13, 1000] [1, 1, 1, 8] = true := by decide +kernel
theorem t_1_1_1_13 : chkT 3 [13, 1000] [1, 1, 1, 13] = true := by decide +kernel
theorem t_1_1_1_1000 : chkT 3 [1000] [1, 1, 1, 1000] = true := by decide +kernel
theorem t_1_1_1 : chkT 4 [1, 2, 3, 4, 5, 8, 13, 1000] [1, 1, 1] = true := chk_node (by decide +kernel) (chk_cons t_1_1_1_1 (chk_cons t_1_1_1_2 (chk_cons t_1_1_1_3 (chk_cons t_1_1_1_4 (chk_cons t_1_1_1_5 (chk_cons t_1_1_1_8 (chk_cons t_1_1_1_13 (chk_cons t_1_1_1_1000 chk_nil))))))))
theorem t_1_1_2_2 : chkT 3 [2, 3, 4, 5, 8, 13, 1000] [1, 1, 2, 2] = true := by decide +kernel
theorem t_1_1_2_3 : chkT 3 [3, 4, 5, 8, 13, 1000] [1, 1, 2, 3] = true := by decide +kernel
theorem t_1_1_2_4 : chkT 3 [4, 5, 8, 13, 1000] [1, 1, 2, 4] = true := by decide +kernel
theorem t_1_1_2_5 : chkT 3 [5, 8, 13, 1000] [1, 1, 2, 5] = true := by decide +kernel
theorem t_1_1_2_8 : chkT 3 [8, 13, 1000] [1, 1, 2, 8] = true := by decide +kernel
theorem t_1_1_2_13 : chkT 3 [13, 1000] [1, 1, 2, 13] = true := by decide +kernel
theorem t_1_1_2_1000 : chkT 3 [1000] [1, 1, 2, 1000] = true := by decide +kernel
theorem t_1_1_2 : chkT 4 [2, 3, 4, 5, 8, 13, 1000] [1, 1, 2] = true := chk_node (by decide +kernel) (chk_cons t_1_1_2_2 (chk_cons t_1_1_2_3 (chk_cons t_1_1_2_4 (chk_cons t_1_1_2_5 (chk_cons t_1_1_2_8 (chk_cons t_1_1_2_13 (chk_cons t_1_1_2_1000 chk_nil)))))))
theorem t_1_1_3_3 : chkT 3 [3, 4, 5, 8, 13, 1000] [1, 1, 3, 3] = true := by decide +kernel
theorem t_1_1_3_4 : chkT 3 [4, 5, 8, 13, 1000] [1, 1, 3, 4] = true := by decide +kernel
theorem t_1_1_3_5 : chkT 3 [5, 8, 13, 1000] [1, 1, 3, 5] = true := by decide +kernel
theorem t_1_1_3_8 : chkT 3 [8, 13, 1000] [1, 1, 3, 8] = true := by decide +kernel
theorem t_1_1_3_13 : chkT 3 [13, 1000] [1, 1, 3, 13] = true := by decide +kernel
theorem t_1_1_3_1000 : chkT 3 [1000] [1, 1, 3, 1000] = true := by decide +kernel
theorem t_1_1_3 : chkT 4 [3, 4, 5, 8, 13, 1000] [1, 1, 3] = true := chk_node (by decide +kernel) (chk_cons t_1_1_3_3 (chk_cons t_1_1_3_4 (chk_cons t_1_1_3_5 (chk_cons t_1_1_3_8 (chk_cons t_1_1_3_13 (chk_cons t_1_1_3_1000 chk_nil))))))
theorem t_1_1_4_4 : chkT 3 [4, 5, 8, 13, 1000] [1, 1, 4, 4] = true := by decide +kernel
theorem t_1_1_4_5 : chkT 3 [5, 8, 13, 1000] [1, 1, 4, 5] = true := by decide +kernel
theorem t_1_1_4_8 : chkT 3 [8, 13, 1000] [1, 1, 4, 8] = true := by decide +kernel
theorem t_1_1_4_13 : chkT 3 [13, 1000] [1, 1, 4, 13] = true := by decide +kernel
theorem t_1_1_4_1000 : chkT 3 [1000] [1, 1, 4, 1000] = true := by decide +kernel
theorem t_1_1_4 : chkT 4 [4, 5, 8, 13, 1000] [1, 1, 4] = true := chk_node (by decide +kernel) (chk_cons t_1_1_4_4 (chk_cons t_1_1_4_5 (chk_cons t_1_1_4_8 (chk_cons t_1_1_4_13 (chk_cons t_1_1_4_1000 chk_nil)))))
theorem t_1_1_5_5 : chkT 3 [5, 8, 13, 1000] [1, 1, 5, 5] = true := by decide +kernel
theorem t_1_1_5_8 : chkT 3 [8, 13, 1000] [1, 1, 5, 8] = true := by decide +kernel
theorem t_1_1_5_13 : chkT 3 [13, 1000] [1, 1, 5, 13] = true := by decide +kernel
theorem t_1_1_5_1000 : chkT 3 [1000] [1, 1, 5, 1000] = true := by decide +kernel
theorem t_1_1_5 : chkT 4 [5, 8, 13, 1000] [1, 1, 5] = true := chk_node (by decide +kernel) (chk_cons t_1_1_5_5 (chk_cons t_1_1_5_8 (chk_cons t_1_1_5_13 (chk_cons t_1_1_5_1000 chk_nil))))
theorem t_1_1_8_8 : chkT 3 [8, 13, 1000] [1, 1, 8, 8] = true := by decide +kernel
theorem t_1_1_8_13 : chkT 3 [13, 1000] [1, 1, 8, 13] = true := by decide +kernel
theorem t_1_1_8_1000 : chkT 3 [1000] [1, 1, 8, 1000] = true := by decide +kernel
theorem t_1_1_8 : chkT 4 [8, 13, 1000] [1, 1, 8] = true := chk_node (by decide +kernel) (chk_cons t_1_1_8_8 (chk_cons t_1_1_8_13 (chk_cons t_1_1_8_1000 chk_nil)))
theorem t_1_1_13_13 : chkT 3 [13, 1000] [1, 1, 13, 13] = true := by decide +kernel
theorem t_1_1_13_1000 : chkT 3 [1000] [1, 1, 13, 1000] = true := by decide +kernel
theorem t_1_1_13 : chkT 4 [13, 1000] [1, 1, 13] = true := chk_node (by decide +kernel) (chk_cons t_1_1_13_13 (chk_cons t_1_1_13_1000 chk_nil))
theorem t_1_1_1000_1000 : chkT 3 [1000] [1, 1, 1000, 1000] = true := by decide +kernel
theorem t_1_1_1000 : chkT 4 [1000] [1, 1, 1000] = true := chk_node (by decide +kernel) (chk_cons t_1_1_1000_1000 chk_nil)
theorem t_1_1 : chkT 5 [1, 2, 3, 4, 5, 8, 13, 1000] [1, 1] = true := chk_node (by decide +kernel) (chk_cons t_1_1_1 (chk_cons t_1_1_2 (chk_cons t_1_1_3 (chk_cons t_1_1_4 (chk_cons t_1_1_5 (chk_cons t_1_1_8 (chk_cons t_1_1_13 (chk_cons t_1_1_1000 chk_nil))))))))
theorem t_1_2_2_2 : chkT 3 [2, 3, 4, 5, 8, 13, 1000] [1, 2, 2, 2] = true := by decide +kernel
theorem t_1_2_2_3 : chkT 3 [3, 4, 5, 8, 13, 1000] [1, 2, 2, 3] = true := by decide +kernel
theorem t_1_2_2_4 : chkT 3 [4, 5, 8, 13, 1000] [1, 2, 2, 4] = true := by decide +kernel
theorem t_1_2_2_5 : chkT 3 [5, 8, 13, 1000] [1, 2, 2, 5] = true := by decide +kernel
theorem t_1_2_2_8 : chkT 3 [8, 13, 1000] [1, 2, 2, 8] = true := by decide +kernel
theorem t_1_2_2_13 : chkT 3 [13, 1000] [1, 2, 2, 13] = true := by decide +kernel
theorem t_1_2_2_1000 : chkT 3 [1000] [1, 2, 2, 1000] = true := by decide +kernel
theorem t_1_2_2 : chkT 4 [2, 3, 4, 5, 8, 13, 1000] [1, 2, 2] = true := chk_node (by decide +kernel) (chk_cons t_1_2_2_2 (chk_cons t_1_2_2_3 (chk_cons t_1_2_2_4 (chk_cons t_1_2_2_5 (chk_cons t_1_2_2_8 (chk_cons t_1_2_2_13 (chk_cons t_1_2_2_1000 chk_nil)))))))
theorem t_1_2_3_3 : chkT 3 [3, 4, 5, 8, 13, 1000] [1, 2, 3, 3] = true := by decide +kernel
theorem t_1_2_3_4 : chkT 3 [4, 5, 8, 13, 1000] [1, 2, 3, 4] = true := by decide +kernel
theorem t_1_2_3_5 : chkT 3 [5, 8, 13, 1000] [1, 2, 3, 5] = true := by decide +kernel
theorem t_1_2_3_8 : chkT 3 [8, 13, 1000] [1, 2, 3, 8] = true := by decide +kernel
theorem t_1_2_3_13 : chkT 3 [13, 1000] [1, 2, 3, 13] = true := by decide +kernel
theorem t_1_2_3_1000 : chkT 3 [1000] [1, 2, 3, 1000] = true := by decide +kernel
theorem t_1_2_3 : chkT 4 [3, 4, 5, 8, 13, 1000] [1, 2, 3] = true := chk_node (by decide +kernel) (chk_cons t_1_2_3_3 (chk_cons t_1_2_3_4 (chk_cons t_1_2_3_5 (chk_cons t_1_2_3_8 (chk_cons t_1_2_3_13 (chk_cons t_1_2_3_1000 chk_nil))))))
theorem t_1_2_4_4 : chkT 3 [4, 5, 8, 13, 1000] [1, 2, 4, 4] = true := by decide +kernel
theorem t_1_2_4_5 : chkT 3 [5, 8, 13, 1000] [1, 2, 4, 5] = true := by decide +kernel
theorem t_1_2_4_8 : chkT 3 [8, 13, 1000] [1, 2, 4, 8] = true := by decide +kernel
theorem t_1_2_4_13 : chkT 3 [13, 1000] [1, 2, 4, 13] = true := by decide +kernel
theorem t_1_2_4_1000 : chkT 3 [1000] [1, 2, 4, 1000] = true := by decide +kernel
theorem t_1_2_4 : chkT 4 [4, 5, 8, 13, 1000] [1, 2, 4] = true := chk_node (by decide +kernel) (chk_cons t_1_2_4_4 (chk_cons t_1_2_4_5 (chk_cons t_1_2_4_8 (chk_cons t_1_2_4_13 (chk_cons t_1_2_4_1000 chk_nil)))))
theorem t_1_2_5_5 : chkT 3 [5, 8, 13, 1000] [1, 2, 5, 5] = true := by decide +kernel
theorem t_1_2_5_8 : chkT 3 [8, 13, 1000] [1, 2, 5, 8] = true := by decide +kernel
theorem t_1_2_5_13 : chkT 3 [13, 1000] [1, 2, 5, 13] = true := by decide +kernel
theorem t_1_2_5_1000 : chkT 3 [1000] [1, 2, 5, 1000] = true := by decide +kernel
theorem t_1_2_5 : chkT 4 [5, 8, 13, 1000] [1, 2, 5] = true := chk_node (by decide +kernel) (chk_cons t_1_2_5_5 (chk_cons t_1_2_5_8 (chk_cons t_1_2_5_13 (chk_cons t_1_2_5_1000 chk_nil))))
theorem t_1_2_8_8 : chkT 3 [8, 13, 1000] [1, 2, 8, 8] = true := by decide +kernel
theorem t_1_2_8_13 : chkT 3 [13, 1000] [1, 2, 8, 13] = true := by decide +kernel
theorem t_1_2_8_1000 : chkT 3 [1000] [1, 2, 8, 1000] = true := by decide +kernel
theorem t_1_2_8 : chkT 4 [8, 13, 1000] [1, 2, 8] = true := chk_node (by decide +kernel) (chk_cons t_1_2_8_8 (chk_cons t_1_2_8_13 (chk_cons t_1_2_8_1000 chk_nil)))
theorem t_1_2_13_13 : chkT 3 [13, 1000] [1, 2, 13, 13] = true := by decide +kernel
theorem t_1_2_13_1000 : chkT 3 [1000] [1, 2, 13, 1000] = true := by decide +kernel
theorem t_1_2_13 : chkT 4 [13, 1000] [1, 2, 13] = true := chk_node (by decide +kernel) (chk_cons t_1_2_13_13 (chk_cons t_1_2_13_1000 chk_nil))
theorem t_1_2_1000_1000 : chkT 3 [1000] [1, 2, 1000, 1000] = true := by decide +kernel
theorem t_1_2_1000 : chkT 4 [1000] [1, 2, 1000] = true := chk_node (by decide +kernel) (chk_cons t_1_2_1000_1000 chk_nil)
theorem t_1_2 : chkT 5 [2, 3, 4, 5, 8, 13, 1000] [1, 2] = true := chk_node (by decide +kernel) (chk_cons t_1_2_2 (chk_cons t_1_2_3 (chk_cons t_1_2_4 (chk_cons t_1_2_5 (chk_cons t_1_2_8 (chk_cons t_1_2_13 (chk_cons t_1_2_1000 chk_nil)))))))
theorem t_1_3_3_3 : chkT 3 [3, 4, 5, 8, 13, 1000] [1, 3, 3, 3] = true := by decide +kernel
theorem t_1_3_3_4 : chkT 3 [4, 5, 8, 13, 1000] [1, 3, 3, 4] = true := by decide +kernel
theorem t_1_3_3_5 : chkT 3 [5, 8, 13, 1000] [1, 3, 3, 5] = true := by decide +kernel
theorem t_1_3_3_8 : chkT 3 [8, 13, 1000] [1, 3, 3, 8] = true := by decide +kernel
theorem t_1_3_3_13 : chkT 3 [13, 1000] [1, 3, 3, 13] = true := by decide +kernel
theorem t_1_3_3_1000 : chkT 3 [1000] [1, 3, 3, 1000] = true := by decide +kernel
theorem t_1_3_3 : chkT 4 [3, 4, 5, 8, 13, 1000] [1, 3, 3] = true := chk_node (by decide +kernel) (chk_cons t_1_3_3_3 (chk_cons t_1_3_3_4 (chk_cons t_1_3_3_5 (chk_cons t_1_3_3_8 (chk_cons t_1_3_3_13 (chk_cons t_1_3_3_1000 chk_nil))))))
theorem t_1_3_4_4 : chkT 3 [4, 5, 8, 13, 1000] [1, 3, 4, 4] = true := by decide +kernel
theorem t_1_3_4_5 : chkT 3 [5, 8, 13, 1000] [1, 3, 4, 5] = true := by decide +kernel
theorem t_1_3_4_8 : chkT 3 [8, 13, 1000] [1, 3, 4, 8] = true := by decide +kernel
theorem t_1_3_4_13 : chkT 3 [13, 1000] [1, 3, 4, 13] = true := by decide +kernel
theorem t_1_3_4_1000 : chkT 3 [1000] [1, 3, 4, 1000] = true := by decide +kernel
theorem t_1_3_4 : chkT 4 [4, 5, 8, 13, 1000] [1, 3, 4] = true := chk_node (by decide +kernel) (chk_cons t_1_3_4_4 (chk_cons t_1_3_4_5 (chk_cons t_1_3_4_8 (chk_cons t_1_3_4_13 (chk_cons t_1_3_4_1000 chk_nil)))))
theorem t_1_3_5_5 : chkT 3 [5, 8, 13, 1000] [1, 3, 5, 5] = true := by decide +kernel
theorem t_1_3_5_8 : chkT 3 [8, 13, 1000] [1, 3, 5, 8] = true := by decide +kernel
theorem t_1_3_5_13 : chkT 3 [13, 1000] [1, 3, 5, 13] = true := by decide +kernel
theorem t_1_3_5_1000 : chkT 3 [1000] [1, 3, 5, 1000] = true := by decide +kernel
theorem t_1_3_5 : chkT 4 [5, 8, 13, 1000] [1, 3, 5] = true := chk_node (by decide +kernel) (chk_cons t_1_3_5_5 (chk_cons t_1_3_5_8 (chk_cons t_1_3_5_13 (chk_cons t_1_3_5_1000 chk_nil))))
theorem t_1_3_8_8 : chkT 3 [8, 13, 1000] [1, 3, 8, 8] = true := by decide +kernel
theorem t_1_3_8_13 : chkT 3 [13, 1000] [1, 3, 8, 13] = true := by decide +kernel
theorem t_1_3_8_1000 : chkT 3 [1000] [1, 3, 8, 1000] = true := by decide +kernel
theorem t_1_3_8 : chkT 4 [8, 13, 1000] [1, 3, 8] = true := chk_node (by decide +kernel) (chk_cons t_1_3_8_8 (chk_cons t_1_3_8_13 (chk_cons t_1_3_8_1000 chk_nil)))
theorem t_1_3_13_13 : chkT 3 [13, 1000] [1, 3, 13, 13] = true := by decide +kernel
theorem t_1_3_13_1000 : chkT 3 [1000] [1, 3, 13, 1000] = true := by decide +kernel
theorem t_1_3_13 : chkT 4 [13, 1000] [1, 3, 13] = true := chk_node (by decide +kernel) (chk_cons t_1_3_13_13 (chk_cons t_1_3_13_1000 chk_nil))
theorem t_1_3_1000_1000 : chkT 3 [1000] [1, 3, 1000, 1000] = true := by decide +kernel
theorem t_1_3_1000 : chkT 4 [1000] [1, 3, 1000] = true := chk_node (by decide +kernel) (chk_cons t_1_3_1000_1000 chk_nil)
theorem t_1_3 : chkT 5 [3, 4, 5, 8, 13, 1000] [1, 3] = true := chk_node (by decide +kernel) (chk_cons t_1_3_3 (chk_cons t_1_3_4 (chk_cons t_1_3_5 (chk_cons t_1_3_8 (chk_cons t_1_3_13 (chk_cons t_1_3_1000 chk_nil))))))
theorem t_1_4_4_4 : chkT 3 [4, 5, 8, 13, 1000] [1, 4, 4, 4] = true := by decide +kernel
theorem t_1_4_4_5 : chkT 3 [5, 8, 13, 1000] [1, 4, 4, 5] = true := by decide +kernel
theorem t_1_4_4_8 : chkT 3 [8, 13, 1000] [1, 4, 4, 8] = true := by decide +kernel
theorem t_1_4_4_13 : chkT 3 [13, 1000] [1, 4, 4, 13] = true := by decide +kernel
theorem t_1_4_4_1000 : chkT 3 [1000] [1, 4, 4, 1000] = true := by decide +kernel
theorem t_1_4_4 : chkT 4 [4, 5, 8, 13, 1000] [1, 4, 4] = true := chk_node (by decide +kernel) (chk_cons t_1_4_4_4 (chk_cons t_1_4_4_5 (chk_cons t_1_4_4_8 (chk_cons t_1_4_4_13 (chk_cons t_1_4_4_1000 chk_nil)))))
theorem t_1_4_5_5 : chkT 3 [5, 8, 13, 1000] [1, 4, 5, 5] = true := by decide +kernel
theorem t_1_4_5_8 : chkT 3 [8, 13, 1000] [1, 4, 5, 8] = true := by decide +kernel
theorem t_1_4_5_13 : chkT 3 [13, 1000] [1, 4, 5, 13] = true := by decide +kernel
theorem t_1_4_5_1000 : chkT 3 [1000] [1, 4, 5, 1000] = true := by decide +kernel
theorem t_1_4_5 : chkT 4 [5, 8, 13, 1000] [1, 4, 5] = true := chk_node (by decide +kernel) (chk_cons t_1_4_5_5 (chk_cons t_1_4_5_8 (chk_cons t_1_4_5_13 (chk_cons t_1_4_5_1000 chk_nil))))
theorem t_1_4_8_8 : chkT 3 [8, 13, 1000] [1, 4, 8, 8] = true := by decide +kernel
theorem t_1_4_8_13 : chkT 3 [13, 1000] [1, 4, 8, 13] = true := by decide +kernel
theorem t_1_4_8_1000 : chkT 3 [1000] [1, 4, 8, 1000] = true := by decide +kernel
theorem t_1_4_8 : chkT 4 [8, 13, 1000] [1, 4, 8] = true := chk_node (by decide +kernel) (chk_cons t_1_4_8_8 (chk_cons t_1_4_8_13 (chk_cons t_1_4_8_1000 chk_nil)))
theorem t_1_4_13_13 : chkT 3 [13, 1000] [1, 4, 13, 13] = true := by decide +kernel
theorem t_1_4_13_1000 : chkT 3 [1000] [1, 4, 13, 1000] = true := by decide +kernel
theorem t_1_4_13 : chkT 4 [13, 1000] [1, 4, 13] = true := chk_node (by decide +kernel) (chk_cons t_1_4_13_13 (chk_cons t_1_4_13_1000 chk_nil))
theorem t_1_4_1000_1000 : chkT 3 [1000] [1, 4, 1000, 1000] = true := by decide +kernel
theorem t_1_4_1000 : chkT 4 [1000] [1, 4, 1000] = true := chk_node (by decide +kernel) (chk_cons t_1_4_1000_1000 chk_nil)
theorem t_1_4 : chkT 5 [4, 5, 8, 13, 1000] [1, 4] = true := chk_node (by decide +kernel) (chk_cons t_1_4_4 (chk_cons t_1_4_5 (chk_cons t_1_4_8 (chk_cons t_1_4_13 (chk_cons t_1_4_1000 chk_nil)))))
theorem t_1_5_5_5 : chkT 3 [5, 8, 13, 1000] [1, 5, 5, 5] = true := by decide +kernel
theorem t_1_5_5_8 : chkT 3 [8, 13, 1000] [1, 5, 5, 8] = true := by decide +kernel
theorem t_1_5_5_13 : chkT 3 [13, 1000] [1, 5, 5, 13] = true := by decide +kernel
theorem t_1_5_5_1000 : chkT 3 [1000] [1, 5, 5, 1000] = true := by decide +kernel
theorem t_1_5_5 : chkT 4 [5, 8, 13, 1000] [1, 5, 5] = true := chk_node (by decide +kernel) (chk_cons t_1_5_5_5 (chk_cons t_1_5_5_8 (chk_cons t_1_5_5_13 (chk_cons t_1_5_5_1000 chk_nil))))
theorem t_1_5_8_8 : chkT 3 [8, 13, 1000] [1, 5, 8, 8] = true := by decide +kernel
theorem t_1_5_8_13 : chkT 3 [13, 1000] [1, 5, 8, 13] = true := by decide +kernel
theorem t_1_5_8_1000 : chkT 3 [1000] [1, 5, 8, 1000] = true := by decide +kernel
theorem t_1_5_8 : chkT 4 [8, 13, 1000] [1, 5, 8] = true := chk_node (by decide +kernel) (chk_cons t_1_5_8_8 (chk_cons t_1_5_8_13 (chk_cons t_1_5_8_1000 chk_nil)))
theorem t_1_5_13_13 : chkT 3 [13, 1000] [1, 5, 13, 13] = true := by decide +kernel
theorem t_1_5_13_1000 : chkT 3 [1000] [1, 5, 13, 1000] = true := by decide +kernel
theorem t_1_5_13 : chkT 4 [13, 1000] [1, 5, 13] = true := chk_node (by decide +kernel) (chk_cons t_1_5_13_13 (chk_cons t_1_5_13_1000 chk_nil))
theorem t_1_5_1000_1000 : chkT 3 [1000] [1, 5, 1000, 1000] = true := by decide +kernel
theorem t_1_5_1000 : chkT 4 [1000] [1, 5, 1000] = true := chk_node (by decide +kernel) (chk_cons t_1_5_1000_1000 chk_nil)
theorem t_1_5 : chkT 5 [5, 8, 13, 1000] [1, 5] = true := chk_node (by decide +kernel) (chk_cons t_1_5_5 (chk_cons t_1_5_8 (chk_cons t_1_5_13 (chk_cons t_1_5_1000 chk_nil))))
theorem t_1_8_8_8 : chkT 3 [8, 13, 1000] [1, 8, 8, 8] = true := by decide +kernel
theorem t_1_8_8_13 : chkT 3 [13, 1000] [1, 8, 8, 13] = true := by decide +kernel
theorem t_1_8_8_1000 : chkT 3 [1000] [1, 8, 8, 1000] = true := by decide +kernel
theorem t_1_8_8 : chkT 4 [8, 13, 1000] [1, 8, 8] = true := chk_node (by decide +kernel) (chk_cons t_1_8_8_8 (chk_cons t_1_8_8_13 (chk_cons t_1_8_8_1000 chk_nil)))
theorem t_1_8_13_13 : chkT 3 [13, 1000] [1, 8, 13, 13] = true := by decide +kernel
theorem t_1_8_13_1000 : chkT 3 [1000] [1, 8, 13, 1000] = true := by decide +kernel
theorem t_1_8_13 : chkT 4 [13, 1000] [1, 8, 13] = true := chk_node (by decide +kernel) (chk_cons t_1_8_13_13 (chk_cons t_1_8_13_1000 chk_nil))
theorem t_1_8_1000_1000 : chkT 3 [1000] [1, 8, 1000, 1000] = true := by decide +kernel
theorem t_1_8_1000 : chkT 4 [1000] [1, 8, 1000] = true := chk_node (by decide +kernel) (chk_cons t_1_8_1000_1000 chk_nil)
theorem t_1_8 : chkT 5 [8, 13, 1000] [1, 8] = true := chk_node (by decide +kernel) (chk_cons t_1_8_8 (chk_cons t_1_8_13 (chk_cons t_1_8_1000 chk_nil)))
theorem t_1_13_13_13 : chkT 3 [13, 1000] [1, 13, 13, 13] = true := by decide +kernel
theorem t_1_13_13_1000 : chkT 3 [1000] [1, 13, 13, 1000] = true := by decide +kernel
theorem t_1_13_13 : chkT 4 [13, 1000] [1, 13, 13] = true := chk_node (by decide +kernel) (chk_cons t_1_13_13_13 (chk_cons t_1_13_13_1000 chk_nil))
theorem t_1_13_1000_1000 : chkT 3 [1000] [1, 13, 1000, 1000] = true := by decide +kernel
theorem t_1_13_1000 : chkT 4 [1000] [1, 13, 1000] = true := chk_node (by decide +kernel) (chk_cons t_1_13_1000_1000 chk_nil)
theorem t_1_13 : chkT 5 [13, 1000] [1, 13] = true := chk_node (by decide +kernel) (chk_cons t_1_13_13 (chk_cons t_1_13_1000 chk_nil))
theorem t_1_1000_1000_1000 : chkT 3 [1000] [1, 1000, 1000, 1000] = true := by decide +kernel
theorem t_1_1000_1000 : chkT 4 [1000] [1, 1000, 1000] = true := chk_node (by decide +kernel) (chk_cons t_1_1000_1000_1000 chk_nil)
theorem t_1_1000 : chkT 5 [1000] [1, 1000] = true := chk_node (by decide +kernel) (chk_cons t_1_1000_1000 chk_nil)
theorem t_1 : chkT 6 [1, 2, 3, 4, 5, 8, 13, 1000] [1] = true := chk_node (by decide +kernel) (chk_cons t_1_1 (chk_cons t_1_2 (chk_cons t_1_3 (chk_cons t_1_4 (chk_cons t_1_5 (chk_cons t_1_8 (chk_cons t_1_13 (chk_cons t_1_1000 chk_nil))))))))
theorem t_2_2_2_2 : chkT 3 [2, 3, 4, 5, 8, 13, 1000] [2, 2, 2, 2] = true := by decide +kernel
theorem t_2_2_2_3 : chkT 3 [3, 4, 5, 8, 13, 1000] [2, 2, 2, 3] = true := by decide +kernel
theorem t_2_2_2_4 : chkT 3 [4, 5, 8, 13, 1000] [2, 2, 2, 4] = true := by decide +kernel
theorem t_2_2_2_5 : chkT 3 [5, 8, 13, 1000] [2, 2, 2, 5] = true := by decide +kernel
theorem t_2_2_2_8 : chkT 3 [8, 13, 1000] [2, 2, 2, 8] = true := by decide +kernel
theorem t_2_2_2_13 : chkT 3 [13, 1000] [2, 2, 2, 13] = true := by decide +kernel
theorem t_2_2_2_1000 : chkT 3 [1000] [2, 2, 2, 1000] = true := by decide +kernel
theorem t_2_2_2 : chkT 4 [2, 3, 4, 5, 8, 13, 1000] [2, 2, 2] = true := chk_node (by decide +kernel) (chk_cons t_2_2_2_2 (chk_cons t_2_2_2_3 (chk_cons t_2_2_2_4 (chk_cons t_2_2_2_5 (chk_cons t_2_2_2_8 (chk_cons t_2_2_2_13 (chk_cons t_2_2_2_1000 chk_nil)))))))
theorem t_2_2_3_3 : chkT 3 [3, 4, 5, 8, 13, 1000] [2, 2, 3, 3] = true := by decide +kernel
theorem t_2_2_3_4 : chkT 3 [4, 5, 8, 13, 1000] [2, 2, 3, 4] = true := by decide +kernel
theorem t_2_2_3_5 : chkT 3 [5, 8, 13, 1000] [2, 2, 3, 5] = true := by decide +kernel
theorem t_2_2_3_8 : chkT 3 [8, 13, 1000] [2, 2, 3, 8] = true := by decide +kernel
theorem t_2_2_3_13 : chkT 3 [13, 1000] [2, 2, 3, 13] = true := by decide +kernel
theorem t_2_2_3_1000 : chkT 3 [1000] [2, 2, 3, 1000] = true := by decide +kernel
theorem t_2_2_3 : chkT 4 [3, 4, 5, 8, 13, 1000] [2, 2, 3] = true := chk_node (by decide +kernel) (chk_cons t_2_2_3_3 (chk_cons t_2_2_3_4 (chk_cons t_2_2_3_5 (chk_cons t_2_2_3_8 (chk_cons t_2_2_3_13 (chk_cons t_2_2_3_1000 chk_nil))))))
theorem t_2_2_4_4 : chkT 3 [4, 5, 8, 13, 1000] [2, 2, 4, 4] = true := by decide +kernel
theorem t_2_2_4_5 : chkT 3 [5, 8, 13, 1000] [2, 2, 4, 5] = true := by decide +kernel
theorem t_2_2_4_8 : chkT 3 [8, 13, 1000] [2, 2, 4, 8] = true := by decide +kernel
theorem t_2_2_4_13 : chkT 3 [13, 1000] [2, 2, 4, 13] = true := by decide +kernel
theorem t_2_2_4_1000 : chkT 3 [1000] [2, 2, 4, 1000] = true := by decide +kernel
theorem t_2_2_4 : chkT 4 [4, 5, 8, 13, 1000] [2, 2, 4] = true := chk_node (by decide +kernel) (chk_cons t_2_2_4_4 (chk_cons t_2_2_4_5 (chk_cons t_2_2_4_8 (chk_cons t_2_2_4_13 (chk_cons t_2_2_4_1000 chk_nil)))))
theorem t_2_2_5_5 : chkT 3 [5, 8, 13, 1000] [2, 2, 5, 5] = true := by decide +kernel
theorem t_2_2_5_8 : chkT 3 [8, 13, 1000] [2, 2, 5, 8] = true := by decide +kernel
theorem t_2_2_5_13 : chkT 3 [13, 1000] [2, 2, 5, 13] = true := by decide +kernel
theorem t_2_2_5_1000 : chkT 3 [1000] [2, 2, 5, 1000] = true := by decide +kernel
theorem t_2_2_5 : chkT 4 [5, 8, 13, 1000] [2, 2, 5] = true := chk_node (by decide +kernel) (chk_cons t_2_2_5_5 (chk_cons t_2_2_5_8 (chk_cons t_2_2_5_13 (chk_cons t_2_2_5_1000 chk_nil))))
theorem t_2_2_8_8 : chkT 3 [8, 13, 1000] [2, 2, 8, 8] = true := by decide +kernel
theorem t_2_2_8_13 : chkT 3 [13, 1000] [2, 2, 8, 13] = true := by decide +kernel
theorem t_2_2_8_1000 : chkT 3 [1000] [2, 2, 8, 1000] = true := by decide +kernel
theorem t_2_2_8 : chkT 4 [8, 13, 1000] [2, 2, 8] = true := chk_node (by decide +kernel) (chk_cons t_2_2_8_8 (chk_cons t_2_2_8_13 (chk_cons t_2_2_8_1000 chk_nil)))
theorem t_2_2_13_13 : chkT 3 [13, 1000] [2, 2, 13, 13] = true := by decide +kernel
theorem t_2_2_13_1000 : chkT 3 [1000] [2, 2, 13, 1000] = true := by decide +kernel
theorem t_2_2_13 : chkT 4 [13, 1000] [2, 2, 13] = true := chk_node (by decide +kernel) (chk_cons t_2_2_13_13 (chk_cons t_2_2_13_1000 chk_nil))
theorem t_2_2_1000_1000 : chkT 3 [1000] [2, 2, 1000, 1000] = true := by decide +kernel
theorem t_2_2_1000 : chkT 4 [1000] [2, 2, 1000] = true := chk_node (by decide +kernel) (chk_cons t_2_2_1000_1000 chk_nil)
theorem t_2_2 : chkT 5 [2, 3, 4, 5, 8, 13, 1000] [2, 2] = true := chk_node (by decide +kernel) (chk_cons t_2_2_2 (chk_cons t_2_2_3 (chk_cons t_2_2_4 (chk_cons t_2_2_5 (chk_cons t_2_2_8 (chk_cons t_2_2_13 (chk_cons t_2_2_1000 chk_nil)))))))
theorem t_2_3_3_3 : chkT 3 [3, 4, 5, 8, 13, 1000] [2, 3, 3, 3] = true := by decide +kernel
theorem t_2_3_3_4 : chkT 3 [4, 5, 8, 13, 1000] [2, 3, 3, 4] = true := by decide +kernel
theorem t_2_3_3_5 : chkT 3 [5, 8, 13, 1000] [2, 3, 3, 5] = true := by decide +kernel
theorem t_2_3_3_8 : chkT 3 [8, 13, 1000] [2, 3, 3, 8] = true := by decide +kernel
theorem t_2_3_3_13 : chkT 3 [13, 1000] [2, 3, 3, 13] = true := by decide +kernel
theorem t_2_3_3_1000 : chkT 3 [1000] [2, 3, 3, 1000] = true := by decide +kernel
theorem t_2_3_3 : chkT 4 [3, 4, 5, 8, 13, 1000] [2, 3, 3] = true := chk_node (by decide +kernel) (chk_cons t_2_3_3_3 (chk_cons t_2_3_3_4 (chk_cons t_2_3_3_5 (chk_cons t_2_3_3_8 (chk_cons t_2_3_3_13 (chk_cons t_2_3_3_1000 chk_nil))))))
theorem t_2_3_4_4 : chkT 3 [4, 5, 8, 13, 1000] [2, 3, 4, 4] = true := by decide +kernel
theorem t_2_3_4_5 : chkT 3 [5, 8, 13, 1000] [2, 3, 4, 5] = true := by decide +kernel
theorem t_2_3_4_8 : chkT 3 [8, 13, 1000] [2, 3, 4, 8] = true := by decide +kernel
theorem t_2_3_4_13 : chkT 3 [13, 1000] [2, 3, 4, 13] = true := by decide +kernel
theorem t_2_3_4_1000 : chkT 3 [1000] [2, 3, 4, 1000] = true := by decide +kernel
theorem t_2_3_4 : chkT 4 [4, 5, 8, 13, 1000] [2, 3, 4] = true := chk_node (by decide +kernel) (chk_cons t_2_3_4_4 (chk_cons t_2_3_4_5 (chk_cons t_2_3_4_8 (chk_cons t_2_3_4_13 (chk_cons t_2_3_4_1000 chk_nil)))))
theorem t_2_3_5_5 : chkT 3 [5, 8, 13, 1000] [2, 3, 5, 5] = true := by decide +kernel
theorem t_2_3_5_8 : chkT 3 [8, 13, 1000] [2, 3, 5, 8] = true := by decide +kernel
theorem t_2_3_5_13 : chkT 3 [13, 1000] [2, 3, 5, 13] = true := by decide +kernel
theorem t_2_3_5_1000 : chkT 3 [1000] [2, 3, 5, 1000] = true := by decide +kernel
theorem t_2_3_5 : chkT 4 [5, 8, 13, 1000] [2, 3, 5] = true := chk_node (by decide +kernel) (chk_cons t_2_3_5_5 (chk_cons t_2_3_5_8 (chk_cons t_2_3_5_13 (chk_cons t_2_3_5_1000 chk_nil))))
theorem t_2_3_8_8 : chkT 3 [8, 13, 1000] [2, 3, 8, 8] = true := by decide +kernel
theorem t_2_3_8_13 : chkT 3 [13, 1000] [2, 3, 8, 13] = true := by decide +kernel
theorem t_2_3_8_1000 : chkT 3 [1000] [2, 3, 8, 1000] = true := by decide +kernel
theorem t_2_3_8 : chkT 4 [8, 13, 1000] [2, 3, 8] = true := chk_node (by decide +kernel) (chk_cons t_2_3_8_8 (chk_cons t_2_3_8_13 (chk_cons t_2_3_8_1000 chk_nil)))
theorem t_2_3_13_13 : chkT 3 [13, 1000] [2, 3, 13, 13] = true := by decide +kernel
theorem t_2_3_13_1000 : chkT 3 [1000] [2, 3, 13, 1000] = true := by decide +kernel
theorem t_2_3_13 : chkT 4 [13, 1000] [2, 3, 13] = true := chk_node (by decide +kernel) (chk_cons t_2_3_13_13 (chk_cons t_2_3_13_1000 chk_nil))
theorem t_2_3_1000_1000 : chkT 3 [1000] [2, 3, 1000, 1000] = true := by decide +kernel
theorem t_2_3_1000 : chkT 4 [1000] [2, 3, 1000] = true := chk_node (by decide +kernel) (chk_cons t_2_3_1000_1000 chk_nil)
theorem t_2_3 : chkT 5 [3, 4, 5, 8, 13, 1000] [2, 3] = true := chk_node (by decide +kernel) (chk_cons t_2_3_3 (chk_cons t_2_3_4 (chk_cons t_2_3_5 (chk_cons t_2_3_8 (chk_cons t_2_3_13 (chk_cons t_2_3_1000 chk_nil))))))
theorem t_2_4_4_4 : chkT 3 [4, 5, 8, 13, 1000] [2, 4, 4, 4] = true := by decide +kernel
theorem t_2_4_4_5 : chkT 3 [5, 8, 13, 1000] [2, 4, 4, 5] = true := by decide +kernel
theorem t_2_4_4_8 : chkT 3 [8, 13, 1000] [2, 4, 4, 8] = true := by decide +kernel
theorem t_2_4_4_13 : chkT 3 [13, 1000] [2, 4, 4, 13] = true := by decide +kernel
theorem t_2_4_4_1000 : chkT 3 [1000] [2, 4, 4, 1000] = true := by decide +kernel
theorem t_2_4_4 : chkT 4 [4, 5, 8, 13, 1000] [2, 4, 4] = true := chk_node (by decide +kernel) (chk_cons t_2_4_4_4 (chk_cons t_2_4_4_5 (chk_cons t_2_4_4_8 (chk_cons t_2_4_4_13 (chk_cons t_2_4_4_1000 chk_nil)))))
theorem t_2_4_5_5 : chkT 3 [5, 8, 13, 1000] [2, 4, 5, 5] = true := by decide +kernel
theorem t_2_4_5_8 : chkT 3 [8, 13, 1000] [2, 4, 5, 8] = true := by decide +kernel
theorem t_2_4_5_13 : chkT 3 [13, 1000] [2, 4, 5, 13] = true := by decide +kernel
theorem t_2_4_5_1000 : chkT 3 [1000] [2, 4, 5, 1000] = true := by decide +kernel
theorem t_2_4_5 : chkT 4 [5, 8, 13, 1000] [2, 4, 5] = true := chk_node (by decide +kernel) (chk_cons t_2_4_5_5 (chk_cons t_2_4_5_8 (chk_cons t_2_4_5_13 (chk_cons t_2_4_5_1000 chk_nil))))
theorem t_2_4_8_8 : chkT 3 [8, 13, 1000] [2, 4, 8, 8] = true := by decide +kernel
theorem t_2_4_8_13 : chkT 3 [13, 1000] [2, 4, 8, 13] = true := by decide +kernel
theorem t_2_4_8_1000 : chkT 3 [1000] [2, 4, 8, 1000] = true := by decide +kernel
theorem t_2_4_8 : chkT 4 [8, 13, 1000] [2, 4, 8] = true := chk_node (by decide +kernel) (chk_cons t_2_4_8_8 (chk_cons t_2_4_8_13 (chk_cons t_2_4_8_1000 chk_nil)))
theorem t_2_4_13_13 : chkT 3 [13, 1000] [2, 4, 13, 13] = true := by decide +kernel
theorem t_2_4_13_1000 : chkT 3 [1000] [2, 4, 13, 1000] = true := by decide +kernel
theorem t_2_4_13 : chkT 4 [13, 1000] [2, 4, 13] = true := chk_node (by decide +kernel) (chk_cons t_2_4_13_13 (chk_cons t_2_4_13_1000 chk_nil))
theorem t_2_4_1000_1000 : chkT 3 [1000] [2, 4, 1000, 1000] = true := by decide +kernel
theorem t_2_4_1000 : chkT 4 [1000] [2, 4, 1000] = true := chk_node (by decide +kernel) (chk_cons t_2_4_1000_1000 chk_nil)
theorem t_2_4 : chkT 5 [4, 5, 8, 13, 1000] [2, 4] = true := chk_node (by decide +kernel) (chk_cons t_2_4_4 (chk_cons t_2_4_5 (chk_cons t_2_4_8 (chk_cons t_2_4_13 (chk_cons t_2_4_1000 chk_nil)))))
theorem t_2_5_5_5 : chkT 3 [5, 8, 13, 1000] [2, 5, 5, 5] = true := by decide +kernel
theorem t_2_5_5_8 : chkT 3 [8, 13, 1000] [2, 5, 5, 8] = true := by decide +kernel
theorem t_2_5_5_13 : chkT 3 [13, 1000] [2, 5, 5, 13] = true := by decide +kernel
theorem t_2_5_5_1000 : chkT 3 [1000] [2, 5, 5, 1000] = true := by decide +kernel
theorem t_2_5_5 : chkT 4 [5, 8, 13, 1000] [2, 5, 5] = true := chk_node (by decide +kernel) (chk_cons t_2_5_5_5 (chk_cons t_2_5_5_8 (chk_cons t_2_5_5_13 (chk_cons t_2_5_5_1000 chk_nil))))
theorem t_2_5_8_8 : chkT 3 [8, 13, 1000] [2, 5, 8, 8] = true := by decide +kernel
theorem t_2_5_8_13 : chkT 3 [13, 1000] [2, 5, 8, 13] = true := by decide +kernel
theorem t_2_5_8_1000 : chkT 3 [1000] [2, 5, 8, 1000] = true := by decide +kernel
theorem t_2_5_8 : chkT 4 [8, 13, 1000] [2, 5, 8] = true := chk_node (by decide +kernel) (chk_cons t_2_5_8_8 (chk_cons t_2_5_8_13 (chk_cons t_2_5_8_1000 chk_nil)))
theorem t_2_5_13_13 : chkT 3 [13, 1000] [2, 5, 13, 13] = true := by decide +kernel
theorem t_2_5_13_1000 : chkT 3 [1000] [2, 5, 13, 1000] = true := by decide +kernel
theorem t_2_5_13 : chkT 4 [13, 1000] [2, 5, 13] = true := chk_node (by decide +kernel) (chk_cons t_2_5_13_13 (chk_cons t_2_5_13_1000 chk_nil))
theorem t_2_5_1000_1000 : chkT 3 [1000] [2, 5, 1000, 1000] = true := by decide +kernel
theorem t_2_5_1000 : chkT 4 [1000] [2, 5, 1000] = true := chk_node (by decide +kernel) (chk_cons t_2_5_1000_1000 chk_nil)
theorem t_2_5 : chkT 5 [5, 8, 13, 1000] [2, 5] = true := chk_node (by decide +kernel) (chk_cons t_2_5_5 (chk_cons t_2_5_8 (chk_cons t_2_5_13 (chk_cons t_2_5_1000 chk_nil))))
theorem t_2_8_8_8 : chkT 3 [8, 13, 1000] [2, 8, 8, 8] = true := by decide +kernel
theorem t_2_8_8_13 : chkT 3 [13, 1000] [2, 8, 8, 13] = true := by decide +kernel
theorem t_2_8_8_1000 : chkT 3 [1000] [2, 8, 8, 1000] = true := by decide +kernel
theorem t_2_8_8 : chkT 4 [8, 13, 1000] [2, 8, 8] = true := chk_node (by decide +kernel) (chk_cons t_2_8_8_8 (chk_cons t_2_8_8_13 (chk_cons t_2_8_8_1000 chk_nil)))
theorem t_2_8_13_13 : chkT 3 [13, 1000] [2, 8, 13, 13] = true := by decide +kernel
theorem t_2_8_13_1000 : chkT 3 [1000] [2, 8, 13, 1000] = true := by decide +kernel
theorem t_2_8_13 : chkT 4 [13, 1000] [2, 8, 13] = true := chk_node (by decide +kernel) (chk_cons t_2_8_13_13 (chk_cons t_2_8_13_1000 chk_nil))
theorem t_2_8_1000_1000 : chkT 3 [1000] [2, 8, 1000, 1000] = true := by decide +kernel
theorem t_2_8_1000 : chkT 4 [1000] [2, 8, 1000] = true := chk_node (by decide +kernel) (chk_cons t_2_8_1000_1000 chk_nil)
theorem t_2_8 : chkT 5 [8, 13, 1000] [2, 8] = true := chk_node (by decide +kernel) (chk_cons t_2_8_8 (chk_cons t_2_8_13 (chk_cons t_2_8_1000 chk_nil)))
theorem t_2_13_13_13 : chkT 3 [13, 1000] [2, 13, 13, 13] = true := by decide +kernel
theorem t_2_13_13_1000 : chkT 3 [1000] [2, 13, 13, 1000] = true := by decide +kernel
theorem t_2_13_13 : chkT 4 [13, 1000] [2, 13, 13] = true := chk_node (by decide +kernel) (chk_cons t_2_13_13_13 (chk_cons t_2_13_13_1000 chk_nil))
theorem t_2_13_1000_1000 : chkT 3 [1000] [2, 13, 1000, 1000] = true := by decide +kernel
theorem t_2_13_1000 : chkT 4 [1000] [2, 13, 1000] = true := chk_node (by decide +kernel) (chk_cons t_2_13_1000_1000 chk_nil)
theorem t_2_13 : chkT 5 [13, 1000] [2, 13] = true := chk_node (by decide +kernel) (chk_cons t_2_13_13 (chk_cons t_2_13_1000 chk_nil))
theorem t_2_1000_1000_1000 : chkT 3 [1000] [2, 1000, 1000, 1000] = true := by decide +kernel
theorem t_2_1000_1000 : chkT 4 [1000] [2, 1000, 1000] = true := chk_node (by decide +kernel) (chk_cons t_2_1000_1000_1000 chk_nil)
theorem t_2_1000 : chkT 5 [1000] [2, 1000] = true := chk_node (by decide +kernel) (chk_cons t_2_1000_1000 chk_nil)
theorem t_2 : chkT 6 [2, 3, 4, 5, 8, 13, 1000] [2] = true := chk_node (by decide +kernel) (chk_cons t_2_2 (chk_cons t_2_3 (chk_cons t_2_4 (chk_cons t_2_5 (chk_cons t_2_8 (chk_cons t_2_13 (chk_cons t_2_1000 chk_nil)))))))
theorem t_3_3_3_3 : chkT 3 [3, 4, 5, 8, 13, 1000] [3, 3, 3, 3] = true := by decide +kernel
theorem t_3_3_3_4 : chkT 3 [4, 5, 8, 13, 1000] [3, 3, 3, 4] = true := by decide +kernel
theorem t_3_3_3_5 : chkT 3 [5, 8, 13, 1000] [3, 3, 3, 5] = true := by decide +kernel
theorem t_3_3_3_8 : chkT 3 [8, 13, 1000] [3, 3, 3, 8] = true := by decide +kernel
theorem t_3_3_3_13 : chkT 3 [13, 1000] [3, 3, 3, 13] = true := by decide +kernel
theorem t_3_3_3_1000 : chkT 3 [1000] [3, 3, 3, 1000] = true := by decide +kernel
theorem t_3_3_3 : chkT 4 [3, 4, 5, 8, 13, 1000] [3, 3, 3] = true := chk_node (by decide +kernel) (chk_cons t_3_3_3_3 (chk_cons t_3_3_3_4 (chk_cons t_3_3_3_5 (chk_cons t_3_3_3_8 (chk_cons t_3_3_3_13 (chk_cons t_3_3_3_1000 chk_nil))))))
theorem t_3_3_4_4 : chkT 3 [4, 5, 8, 13, 1000] [3, 3, 4, 4] = true := by decide +kernel
theorem t_3_3_4_5 : chkT 3 [5, 8, 13, 1000] [3, 3, 4, 5] = true := by decide +kernel
theorem t_3_3_4_8 : chkT 3 [8, 13, 1000] [3, 3, 4, 8] = true := by decide +kernel
theorem t_3_3_4_13 : chkT 3 [13, 1000] [3, 3, 4, 13] = true := by decide +kernel
theorem t_3_3_4_1000 : chkT 3 [1000] [3, 3, 4, 1000] = true := by decide +kernel
theorem t_3_3_4 : chkT 4 [4, 5, 8, 13, 1000] [3, 3, 4] = true := chk_node (by decide +kernel) (chk_cons t_3_3_4_4 (chk_cons t_3_3_4_5 (chk_cons t_3_3_4_8 (chk_cons t_3_3_4_13 (chk_cons t_3_3_4_1000 chk_nil)))))
theorem t_3_3_5_5 : chkT 3 [5, 8, 13, 1000] [3, 3, 5, 5] = true := by decide +kernel
theorem t_3_3_5_8 : chkT 3 [8, 13, 1000] [3, 3, 5, 8] = true := by decide +kernel
theorem t_3_3_5_13 : chkT 3 [13, 1000] [3, 3, 5, 13] = true := by decide +kernel
theorem t_3_3_5_1000 : chkT 3 [1000] [3, 3, 5, 1000] = true := by decide +kernel
theorem t_3_3_5 : chkT 4 [5, 8, 13, 1000] [3, 3, 5] = true := chk_node (by decide +kernel) (chk_cons t_3_3_5_5 (chk_cons t_3_3_5_8 (chk_cons t_3_3_5_13 (chk_cons t_3_3_5_1000 chk_nil))))
theorem t_3_3_8_8 : chkT 3 [8, 13, 1000] [3, 3, 8, 8] = true := by decide +kernel
theorem t_3_3_8_13 : chkT 3 [13, 1000] [3, 3, 8, 13] = true := by decide +kernel
theorem t_3_3_8_1000 : chkT 3 [1000] [3, 3, 8, 1000] = true := by decide +kernel
theorem t_3_3_8 : chkT 4 [8, 13, 1000] [3, 3, 8] = true := chk_node (by decide +kernel) (chk_cons t_3_3_8_8 (chk_cons t_3_3_8_13 (chk_cons t_3_3_8_1000 chk_nil)))
theorem t_3_3_13_13 : chkT 3 [13, 1000] [3, 3, 13, 13] = true := by decide +kernel
theorem t_3_3_13_1000 : chkT 3 [1000] [3, 3, 13, 1000] = true := by decide +kernel
theorem t_3_3_13 : chkT 4 [13, 1000] [3, 3, 13] = true := chk_node (by decide +kernel) (chk_cons t_3_3_13_13 (chk_cons t_3_3_13_1000 chk_nil))
theorem t_3_3_1000_1000 : chkT 3 [1000] [3, 3, 1000, 1000] = true := by decide +kernel
theorem t_3_3_1000 : chkT 4 [1000] [3, 3, 1000] = true := chk_node (by decide +kernel) (chk_cons t_3_3_1000_1000 chk_nil)
theorem t_3_3 : chkT 5 [3, 4, 5, 8, 13, 1000] [3, 3] = true := chk_node (by decide +kernel) (chk_cons t_3_3_3 (chk_cons t_3_3_4 (chk_cons t_3_3_5 (chk_cons t_3_3_8 (chk_cons t_3_3_13 (chk_cons t_3_3_1000 chk_nil))))))
theorem t_3_4_4_4 : chkT 3 [4, 5, 8, 13, 1000] [3, 4, 4, 4] = true := by decide +kernel
theorem t_3_4_4_5 : chkT 3 [5, 8, 13, 1000] [3, 4, 4, 5] = true := by decide +kernel
theorem t_3_4_4_8 : chkT 3 [8, 13, 1000] [3, 4, 4, 8] = true := by decide +kernel
theorem t_3_4_4_13 : chkT 3 [13, 1000] [3, 4, 4, 13] = true := by decide +kernel
theorem t_3_4_4_1000 : chkT 3 [1000] [3, 4, 4, 1000] = true := by decide +kernel
theorem t_3_4_4 : chkT 4 [4, 5, 8, 13, 1000] [3, 4, 4] = true := chk_node (by decide +kernel) (chk_cons t_3_4_4_4 (chk_cons t_3_4_4_5 (chk_cons t_3_4_4_8 (chk_cons t_3_4_4_13 (chk_cons t_3_4_4_1000 chk_nil)))))
theorem t_3_4_5_5 : chkT 3 [5, 8, 13, 1000] [3, 4, 5, 5] = true := by decide +kernel
theorem t_3_4_5_8 : chkT 3 [8, 13, 1000] [3, 4, 5, 8] = true := by decide +kernel
theorem t_3_4_5_13 : chkT 3 [13, 1000] [3, 4, 5, 13] = true := by decide +kernel
theorem t_3_4_5_1000 : chkT 3 [1000] [3, 4, 5, 1000] = true := by decide +kernel
theorem t_3_4_5 : chkT 4 [5, 8, 13, 1000] [3, 4, 5] = true := chk_node (by decide +kernel) (chk_cons t_3_4_5_5 (chk_cons t_3_4_5_8 (chk_cons t_3_4_5_13 (chk_cons t_3_4_5_1000 chk_nil))))
theorem t_3_4_8_8 : chkT 3 [8, 13, 1000] [3, 4, 8, 8] = true := by decide +kernel
theorem t_3_4_8_13 : chkT 3 [13, 1000] [3, 4, 8, 13] = true := by decide +kernel
theorem t_3_4_8_1000 : chkT 3 [1000] [3, 4, 8, 1000] = true := by decide +kernel
theorem t_3_4_8 : chkT 4 [8, 13, 1000] [3, 4, 8] = true := chk_node (by decide +kernel) (chk_cons t_3_4_8_8 (chk_cons t_3_4_8_13 (chk_cons t_3_4_8_1000 chk_nil)))
theorem t_3_4_13_13 : chkT 3 [13, 1000] [3, 4, 13, 13] = true := by decide +kernel
theorem t_3_4_13_1000 : chkT 3 [1000] [3, 4, 13, 1000] = true := by decide +kernel
theorem t_3_4_13 : chkT 4 [13, 1000] [3, 4, 13] = true := chk_node (by decide +kernel) (chk_cons t_3_4_13_13 (chk_cons t_3_4_13_1000 chk_nil))
theorem t_3_4_1000_1000 : chkT 3 [1000] [3, 4, 1000, 1000] = true := by decide +kernel
theorem t_3_4_1000 : chkT 4 [1000] [3, 4, 1000] = true := chk_node (by decide +kernel) (chk_cons t_3_4_1000_1000 chk_nil)
theorem t_3_4 : chkT 5 [4, 5, 8, 13, 1000] [3, 4] = true := chk_node (by decide +kernel) (chk_cons t_3_4_4 (chk_cons t_3_4_5 (chk_cons t_3_4_8 (chk_cons t_3_4_13 (chk_cons t_3_4_1000 chk_nil)))))
theorem t_3_5_5_5 : chkT 3 [5, 8, 13, 1000] [3, 5, 5, 5] = true := by decide +kernel
theorem t_3_5_5_8 : chkT 3 [8, 13, 1000] [3, 5, 5, 8] = true := by decide +kernel
theorem t_3_5_5_13 : chkT 3 [13, 1000] [3, 5, 5, 13] = true := by decide +kernel
theorem t_3_5_5_1000 : chkT 3 [1000] [3, 5, 5, 1000] = true := by decide +kernel
theorem t_3_5_5 : chkT 4 [5, 8, 13, 1000] [3, 5, 5] = true := chk_node (by decide +kernel) (chk_cons t_3_5_5_5 (chk_cons t_3_5_5_8 (chk_cons t_3_5_5_13 (chk_cons t_3_5_5_1000 chk_nil))))
theorem t_3_5_8_8 : chkT 3 [8, 13, 1000] [3, 5, 8, 8] = true := by decide +kernel
theorem t_3_5_8_13 : chkT 3 [13, 1000] [3, 5, 8, 13] = true := by decide +kernel
theorem t_3_5_8_1000 : chkT 3 [1000] [3, 5, 8, 1000] = true := by decide +kernel
theorem t_3_5_8 : chkT 4 [8, 13, 1000] [3, 5, 8] = true := chk_node (by decide +kernel) (chk_cons t_3_5_8_8 (chk_cons t_3_5_8_13 (chk_cons t_3_5_8_1000 chk_nil)))
theorem t_3_5_13_13 : chkT 3 [13, 1000] [3, 5, 13, 13] = true := by decide +kernel
theorem t_3_5_13_1000 : chkT 3 [1000] [3, 5, 13, 1000] = true := by decide +kernel
theorem t_3_5_13 : chkT 4 [13, 1000] [3, 5, 13] = true := chk_node (by decide +kernel) (chk_cons t_3_5_13_13 (chk_cons t_3_5_13_1000 chk_nil))
theorem t_3_5_1000_1000 : chkT 3 [1000] [3, 5, 1000, 1000] = true := by decide +kernel
theorem t_3_5_1000 : chkT 4 [1000] [3, 5, 1000] = true := chk_node (by decide +kernel) (chk_cons t_3_5_1000_1000 chk_nil)
theorem t_3_5 : chkT 5 [5, 8, 13, 1000] [3, 5] = true := chk_node (by decide +kernel) (chk_cons t_3_5_5 (chk_cons t_3_5_8 (chk_cons t_3_5_13 (chk_cons t_3_5_1000 chk_nil))))
theorem t_3_8_8_8 : chkT 3 [8, 13, 1000] [3, 8, 8, 8] = true := by decide +kernel
theorem t_3_8_8_13 : chkT 3 [13, 1000] [3, 8, 8, 13] = true := by decide +kernel
theorem t_3_8_8_1000 : chkT 3 [1000] [3, 8, 8, 1000] = true := by decide +kernel
theorem t_3_8_8 : chkT 4 [8, 13, 1000] [3, 8, 8] = true := chk_node (by decide +kernel) (chk_cons t_3_8_8_8 (chk_cons t_3_8_8_13 (chk_cons t_3_8_8_1000 chk_nil)))
theorem t_3_8_13_13 : chkT 3 [13, 1000] [3, 8, 13, 13] = true := by decide +kernel
theorem t_3_8_13_1000 : chkT 3 [1000] [3, 8, 13, 1000] = true := by decide +kernel
theorem t_3_8_13 : chkT 4 [13, 1000] [3, 8, 13] = true := chk_node (by decide +kernel) (chk_cons t_3_8_13_13 (chk_cons t_3_8_13_1000 chk_nil))
theorem t_3_8_1000_1000 : chkT 3 [1000] [3, 8, 1000, 1000] = true := by decide +kernel
theorem t_3_8_1000 : chkT 4 [1000] [3, 8, 1000] = true := chk_node (by decide +kernel) (chk_cons t_3_8_1000_1000 chk_nil)
theorem t_3_8 : chkT 5 [8, 13, 1000] [3, 8] = true := chk_node (by decide +kernel) (chk_cons t_3_8_8 (chk_cons t_3_8_13 (chk_cons t_3_8_1000 chk_nil)))
theorem t_3_13_13_13 : chkT 3 [13, 1000] [3, 13, 13, 13] = true := by decide +kernel
theorem t_3_13_13_1000 : chkT 3 [1000] [3, 13, 13, 1000] = true := by decide +kernel
theorem t_3_13_13 : chkT 4 [13, 1000] [3, 13, 13] = true := chk_node (by decide +kernel) (chk_cons t_3_13_13_13 (chk_cons t_3_13_13_1000 chk_nil))
theorem t_3_13_1000_1000 : chkT 3 [1000] [3, 13, 1000, 1000] = true := by decide +kernel
theorem t_3_13_1000 : chkT 4 [1000] [3, 13, 1000] = true := chk_node (by decide +kernel) (chk_cons t_3_13_1000_1000 chk_nil)
theorem t_3_13 : chkT 5 [13, 1000] [3, 13] = true := chk_node (by decide +kernel) (chk_cons t_3_13_13 (chk_cons t_3_13_1000 chk_nil))
theorem t_3_1000_1000_1000 : chkT 3 [1000] [3, 1000, 1000, 1000] = true := by decide +kernel
theorem t_3_1000_1000 : chkT 4 [1000] [3, 1000, 1000] = true := chk_node (by decide +kernel) (chk_cons t_3_1000_1000_1000 chk_nil)
theorem t_3_1000 : chkT 5 [1000] [3, 1000] = true := chk_node (by decide +kernel) (chk_cons t_3_1000_1000 chk_nil)
theorem t_3 : chkT 6 [3, 4, 5, 8, 13, 1000] [3] = true := chk_node (by decide +kernel) (chk_cons t_3_3 (chk_cons t_3_4 (chk_cons t_3_5 (chk_cons t_3_8 (chk_cons t_3_13 (chk_cons t_3_1000 chk_nil))))))
theorem t_4_4_4_4 : chkT 3 [4, 5, 8, 13, 1000] [4, 4, 4, 4] = true := by decide +kernel
theorem t_4_4_4_5 : chkT 3 [5, 8, 13, 1000] [4, 4, 4, 5] = true := by decide +kernel
theorem t_4_4_4_8 : chkT 3 [8, 13, 1000] [4, 4, 4, 8] = true := by decide +kernel
theorem t_4_4_4_13 : chkT 3 [13, 1000] [4, 4, 4, 13] = true := by decide +kernel
theorem t_4_4_4_1000 : chkT 3 [1000] [4, 4, 4, 1000] = true := by decide +kernel
theorem t_4_4_4 : chkT 4 [4, 5, 8, 13, 1000] [4, 4, 4] = true := chk_node (by decide +kernel) (chk_cons t_4_4_4_4 (chk_cons t_4_4_4_5 (chk_cons t_4_4_4_8 (chk_cons t_4_4_4_13 (chk_cons t_4_4_4_1000 chk_nil)))))
theorem t_4_4_5_5 : chkT 3 [5, 8, 13, 1000] [4, 4, 5, 5] = true := by decide +kernel
theorem t_4_4_5_8 : chkT 3 [8, 13, 1000] [4, 4, 5, 8] = true := by decide +kernel
theorem t_4_4_5_13 : chkT 3 [13, 1000] [4, 4, 5, 13] = true := by decide +kernel
theorem t_4_4_5_1000 : chkT 3 [1000] [4, 4, 5, 1000] = true := by decide +kernel
theorem t_4_4_5 : chkT 4 [5, 8, 13, 1000] [4, 4, 5] = true := chk_node (by decide +kernel) (chk_cons t_4_4_5_5 (chk_cons t_4_4_5_8 (chk_cons t_4_4_5_13 (chk_cons t_4_4_5_1000 chk_nil))))
theorem t_4_4_8_8 : chkT 3 [8, 13, 1000] [4, 4, 8, 8] = true := by decide +kernel
theorem t_4_4_8_13 : chkT 3 [13, 1000] [4, 4, 8, 13] = true := by decide +kernel
theorem t_4_4_8_1000 : chkT 3 [1000] [4, 4, 8, 1000] = true := by decide +kernel
theorem t_4_4_8 : chkT 4 [8, 13, 1000] [4, 4, 8] = true := chk_node (by decide +kernel) (chk_cons t_4_4_8_8 (chk_cons t_4_4_8_13 (chk_cons t_4_4_8_1000 chk_nil)))
theorem t_4_4_13_13 : chkT 3 [13, 1000] [4, 4, 13, 13] = true := by decide +kernel
theorem t_4_4_13_1000 : chkT 3 [1000] [4, 4, 13, 1000] = true := by decide +kernel
theorem t_4_4_13 : chkT 4 [13, 1000] [4, 4, 13] = true := chk_node (by decide +kernel) (chk_cons t_4_4_13_13 (chk_cons t_4_4_13_1000 chk_nil))
theorem t_4_4_1000_1000 : chkT 3 [1000] [4, 4, 1000, 1000] = true := by decide +kernel
theorem t_4_4_1000 : chkT 4 [1000] [4, 4, 1000] = true := chk_node (by decide +kernel) (chk_cons t_4_4_1000_1000 chk_nil)
theorem t_4_4 : chkT 5 [4, 5, 8, 13, 1000] [4, 4] = true := chk_node (by decide +kernel) (chk_cons t_4_4_4 (chk_cons t_4_4_5 (chk_cons t_4_4_8 (chk_cons t_4_4_13 (chk_cons t_4_4_1000 chk_nil)))))
theorem t_4_5_5_5 : chkT 3 [5, 8, 13, 1000] [4, 5, 5, 5] = true := by decide +kernel
theorem t_4_5_5_8 : chkT 3 [8, 13, 1000] [4, 5, 5, 8] = true := by decide +kernel
theorem t_4_5_5_13 : chkT 3 [13, 1000] [4, 5, 5, 13] = true := by decide +kernel
theorem t_4_5_5_1000 : chkT 3 [1000] [4, 5, 5, 1000] = true := by decide +kernel
theorem t_4_5_5 : chkT 4 [5, 8, 13, 1000] [4, 5, 5] = true := chk_node (by decide +kernel) (chk_cons t_4_5_5_5 (chk_cons t_4_5_5_8 (chk_cons t_4_5_5_13 (chk_cons t_4_5_5_1000 chk_nil))))
theorem t_4_5_8_8 : chkT 3 [8, 13, 1000] [4, 5, 8, 8] = true := by decide +kernel
theorem t_4_5_8_13 : chkT 3 [13, 1000] [4, 5, 8, 13] = true := by decide +kernel
theorem t_4_5_8_1000 : chkT 3 [1000] [4, 5, 8, 1000] = true := by decide +kernel
theorem t_4_5_8 : chkT 4 [8, 13, 1000] [4, 5, 8] = true := chk_node (by decide +kernel) (chk_cons t_4_5_8_8 (chk_cons t_4_5_8_13 (chk_cons t_4_5_8_1000 chk_nil)))
theorem t_4_5_13_13 : chkT 3 [13, 1000] [4, 5, 13, 13] = true := by decide +kernel
theorem t_4_5_13_1000 : chkT 3 [1000] [4, 5, 13, 1000] = true := by decide +kernel
theorem t_4_5_13 : chkT 4 [13, 1000] [4, 5, 13] = true := chk_node (by decide +kernel) (chk_cons t_4_5_13_13 (chk_cons t_4_5_13_1000 chk_nil))
theorem t_4_5_1000_1000 : chkT 3 [1000] [4, 5, 1000, 1000] = true := by decide +kernel
theorem t_4_5_1000 : chkT 4 [1000] [4, 5, 1000] = true := chk_node (by decide +kernel) (chk_cons t_4_5_1000_1000 chk_nil)
theorem t_4_5 : chkT 5 [5, 8, 13, 1000] [4, 5] = true := chk_node (by decide +kernel) (chk_cons t_4_5_5 (chk_cons t_4_5_8 (chk_cons t_4_5_13 (chk_cons t_4_5_1000 chk_nil))))
theorem t_4_8_8_8 : chkT 3 [8, 13, 1000] [4, 8, 8, 8] = true := by decide +kernel
theorem t_4_8_8_13 : chkT 3 [13, 1000] [4, 8, 8, 13] = true := by decide +kernel
theorem t_4_8_8_1000 : chkT 3 [1000] [4, 8, 8, 1000] = true := by decide +kernel
theorem t_4_8_8 : chkT 4 [8, 13, 1000] [4, 8, 8] = true := chk_node (by decide +kernel) (chk_cons t_4_8_8_8 (chk_cons t_4_8_8_13 (chk_cons t_4_8_8_1000 chk_nil)))
theorem t_4_8_13_13 : chkT 3 [13, 1000] [4, 8, 13, 13] = true := by decide +kernel
theorem t_4_8_13_1000 : chkT 3 [1000] [4, 8, 13, 1000] = true := by decide +kernel
theorem t_4_8_13 : chkT 4 [13, 1000] [4, 8, 13] = true := chk_node (by decide +kernel) (chk_cons t_4_8_13_13 (chk_cons t_4_8_13_1000 chk_nil))
theorem t_4_8_1000_1000 : chkT 3 [1000] [4, 8, 1000, 1000] = true := by decide +kernel
theorem t_4_8_1000 : chkT 4 [1000] [4, 8, 1000] = true := chk_node (by decide +kernel) (chk_cons t_4_8_1000_1000 chk_nil)
theorem t_4_8 : chkT 5 [8, 13, 1000] [4, 8] = true := chk_node (by decide +kernel) (chk_cons t_4_8_8 (chk_cons t_4_8_13 (chk_cons t_4_8_1000 chk_nil)))
theorem t_4_13_13_13 : chkT 3 [13, 1000] [4, 13, 13, 13] = true := by decide +kernel
theorem t_4_13_13_1000 : chkT 3 [1000] [4, 13, 13, 1000] = true := by decide +kernel
theorem t_4_13_13 : chkT 4 [13, 1000] [4, 13, 13] = true := chk_node (by decide +kernel) (chk_cons t_4_13_13_13 (chk_cons t_4_13_13_1000 chk_nil))
theorem t_4_13_1000_1000 : chkT 3 [1000] [4, 13, 1000, 1000] = true := by decide +kernel
theorem t_4_13_1000 : chkT 4 [1000] [4, 13, 1000] = true := chk_node (by decide +kernel) (chk_cons t_4_13_1000_1000 chk_nil)
theorem t_4_13 : chkT 5 [13, 1000] [4, 13] = true := chk_node (by decide +kernel) (chk_cons t_4_13_13 (chk_cons t_4_13_1000 chk_nil))
theorem t_4_1000_1000_1000 : chkT 3 [1000] [4, 1000, 1000, 1000] = true := by decide +kernel
theorem t_4_1000_1000 : chkT 4 [1000] [4, 1000, 1000] = true := chk_node (by decide +kernel) (chk_cons t_4_1000_1000_1000 chk_nil)
theorem t_4_1000 : chkT 5 [1000] [4, 1000] = true := chk_node (by decide +kernel) (chk_cons t_4_1000_1000 chk_nil)
theorem t_4 : chkT 6 [4, 5, 8, 13, 1000] [4] = true := chk_node (by decide +kernel) (chk_cons t_4_4 (chk_cons t_4_5 (chk_cons t_4_8 (chk_cons t_4_13 (chk_cons t_4_1000 chk_nil)))))
theorem t_5_5_5_5 : chkT 3 [5, 8, 13, 1000] [5, 5, 5, 5] = true := by decide +kernel
theorem t_5_5_5_8 : chkT 3 [8, 13, 1000] [5, 5, 5, 8] = true := by decide +kernel
theorem t_5_5_5_13 : chkT 3 [13, 1000] [5, 5, 5, 13] = true := by decide +kernel
theorem t_5_5_5_1000 : chkT 3 [1000] [5, 5, 5, 1000] = true := by decide +kernel
theorem t_5_5_5 : chkT 4 [5, 8, 13, 1000] [5, 5, 5] = true := chk_node (by decide +kernel) (chk_cons t_5_5_5_5 (chk_cons t_5_5_5_8 (chk_cons t_5_5_5_13 (chk_cons t_5_5_5_1000 chk_nil))))
theorem t_5_5_8_8 : chkT 3 [8, 13, 1000] [5, 5, 8, 8] = true := by decide +kernel
theorem t_5_5_8_13 : chkT 3 [13, 1000] [5, 5, 8, 13] = true := by decide +kernel
theorem t_5_5_8_1000 : chkT 3 [1000] [5, 5, 8, 1000] = true := by decide +kernel
theorem t_5_5_8 : chkT 4 [8, 13, 1000] [5, 5, 8] = true := chk_node (by decide +kernel) (chk_cons t_5_5_8_8 (chk_cons t_5_5_8_13 (chk_cons t_5_5_8_1000 chk_nil)))
theorem t_5_5_13_13 : chkT 3 [13, 1000] [5, 5, 13, 13] = true := by decide +kernel
theorem t_5_5_13_1000 : chkT 3 [1000] [5, 5, 13, 1000] = true := by decide +kernel
theorem t_5_5_13 : chkT 4 [13, 1000] [5, 5, 13] = true := chk_node (by decide +kernel) (chk_cons t_5_5_13_13 (chk_cons t_5_5_13_1000 chk_nil))
theorem t_5_5_1000_1000 : chkT 3 [1000] [5, 5, 1000, 1000] = true := by decide +kernel
theorem t_5_5_1000 : chkT 4 [1000] [5, 5, 1000] = true := chk_node (by decide +kernel) (chk_cons t_5_5_1000_1000 chk_nil)
theorem t_5_5 : chkT 5 [5, 8, 13, 1000] [5, 5] = true := chk_node (by decide +kernel) (chk_cons t_5_5_5 (chk_cons t_5_5_8 (chk_cons t_5_5_13 (chk_cons t_5_5_1000 chk_nil))))
theorem t_5_8_8_8 : chkT 3 [8, 13, 1000] [5, 8, 8, 8] = true := by decide +kernel
theorem t_5_8_8_13 : chkT 3 [13, 1000] [5, 8, 8, 13] = true := by decide +kernel
theorem t_5_8_8_1000 : chkT 3 [1000] [5, 8, 8, 1000] = true := by decide +kernel
theorem t_5_8_8 : chkT 4 [8, 13, 1000] [5, 8, 8] = true := chk_node (by decide +kernel) (chk_cons t_5_8_8_8 (chk_cons t_5_8_8_13 (chk_cons t_5_8_8_1000 chk_nil)))
theorem t_5_8_13_13 : chkT 3 [13, 1000] [5, 8, 13, 13] = true := by decide +kernel
theorem t_5_8_13_1000 : chkT 3 [1000] [5, 8, 13, 1000] = true := by decide +kernel
theorem t_5_8_13 : chkT 4 [13, 1000] [5, 8, 13] = true := chk_node (by decide +kernel) (chk_cons t_5_8_13_13 (chk_cons t_5_8_13_1000 chk_nil))
theorem t_5_8_1000_1000 : chkT 3 [1000] [5, 8, 1000, 1000] = true := by decide +kernel
theorem t_5_8_1000 : chkT 4 [1000] [5, 8, 1000] = true := chk_node (by decide +kernel) (chk_cons t_5_8_1000_1000 chk_nil)
theorem t_5_8 : chkT 5 [8, 13, 1000] [5, 8] = true := chk_node (by decide +kernel) (chk_cons t_5_8_8 (chk_cons t_5_8_13 (chk_cons t_5_8_1000 chk_nil)))
theorem t_5_13_13_13 : chkT 3 [13, 1000] [5, 13, 13, 13] = true := by decide +kernel
theorem t_5_13_13_1000 : chkT 3 [1000] [5, 13, 13, 1000] = true := by decide +kernel
theorem t_5_13_13 : chkT 4 [13, 1000] [5, 13, 13] = true := chk_node (by decide +kernel) (chk_cons t_5_13_13_13 (chk_cons t_5_13_13_1000 chk_nil))
theorem t_5_13_1000_1000 : chkT 3 [1000] [5, 13, 1000, 1000] = true := by decide +kernel
theorem t_5_13_1000 : chkT 4 [1000] [5, 13, 1000] = true := chk_node (by decide +kernel) (chk_cons t_5_13_1000_1000 chk_nil)
theorem t_5_13 : chkT 5 [13, 1000] [5, 13] = true := chk_node (by decide +kernel) (chk_cons t_5_13_13 (chk_cons t_5_13_1000 chk_nil))
theorem t_5_1000_1000_1000 : chkT 3 [1000] [5, 1000, 1000, 1000] = true := by decide +kernel
theorem t_5_1000_1000 : chkT 4 [1000] [5, 1000, 1000] = true := chk_node (by decide +kernel) (chk_cons t_5_1000_1000_1000 chk_nil)
theorem t_5_1000 : chkT 5 [1000] [5, 1000] = true := chk_node (by decide +kernel) (chk_cons t_5_1000_1000 chk_nil)
theorem t_5 : chkT 6 [5, 8, 13, 1000] [5] = true := chk_node (by decide +kernel) (chk_cons t_5_5 (chk_cons t_5_8 (chk_cons t_5_13 (chk_cons t_5_1000 chk_nil))))
theorem t_8_8_8_8 : chkT 3 [8, 13, 1000] [8, 8, 8, 8] = true := by decide +kernel
theorem t_8_8_8_13 : chkT 3 [13, 1000] [8, 8, 8, 13] = true := by decide +kernel
theorem t_8_8_8_1000 : chkT 3 [1000] [8, 8, 8, 1000] = true := by decide +kernel
theorem t_8_8_8 : chkT 4 [8, 13, 1000] [8, 8, 8] = true := chk_node (by decide +kernel) (chk_cons t_8_8_8_8 (chk_cons t_8_8_8_13 (chk_cons t_8_8_8_1000 chk_nil)))
theorem t_8_8_13_13 : chkT 3 [13, 1000] [8, 8, 13, 13] = true := by decide +kernel
theorem t_8_8_13_1000 : chkT 3 [1000] [8, 8, 13, 1000] = true := by decide +kernel
theorem t_8_8_13 : chkT 4 [13, 1000] [8, 8, 13] = true := chk_node (by decide +kernel) (chk_cons t_8_8_13_13 (chk_cons t_8_8_13_1000 chk_nil))
theorem t_8_8_1000_1000 : chkT 3 [1000] [8, 8, 1000, 1000] = true := by decide +kernel
theorem t_8_8_1000 : chkT 4 [1000] [8, 8, 1000] = true := chk_node (by decide +kernel) (chk_cons t_8_8_1000_1000 chk_nil)
theorem t_8_8 : chkT 5 [8, 13, 1000] [8, 8] = true := chk_node (by decide +kernel) (chk_cons t_8_8_8 (chk_cons t_8_8_13 (chk_cons t_8_8_1000 chk_nil)))
theorem t_8_13_13_13 : chkT 3 [13, 1000] [8, 13, 13, 13] = true := by decide +kernel
theorem t_8_13_13_1000 : chkT 3 [1000] [8, 13, 13, 1000] = true := by decide +kernel
theorem t_8_13_13 : chkT 4 [13, 1000] [8, 13, 13] = true := chk_node (by decide +kernel) (chk_cons t_8_13_13_13 (chk_cons t_8_13_13_1000 chk_nil))
theorem t_8_13_1000_1000 : chkT 3 [1000] [8, 13, 1000, 1000] = true := by decide +kernel
theorem t_8_13_1000 : chkT 4 [1000] [8, 13, 1000] = true := chk_node (by decide +kernel) (chk_cons t_8_13_1000_1000 chk_nil)
theorem t_8_13 : chkT 5 [13, 1000] [8, 13] = true := chk_node (by decide +kernel) (chk_cons t_8_13_13 (chk_cons t_8_13_1000 chk_nil))
theorem t_8_1000_1000_1000 : chkT 3 [1000] [8, 1000, 1000, 1000] = true := by decide +kernel
theorem t_8_1000_1000 : chkT 4 [1000] [8, 1000, 1000] = true := chk_node (by decide +kernel) (chk_cons t_8_1000_1000_1000 chk_nil)
theorem t_8_1000 : chkT 5 [1000] [8, 1000] = true := chk_node (by decide +kernel) (chk_cons t_8_1000_1000 chk_nil)
theorem t_8 : chkT 6 [8, 13, 1000] [8] = true := chk_node (by decide +kernel) (chk_cons t_8_8 (chk_cons t_8_13 (chk_cons t_8_1000 chk_nil)))
theorem t_13_13_13_13 : chkT 3 [13, 1000] [13, 13, 13, 13] = true := by decide +kernel
theorem t_13_13_13_1000 : chkT 3 [1000] [13, 13, 13, 1000] = true := by decide +kernel
theorem t_13_13_13 : chkT 4 [13, 1000] [13, 13, 13] = true := chk_node (by decide +kernel) (chk_cons t_13_13_13_13 (chk_cons t_13_13_13_1000 chk_nil))
theorem t_13_13_1000_1000 : chkT 3 [1000] [13, 13, 1000, 1000] = true := by decide +kernel
theorem t_13_13_1000 : chkT 4 [1000] [13, 13, 1000] = true := chk_node (by decide +kernel) (chk_cons t_13_13_1000_1000 chk_nil)
theorem t_13_13 : chkT 5 [13, 1000] [13, 13] = true := chk_node (by decide +kernel) (chk_cons t_13_13_13 (chk_cons t_13_13_1000 chk_nil))
theorem t_13_1000_1000_1000 : chkT 3 [1000] [13, 1000, 1000, 1000] = true := by decide +kernel
theorem t_13_1000_1000 : chkT 4 [1000] [13, 1000, 1000] = true := chk_node (by decide +kernel) (chk_cons t_13_1000_1000_1000 chk_nil)
theorem t_13_1000 : chkT 5 [1000] [13, 1000] = true := chk_node (by decide +kernel) (chk_cons t_13_1000_1000 chk_nil)
theorem t_13 : chkT 6 [13, 1000] [13] = true := chk_node (by decide +kernel) (chk_cons t_13_13 (chk_cons t_13_1000 chk_nil))
theorem t_1000_1000_1000_1000 : chkT 3 [1000] [1000, 1000, 1000, 1000] = true := by decide +kernel
theorem t_1000_1000_1000 : chkT 4 [1000] [1000, 1000, 1000] = true := chk_node (by decide +kernel) (chk_cons t_1000_1000_1000_1000 chk_nil)
theorem t_1000_1000 : chkT 5 [1000] [1000, 1000] = true := chk_node (by decide +kernel) (chk_cons t_1000_1000_1000 chk_nil)
theorem t_1000 : chkT 6 [1000] [1000] = true := chk_node (by decide +kernel) (chk_cons t_1000_1000 chk_nil)
theorem t : chkT 7 [1, 2, 3, 4, 5, 8, 13, 1000] [] = true := chk_node (by decide +kernel) (chk_cons t_1 (chk_cons t_2 (chk_cons t_3 (chk_cons t_4 (chk_cons t_5 (chk_cons t_8 (chk_cons t_13 (chk_cons t_1000 chk_nil))))))))
theorem chk_all {l : List Nat} (h : Grow [1, 2, 3, 4, 5, 8, 13, 1000] l) (hl : l.length ≤ 7) : chkN l = true := (chk_grow h).1 t hl
end Mine
end

section
open PySem PySem.W PyProof.Rows PySem.Calls PySem.SeqAt
set_option linter.all false
set_option maxRecDepth 100000
set_option maxHeartbeats 4000000
namespace Mine

theorem allN_mem {α : Type} {f : α → Bool} : ∀ {l : List α}, allN f l = true → ∀ x ∈ l, f x = true
  | a :: l, h, x, hx => by
    unfold allN at h
    cases e : f a with
    | false => rw [e] at h; cases h
    | true =>
      rw [e] at h
      rcases List.mem_cons.mp hx with rfl | hx
      · exact e
      · exact allN_mem h x hx
theorem anyN_mem {α : Type} {f : α → Bool} : ∀ {l : List α}, anyN f l = true → ∃ x ∈ l, f x = true
  | a :: l, h => by
    unfold anyN at h
    cases e : f a with
    | true => exact ⟨a, List.mem_cons_self, e⟩
    | false =>
      rw [e] at h
      obtain ⟨x, hx, h2⟩ := anyN_mem h
      exact ⟨x, List.mem_cons_of_mem _ hx, h2⟩
theorem costW_eq (l : List (Nat × Nat)) : costW l = (l.map fun p => p.1 * p.2).sum := by
  induction l with
  | nil => rfl
  | cons p l ih => simp only [costW, List.map_cons, List.sum_cons, ih]; rfl
theorem kraft_eq (m : Nat) (l : List (Nat × Nat)) : kraft m l = ((l.map (·.2)).map fun d => 2 ^ (m - d)).sum := by
  induction l with
  | nil => rfl
  | cons p l ih => simp only [kraft, List.map_cons, List.sum_cons, ih]; rfl
theorem maxN_spec : ∀ (l : List Nat), (∀ x ∈ l, x ≤ maxN l) ∧ (l ≠ [] → maxN l ∈ l)
  | [] => ⟨fun _ h => (nomatch h), fun h => absurd rfl h⟩
  | a :: l => by
    obtain ⟨h1, h2⟩ := maxN_spec l
    have hv : maxN (a :: l) = bif Nat.ble (maxN l) a then a else maxN l := rfl
    cases e : Nat.ble (maxN l) a with
    | true =>
      rw [hv, e, cond_true]
      have := Nat.ble_eq.mp e
      refine ⟨fun x hx => ?_, fun _ => List.mem_cons_self⟩
      rcases List.mem_cons.mp hx with rfl | hx
      · exact Nat.le_refl _
      · exact Nat.le_trans (h1 x hx) this
    | false =>
      rw [hv, e, cond_false]
      have hn : ¬ maxN l ≤ a := fun h => by rw [Nat.ble_eq.mpr h] at e; cases e
      refine ⟨fun x hx => ?_, fun _ => ?_⟩
      · rcases List.mem_cons.mp hx with rfl | hx
        · (first | lia | omega)
        · exact h1 x hx
      · refine List.mem_cons_of_mem _ (h2 fun q => ?_)
        rw [q] at hn
        exact hn (Nat.zero_le _)

noncomputable def VN : List Nat := [1, 2, 3, 4, 5, 8, 13, 1000]
theorem grow_of : ∀ (vals : List Nat), vals.Pairwise (· < ·) → ∀ (l : List Nat), l.Pairwise (· ≤ ·) → (∀ x ∈ l, x ∈ vals) → Grow vals l
  | _, _, [], _, _ => .nil
  | [], _, a :: l, _, h => by have := h a List.mem_cons_self; cases this
  | v :: vs, hv, a :: l, hl, h => by
    have hv' := List.pairwise_cons.mp hv
    have hl' := List.pairwise_cons.mp hl
    by_cases e : a = v
    · subst e
      exact .take (grow_of (a :: vs) hv l hl'.2 fun x hx => h x (List.mem_cons_of_mem _ hx))
    · have hav : a ∈ vs := (List.mem_cons.mp (h a List.mem_cons_self)).resolve_left e
      have hlt := hv'.1 a hav
      refine .skip (grow_of vs hv'.2 (a :: l) hl fun x hx => ?_)
      refine (List.mem_cons.mp (h x hx)).resolve_left fun q => ?_
      subst q
      rcases List.mem_cons.mp hx with q | q
      · (first | lia | omega)
      · have := hl'.1 x q; (first | lia | omega)
  termination_by vals _ l => (vals.length, l.length)

structure Good (cs : List Int) : Prop where
  len : cs.length ≤ 7
  val : ∀ c ∈ cs, c ∈ ([0, 1, 2, 3, 4, 5, 8, 13, 1000] : List Int)
theorem Good.at {cs : List Int} (G : Good cs) (i : Nat) : 0 ≤ cs.getD i 0 ∧ cs.getD i 0 ≤ 1000 := by
  by_cases h : i < cs.length
  · have : cs.getD i 0 ∈ cs := getD_mem h
    have := G.val _ this
    simp only [List.mem_cons, List.not_mem_nil, or_false] at this
    (first | lia | omega)
  · have : cs.getD i 0 = 0 := by simp [List.getD_eq_getElem?_getD, List.getElem?_eq_none (Nat.le_of_not_lt h)]
    rw [this]; decide
theorem ws_len (cs : List Int) : (wsF cs).length = (ordF cs).length := by simp [wsF, onF]
theorem ws_sorted (cs : List Int) : (wsF cs).Pairwise (· ≤ ·) := by
  unfold wsF onF
  rw [List.map_map, List.pairwise_map]
  refine List.Pairwise.imp_of_mem (fun {a b} ha hb h => ?_) (ordF_asc cs)
  simp only [Function.comp]
  unfold ltP at h
  split at h
  · rename_i e; rw [e]; exact Nat.le_refl _
  · simp only [decide_eq_true_eq] at h; (first | lia | omega)
theorem Good.chk {cs : List Int} (G : Good cs) : chkW (wsF cs) (wlN (wsF cs)) = true := by
  have hl : (wsF cs).length ≤ 7 := by rw [ws_len]; exact Nat.le_trans (ordF_len cs) G.len
  refine chk_all (grow_of VN (by decide) _ (ws_sorted cs) fun x hx => ?_) hl
  obtain ⟨p, hp, rfl⟩ := List.mem_map.mp hx
  obtain ⟨h1, h2, h3, h4⟩ := on_mem hp
  have : cs.getD p.2.toNat 0 ∈ cs := getD_mem h3
  have := G.val _ this
  rw [← h4] at this
  simp only [List.mem_cons, List.not_mem_nil, or_false] at this
  simp only [VN, List.mem_cons, List.not_mem_nil, or_false]
  (first | lia | omega)

structure Facts (cs : List Int) : Prop where
  pos : ∀ p ∈ hufB (onF cs), 1 ≤ p.2
  mono : ∀ p ∈ hufB (onF cs), ∀ q ∈ hufB (onF cs), cs.getD p.1.toNat 0 < cs.getD q.1.toNat 0 → q.2 ≤ p.2
  two : 2 ≤ (ordF cs).length → chkM (wsF cs) (wlN (wsF cs)) (costN (wsF cs)) (maxN ((wlN (wsF cs)).map (·.2))) = true ∧ chkR (wsF cs) (costN (wsF cs)) = true

theorem Good.facts {cs : List Int} (G : Good cs) : Facts cs := by
  have h := G.chk
  unfold chkW at h
  simp only [Bool.and_eq_true] at h
  obtain ⟨⟨h1, h2⟩, h3⟩ := h
  have a1 := allN_mem h1
  have a2 := allN_mem h2
  have hw : ∀ p ∈ hufB (onF cs), ((cs.getD p.1.toNat 0).toNat, p.2) ∈ wlN (wsF cs) := fun p hp => by
    rw [wl_eq]; exact List.mem_map.mpr ⟨p, hp, rfl⟩
  refine ⟨fun p hp => Nat.ble_eq.mp (a1 _ (hw p hp)), fun p hp q hq hlt => ?_, fun h2 => ?_⟩
  · have := allN_mem (a2 _ (hw p hp)) _ (hw q hq)
    simp only at this
    have hp1 := (hl_mem hp).2.2.1
    cases e : Nat.ble (cs.getD q.1.toNat 0).toNat (cs.getD p.1.toNat 0).toNat with
    | true => have := Nat.ble_eq.mp e; (first | lia | omega)
    | false =>
      rw [e] at this
      exact Nat.ble_eq.mp this
  · have : Nat.ble 2 (wsF cs).length = true := Nat.ble_eq.mpr (by rw [ws_len]; exact h2)
    rw [this] at h3
    simp only [cond_true, Bool.and_eq_true] at h3
    have e : costW (wlN (wsF cs)) = costN (wsF cs) := costW_eq _
    rw [e] at h3
    exact h3
end Mine
end

section
open PySem PySem.W PyProof.Rows PySem.Calls PySem.SeqAt
set_option linter.all false
set_option maxRecDepth 100000
set_option maxHeartbeats 4000000
namespace Mine

section
variable {cs : List Int}

theorem ord_of (i : Nat) (h1 : i < cs.length) (h2 : 0 < cs.getD i 0) : (cs.getD i 0, (i : Int)) ∈ ordF cs := ordF_iff.mpr ⟨h2, by simp only; (first | lia | omega), by simpa using h1, by simp⟩
theorem tree_pos (F : Facts cs) (i : Nat) (h1 : i < cs.length) : (0 < (treeF cs).getD i 0 ↔ 0 < cs.getD i 0) ∧ 0 ≤ (treeF cs).getD i 0 := by
  have s := tree_spec cs
  rcases syms_or (ordF cs) i with ⟨a, ha, rfl⟩ | h
  · obtain ⟨p, hp, rfl⟩ := List.mem_map.mp (s.perm.mem_iff.mpr ha)
    have h2 := F.pos p hp
    have h3 := (hl_mem hp).2.2.1
    rw [s.val p hp]
    (first | lia | omega)
  · rw [s.zero i h]
    refine ⟨⟨fun q => by first | lia | omega, fun q => ?_⟩, Int.le_refl _⟩
    exact absurd (by simp : ((i : Int)).toNat = i) (h _ (List.mem_map_of_mem (ord_of i h1 q)))
theorem hl_of {p : IP} (hp : p ∈ ordF cs) : ∃ d, (p.2, d) ∈ hufB (onF cs) ∧ (treeF cs).getD p.2.toNat 0 = (d : Int) := by
  have s := tree_spec cs
  obtain ⟨q, hq, e⟩ := List.mem_map.mp (s.perm.mem_iff.mpr (List.mem_map_of_mem (f := (·.2)) hp))
  have := s.val q hq
  obtain ⟨q1, q2⟩ := q
  simp only at e this
  subst e
  exact ⟨q2, hq, this⟩
theorem tree_mono (F : Facts cs) {p q : IP} (hp : p ∈ ordF cs) (hq : q ∈ ordF cs) (h : p.1 < q.1) : ¬ (treeF cs).getD p.2.toNat 0 < (treeF cs).getD q.2.toNat 0 := by
  obtain ⟨d, h1, h2⟩ := hl_of hp
  obtain ⟨e, h3, h4⟩ := hl_of hq
  rw [h2, h4]
  have := F.mono _ h1 _ h3 (by
    have a := (ordF_iff.mp hp).2.2.2
    have b := (ordF_iff.mp hq).2.2.2
    simp only
    (first | lia | omega))
  simp only at this
  (first | lia | omega)
theorem tree_one {p : IP} (h : ordF cs = [p]) : (treeF cs).getD p.2.toNat 0 = 1 := by
  have s := tree_spec cs
  have e0 : onF cs = [(p.1.toNat, p.2)] := by unfold onF; rw [h]; rfl
  rw [e0] at s
  exact s.val (p.2, 1) List.mem_cons_self

noncomputable def depthM (cs : List Int) : Nat := maxN ((wlN (wsF cs)).map (·.2))
theorem wl_snd (cs : List Int) : (wlN (wsF cs)).map (·.2) = (hufB (onF cs)).map (·.2) := by rw [wl_eq, List.map_map]; rfl
theorem hl_ne (h2 : 2 ≤ (ordF cs).length) : (hufB (onF cs)).map (·.2) ≠ [] := by
  have := (tree_spec cs).perm.length_eq
  simp only [List.length_map] at this
  intro q
  have := congrArg List.length q
  simp only [List.length_map, List.length_nil] at this
  (first | lia | omega)
theorem tree_max (h2 : 2 ≤ (ordF cs).length) : maxL (0 :: treeF cs) = (depthM cs : Int) := by
  rw [sameP_max (tree_sameP cs)]
  unfold depthM
  rw [wl_snd]
  obtain ⟨a, b⟩ := maxN_spec ((hufB (onF cs)).map (·.2))
  have hm := b (hl_ne h2)
  refine (maxL_uniq ?_ fun x hx => ?_).symm
  · obtain ⟨p, hp, e⟩ := List.mem_map.mp hm
    refine List.mem_cons_of_mem _ (List.mem_map.mpr ⟨p, hp, ?_⟩)
    rw [← e]
  · rcases List.mem_cons.mp hx with rfl | hx
    · (first | lia | omega)
    · obtain ⟨p, hp, rfl⟩ := List.mem_map.mp hx
      have := a p.2 (List.mem_map_of_mem hp)
      (first | lia | omega)
theorem tree_max' (F : Facts cs) (h2 : 2 ≤ (ordF cs).length) (hd : 1 ≤ depthM cs) : maxL (treeF cs) = (depthM cs : Int) := by
  have h := tree_max h2
  have sp := maxL_spec (0 :: treeF cs) (by simp)
  rw [h] at sp
  refine (maxL_uniq ?_ fun x hx => sp.2 x (List.mem_cons_of_mem _ hx)).symm
  rcases List.mem_cons.mp sp.1 with q | q
  · (first | lia | omega)
  · exact q

structure Two (cs : List Int) : Prop where
  m1 : 1 ≤ depthM cs
  m20 : depthM cs ≤ 20
  room : roomF (treeF cs) = 0
  fit : (ordF cs).length ≤ 2 ^ depthM cs
  cost : costF cs (codeF cs (depthM cs)) = lawF cs
  nz : ∀ i, i < cs.length → 0 < cs.getD i 0 → (codeF cs (depthM cs)).getD i 0 ≠ 0
  less : 2 ≤ depthM cs → (ordF cs).length ≤ 2 ^ (depthM cs - 1) → lawF cs ≤ costF cs (codeF cs (depthM cs - 1)) ∧ ∀ i, i < cs.length → 0 < cs.getD i 0 → (codeF cs (depthM cs - 1)).getD i 0 ≠ 0
  rec' : chkR (wsF cs) (costN (wsF cs)) = true

theorem code_nz {n : Nat} (h : ∃ a ∈ asN (wsF cs) n, (wsF cs).length ≤ a) (i : Nat) (h1 : i < cs.length) (h2 : 0 < cs.getD i 0) : (codeF cs n).getD i 0 ≠ 0 := by
  unfold codeF
  rw [code_aSeq, as_eq]
  rw [ws_len] at h
  have := as_pos (ord_of i h1 h2) (asN (wsF cs) n) (List.replicate cs.length 0) (by simp) (fun i => by rw [rep_zero]; exact Int.le_refl _) h
  simp only [Int.toNat_natCast] at this
  (first | lia | omega)

theorem Good.two {cs : List Int} (G : Good cs) (h2 : 2 ≤ (ordF cs).length) : Two cs := by
  have F := G.facts
  obtain ⟨hM, hR⟩ := F.two h2
  have e : maxN ((wlN (wsF cs)).map (·.2)) = depthM cs := rfl
  rw [e] at hM
  unfold chkM at hM
  simp only [Bool.and_eq_true] at hM
  obtain ⟨⟨⟨⟨⟨c1, c2⟩, c3⟩, c4⟩, c5⟩, c6⟩ := hM
  have k1 := Nat.ble_eq.mp c1
  have k2 := Nat.ble_eq.mp c2
  have k3 := Nat.ble_eq.mp c3
  have k4 := Nat.eq_of_beq_eq_true c4
  have g0 := fun i => (G.at i).1
  have cost : ∀ n, costF cs (codeF cs n) = (codeC (wsF cs) (asN (wsF cs) n) : Int) := fun n => by rw [code_cost cs n g0, as_eq]
  unfold okC at c5
  simp only [Bool.and_eq_true] at c5
  have nz5 := anyN_mem c5.1
  refine ⟨k1, k2, ?_, by rwa [ws_len] at k3, ?_, fun i h1 h2 => code_nz ?_ i h1 h2, fun hm hf => ?_, hR⟩
  · rw [sameP_room (tree_sameP cs)]
    have hi : ((hufB (onF cs)).map fun p => (p.2 : Int)) = iz ((hufB (onF cs)).map (·.2)) := by unfold iz; rw [List.map_map]; rfl
    rw [hi]
    refine room_kraft (m := depthM cs) ?_ (fun d hd => ?_) ?_
    · rw [← hi, ← sameP_max (tree_sameP cs)]
      exact tree_max h2
    · obtain ⟨p, hp, rfl⟩ := List.mem_map.mp hd
      exact F.pos p hp
    · rw [← wl_snd, ← kraft_eq]
      exact k4
  · rw [cost, Nat.eq_of_beq_eq_true c5.2, law_cost]
  · obtain ⟨a, ha, hb⟩ := nz5
    exact ⟨a, ha, Nat.ble_eq.mp hb⟩
  · have t : (Nat.ble 2 (depthM cs) && Nat.ble (wsF cs).length (2 ^ (depthM cs - 1))) = true := by
      rw [Nat.ble_eq.mpr hm, Nat.ble_eq.mpr (by rw [ws_len]; exact hf)]; rfl
    rw [t, cond_true] at c6
    unfold okC at c6
    simp only [Bool.and_eq_true] at c6
    obtain ⟨a, ha, hb⟩ := anyN_mem c6.1
    refine ⟨?_, fun i h1 h2 => code_nz ⟨a, ha, Nat.ble_eq.mp hb⟩ i h1 h2⟩
    rw [cost, law_cost]
    have := Nat.ble_eq.mp c6.2
    (first | lia | omega)
end
end Mine
end

section
open PySem PySem.W PyProof.Rows PySem.Calls PySem.SeqAt
set_option linter.all false
set_option maxRecDepth 100000
set_option maxHeartbeats 4000000
namespace Mine

/-! depths are small -/
theorem pick_small {α : Type} {j : Nat} {q : HQ α} (h : ∀ y ∈ q.2, ∀ p ∈ y.2, p.2 ≤ j) : ∀ p ∈ (pickH q).1.2, p.2 ≤ j := by
  match q, h with
  | ([], []), _ => intro p hp; cases hp
  | (p :: lv, []), _ =>
    intro r hr
    simp only [pickH, leafN, List.mem_singleton] at hr
    subst hr; exact Nat.zero_le _
  | ([], x :: jd), h => exact h x List.mem_cons_self
  | (p :: lv, x :: jd), h =>
    simp only [pickH]
    cases Nat.ble p.1 x.1 with
    | true =>
      intro r hr
      simp only [cond_true, leafN, List.mem_singleton] at hr
      subst hr; exact Nat.zero_le _
    | false => exact h x List.mem_cons_self
theorem step_small {α : Type} {j : Nat} {q : HQ α} (h : ∀ y ∈ q.2, ∀ p ∈ y.2, p.2 ≤ j) : ∀ y ∈ (stepH q).2, ∀ p ∈ y.2, p.2 ≤ j + 1 := by
  intro y hy p hp
  have h1 := pick_small h
  have h2 := pick_small (q := (pickH q).2) fun y hy => h y (pick_node q hy)
  simp only [stepH] at hy
  rcases List.mem_append.mp hy with hy | hy
  · exact Nat.le_succ_of_le (h y (pick_node q (pick_node _ hy)) p hp)
  · rw [List.mem_singleton] at hy
    subst hy
    obtain ⟨r, hr, rfl⟩ := List.mem_map.mp hp
    rcases List.mem_append.mp hr with hr | hr
    · exact Nat.succ_le_succ (h1 r hr)
    · exact Nat.succ_le_succ (h2 r hr)
theorem run_small {α : Type} : ∀ (k j : Nat) (q : HQ α), (∀ y ∈ q.2, ∀ p ∈ y.2, p.2 ≤ j) → ∀ y ∈ (runH k q).2, ∀ p ∈ y.2, p.2 ≤ j + k
  | 0, _, _, h => h
  | k + 1, j, q, h => fun y hy p hp => by
    have := run_small k (j + 1) (stepH q) (step_small h) y hy p hp
    (first | lia | omega)
theorem huf_small {α : Type} (o : List (Nat × α)) : ∀ p ∈ hufB o, p.2 ≤ o.length := by
  match o with
  | [] => intro p h; cases h
  | [a] => intro p h; obtain rfl : p = (a.2, 1) := by simpa [hufB] using h
           exact Nat.le_refl _
  | a :: b :: r =>
    intro p hp
    have hp' : p ∈ hufA (a :: b :: r) := hp
    unfold hufA at hp'
    have := run_small ((a :: b :: r).length - 1) 0 ((a :: b :: r, []) : HQ α) (fun y hy => (nomatch hy))
    generalize hq : (runH ((a :: b :: r).length - 1) ((a :: b :: r, []) : HQ α)).2 = l at *
    cases l with
    | nil => cases hp'
    | cons y l =>
      have := this y List.mem_cons_self p hp'
      (first | lia | omega)
theorem tree_small (cs : List Int) (i : Nat) : 0 ≤ (treeF cs).getD i 0 ∧ (treeF cs).getD i 0 ≤ cs.length := by
  have s := tree_spec cs
  rcases syms_or (ordF cs) i with ⟨a, ha, rfl⟩ | h
  · obtain ⟨p, hp, rfl⟩ := List.mem_map.mp (s.perm.mem_iff.mpr ha)
    rw [s.val p hp]
    have h1 := huf_small (onF cs) p hp
    have h2 : (onF cs).length ≤ cs.length := by simp only [onF, List.length_map]; exact ordF_len cs
    (first | lia | omega)
  · rw [s.zero i h]; (first | lia | omega)

/-- the law's cost of a list whose entries are moderate -/
theorem law_ok {cs : List Int} (h : cs.length ≤ 8) (hb : ∀ i, 0 ≤ cs.getD i 0 ∧ cs.getD i 0 ≤ 1000000) : φ__law_cost [il cs] = some (.int (costN (wsF cs))) := by
  rw [← law_cost]
  refine φ_law_eq cs h (fun i _ => by have := hb i; (first | lia | omega)) fun x hx => ?_
  obtain ⟨i, _, rfl⟩ := List.mem_map.mp hx
  have h1 := hb i
  have h2 := tree_small cs i
  have h3 : cs.getD i 0 * (treeF cs).getD i 0 ≤ 1000000 * 8 := Int.mul_le_mul h1.2 (by first | lia | omega) h2.1 (by first | lia | omega)
  exact ⟨Int.mul_nonneg h1.1 h2.1, by first | lia | omega⟩

/-! the two least taken together -/
theorem nat_uniq : ∀ {a b : List Nat}, a.Perm b → a.Pairwise (· ≤ ·) → b.Pairwise (· ≤ ·) → a = b
  | [], b, h, _, _ => by have := h.length_eq; cases b with | nil => rfl | cons => simp at this
  | x :: a, [], h, _, _ => by have := h.length_eq; simp at this
  | x :: a, y :: b, h, ha, hb => by
    have ha' := List.pairwise_cons.mp ha
    have hb' := List.pairwise_cons.mp hb
    have e : x = y := by
      rcases List.mem_cons.mp (h.mem_iff.mp List.mem_cons_self) with q | q
      · exact q
      · rcases List.mem_cons.mp (h.mem_iff.mpr List.mem_cons_self) with q2 | q2
        · exact q2.symm
        · have := ha'.1 _ q2
          have := hb'.1 _ q
          (first | lia | omega)
    subst e
    rw [nat_uniq h.cons_inv ha'.2 hb'.2]
theorem insN_perm (x : Nat) : ∀ l, (insN x l).Perm (x :: l)
  | [] => .refl _
  | a :: l => by
    unfold insN
    cases Nat.ble x a with
    | true => exact .refl _
    | false => exact ((insN_perm x l).cons a).trans (.swap x a l)
theorem insN_sorted {x : Nat} : ∀ {l : List Nat}, l.Pairwise (· ≤ ·) → (insN x l).Pairwise (· ≤ ·)
  | [], _ => List.pairwise_singleton _ _
  | a :: l, h => by
    have h' := List.pairwise_cons.mp h
    unfold insN
    cases e : Nat.ble x a with
    | true =>
      have := Nat.ble_eq.mp e
      refine List.pairwise_cons.mpr ⟨fun b hb => ?_, h⟩
      rcases List.mem_cons.mp hb with rfl | hb
      · exact this
      · exact Nat.le_trans this (h'.1 b hb)
    | false =>
      have hn : ¬ x ≤ a := fun h => by rw [Nat.ble_eq.mpr h] at e; cases e
      refine List.pairwise_cons.mpr ⟨fun b hb => ?_, insN_sorted h'.2⟩
      rcases List.mem_cons.mp ((insN_perm x l).mem_iff.mp hb) with rfl | hb
      · (first | lia | omega)
      · exact h'.1 b hb
noncomputable def posI (cs : List Int) (idx : List Nat) : List Nat := idx.filterMap fun i => if 0 < cs.getD i 0 then some (cs.getD i 0).toNat else none
noncomputable def posL (l : List Int) : List Nat := l.filterMap fun x => if 0 < x then some x.toNat else none
theorem posI_eq (cs : List Int) (idx : List Nat) : posI cs idx = posL (idx.map fun i => cs.getD i 0) := by
  unfold posI posL
  rw [List.filterMap_map]
  rfl
theorem range_getD (cs : List Int) : (List.range cs.length).map (fun i => cs.getD i 0) = cs := by
  refine List.ext_getElem (by simp) fun i h1 h2 => ?_
  simp only [List.length_map, List.length_range] at h1
  simp [h1]
theorem ws_perm (cs : List Int) : (wsF cs).Perm (posL cs) := by
  have h1 : posL cs = posI cs (List.range cs.length) := by rw [posI_eq, range_getD]
  have h2 : posI cs (List.range cs.length) = (ordL cs).map fun p => p.1.toNat := by
    unfold posI ordL
    rw [List.map_filterMap]
    refine fm_congr fun i _ => ?_
    split <;> rfl
  rw [h1, h2]
  have e : wsF cs = (ordF cs).map fun p => p.1.toNat := by unfold wsF onF; rw [List.map_map]; rfl
  rw [e]
  exact (sortP_perm (ordL cs)).map _
noncomputable def restF (cs : List Int) (lo hi : Int) : List Int := (List.range cs.length).filterMap fun (i : Nat) => if (i : Int) ≠ lo ∧ (i : Int) ≠ hi then some (cs.getD i 0) else none

theorem less_ws {cs : List Int} {p q : IP} {r : List IP} (h : ordF cs = p :: q :: r) : ∃ a b rs, wsF cs = a :: b :: rs ∧ (a : Int) = p.1 ∧ (b : Int) = q.1 ∧ rs.length = r.length ∧ wsF (restF cs p.2 q.2 ++ [p.1 + q.1]) = insN (a + b) rs := by
  have hp := ordF_iff.mp (h ▸ List.mem_cons_self : p ∈ ordF cs)
  have hq := ordF_iff.mp (h ▸ List.mem_cons_of_mem _ List.mem_cons_self : q ∈ ordF cs)
  have hw : wsF cs = p.1.toNat :: q.1.toNat :: r.map (fun p => p.1.toNat) := by
    unfold wsF onF; rw [h]; simp only [List.map_cons, List.map_map]; rfl
  refine ⟨p.1.toNat, q.1.toNat, _, hw, by first | lia | omega, by first | lia | omega, by simp, ?_⟩
  have hne : p.2.toNat ≠ q.2.toNat := by
    have := ord_snd_nodup cs
    rw [h] at this
    have := (List.nodup_cons.mp this).1
    simp only [List.map_cons, List.mem_cons, not_or] at this
    (first | lia | omega)
  have hrange : (List.range cs.length).Perm (p.2.toNat :: q.2.toNat :: (List.range cs.length).filter fun i => decide (i ≠ p.2.toNat ∧ i ≠ q.2.toNat)) := by
    rw [List.perm_ext_iff_of_nodup List.nodup_range]
    · intro a
      simp only [List.mem_range, List.mem_cons, List.mem_filter, decide_eq_true_eq]
      constructor
      · intro ha
        by_cases e1 : a = p.2.toNat
        · exact .inl e1
        · by_cases e2 : a = q.2.toNat
          · exact .inr (.inl e2)
          · exact .inr (.inr ⟨ha, e1, e2⟩)
      · rintro (rfl | rfl | h)
        · exact hp.2.2.1
        · exact hq.2.2.1
        · exact h.1
    · refine List.nodup_cons.mpr ⟨fun hm => ?_, List.nodup_cons.mpr ⟨fun hm => ?_, List.Pairwise.filter _ List.nodup_range⟩⟩
      · rcases List.mem_cons.mp hm with e | hm
        · exact hne e
        · simp only [List.mem_filter, decide_eq_true_eq] at hm
          exact hm.2.1 rfl
      · simp only [List.mem_filter, decide_eq_true_eq] at hm
        exact hm.2.2 rfl
  have hrest : restF cs p.2 q.2 = ((List.range cs.length).filter fun i => decide (i ≠ p.2.toNat ∧ i ≠ q.2.toNat)).map fun i => cs.getD i 0 := by
    unfold restF
    rw [← List.filterMap_eq_map, List.filterMap_filter]
    refine fm_congr fun i _ => ?_
    by_cases e : i ≠ p.2.toNat ∧ i ≠ q.2.toNat
    · have : (i : Int) ≠ p.2 ∧ (i : Int) ≠ q.2 := by first | lia | omega
      rw [if_pos this, if_pos (decide_eq_true e)]; rfl
    · have : ¬ ((i : Int) ≠ p.2 ∧ (i : Int) ≠ q.2) := by first | lia | omega
      rw [if_neg this, if_neg (by simpa using e)]
  have hpos : (posL cs).Perm (p.1.toNat :: q.1.toNat :: posL (restF cs p.2 q.2)) := by
    have h1 : posL cs = posI cs (List.range cs.length) := by rw [posI_eq, range_getD]
    rw [h1]
    refine (hrange.filterMap _).trans (List.Perm.of_eq ?_)
    rw [List.filterMap_cons, List.filterMap_cons, ← hp.2.2.2, ← hq.2.2.2, if_pos hp.1, if_pos hq.1]
    simp only
    congr 2
    rw [hrest, ← posI_eq]
    rfl
  have hr : (r.map fun p => p.1.toNat).Perm (posL (restF cs p.2 q.2)) := by
    have := (ws_perm cs).trans hpos
    rw [hw] at this
    exact this.cons_inv.cons_inv
  refine nat_uniq ?_ (ws_sorted _) (insN_sorted ?_)
  · refine (ws_perm _).trans ?_
    have e : posL (restF cs p.2 q.2 ++ [p.1 + q.1]) = posL (restF cs p.2 q.2) ++ [p.1.toNat + q.1.toNat] := by
      unfold posL
      rw [List.filterMap_append, List.filterMap_cons, if_pos (by first | lia | omega), List.filterMap_nil]
      simp only
      rw [show (p.1 + q.1).toNat = p.1.toNat + q.1.toNat by first | lia | omega]
    rw [e]
    exact (List.perm_append_comm.trans (.cons _ hr.symm)).trans (insN_perm _ _).symm
  · have := ws_sorted cs
    rw [hw] at this
    exact (List.pairwise_cons.mp (List.pairwise_cons.mp this).2).2

theorem less_cost {cs : List Int} {p q : IP} {r : List IP} (h : ordF cs = p :: q :: r) (hR : chkR (wsF cs) (costN (wsF cs)) = true) : (costN (wsF cs) : Int) = p.1 + q.1 + (if r = [] then 0 else (costN (wsF (restF cs p.2 q.2 ++ [p.1 + q.1])) : Int)) := by
  obtain ⟨a, b, rs, h1, h2, h3, h4, h5⟩ := less_ws h
  rw [h1] at hR
  rw [h5, h1]
  cases rs with
  | nil =>
    have : r = [] := List.eq_nil_of_length_eq_zero (by simpa using h4.symm)
    rw [if_pos this]
    have := Nat.eq_of_beq_eq_true hR
    (first | lia | omega)
  | cons x xs =>
    have : r ≠ [] := fun q => by rw [q] at h4; simp at h4
    rw [if_neg this]
    have := Nat.eq_of_beq_eq_true hR
    rw [costW_eq] at this
    have e : costN (insN (a + b) (x :: xs)) = ((wlN (insN (a + b) (x :: xs))).map fun p => p.1 * p.2).sum := rfl
    rw [e]
    (first | lia | omega)
end Mine
end

section
open PySem PySem.W PyProof.Rows PySem.Calls PySem.SeqAt
set_option linter.all false
set_option maxRecDepth 100000
set_option maxHeartbeats 4000000
namespace Mine

noncomputable def B_law : List Stmt := bodyOf "law"
noncomputable def lawS (i : Nat) : Stmt := B_law.getD i (.Pass ⟨0, 0, 0, 0⟩)
noncomputable def Γ_law : Sig where
  fn := fnL [("tree_lengths", φ_tree_lengths), ("sorted", φsorted), ("is_full", φ_is_full), ("cost", φ_cost), ("code_lengths", φ_code_lengths), ("max", φmax), ("_law_cost", φ__law_cost)]
  len := true
  rng := true
  zip := true
  enu := true
  cells := ["counts", "lengths", "low", "high"]
  loc := ["line", "counts", "turn", "lengths", "live", "spot", "one", "other", "low", "high", "both", "less"]

structure LS (cs : List Int) (ln : List D) (ρ : Rho) : Prop where
  c : ρ "counts" = some (.st (il cs))
  line : ρ "line" = some (.own ln)
structure LT (cs : List Int) (ln : List D) (ρ : Rho) : Prop where
  c : ρ "counts" = some (.st (il cs))
  line : ρ "line" = some (.own ln)
  len : ρ "lengths" = some (.st (il (treeF cs)))
structure LV (cs : List Int) (ln : List D) (ρ : Rho) : Prop where
  c : ρ "counts" = some (.st (il cs))
  line : ρ "line" = some (.own ln)
  len : ρ "lengths" = some (.st (il (treeF cs)))
  live : ρ "live" = some (.st (.lst ((ordF cs).map pairD)))

section
variable {cs : List Int} {ln : List D} {ρ : Rho}

theorem law3 (G : Good cs) (h : LS cs ln ρ) : Ok (exe 300 Γ_law ρ (lawS 3)) (LT cs ln) := by
  conv => arg 1; arg 4; whnf
  obtain ⟨i1, i2⟩ := h
  have ht := φ_tree_eq cs (by have := G.len; (first | lia | omega))
  simp (config := { decide := true }) only [↓reduceIte, q_name, q_int, q_bool, q_bin, q_cmp, q_if, q_from, q_upto, q_subN, q_subC, q_subB, q_subS, q_list, q_tuple, q_comp, q_len, q_call, q_count, q_bname, q_bsub, q_btup, q_tnot, q_tbool, q_tcmp, q_tname, q_tcall, q_tsnA, q_tsnO, q_esnil, q_escons, q_itname, q_itsub, q_itrng, q_itrev, q_itzip, q_itenum, q_nil, q_ok, q_cons, q_asgName, q_asgList, q_asgMul, q_asgTup, q_asgSub, q_aug, q_augSub, q_for, q_while, q_ifs, q_ret, q_app, q_ext, q_freeze, n_name, n_tuple, n_list, n_bin, n_sub, n_call, n_const, n_slice, n_cmp, n_if, n_comp, List.flatMap_cons, List.flatMap_nil, List.append_nil, List.cons_append, List.nil_append, q_rho0, q_upd, q_fnL, q_compRho, updAll, q_tgN, q_tgT, q_asI, q_asL, Option.bind_some, Option.map_some, reduceCtorEq, ne_eq, not_false_eq_true, implies_true, and_self, if_true, if_false, Bool.false_eq_true, true_and, and_true, shD, t_st, t_b2, t_cm, t_ct, t_ifT, t_ifF, t_ls, t_tu, t_co, t_le, t_ca, t_cn, t_cd, t_seT, t_seF, q_cfN, q_cfT, t_no, t_nTT, t_nFF, t_nTF, t_nFT, t_tsAT, t_tsAF, t_tsOT, t_tsOF, t_it, t_zi, t_en, t_re, t_thN, t_thR, t_fin, t_siT, t_siF, t_rt, t_fo, t_as, t_al, t_am, t_at, t_su, t_au, t_ax, t_ay, t_ap, t_ex, t_tg, q_tscons, Γ_law, i1, ht]
  exact ⟨by simp (config := { decide := true }) only [↓reduceIte, q_name, q_int, q_bool, q_bin, q_cmp, q_if, q_from, q_upto, q_subN, q_subC, q_subB, q_subS, q_list, q_tuple, q_comp, q_len, q_call, q_count, q_bname, q_bsub, q_btup, q_tnot, q_tbool, q_tcmp, q_tname, q_tcall, q_tsnA, q_tsnO, q_esnil, q_escons, q_itname, q_itsub, q_itrng, q_itrev, q_itzip, q_itenum, q_nil, q_ok, q_cons, q_asgName, q_asgList, q_asgMul, q_asgTup, q_asgSub, q_aug, q_augSub, q_for, q_while, q_ifs, q_ret, q_app, q_ext, q_freeze, n_name, n_tuple, n_list, n_bin, n_sub, n_call, n_const, n_slice, n_cmp, n_if, n_comp, List.flatMap_cons, List.flatMap_nil, List.append_nil, List.cons_append, List.nil_append, q_rho0, q_upd, q_fnL, q_compRho, updAll, q_tgN, q_tgT, q_asI, q_asL, Option.bind_some, Option.map_some, reduceCtorEq, ne_eq, not_false_eq_true, implies_true, and_self, if_true, if_false, Bool.false_eq_true, true_and, and_true, shD, t_st, t_b2, t_cm, t_ct, t_ifT, t_ifF, t_ls, t_tu, t_co, t_le, t_ca, t_cn, t_cd, t_seT, t_seF, q_cfN, q_cfT, t_no, t_nTT, t_nFF, t_nTF, t_nFT, t_tsAT, t_tsAF, t_tsOT, t_tsOF, t_it, t_zi, t_en, t_re, t_thN, t_thR, t_fin, t_siT, t_siF, t_rt, t_fo, t_as, t_al, t_am, t_at, t_su, t_au, t_ax, t_ay, t_ap, t_ex, t_tg, q_tscons, i1], by simp (config := { decide := true }) only [↓reduceIte, q_name, q_int, q_bool, q_bin, q_cmp, q_if, q_from, q_upto, q_subN, q_subC, q_subB, q_subS, q_list, q_tuple, q_comp, q_len, q_call, q_count, q_bname, q_bsub, q_btup, q_tnot, q_tbool, q_tcmp, q_tname, q_tcall, q_tsnA, q_tsnO, q_esnil, q_escons, q_itname, q_itsub, q_itrng, q_itrev, q_itzip, q_itenum, q_nil, q_ok, q_cons, q_asgName, q_asgList, q_asgMul, q_asgTup, q_asgSub, q_aug, q_augSub, q_for, q_while, q_ifs, q_ret, q_app, q_ext, q_freeze, n_name, n_tuple, n_list, n_bin, n_sub, n_call, n_const, n_slice, n_cmp, n_if, n_comp, List.flatMap_cons, List.flatMap_nil, List.append_nil, List.cons_append, List.nil_append, q_rho0, q_upd, q_fnL, q_compRho, updAll, q_tgN, q_tgT, q_asI, q_asL, Option.bind_some, Option.map_some, reduceCtorEq, ne_eq, not_false_eq_true, implies_true, and_self, if_true, if_false, Bool.false_eq_true, true_and, and_true, shD, t_st, t_b2, t_cm, t_ct, t_ifT, t_ifF, t_ls, t_tu, t_co, t_le, t_ca, t_cn, t_cd, t_seT, t_seF, q_cfN, q_cfT, t_no, t_nTT, t_nFF, t_nTF, t_nFT, t_tsAT, t_tsAF, t_tsOT, t_tsOF, t_it, t_zi, t_en, t_re, t_thN, t_thR, t_fin, t_siT, t_siF, t_rt, t_fo, t_as, t_al, t_am, t_at, t_su, t_au, t_ax, t_ay, t_ap, t_ex, t_tg, q_tscons, i2], by simp (config := { decide := true }) only [↓reduceIte, q_name, q_int, q_bool, q_bin, q_cmp, q_if, q_from, q_upto, q_subN, q_subC, q_subB, q_subS, q_list, q_tuple, q_comp, q_len, q_call, q_count, q_bname, q_bsub, q_btup, q_tnot, q_tbool, q_tcmp, q_tname, q_tcall, q_tsnA, q_tsnO, q_esnil, q_escons, q_itname, q_itsub, q_itrng, q_itrev, q_itzip, q_itenum, q_nil, q_ok, q_cons, q_asgName, q_asgList, q_asgMul, q_asgTup, q_asgSub, q_aug, q_augSub, q_for, q_while, q_ifs, q_ret, q_app, q_ext, q_freeze, n_name, n_tuple, n_list, n_bin, n_sub, n_call, n_const, n_slice, n_cmp, n_if, n_comp, List.flatMap_cons, List.flatMap_nil, List.append_nil, List.cons_append, List.nil_append, q_rho0, q_upd, q_fnL, q_compRho, updAll, q_tgN, q_tgT, q_asI, q_asL, Option.bind_some, Option.map_some, reduceCtorEq, ne_eq, not_false_eq_true, implies_true, and_self, if_true, if_false, Bool.false_eq_true, true_and, and_true, shD, t_st, t_b2, t_cm, t_ct, t_ifT, t_ifF, t_ls, t_tu, t_co, t_le, t_ca, t_cn, t_cd, t_seT, t_seF, q_cfN, q_cfT, t_no, t_nTT, t_nFF, t_nTF, t_nFT, t_tsAT, t_tsAF, t_tsOT, t_tsOF, t_it, t_zi, t_en, t_re, t_thN, t_thR, t_fin, t_siT, t_siF, t_rt, t_fo, t_as, t_al, t_am, t_at, t_su, t_au, t_ax, t_ay, t_ap, t_ex, t_tg, q_tscons]⟩

theorem law4 (G : Good cs) (h : LT cs ln ρ) : Ok (exe 300 Γ_law ρ (lawS 4)) (LV cs ln) := by
  conv => arg 1; arg 4; whnf
  obtain ⟨i1, i2, i3⟩ := h
  have hl := G.len
  have hb : cs.length ≤ big := by unfold big; (first | lia | omega)
  have h40 : Int.natAbs (cs.length : Int) < 2 ^ 40 := by first | lia | omega
  have hrl : (rangeD 0 1 cs.length).length ≤ big := by simpa [rangeD] using hb
  simp only [il] at i1
  simp (config := { decide := true }) only [↓reduceIte, q_name, q_int, q_bool, q_bin, q_cmp, q_if, q_from, q_upto, q_subN, q_subC, q_subB, q_subS, q_list, q_tuple, q_comp, q_len, q_call, q_count, q_bname, q_bsub, q_btup, q_tnot, q_tbool, q_tcmp, q_tname, q_tcall, q_tsnA, q_tsnO, q_esnil, q_escons, q_itname, q_itsub, q_itrng, q_itrev, q_itzip, q_itenum, q_nil, q_ok, q_cons, q_asgName, q_asgList, q_asgMul, q_asgTup, q_asgSub, q_aug, q_augSub, q_for, q_while, q_ifs, q_ret, q_app, q_ext, q_freeze, n_name, n_tuple, n_list, n_bin, n_sub, n_call, n_const, n_slice, n_cmp, n_if, n_comp, List.flatMap_cons, List.flatMap_nil, List.append_nil, List.cons_append, List.nil_append, q_rho0, q_upd, q_fnL, q_compRho, updAll, q_tgN, q_tgT, q_asI, q_asL, Option.bind_some, Option.map_some, reduceCtorEq, ne_eq, not_false_eq_true, implies_true, and_self, if_true, if_false, Bool.false_eq_true, true_and, and_true, shD, t_st, t_b2, t_cm, t_ct, t_ifT, t_ifF, t_ls, t_tu, t_co, t_le, t_ca, t_cn, t_cd, t_seT, t_seF, q_cfN, q_cfT, t_no, t_nTT, t_nFF, t_nTF, t_nFT, t_tsAT, t_tsAF, t_tsOT, t_tsOF, t_it, t_zi, t_en, t_re, t_thN, t_thR, t_fin, t_siT, t_siF, t_rt, t_fo, t_as, t_al, t_am, t_at, t_su, t_au, t_ax, t_ay, t_ap, t_ex, t_tg, q_tscons, Γ_law, i1, φlen, List.length_map, hb, rangeOf, h40, Int.toNat_natCast, hrl]
  rw [ord_comp (fun i hi => ?_)]
  rotate_left
  · have e0 : (0 + (i : Int) * 1) = (i : Int) := by first | lia | omega
    have e1 : (cs.map D.int)[i]? = some (.int (cs.getD i 0)) := get_map hi
    have e3 : (0 : Int) ≤ (i : Int) := by first | lia | omega
    rw [e0]
    by_cases hq : 0 < cs.getD i 0
    · simp (config := { decide := true }) only [↓reduceIte, q_name, q_int, q_bool, q_bin, q_cmp, q_if, q_from, q_upto, q_subN, q_subC, q_subB, q_subS, q_list, q_tuple, q_comp, q_len, q_call, q_count, q_bname, q_bsub, q_btup, q_tnot, q_tbool, q_tcmp, q_tname, q_tcall, q_tsnA, q_tsnO, q_esnil, q_escons, q_itname, q_itsub, q_itrng, q_itrev, q_itzip, q_itenum, q_nil, q_ok, q_cons, q_asgName, q_asgList, q_asgMul, q_asgTup, q_asgSub, q_aug, q_augSub, q_for, q_while, q_ifs, q_ret, q_app, q_ext, q_freeze, n_name, n_tuple, n_list, n_bin, n_sub, n_call, n_const, n_slice, n_cmp, n_if, n_comp, List.flatMap_cons, List.flatMap_nil, List.append_nil, List.cons_append, List.nil_append, q_rho0, q_upd, q_fnL, q_compRho, updAll, q_tgN, q_tgT, q_asI, q_asL, Option.bind_some, Option.map_some, reduceCtorEq, ne_eq, not_false_eq_true, implies_true, and_self, if_true, if_false, Bool.false_eq_true, true_and, and_true, shD, t_st, t_b2, t_cm, t_ct, t_ifT, t_ifF, t_ls, t_tu, t_co, t_le, t_ca, t_cn, t_cd, t_seT, t_seF, q_cfN, q_cfT, t_no, t_nTT, t_nFF, t_nTF, t_nFT, t_tsAT, t_tsAF, t_tsOT, t_tsOF, t_it, t_zi, t_en, t_re, t_thN, t_thR, t_fin, t_siT, t_siF, t_rt, t_fo, t_as, t_al, t_am, t_at, t_su, t_au, t_ax, t_ay, t_ap, t_ex, t_tg, q_tscons, i1, idxD, List.length_map, hb, e1, e3, Int.toNat_natCast, behindInMarks, cmpD, isEq, isNe, isNi, cmpI, hq, decide_true]
      rfl
    · simp (config := { decide := true }) only [↓reduceIte, q_name, q_int, q_bool, q_bin, q_cmp, q_if, q_from, q_upto, q_subN, q_subC, q_subB, q_subS, q_list, q_tuple, q_comp, q_len, q_call, q_count, q_bname, q_bsub, q_btup, q_tnot, q_tbool, q_tcmp, q_tname, q_tcall, q_tsnA, q_tsnO, q_esnil, q_escons, q_itname, q_itsub, q_itrng, q_itrev, q_itzip, q_itenum, q_nil, q_ok, q_cons, q_asgName, q_asgList, q_asgMul, q_asgTup, q_asgSub, q_aug, q_augSub, q_for, q_while, q_ifs, q_ret, q_app, q_ext, q_freeze, n_name, n_tuple, n_list, n_bin, n_sub, n_call, n_const, n_slice, n_cmp, n_if, n_comp, List.flatMap_cons, List.flatMap_nil, List.append_nil, List.cons_append, List.nil_append, q_rho0, q_upd, q_fnL, q_compRho, updAll, q_tgN, q_tgT, q_asI, q_asL, Option.bind_some, Option.map_some, reduceCtorEq, ne_eq, not_false_eq_true, implies_true, and_self, if_true, if_false, Bool.false_eq_true, true_and, and_true, shD, t_st, t_b2, t_cm, t_ct, t_ifT, t_ifF, t_ls, t_tu, t_co, t_le, t_ca, t_cn, t_cd, t_seT, t_seF, q_cfN, q_cfT, t_no, t_nTT, t_nFF, t_nTF, t_nFT, t_tsAT, t_tsAF, t_tsOT, t_tsOF, t_it, t_zi, t_en, t_re, t_thN, t_thR, t_fin, t_siT, t_siF, t_rt, t_fo, t_as, t_al, t_am, t_at, t_su, t_au, t_ax, t_ay, t_ap, t_ex, t_tg, q_tscons, i1, idxD, List.length_map, hb, e1, e3, Int.toNat_natCast, behindInMarks, cmpD, isEq, isNe, isNi, cmpI, hq, decide_false]
  · simp (config := { decide := true }) only [↓reduceIte, q_name, q_int, q_bool, q_bin, q_cmp, q_if, q_from, q_upto, q_subN, q_subC, q_subB, q_subS, q_list, q_tuple, q_comp, q_len, q_call, q_count, q_bname, q_bsub, q_btup, q_tnot, q_tbool, q_tcmp, q_tname, q_tcall, q_tsnA, q_tsnO, q_esnil, q_escons, q_itname, q_itsub, q_itrng, q_itrev, q_itzip, q_itenum, q_nil, q_ok, q_cons, q_asgName, q_asgList, q_asgMul, q_asgTup, q_asgSub, q_aug, q_augSub, q_for, q_while, q_ifs, q_ret, q_app, q_ext, q_freeze, n_name, n_tuple, n_list, n_bin, n_sub, n_call, n_const, n_slice, n_cmp, n_if, n_comp, List.flatMap_cons, List.flatMap_nil, List.append_nil, List.cons_append, List.nil_append, q_rho0, q_upd, q_fnL, q_compRho, updAll, q_tgN, q_tgT, q_asI, q_asL, Option.bind_some, Option.map_some, reduceCtorEq, ne_eq, not_false_eq_true, implies_true, and_self, if_true, if_false, Bool.false_eq_true, true_and, and_true, shD, t_st, t_b2, t_cm, t_ct, t_ifT, t_ifF, t_ls, t_tu, t_co, t_le, t_ca, t_cn, t_cd, t_seT, t_seF, q_cfN, q_cfT, t_no, t_nTT, t_nFF, t_nTF, t_nFT, t_tsAT, t_tsAF, t_tsOT, t_tsOF, t_it, t_zi, t_en, t_re, t_thN, t_thR, t_fin, t_siT, t_siF, t_rt, t_fo, t_as, t_al, t_am, t_at, t_su, t_au, t_ax, t_ay, t_ap, t_ex, t_tg, q_tscons, sorted_eq (show cs.length ≤ 50 by first | lia | omega)]
    exact ⟨by simp (config := { decide := true }) only [↓reduceIte, q_name, q_int, q_bool, q_bin, q_cmp, q_if, q_from, q_upto, q_subN, q_subC, q_subB, q_subS, q_list, q_tuple, q_comp, q_len, q_call, q_count, q_bname, q_bsub, q_btup, q_tnot, q_tbool, q_tcmp, q_tname, q_tcall, q_tsnA, q_tsnO, q_esnil, q_escons, q_itname, q_itsub, q_itrng, q_itrev, q_itzip, q_itenum, q_nil, q_ok, q_cons, q_asgName, q_asgList, q_asgMul, q_asgTup, q_asgSub, q_aug, q_augSub, q_for, q_while, q_ifs, q_ret, q_app, q_ext, q_freeze, n_name, n_tuple, n_list, n_bin, n_sub, n_call, n_const, n_slice, n_cmp, n_if, n_comp, List.flatMap_cons, List.flatMap_nil, List.append_nil, List.cons_append, List.nil_append, q_rho0, q_upd, q_fnL, q_compRho, updAll, q_tgN, q_tgT, q_asI, q_asL, Option.bind_some, Option.map_some, reduceCtorEq, ne_eq, not_false_eq_true, implies_true, and_self, if_true, if_false, Bool.false_eq_true, true_and, and_true, shD, t_st, t_b2, t_cm, t_ct, t_ifT, t_ifF, t_ls, t_tu, t_co, t_le, t_ca, t_cn, t_cd, t_seT, t_seF, q_cfN, q_cfT, t_no, t_nTT, t_nFF, t_nTF, t_nFT, t_tsAT, t_tsAF, t_tsOT, t_tsOF, t_it, t_zi, t_en, t_re, t_thN, t_thR, t_fin, t_siT, t_siF, t_rt, t_fo, t_as, t_al, t_am, t_at, t_su, t_au, t_ax, t_ay, t_ap, t_ex, t_tg, q_tscons, i1, il], by simp (config := { decide := true }) only [↓reduceIte, q_name, q_int, q_bool, q_bin, q_cmp, q_if, q_from, q_upto, q_subN, q_subC, q_subB, q_subS, q_list, q_tuple, q_comp, q_len, q_call, q_count, q_bname, q_bsub, q_btup, q_tnot, q_tbool, q_tcmp, q_tname, q_tcall, q_tsnA, q_tsnO, q_esnil, q_escons, q_itname, q_itsub, q_itrng, q_itrev, q_itzip, q_itenum, q_nil, q_ok, q_cons, q_asgName, q_asgList, q_asgMul, q_asgTup, q_asgSub, q_aug, q_augSub, q_for, q_while, q_ifs, q_ret, q_app, q_ext, q_freeze, n_name, n_tuple, n_list, n_bin, n_sub, n_call, n_const, n_slice, n_cmp, n_if, n_comp, List.flatMap_cons, List.flatMap_nil, List.append_nil, List.cons_append, List.nil_append, q_rho0, q_upd, q_fnL, q_compRho, updAll, q_tgN, q_tgT, q_asI, q_asL, Option.bind_some, Option.map_some, reduceCtorEq, ne_eq, not_false_eq_true, implies_true, and_self, if_true, if_false, Bool.false_eq_true, true_and, and_true, shD, t_st, t_b2, t_cm, t_ct, t_ifT, t_ifF, t_ls, t_tu, t_co, t_le, t_ca, t_cn, t_cd, t_seT, t_seF, q_cfN, q_cfT, t_no, t_nTT, t_nFF, t_nTF, t_nFT, t_tsAT, t_tsAF, t_tsOT, t_tsOF, t_it, t_zi, t_en, t_re, t_thN, t_thR, t_fin, t_siT, t_siF, t_rt, t_fo, t_as, t_al, t_am, t_at, t_su, t_au, t_ax, t_ay, t_ap, t_ex, t_tg, q_tscons, i2], by simp (config := { decide := true }) only [↓reduceIte, q_name, q_int, q_bool, q_bin, q_cmp, q_if, q_from, q_upto, q_subN, q_subC, q_subB, q_subS, q_list, q_tuple, q_comp, q_len, q_call, q_count, q_bname, q_bsub, q_btup, q_tnot, q_tbool, q_tcmp, q_tname, q_tcall, q_tsnA, q_tsnO, q_esnil, q_escons, q_itname, q_itsub, q_itrng, q_itrev, q_itzip, q_itenum, q_nil, q_ok, q_cons, q_asgName, q_asgList, q_asgMul, q_asgTup, q_asgSub, q_aug, q_augSub, q_for, q_while, q_ifs, q_ret, q_app, q_ext, q_freeze, n_name, n_tuple, n_list, n_bin, n_sub, n_call, n_const, n_slice, n_cmp, n_if, n_comp, List.flatMap_cons, List.flatMap_nil, List.append_nil, List.cons_append, List.nil_append, q_rho0, q_upd, q_fnL, q_compRho, updAll, q_tgN, q_tgT, q_asI, q_asL, Option.bind_some, Option.map_some, reduceCtorEq, ne_eq, not_false_eq_true, implies_true, and_self, if_true, if_false, Bool.false_eq_true, true_and, and_true, shD, t_st, t_b2, t_cm, t_ct, t_ifT, t_ifF, t_ls, t_tu, t_co, t_le, t_ca, t_cn, t_cd, t_seT, t_seF, q_cfN, q_cfT, t_no, t_nTT, t_nFF, t_nTF, t_nFT, t_tsAT, t_tsAF, t_tsOT, t_tsOF, t_it, t_zi, t_en, t_re, t_thN, t_thR, t_fin, t_siT, t_siF, t_rt, t_fo, t_as, t_al, t_am, t_at, t_su, t_au, t_ax, t_ay, t_ap, t_ex, t_tg, q_tscons, i3], by simp (config := { decide := true }) only [↓reduceIte, q_name, q_int, q_bool, q_bin, q_cmp, q_if, q_from, q_upto, q_subN, q_subC, q_subB, q_subS, q_list, q_tuple, q_comp, q_len, q_call, q_count, q_bname, q_bsub, q_btup, q_tnot, q_tbool, q_tcmp, q_tname, q_tcall, q_tsnA, q_tsnO, q_esnil, q_escons, q_itname, q_itsub, q_itrng, q_itrev, q_itzip, q_itenum, q_nil, q_ok, q_cons, q_asgName, q_asgList, q_asgMul, q_asgTup, q_asgSub, q_aug, q_augSub, q_for, q_while, q_ifs, q_ret, q_app, q_ext, q_freeze, n_name, n_tuple, n_list, n_bin, n_sub, n_call, n_const, n_slice, n_cmp, n_if, n_comp, List.flatMap_cons, List.flatMap_nil, List.append_nil, List.cons_append, List.nil_append, q_rho0, q_upd, q_fnL, q_compRho, updAll, q_tgN, q_tgT, q_asI, q_asL, Option.bind_some, Option.map_some, reduceCtorEq, ne_eq, not_false_eq_true, implies_true, and_self, if_true, if_false, Bool.false_eq_true, true_and, and_true, shD, t_st, t_b2, t_cm, t_ct, t_ifT, t_ifF, t_ls, t_tu, t_co, t_le, t_ca, t_cn, t_cd, t_seT, t_seF, q_cfN, q_cfT, t_no, t_nTT, t_nFF, t_nTF, t_nFT, t_tsAT, t_tsAF, t_tsOT, t_tsOF, t_it, t_zi, t_en, t_re, t_thN, t_thR, t_fin, t_siT, t_siF, t_rt, t_fo, t_as, t_al, t_am, t_at, t_su, t_au, t_ax, t_ay, t_ap, t_ex, t_tg, q_tscons]⟩

theorem zipD_map (a b : List Int) : zipD (a.map .int) (b.map .int) = (List.zip a b).map fun p => .tup [.int p.1, .int p.2] := by
  induction a generalizing b with
  | nil => rfl
  | cons x a ih => cases b with
    | nil => rfl
    | cons y b => simp [zipD, ih]

theorem law5 (G : Good cs) (h : LV cs ln ρ) : Ok (exe 300 Γ_law ρ (lawS 5)) (LV cs ln) := by
  conv => arg 1; arg 4; whnf
  have hh := h
  obtain ⟨i1, i2, i3, i4⟩ := h
  have hl := G.len
  have F := G.facts
  simp only [il] at i1 i3
  have hzl : (List.map (fun p : Int × Int => D.tup [.int p.1, .int p.2]) ((treeF cs).zip cs)).length ≤ big := by
    simp [treeF_len]; unfold big; (first | lia | omega)
  simp (config := { decide := true }) only [↓reduceIte, q_name, q_int, q_bool, q_bin, q_cmp, q_if, q_from, q_upto, q_subN, q_subC, q_subB, q_subS, q_list, q_tuple, q_comp, q_len, q_call, q_count, q_bname, q_bsub, q_btup, q_tnot, q_tbool, q_tcmp, q_tname, q_tcall, q_tsnA, q_tsnO, q_esnil, q_escons, q_itname, q_itsub, q_itrng, q_itrev, q_itzip, q_itenum, q_nil, q_ok, q_cons, q_asgName, q_asgList, q_asgMul, q_asgTup, q_asgSub, q_aug, q_augSub, q_for, q_while, q_ifs, q_ret, q_app, q_ext, q_freeze, n_name, n_tuple, n_list, n_bin, n_sub, n_call, n_const, n_slice, n_cmp, n_if, n_comp, List.flatMap_cons, List.flatMap_nil, List.append_nil, List.cons_append, List.nil_append, q_rho0, q_upd, q_fnL, q_compRho, updAll, q_tgN, q_tgT, q_asI, q_asL, Option.bind_some, Option.map_some, reduceCtorEq, ne_eq, not_false_eq_true, implies_true, and_self, if_true, if_false, Bool.false_eq_true, true_and, and_true, shD, t_st, t_b2, t_cm, t_ct, t_ifT, t_ifF, t_ls, t_tu, t_co, t_le, t_ca, t_cn, t_cd, t_seT, t_seF, q_cfN, q_cfT, t_no, t_nTT, t_nFF, t_nTF, t_nFT, t_tsAT, t_tsAF, t_tsOT, t_tsOF, t_it, t_zi, t_en, t_re, t_thN, t_thR, t_fin, t_siT, t_siF, t_rt, t_fo, t_as, t_al, t_am, t_at, t_su, t_au, t_ax, t_ay, t_ap, t_ex, t_tg, q_tscons, Γ_law, i1, i3, zipD_map, hzl, behindInMarks]
  rw [comp_eq (g := fun _ => none) (fun d hd => ?_)]
  rotate_left
  · obtain ⟨p, hp, rfl⟩ := List.mem_map.mp hd
    obtain ⟨i, hi, e⟩ := List.getElem_of_mem hp
    have hi2 : i < cs.length := by simp [treeF_len] at hi; exact hi
    have tp := (tree_pos F i hi2).1
    have e1 : p.1 = (treeF cs).getD i 0 := by rw [← e]; simp [treeF_len, hi2]
    have e2 : p.2 = cs.getD i 0 := by rw [← e]; simp [hi2]
    rw [← e1, ← e2] at tp
    by_cases hq : 0 < p.2
    · have hq1 := tp.mpr hq
      simp (config := { decide := true }) only [↓reduceIte, q_name, q_int, q_bool, q_bin, q_cmp, q_if, q_from, q_upto, q_subN, q_subC, q_subB, q_subS, q_list, q_tuple, q_comp, q_len, q_call, q_count, q_bname, q_bsub, q_btup, q_tnot, q_tbool, q_tcmp, q_tname, q_tcall, q_tsnA, q_tsnO, q_esnil, q_escons, q_itname, q_itsub, q_itrng, q_itrev, q_itzip, q_itenum, q_nil, q_ok, q_cons, q_asgName, q_asgList, q_asgMul, q_asgTup, q_asgSub, q_aug, q_augSub, q_for, q_while, q_ifs, q_ret, q_app, q_ext, q_freeze, n_name, n_tuple, n_list, n_bin, n_sub, n_call, n_const, n_slice, n_cmp, n_if, n_comp, List.flatMap_cons, List.flatMap_nil, List.append_nil, List.cons_append, List.nil_append, q_rho0, q_upd, q_fnL, q_compRho, updAll, q_tgN, q_tgT, q_asI, q_asL, Option.bind_some, Option.map_some, reduceCtorEq, ne_eq, not_false_eq_true, implies_true, and_self, if_true, if_false, Bool.false_eq_true, true_and, and_true, shD, t_st, t_b2, t_cm, t_ct, t_ifT, t_ifF, t_ls, t_tu, t_co, t_le, t_ca, t_cn, t_cd, t_seT, t_seF, q_cfN, q_cfT, t_no, t_nTT, t_nFF, t_nTF, t_nFT, t_tsAT, t_tsAF, t_tsOT, t_tsOF, t_it, t_zi, t_en, t_re, t_thN, t_thR, t_fin, t_siT, t_siF, t_rt, t_fo, t_as, t_al, t_am, t_at, t_su, t_au, t_ax, t_ay, t_ap, t_ex, t_tg, q_tscons, behindInMarks, cmpD, isEq, isNe, isNi, cmpI, hq, hq1, decide_true]
    · have hq1 : ¬ 0 < p.1 := fun q => hq (tp.mp q)
      simp (config := { decide := true }) only [↓reduceIte, q_name, q_int, q_bool, q_bin, q_cmp, q_if, q_from, q_upto, q_subN, q_subC, q_subB, q_subS, q_list, q_tuple, q_comp, q_len, q_call, q_count, q_bname, q_bsub, q_btup, q_tnot, q_tbool, q_tcmp, q_tname, q_tcall, q_tsnA, q_tsnO, q_esnil, q_escons, q_itname, q_itsub, q_itrng, q_itrev, q_itzip, q_itenum, q_nil, q_ok, q_cons, q_asgName, q_asgList, q_asgMul, q_asgTup, q_asgSub, q_aug, q_augSub, q_for, q_while, q_ifs, q_ret, q_app, q_ext, q_freeze, n_name, n_tuple, n_list, n_bin, n_sub, n_call, n_const, n_slice, n_cmp, n_if, n_comp, List.flatMap_cons, List.flatMap_nil, List.append_nil, List.cons_append, List.nil_append, q_rho0, q_upd, q_fnL, q_compRho, updAll, q_tgN, q_tgT, q_asI, q_asL, Option.bind_some, Option.map_some, reduceCtorEq, ne_eq, not_false_eq_true, implies_true, and_self, if_true, if_false, Bool.false_eq_true, true_and, and_true, shD, t_st, t_b2, t_cm, t_ct, t_ifT, t_ifF, t_ls, t_tu, t_co, t_le, t_ca, t_cn, t_cd, t_seT, t_seF, q_cfN, q_cfT, t_no, t_nTT, t_nFF, t_nTF, t_nFT, t_tsAT, t_tsAF, t_tsOT, t_tsOF, t_it, t_zi, t_en, t_re, t_thN, t_thR, t_fin, t_siT, t_siF, t_rt, t_fo, t_as, t_al, t_am, t_at, t_su, t_au, t_ax, t_ay, t_ap, t_ex, t_tg, q_tscons, behindInMarks, cmpD, isEq, isNe, isNi, cmpI, hq, hq1, decide_false]
  · have e0 : List.filterMap (fun _ : D => (none : Option D)) (List.map (fun p : Int × Int => D.tup [.int p.1, .int p.2]) ((treeF cs).zip cs)) = [] := by
      rw [List.filterMap_eq_nil_iff]; intros; rfl
    rw [e0]
    simp (config := { decide := true }) only [↓reduceIte, q_name, q_int, q_bool, q_bin, q_cmp, q_if, q_from, q_upto, q_subN, q_subC, q_subB, q_subS, q_list, q_tuple, q_comp, q_len, q_call, q_count, q_bname, q_bsub, q_btup, q_tnot, q_tbool, q_tcmp, q_tname, q_tcall, q_tsnA, q_tsnO, q_esnil, q_escons, q_itname, q_itsub, q_itrng, q_itrev, q_itzip, q_itenum, q_nil, q_ok, q_cons, q_asgName, q_asgList, q_asgMul, q_asgTup, q_asgSub, q_aug, q_augSub, q_for, q_while, q_ifs, q_ret, q_app, q_ext, q_freeze, n_name, n_tuple, n_list, n_bin, n_sub, n_call, n_const, n_slice, n_cmp, n_if, n_comp, List.flatMap_cons, List.flatMap_nil, List.append_nil, List.cons_append, List.nil_append, q_rho0, q_upd, q_fnL, q_compRho, updAll, q_tgN, q_tgT, q_asI, q_asL, Option.bind_some, Option.map_some, reduceCtorEq, ne_eq, not_false_eq_true, implies_true, and_self, if_true, if_false, Bool.false_eq_true, true_and, and_true, shD, t_st, t_b2, t_cm, t_ct, t_ifT, t_ifF, t_ls, t_tu, t_co, t_le, t_ca, t_cn, t_cd, t_seT, t_seF, q_cfN, q_cfT, t_no, t_nTT, t_nFF, t_nTF, t_nFT, t_tsAT, t_tsAF, t_tsOT, t_tsOF, t_it, t_zi, t_en, t_re, t_thN, t_thR, t_fin, t_siT, t_siF, t_rt, t_fo, t_as, t_al, t_am, t_at, t_su, t_au, t_ax, t_ay, t_ap, t_ex, t_tg, q_tscons, List.length_nil, cmpD, isEq, isNe, isNi, intsOf, Bool.not_true]
    exact hh

theorem law6 (G : Good cs) (h : LV cs ln ρ) : Ok (exe 300 Γ_law ρ (lawS 6)) (LV cs ln) := by
  conv => arg 1; arg 4; whnf
  have hh := h
  obtain ⟨i1, i2, i3, i4⟩ := h
  have hl := G.len
  have hb : cs.length ≤ big := by unfold big; (first | lia | omega)
  have ht := φ_tree_eq (cs.map (7 * ·)) (by simp; (first | lia | omega))
  rw [tree_seven] at ht
  simp only [il] at i1 i3 ht
  simp (config := { decide := true }) only [↓reduceIte, q_name, q_int, q_bool, q_bin, q_cmp, q_if, q_from, q_upto, q_subN, q_subC, q_subB, q_subS, q_list, q_tuple, q_comp, q_len, q_call, q_count, q_bname, q_bsub, q_btup, q_tnot, q_tbool, q_tcmp, q_tname, q_tcall, q_tsnA, q_tsnO, q_esnil, q_escons, q_itname, q_itsub, q_itrng, q_itrev, q_itzip, q_itenum, q_nil, q_ok, q_cons, q_asgName, q_asgList, q_asgMul, q_asgTup, q_asgSub, q_aug, q_augSub, q_for, q_while, q_ifs, q_ret, q_app, q_ext, q_freeze, n_name, n_tuple, n_list, n_bin, n_sub, n_call, n_const, n_slice, n_cmp, n_if, n_comp, List.flatMap_cons, List.flatMap_nil, List.append_nil, List.cons_append, List.nil_append, q_rho0, q_upd, q_fnL, q_compRho, updAll, q_tgN, q_tgT, q_asI, q_asL, Option.bind_some, Option.map_some, reduceCtorEq, ne_eq, not_false_eq_true, implies_true, and_self, if_true, if_false, Bool.false_eq_true, true_and, and_true, shD, t_st, t_b2, t_cm, t_ct, t_ifT, t_ifF, t_ls, t_tu, t_co, t_le, t_ca, t_cn, t_cd, t_seT, t_seF, q_cfN, q_cfT, t_no, t_nTT, t_nFF, t_nTF, t_nFT, t_tsAT, t_tsAF, t_tsOT, t_tsOF, t_it, t_zi, t_en, t_re, t_thN, t_thR, t_fin, t_siT, t_siF, t_rt, t_fo, t_as, t_al, t_am, t_at, t_su, t_au, t_ax, t_ay, t_ap, t_ex, t_tg, q_tscons, Γ_law, i1, i3, behindInMarks, List.length_map, hb]
  rw [comp_map (g := fun d => .int (7 * ofI d)) (fun d hd => ?_)]
  rotate_left
  · obtain ⟨x, hx, rfl⟩ := List.mem_map.mp hd
    simp (config := { decide := true }) only [↓reduceIte, q_name, q_int, q_bool, q_bin, q_cmp, q_if, q_from, q_upto, q_subN, q_subC, q_subB, q_subS, q_list, q_tuple, q_comp, q_len, q_call, q_count, q_bname, q_bsub, q_btup, q_tnot, q_tbool, q_tcmp, q_tname, q_tcall, q_tsnA, q_tsnO, q_esnil, q_escons, q_itname, q_itsub, q_itrng, q_itrev, q_itzip, q_itenum, q_nil, q_ok, q_cons, q_asgName, q_asgList, q_asgMul, q_asgTup, q_asgSub, q_aug, q_augSub, q_for, q_while, q_ifs, q_ret, q_app, q_ext, q_freeze, n_name, n_tuple, n_list, n_bin, n_sub, n_call, n_const, n_slice, n_cmp, n_if, n_comp, List.flatMap_cons, List.flatMap_nil, List.append_nil, List.cons_append, List.nil_append, q_rho0, q_upd, q_fnL, q_compRho, updAll, q_tgN, q_tgT, q_asI, q_asL, Option.bind_some, Option.map_some, reduceCtorEq, ne_eq, not_false_eq_true, implies_true, and_self, if_true, if_false, Bool.false_eq_true, true_and, and_true, shD, t_st, t_b2, t_cm, t_ct, t_ifT, t_ifF, t_ls, t_tu, t_co, t_le, t_ca, t_cn, t_cd, t_seT, t_seF, q_cfN, q_cfT, t_no, t_nTT, t_nFF, t_nTF, t_nFT, t_tsAT, t_tsAF, t_tsOT, t_tsOF, t_it, t_zi, t_en, t_re, t_thN, t_thR, t_fin, t_siT, t_siF, t_rt, t_fo, t_as, t_al, t_am, t_at, t_su, t_au, t_ax, t_ay, t_ap, t_ex, t_tg, q_tscons, binD, binI, binL, binR, isAdd, isMul, ofI]
  · have e0 : List.map (fun d => D.int (7 * ofI d)) (List.map D.int cs) = List.map D.int (List.map (7 * ·) cs) := by
      rw [List.map_map, List.map_map]; rfl
    rw [e0]
    simp (config := { decide := true }) only [↓reduceIte, q_name, q_int, q_bool, q_bin, q_cmp, q_if, q_from, q_upto, q_subN, q_subC, q_subB, q_subS, q_list, q_tuple, q_comp, q_len, q_call, q_count, q_bname, q_bsub, q_btup, q_tnot, q_tbool, q_tcmp, q_tname, q_tcall, q_tsnA, q_tsnO, q_esnil, q_escons, q_itname, q_itsub, q_itrng, q_itrev, q_itzip, q_itenum, q_nil, q_ok, q_cons, q_asgName, q_asgList, q_asgMul, q_asgTup, q_asgSub, q_aug, q_augSub, q_for, q_while, q_ifs, q_ret, q_app, q_ext, q_freeze, n_name, n_tuple, n_list, n_bin, n_sub, n_call, n_const, n_slice, n_cmp, n_if, n_comp, List.flatMap_cons, List.flatMap_nil, List.append_nil, List.cons_append, List.nil_append, q_rho0, q_upd, q_fnL, q_compRho, updAll, q_tgN, q_tgT, q_asI, q_asL, Option.bind_some, Option.map_some, reduceCtorEq, ne_eq, not_false_eq_true, implies_true, and_self, if_true, if_false, Bool.false_eq_true, true_and, and_true, shD, t_st, t_b2, t_cm, t_ct, t_ifT, t_ifF, t_ls, t_tu, t_co, t_le, t_ca, t_cn, t_cd, t_seT, t_seF, q_cfN, q_cfT, t_no, t_nTT, t_nFF, t_nTF, t_nFT, t_tsAT, t_tsAF, t_tsOT, t_tsOF, t_it, t_zi, t_en, t_re, t_thN, t_thR, t_fin, t_siT, t_siF, t_rt, t_fo, t_as, t_al, t_am, t_at, t_su, t_au, t_ax, t_ay, t_ap, t_ex, t_tg, q_tscons, ht, i3, cmpD, isEq, isNe, isNi, intsOf_map, decide_true, Bool.not_true]
    exact hh

theorem law8 (G : Good cs) {k : Nat} (hk : k ≤ cs.length) (h : LV cs ln ρ) (hs : ρ "spot" = some (.st (.int k))) : Ok (exe 300 Γ_law ρ (lawS 8)) (LV cs ln) := by
  conv => arg 1; arg 4; whnf
  have hh := h
  obtain ⟨i1, i2, i3, i4⟩ := h
  have hl := G.len
  have hb : cs.length ≤ big := by unfold big; (first | lia | omega)
  have hbt : (treeF cs).length ≤ big := by rw [treeF_len]; exact hb
  have ht := φ_tree_eq (cs.take k ++ [0] ++ cs.drop k) (by simp; (first | lia | omega))
  rw [tree_zero cs k hk] at ht
  simp only [il] at i1 i3 ht
  have z0 : (0 : Int) ≤ (k : Int) := by first | lia | omega
  have b1 : (cs.take k).length ≤ big := by simp; (first | lia | omega)
  have b2 : (cs.drop k).length ≤ big := by simp; (first | lia | omega)
  have b3 : ((treeF cs).take k).length ≤ big := by simp; (first | lia | omega)
  have b4 : ((treeF cs).drop k).length ≤ big := by simp; (first | lia | omega)
  have b5 : (cs.take k ++ [0]).length ≤ big := by simp; unfold big; (first | lia | omega)
  have b6 : ((treeF cs).take k ++ [0]).length ≤ big := by simp; unfold big; (first | lia | omega)
  have m1 : List.map D.int (cs.take k) ++ [D.int 0] = List.map D.int (cs.take k ++ [0]) := by simp
  have m2 : List.map D.int (cs.take k ++ [0]) ++ List.map D.int (cs.drop k) = List.map D.int (cs.take k ++ [0] ++ cs.drop k) := by simp
  have m3 : List.map D.int ((treeF cs).take k) ++ [D.int 0] = List.map D.int ((treeF cs).take k ++ [0]) := by simp
  have m4 : List.map D.int ((treeF cs).take k ++ [0]) ++ List.map D.int ((treeF cs).drop k) = List.map D.int ((treeF cs).take k ++ [0] ++ (treeF cs).drop k) := by simp
  have o1 : (1 : Nat) ≤ big := by decide
  simp (config := { decide := true }) only [↓reduceIte, q_name, q_int, q_bool, q_bin, q_cmp, q_if, q_from, q_upto, q_subN, q_subC, q_subB, q_subS, q_list, q_tuple, q_comp, q_len, q_call, q_count, q_bname, q_bsub, q_btup, q_tnot, q_tbool, q_tcmp, q_tname, q_tcall, q_tsnA, q_tsnO, q_esnil, q_escons, q_itname, q_itsub, q_itrng, q_itrev, q_itzip, q_itenum, q_nil, q_ok, q_cons, q_asgName, q_asgList, q_asgMul, q_asgTup, q_asgSub, q_aug, q_augSub, q_for, q_while, q_ret, q_app, q_ext, q_freeze, n_name, n_tuple, n_list, n_bin, n_sub, n_call, n_const, n_slice, n_cmp, n_if, n_comp, List.flatMap_cons, List.flatMap_nil, List.append_nil, List.cons_append, List.nil_append, q_rho0, q_upd, q_fnL, q_compRho, updAll, q_tgN, q_tgT, q_asI, q_asL, Option.bind_some, Option.map_some, reduceCtorEq, ne_eq, not_false_eq_true, implies_true, and_self, if_true, if_false, Bool.false_eq_true, true_and, and_true, shD, t_st, t_b2, t_cm, t_ct, t_ifT, t_ifF, t_ls, t_tu, t_co, t_le, t_ca, t_cn, t_cd, t_seT, t_seF, q_cfN, q_cfT, t_no, t_nTT, t_nFF, t_nTF, t_nFT, t_tsAT, t_tsAF, t_tsOT, t_tsOF, t_it, t_zi, t_en, t_re, t_thN, t_thR, t_fin, t_siT, t_siF, t_rt, t_fo, t_as, t_al, t_am, t_at, t_su, t_au, t_ax, t_ay, t_ap, t_ex, t_tg, q_tscons, Γ_law, i1, i3, hs, behindInMarks, fromD, uptoD, z0, List.length_map, hb, hbt, Int.toNat_natCast, ← List.map_take, ← List.map_drop, List.length_cons, List.length_nil, o1, binD, binI, binL, binR, isAdd, isMul, b1, b2, b3, b4, m1, b5, b6, m2, m3, m4, ht]
  simp (config := { decide := true }) only [q_ifs, ↓reduceIte, q_name, q_int, q_bool, q_bin, q_cmp, q_if, q_from, q_upto, q_subN, q_subC, q_subB, q_subS, q_list, q_tuple, q_comp, q_len, q_call, q_count, q_bname, q_bsub, q_btup, q_tnot, q_tbool, q_tcmp, q_tname, q_tcall, q_tsnA, q_tsnO, q_esnil, q_escons, q_itname, q_itsub, q_itrng, q_itrev, q_itzip, q_itenum, q_nil, q_ok, q_cons, q_asgName, q_asgList, q_asgMul, q_asgTup, q_asgSub, q_aug, q_augSub, q_for, q_while, q_ifs, q_ret, q_app, q_ext, q_freeze, n_name, n_tuple, n_list, n_bin, n_sub, n_call, n_const, n_slice, n_cmp, n_if, n_comp, List.flatMap_cons, List.flatMap_nil, List.append_nil, List.cons_append, List.nil_append, q_rho0, q_upd, q_fnL, q_compRho, updAll, q_tgN, q_tgT, q_asI, q_asL, Option.bind_some, Option.map_some, reduceCtorEq, ne_eq, not_false_eq_true, implies_true, and_self, if_true, if_false, Bool.false_eq_true, true_and, and_true, shD, t_st, t_b2, t_cm, t_ct, t_ifT, t_ifF, t_ls, t_tu, t_co, t_le, t_ca, t_cn, t_cd, t_seT, t_seF, q_cfN, q_cfT, t_no, t_nTT, t_nFF, t_nTF, t_nFT, t_tsAT, t_tsAF, t_tsOT, t_tsOF, t_it, t_zi, t_en, t_re, t_thN, t_thR, t_fin, t_siT, t_siF, t_rt, t_fo, t_as, t_al, t_am, t_at, t_su, t_au, t_ax, t_ay, t_ap, t_ex, t_tg, q_tscons, Γ_law, i1, i3, hs, behindInMarks, fromD, uptoD, z0, List.length_map, hb, hbt, Int.toNat_natCast, ← List.map_take, ← List.map_drop, List.length_cons, List.length_nil, o1, binD, binI, binL, binR, isAdd, isMul, b1, b2, b3, b4, m1, b5, b6, m2, m3, m4, ht, cmpD, isEq, isNe, isNi, intsOf_map, decide_true, Bool.not_true]
  exact hh
end
end Mine
end

section
open PySem PySem.W PyProof.Rows PySem.Calls PySem.SeqAt
set_option linter.all false
set_option maxRecDepth 100000
set_option maxHeartbeats 4000000
namespace Mine
section
variable {cs : List Int} {ln : List D} {ρ : Rho}

theorem zipD_mem : ∀ {a b : List D} {d : D}, d ∈ zipD a b → ∃ x ∈ a, ∃ y ∈ b, d = .tup [x, y]
  | x :: a, y :: b, d, h => by
    rw [zipD] at h
    rcases List.mem_cons.mp h with rfl | h
    · exact ⟨x, List.mem_cons_self, y, List.mem_cons_self, rfl⟩
    · obtain ⟨x', h1, y', h2, e⟩ := zipD_mem h
      exact ⟨x', List.mem_cons_of_mem _ h1, y', List.mem_cons_of_mem _ h2, e⟩
theorem idxP0 (p : IP) : idxD (pairD p) (.int 0) = some (.int p.1) := rfl
theorem idxP1 (p : IP) : idxD (pairD p) (.int 1) = some (.int p.2) := rfl
theorem idxI {l : List Int} {x : Int} (h0 : 0 ≤ x) (h : x.toNat < l.length) (hb : l.length ≤ big) : idxD (.lst (l.map .int)) (.int x) = some (.int (l.getD x.toNat 0)) := by
  simp only [idxD]
  rw [if_pos ⟨h0, by simpa using hb⟩]
  exact get_map h

theorem law9 (G : Good cs) (h : LV cs ln ρ) : Ok (exe 300 Γ_law ρ (lawS 9)) (LV cs ln) := by
  conv => arg 1; arg 4; whnf
  have hl := G.len
  have F := G.facts
  have hol := ordF_len cs
  have hob : (ordF cs).length ≤ big := by unfold big; (first | lia | omega)
  obtain ⟨i1, i2, i3, i4⟩ := h
  simp (config := { decide := true }) only [↓reduceIte, q_name, q_int, q_bool, q_bin, q_cmp, q_if, q_from, q_upto, q_subN, q_subC, q_subB, q_subS, q_list, q_tuple, q_comp, q_len, q_call, q_count, q_bname, q_bsub, q_btup, q_tnot, q_tbool, q_tcmp, q_tname, q_tcall, q_tsnA, q_tsnO, q_esnil, q_escons, q_itname, q_itsub, q_itrng, q_itrev, q_itzip, q_itenum, q_nil, q_ok, q_cons, q_asgName, q_asgList, q_asgMul, q_asgTup, q_asgSub, q_aug, q_augSub, q_for, q_while, q_ret, q_app, q_ext, q_freeze, n_name, n_tuple, n_list, n_bin, n_sub, n_call, n_const, n_slice, n_cmp, n_if, n_comp, List.flatMap_cons, List.flatMap_nil, List.append_nil, List.cons_append, List.nil_append, q_rho0, q_upd, q_fnL, q_compRho, updAll, q_tgN, q_tgT, q_asI, q_asL, Option.bind_some, Option.map_some, reduceCtorEq, ne_eq, not_false_eq_true, implies_true, and_self, if_true, if_false, Bool.false_eq_true, true_and, and_true, shD, t_st, t_b2, t_cm, t_ct, t_ifT, t_ifF, t_ls, t_tu, t_co, t_le, t_ca, t_cn, t_cd, t_seT, t_seF, q_cfN, q_cfT, decide_true, decide_false, t_no, t_nTT, t_nFF, t_nTF, t_nFT, t_tsAT, t_tsAF, t_tsOT, t_tsOF, t_it, t_zi, t_en, t_re, t_thN, t_thR, t_fin, t_siT, t_siF, t_rt, t_fo, t_as, t_al, t_am, t_at, t_su, t_au, t_ax, t_ay, t_ap, t_ex, t_tg, q_tscons, Γ_law, i4, fromD, List.length_map, hob]
  refine loop_ok (fun (_ : Unit) ρ => LV cs ln ρ) (fun _ _ => ()) 40 () (fun m _ ρ d hd hi => ?_) ⟨by simp (config := { decide := true }) only [↓reduceIte, q_name, q_int, q_bool, q_bin, q_cmp, q_if, q_from, q_upto, q_subN, q_subC, q_subB, q_subS, q_list, q_tuple, q_comp, q_len, q_call, q_count, q_bname, q_bsub, q_btup, q_tnot, q_tbool, q_tcmp, q_tname, q_tcall, q_tsnA, q_tsnO, q_esnil, q_escons, q_itname, q_itsub, q_itrng, q_itrev, q_itzip, q_itenum, q_nil, q_ok, q_cons, q_asgName, q_asgList, q_asgMul, q_asgTup, q_asgSub, q_aug, q_augSub, q_for, q_while, q_ifs, q_ret, q_app, q_ext, q_freeze, n_name, n_tuple, n_list, n_bin, n_sub, n_call, n_const, n_slice, n_cmp, n_if, n_comp, List.flatMap_cons, List.flatMap_nil, List.append_nil, List.cons_append, List.nil_append, q_rho0, q_upd, q_fnL, q_compRho, updAll, q_tgN, q_tgT, q_asI, q_asL, Option.bind_some, Option.map_some, reduceCtorEq, ne_eq, not_false_eq_true, implies_true, and_self, if_true, if_false, Bool.false_eq_true, true_and, and_true, shD, t_st, t_b2, t_cm, t_ct, t_ifT, t_ifF, t_ls, t_tu, t_co, t_le, t_ca, t_cn, t_cd, t_seT, t_seF, q_cfN, q_cfT, decide_true, decide_false, t_no, t_nTT, t_nFF, t_nTF, t_nFT, t_tsAT, t_tsAF, t_tsOT, t_tsOF, t_it, t_zi, t_en, t_re, t_thN, t_thR, t_fin, t_siT, t_siF, t_rt, t_fo, t_as, t_al, t_am, t_at, t_su, t_au, t_ax, t_ay, t_ap, t_ex, t_tg, q_tscons, i1, il], by simp (config := { decide := true }) only [↓reduceIte, q_name, q_int, q_bool, q_bin, q_cmp, q_if, q_from, q_upto, q_subN, q_subC, q_subB, q_subS, q_list, q_tuple, q_comp, q_len, q_call, q_count, q_bname, q_bsub, q_btup, q_tnot, q_tbool, q_tcmp, q_tname, q_tcall, q_tsnA, q_tsnO, q_esnil, q_escons, q_itname, q_itsub, q_itrng, q_itrev, q_itzip, q_itenum, q_nil, q_ok, q_cons, q_asgName, q_asgList, q_asgMul, q_asgTup, q_asgSub, q_aug, q_augSub, q_for, q_while, q_ifs, q_ret, q_app, q_ext, q_freeze, n_name, n_tuple, n_list, n_bin, n_sub, n_call, n_const, n_slice, n_cmp, n_if, n_comp, List.flatMap_cons, List.flatMap_nil, List.append_nil, List.cons_append, List.nil_append, q_rho0, q_upd, q_fnL, q_compRho, updAll, q_tgN, q_tgT, q_asI, q_asL, Option.bind_some, Option.map_some, reduceCtorEq, ne_eq, not_false_eq_true, implies_true, and_self, if_true, if_false, Bool.false_eq_true, true_and, and_true, shD, t_st, t_b2, t_cm, t_ct, t_ifT, t_ifF, t_ls, t_tu, t_co, t_le, t_ca, t_cn, t_cd, t_seT, t_seF, q_cfN, q_cfT, decide_true, decide_false, t_no, t_nTT, t_nFF, t_nTF, t_nFT, t_tsAT, t_tsAF, t_tsOT, t_tsOF, t_it, t_zi, t_en, t_re, t_thN, t_thR, t_fin, t_siT, t_siF, t_rt, t_fo, t_as, t_al, t_am, t_at, t_su, t_au, t_ax, t_ay, t_ap, t_ex, t_tg, q_tscons, i2], by simp (config := { decide := true }) only [↓reduceIte, q_name, q_int, q_bool, q_bin, q_cmp, q_if, q_from, q_upto, q_subN, q_subC, q_subB, q_subS, q_list, q_tuple, q_comp, q_len, q_call, q_count, q_bname, q_bsub, q_btup, q_tnot, q_tbool, q_tcmp, q_tname, q_tcall, q_tsnA, q_tsnO, q_esnil, q_escons, q_itname, q_itsub, q_itrng, q_itrev, q_itzip, q_itenum, q_nil, q_ok, q_cons, q_asgName, q_asgList, q_asgMul, q_asgTup, q_asgSub, q_aug, q_augSub, q_for, q_while, q_ifs, q_ret, q_app, q_ext, q_freeze, n_name, n_tuple, n_list, n_bin, n_sub, n_call, n_const, n_slice, n_cmp, n_if, n_comp, List.flatMap_cons, List.flatMap_nil, List.append_nil, List.cons_append, List.nil_append, q_rho0, q_upd, q_fnL, q_compRho, updAll, q_tgN, q_tgT, q_asI, q_asL, Option.bind_some, Option.map_some, reduceCtorEq, ne_eq, not_false_eq_true, implies_true, and_self, if_true, if_false, Bool.false_eq_true, true_and, and_true, shD, t_st, t_b2, t_cm, t_ct, t_ifT, t_ifF, t_ls, t_tu, t_co, t_le, t_ca, t_cn, t_cd, t_seT, t_seF, q_cfN, q_cfT, decide_true, decide_false, t_no, t_nTT, t_nFF, t_nTF, t_nFT, t_tsAT, t_tsAF, t_tsOT, t_tsOF, t_it, t_zi, t_en, t_re, t_thN, t_thR, t_fin, t_siT, t_siF, t_rt, t_fo, t_as, t_al, t_am, t_at, t_su, t_au, t_ax, t_ay, t_ap, t_ex, t_tg, q_tscons, i3, il], by simp (config := { decide := true }) only [↓reduceIte, q_name, q_int, q_bool, q_bin, q_cmp, q_if, q_from, q_upto, q_subN, q_subC, q_subB, q_subS, q_list, q_tuple, q_comp, q_len, q_call, q_count, q_bname, q_bsub, q_btup, q_tnot, q_tbool, q_tcmp, q_tname, q_tcall, q_tsnA, q_tsnO, q_esnil, q_escons, q_itname, q_itsub, q_itrng, q_itrev, q_itzip, q_itenum, q_nil, q_ok, q_cons, q_asgName, q_asgList, q_asgMul, q_asgTup, q_asgSub, q_aug, q_augSub, q_for, q_while, q_ifs, q_ret, q_app, q_ext, q_freeze, n_name, n_tuple, n_list, n_bin, n_sub, n_call, n_const, n_slice, n_cmp, n_if, n_comp, List.flatMap_cons, List.flatMap_nil, List.append_nil, List.cons_append, List.nil_append, q_rho0, q_upd, q_fnL, q_compRho, updAll, q_tgN, q_tgT, q_asI, q_asL, Option.bind_some, Option.map_some, reduceCtorEq, ne_eq, not_false_eq_true, implies_true, and_self, if_true, if_false, Bool.false_eq_true, true_and, and_true, shD, t_st, t_b2, t_cm, t_ct, t_ifT, t_ifF, t_ls, t_tu, t_co, t_le, t_ca, t_cn, t_cd, t_seT, t_seF, q_cfN, q_cfT, decide_true, decide_false, t_no, t_nTT, t_nFF, t_nTF, t_nFT, t_tsAT, t_tsAF, t_tsOT, t_tsOF, t_it, t_zi, t_en, t_re, t_thN, t_thR, t_fin, t_siT, t_siF, t_rt, t_fo, t_as, t_al, t_am, t_at, t_su, t_au, t_ax, t_ay, t_ap, t_ex, t_tg, q_tscons, i4]⟩ ?_
  · obtain ⟨x, hx, y, hy, rfl⟩ := zipD_mem hd
    obtain ⟨p, hp, rfl⟩ := List.mem_map.mp hx
    obtain ⟨q, hq, rfl⟩ := List.mem_map.mp (List.mem_of_mem_drop hy)
    have hp1 := ordF_iff.mp hp
    have hq1 := ordF_iff.mp hq
    obtain ⟨i1, i2, i3, i4⟩ := hi
    have hbt : (treeF cs).length ≤ big := by rw [treeF_len]; unfold big; (first | lia | omega)
    simp only [il] at i3
    have e1 := idxI (l := treeF cs) hp1.2.1 (by rw [treeF_len]; exact hp1.2.2.1) hbt
    have e2 := idxI (l := treeF cs) hq1.2.1 (by rw [treeF_len]; exact hq1.2.2.1) hbt
    have keep : LV cs ln (upd (upd ρ "one" (.st (pairD p))) "other" (.st (pairD q))) := ⟨by simp (config := { decide := true }) only [↓reduceIte, q_name, q_int, q_bool, q_bin, q_cmp, q_if, q_from, q_upto, q_subN, q_subC, q_subB, q_subS, q_list, q_tuple, q_comp, q_len, q_call, q_count, q_bname, q_bsub, q_btup, q_tnot, q_tbool, q_tcmp, q_tname, q_tcall, q_tsnA, q_tsnO, q_esnil, q_escons, q_itname, q_itsub, q_itrng, q_itrev, q_itzip, q_itenum, q_nil, q_ok, q_cons, q_asgName, q_asgList, q_asgMul, q_asgTup, q_asgSub, q_aug, q_augSub, q_for, q_while, q_ifs, q_ret, q_app, q_ext, q_freeze, n_name, n_tuple, n_list, n_bin, n_sub, n_call, n_const, n_slice, n_cmp, n_if, n_comp, List.flatMap_cons, List.flatMap_nil, List.append_nil, List.cons_append, List.nil_append, q_rho0, q_upd, q_fnL, q_compRho, updAll, q_tgN, q_tgT, q_asI, q_asL, Option.bind_some, Option.map_some, reduceCtorEq, ne_eq, not_false_eq_true, implies_true, and_self, if_true, if_false, Bool.false_eq_true, true_and, and_true, shD, t_st, t_b2, t_cm, t_ct, t_ifT, t_ifF, t_ls, t_tu, t_co, t_le, t_ca, t_cn, t_cd, t_seT, t_seF, q_cfN, q_cfT, decide_true, decide_false, t_no, t_nTT, t_nFF, t_nTF, t_nFT, t_tsAT, t_tsAF, t_tsOT, t_tsOF, t_it, t_zi, t_en, t_re, t_thN, t_thR, t_fin, t_siT, t_siF, t_rt, t_fo, t_as, t_al, t_am, t_at, t_su, t_au, t_ax, t_ay, t_ap, t_ex, t_tg, q_tscons, i1], by simp (config := { decide := true }) only [↓reduceIte, q_name, q_int, q_bool, q_bin, q_cmp, q_if, q_from, q_upto, q_subN, q_subC, q_subB, q_subS, q_list, q_tuple, q_comp, q_len, q_call, q_count, q_bname, q_bsub, q_btup, q_tnot, q_tbool, q_tcmp, q_tname, q_tcall, q_tsnA, q_tsnO, q_esnil, q_escons, q_itname, q_itsub, q_itrng, q_itrev, q_itzip, q_itenum, q_nil, q_ok, q_cons, q_asgName, q_asgList, q_asgMul, q_asgTup, q_asgSub, q_aug, q_augSub, q_for, q_while, q_ifs, q_ret, q_app, q_ext, q_freeze, n_name, n_tuple, n_list, n_bin, n_sub, n_call, n_const, n_slice, n_cmp, n_if, n_comp, List.flatMap_cons, List.flatMap_nil, List.append_nil, List.cons_append, List.nil_append, q_rho0, q_upd, q_fnL, q_compRho, updAll, q_tgN, q_tgT, q_asI, q_asL, Option.bind_some, Option.map_some, reduceCtorEq, ne_eq, not_false_eq_true, implies_true, and_self, if_true, if_false, Bool.false_eq_true, true_and, and_true, shD, t_st, t_b2, t_cm, t_ct, t_ifT, t_ifF, t_ls, t_tu, t_co, t_le, t_ca, t_cn, t_cd, t_seT, t_seF, q_cfN, q_cfT, decide_true, decide_false, t_no, t_nTT, t_nFF, t_nTF, t_nFT, t_tsAT, t_tsAF, t_tsOT, t_tsOF, t_it, t_zi, t_en, t_re, t_thN, t_thR, t_fin, t_siT, t_siF, t_rt, t_fo, t_as, t_al, t_am, t_at, t_su, t_au, t_ax, t_ay, t_ap, t_ex, t_tg, q_tscons, i2], by simp (config := { decide := true }) only [↓reduceIte, q_name, q_int, q_bool, q_bin, q_cmp, q_if, q_from, q_upto, q_subN, q_subC, q_subB, q_subS, q_list, q_tuple, q_comp, q_len, q_call, q_count, q_bname, q_bsub, q_btup, q_tnot, q_tbool, q_tcmp, q_tname, q_tcall, q_tsnA, q_tsnO, q_esnil, q_escons, q_itname, q_itsub, q_itrng, q_itrev, q_itzip, q_itenum, q_nil, q_ok, q_cons, q_asgName, q_asgList, q_asgMul, q_asgTup, q_asgSub, q_aug, q_augSub, q_for, q_while, q_ifs, q_ret, q_app, q_ext, q_freeze, n_name, n_tuple, n_list, n_bin, n_sub, n_call, n_const, n_slice, n_cmp, n_if, n_comp, List.flatMap_cons, List.flatMap_nil, List.append_nil, List.cons_append, List.nil_append, q_rho0, q_upd, q_fnL, q_compRho, updAll, q_tgN, q_tgT, q_asI, q_asL, Option.bind_some, Option.map_some, reduceCtorEq, ne_eq, not_false_eq_true, implies_true, and_self, if_true, if_false, Bool.false_eq_true, true_and, and_true, shD, t_st, t_b2, t_cm, t_ct, t_ifT, t_ifF, t_ls, t_tu, t_co, t_le, t_ca, t_cn, t_cd, t_seT, t_seF, q_cfN, q_cfT, decide_true, decide_false, t_no, t_nTT, t_nFF, t_nTF, t_nFT, t_tsAT, t_tsAF, t_tsOT, t_tsOF, t_it, t_zi, t_en, t_re, t_thN, t_thR, t_fin, t_siT, t_siF, t_rt, t_fo, t_as, t_al, t_am, t_at, t_su, t_au, t_ax, t_ay, t_ap, t_ex, t_tg, q_tscons, i3, il], by simp (config := { decide := true }) only [↓reduceIte, q_name, q_int, q_bool, q_bin, q_cmp, q_if, q_from, q_upto, q_subN, q_subC, q_subB, q_subS, q_list, q_tuple, q_comp, q_len, q_call, q_count, q_bname, q_bsub, q_btup, q_tnot, q_tbool, q_tcmp, q_tname, q_tcall, q_tsnA, q_tsnO, q_esnil, q_escons, q_itname, q_itsub, q_itrng, q_itrev, q_itzip, q_itenum, q_nil, q_ok, q_cons, q_asgName, q_asgList, q_asgMul, q_asgTup, q_asgSub, q_aug, q_augSub, q_for, q_while, q_ifs, q_ret, q_app, q_ext, q_freeze, n_name, n_tuple, n_list, n_bin, n_sub, n_call, n_const, n_slice, n_cmp, n_if, n_comp, List.flatMap_cons, List.flatMap_nil, List.append_nil, List.cons_append, List.nil_append, q_rho0, q_upd, q_fnL, q_compRho, updAll, q_tgN, q_tgT, q_asI, q_asL, Option.bind_some, Option.map_some, reduceCtorEq, ne_eq, not_false_eq_true, implies_true, and_self, if_true, if_false, Bool.false_eq_true, true_and, and_true, shD, t_st, t_b2, t_cm, t_ct, t_ifT, t_ifF, t_ls, t_tu, t_co, t_le, t_ca, t_cn, t_cd, t_seT, t_seF, q_cfN, q_cfT, decide_true, decide_false, t_no, t_nTT, t_nFF, t_nTF, t_nFT, t_tsAT, t_tsAF, t_tsOT, t_tsOF, t_it, t_zi, t_en, t_re, t_thN, t_thR, t_fin, t_siT, t_siF, t_rt, t_fo, t_as, t_al, t_am, t_at, t_su, t_au, t_ax, t_ay, t_ap, t_ex, t_tg, q_tscons, i4]⟩
    by_cases hlt : p.1 < q.1
    · have hm := tree_mono F hp hq hlt
      simp (config := { decide := true }) only [↓reduceIte, q_name, q_int, q_bool, q_bin, q_cmp, q_if, q_from, q_upto, q_subN, q_subC, q_subB, q_subS, q_list, q_tuple, q_comp, q_len, q_call, q_count, q_bname, q_bsub, q_btup, q_tnot, q_tbool, q_tcmp, q_tname, q_tcall, q_tsnA, q_tsnO, q_esnil, q_escons, q_itname, q_itsub, q_itrng, q_itrev, q_itzip, q_itenum, q_nil, q_ok, q_cons, q_asgName, q_asgList, q_asgMul, q_asgTup, q_asgSub, q_aug, q_augSub, q_for, q_while, q_ifs, q_ret, q_app, q_ext, q_freeze, n_name, n_tuple, n_list, n_bin, n_sub, n_call, n_const, n_slice, n_cmp, n_if, n_comp, List.flatMap_cons, List.flatMap_nil, List.append_nil, List.cons_append, List.nil_append, q_rho0, q_upd, q_fnL, q_compRho, updAll, q_tgN, q_tgT, q_asI, q_asL, Option.bind_some, Option.map_some, reduceCtorEq, ne_eq, not_false_eq_true, implies_true, and_self, if_true, if_false, Bool.false_eq_true, true_and, and_true, shD, t_st, t_b2, t_cm, t_ct, t_ifT, t_ifF, t_ls, t_tu, t_co, t_le, t_ca, t_cn, t_cd, t_seT, t_seF, q_cfN, q_cfT, decide_true, decide_false, t_no, t_nTT, t_nFF, t_nTF, t_nFT, t_tsAT, t_tsAF, t_tsOT, t_tsOF, t_it, t_zi, t_en, t_re, t_thN, t_thR, t_fin, t_siT, t_siF, t_rt, t_fo, t_as, t_al, t_am, t_at, t_su, t_au, t_ax, t_ay, t_ap, t_ex, t_tg, q_tscons, i3, idxP0, idxP1, behindInMarks, cmpD, isEq, isNe, isNi, cmpI, hlt, decide_true, e1, e2, hm, decide_false]
      exact keep
    · simp (config := { decide := true }) only [↓reduceIte, q_name, q_int, q_bool, q_bin, q_cmp, q_if, q_from, q_upto, q_subN, q_subC, q_subB, q_subS, q_list, q_tuple, q_comp, q_len, q_call, q_count, q_bname, q_bsub, q_btup, q_tnot, q_tbool, q_tcmp, q_tname, q_tcall, q_tsnA, q_tsnO, q_esnil, q_escons, q_itname, q_itsub, q_itrng, q_itrev, q_itzip, q_itenum, q_nil, q_ok, q_cons, q_asgName, q_asgList, q_asgMul, q_asgTup, q_asgSub, q_aug, q_augSub, q_for, q_while, q_ifs, q_ret, q_app, q_ext, q_freeze, n_name, n_tuple, n_list, n_bin, n_sub, n_call, n_const, n_slice, n_cmp, n_if, n_comp, List.flatMap_cons, List.flatMap_nil, List.append_nil, List.cons_append, List.nil_append, q_rho0, q_upd, q_fnL, q_compRho, updAll, q_tgN, q_tgT, q_asI, q_asL, Option.bind_some, Option.map_some, reduceCtorEq, ne_eq, not_false_eq_true, implies_true, and_self, if_true, if_false, Bool.false_eq_true, true_and, and_true, shD, t_st, t_b2, t_cm, t_ct, t_ifT, t_ifF, t_ls, t_tu, t_co, t_le, t_ca, t_cn, t_cd, t_seT, t_seF, q_cfN, q_cfT, decide_true, decide_false, t_no, t_nTT, t_nFF, t_nTF, t_nFT, t_tsAT, t_tsAF, t_tsOT, t_tsOF, t_it, t_zi, t_en, t_re, t_thN, t_thR, t_fin, t_siT, t_siF, t_rt, t_fo, t_as, t_al, t_am, t_at, t_su, t_au, t_ax, t_ay, t_ap, t_ex, t_tg, q_tscons, idxP0, behindInMarks, cmpD, isEq, isNe, isNi, cmpI, hlt, decide_false]
      exact keep
  · have : (zipD ((ordF cs).map pairD) (((ordF cs).map pairD).drop (Int.toNat 1))).length ≤ 7 := by
      rw [zipD_len]; simp; (first | lia | omega)
    (first | lia | omega)

/-- few live symbols: the answer -/
theorem law10s (G : Good cs) (h : LV cs ln ρ) (hf : (ordF cs).length < 2) : ∃ ρ', exe 300 Γ_law ρ (lawS 10) = some (.ret (.bool true), ρ') := by
  conv => enter [1, ρ']; lhs; arg 4; whnf
  have hl := G.len
  obtain ⟨i1, i2, i3, i4⟩ := h
  have hbt : (treeF cs).length ≤ big := by rw [treeF_len]; unfold big; (first | lia | omega)
  simp only [il] at i3
  match ho : ordF cs with
  | [] =>
    rw [ho] at i4
    simp only [List.map_nil] at i4
    simp (config := { decide := true }) only [↓reduceIte, q_name, q_int, q_bool, q_bin, q_cmp, q_if, q_from, q_upto, q_subN, q_subC, q_subB, q_subS, q_list, q_tuple, q_comp, q_len, q_call, q_count, q_bname, q_bsub, q_btup, q_tnot, q_tbool, q_tcmp, q_tname, q_tcall, q_tsnA, q_tsnO, q_esnil, q_escons, q_itname, q_itsub, q_itrng, q_itrev, q_itzip, q_itenum, q_nil, q_ok, q_cons, q_asgName, q_asgList, q_asgMul, q_asgTup, q_asgSub, q_aug, q_augSub, q_for, q_while, q_ifs, q_ret, q_app, q_ext, q_freeze, n_name, n_tuple, n_list, n_bin, n_sub, n_call, n_const, n_slice, n_cmp, n_if, n_comp, List.flatMap_cons, List.flatMap_nil, List.append_nil, List.cons_append, List.nil_append, q_rho0, q_upd, q_fnL, q_compRho, updAll, q_tgN, q_tgT, q_asI, q_asL, Option.bind_some, Option.map_some, reduceCtorEq, ne_eq, not_false_eq_true, implies_true, and_self, if_true, if_false, Bool.false_eq_true, true_and, and_true, shD, t_st, t_b2, t_cm, t_ct, t_ifT, t_ifF, t_ls, t_tu, t_co, t_le, t_ca, t_cn, t_cd, t_seT, t_seF, q_cfN, q_cfT, decide_true, decide_false, t_no, t_nTT, t_nFF, t_nTF, t_nFT, t_tsAT, t_tsAF, t_tsOT, t_tsOF, t_it, t_zi, t_en, t_re, t_thN, t_thR, t_fin, t_siT, t_siF, t_rt, t_fo, t_as, t_al, t_am, t_at, t_su, t_au, t_ax, t_ay, t_ap, t_ex, t_tg, q_tscons, Γ_law, i3, i4, φlen, List.length_nil, behindInMarks, cmpD, isEq, isNe, isNi, cmpI, binD, binI, binL, binR, isAdd, isMul, compGo, intsOf, List.length_cons]
    exact ⟨_, rfl⟩
  | [p] =>
    have hp := ordF_iff.mp (ho ▸ List.mem_cons_self : p ∈ ordF cs)
    have e1 := idxI (l := treeF cs) hp.2.1 (by rw [treeF_len]; exact hp.2.2.1) hbt
    rw [tree_one ho] at e1
    rw [ho] at i4
    simp only [List.map_cons, List.map_nil] at i4
    simp (config := { decide := true }) only [↓reduceIte, q_name, q_int, q_bool, q_bin, q_cmp, q_if, q_from, q_upto, q_subN, q_subC, q_subB, q_subS, q_list, q_tuple, q_comp, q_len, q_call, q_count, q_bname, q_bsub, q_btup, q_tnot, q_tbool, q_tcmp, q_tname, q_tcall, q_tsnA, q_tsnO, q_esnil, q_escons, q_itname, q_itsub, q_itrng, q_itrev, q_itzip, q_itenum, q_nil, q_ok, q_cons, q_asgName, q_asgList, q_asgMul, q_asgTup, q_asgSub, q_aug, q_augSub, q_for, q_while, q_ifs, q_ret, q_app, q_ext, q_freeze, n_name, n_tuple, n_list, n_bin, n_sub, n_call, n_const, n_slice, n_cmp, n_if, n_comp, List.flatMap_cons, List.flatMap_nil, List.append_nil, List.cons_append, List.nil_append, q_rho0, q_upd, q_fnL, q_compRho, updAll, q_tgN, q_tgT, q_asI, q_asL, Option.bind_some, Option.map_some, reduceCtorEq, ne_eq, not_false_eq_true, implies_true, and_self, if_true, if_false, Bool.false_eq_true, true_and, and_true, shD, t_st, t_b2, t_cm, t_ct, t_ifT, t_ifF, t_ls, t_tu, t_co, t_le, t_ca, t_cn, t_cd, t_seT, t_seF, q_cfN, q_cfT, decide_true, decide_false, t_no, t_nTT, t_nFF, t_nTF, t_nFT, t_tsAT, t_tsAF, t_tsOT, t_tsOF, t_it, t_zi, t_en, t_re, t_thN, t_thR, t_fin, t_siT, t_siF, t_rt, t_fo, t_as, t_al, t_am, t_at, t_su, t_au, t_ax, t_ay, t_ap, t_ex, t_tg, q_tscons, Γ_law, i3, i4, φlen, List.length_nil, List.length_cons, behindInMarks, cmpD, isEq, isNe, isNi, cmpI, binD, binI, binL, binR, isAdd, isMul]
    rw [comp_map (g := fun _ => .int 1) (fun d hd => ?_)]
    rotate_left
    · obtain rfl : d = pairD p := by simpa using hd
      simp (config := { decide := true }) only [↓reduceIte, q_name, q_int, q_bool, q_bin, q_cmp, q_if, q_from, q_upto, q_subN, q_subC, q_subB, q_subS, q_list, q_tuple, q_comp, q_len, q_call, q_count, q_bname, q_bsub, q_btup, q_tnot, q_tbool, q_tcmp, q_tname, q_tcall, q_tsnA, q_tsnO, q_esnil, q_escons, q_itname, q_itsub, q_itrng, q_itrev, q_itzip, q_itenum, q_nil, q_ok, q_cons, q_asgName, q_asgList, q_asgMul, q_asgTup, q_asgSub, q_aug, q_augSub, q_for, q_while, q_ifs, q_ret, q_app, q_ext, q_freeze, n_name, n_tuple, n_list, n_bin, n_sub, n_call, n_const, n_slice, n_cmp, n_if, n_comp, List.flatMap_cons, List.flatMap_nil, List.append_nil, List.cons_append, List.nil_append, q_rho0, q_upd, q_fnL, q_compRho, updAll, q_tgN, q_tgT, q_asI, q_asL, Option.bind_some, Option.map_some, reduceCtorEq, ne_eq, not_false_eq_true, implies_true, and_self, if_true, if_false, Bool.false_eq_true, true_and, and_true, shD, t_st, t_b2, t_cm, t_ct, t_ifT, t_ifF, t_ls, t_tu, t_co, t_le, t_ca, t_cn, t_cd, t_seT, t_seF, q_cfN, q_cfT, decide_true, decide_false, t_no, t_nTT, t_nFF, t_nTF, t_nFT, t_tsAT, t_tsAF, t_tsOT, t_tsOF, t_it, t_zi, t_en, t_re, t_thN, t_thR, t_fin, t_siT, t_siF, t_rt, t_fo, t_as, t_al, t_am, t_at, t_su, t_au, t_ax, t_ay, t_ap, t_ex, t_tg, q_tscons, i3, pairD, e1]
    · simp (config := { decide := true }) only [↓reduceIte, q_name, q_int, q_bool, q_bin, q_cmp, q_if, q_from, q_upto, q_subN, q_subC, q_subB, q_subS, q_list, q_tuple, q_comp, q_len, q_call, q_count, q_bname, q_bsub, q_btup, q_tnot, q_tbool, q_tcmp, q_tname, q_tcall, q_tsnA, q_tsnO, q_esnil, q_escons, q_itname, q_itsub, q_itrng, q_itrev, q_itzip, q_itenum, q_nil, q_ok, q_cons, q_asgName, q_asgList, q_asgMul, q_asgTup, q_asgSub, q_aug, q_augSub, q_for, q_while, q_ifs, q_ret, q_app, q_ext, q_freeze, n_name, n_tuple, n_list, n_bin, n_sub, n_call, n_const, n_slice, n_cmp, n_if, n_comp, List.flatMap_cons, List.flatMap_nil, List.append_nil, List.cons_append, List.nil_append, q_rho0, q_upd, q_fnL, q_compRho, updAll, q_tgN, q_tgT, q_asI, q_asL, Option.bind_some, Option.map_some, reduceCtorEq, ne_eq, not_false_eq_true, implies_true, and_self, if_true, if_false, Bool.false_eq_true, true_and, and_true, shD, t_st, t_b2, t_cm, t_ct, t_ifT, t_ifF, t_ls, t_tu, t_co, t_le, t_ca, t_cn, t_cd, t_seT, t_seF, q_cfN, q_cfT, decide_true, decide_false, t_no, t_nTT, t_nFF, t_nTF, t_nFT, t_tsAT, t_tsAF, t_tsOT, t_tsOF, t_it, t_zi, t_en, t_re, t_thN, t_thR, t_fin, t_siT, t_siF, t_rt, t_fo, t_as, t_al, t_am, t_at, t_su, t_au, t_ax, t_ay, t_ap, t_ex, t_tg, q_tscons, Γ_law, List.map_cons, List.map_nil, i4, φlen, List.length_cons, List.length_nil, binD, binI, binL, binR, isAdd, isMul, cmpD, isEq, isNe, isNi, intsOf]
      exact ⟨_, rfl⟩
  | p :: q :: r => rw [ho] at hf; simp at hf; (first | lia | omega)

theorem law10 (G : Good cs) (h : LV cs ln ρ) (h2 : 2 ≤ (ordF cs).length) : Ok (exe 300 Γ_law ρ (lawS 10)) (LV cs ln) := by
  conv => arg 1; arg 4; whnf
  have hl := G.len
  have hol := ordF_len cs
  have hob : (ordF cs).length ≤ big := by unfold big; (first | lia | omega)
  have hh := h
  obtain ⟨i1, i2, i3, i4⟩ := h
  have c : ¬ ((ordF cs).length : Int) < 2 := by first | lia | omega
  simp (config := { decide := true }) only [↓reduceIte, q_name, q_int, q_bool, q_bin, q_cmp, q_if, q_from, q_upto, q_subN, q_subC, q_subB, q_subS, q_list, q_tuple, q_comp, q_len, q_call, q_count, q_bname, q_bsub, q_btup, q_tnot, q_tbool, q_tcmp, q_tname, q_tcall, q_tsnA, q_tsnO, q_esnil, q_escons, q_itname, q_itsub, q_itrng, q_itrev, q_itzip, q_itenum, q_nil, q_ok, q_cons, q_asgName, q_asgList, q_asgMul, q_asgTup, q_asgSub, q_aug, q_augSub, q_for, q_while, q_ifs, q_ret, q_app, q_ext, q_freeze, n_name, n_tuple, n_list, n_bin, n_sub, n_call, n_const, n_slice, n_cmp, n_if, n_comp, List.flatMap_cons, List.flatMap_nil, List.append_nil, List.cons_append, List.nil_append, q_rho0, q_upd, q_fnL, q_compRho, updAll, q_tgN, q_tgT, q_asI, q_asL, Option.bind_some, Option.map_some, reduceCtorEq, ne_eq, not_false_eq_true, implies_true, and_self, if_true, if_false, Bool.false_eq_true, true_and, and_true, shD, t_st, t_b2, t_cm, t_ct, t_ifT, t_ifF, t_ls, t_tu, t_co, t_le, t_ca, t_cn, t_cd, t_seT, t_seF, q_cfN, q_cfT, decide_true, decide_false, t_no, t_nTT, t_nFF, t_nTF, t_nFT, t_tsAT, t_tsAF, t_tsOT, t_tsOF, t_it, t_zi, t_en, t_re, t_thN, t_thR, t_fin, t_siT, t_siF, t_rt, t_fo, t_as, t_al, t_am, t_at, t_su, t_au, t_ax, t_ay, t_ap, t_ex, t_tg, q_tscons, Γ_law, i4, φlen, List.length_map, hob, behindInMarks, cmpD, isEq, isNe, isNi, cmpI, c, decide_false]
  exact hh

theorem costs_eval (G : Good cs) (h2 : 2 ≤ (ordF cs).length) {n : Nat} (h1 : 1 ≤ n) (hn : n ≤ 20) (hf : (ordF cs).length ≤ 2 ^ n) (hnz : ∀ i, i < cs.length → 0 < cs.getD i 0 → (codeF cs n).getD i 0 ≠ 0) :
    φ_code_lengths [il cs, .int n] = some (il (codeF cs n)) ∧ φ_cost [il cs, il (codeF cs n)] = some (.int (costF cs (codeF cs n))) ∧ φ__law_cost [il cs] = some (.int (lawF cs)) := by
  have hl := G.len
  refine ⟨φ_code_eq cs n (by first | lia | omega) h2 h1 hn hf, φ_cost_eq cs _ (by first | lia | omega) ?_ hnz fun i _ => by have := G.at i; (first | lia | omega), ?_⟩
  · unfold codeF
    rw [code_aSeq]
    have : ∀ (as : List Nat) (L : List Int), (as.foldl (addO (ordF cs)) L).length = L.length := by
      intro as
      induction as with
      | nil => intro L; rfl
      | cons a as ih => intro L; rw [List.foldl_cons, ih, addO_len]
    rw [this]; simp
  · rw [law_cost]
    exact law_ok (by first | lia | omega) fun i => by have := G.at i; (first | lia | omega)

theorem max_eval (G : Good cs) (h2 : 2 ≤ (ordF cs).length) (hd : 1 ≤ depthM cs) : φmax [.lst ((treeF cs).map .int)] = some (.int (depthM cs)) := by
  simp only [φmax, intsOf_map, Option.bind_some]
  have hne : treeF cs ≠ [] := fun q => by
    have := treeF_len cs
    rw [q] at this
    have := ordF_len cs
    simp at *; (first | lia | omega)
  rw [if_neg hne, tree_max' G.facts h2 hd]

theorem law11 (G : Good cs) (h : LV cs ln ρ) (h2 : 2 ≤ (ordF cs).length) : Ok (exe 300 Γ_law ρ (lawS 11)) (LV cs ln) := by
  conv => arg 1; arg 4; whnf
  have hl := G.len
  have W := G.two h2
  have hh := h
  obtain ⟨i1, i2, i3, i4⟩ := h
  have hfull := φ_is_full_eq (treeF cs) (by rw [treeF_len]; (first | lia | omega)) (by rw [tree_max h2]; have := W.m20; (first | lia | omega))
  rw [W.room] at hfull
  have hmax := max_eval G h2 W.m1
  obtain ⟨e1, e2, e3⟩ := costs_eval G h2 W.m1 W.m20 W.fit W.nz
  rw [W.cost] at e2
  simp only [il] at i1 i3 hfull e1 e2 e3
  simp (config := { decide := true }) only [↓reduceIte, q_name, q_int, q_bool, q_bin, q_cmp, q_if, q_from, q_upto, q_subN, q_subC, q_subB, q_subS, q_list, q_tuple, q_comp, q_len, q_call, q_count, q_bname, q_bsub, q_btup, q_tnot, q_tbool, q_tcmp, q_tname, q_tcall, q_tsnA, q_tsnO, q_esnil, q_escons, q_itname, q_itsub, q_itrng, q_itrev, q_itzip, q_itenum, q_nil, q_ok, q_cons, q_asgName, q_asgList, q_asgMul, q_asgTup, q_asgSub, q_aug, q_augSub, q_for, q_while, q_ifs, q_ret, q_app, q_ext, q_freeze, n_name, n_tuple, n_list, n_bin, n_sub, n_call, n_const, n_slice, n_cmp, n_if, n_comp, List.flatMap_cons, List.flatMap_nil, List.append_nil, List.cons_append, List.nil_append, q_rho0, q_upd, q_fnL, q_compRho, updAll, q_tgN, q_tgT, q_asI, q_asL, Option.bind_some, Option.map_some, reduceCtorEq, ne_eq, not_false_eq_true, implies_true, and_self, if_true, if_false, Bool.false_eq_true, true_and, and_true, shD, t_st, t_b2, t_cm, t_ct, t_ifT, t_ifF, t_ls, t_tu, t_co, t_le, t_ca, t_cn, t_cd, t_seT, t_seF, q_cfN, q_cfT, decide_true, decide_false, t_no, t_nTT, t_nFF, t_nTF, t_nFT, t_tsAT, t_tsAF, t_tsOT, t_tsOF, t_it, t_zi, t_en, t_re, t_thN, t_thR, t_fin, t_siT, t_siF, t_rt, t_fo, t_as, t_al, t_am, t_at, t_su, t_au, t_ax, t_ay, t_ap, t_ex, t_tg, q_tscons, Γ_law, i1, i3, hfull, truD, Bool.not_true, hmax, e1, e2, e3, behindInMarks, cmpD, isEq, isNe, isNi, cmpI, decide_true]
  exact hh
end
end Mine
end

section
open PySem PySem.W PyProof.Rows PySem.Calls PySem.SeqAt
set_option linter.all false
set_option maxRecDepth 100000
set_option maxHeartbeats 4000000
namespace Mine
section
variable {cs : List Int} {ln : List D} {ρ : Rho}

noncomputable def tryB : List Stmt := match lawS 12 with
  | .Try b _ _ _ _ => b
  | _ => []
theorem law12 (G : Good cs) (h : LV cs ln ρ) (h2 : 2 ≤ (ordF cs).length) (hm : 2 ≤ depthM cs) (hf : (ordF cs).length ≤ 2 ^ (depthM cs - 1)) : Ok (run 300 Γ_law ρ tryB) (LV cs ln) := by
  conv => arg 1; arg 4; whnf
  have hl := G.len
  have W := G.two h2
  have hh := h
  obtain ⟨i1, i2, i3, i4⟩ := h
  have hmax := max_eval G h2 W.m1
  obtain ⟨w1, w2⟩ := W.less hm hf
  obtain ⟨e1, e2, e3⟩ := costs_eval G h2 (n := depthM cs - 1) (by first | lia | omega) (by have := W.m20; (first | lia | omega)) hf w2
  have hsub : ((depthM cs : Int) - 1) = ((depthM cs - 1 : Nat) : Int) := by first | lia | omega
  have hn : ¬ costF cs (codeF cs (depthM cs - 1)) < lawF cs := by first | lia | omega
  simp only [il] at i1 i3 e1 e2 e3
  simp (config := { decide := true }) only [↓reduceIte, q_name, q_int, q_bool, q_bin, q_cmp, q_if, q_from, q_upto, q_subN, q_subC, q_subB, q_subS, q_list, q_tuple, q_comp, q_len, q_call, q_count, q_bname, q_bsub, q_btup, q_tnot, q_tbool, q_tcmp, q_tname, q_tcall, q_tsnA, q_tsnO, q_esnil, q_escons, q_itname, q_itsub, q_itrng, q_itrev, q_itzip, q_itenum, q_nil, q_ok, q_cons, q_asgName, q_asgList, q_asgMul, q_asgTup, q_asgSub, q_aug, q_augSub, q_for, q_while, q_ifs, q_ret, q_app, q_ext, q_freeze, n_name, n_tuple, n_list, n_bin, n_sub, n_call, n_const, n_slice, n_cmp, n_if, n_comp, List.flatMap_cons, List.flatMap_nil, List.append_nil, List.cons_append, List.nil_append, q_rho0, q_upd, q_fnL, q_compRho, updAll, q_tgN, q_tgT, q_asI, q_asL, Option.bind_some, Option.map_some, reduceCtorEq, ne_eq, not_false_eq_true, implies_true, and_self, if_true, if_false, Bool.false_eq_true, true_and, and_true, shD, t_st, t_b2, t_cm, t_ct, t_ifT, t_ifF, t_ls, t_tu, t_co, t_le, t_ca, t_cn, t_cd, t_seT, t_seF, q_cfN, q_cfT, decide_true, decide_false, t_no, t_nTT, t_nFF, t_nTF, t_nFT, t_tsAT, t_tsAF, t_tsOT, t_tsOF, t_it, t_zi, t_en, t_re, t_thN, t_thR, t_fin, t_siT, t_siF, t_rt, t_fo, t_as, t_al, t_am, t_at, t_su, t_au, t_ax, t_ay, t_ap, t_ex, t_tg, q_tscons, Γ_law, i1, i3, truD, hmax, binD, binI, binL, binR, isAdd, isMul, hsub, e1, e2, e3, behindInMarks, cmpD, isEq, isNe, isNi, cmpI, hn, decide_false]
  exact hh

/-- the pair that is given to low and high -/
noncomputable def pairE : Expr := match lawS 13 with
  | .Assign _ v _ => v
  | _ => .Tuple [] 0 ⟨0, 0, 0, 0⟩
theorem law13 (G : Good cs) (h : LV cs ln ρ) {p q : IP} {r : List IP} (ho : ordF cs = p :: q :: r) : evE 300 Γ_law ρ pairE = some (.tup [.int p.2, .int q.2]) := by
  conv => lhs; arg 4; whnf
  have hl := G.len
  have hol := ordF_len cs
  obtain ⟨i1, i2, i3, i4⟩ := h
  rw [ho] at i4 hol
  simp only [List.map_cons, List.length_cons] at i4 hol
  have hb : r.length + 1 + 1 ≤ big := by unfold big; (first | lia | omega)
  have e0 : idxD (.lst (pairD p :: pairD q :: r.map pairD)) (.int 0) = some (pairD p) := by
    simp only [idxD, List.length_cons, List.length_map]
    rw [if_pos ⟨by first | lia | omega, hb⟩]; rfl
  have e1 : idxD (.lst (pairD p :: pairD q :: r.map pairD)) (.int 1) = some (pairD q) := by
    simp only [idxD, List.length_cons, List.length_map]
    rw [if_pos ⟨by first | lia | omega, hb⟩]; rfl
  simp (config := { decide := true }) only [↓reduceIte, q_name, q_int, q_bool, q_bin, q_cmp, q_if, q_from, q_upto, q_subN, q_subC, q_subB, q_subS, q_list, q_tuple, q_comp, q_len, q_call, q_count, q_bname, q_bsub, q_btup, q_tnot, q_tbool, q_tcmp, q_tname, q_tcall, q_tsnA, q_tsnO, q_esnil, q_escons, q_itname, q_itsub, q_itrng, q_itrev, q_itzip, q_itenum, q_nil, q_ok, q_cons, q_asgName, q_asgList, q_asgMul, q_asgTup, q_asgSub, q_aug, q_augSub, q_for, q_while, q_ifs, q_ret, q_app, q_ext, q_freeze, n_name, n_tuple, n_list, n_bin, n_sub, n_call, n_const, n_slice, n_cmp, n_if, n_comp, List.flatMap_cons, List.flatMap_nil, List.append_nil, List.cons_append, List.nil_append, q_rho0, q_upd, q_fnL, q_compRho, updAll, q_tgN, q_tgT, q_asI, q_asL, Option.bind_some, Option.map_some, reduceCtorEq, ne_eq, not_false_eq_true, implies_true, and_self, if_true, if_false, Bool.false_eq_true, true_and, and_true, shD, t_st, t_b2, t_cm, t_ct, t_ifT, t_ifF, t_ls, t_tu, t_co, t_le, t_ca, t_cn, t_cd, t_seT, t_seF, q_cfN, q_cfT, decide_true, decide_false, t_no, t_nTT, t_nFF, t_nTF, t_nFT, t_tsAT, t_tsAF, t_tsOT, t_tsOF, t_it, t_zi, t_en, t_re, t_thN, t_thR, t_fin, t_siT, t_siF, t_rt, t_fo, t_as, t_al, t_am, t_at, t_su, t_au, t_ax, t_ay, t_ap, t_ex, t_tg, q_tscons, Γ_law, i4, e0, e1, idxP1, List.length_cons, List.length_nil]

structure LL (cs : List Int) (lo hi : Int) (ρ : Rho) : Prop where
  c : ρ "counts" = some (.st (il cs))
  live : ρ "live" = some (.st (.lst ((ordF cs).map pairD)))
  lo : ρ "low" = some (.st (.int lo))
  hi : ρ "high" = some (.st (.int hi))
structure LB (cs : List Int) (lo hi b : Int) (ρ : Rho) : Prop where
  c : ρ "counts" = some (.st (il cs))
  live : ρ "live" = some (.st (.lst ((ordF cs).map pairD)))
  lo : ρ "low" = some (.st (.int lo))
  hi : ρ "high" = some (.st (.int hi))
  bo : ρ "both" = some (.st (.int b))

theorem law14 (G : Good cs) {p q : IP} {r : List IP} (ho : ordF cs = p :: q :: r) (h : LL cs p.2 q.2 ρ) : Ok (exe 300 Γ_law ρ (lawS 14)) (LB cs p.2 q.2 (p.1 + q.1)) := by
  conv => arg 1; arg 4; whnf
  have hl := G.len
  have hb : cs.length ≤ big := by unfold big; (first | lia | omega)
  have hp := ordF_iff.mp (ho ▸ List.mem_cons_self : p ∈ ordF cs)
  have hq := ordF_iff.mp (ho ▸ List.mem_cons_of_mem _ List.mem_cons_self : q ∈ ordF cs)
  obtain ⟨i1, i2, i3, i4⟩ := h
  simp only [il] at i1
  have e1 := idxI hp.2.1 hp.2.2.1 hb
  have e2 := idxI hq.2.1 hq.2.2.1 hb
  rw [← hp.2.2.2] at e1
  rw [← hq.2.2.2] at e2
  simp (config := { decide := true }) only [↓reduceIte, q_name, q_int, q_bool, q_bin, q_cmp, q_if, q_from, q_upto, q_subN, q_subC, q_subB, q_subS, q_list, q_tuple, q_comp, q_len, q_call, q_count, q_bname, q_bsub, q_btup, q_tnot, q_tbool, q_tcmp, q_tname, q_tcall, q_tsnA, q_tsnO, q_esnil, q_escons, q_itname, q_itsub, q_itrng, q_itrev, q_itzip, q_itenum, q_nil, q_ok, q_cons, q_asgName, q_asgList, q_asgMul, q_asgTup, q_asgSub, q_aug, q_augSub, q_for, q_while, q_ifs, q_ret, q_app, q_ext, q_freeze, n_name, n_tuple, n_list, n_bin, n_sub, n_call, n_const, n_slice, n_cmp, n_if, n_comp, List.flatMap_cons, List.flatMap_nil, List.append_nil, List.cons_append, List.nil_append, q_rho0, q_upd, q_fnL, q_compRho, updAll, q_tgN, q_tgT, q_asI, q_asL, Option.bind_some, Option.map_some, reduceCtorEq, ne_eq, not_false_eq_true, implies_true, and_self, if_true, if_false, Bool.false_eq_true, true_and, and_true, shD, t_st, t_b2, t_cm, t_ct, t_ifT, t_ifF, t_ls, t_tu, t_co, t_le, t_ca, t_cn, t_cd, t_seT, t_seF, q_cfN, q_cfT, decide_true, decide_false, t_no, t_nTT, t_nFF, t_nTF, t_nFT, t_tsAT, t_tsAF, t_tsOT, t_tsOF, t_it, t_zi, t_en, t_re, t_thN, t_thR, t_fin, t_siT, t_siF, t_rt, t_fo, t_as, t_al, t_am, t_at, t_su, t_au, t_ax, t_ay, t_ap, t_ex, t_tg, q_tscons, Γ_law, i1, i3, i4, e1, e2, binD, binI, binL, binR, isAdd, isMul]
  exact ⟨by simp (config := { decide := true }) only [↓reduceIte, q_name, q_int, q_bool, q_bin, q_cmp, q_if, q_from, q_upto, q_subN, q_subC, q_subB, q_subS, q_list, q_tuple, q_comp, q_len, q_call, q_count, q_bname, q_bsub, q_btup, q_tnot, q_tbool, q_tcmp, q_tname, q_tcall, q_tsnA, q_tsnO, q_esnil, q_escons, q_itname, q_itsub, q_itrng, q_itrev, q_itzip, q_itenum, q_nil, q_ok, q_cons, q_asgName, q_asgList, q_asgMul, q_asgTup, q_asgSub, q_aug, q_augSub, q_for, q_while, q_ifs, q_ret, q_app, q_ext, q_freeze, n_name, n_tuple, n_list, n_bin, n_sub, n_call, n_const, n_slice, n_cmp, n_if, n_comp, List.flatMap_cons, List.flatMap_nil, List.append_nil, List.cons_append, List.nil_append, q_rho0, q_upd, q_fnL, q_compRho, updAll, q_tgN, q_tgT, q_asI, q_asL, Option.bind_some, Option.map_some, reduceCtorEq, ne_eq, not_false_eq_true, implies_true, and_self, if_true, if_false, Bool.false_eq_true, true_and, and_true, shD, t_st, t_b2, t_cm, t_ct, t_ifT, t_ifF, t_ls, t_tu, t_co, t_le, t_ca, t_cn, t_cd, t_seT, t_seF, q_cfN, q_cfT, decide_true, decide_false, t_no, t_nTT, t_nFF, t_nTF, t_nFT, t_tsAT, t_tsAF, t_tsOT, t_tsOF, t_it, t_zi, t_en, t_re, t_thN, t_thR, t_fin, t_siT, t_siF, t_rt, t_fo, t_as, t_al, t_am, t_at, t_su, t_au, t_ax, t_ay, t_ap, t_ex, t_tg, q_tscons, i1, il], by simp (config := { decide := true }) only [↓reduceIte, q_name, q_int, q_bool, q_bin, q_cmp, q_if, q_from, q_upto, q_subN, q_subC, q_subB, q_subS, q_list, q_tuple, q_comp, q_len, q_call, q_count, q_bname, q_bsub, q_btup, q_tnot, q_tbool, q_tcmp, q_tname, q_tcall, q_tsnA, q_tsnO, q_esnil, q_escons, q_itname, q_itsub, q_itrng, q_itrev, q_itzip, q_itenum, q_nil, q_ok, q_cons, q_asgName, q_asgList, q_asgMul, q_asgTup, q_asgSub, q_aug, q_augSub, q_for, q_while, q_ifs, q_ret, q_app, q_ext, q_freeze, n_name, n_tuple, n_list, n_bin, n_sub, n_call, n_const, n_slice, n_cmp, n_if, n_comp, List.flatMap_cons, List.flatMap_nil, List.append_nil, List.cons_append, List.nil_append, q_rho0, q_upd, q_fnL, q_compRho, updAll, q_tgN, q_tgT, q_asI, q_asL, Option.bind_some, Option.map_some, reduceCtorEq, ne_eq, not_false_eq_true, implies_true, and_self, if_true, if_false, Bool.false_eq_true, true_and, and_true, shD, t_st, t_b2, t_cm, t_ct, t_ifT, t_ifF, t_ls, t_tu, t_co, t_le, t_ca, t_cn, t_cd, t_seT, t_seF, q_cfN, q_cfT, decide_true, decide_false, t_no, t_nTT, t_nFF, t_nTF, t_nFT, t_tsAT, t_tsAF, t_tsOT, t_tsOF, t_it, t_zi, t_en, t_re, t_thN, t_thR, t_fin, t_siT, t_siF, t_rt, t_fo, t_as, t_al, t_am, t_at, t_su, t_au, t_ax, t_ay, t_ap, t_ex, t_tg, q_tscons, i2], by simp (config := { decide := true }) only [↓reduceIte, q_name, q_int, q_bool, q_bin, q_cmp, q_if, q_from, q_upto, q_subN, q_subC, q_subB, q_subS, q_list, q_tuple, q_comp, q_len, q_call, q_count, q_bname, q_bsub, q_btup, q_tnot, q_tbool, q_tcmp, q_tname, q_tcall, q_tsnA, q_tsnO, q_esnil, q_escons, q_itname, q_itsub, q_itrng, q_itrev, q_itzip, q_itenum, q_nil, q_ok, q_cons, q_asgName, q_asgList, q_asgMul, q_asgTup, q_asgSub, q_aug, q_augSub, q_for, q_while, q_ifs, q_ret, q_app, q_ext, q_freeze, n_name, n_tuple, n_list, n_bin, n_sub, n_call, n_const, n_slice, n_cmp, n_if, n_comp, List.flatMap_cons, List.flatMap_nil, List.append_nil, List.cons_append, List.nil_append, q_rho0, q_upd, q_fnL, q_compRho, updAll, q_tgN, q_tgT, q_asI, q_asL, Option.bind_some, Option.map_some, reduceCtorEq, ne_eq, not_false_eq_true, implies_true, and_self, if_true, if_false, Bool.false_eq_true, true_and, and_true, shD, t_st, t_b2, t_cm, t_ct, t_ifT, t_ifF, t_ls, t_tu, t_co, t_le, t_ca, t_cn, t_cd, t_seT, t_seF, q_cfN, q_cfT, decide_true, decide_false, t_no, t_nTT, t_nFF, t_nTF, t_nFT, t_tsAT, t_tsAF, t_tsOT, t_tsOF, t_it, t_zi, t_en, t_re, t_thN, t_thR, t_fin, t_siT, t_siF, t_rt, t_fo, t_as, t_al, t_am, t_at, t_su, t_au, t_ax, t_ay, t_ap, t_ex, t_tg, q_tscons, i3], by simp (config := { decide := true }) only [↓reduceIte, q_name, q_int, q_bool, q_bin, q_cmp, q_if, q_from, q_upto, q_subN, q_subC, q_subB, q_subS, q_list, q_tuple, q_comp, q_len, q_call, q_count, q_bname, q_bsub, q_btup, q_tnot, q_tbool, q_tcmp, q_tname, q_tcall, q_tsnA, q_tsnO, q_esnil, q_escons, q_itname, q_itsub, q_itrng, q_itrev, q_itzip, q_itenum, q_nil, q_ok, q_cons, q_asgName, q_asgList, q_asgMul, q_asgTup, q_asgSub, q_aug, q_augSub, q_for, q_while, q_ifs, q_ret, q_app, q_ext, q_freeze, n_name, n_tuple, n_list, n_bin, n_sub, n_call, n_const, n_slice, n_cmp, n_if, n_comp, List.flatMap_cons, List.flatMap_nil, List.append_nil, List.cons_append, List.nil_append, q_rho0, q_upd, q_fnL, q_compRho, updAll, q_tgN, q_tgT, q_asI, q_asL, Option.bind_some, Option.map_some, reduceCtorEq, ne_eq, not_false_eq_true, implies_true, and_self, if_true, if_false, Bool.false_eq_true, true_and, and_true, shD, t_st, t_b2, t_cm, t_ct, t_ifT, t_ifF, t_ls, t_tu, t_co, t_le, t_ca, t_cn, t_cd, t_seT, t_seF, q_cfN, q_cfT, decide_true, decide_false, t_no, t_nTT, t_nFF, t_nTF, t_nFT, t_tsAT, t_tsAF, t_tsOT, t_tsOF, t_it, t_zi, t_en, t_re, t_thN, t_thR, t_fin, t_siT, t_siF, t_rt, t_fo, t_as, t_al, t_am, t_at, t_su, t_au, t_ax, t_ay, t_ap, t_ex, t_tg, q_tscons, i4], by simp (config := { decide := true }) only [↓reduceIte, q_name, q_int, q_bool, q_bin, q_cmp, q_if, q_from, q_upto, q_subN, q_subC, q_subB, q_subS, q_list, q_tuple, q_comp, q_len, q_call, q_count, q_bname, q_bsub, q_btup, q_tnot, q_tbool, q_tcmp, q_tname, q_tcall, q_tsnA, q_tsnO, q_esnil, q_escons, q_itname, q_itsub, q_itrng, q_itrev, q_itzip, q_itenum, q_nil, q_ok, q_cons, q_asgName, q_asgList, q_asgMul, q_asgTup, q_asgSub, q_aug, q_augSub, q_for, q_while, q_ifs, q_ret, q_app, q_ext, q_freeze, n_name, n_tuple, n_list, n_bin, n_sub, n_call, n_const, n_slice, n_cmp, n_if, n_comp, List.flatMap_cons, List.flatMap_nil, List.append_nil, List.cons_append, List.nil_append, q_rho0, q_upd, q_fnL, q_compRho, updAll, q_tgN, q_tgT, q_asI, q_asL, Option.bind_some, Option.map_some, reduceCtorEq, ne_eq, not_false_eq_true, implies_true, and_self, if_true, if_false, Bool.false_eq_true, true_and, and_true, shD, t_st, t_b2, t_cm, t_ct, t_ifT, t_ifF, t_ls, t_tu, t_co, t_le, t_ca, t_cn, t_cd, t_seT, t_seF, q_cfN, q_cfT, decide_true, decide_false, t_no, t_nTT, t_nFF, t_nTF, t_nFT, t_tsAT, t_tsAF, t_tsOT, t_tsOF, t_it, t_zi, t_en, t_re, t_thN, t_thR, t_fin, t_siT, t_siF, t_rt, t_fo, t_as, t_al, t_am, t_at, t_su, t_au, t_ax, t_ay, t_ap, t_ex, t_tg, q_tscons]⟩

structure LEq (cs : List Int) (lo hi b : Int) (ρ : Rho) : Prop where
  c : ρ "counts" = some (.st (il cs))
  live : ρ "live" = some (.st (.lst ((ordF cs).map pairD)))
  bo : ρ "both" = some (.st (.int b))
  l : ρ "less" = some (.st (il (restF cs lo hi ++ [b])))

theorem enum_map (l : List Int) : enumD (l.map .int) = (List.range l.length).map fun (i : Nat) => .tup [.int i, .int (l.getD i 0)] := by
  unfold enumD
  refine List.ext_getElem? fun i => ?_
  by_cases h : i < l.length
  · have h1 : (zipD (rangeD 0 1 (l.map D.int).length) (l.map D.int))[i]? = some (.tup [.int i, .int (l.getD i 0)]) := by
      have hz : i < (zipD (rangeD 0 1 (l.map D.int).length) (l.map D.int)).length := by rw [zipD_len]; simp [rangeD, h]
      obtain ⟨a, b, e1, e2, e3⟩ := zipD_get (rangeD 0 1 (l.map D.int).length) (l.map D.int) i _ (List.getElem?_eq_getElem hz)
      rw [List.getElem?_eq_getElem hz, e3]
      rw [get_map h] at e2
      have ea : a = .int i := by
        simp only [rangeD, List.length_map, List.getElem?_map, List.getElem?_range h, Option.map_some, Option.some.injEq] at e1
        rw [← e1, show (0 + (i : Int) * 1) = (i : Int) by first | lia | omega]
      cases e2
      rw [ea]
    rw [h1]
    simp [h]
  · rw [List.getElem?_eq_none (by rw [zipD_len]; simp [rangeD]; (first | lia | omega)), List.getElem?_eq_none (by simp; (first | lia | omega))]

theorem law15 (G : Good cs) {lo hi b : Int} (h : LB cs lo hi b ρ) : Ok (exe 300 Γ_law ρ (lawS 15)) (LEq cs lo hi b) := by
  conv => arg 1; arg 4; whnf
  have hl := G.len
  have hb : cs.length ≤ big := by unfold big; (first | lia | omega)
  have h40 : cs.length < 2 ^ 40 := by first | lia | omega
  obtain ⟨i1, i2, i3, i4, i5⟩ := h
  simp only [il] at i1
  have hel : (List.map (fun (i : Nat) => D.tup [.int i, .int (cs.getD i 0)]) (List.range cs.length)).length ≤ big := by simpa using hb
  simp (config := { decide := true }) only [↓reduceIte, q_name, q_int, q_bool, q_bin, q_cmp, q_if, q_from, q_upto, q_subN, q_subC, q_subB, q_subS, q_list, q_tuple, q_comp, q_len, q_call, q_count, q_bname, q_bsub, q_btup, q_tnot, q_tbool, q_tcmp, q_tname, q_tcall, q_tsnA, q_tsnO, q_esnil, q_escons, q_itname, q_itsub, q_itrng, q_itrev, q_itzip, q_itenum, q_nil, q_ok, q_cons, q_asgName, q_asgList, q_asgMul, q_asgTup, q_asgSub, q_aug, q_augSub, q_for, q_while, q_ifs, q_ret, q_app, q_ext, q_freeze, n_name, n_tuple, n_list, n_bin, n_sub, n_call, n_const, n_slice, n_cmp, n_if, n_comp, List.flatMap_cons, List.flatMap_nil, List.append_nil, List.cons_append, List.nil_append, q_rho0, q_upd, q_fnL, q_compRho, updAll, q_tgN, q_tgT, q_asI, q_asL, Option.bind_some, Option.map_some, reduceCtorEq, ne_eq, not_false_eq_true, implies_true, and_self, if_true, if_false, Bool.false_eq_true, true_and, and_true, shD, t_st, t_b2, t_cm, t_ct, t_ifT, t_ifF, t_ls, t_tu, t_co, t_le, t_ca, t_cn, t_cd, t_seT, t_seF, q_cfN, q_cfT, decide_true, decide_false, t_no, t_nTT, t_nFF, t_nTF, t_nFT, t_tsAT, t_tsAF, t_tsOT, t_tsOF, t_it, t_zi, t_en, t_re, t_thN, t_thR, t_fin, t_siT, t_siF, t_rt, t_fo, t_as, t_al, t_am, t_at, t_su, t_au, t_ax, t_ay, t_ap, t_ex, t_tg, q_tscons, Γ_law, i1, List.length_map, h40, enum_map, List.length_range, hb]
  rw [comp_eq (g := fun d => match d with | .tup [.int i, x] => if i ≠ lo ∧ i ≠ hi then some x else none | _ => none) (fun d hd => ?_)]
  rotate_left
  · obtain ⟨i, hi2, rfl⟩ := List.mem_map.mp hd
    by_cases q1 : (i : Int) = lo
    · have c : ¬ ((i : Int) ≠ lo ∧ (i : Int) ≠ hi) := fun q => q.1 q1
      simp (config := { decide := true }) only [↓reduceIte, q_name, q_int, q_bool, q_bin, q_cmp, q_if, q_from, q_upto, q_subN, q_subC, q_subB, q_subS, q_list, q_tuple, q_comp, q_len, q_call, q_count, q_bname, q_bsub, q_btup, q_tnot, q_tbool, q_tcmp, q_tname, q_tcall, q_tsnA, q_tsnO, q_esnil, q_escons, q_itname, q_itsub, q_itrng, q_itrev, q_itzip, q_itenum, q_nil, q_ok, q_cons, q_asgName, q_asgList, q_asgMul, q_asgTup, q_asgSub, q_aug, q_augSub, q_for, q_while, q_ifs, q_ret, q_app, q_ext, q_freeze, n_name, n_tuple, n_list, n_bin, n_sub, n_call, n_const, n_slice, n_cmp, n_if, n_comp, List.flatMap_cons, List.flatMap_nil, List.append_nil, List.cons_append, List.nil_append, q_rho0, q_upd, q_fnL, q_compRho, updAll, q_tgN, q_tgT, q_asI, q_asL, Option.bind_some, Option.map_some, reduceCtorEq, ne_eq, not_false_eq_true, implies_true, and_self, if_true, if_false, Bool.false_eq_true, true_and, and_true, shD, t_st, t_b2, t_cm, t_ct, t_ifT, t_ifF, t_ls, t_tu, t_co, t_le, t_ca, t_cn, t_cd, t_seT, t_seF, q_cfN, q_cfT, decide_true, decide_false, t_no, t_nTT, t_nFF, t_nTF, t_nFT, t_tsAT, t_tsAF, t_tsOT, t_tsOF, t_it, t_zi, t_en, t_re, t_thN, t_thR, t_fin, t_siT, t_siF, t_rt, t_fo, t_as, t_al, t_am, t_at, t_su, t_au, t_ax, t_ay, t_ap, t_ex, t_tg, q_tscons, i3, i4, behindInMarks, List.length_cons, List.length_nil, cmpD, isEq, isNe, isNi, intsOf, List.any_cons, List.any_nil, c]
      simp (config := { decide := true }) [q1, t_tsAF, t_seF]
    · by_cases q2 : (i : Int) = hi
      · have c : ¬ ((i : Int) ≠ lo ∧ (i : Int) ≠ hi) := fun q => q.2 q2
        simp (config := { decide := true }) only [↓reduceIte, q_name, q_int, q_bool, q_bin, q_cmp, q_if, q_from, q_upto, q_subN, q_subC, q_subB, q_subS, q_list, q_tuple, q_comp, q_len, q_call, q_count, q_bname, q_bsub, q_btup, q_tnot, q_tbool, q_tcmp, q_tname, q_tcall, q_tsnA, q_tsnO, q_esnil, q_escons, q_itname, q_itsub, q_itrng, q_itrev, q_itzip, q_itenum, q_nil, q_ok, q_cons, q_asgName, q_asgList, q_asgMul, q_asgTup, q_asgSub, q_aug, q_augSub, q_for, q_while, q_ifs, q_ret, q_app, q_ext, q_freeze, n_name, n_tuple, n_list, n_bin, n_sub, n_call, n_const, n_slice, n_cmp, n_if, n_comp, List.flatMap_cons, List.flatMap_nil, List.append_nil, List.cons_append, List.nil_append, q_rho0, q_upd, q_fnL, q_compRho, updAll, q_tgN, q_tgT, q_asI, q_asL, Option.bind_some, Option.map_some, reduceCtorEq, ne_eq, not_false_eq_true, implies_true, and_self, if_true, if_false, Bool.false_eq_true, true_and, and_true, shD, t_st, t_b2, t_cm, t_ct, t_ifT, t_ifF, t_ls, t_tu, t_co, t_le, t_ca, t_cn, t_cd, t_seT, t_seF, q_cfN, q_cfT, decide_true, decide_false, t_no, t_nTT, t_nFF, t_nTF, t_nFT, t_tsAT, t_tsAF, t_tsOT, t_tsOF, t_it, t_zi, t_en, t_re, t_thN, t_thR, t_fin, t_siT, t_siF, t_rt, t_fo, t_as, t_al, t_am, t_at, t_su, t_au, t_ax, t_ay, t_ap, t_ex, t_tg, q_tscons, i3, i4, behindInMarks, List.length_cons, List.length_nil, cmpD, isEq, isNe, isNi, intsOf, List.any_cons, List.any_nil, c]
        simp (config := { decide := true }) [q2, t_tsAF, t_seF]
      · have c : ((i : Int) ≠ lo ∧ (i : Int) ≠ hi) := ⟨q1, q2⟩
        have c1 : (lo == (i : Int)) = false := by simp; (first | lia | omega)
        have c2 : (hi == (i : Int)) = false := by simp; (first | lia | omega)
        simp (config := { decide := true }) only [↓reduceIte, q_name, q_int, q_bool, q_bin, q_cmp, q_if, q_from, q_upto, q_subN, q_subC, q_subB, q_subS, q_list, q_tuple, q_comp, q_len, q_call, q_count, q_bname, q_bsub, q_btup, q_tnot, q_tbool, q_tcmp, q_tname, q_tcall, q_tsnA, q_tsnO, q_esnil, q_escons, q_itname, q_itsub, q_itrng, q_itrev, q_itzip, q_itenum, q_nil, q_ok, q_cons, q_asgName, q_asgList, q_asgMul, q_asgTup, q_asgSub, q_aug, q_augSub, q_for, q_while, q_ifs, q_ret, q_app, q_ext, q_freeze, n_name, n_tuple, n_list, n_bin, n_sub, n_call, n_const, n_slice, n_cmp, n_if, n_comp, List.flatMap_cons, List.flatMap_nil, List.append_nil, List.cons_append, List.nil_append, q_rho0, q_upd, q_fnL, q_compRho, updAll, q_tgN, q_tgT, q_asI, q_asL, Option.bind_some, Option.map_some, reduceCtorEq, ne_eq, not_false_eq_true, implies_true, and_self, if_true, if_false, Bool.false_eq_true, true_and, and_true, shD, t_st, t_b2, t_cm, t_ct, t_ifT, t_ifF, t_ls, t_tu, t_co, t_le, t_ca, t_cn, t_cd, t_seT, t_seF, q_cfN, q_cfT, decide_true, decide_false, t_no, t_nTT, t_nFF, t_nTF, t_nFT, t_tsAT, t_tsAF, t_tsOT, t_tsOF, t_it, t_zi, t_en, t_re, t_thN, t_thR, t_fin, t_siT, t_siF, t_rt, t_fo, t_as, t_al, t_am, t_at, t_su, t_au, t_ax, t_ay, t_ap, t_ex, t_tg, q_tscons, i3, i4, behindInMarks, List.length_cons, List.length_nil, cmpD, isEq, isNe, isNi, intsOf, List.any_cons, List.any_nil, c, c1, c2, Bool.or_false, Bool.not_false]
  · have e0 : List.filterMap (fun d => match d with | .tup [.int i, x] => if i ≠ lo ∧ i ≠ hi then some x else none | _ => none) (List.map (fun (i : Nat) => D.tup [.int i, .int (cs.getD i 0)]) (List.range cs.length)) = (restF cs lo hi).map .int := by
      rw [List.filterMap_map]
      unfold restF
      rw [List.map_filterMap]
      refine fm_congr fun i _ => ?_
      simp only [Function.comp]
      split <;> rfl
    have hr : (restF cs lo hi).length ≤ big := by
      refine Nat.le_trans ?_ hb
      have := List.length_filterMap_le (fun (i : Nat) => if (i : Int) ≠ lo ∧ (i : Int) ≠ hi then some (cs.getD i 0) else none) (List.range cs.length)
      simpa [restF] using this
    rw [e0]
    simp (config := { decide := true }) only [↓reduceIte, q_name, q_int, q_bool, q_bin, q_cmp, q_if, q_from, q_upto, q_subN, q_subC, q_subB, q_subS, q_list, q_tuple, q_comp, q_len, q_call, q_count, q_bname, q_bsub, q_btup, q_tnot, q_tbool, q_tcmp, q_tname, q_tcall, q_tsnA, q_tsnO, q_esnil, q_escons, q_itname, q_itsub, q_itrng, q_itrev, q_itzip, q_itenum, q_nil, q_ok, q_cons, q_asgName, q_asgList, q_asgMul, q_asgTup, q_asgSub, q_aug, q_augSub, q_for, q_while, q_ifs, q_ret, q_app, q_ext, q_freeze, n_name, n_tuple, n_list, n_bin, n_sub, n_call, n_const, n_slice, n_cmp, n_if, n_comp, List.flatMap_cons, List.flatMap_nil, List.append_nil, List.cons_append, List.nil_append, q_rho0, q_upd, q_fnL, q_compRho, updAll, q_tgN, q_tgT, q_asI, q_asL, Option.bind_some, Option.map_some, reduceCtorEq, ne_eq, not_false_eq_true, implies_true, and_self, if_true, if_false, Bool.false_eq_true, true_and, and_true, shD, t_st, t_b2, t_cm, t_ct, t_ifT, t_ifF, t_ls, t_tu, t_co, t_le, t_ca, t_cn, t_cd, t_seT, t_seF, q_cfN, q_cfT, decide_true, decide_false, t_no, t_nTT, t_nFF, t_nTF, t_nFT, t_tsAT, t_tsAF, t_tsOT, t_tsOF, t_it, t_zi, t_en, t_re, t_thN, t_thR, t_fin, t_siT, t_siF, t_rt, t_fo, t_as, t_al, t_am, t_at, t_su, t_au, t_ax, t_ay, t_ap, t_ex, t_tg, q_tscons, Γ_law, i5, List.length_map, List.length_cons, List.length_nil, binD, binI, binL, binR, isAdd, isMul, hr]
    exact ⟨by simp (config := { decide := true }) only [↓reduceIte, q_name, q_int, q_bool, q_bin, q_cmp, q_if, q_from, q_upto, q_subN, q_subC, q_subB, q_subS, q_list, q_tuple, q_comp, q_len, q_call, q_count, q_bname, q_bsub, q_btup, q_tnot, q_tbool, q_tcmp, q_tname, q_tcall, q_tsnA, q_tsnO, q_esnil, q_escons, q_itname, q_itsub, q_itrng, q_itrev, q_itzip, q_itenum, q_nil, q_ok, q_cons, q_asgName, q_asgList, q_asgMul, q_asgTup, q_asgSub, q_aug, q_augSub, q_for, q_while, q_ifs, q_ret, q_app, q_ext, q_freeze, n_name, n_tuple, n_list, n_bin, n_sub, n_call, n_const, n_slice, n_cmp, n_if, n_comp, List.flatMap_cons, List.flatMap_nil, List.append_nil, List.cons_append, List.nil_append, q_rho0, q_upd, q_fnL, q_compRho, updAll, q_tgN, q_tgT, q_asI, q_asL, Option.bind_some, Option.map_some, reduceCtorEq, ne_eq, not_false_eq_true, implies_true, and_self, if_true, if_false, Bool.false_eq_true, true_and, and_true, shD, t_st, t_b2, t_cm, t_ct, t_ifT, t_ifF, t_ls, t_tu, t_co, t_le, t_ca, t_cn, t_cd, t_seT, t_seF, q_cfN, q_cfT, decide_true, decide_false, t_no, t_nTT, t_nFF, t_nTF, t_nFT, t_tsAT, t_tsAF, t_tsOT, t_tsOF, t_it, t_zi, t_en, t_re, t_thN, t_thR, t_fin, t_siT, t_siF, t_rt, t_fo, t_as, t_al, t_am, t_at, t_su, t_au, t_ax, t_ay, t_ap, t_ex, t_tg, q_tscons, i1, il], by simp (config := { decide := true }) only [↓reduceIte, q_name, q_int, q_bool, q_bin, q_cmp, q_if, q_from, q_upto, q_subN, q_subC, q_subB, q_subS, q_list, q_tuple, q_comp, q_len, q_call, q_count, q_bname, q_bsub, q_btup, q_tnot, q_tbool, q_tcmp, q_tname, q_tcall, q_tsnA, q_tsnO, q_esnil, q_escons, q_itname, q_itsub, q_itrng, q_itrev, q_itzip, q_itenum, q_nil, q_ok, q_cons, q_asgName, q_asgList, q_asgMul, q_asgTup, q_asgSub, q_aug, q_augSub, q_for, q_while, q_ifs, q_ret, q_app, q_ext, q_freeze, n_name, n_tuple, n_list, n_bin, n_sub, n_call, n_const, n_slice, n_cmp, n_if, n_comp, List.flatMap_cons, List.flatMap_nil, List.append_nil, List.cons_append, List.nil_append, q_rho0, q_upd, q_fnL, q_compRho, updAll, q_tgN, q_tgT, q_asI, q_asL, Option.bind_some, Option.map_some, reduceCtorEq, ne_eq, not_false_eq_true, implies_true, and_self, if_true, if_false, Bool.false_eq_true, true_and, and_true, shD, t_st, t_b2, t_cm, t_ct, t_ifT, t_ifF, t_ls, t_tu, t_co, t_le, t_ca, t_cn, t_cd, t_seT, t_seF, q_cfN, q_cfT, decide_true, decide_false, t_no, t_nTT, t_nFF, t_nTF, t_nFT, t_tsAT, t_tsAF, t_tsOT, t_tsOF, t_it, t_zi, t_en, t_re, t_thN, t_thR, t_fin, t_siT, t_siF, t_rt, t_fo, t_as, t_al, t_am, t_at, t_su, t_au, t_ax, t_ay, t_ap, t_ex, t_tg, q_tscons, i2], by simp (config := { decide := true }) only [↓reduceIte, q_name, q_int, q_bool, q_bin, q_cmp, q_if, q_from, q_upto, q_subN, q_subC, q_subB, q_subS, q_list, q_tuple, q_comp, q_len, q_call, q_count, q_bname, q_bsub, q_btup, q_tnot, q_tbool, q_tcmp, q_tname, q_tcall, q_tsnA, q_tsnO, q_esnil, q_escons, q_itname, q_itsub, q_itrng, q_itrev, q_itzip, q_itenum, q_nil, q_ok, q_cons, q_asgName, q_asgList, q_asgMul, q_asgTup, q_asgSub, q_aug, q_augSub, q_for, q_while, q_ifs, q_ret, q_app, q_ext, q_freeze, n_name, n_tuple, n_list, n_bin, n_sub, n_call, n_const, n_slice, n_cmp, n_if, n_comp, List.flatMap_cons, List.flatMap_nil, List.append_nil, List.cons_append, List.nil_append, q_rho0, q_upd, q_fnL, q_compRho, updAll, q_tgN, q_tgT, q_asI, q_asL, Option.bind_some, Option.map_some, reduceCtorEq, ne_eq, not_false_eq_true, implies_true, and_self, if_true, if_false, Bool.false_eq_true, true_and, and_true, shD, t_st, t_b2, t_cm, t_ct, t_ifT, t_ifF, t_ls, t_tu, t_co, t_le, t_ca, t_cn, t_cd, t_seT, t_seF, q_cfN, q_cfT, decide_true, decide_false, t_no, t_nTT, t_nFF, t_nTF, t_nFT, t_tsAT, t_tsAF, t_tsOT, t_tsOF, t_it, t_zi, t_en, t_re, t_thN, t_thR, t_fin, t_siT, t_siF, t_rt, t_fo, t_as, t_al, t_am, t_at, t_su, t_au, t_ax, t_ay, t_ap, t_ex, t_tg, q_tscons, i5], by simp (config := { decide := true }) only [↓reduceIte, q_name, q_int, q_bool, q_bin, q_cmp, q_if, q_from, q_upto, q_subN, q_subC, q_subB, q_subS, q_list, q_tuple, q_comp, q_len, q_call, q_count, q_bname, q_bsub, q_btup, q_tnot, q_tbool, q_tcmp, q_tname, q_tcall, q_tsnA, q_tsnO, q_esnil, q_escons, q_itname, q_itsub, q_itrng, q_itrev, q_itzip, q_itenum, q_nil, q_ok, q_cons, q_asgName, q_asgList, q_asgMul, q_asgTup, q_asgSub, q_aug, q_augSub, q_for, q_while, q_ifs, q_ret, q_app, q_ext, q_freeze, n_name, n_tuple, n_list, n_bin, n_sub, n_call, n_const, n_slice, n_cmp, n_if, n_comp, List.flatMap_cons, List.flatMap_nil, List.append_nil, List.cons_append, List.nil_append, q_rho0, q_upd, q_fnL, q_compRho, updAll, q_tgN, q_tgT, q_asI, q_asL, Option.bind_some, Option.map_some, reduceCtorEq, ne_eq, not_false_eq_true, implies_true, and_self, if_true, if_false, Bool.false_eq_true, true_and, and_true, shD, t_st, t_b2, t_cm, t_ct, t_ifT, t_ifF, t_ls, t_tu, t_co, t_le, t_ca, t_cn, t_cd, t_seT, t_seF, q_cfN, q_cfT, decide_true, decide_false, t_no, t_nTT, t_nFF, t_nTF, t_nFT, t_tsAT, t_tsAF, t_tsOT, t_tsOF, t_it, t_zi, t_en, t_re, t_thN, t_thR, t_fin, t_siT, t_siF, t_rt, t_fo, t_as, t_al, t_am, t_at, t_su, t_au, t_ax, t_ay, t_ap, t_ex, t_tg, q_tscons, il, List.map_append, List.map_cons, List.map_nil]⟩

theorem law16 (G : Good cs) {p q : IP} {r : List IP} (ho : ordF cs = p :: q :: r) (h : LEq cs p.2 q.2 (p.1 + q.1) ρ) : ∃ ρ', exe 300 Γ_law ρ (lawS 16) = some (.ret (.bool true), ρ') := by
  conv => enter [1, ρ']; lhs; arg 4; whnf
  have hl := G.len
  have h2 : 2 ≤ (ordF cs).length := by rw [ho]; simp
  have W := G.two h2
  have hc := less_cost ho W.rec'
  have hol := ordF_len cs
  have hob : (ordF cs).length ≤ big := by unfold big; (first | lia | omega)
  obtain ⟨i1, i2, i3, i4⟩ := h
  have hp := ordF_iff.mp (ho ▸ List.mem_cons_self : p ∈ ordF cs)
  have hq := ordF_iff.mp (ho ▸ List.mem_cons_of_mem _ List.mem_cons_self : q ∈ ordF cs)
  have gp := G.at p.2.toNat
  have gq := G.at q.2.toNat
  have e1 := law_ok (cs := cs) (by first | lia | omega) fun i => by have := G.at i; (first | lia | omega)
  have hrl : (restF cs p.2 q.2).length ≤ cs.length := by
    have := List.length_filterMap_le (fun (i : Nat) => if (i : Int) ≠ p.2 ∧ (i : Int) ≠ q.2 then some (cs.getD i 0) else none) (List.range cs.length)
    simpa [restF] using this
  have e2 := law_ok (cs := restF cs p.2 q.2 ++ [p.1 + q.1]) (by simp; (first | lia | omega)) fun i => by
    by_cases hi : i < (restF cs p.2 q.2).length
    · have e : (restF cs p.2 q.2 ++ [p.1 + q.1]).getD i 0 = (restF cs p.2 q.2).getD i 0 := by simp [List.getD_eq_getElem?_getD, List.getElem?_append_left hi]
      rw [e]
      have hm : (restF cs p.2 q.2).getD i 0 ∈ restF cs p.2 q.2 := getD_mem hi
      obtain ⟨j, _, ej⟩ := List.mem_filterMap.mp hm
      split at ej
      · simp only [Option.some.injEq] at ej
        rw [← ej]
        have := G.at j
        (first | lia | omega)
      · cases ej
    · by_cases hi2 : i = (restF cs p.2 q.2).length
      · have e : (restF cs p.2 q.2 ++ [p.1 + q.1]).getD i 0 = p.1 + q.1 := by simp [List.getD_eq_getElem?_getD, hi2]
        rw [e]; (first | lia | omega)
      · have e : (restF cs p.2 q.2 ++ [p.1 + q.1]).getD i 0 = 0 := by
          rw [List.getD_eq_getElem?_getD, List.getElem?_eq_none (by simp; (first | lia | omega))]; rfl
        rw [e]; (first | lia | omega)
  simp only [il] at i1 i4 e1 e2
  by_cases hr : r = []
  · have c : ¬ (2 : Int) < ((ordF cs).length : Int) := by rw [ho, hr]; simp
    rw [if_pos hr] at hc
    have hc' : (costN (wsF cs) : Int) = p.1 + q.1 + 0 := hc
    simp (config := { decide := true }) only [↓reduceIte, q_name, q_int, q_bool, q_bin, q_cmp, q_if, q_from, q_upto, q_subN, q_subC, q_subB, q_subS, q_list, q_tuple, q_comp, q_len, q_call, q_count, q_bname, q_bsub, q_btup, q_tnot, q_tbool, q_tcmp, q_tname, q_tcall, q_tsnA, q_tsnO, q_esnil, q_escons, q_itname, q_itsub, q_itrng, q_itrev, q_itzip, q_itenum, q_nil, q_ok, q_cons, q_asgName, q_asgList, q_asgMul, q_asgTup, q_asgSub, q_aug, q_augSub, q_for, q_while, q_ifs, q_ret, q_app, q_ext, q_freeze, n_name, n_tuple, n_list, n_bin, n_sub, n_call, n_const, n_slice, n_cmp, n_if, n_comp, List.flatMap_cons, List.flatMap_nil, List.append_nil, List.cons_append, List.nil_append, q_rho0, q_upd, q_fnL, q_compRho, updAll, q_tgN, q_tgT, q_asI, q_asL, Option.bind_some, Option.map_some, reduceCtorEq, ne_eq, not_false_eq_true, implies_true, and_self, if_true, if_false, Bool.false_eq_true, true_and, and_true, shD, t_st, t_b2, t_cm, t_ct, t_ifT, t_ifF, t_ls, t_tu, t_co, t_le, t_ca, t_cn, t_cd, t_seT, t_seF, q_cfN, q_cfT, decide_true, decide_false, t_no, t_nTT, t_nFF, t_nTF, t_nFT, t_tsAT, t_tsAF, t_tsOT, t_tsOF, t_it, t_zi, t_en, t_re, t_thN, t_thR, t_fin, t_siT, t_siF, t_rt, t_fo, t_as, t_al, t_am, t_at, t_su, t_au, t_ax, t_ay, t_ap, t_ex, t_tg, q_tscons, Γ_law, i1, i2, i3, i4, e1, φlen, List.length_map, hob, behindInMarks, cmpD, isEq, isNe, isNi, cmpI, c, decide_false, binD, binI, binL, binR, isAdd, isMul]
    rw [hc']
    simp (config := { decide := true })
  · have c : (2 : Int) < ((ordF cs).length : Int) := by
      rw [ho]
      have := List.length_pos_iff.mpr hr
      simp only [List.length_cons]; (first | lia | omega)
    rw [if_neg hr] at hc
    simp (config := { decide := true }) only [↓reduceIte, q_name, q_int, q_bool, q_bin, q_cmp, q_if, q_from, q_upto, q_subN, q_subC, q_subB, q_subS, q_list, q_tuple, q_comp, q_len, q_call, q_count, q_bname, q_bsub, q_btup, q_tnot, q_tbool, q_tcmp, q_tname, q_tcall, q_tsnA, q_tsnO, q_esnil, q_escons, q_itname, q_itsub, q_itrng, q_itrev, q_itzip, q_itenum, q_nil, q_ok, q_cons, q_asgName, q_asgList, q_asgMul, q_asgTup, q_asgSub, q_aug, q_augSub, q_for, q_while, q_ifs, q_ret, q_app, q_ext, q_freeze, n_name, n_tuple, n_list, n_bin, n_sub, n_call, n_const, n_slice, n_cmp, n_if, n_comp, List.flatMap_cons, List.flatMap_nil, List.append_nil, List.cons_append, List.nil_append, q_rho0, q_upd, q_fnL, q_compRho, updAll, q_tgN, q_tgT, q_asI, q_asL, Option.bind_some, Option.map_some, reduceCtorEq, ne_eq, not_false_eq_true, implies_true, and_self, if_true, if_false, Bool.false_eq_true, true_and, and_true, shD, t_st, t_b2, t_cm, t_ct, t_ifT, t_ifF, t_ls, t_tu, t_co, t_le, t_ca, t_cn, t_cd, t_seT, t_seF, q_cfN, q_cfT, decide_true, decide_false, t_no, t_nTT, t_nFF, t_nTF, t_nFT, t_tsAT, t_tsAF, t_tsOT, t_tsOF, t_it, t_zi, t_en, t_re, t_thN, t_thR, t_fin, t_siT, t_siF, t_rt, t_fo, t_as, t_al, t_am, t_at, t_su, t_au, t_ax, t_ay, t_ap, t_ex, t_tg, q_tscons, Γ_law, i1, i2, i3, i4, e1, e2, φlen, List.length_map, hob, behindInMarks, cmpD, isEq, isNe, isNi, cmpI, c, decide_true, binD, binI, binL, binR, isAdd, isMul, ← hc]
    exact ⟨_, rfl⟩
end
end Mine
end

section
open PySem PySem.W PyProof.Rows PySem.Calls PySem.SeqAt
set_option linter.all false
set_option maxRecDepth 100000
set_option maxHeartbeats 4000000
namespace Mine

noncomputable def clS (i : Nat) : Stmt := B_code_lengths.getD i (.Pass ⟨0, 0, 0, 0⟩)
noncomputable def clT : Expr := match clS 2 with
  | .If t _ _ _ => t
  | _ => .Tuple [] 0 ⟨0, 0, 0, 0⟩

structure K0 (cs : List Int) (n : Nat) (ρ : Rho) : Prop where
  c : ρ "counts" = some (.st (il cs))
  m : ρ "most" = some (.st (.int n))
  o : ρ "order" = some (.st (.lst ((ordF cs).map pairD)))

section
variable {cs : List Int} {n : Nat} {ρ : Rho}

theorem cl0 (h : cs.length ≤ 8) : Ok (exe 300 Γ_code_lengths (rho0 ["counts", "most"] [il cs, .int n]) (clS 0)) (K0 cs n) := by
  conv => arg 1; arg 4; whnf
  have hb : cs.length ≤ big := by unfold big; (first | lia | omega)
  have h40 : Int.natAbs (cs.length : Int) < 2 ^ 40 := by first | lia | omega
  have hrl : (rangeD 0 1 cs.length).length ≤ big := by simpa [rangeD] using hb
  simp (config := { decide := true }) only [↓reduceIte, q_name, q_int, q_bool, q_bin, q_cmp, q_if, q_from, q_upto, q_subN, q_subC, q_subB, q_subS, q_list, q_tuple, q_comp, q_len, q_call, q_count, q_bname, q_bsub, q_btup, q_tnot, q_tbool, q_tcmp, q_tname, q_tcall, q_tsnA, q_tsnO, q_esnil, q_escons, q_itname, q_itsub, q_itrng, q_itrev, q_itzip, q_itenum, q_nil, q_ok, q_cons, q_asgName, q_asgList, q_asgMul, q_asgTup, q_asgSub, q_aug, q_augSub, q_for, q_while, q_ifs, q_ret, q_app, q_ext, q_freeze, n_name, n_tuple, n_list, n_bin, n_sub, n_call, n_const, n_slice, n_cmp, n_if, n_comp, List.flatMap_cons, List.flatMap_nil, List.append_nil, List.cons_append, List.nil_append, q_rho0, q_upd, q_fnL, q_compRho, updAll, q_tgN, q_tgT, q_asI, q_asL, Option.bind_some, Option.map_some, reduceCtorEq, ne_eq, not_false_eq_true, implies_true, and_self, if_true, if_false, Bool.false_eq_true, true_and, and_true, shD, t_st, t_b2, t_cm, t_ct, t_ifT, t_ifF, t_ls, t_tu, t_co, t_le, t_ca, t_cn, t_cd, t_seT, t_seF, q_cfN, q_cfT, decide_true, decide_false, t_no, t_nTT, t_nFF, t_nTF, t_nFT, t_tsAT, t_tsAF, t_tsOT, t_tsOF, t_it, t_zi, t_en, t_re, t_thN, t_thR, t_fin, t_siT, t_siF, t_rt, t_fo, t_as, t_al, t_am, t_at, t_su, t_au, t_ax, t_ay, t_ap, t_ex, t_tg, q_tscons, Γ_code_lengths, φlen, il, List.length_map, hb, rangeOf, h40, Int.toNat_natCast, hrl]
  rw [ord_comp (fun i hi => ?_)]
  rotate_left
  · have e0 : (0 + (i : Int) * 1) = (i : Int) := by first | lia | omega
    have e1 : (cs.map D.int)[i]? = some (.int (cs.getD i 0)) := get_map hi
    have e3 : (0 : Int) ≤ (i : Int) := by first | lia | omega
    rw [e0]
    by_cases hq : 0 < cs.getD i 0
    · simp (config := { decide := true }) only [↓reduceIte, q_name, q_int, q_bool, q_bin, q_cmp, q_if, q_from, q_upto, q_subN, q_subC, q_subB, q_subS, q_list, q_tuple, q_comp, q_len, q_call, q_count, q_bname, q_bsub, q_btup, q_tnot, q_tbool, q_tcmp, q_tname, q_tcall, q_tsnA, q_tsnO, q_esnil, q_escons, q_itname, q_itsub, q_itrng, q_itrev, q_itzip, q_itenum, q_nil, q_ok, q_cons, q_asgName, q_asgList, q_asgMul, q_asgTup, q_asgSub, q_aug, q_augSub, q_for, q_while, q_ifs, q_ret, q_app, q_ext, q_freeze, n_name, n_tuple, n_list, n_bin, n_sub, n_call, n_const, n_slice, n_cmp, n_if, n_comp, List.flatMap_cons, List.flatMap_nil, List.append_nil, List.cons_append, List.nil_append, q_rho0, q_upd, q_fnL, q_compRho, updAll, q_tgN, q_tgT, q_asI, q_asL, Option.bind_some, Option.map_some, reduceCtorEq, ne_eq, not_false_eq_true, implies_true, and_self, if_true, if_false, Bool.false_eq_true, true_and, and_true, shD, t_st, t_b2, t_cm, t_ct, t_ifT, t_ifF, t_ls, t_tu, t_co, t_le, t_ca, t_cn, t_cd, t_seT, t_seF, q_cfN, q_cfT, decide_true, decide_false, t_no, t_nTT, t_nFF, t_nTF, t_nFT, t_tsAT, t_tsAF, t_tsOT, t_tsOF, t_it, t_zi, t_en, t_re, t_thN, t_thR, t_fin, t_siT, t_siF, t_rt, t_fo, t_as, t_al, t_am, t_at, t_su, t_au, t_ax, t_ay, t_ap, t_ex, t_tg, q_tscons, idxD, List.length_map, hb, e1, e3, Int.toNat_natCast, behindInMarks, cmpD, isEq, isNe, isNi, cmpI, hq, decide_true]
      rfl
    · simp (config := { decide := true }) only [↓reduceIte, q_name, q_int, q_bool, q_bin, q_cmp, q_if, q_from, q_upto, q_subN, q_subC, q_subB, q_subS, q_list, q_tuple, q_comp, q_len, q_call, q_count, q_bname, q_bsub, q_btup, q_tnot, q_tbool, q_tcmp, q_tname, q_tcall, q_tsnA, q_tsnO, q_esnil, q_escons, q_itname, q_itsub, q_itrng, q_itrev, q_itzip, q_itenum, q_nil, q_ok, q_cons, q_asgName, q_asgList, q_asgMul, q_asgTup, q_asgSub, q_aug, q_augSub, q_for, q_while, q_ifs, q_ret, q_app, q_ext, q_freeze, n_name, n_tuple, n_list, n_bin, n_sub, n_call, n_const, n_slice, n_cmp, n_if, n_comp, List.flatMap_cons, List.flatMap_nil, List.append_nil, List.cons_append, List.nil_append, q_rho0, q_upd, q_fnL, q_compRho, updAll, q_tgN, q_tgT, q_asI, q_asL, Option.bind_some, Option.map_some, reduceCtorEq, ne_eq, not_false_eq_true, implies_true, and_self, if_true, if_false, Bool.false_eq_true, true_and, and_true, shD, t_st, t_b2, t_cm, t_ct, t_ifT, t_ifF, t_ls, t_tu, t_co, t_le, t_ca, t_cn, t_cd, t_seT, t_seF, q_cfN, q_cfT, decide_true, decide_false, t_no, t_nTT, t_nFF, t_nTF, t_nFT, t_tsAT, t_tsAF, t_tsOT, t_tsOF, t_it, t_zi, t_en, t_re, t_thN, t_thR, t_fin, t_siT, t_siF, t_rt, t_fo, t_as, t_al, t_am, t_at, t_su, t_au, t_ax, t_ay, t_ap, t_ex, t_tg, q_tscons, idxD, List.length_map, hb, e1, e3, Int.toNat_natCast, behindInMarks, cmpD, isEq, isNe, isNi, cmpI, hq, decide_false]
  · simp (config := { decide := true }) only [↓reduceIte, q_name, q_int, q_bool, q_bin, q_cmp, q_if, q_from, q_upto, q_subN, q_subC, q_subB, q_subS, q_list, q_tuple, q_comp, q_len, q_call, q_count, q_bname, q_bsub, q_btup, q_tnot, q_tbool, q_tcmp, q_tname, q_tcall, q_tsnA, q_tsnO, q_esnil, q_escons, q_itname, q_itsub, q_itrng, q_itrev, q_itzip, q_itenum, q_nil, q_ok, q_cons, q_asgName, q_asgList, q_asgMul, q_asgTup, q_asgSub, q_aug, q_augSub, q_for, q_while, q_ifs, q_ret, q_app, q_ext, q_freeze, n_name, n_tuple, n_list, n_bin, n_sub, n_call, n_const, n_slice, n_cmp, n_if, n_comp, List.flatMap_cons, List.flatMap_nil, List.append_nil, List.cons_append, List.nil_append, q_rho0, q_upd, q_fnL, q_compRho, updAll, q_tgN, q_tgT, q_asI, q_asL, Option.bind_some, Option.map_some, reduceCtorEq, ne_eq, not_false_eq_true, implies_true, and_self, if_true, if_false, Bool.false_eq_true, true_and, and_true, shD, t_st, t_b2, t_cm, t_ct, t_ifT, t_ifF, t_ls, t_tu, t_co, t_le, t_ca, t_cn, t_cd, t_seT, t_seF, q_cfN, q_cfT, decide_true, decide_false, t_no, t_nTT, t_nFF, t_nTF, t_nFT, t_tsAT, t_tsAF, t_tsOT, t_tsOF, t_it, t_zi, t_en, t_re, t_thN, t_thR, t_fin, t_siT, t_siF, t_rt, t_fo, t_as, t_al, t_am, t_at, t_su, t_au, t_ax, t_ay, t_ap, t_ex, t_tg, q_tscons, sorted_eq (show cs.length ≤ 50 by first | lia | omega)]
    exact ⟨by simp (config := { decide := true }) only [↓reduceIte, q_name, q_int, q_bool, q_bin, q_cmp, q_if, q_from, q_upto, q_subN, q_subC, q_subB, q_subS, q_list, q_tuple, q_comp, q_len, q_call, q_count, q_bname, q_bsub, q_btup, q_tnot, q_tbool, q_tcmp, q_tname, q_tcall, q_tsnA, q_tsnO, q_esnil, q_escons, q_itname, q_itsub, q_itrng, q_itrev, q_itzip, q_itenum, q_nil, q_ok, q_cons, q_asgName, q_asgList, q_asgMul, q_asgTup, q_asgSub, q_aug, q_augSub, q_for, q_while, q_ifs, q_ret, q_app, q_ext, q_freeze, n_name, n_tuple, n_list, n_bin, n_sub, n_call, n_const, n_slice, n_cmp, n_if, n_comp, List.flatMap_cons, List.flatMap_nil, List.append_nil, List.cons_append, List.nil_append, q_rho0, q_upd, q_fnL, q_compRho, updAll, q_tgN, q_tgT, q_asI, q_asL, Option.bind_some, Option.map_some, reduceCtorEq, ne_eq, not_false_eq_true, implies_true, and_self, if_true, if_false, Bool.false_eq_true, true_and, and_true, shD, t_st, t_b2, t_cm, t_ct, t_ifT, t_ifF, t_ls, t_tu, t_co, t_le, t_ca, t_cn, t_cd, t_seT, t_seF, q_cfN, q_cfT, decide_true, decide_false, t_no, t_nTT, t_nFF, t_nTF, t_nFT, t_tsAT, t_tsAF, t_tsOT, t_tsOF, t_it, t_zi, t_en, t_re, t_thN, t_thR, t_fin, t_siT, t_siF, t_rt, t_fo, t_as, t_al, t_am, t_at, t_su, t_au, t_ax, t_ay, t_ap, t_ex, t_tg, q_tscons, il], by simp (config := { decide := true }) only [↓reduceIte, q_name, q_int, q_bool, q_bin, q_cmp, q_if, q_from, q_upto, q_subN, q_subC, q_subB, q_subS, q_list, q_tuple, q_comp, q_len, q_call, q_count, q_bname, q_bsub, q_btup, q_tnot, q_tbool, q_tcmp, q_tname, q_tcall, q_tsnA, q_tsnO, q_esnil, q_escons, q_itname, q_itsub, q_itrng, q_itrev, q_itzip, q_itenum, q_nil, q_ok, q_cons, q_asgName, q_asgList, q_asgMul, q_asgTup, q_asgSub, q_aug, q_augSub, q_for, q_while, q_ifs, q_ret, q_app, q_ext, q_freeze, n_name, n_tuple, n_list, n_bin, n_sub, n_call, n_const, n_slice, n_cmp, n_if, n_comp, List.flatMap_cons, List.flatMap_nil, List.append_nil, List.cons_append, List.nil_append, q_rho0, q_upd, q_fnL, q_compRho, updAll, q_tgN, q_tgT, q_asI, q_asL, Option.bind_some, Option.map_some, reduceCtorEq, ne_eq, not_false_eq_true, implies_true, and_self, if_true, if_false, Bool.false_eq_true, true_and, and_true, shD, t_st, t_b2, t_cm, t_ct, t_ifT, t_ifF, t_ls, t_tu, t_co, t_le, t_ca, t_cn, t_cd, t_seT, t_seF, q_cfN, q_cfT, decide_true, decide_false, t_no, t_nTT, t_nFF, t_nTF, t_nFT, t_tsAT, t_tsAF, t_tsOT, t_tsOF, t_it, t_zi, t_en, t_re, t_thN, t_thR, t_fin, t_siT, t_siF, t_rt, t_fo, t_as, t_al, t_am, t_at, t_su, t_au, t_ax, t_ay, t_ap, t_ex, t_tg, q_tscons], by simp (config := { decide := true }) only [↓reduceIte, q_name, q_int, q_bool, q_bin, q_cmp, q_if, q_from, q_upto, q_subN, q_subC, q_subB, q_subS, q_list, q_tuple, q_comp, q_len, q_call, q_count, q_bname, q_bsub, q_btup, q_tnot, q_tbool, q_tcmp, q_tname, q_tcall, q_tsnA, q_tsnO, q_esnil, q_escons, q_itname, q_itsub, q_itrng, q_itrev, q_itzip, q_itenum, q_nil, q_ok, q_cons, q_asgName, q_asgList, q_asgMul, q_asgTup, q_asgSub, q_aug, q_augSub, q_for, q_while, q_ifs, q_ret, q_app, q_ext, q_freeze, n_name, n_tuple, n_list, n_bin, n_sub, n_call, n_const, n_slice, n_cmp, n_if, n_comp, List.flatMap_cons, List.flatMap_nil, List.append_nil, List.cons_append, List.nil_append, q_rho0, q_upd, q_fnL, q_compRho, updAll, q_tgN, q_tgT, q_asI, q_asL, Option.bind_some, Option.map_some, reduceCtorEq, ne_eq, not_false_eq_true, implies_true, and_self, if_true, if_false, Bool.false_eq_true, true_and, and_true, shD, t_st, t_b2, t_cm, t_ct, t_ifT, t_ifF, t_ls, t_tu, t_co, t_le, t_ca, t_cn, t_cd, t_seT, t_seF, q_cfN, q_cfT, decide_true, decide_false, t_no, t_nTT, t_nFF, t_nTF, t_nFT, t_tsAT, t_tsAF, t_tsOT, t_tsOF, t_it, t_zi, t_en, t_re, t_thN, t_thR, t_fin, t_siT, t_siF, t_rt, t_fo, t_as, t_al, t_am, t_at, t_su, t_au, t_ax, t_ay, t_ap, t_ex, t_tg, q_tscons]⟩

theorem cl1 (h : cs.length ≤ 8) (k : K0 cs n ρ) : Ok (exe 300 Γ_code_lengths ρ (clS 1)) (K0 cs n) := by
  conv => arg 1; arg 4; whnf
  obtain ⟨i1, i2, i3⟩ := k
  have hb : cs.length ≤ big := by unfold big; (first | lia | omega)
  have hlt : cs.length < big := by unfold big; (first | lia | omega)
  have hn0 : (0 : Int) ≤ (cs.length : Int) := by first | lia | omega
  simp only [il] at i1
  simp (config := { decide := true }) only [↓reduceIte, q_name, q_int, q_bool, q_bin, q_cmp, q_if, q_from, q_upto, q_subN, q_subC, q_subB, q_subS, q_list, q_tuple, q_comp, q_len, q_call, q_count, q_bname, q_bsub, q_btup, q_tnot, q_tbool, q_tcmp, q_tname, q_tcall, q_tsnA, q_tsnO, q_esnil, q_escons, q_itname, q_itsub, q_itrng, q_itrev, q_itzip, q_itenum, q_nil, q_ok, q_cons, q_asgName, q_asgList, q_asgMul, q_asgTup, q_asgSub, q_aug, q_augSub, q_for, q_while, q_ifs, q_ret, q_app, q_ext, q_freeze, n_name, n_tuple, n_list, n_bin, n_sub, n_call, n_const, n_slice, n_cmp, n_if, n_comp, List.flatMap_cons, List.flatMap_nil, List.append_nil, List.cons_append, List.nil_append, q_rho0, q_upd, q_fnL, q_compRho, updAll, q_tgN, q_tgT, q_asI, q_asL, Option.bind_some, Option.map_some, reduceCtorEq, ne_eq, not_false_eq_true, implies_true, and_self, if_true, if_false, Bool.false_eq_true, true_and, and_true, shD, t_st, t_b2, t_cm, t_ct, t_ifT, t_ifF, t_ls, t_tu, t_co, t_le, t_ca, t_cn, t_cd, t_seT, t_seF, q_cfN, q_cfT, decide_true, decide_false, t_no, t_nTT, t_nFF, t_nTF, t_nFT, t_tsAT, t_tsAF, t_tsOT, t_tsOF, t_it, t_zi, t_en, t_re, t_thN, t_thR, t_fin, t_siT, t_siF, t_rt, t_fo, t_as, t_al, t_am, t_at, t_su, t_au, t_ax, t_ay, t_ap, t_ex, t_tg, q_tscons, Γ_code_lengths, i1, φlen, List.length_map, hb, hlt, hn0, Int.toNat_natCast, List.length_cons, List.length_nil]
  exact ⟨by simp (config := { decide := true }) only [↓reduceIte, q_name, q_int, q_bool, q_bin, q_cmp, q_if, q_from, q_upto, q_subN, q_subC, q_subB, q_subS, q_list, q_tuple, q_comp, q_len, q_call, q_count, q_bname, q_bsub, q_btup, q_tnot, q_tbool, q_tcmp, q_tname, q_tcall, q_tsnA, q_tsnO, q_esnil, q_escons, q_itname, q_itsub, q_itrng, q_itrev, q_itzip, q_itenum, q_nil, q_ok, q_cons, q_asgName, q_asgList, q_asgMul, q_asgTup, q_asgSub, q_aug, q_augSub, q_for, q_while, q_ifs, q_ret, q_app, q_ext, q_freeze, n_name, n_tuple, n_list, n_bin, n_sub, n_call, n_const, n_slice, n_cmp, n_if, n_comp, List.flatMap_cons, List.flatMap_nil, List.append_nil, List.cons_append, List.nil_append, q_rho0, q_upd, q_fnL, q_compRho, updAll, q_tgN, q_tgT, q_asI, q_asL, Option.bind_some, Option.map_some, reduceCtorEq, ne_eq, not_false_eq_true, implies_true, and_self, if_true, if_false, Bool.false_eq_true, true_and, and_true, shD, t_st, t_b2, t_cm, t_ct, t_ifT, t_ifF, t_ls, t_tu, t_co, t_le, t_ca, t_cn, t_cd, t_seT, t_seF, q_cfN, q_cfT, decide_true, decide_false, t_no, t_nTT, t_nFF, t_nTF, t_nFT, t_tsAT, t_tsAF, t_tsOT, t_tsOF, t_it, t_zi, t_en, t_re, t_thN, t_thR, t_fin, t_siT, t_siF, t_rt, t_fo, t_as, t_al, t_am, t_at, t_su, t_au, t_ax, t_ay, t_ap, t_ex, t_tg, q_tscons, i1, il], by simp (config := { decide := true }) only [↓reduceIte, q_name, q_int, q_bool, q_bin, q_cmp, q_if, q_from, q_upto, q_subN, q_subC, q_subB, q_subS, q_list, q_tuple, q_comp, q_len, q_call, q_count, q_bname, q_bsub, q_btup, q_tnot, q_tbool, q_tcmp, q_tname, q_tcall, q_tsnA, q_tsnO, q_esnil, q_escons, q_itname, q_itsub, q_itrng, q_itrev, q_itzip, q_itenum, q_nil, q_ok, q_cons, q_asgName, q_asgList, q_asgMul, q_asgTup, q_asgSub, q_aug, q_augSub, q_for, q_while, q_ifs, q_ret, q_app, q_ext, q_freeze, n_name, n_tuple, n_list, n_bin, n_sub, n_call, n_const, n_slice, n_cmp, n_if, n_comp, List.flatMap_cons, List.flatMap_nil, List.append_nil, List.cons_append, List.nil_append, q_rho0, q_upd, q_fnL, q_compRho, updAll, q_tgN, q_tgT, q_asI, q_asL, Option.bind_some, Option.map_some, reduceCtorEq, ne_eq, not_false_eq_true, implies_true, and_self, if_true, if_false, Bool.false_eq_true, true_and, and_true, shD, t_st, t_b2, t_cm, t_ct, t_ifT, t_ifF, t_ls, t_tu, t_co, t_le, t_ca, t_cn, t_cd, t_seT, t_seF, q_cfN, q_cfT, decide_true, decide_false, t_no, t_nTT, t_nFF, t_nTF, t_nFT, t_tsAT, t_tsAF, t_tsOT, t_tsOF, t_it, t_zi, t_en, t_re, t_thN, t_thR, t_fin, t_siT, t_siF, t_rt, t_fo, t_as, t_al, t_am, t_at, t_su, t_au, t_ax, t_ay, t_ap, t_ex, t_tg, q_tscons, i2], by simp (config := { decide := true }) only [↓reduceIte, q_name, q_int, q_bool, q_bin, q_cmp, q_if, q_from, q_upto, q_subN, q_subC, q_subB, q_subS, q_list, q_tuple, q_comp, q_len, q_call, q_count, q_bname, q_bsub, q_btup, q_tnot, q_tbool, q_tcmp, q_tname, q_tcall, q_tsnA, q_tsnO, q_esnil, q_escons, q_itname, q_itsub, q_itrng, q_itrev, q_itzip, q_itenum, q_nil, q_ok, q_cons, q_asgName, q_asgList, q_asgMul, q_asgTup, q_asgSub, q_aug, q_augSub, q_for, q_while, q_ifs, q_ret, q_app, q_ext, q_freeze, n_name, n_tuple, n_list, n_bin, n_sub, n_call, n_const, n_slice, n_cmp, n_if, n_comp, List.flatMap_cons, List.flatMap_nil, List.append_nil, List.cons_append, List.nil_append, q_rho0, q_upd, q_fnL, q_compRho, updAll, q_tgN, q_tgT, q_asI, q_asL, Option.bind_some, Option.map_some, reduceCtorEq, ne_eq, not_false_eq_true, implies_true, and_self, if_true, if_false, Bool.false_eq_true, true_and, and_true, shD, t_st, t_b2, t_cm, t_ct, t_ifT, t_ifF, t_ls, t_tu, t_co, t_le, t_ca, t_cn, t_cd, t_seT, t_seF, q_cfN, q_cfT, decide_true, decide_false, t_no, t_nTT, t_nFF, t_nTF, t_nFT, t_tsAT, t_tsAF, t_tsOT, t_tsOF, t_it, t_zi, t_en, t_re, t_thN, t_thR, t_fin, t_siT, t_siF, t_rt, t_fo, t_as, t_al, t_am, t_at, t_su, t_au, t_ax, t_ay, t_ap, t_ex, t_tg, q_tscons, i3]⟩

theorem clTest (h : cs.length ≤ 8) (h2 : 2 ≤ (ordF cs).length) (hn : n ≤ 20) (hx : n < 1 ∨ 2 ^ n < (ordF cs).length) (k : K0 cs n ρ) : evT 298 Γ_code_lengths ρ clT = some true := by
  conv => lhs; arg 4; whnf
  obtain ⟨i1, i2, i3⟩ := k
  have hol : (ordF cs).length ≤ cs.length := ordF_len cs
  have hob : (ordF cs).length ≤ big := by unfold big; (first | lia | omega)
  have c6 : (List.map pairD (ordF cs)).isEmpty = false := by
    cases q : ordF cs with
    | nil => rw [q] at h2; simp at h2
    | cons a l => rfl
  by_cases c1 : (n : Int) < 1
  · simp (config := { decide := true }) only [↓reduceIte, q_name, q_int, q_bool, q_bin, q_cmp, q_if, q_from, q_upto, q_subN, q_subC, q_subB, q_subS, q_list, q_tuple, q_comp, q_len, q_call, q_count, q_bname, q_bsub, q_btup, q_tnot, q_tbool, q_tcmp, q_tname, q_tcall, q_tsnA, q_tsnO, q_esnil, q_escons, q_itname, q_itsub, q_itrng, q_itrev, q_itzip, q_itenum, q_nil, q_ok, q_cons, q_asgName, q_asgList, q_asgMul, q_asgTup, q_asgSub, q_aug, q_augSub, q_for, q_while, q_ifs, q_ret, q_app, q_ext, q_freeze, n_name, n_tuple, n_list, n_bin, n_sub, n_call, n_const, n_slice, n_cmp, n_if, n_comp, List.flatMap_cons, List.flatMap_nil, List.append_nil, List.cons_append, List.nil_append, q_rho0, q_upd, q_fnL, q_compRho, updAll, q_tgN, q_tgT, q_asI, q_asL, Option.bind_some, Option.map_some, reduceCtorEq, ne_eq, not_false_eq_true, implies_true, and_self, if_true, if_false, Bool.false_eq_true, true_and, and_true, shD, t_st, t_b2, t_cm, t_ct, t_ifT, t_ifF, t_ls, t_tu, t_co, t_le, t_ca, t_cn, t_cd, t_seT, t_seF, q_cfN, q_cfT, decide_true, decide_false, t_no, t_nTT, t_nFF, t_nTF, t_nFT, t_tsAT, t_tsAF, t_tsOT, t_tsOF, t_it, t_zi, t_en, t_re, t_thN, t_thR, t_fin, t_siT, t_siF, t_rt, t_fo, t_as, t_al, t_am, t_at, t_su, t_au, t_ax, t_ay, t_ap, t_ex, t_tg, q_tscons, Γ_code_lengths, i2, i3, truD, List.length_map, hob, c6, Bool.not_false, cmpD, isEq, isNe, isNi, cmpI, c1, decide_true]
  · have c2 : (0 : Int) ≤ (n : Int) ∧ (n : Int) ≤ 1000 ∧ Int.natAbs 1 < 2 ^ 62 := ⟨by first | lia | omega, by first | lia | omega, by decide⟩
    have c3 : ((1 : Int) * 2 ^ n < ((ordF cs).length : Int)) := by
      have : ((2 ^ n : Nat) : Int) = (2 : Int) ^ n := by simp
      (first | lia | omega)
    simp (config := { decide := true }) only [↓reduceIte, q_name, q_int, q_bool, q_bin, q_cmp, q_if, q_from, q_upto, q_subN, q_subC, q_subB, q_subS, q_list, q_tuple, q_comp, q_len, q_call, q_count, q_bname, q_bsub, q_btup, q_tnot, q_tbool, q_tcmp, q_tname, q_tcall, q_tsnA, q_tsnO, q_esnil, q_escons, q_itname, q_itsub, q_itrng, q_itrev, q_itzip, q_itenum, q_nil, q_ok, q_cons, q_asgName, q_asgList, q_asgMul, q_asgTup, q_asgSub, q_aug, q_augSub, q_for, q_while, q_ifs, q_ret, q_app, q_ext, q_freeze, n_name, n_tuple, n_list, n_bin, n_sub, n_call, n_const, n_slice, n_cmp, n_if, n_comp, List.flatMap_cons, List.flatMap_nil, List.append_nil, List.cons_append, List.nil_append, q_rho0, q_upd, q_fnL, q_compRho, updAll, q_tgN, q_tgT, q_asI, q_asL, Option.bind_some, Option.map_some, reduceCtorEq, ne_eq, not_false_eq_true, implies_true, and_self, if_true, if_false, Bool.false_eq_true, true_and, and_true, shD, t_st, t_b2, t_cm, t_ct, t_ifT, t_ifF, t_ls, t_tu, t_co, t_le, t_ca, t_cn, t_cd, t_seT, t_seF, q_cfN, q_cfT, decide_true, decide_false, t_no, t_nTT, t_nFF, t_nTF, t_nFT, t_tsAT, t_tsAF, t_tsOT, t_tsOF, t_it, t_zi, t_en, t_re, t_thN, t_thR, t_fin, t_siT, t_siF, t_rt, t_fo, t_as, t_al, t_am, t_at, t_su, t_au, t_ax, t_ay, t_ap, t_ex, t_tg, q_tscons, Γ_code_lengths, i2, i3, truD, binD, binI, binL, binR, isAdd, isMul, φlen, Int.toNat_natCast, List.length_map, hob, c6, Bool.not_false, cmpD, isEq, isNe, isNi, cmpI, c1, c2, c3, decide_true, decide_false]
end
end Mine
end

section
open PySem PySem.W PyProof.Rows PySem.Calls PySem.SeqAt
set_option linter.all false
set_option maxRecDepth 100000
set_option maxHeartbeats 4000000
namespace Mine

noncomputable def bm59 : List Value := [.ref 46, .type "Exception", .type "BaseException", .type "object"]
noncomputable abbrev O59 : Obj := excClassObj "FilterFault" "FilterFault" 59 58 [.ref 46] bm59 true [] [] false none none (some (.ref 50)) none (some (.str "FilterFault" 236)) (some (.str "FilterFault" 244)) (some (.bool true)) "Exception.__new__"
theorem at59 {p : Params} {h : Heap} (X : (KF p).In h) : h.get? 59 = some O59 := X 59 _ (by rfl)

section
variable {prog : Program} {w : World} {A : Around} {R : Result → Shared → Prop} {h : Heap} {g : Array GenState} {d : Drawn} {t : Nat} {os : OsState}

theorem new59 (X : (KF w.params).In h) {rest : List Value} (hrest : rest.length ≤ sizeLine)
    (hq : R (.ok (.ret (.ref (h.objs.size + 1)))) ⟨(h.push { cls := .type "tuple", data := .seq rest.toArray }).push
      { cls := .ref 59, data := .fields #[.ref h.objs.size, .none, .none, .none, .bool false, .none] }, g, d, t, os⟩) :
    codeAny (model prog w) A (.call (.builtin "Exception.__new__") ⟨.ref 59 :: rest, []⟩) R ⟨h, g, d, t, os⟩ := by
  have F := PySem.F.excBase_Exception
  have C := at59 X
  have b1 : (Value.ref 59 :: bm59).contains (.type "Exception") = true := by decide +kernel
  have b2 : (Value.ref 59 :: bm59).contains (.type "AttributeError") = false := by decide +kernel
  have b3 : (Value.ref 59 :: bm59).contains (.type "NameError") = false := by decide +kernel
  have hstar := F.noStar
  refine codeAny_call_builtin_code (Code.quiet_builtin _ F.quiet) ?_
  simp only [checkBuiltinCall, F.newKind, F.newSplit, F.newRow]
  repeat (first | refine wpAny_loadPart_at C ?_ | (refine wpAny_isSubtype_exc C ?_; rw [b1]) | refine wpAny_staticBase_exc C ?_ | refine wpAny_madeBy_exc C ?_ | simp only [bne_self_eq_false, Bool.false_eq_true, if_false] | wp_step)
  have hends := F.ends
  refine codeAny_builtinAt F.entry ?_
  unfold Builtin.«BaseException.__new__»
  refine PySem.wpAt_bind ?_
  show PySem.wpAt _ _ _ (stack >>= _) _ _ _
  refine PySem.wpAt_bind (PySem.wpAt_stack fun p below => PySem.wpAt_of_wpAny ?_)
  wp_walk
  refine PySem.wpAt_of_wpAny ?_
  rw [F.owner]
  repeat (first | with_reducible refine wpAny_madeHere_exc F.canon C ?_ | with_reducible refine wpAny_loadPart_at C ?_ | (with_reducible refine wpAny_isSubtype_exc C ?_; first | rw [b1] | rw [b2] | rw [b3]) | wp_step)
  show R _ _
  rw [Heap.size_push]
  exact hq
end
end Mine
end

section
open PySem PySem.W PyProof.Rows PySem.Calls PySem.SeqAt Builtin Builtin.ObjectAttr
set_option linter.all false
set_option maxRecDepth 100000
set_option maxHeartbeats 4000000
namespace Mine

theorem find59_set {p : Params} : findIn (KF p) (.ref 59) "__setattr__" = some (some (.builtin "object.__setattr__")) := by rfl
theorem inst59 {p : Params} {M : Model} {h : Heap} (X : (KF p).In h) {e : Addr} {ox : Obj} {od : Option Obj} (I : InstAt h e ox 59 od) {T : String} (q : (Value.ref 59 :: bm59).contains (.type T) = true) :
    Looks M h (isInstance (.ref e) (.type T)) true :=
  I.type.andThen fun _ Q E s k hq => by
    obtain ⟨hp, g, d, t, os⟩ := s
    refine wpAny_isSubtype_exc (k _ _ (at59 X)) ?_
    rw [q]; exact hq

section
variable {prog : Program} {w : World} {A : Around} {E : Value → Shared → Prop} {s : Shared}

theorem sets59 {e : Addr} {ox : Obj} {od : Option Obj} {name : Str} {v : Value} {Q : Unit → Shared → Prop} (X : (KF w.params).In s.heap) (I : InstAt s.heap e ox 59 od)
    (hf : findIn (KF w.params) (.ref 59) name = some none)
    (h : ∀ (A' : Around) (F : PySem.Fin → Shared → Prop) (E' : Value → Shared → Prop), (∀ x s', Q () s' → F (.done (.ret x)) s') → wpAny (model prog w) A' (storeInOwnDict (.ref e) (.ref 59) (.str name s.toks) name v false) F E' { s with toks := s.toks + 1 }) :
    wpAny (model prog w) A (setAttr (.ref e) name v) Q E s := by
  have SF := PySem.F.store_object
  refine set_plain X I find59_set ?_
  refine codeAny_call_builtin SF.slot.plain SF.entry (@check_slot (model prog w) _ _ { s with toks := s.toks + 1 } "object.__setattr__" "object" "__setattr__" (.ref e) [.str name s.toks, v] [] _ SF.kind SF.split (inst59 (T := "object") X I (by decide +kernel)) (SF.args (.ref e) (.str name s.toks) v) ?_)
  have hm : Looks (model prog w) s.heap (mroOf (.ref 59)) (.ref 59 :: bm59) := fun _ Q E s k hq => by
    obtain ⟨hp, g, d, t, os⟩ := s
    exact wpAny_mroOf_exc (k _ _ (at59 X)) hq
  have pass : refuseLoop (.ref e) "__setattr__" (.ref 59 :: bm59) = pure () := by
    unfold bm59
    rw [refuseLoop_ref, refuseLoop_ref]
    kernel_rfl
  rw [osa_eq, refuse_eq]
  refine wpAny_bind (wpAny_bind (I.type.here (s := { s with toks := s.toks + 1 }) (wpAny_bind (hm.here (s := { s with toks := s.toks + 1 }) ?_))))
  rw [pass]
  refine wpAny_pure (wpAny_bind (I.type.here (s := { s with toks := s.toks + 1 }) (wpAny_bind ((looks_findIn X hf).here (s := { s with toks := s.toks + 1 }) (wpAny_bind (wpAny_pure ?_))))))
  exact h _ _ _ fun x s' q => q

end
end Mine
end

section
open PySem PySem.W PyProof.Rows PySem.Calls PySem.SeqAt Builtin Builtin.ObjectAttr
set_option linter.all false
set_option maxRecDepth 100000
set_option maxHeartbeats 4000000
namespace Mine

section
variable {prog : Program} {w : World} {A : Around} {E : Value → Shared → Prop} {s : Shared}

/-- the dict of an instance is written -/
theorem dict_put {dx : Addr} {mA : Str → Option Value} {ns : List Str} {name : Str} {tk : Tok} {v : Value} {F : PySem.Fin → Shared → Prop} (hd : s.heap.Ns1 dx mA) (hw : PySem.Within mA ns) (hz : ns.length ≤ 10)
    (hq : ∀ h' tk', h'.Ns1 dx (fun y => if y = name then some v else mA y) → Heap.SameBut dx s.heap h' → F (.done (.ret .none)) { s with heap := h', toks := tk' }) :
    wpAny (model prog w) A (storeInDict dx (.str name tk) name v) F E s := by
  unfold storeInDict newKeyGuard
  refine wpAny_bind (wpAny_pure (wpAny_bind (wpAny_nsSet1 hd fun h' hn hs => ?_)))
  obtain ⟨oD, esD, epD, hoD, hdD, hcD⟩ := hn.count (PySem.Within.cons name v hw)
  refine wpAny_bind (wpAny_lookBehind hoD (by rw [hdD]; exact pastItsLine_dict (Nat.le_trans hcD (by rw [List.length_cons, sizeLine_eq]; (first | lia | omega)))) ?_)
  exact wpAny_pure (hq _ _ hn hs)

theorem put_none {e : Addr} {vs : Array Value} {name : Str} {v : Value} {Q : Unit → Shared → Prop} (X : (KF w.params).In s.heap) (he : s.heap.get? e = some ⟨.ref 59, none, .fields vs, #[]⟩)
    (hf : findIn (KF w.params) (.ref 59) name = some none)
    (hq : ∀ h' tk' dx, h'.get? e = some ⟨.ref 59, some dx, .fields vs, #[]⟩ → dx ≠ e → s.heap.get? dx = none → h'.Ns1 dx (fun y => if y = name then some v else none) → (∀ b o, b ≠ e → s.heap.get? b = some o → h'.get? b = some o) →
      Q () { s with heap := h', toks := tk' }) :
    wpAny (model prog w) A (setAttr (.ref e) name v) Q E s := by
  refine sets59 (od := none) X ⟨he, rfl, rfl, trivial⟩ hf fun A' F E' hF => ?_
  obtain ⟨h, g, d, t, os⟩ := s
  have C := at59 X
  have he₁ : (h.push { cls := .type "dict", data := .dict #[] }).get? e = some ⟨.ref 59, none, .fields vs, #[]⟩ := Heap.get?_push_of_some _ he
  have hes : e ≠ h.objs.size := Nat.ne_of_lt (Heap.lt_size he)
  refine wpAny_bind (wpAny_pure (wpAny_bind (wpAny_bind (wpAny_loadPart he (wpAny_bind (looks_clsIn X (by rfl) _ _ _ _ (fun _ _ e => e) ?_))))))
  refine wpAny_bind (wpAny_alloc' (wpAny_bind (wpAny_update' he₁ (wpAny_pure ?_))))
  refine dict_put (mA := fun _ => none) (ns := []) ?_ PySem.Within.nil (Nat.zero_le _) fun h' tk' hn hs => ?_
  · refine Heap.Ns1.of_empty ?_
    exact ⟨_, #[], _, (Heap.get?_update_ne _ _ _ _ hes.symm).trans (Heap.get?_push_at rfl rfl), rfl, fun e he => absurd he (by simp), fun _ => rfl⟩
  · refine hF _ _ (hq h' tk' h.objs.size ((hs.2 e hes).trans ((Heap.get?_update_self _ he₁ rfl))) hes.symm (Heap.get?_none_of_le (Nat.le_refl _)) hn fun b o hb e' => ?_)
    exact (hs.2 b (Nat.ne_of_lt (Heap.lt_size e'))).trans ((Heap.get?_update_ne _ _ _ _ hb).trans (Heap.get?_push_of_some _ e'))

theorem put_some {e dx : Addr} {vs : Array Value} {mA : Str → Option Value} {ns : List Str} {name : Str} {v : Value} {Q : Unit → Shared → Prop} (X : (KF w.params).In s.heap) (he : s.heap.get? e = some ⟨.ref 59, some dx, .fields vs, #[]⟩)
    (hD : s.heap.Ns1 dx mA) (hw : PySem.Within mA ns) (hz : ns.length ≤ 10) (hne : dx ≠ e) (hf : findIn (KF w.params) (.ref 59) name = some none)
    (hq : ∀ h' tk', h'.get? e = some ⟨.ref 59, some dx, .fields vs, #[]⟩ → (∀ b o, b ≠ dx → s.heap.get? b = some o → h'.get? b = some o) → Q () { s with heap := h', toks := tk' }) :
    wpAny (model prog w) A (setAttr (.ref e) name v) Q E s := by
  obtain ⟨oD, _, _, hoD, _⟩ := id hD
  refine sets59 (od := some oD) X ⟨he, rfl, rfl, hoD⟩ hf fun A' F E' hF => ?_
  obtain ⟨h, g, d, t, os⟩ := s
  have C := at59 X
  refine wpAny_bind (wpAny_pure (wpAny_bind (wpAny_bind (wpAny_loadPart he (wpAny_bind (looks_clsIn X (by rfl) _ _ _ _ (fun _ _ e => e) ?_))))))
  refine wpAny_pure (a := some dx) ?_
  exact dict_put hD hw hz fun h' tk' hn hs => hF _ _ (hq h' tk' ((hs.2 e hne.symm).trans he) fun b o hb e' => (hs.2 b hb).trans e')
end
end Mine
end

section
open PySem PySem.W PyProof.Rows PySem.Calls PySem.SeqAt Builtin Builtin.ObjectAttr
set_option linter.all false
set_option maxRecDepth 100000
set_option maxHeartbeats 4000000
namespace Mine

noncomputable abbrev fs59 (t : Addr) : Array Value := #[.ref t, .none, .none, .none, .bool false, .none]

section
variable {prog : Program} {w : World} {A : Around} {E : Value → Shared → Prop} {s : Shared} {mg mb : Str → Option Value} {base : Heap}

theorem alls_nil {P : Str × Value → Prop} : ∀ x ∈ ([] : List (Str × Value)), P x := fun _ h => nomatch h
theorem alls_cons {P : Str × Value → Prop} {a : Str × Value} {l : List (Str × Value)} (h : P a) (r : ∀ x ∈ l, P x) : ∀ x ∈ a :: l, P x := fun x hx => by
  rcases List.mem_cons.mp hx with rfl | hx
  · exact h
  · exact r x hx
/-- Exception.__init__(self, what) -/
theorem base59 {e t₀ : Addr} {v : Value} {Q : Value → Shared → Prop} (X : (KF w.params).In s.heap) (he : s.heap.get? e = some ⟨.ref 59, none, .fields (fs59 t₀), #[]⟩)
    (hq : ∀ h', h'.get? e = some ⟨.ref 59, none, .fields (fs59 s.heap.objs.size), #[]⟩ → (∀ b o, b ≠ e → s.heap.get? b = some o → h'.get? b = some o) → Q .none { s with heap := h' }) :
    wpAny (model prog w) A (call (.builtin "Exception.__init__") [.ref e, v]) Q E s := by
  have F := PySem.F.excBase_Exception
  refine wpAny_call (codeAny_call_builtin F.init.plain F.initEntry ?_)
  have C := at59 X
  have b1 : (Value.ref 59 :: bm59).contains (.type "Exception") = true := by decide +kernel
  have hshort := F.noStar
  obtain ⟨hp, g, d, t, os⟩ := s
  simp only [checkBuiltinCall, F.initKind, F.initSplit, F.initRow]
  repeat (first | with_reducible refine wpAny_loadPart_at he ?_ | with_reducible refine wpAny_loadPart_at C ?_ | (with_reducible refine wpAny_isSubtype_exc C ?_; rw [b1]) | wp_step)
  show Q _ _
  have he₁ := Heap.get?_push_of_some (h := hp) { cls := .type "tuple", data := .seq [v].toArray } he
  refine hq _ ?_ fun b o hb ho => ?_
  · refine (Heap.get?_update_self _ he₁ rfl).trans ?_
    rfl
  · refine (Heap.get?_update_other _ _ (Ne.symm hb)).trans ?_
    exact Heap.get?_push_of_some _ ho

theorem init59 (G : Gr (KF w.params) mg mb base) (hb : Kp base s.heap) (hroom : A.depth < recursionLimit) {e t₀ : Addr} {v : Value} {R : Result → Shared → Prop}
    (he : s.heap.get? e = some ⟨.ref 59, none, .fields (fs59 t₀), #[]⟩) (hen : base.get? e = none)
    (hq : ∀ h' tk od t₁, h'.get? e = some ⟨.ref 59, od, .fields (fs59 t₁), #[]⟩ → (∀ b o, b ≠ e → s.heap.get? b = some o → h'.get? b = some o) → R (.ok (.ret .none)) { s with heap := h', toks := tk }) :
    codeAny (model prog w) A (.call (.ref 36) ⟨[.ref e, v], []⟩) R s := by
  have X := G.k.keeps hb
  refine codeAny_call_def (binds := [("self", .ref e), ("what", v), ("at", .int (-1) 209)]) hroom (X 36 _ (by rfl)) (by rfl) (G.lim.keeps hb) (codeRec_of X (by rfl)) (by rfl) (BindsTo.of_defaults (by rfl) (X 29 _ (by rfl)) (by rfl) (by rfl) (by rfl)) (by decide) (alls_cons (by rfl) (alls_cons (by rfl) (alls_cons (by rfl) alls_nil))) (fun h₁ hns hk => ?_)
  have F : Fr s.heap s.heap.objs.size h₁ _ := ⟨hns, hk, Nat.le_refl _⟩
  have X₁ := X.keeps hk
  have hb₁ : Kp base h₁ := hb.trans hk
  have he₁ := hk _ _ he
  have heL : e ≠ s.heap.objs.size := Nat.ne_of_lt (Heap.lt_size he)
  refine wpAny_execs_cons (wpAny_Expr (methodCall_KW ((glob_built (v := .type "Exception") G (by rfl) (by rfl) (by rfl) (by rfl) (by rfl) (by rfl) : GlobIs prog w _ base _ (Str.ofString "Exception") (.type "Exception")) _ _ _ _ hb₁ ?_)) (interactive_fn (by rfl)) (by rfl))
  refine method_type (v := .builtin "Exception.__init__") F X (by rfl) (by decide +kernel) (by rfl) (by rfl) ?_
  refine callWith_of (P := Kp base) rfl keep_builtin ?_
  refine Calls.evalArgs_plain (spliced_cons (wpAny_Name (wpAny_loadName_local (by rfl) (by rfl) hns (by rfl) ?_) (by decide)))
  refine spliced_cons (wpAny_Name (wpAny_loadName_local (by rfl) (by rfl) hns (by rfl) ?_) (by decide))
  refine spliced_nil ⟨hb₁, ?_⟩
  show wpAny _ _ (call (.builtin "Exception.__init__") [.ref e, v]) _ _ _
  refine base59 X₁ he₁ fun h₂ he₂ hk₂ => ?_
  have hns₂ := hns.at' (hk₂ _ · heL.symm)
  have ne : ∀ {a o}, base.get? a = some o → a ≠ e := fun q z => by rw [z, hen] at q; cases q
  have hb₂ : Kp base h₂ := fun a o q => hk₂ a o (ne q) (hb₁ a o q)
  refine wpAny_execs_cons (plainObj_wpAny_Assign_Attribute (wpAny_Name (wpAny_loadName_local (by rfl) (by rfl) hns₂ (by rfl) ?_) (by decide)))
  refine wpAny_Name (wpAny_loadName_local (by rfl) (by rfl) hns₂ (by rfl) ?_) (by decide)
  refine put_none (G.k.keeps hb₂) he₂ (by rfl) fun h₃ tk₃ dx he₃ hdx hdn hD hk₃ => ?_
  have hns₃ := hns₂.at' (hk₃ _ · heL.symm)
  have hb₃ : Kp base h₃ := fun a o q => hk₃ a o (ne q) (hb₂ a o q)
  have hdL : dx ≠ s.heap.objs.size := fun z => by
    obtain ⟨_, _, _, q, _⟩ := hns₂
    rw [z] at hdn
    exact absurd q (by rw [hdn]; simp)
  refine wpAny_execs_cons (plainObj_wpAny_Assign_Attribute (wpAny_Name (wpAny_loadName_local (by rfl) (by rfl) hns₃ (by rfl) ?_) (by decide)))
  refine wpAny_Name (wpAny_loadName_local (by rfl) (by rfl) hns₃ (by rfl) ?_) (by decide)
  refine put_some (ns := ["what"]) (G.k.keeps hb₃) he₃ hD (PySem.Within.cons _ _ PySem.Within.nil) (by decide) hdx (by rfl) fun h₄ tk₄ he₄ hk₄ => ?_
  refine wpAny_execs_nil ?_
  refine hq _ _ _ _ he₄ fun b o hbe q => ?_
  have q1 := hk₂ b o hbe (hk b o q)
  exact hk₄ b o (fun z => by rw [z] at q1; rw [hdn] at q1; cases q1) (hk₃ b o hbe q1)
end
end Mine
end

section
open PySem PySem.W PyProof.Rows PySem.Calls PySem.SeqAt Builtin Builtin.ObjectAttr
set_option linter.all false
set_option maxRecDepth 100000
set_option maxHeartbeats 4000000
namespace Mine

theorem tc_call {p : Params} : specialIn (KF p) (.ref 59) "__call__" = some (some (.builtin "type.__call__")) := by rfl
theorem tc_typ {p : Params} : instIn (KF p) (.ref 59) (.type "type") = some true := by rfl
theorem fi59 {p : Params} : findIn (KF p) (.ref 59) "__init__" = some (some (.ref 36)) := by rfl
theorem tf36 {p : Params} : typeIn (KF p) (.ref 36) = some (.type "function") := by rfl

section
variable {prog : Program} {w : World} {A : Around} {E : Value → Shared → Prop} {s : Shared} {mg mb : Str → Option Value} {base : Heap}

theorem make59 (G : Gr (KF w.params) mg mb base) (hb : Kp base s.heap) (hroom : A.depth + 1 < recursionLimit) {v : Value} {Q : Value → Shared → Prop}
    (hq : ∀ h' tk e od t, s.heap.get? e = none → h'.get? e = some ⟨.ref 59, od, .fields (fs59 t), #[]⟩ → (∀ b o, s.heap.get? b = some o → h'.get? b = some o) → Q (.ref e) { s with heap := h', toks := tk }) :
    wpAny (model prog w) A (call (.ref 59) [v]) Q E s := by
  have X := G.k.keeps hb
  have C := at59 X
  have call_ := looks_specialIn (M := model prog w) X tc_call
  have typ := looks_instIn (M := model prog w) X tc_typ
  refine wpAny_call (codeAny_of_tree ?_)
  show wpAny _ _ (callAny (.ref 59) _) _ _ _
  refine nd_load C ?_
  show wpAny _ _ (callAny.viaDunder (.ref 59) _) _ _ _
  unfold callAny.viaDunder
  refine wpAny_bind (call_.at ?_)
  dsimp only
  rw [tc_bind]
  refine wpAny_bind (wpAny_pure (wpAny_bind (wpAny_pure ?_)))
  refine wpAny_pure (a := Fin.again (.call (.builtin "type.__call__") ⟨[.ref 59, v], []⟩)) (And.intro rfl ?_)
  refine codeAny_call_builtin_at (Code.quiet_builtin _ (by decide +kernel)) entry_typeCall (check_slot tc_kind tc_split typ (tc_args _ _ _) ?_)
  unfold Builtin.«type.__call__»
  obtain ⟨h, g, d, t, os⟩ := s
  have hm : Looks (model prog w) h (mroOf (.ref 59)) (.ref 59 :: bm59) := fun _ Q E s k hq => by
    obtain ⟨hp, g, d, t, os⟩ := s
    exact wpAny_mroOf_exc (k _ _ (at59 X)) hq
  have made : Looks (model prog w) h (Bind.madeBy (.ref 59)) (some "Exception.__new__") := fun _ Q E s k hq => by
    obtain ⟨hp, g, d, t, os⟩ := s
    exact wpAny_madeBy_exc (k _ _ (at59 X)) hq
  have ne : (Value.ref 59 :: bm59).isEmpty = false := rfl
  repeat (first | simp only [ne, Bool.false_eq_true, if_false] | with_reducible refine wpAny_call ?_ | lk)
  refine new59 X (by size_fits) ?_
  have k : ∀ b o, h.get? b = some o → ((h.push { cls := .type "tuple", data := .seq [v].toArray }).push { cls := .ref 59, data := .fields (fs59 h.objs.size) }).get? b = some o := fun b o e => Heap.get?_push_of_some _ (Heap.get?_push_of_some _ e)
  have hx : ((h.push { cls := .type "tuple", data := .seq [v].toArray }).push { cls := .ref 59, data := .fields (fs59 h.objs.size) }).get? (h.objs.size + 1) = some { cls := .ref 59, data := .fields (fs59 h.objs.size) } := by heap_get
  have X₁ := X.keeps k
  have t1 : Looks (model prog w) ((h.push { cls := .type "tuple", data := .seq [v].toArray }).push { cls := .ref 59, data := .fields (fs59 h.objs.size) }) (typeOf (.ref (h.objs.size + 1))) (.ref 59) := (Looks.ld hx).andThen .now
  have s1 : Looks (model prog w) ((h.push { cls := .type "tuple", data := .seq [v].toArray }).push { cls := .ref 59, data := .fields (fs59 h.objs.size) }) (isSubtype (.ref 59) (.ref 59)) true := looks_mroIn X₁ (by rfl)
  have i1 : Looks (model prog w) ((h.push { cls := .type "tuple", data := .seq [v].toArray }).push { cls := .ref 59, data := .fields (fs59 h.objs.size) }) (typeLookup (.ref 59) "__init__") (some (.ref 36)) := looks_findIn X₁ fi59
  have b1 := bind_fn (M := model prog w) X₁ (.ref (h.objs.size + 1)) tf36
  unfold isInstance callSpecial? specialOf
  repeat (first | with_reducible refine wpAny_call ?_ | lk)
  have hno : h.get? (h.objs.size + 1) = none := Heap.get?_none_of_le (Nat.le_succ _)
  have hr : (A.under (.builtin "type.__call__" ⟨[.ref 59, v], []⟩)).depth < recursionLimit := by rw [depth_under_make]; (first | lia | omega)
  refine init59 (s := ⟨_, _, _, _, _⟩) G (hb.trans k) hr hx (hb.none hno) fun h' tk od t₁ a1 a2 => ?_
  refine wpAny_pure (wpAny_pure ?_)
  refine hq h' tk _ od t₁ hno a1 fun b o q => a2 b o (fun z => ?_) (k b o q)
  rw [z, hno] at q; cases q
end
end Mine
end

section
open PySem PySem.W PyProof.Rows PySem.Calls PySem.SeqAt Builtin Builtin.ObjectAttr
set_option linter.all false
set_option maxRecDepth 100000
set_option maxHeartbeats 4000000
namespace Mine

theorem keep59 {p : Params} {M : Model} {base : Heap} (X : (KF p).In base) : ∀ h, Kp base h → ∃ k, (k = Keeper.frame ∨ k = Keeper.machine ∨ k = Keeper.boundFrame) ∧ Looks M h (keeperOf (.ref 59)) k :=
  fun h hb => keeps_K (show keepIn (KF p) (.ref 59) = true by rfl) h (X.keeps hb)

section
variable {prog : Program} {w : World} {A : Around} {E : Value → Shared → Prop} {s : Shared} {mg mb : Str → Option Value} {base : Heap}

theorem raise59 (G : Gr (KF w.params) mg mb base) (hb : Kp base s.heap) (hh : A.handled = none) (hroom : A.depth + 1 < recursionLimit) {env : Env} {msg : Str} {np kp cpos pos : Pos} {k : Nat} {Q : Flow → Shared → Prop}
    (hG : GlobIs prog w A base env "FilterFault" (.ref 59))
    (hE : ∀ h' tk e od t, s.heap.get? e = none → h'.get? e = some ⟨.ref 59, od, .fields (fs59 t), #[]⟩ → (∀ b o, s.heap.get? b = some o → h'.get? b = some o) → E (.ref e) { s with heap := h', toks := tk }) :
    wpAny (model prog w) A (exec (.Raise (some (.Call (.Name "FilterFault" np) [.Constant (.str msg) k kp] [] cpos)) none pos) env) Q E s := by
  rw [arm_exec_Raise]
  refine wpAny_bind (wpAny_standAt ?_)
  show wpAny _ _ (raiseStmt env (some _) none) _ _ _
  unfold raiseStmt
  refine wpAny_bind (wpAny_bind (Call_ (hG _ _ _ _ hb ?_)))
  refine callWith_of (P := Kp base) rfl (keep59 G.k) ?_
  refine Calls.evalArgs_plain (spliced_cons (wpAny_Constant_str (k := k) (pos := kp) (spliced_nil ⟨hb, ?_⟩)))
  show wpAny _ _ (call (.ref 59) [.str msg s.toks]) _ _ _
  refine make59 (s := { s with toks := s.toks + 1 }) G hb hroom fun h' tk e od t h1 h2 h3 => ?_
  refine wpAny_bind (wpAny_standAt (wpAny_pure ?_))
  have X := G.k.keeps (hb.trans h3)
  have C := at59 X
  have b1 : (Value.ref 59 :: bm59).contains (.type "BaseException") = true := by decide +kernel
  obtain ⟨hp, g, d, tk, os⟩ := s
  repeat (first | with_reducible refine wpAny_loadPart_at h2 ?_ | with_reducible refine wpAny_loadPart_at C ?_ | (with_reducible refine wpAny_isSubtype_exc C ?_; rw [b1]) | wp_step)
  exact wpAny_raiseNew_none hh (hE h' _ e od t h1 h2 h3)
end
end Mine
end

section
open PySem PySem.W PyProof.Rows PySem.Calls PySem.SeqAt Builtin Builtin.ObjectAttr
set_option linter.all false
set_option maxRecDepth 100000
set_option maxHeartbeats 4000000
namespace Mine

noncomputable abbrev ex59 (od : Option Addr) (t : Addr) (tb : Value) : Obj := ⟨.ref 59, od, .fields #[.ref t, tb, .none, .none, .bool false, .none], #[]⟩

/-- from `hr` on only the frames' slots moved -/
structure Mv (hr : Heap) (F : List Addr) (h : Heap) : Prop where
  kp : ∀ b o, hr.get? b = some o → b ∉ F → h.get? b = some o
  sl : ∀ b o, hr.get? b = some o → b ∈ F → ∃ sl, h.get? b = some { o with slots := sl }
theorem Mv.any {hr h : Heap} {F : List Addr} (x : Mv hr F h) {b : Addr} {o : Obj} (e : hr.get? b = some o) : ∃ sl, h.get? b = some { o with slots := sl } := by
  by_cases q : b ∈ F
  · exact x.sl b o e q
  · exact ⟨o.slots, x.kp b o e q⟩
theorem Mv.start {hr h : Heap} {F : List Addr} (k : ∀ b o, hr.get? b = some o → h.get? b = some o) : Mv hr F h := ⟨fun b o e _ => k b o e, fun b o e _ => ⟨o.slots, k b o e⟩⟩
theorem Mv.step {hr h h' : Heap} {F : List Addr} (x : Mv hr F h) (k : ∀ b o, hr.get? b ≠ none → h.get? b = some o → h'.get? b = some o) : Mv hr F h' := by
  refine ⟨fun b o e q => k b o (by rw [e]; simp) (x.kp b o e q), fun b o e q => ?_⟩
  obtain ⟨sl, z⟩ := x.sl b o e q
  exact ⟨sl, k b _ (by rw [e]; simp) z⟩
theorem Mv.slots {hr h h' : Heap} {F F' : List Addr} (x : Mv hr F h) (k : Heap.SlotsOnly F' h h') (hF : ∀ b ∈ F', b ∈ F) : Mv hr F h' := by
  refine ⟨fun b o e q => (k.2.1 b fun z => q (hF b z)).trans (x.kp b o e q), fun b o e q => ?_⟩
  obtain ⟨sl, z⟩ := x.sl b o e q
  obtain ⟨sl', z'⟩ := k.2.2 b _ z
  exact ⟨sl', z'⟩

structure Fly (hr : Heap) (F : List Addr) (e t : Addr) (od : Option Addr) (fl : Value) (h : Heap) : Prop where
  mv : Mv hr F h
  en : hr.get? e = none
  tb : ∃ T oT ts, T ≠ e ∧ hr.get? T = none ∧ h.get? e = some (ex59 od t (.ref T)) ∧ h.get? T = some oT ∧ oT.data = .fields ts ∧ ts[3]? = some fl

section
variable {M : Model} {A : Around} {E : Value → Shared → Prop} {s : Shared} {hr base : Heap} {F : List Addr}

theorem frames_of {h : Heap} {l : List Env} (m : Mv hr F h) (hl : hr.FunFrames base l) : h.FunFrames base l :=
  hl.of_keeps fun b o e _ => let ⟨_, z⟩ := m.any e; ⟨_, z, rfl⟩

/-- the entry for a frame is laid -/
theorem note_core {env : Env} {outer : List Env} {L e t : Addr} {od : Option Addr} {tb head : Value} {b : Bool} {Q : Unit → Shared → Prop} (hfr : A.frames = some (env :: outer)) (hl : hr.FunFrames base (env :: outer)) (hF : ∀ b ∈ (env :: outer).filterMap (·.frame), b ∈ F)
    (hf : env.frame = some L) (hm : Mv hr F s.heap) (hen : hr.get? e = none) (he : s.heap.get? e = some (ex59 od t tb))
    (hq : ∀ h', Fly hr F e t od (rawInt L) h' → Q () { s with heap := h' }) :
    wpAny M A (do let a ← frameOf env; let pl ← entryPlaceOf L b; let x ← EntryCells.newEntry head a .none (rawInt L) .none pl; setField (.ref e) 1 x) Q E s := by
  have hls := frames_of hm hl
  refine wpAny_bind (wpAny_frameOf_fun hfr hls hf fun h₁ hs₁ => ?_)
  refine wpAny_bind (wpAny_entryPlaceOf fun pl hpl => ?_)
  unfold EntryCells.newEntry newFields
  have hm₁ := hm.slots hs₁ hF
  have hne : e ∉ (env :: outer).filterMap (·.frame) := fun q => by
    obtain ⟨o, ho, _⟩ := (hl.mem q).2
    rw [hen] at ho; cases ho
  have he₁ : h₁.get? e = some (ex59 od t tb) := (hs₁.2.1 e hne).trans he
  refine wpAny_bind (wpAny_newObj_type ?_ (hpl.sizeOk5 _ _ _ _ _))
  have he₂ := Heap.get?_push_of_some (h := h₁) { cls := .type "traceback", dict := none, data := .fields ([head, .ref L, .none, rawInt L, .none] ++ (if pl.isEmpty then List.replicate 6 Value.none else pl)).toArray } he₁
  refine wpAny_setField he₂ rfl (by show 1 < 6; decide) (hq _ ?_)
  have hTe : h₁.objs.size ≠ e := Nat.ne_of_gt (Heap.lt_size he₁)
  refine ⟨hm₁.step fun b o hb z => ?_, hen, h₁.objs.size, _, _, hTe, ?_, ?_, (Heap.get?_update_other _ _ (Ne.symm hTe)).trans (Heap.get?_push_size h₁ rfl), rfl, ?_⟩
  · refine (Heap.get?_update_other _ _ (fun q => hb (by rw [← q]; exact hen))).trans (Heap.get?_push_of_some _ z)
  · cases q : hr.get? h₁.objs.size with
    | none => rfl
    | some o =>
      obtain ⟨_, z⟩ := hm₁.any q
      exact absurd (Heap.lt_size z) (Nat.lt_irrefl _)
  · exact (Heap.get?_update_self _ he₂ rfl).trans rfl
  · simp

/-- the first frame that the exception leaves -/
theorem note_first {env : Env} {outer : List Env} {L e t : Addr} {od : Option Addr} {Q : Unit → Shared → Prop} (hfr : A.frames = some (env :: outer)) (hl : hr.FunFrames base (env :: outer)) (hF : ∀ b ∈ (env :: outer).filterMap (·.frame), b ∈ F)
    (hf : env.frame = some L) (hm : Mv hr F s.heap) (hen : hr.get? e = none) (he : s.heap.get? e = some (ex59 od t .none))
    (hq : ∀ h', Fly hr F e t od (rawInt L) h' → Q () { s with heap := h' }) : wpAny M A (noteFrame (.ref e) env) Q E s := by
  unfold noteFrame
  simp only [hf]
  refine wpAny_bind (wpAny_field (x := .none) he rfl rfl ?_)
  rw [if_neg (by decide)]
  exact note_core hfr hl hF hf hm hen he hq

theorem fly_off {e t : Addr} {od : Option Addr} {fl : Value} {Q : Unit → Shared → Prop} (x : Fly hr F e t od fl s.heap) (hq : ∀ h', Fly hr F e t od .none h' → Q () { s with heap := h' }) : wpAny M A (setFlight (.ref e) none) Q E s := by
  obtain ⟨m, en, T, oT, ts, hT, hTn, he, hoT, hd, h3⟩ := x
  unfold setFlight
  have hz : 3 < ts.size := (Array.getElem?_eq_some_iff.mp h3).1
  refine wpAny_bind (wpAny_field (x := .ref T) he rfl rfl ?_)
  rw [if_pos (show (Value.ref T != Value.none) = true from by simp)]
  refine wpAny_setField hoT hd hz (hq _ ⟨m.step fun b o hb z => (Heap.get?_update_other _ _ fun q => hb (by rw [← q]; exact hTn)).trans z, en, T, _, _, hT, hTn, (Heap.get?_update_other _ _ hT).trans he, Heap.get?_update_self _ hoT (Obj.isFreed_of_fields (Obj.data_mapFields hd _)), Obj.data_mapFields hd _, by simp [hz]⟩)

theorem note_next {env : Env} {outer : List Env} {L e t : Addr} {od : Option Addr} {Q : Unit → Shared → Prop} (hfr : A.frames = some (env :: outer)) (hl : hr.FunFrames base (env :: outer)) (hF : ∀ b ∈ (env :: outer).filterMap (·.frame), b ∈ F)
    (hf : env.frame = some L) (x : Fly hr F e t od .none s.heap) (hq : ∀ h', Fly hr F e t od (rawInt L) h' → Q () { s with heap := h' }) : wpAny M A (noteFrame (.ref e) env) Q E s := by
  obtain ⟨m, en, T, oT, ts, hT, hTn, he, hoT, hd, h3⟩ := x
  unfold noteFrame
  simp only [hf]
  refine wpAny_bind (wpAny_field (x := .ref T) he rfl rfl ?_)
  rw [if_pos (show (Value.ref T != Value.none) = true from by simp)]
  refine wpAny_bind (wpAny_field hoT hd h3 ?_)
  rw [if_neg (show ¬ ((Value.none == rawInt L) = true) from by simp [rawInt])]
  refine wpAny_bind (wpAny_setField hoT hd (Array.getElem?_eq_some_iff.mp h3).1 ?_)
  exact note_core hfr hl hF hf (m.step fun b o hb z => (Heap.get?_update_other _ _ fun q => hb (by rw [← q]; exact hTn)).trans z) en ((Heap.get?_update_other _ _ hT).trans he) hq
end
end Mine
end

section
open PySem PySem.W PyProof.Rows PySem.Calls PySem.SeqAt
set_option linter.all false
set_option maxRecDepth 100000
set_option maxHeartbeats 4000000
namespace Mine

section
variable {prog : Program} {w : World} {A : Around} {base : Heap} {K : Frag} {mg mb : Str → Option Value}

theorem frame_none {h : Heap} {env : Env} {outer : List Env} {L : Addr} {o : Obj} (hk : env.scope.kind ≠ .module) (hf : env.frame = some L) (hn : base.get? L = none) (ho : h.get? L = some o) (hd : ∀ vs, o.data ≠ .fields vs) (hl : h.FunFrames base outer) :
    h.FunFrames base (env :: outer) := ⟨hk, ⟨L, o, hf, hn, ho, hd⟩, hl⟩
end

section
variable {prog : Program} {w : World} {A : Around} {base : Heap} {mg mb : Str → Option Value}

theorem code_sig (G : Gr (KF w.params) mg mb base) (hh : A.handled = none) (hu : A.units + 9 < cLine) (hroom : A.depth + 3 ≤ recursionLimit) {fd : FuncData} {oc : Value} {od : Option Addr} {osl : Array (Option Value)}
    (ho : (KF w.params).lookup 113 = some ⟨oc, od, .func fd, osl⟩) (L : Addr) : SigOk prog w (A.deeper (callEnvC fd L 113)) base (callEnvC fd L 113) Γ_code_lengths := by
  have e : (KF w.params).lookup 113 = some ⟨oc, od, .func fd, osl⟩ := ho
  cases e
  exact ⟨(fnL_cons ⟨_, glob_built (v := .builtin "sorted") G (by rfl) (by rfl) (by rfl) (by rfl) (by rfl) (by rfl), fn_sorted⟩ (fnL_cons ⟨_, glob_def (v := .ref 108) G (by rfl) (by rfl) (by rfl) (by rfl), fn_package_rows G hh (Nat.lt_of_le_of_lt (by simp only [Around.deeper_units]; (first | lia | omega)) hu) (Nat.le_trans (by simp only [Around.deeper]; (first | lia | omega)) hroom)⟩ fnL_nil)),
      (fun _ => glob_built (v := .builtin "len") G (by rfl) (by rfl) (by rfl) (by rfl) (by rfl) (by rfl)),
      (fun _ => glob_built (v := .type "range") G (by rfl) (by rfl) (by rfl) (by rfl) (by rfl) (by rfl)),
      (fun e => nomatch e),
      (fun e => nomatch e),
      (fun _ => glob_built (v := .type "reversed") G (by rfl) (by rfl) (by rfl) (by rfl) (by rfl) (by rfl)),
      (all_cons ⟨by rfl, by rfl⟩ all_nil),
      (all_cons (.inl (by rfl)) (all_cons (.inl (by rfl)) (all_cons (.inl (by rfl)) (all_cons (.inl (by rfl)) (all_cons (.inl (by rfl)) (all_cons (.inl (by rfl)) (all_cons (.inl (by rfl)) (all_cons (.inl (by rfl)) all_nil))))))))⟩
end
end Mine
end

section
open PySem PySem.W PyProof.Rows PySem.Calls PySem.SeqAt
set_option linter.all false
set_option maxRecDepth 100000
set_option maxHeartbeats 4000000
namespace Mine

theorem code_body : ∃ np kp cpos pos k msg p2 rest, B_code_lengths = clS 0 :: clS 1 :: .If clT [.Raise (some (.Call (.Name "FilterFault" np) [.Constant (.str msg) k kp] [] cpos)) none pos] [] p2 :: rest :=
  ⟨_, _, _, _, _, _, _, _, rfl⟩

theorem Fly.down {hr h₀ h : Heap} {F F' : List Addr} {e t : Addr} {od : Option Addr} {fl : Value} (x : Fly hr F e t od fl h) (k : Kp h₀ hr) (hF : ∀ b ∈ F, h₀.get? b ≠ none → b ∈ F') : Fly h₀ F' e t od fl h := by
  obtain ⟨m, en, T, oT, ts, hT, hTn, r⟩ := x
  refine ⟨⟨fun b o q z => m.kp b o (k b o q) fun w => z (hF b w (by rw [q]; simp)), fun b o q _ => m.any (k b o q)⟩, k.none en, T, oT, ts, hT, k.none hTn, r⟩

section
variable {prog : Program} {w : World} {A : Around} {base : Heap} {mg mb : Str → Option Value}

theorem cl_core (G : Gr (KF w.params) mg mb base) (hh : A.handled = none) (hu : A.units < cLine) (hroom : A.depth + 1 < recursionLimit) {env : Env}
    (sg : SigOk prog w A base env Γ_code_lengths) (hGF : GlobIs prog w A base env "FilterFault" (.ref 59))
    {cs : List Int} {n : Nat} (h8 : cs.length ≤ 8) (h2 : 2 ≤ (ordF cs).length) (hn : n ≤ 20) (hx : n < 1 ∨ 2 ^ n < (ordF cs).length)
    {g : PH} {s : Shared} {h₀ : Heap} {Q : Flow → Shared → Prop} {E : Value → Shared → Prop} (k0 : Kp base h₀) (C : Cf h₀ env (fun _ => 0) g (rho0 ["counts", "most"] [il cs, .int n]) s.heap)
    (hE : ∀ hr h' tk e t od, Kp h₀ hr → (∃ o, hr.get? env.locals = some o ∧ ∀ vs, o.data ≠ .fields vs) → hr.get? e = none → h'.get? e = some (ex59 od t .none) → Kp hr h' → E (.ref e) { s with heap := h', toks := tk }) :
    wpAny (model prog w) A (execs B_code_lengths env) Q E s := by
  obtain ⟨np, kp, cpos, pos, k, msg, p2, rest, eB⟩ := code_body
  rw [eB]
  have RS := snd_run (prog := prog) (w := w) (A := A) (base := base) hh hu 300
  have HT := snd_all (prog := prog) (w := w) (A := A) (base := base) hh hu 298
  obtain ⟨ρ₁, e0, P0⟩ := (cl0 (n := n) h8).out
  obtain ⟨ρ₂, e1, P1⟩ := (cl1 h8 P0).out
  have e2 := clTest h8 h2 hn hx P1
  refine wpAny_execs_cons ((RS 300 (Nat.le_refl _)).1 Γ_code_lengths _ _ _ e0 _ _ g s _ _ (C.low k0) sg fun f ow₁ g₁ h₁ tk₁ hf₁ S₁ T₁ => ?_)
  cases hf₁
  have C₁ := C.stp S₁ T₁
  refine wpAny_execs_cons ((RS 300 (Nat.le_refl _)).1 Γ_code_lengths _ _ _ e1 _ _ g₁ ⟨h₁, _, _, tk₁, _⟩ _ _ (C₁.low k0) sg fun f ow₂ g₂ h₂ tk₂ hf₂ S₂ T₂ => ?_)
  cases hf₂
  have C₂ := C₁.stp S₂ T₂
  refine wpAny_execs_cons (wpAny_If (HT.t Γ_code_lengths ρ₂ clT _ e2 env ow₂ g₂ ⟨h₂, _, _, tk₂, _⟩ _ _ C₂.S sg (k0.trans C₂.b) fun h₃ g₃ tk₃ X => ?_))
  have C₃ := C₂.ext X
  have kb := k0.trans C₃.b
  refine wpAny_execs_cons (raise59 (s := ⟨h₃, _, _, tk₃, _⟩) G kb hh hroom hGF fun h' tk e od t a1 a2 a3 => ?_)
  refine hE h₃ h' tk e t od C₃.b ?_ a1 a2 a3
  obtain ⟨m, ⟨o, es, ep, ho, hd, _⟩, _⟩ := C₃.S.loc
  exact ⟨o, ho, fun vs q => by rw [hd] at q; cases q⟩

theorem cl_raise (G : Gr (KF w.params) mg mb base) (hh : A.handled = none) (hu : A.units + 9 < cLine) (hroom : A.depth + 3 ≤ recursionLimit) {outer : List Env} (hfr : A.frames = some outer)
    {cs : List Int} {n : Nat} (h8 : cs.length ≤ 8) (h2 : 2 ≤ (ordF cs).length) (hn : n ≤ 20) (hx : n < 1 ∨ 2 ^ n < (ordF cs).length)
    {vs : List Value} {g : PH} {s : Shared} {Q E : Value → Shared → Prop} (hds : DIs g vs [il cs, .int n]) (hg : HS g s.heap) (hb : Kp base s.heap) (hl : s.heap.FunFrames base outer)
    (hE : ∀ h' tk e t od, Fly s.heap (outer.filterMap (·.frame)) e t od .none h' → E (.ref e) { s with heap := h', toks := tk }) :
    wpAny (model prog w) A (call (.ref 113) vs) Q E s := by
  refine fn_enter (body := B_code_lengths) (xs := ["counts", "most"]) G (by first | lia | omega) (by rfl) (by rfl) (by rfl) (by rfl) (fun vs hv => ?_) (by rfl) (by rfl) (by rfl) (by decide) (fun n => ?_) (ds := [il cs, .int n]) (by rfl) hds hg hb fun h₁ tk₁ C => ?_
  · exact bind2 (fun _ _ => rfl) vs hv
  · exact (all_cons (.inr ⟨by rfl, by rfl⟩) (all_cons (.inl (by rfl)) all_nil))
  have sg := code_sig (prog := prog) (A := A) G hh hu hroom (by rfl) s.heap.objs.size
  refine cl_core (A := A.deeper _) G hh (by simp only [Around.deeper_units]; (first | lia | omega)) (by simp only [Around.deeper]; (first | lia | omega)) sg (glob_def G (by rfl) (by rfl) (by rfl) (by rfl)) h8 h2 hn hx hb C fun hr h' tk e t od a1 a2 a3 a4 a5 => ?_
  obtain ⟨oL, ho, hd⟩ := a2
  have hlr : hr.FunFrames base outer := hl.of_keeps fun b o e _ => ⟨o, a1 b o e, rfl⟩
  have hL := get_size_none s.heap
  unfold leaving
  refine wpAny_bind (note_first (base := base) (Around.frames_deeper hfr) (frame_none (fun q => nomatch q) (by rfl) (hb.none hL) ho hd hlr) (fun _ z => z) (by rfl) (Mv.start a5) a3 a4 fun h2 F1 => ?_)
  refine fly_off F1 fun h3 F2 => ?_
  refine hE h3 tk e t od (F2.down a1 fun b hb hn => ?_)
  rw [List.filterMap_cons] at hb
  rcases List.mem_cons.mp hb with rfl | hb
  · exact absurd hL hn
  · exact hb
end
end Mine
end

section
open PySem PySem.W PyProof.Rows PySem.Calls PySem.SeqAt
set_option linter.all false
set_option maxRecDepth 100000
set_option maxHeartbeats 4000000
namespace Mine

theorem entry_unchain : entryFor table "proto.unchain" = some Builtin.«proto.unchain» := entryFor_of_tree (by kernel_rfl)

section
variable {prog : Program} {w : World} {A : Around} {E : Value → Shared → Prop} {s : Shared}

theorem unchain_none {e x : Addr} {ox : Obj} {vs : Array Value} {Q : Value → Shared → Prop} (hx : s.heap.get? x = some ox) (hd : ox.data = .fields vs) (h2 : vs[2]? = some .none) (h : Q .none s) :
    wpAny (model prog w) A (runValue (.builtin "proto.unchain" ⟨[.ref e, .ref x, .ref x, .bool false], []⟩)) Q E s := by
  refine wpAny_runValue (codeAny_builtin entry_unchain ?_)
  unfold Builtin.«proto.unchain»
  refine wpAny_bind (wpAny_field hx hd h2 ?_)
  exact wpAny_pure h

/-- an iterator over a list comes to its end while an exception is handled -/
theorem next_end_h {it l x : Addr} {i : Nat} {items : Array Value} {ox : Obj} {vs : Array Value} {Q : Option Value → Shared → Prop} (hh : A.handled = some (.ref x)) (hx : s.heap.get? x = some ox) (hxd : ox.data = .fields vs) (h2 : vs[2]? = some .none) (hxi : x ≠ it)
    (hit : s.heap.IsListIter it l i) (hl : s.heap.IsList l items) (hi : items[i]? = none)
    (hQ : ∀ h', (∀ b o, b ≠ it → s.heap.get? b = some o → h'.get? b = some o) → Q none { s with heap := h' }) : wpAny (model prog w) A (pyNext (.ref it)) Q E s := by
  obtain ⟨o, ho, hc, hd⟩ := id hit
  obtain ⟨ol, hol, _, nl, hdl⟩ := hl
  unfold pyNext
  refine wpAny_bind (wpAny_attempt (wpAny_callSpecial?_slot (name := Str.ofString "__next__") hit.typeIs slot_listiter_next
    (wpAny_call_entry slot_listiter_next hit.typeIs entry_listiter_next ?_ (args_listiter_next _))))
  show wpAny _ _ (field (.ref it) 0 >>= _) _ _ s
  refine wpAny_bind (wpAny_field ho hd (x := .ref l) rfl ?_)
  show wpAny _ _ (if (Value.ref l == Value.none) = true then _ else _) _ _ s
  rw [if_neg (show ¬ ((Value.ref l == Value.none) = true) from Bool.false_ne_true)]
  show wpAny _ _ (field (.ref it) 1 >>= _) _ _ s
  refine wpAny_bind (wpAny_field ho hd (x := .int i 0) rfl ?_)
  show wpAny _ _ (seqItems? (.ref l) >>= _) _ _ s
  refine wpAny_bind (wpAny_seqItems hol hdl ?_)
  simp only [Int.toNat_natCast, hi]
  refine wpAny_bind (wpAny_rule (wpAny_bind (wpAny_setField ho hd (by simp) ?_)))
  show wpAny _ _ (newExc (.type "StopIteration") [] >>= _) _ _ _
  refine wpAny_bind ?_
  simp only [newExc, newTuple]
  refine wpAny_bind (wpAny_newObj_type ?_ (by size_fits))
  refine wpAny_bind (m := firstArgMember _ _) (wpAny_of_eq (a := Value.none) (by first | rfl | (simp only [firstArgMember]; rfl)) ?_)
  refine wpAny_newObj_type ?_ (by size_fits)
  simp only [raiseNew]
  refine wpAny_bind (wpAny_handled ?_)
  rw [show A.in1.handled = some (.ref x) from hh]
  have hx₁ : ((s.heap.update it (Obj.mapFields (·.setIfInBounds 0 .none))).push { cls := .type "tuple", data := .seq #[] }).get? x = some ox := Heap.get?_push_of_some _ ((Heap.get?_update_other _ _ (Ne.symm hxi)).trans hx)
  have k₁ : ∀ b o, b ≠ it → s.heap.get? b = some o → ((s.heap.update it (Obj.mapFields (·.setIfInBounds 0 .none))).push { cls := .type "tuple", data := .seq #[] }).get? b = some o := fun b o hb e => Heap.get?_push_of_some _ ((Heap.get?_update_other _ _ (Ne.symm hb)).trans e)
  revert hx₁ k₁
  generalize (s.heap.update it (Obj.mapFields (·.setIfInBounds 0 .none))).push { cls := .type "tuple", data := .seq #[] } = H
  intro hx₁ k₁
  have hxH : x ≠ H.objs.size := Nat.ne_of_lt (Heap.lt_size hx₁)
  dsimp only
  rw [if_pos (by simpa using hxH)]
  have hx₂ : ∀ o, (H.push o).get? x = some ox := fun o => Heap.get?_push_of_some _ hx₁
  refine wpAny_bind (wpAny_holding (unchain_none (hx₂ _) hxd h2 ?_))
  unfold updateField
  refine wpAny_bind (wpAny_bind (wpAny_load (Heap.get?_push_size H rfl) ?_))
  dsimp only
  rw [if_pos (by simp; (first | lia | omega))]
  refine wpAny_update (Heap.get?_push_size H rfl) (wpAny_throw ?_)
  refine wpAny_bind (wpAny_isInstance (T := "StopIteration") (b := true) ⟨_, Heap.get?_update_self _ (Heap.get?_push_size H rfl) rfl, rfl⟩ isSubtype_stop ?_)
  refine wpAny_pure (hQ _ fun b o hb e => ?_)
  have := k₁ b o hb e
  exact (Heap.get?_update_other _ _ (Nat.ne_of_gt (Heap.lt_size this))).trans (Heap.get?_push_of_some _ this)

theorem walks_h {x : Addr} {ox : Obj} {ws : Array Value} (hh : A.handled = some (.ref x)) (hxd : ox.data = .fields ws) (h2 : ws[2]? = some .none) (I ax : Addr) (hne : ax ≠ I) (hxi : x ≠ I) (items : Array Value) :
    Walks prog w A I [I, ax, x] [I] items.size (fun i v => items[i]? = some v) (fun i h => h.IsListIter I ax i ∧ h.IsList ax items ∧ h.get? x = some ox) where
  sub := fun b hb => by simp at hb; simp [hb]
  frame := fun _ _ _ st hk => ⟨st.1.at fun o e => hk I (by simp) o e, st.2.1.at fun o e => hk ax (by simp) o e, hk x (by simp) _ st.2.2⟩
  item := fun i s Q E hi st hQ => by
    refine wpAny_pyNext_list_item st.1 st.2.1 (x := items[i]) (by simp [hi]) fun h' hit' hs' => ?_
    exact hQ _ h' s.toks (by simp [hi]) ⟨hit', st.2.1.extBut hs'.extBut hne, hs'.extBut x _ hxi st.2.2⟩ fun b o hb e => hs'.extBut b o (fun h => hb (by simp [h])) e
  done := fun s Q E st hQ => next_end_h hh st.2.2 hxd h2 hxi st.1 st.2.1 (by simp) fun h' he' => hQ h' s.toks fun b o hb e => he' b o (fun h => hb (by simp [h])) e
  self := fun _ _ _ _ st hQ => wpAny_pyIter_listiter st.1 hQ

/-- max() of a list while an exception is handled -/
theorem max_h {x : Addr} {ox : Obj} {ws : Array Value} {g : PH} {v : Value} {ns : List Int} {Q : Value → Shared → Prop} (hh : A.handled = some (.ref x)) (hx : s.heap.get? x = some ox) (hxd : ox.data = .fields ws) (h2 : ws[2]? = some .none)
    (hg : HS g s.heap) (hv : DI g v (il ns)) (hne : ns ≠ [])
    (h : ∀ h' tk t, Ext s.heap h' g g → Q (.int (maxL ns) t) { s with heap := h', toks := tk }) : wpAny (model prog w) A (call (.builtin "max") [v]) Q E s := by
  obtain ⟨a, us, n, rfl, ea, ra⟩ := hv.lst_inv
  have hi : IntsAre us ns := ra.ints (by
    clear ra hne h hv
    induction ns with
    | nil => rfl
    | cons y r ih => simp_all [intsOf])
  have hl := hi.length
  have hpos : 0 < ns.length := List.length_pos_iff.mpr hne
  refine call_max_walk (iter_list (lstO_isList (hg _ _ ea)) fun s₂ e st hfp hlI => ?_)
  subst e
  have hxs : x ≠ s.heap.objs.size := Nat.ne_of_lt (Heap.lt_size hx)
  have hx' := Heap.get?_push_of_some { cls := .type "list_iterator", data := .fields #[.ref a, .int 0 0] } hx
  refine ⟨_, _, _, _, _, _, _, rfl, walks_h (A := A.in1) hh hxd h2 _ a hlI hxs us.toArray, ⟨st.1, st.2, hx'⟩, fun b hb => ?_, by simp [hl]; (first | lia | omega), CmpOf.ints_gt (fun i => ns.getD i 0) (fun _ _ => at_ints hi), fun v h' tk hP hk => ?_⟩
  · rcases List.mem_cons.mp hb with rfl | hb
    · exact hfp _ (by simp)
    · rcases List.mem_cons.mp hb with rfl | hb
      · exact hfp _ (by simp)
      · rcases List.mem_cons.mp hb with rfl | hb
        · exact Heap.lt_size hx'
        · cases hb
  obtain ⟨t, rfl⟩ := at_ints hi hP
  have hsz : us.toArray.size = ns.length := by simp [hl]
  rw [hsz] at *
  obtain ⟨q1, q2⟩ := argBest_gt (fun i => ns.getD i 0) (ns.length - 1)
  have hm : ns.getD (argBest (fun i j => decide (ns.getD i 0 > ns.getD j 0)) (ns.length - 1)) 0 = maxL ns := by
    refine maxL_uniq ?_ fun x hx => ?_
    · have hlt : argBest (fun i j => decide (ns.getD i 0 > ns.getD j 0)) (ns.length - 1) < ns.length := by first | lia | omega
      rw [List.getD_eq_getElem?_getD, List.getElem?_eq_getElem hlt]
      exact List.getElem_mem hlt
    · obtain ⟨j, hj, rfl⟩ := List.mem_iff_getElem.mp hx
      have := q2 j (by first | lia | omega)
      rw [List.getD_eq_getElem?_getD, List.getElem?_eq_getElem hj] at this
      exact this
  have X : Ext s.heap h' g g := Ext.of_kp hg (old_kept hk)
  rw [hm]
  exact h _ _ _ X
end
end Mine
end

section
open PySem PySem.W PyProof.Rows PySem.Calls PySem.SeqAt
set_option linter.all false
set_option maxRecDepth 100000
namespace Mine
section
variable {prog : Program} {w : World} {A : Around} {base : Heap} {env : Env} {ow : Str → Addr} {g : PH} {ρ : Rho} {s : Shared} {Q : Flow → Shared → Prop} {E : Value → Shared → Prop} {n : Nat} {Γ : Sig} {v : Expr} {p : Pos} {k : Nat} {a b : D}

theorem two_plain (H : All prog w A base n) (hh : A.handled = none) {x y : Str} {p1 p2 q : Pos} (h1 : evE n Γ ρ v = some (.tup [a, b])) (C : Cf base env ow g ρ s.heap) (hs : SigOk prog w A base env Γ) (hx : kindOk env x) (hy : kindOk env y)
    (hsw : swapsWithSole [.Tuple [.Name x p1, .Name y p2] k p] v q.line env = pure false) (hw : swappedStores [.Tuple [.Name x p1, .Name y p2] k p] v env = pure none)
    (post : ∀ g' h' tk, St env ow g' (upd (upd ρ x (.st a)) y (.st b)) h' → Stp (Wp env ow ρ) (Wp env ow (upd (upd ρ x (.st a)) y (.st b))) s.heap h' g g' → Q .next { s with heap := h', toks := tk }) :
    wpAny (model prog w) A (exec (.Assign [.Tuple [.Name x p1, .Name y p2] k p] v q) env) Q E s := by
  refine Assign_Tuple ?_ hsw hw
  refine H.e Γ ρ v _ h1 env ow g s _ E C.S hs C.b fun u h' g' tk X hd => ?_
  refine assign_sound (s := { s with heap := h', toks := tk }) (bs := [(x, a), (y, b)]) hh (C.S.ext X) rfl (fun z hz => ?_) hd fun h'' tk' S kk => ?_
  · simp [tgN_two] at hz
    rcases hz with rfl | rfl
    · exact hx
    · exact hy
  · exact post g' h'' tk' S ((Stp.of_ext X).trans (store_stp _ kk fun c wc => .inl (wp_updAll (bs := [(x, a), (y, b)]) wc)))

theorem tup_two {t : Addr} {vs : List Value} (h : HS g s.heap) {o : Obj} (e : g t = some o) (ot : TupO o vs) : s.heap.IsTuple t vs.toArray := ⟨o, h _ _ e, ot.1, ot.2⟩

theorem unpack2 {t : Addr} {va vb : Value} {Q : List Value → Shared → Prop} (hh : A.handled = none) (ht : s.heap.IsTuple t #[va, vb])
    (hQ : ∀ h', Heap.ExtBut s.heap.objs.size s.heap h' → Q [va, vb] { s with heap := h' }) : wpAny (model prog w) A (unpackItems (.ref t) 2 none) Q E s :=
  wpAny_unpackItems_tuple (items := #[va, vb]) hh ht hQ
theorem two_swap (H : All prog w A base n) (hh : A.handled = none) {x y : Str} {p1 p2 q : Pos} (h1 : evE n Γ ρ v = some (.tup [a, b])) (C : Cf base env ow g ρ s.heap) (hs : SigOk prog w A base env Γ) (hx : kindOk env x) (hy : kindOk env y)
    (hsw : swapsWithSole [.Tuple [.Name x p1, .Name y p2] k p] v q.line env = pure false) (hw : swappedStores [.Tuple [.Name x p1, .Name y p2] k p] v env = pure (some [x, y]))
    (post : ∀ g' h' tk, St env ow g' (upd (upd ρ y (.st b)) x (.st a)) h' → Stp (Wp env ow ρ) (Wp env ow (upd (upd ρ y (.st b)) x (.st a))) s.heap h' g g' → Q .next { s with heap := h', toks := tk }) :
    wpAny (model prog w) A (exec (.Assign [.Tuple [.Name x p1, .Name y p2] k p] v q) env) Q E s := by
  refine Assign_Tuple_swapped (names := [x, y]) ?_ hsw hw
  refine H.e Γ ρ v _ h1 env ow g s _ E C.S hs C.b fun u h' g' tk X hd => ?_
  obtain ⟨t, vs, o, rfl, et, ot, rt⟩ := hd.tup_inv
  obtain ⟨va, vb, rfl, ha, hb⟩ := rt.two_inv
  have hT : Heap.IsTuple h' t #[va, vb] := ⟨o, X.gh _ _ et, ot.1, ot.2⟩
  refine unpack2 (s := { s with heap := h', toks := tk }) hh hT fun h₁ hx1 => ?_
  have k1 : Kp h' h₁ := fun c o e => hx1 c o (Nat.ne_of_lt (Heap.lt_size e)) e
  have S1 : St env ow g' ρ h₁ := (C.S.ext X).ext (Ext.of_kp X.gh k1)
  show wpAny _ A (assignInOrder [bindName env y, bindName env x] [vb, va]) _ E _
  unfold assignInOrder
  refine wpAny_bind (wpAny_holding (wpAny_bindName (St.store (s := { s with heap := h₁, toks := tk }) S1 hy hb fun h₂ tk₂ S2 k2 => ?_)))
  unfold assignInOrder
  refine wpAny_bind (wpAny_holding (wpAny_bindName (St.store (s := { s with heap := h₂, toks := tk₂ }) S2 hx ha fun h₃ tk₃ S3 k3 => ?_)))
  unfold assignInOrder
  refine wpAny_pure (post g' h₃ tk₃ S3 ?_)
  have X1 : Ext s.heap h₁ g g' := X.trans (Ext.of_kp X.gh k1)
  exact (Stp.of_ext X1).trans (store_stp [x, y] (fun c o hc e => k3 c o (hc x (by simp)) (k2 c o (hc y (by simp)) e)) fun c wc => .inl (wp_upd_st (wp_upd_st wc)))

/-- a name and an item of a list of the frame's own -/
theorem two_item (H : All prog w A base n) (hh : A.handled = none) {x l : Str} {p1 p2 p3 p4 q : Pos} {kk : Nat} {ds : List D} (h1 : evE n Γ ρ v = some (.tup [a, b])) (C : Cf base env ow g ρ s.heap) (hs : SigOk prog w A base env Γ) (hx : kindOk env x)
    (hl : ρ l = some (.own ds)) (hlx : l ≠ x) (h1l : 1 < ds.length) (hbig : ds.length ≤ big) (hd9 : (l == ("__debug__" : Str)) = false)
    (hsw : swapsWithSole [.Tuple [.Name x p1, .Subscript (.Name l p2) (.Constant (.int 1) kk p3) p4] k p] v q.line env = pure false)
    (hw : swappedStores [.Tuple [.Name x p1, .Subscript (.Name l p2) (.Constant (.int 1) kk p3) p4] k p] v env = pure none)
    (post : ∀ g' h' tk, St env ow g' (upd (upd ρ x (.st a)) l (.own (ds.set 1 b))) h' → Stp (Wp env ow ρ) (Wp env ow (upd (upd ρ x (.st a)) l (.own (ds.set 1 b)))) s.heap h' g g' → Q .next { s with heap := h', toks := tk }) :
    wpAny (model prog w) A (exec (.Assign [.Tuple [.Name x p1, .Subscript (.Name l p2) (.Constant (.int 1) kk p3) p4] k p] v q) env) Q E s := by
  refine Assign_Tuple ?_ hsw hw
  refine H.e Γ ρ v _ h1 env ow g s _ E C.S hs C.b fun u h' g' tk X hd => ?_
  obtain ⟨t, vs, o, rfl, et, ot, rt⟩ := hd.tup_inv
  obtain ⟨va, vb, rfl, ha, hb⟩ := rt.two_inv
  have hT : Heap.IsTuple h' t #[va, vb] := ⟨o, X.gh _ _ et, ot.1, ot.2⟩
  refine wpAny_assign_Tuple (s := { s with heap := h', toks := tk }) hh hT rfl rfl fun h₁ hx1 => ?_
  have k1 : Kp h' h₁ := fun c o e => hx1 c o (Nat.ne_of_lt (Heap.lt_size e)) e
  have X1 : Ext s.heap h₁ g g' := X.trans (Ext.of_kp X.gh k1)
  have S1 : St env ow g' ρ h₁ := C.S.ext X1
  show wpAny _ A (assignInOrder [assign (.Name x p1) env, assign (.Subscript (.Name l p2) (.Constant (.int 1) kk p3) p4) env] [va, vb]) _ E _
  unfold assignInOrder
  refine wpAny_bind (wpAny_holding (wpAny_assign_Name (St.store (s := { s with heap := h₁, toks := tk }) S1 hx ha fun h₂ tk₂ S2 k2 => ?_)))
  unfold assignInOrder
  have hl2 : upd ρ x (.st a) l = some (.own ds) := by unfold upd; rw [if_neg hlx]; exact hl
  refine wpAny_bind (wpAny_holding ?_)
  rw [assign_Subscript]
  refine wpAny_bind (wpAny_holding (wpAny_Name (S2.load (s := { s with heap := h₂, toks := tk₂ }) hl2 fun u hu => ?_) hd9))
  obtain ⟨rfl, _⟩ := hu
  refine wpAny_bind (wpAny_holding (wpAny_Constant_int (wpAny_bind (wpAny_standAt (wpAny_bind (wpAny_holding ?_))))))
  have hz : (1 : Int).toNat = 1 := rfl
  refine setOwn (s := { s with heap := h₂, toks := tk₂ + 1 }) S2 hl2 (by first | lia | omega) (by rw [hz]; exact h1l) hbig hb fun h₃ S3 T3 => ?_
  refine wpAny_release ?_
  unfold assignInOrder
  refine wpAny_pure (post g' h₃ _ S3 ?_)
  exact ((Stp.of_ext X1).trans (store_stp [x] (fun c o hc e => k2 c o (hc x (by simp)) e) fun c wc => .inl (wp_upd_st wc))).trans T3
end
end Mine
end

section
open PySem PySem.W PyProof.Rows PySem.Calls PySem.SeqAt
set_option linter.all false
set_option maxRecDepth 100000
namespace Mine

end Mine
end

section
open PySem PySem.W PyProof.Rows PySem.Calls PySem.SeqAt
set_option linter.all false
set_option maxRecDepth 100000
set_option maxHeartbeats 4000000
namespace Mine

noncomputable def B_dr : List Stmt := bodyOf "_law_drawn"
noncomputable def drS (i : Nat) : Stmt := B_dr.getD i (.Pass ⟨0, 0, 0, 0⟩)
noncomputable def valE : Stmt → Expr
  | .Assign _ v _ => v
  | _ => .Tuple [] 0 ⟨0, 0, 0, 0⟩
noncomputable def Γ_dr : Sig where
  len := true
  loc := ["spot", "line", "cell", "lap"]
noncomputable def cellF (ns : List Int) (k : Nat) : Int := ns.getD (k % ns.length) 0
noncomputable def lapF (ns : List Int) (k : Nat) : Int := (k : Int) / (ns.length : Int)
noncomputable def drawF (ns : List Int) (k : Nat) (many : Int) : Int :=
  if ns = [] then (7 * (k : Int) + 2) * ((k : Int) + 1) % 1009 % many else (cellF ns k % (many + lapF ns k) + 5 * lapF ns k) % many
theorem drawF_range (ns : List Int) (k : Nat) {many : Int} (h : 0 < many) : 0 ≤ drawF ns k many ∧ drawF ns k many < many := by
  unfold drawF
  split <;> exact ⟨Int.emod_nonneg _ (by first | lia | omega), Int.emod_lt_of_pos _ h⟩

structure DS (ns : List Int) (k : Nat) (many : Int) (sp : Option Int) (ρ : Rho) : Prop where
  line : ρ "line" = some (.own [il ns, .int k])
  many : ρ "many" = some (.st (.int many))
  spot : ∀ x, sp = some x → ρ "spot" = some (.st (.int x))

section
variable {ns : List Int} {k : Nat} {many : Int} {ρ : Rho}
theorem idxA (a b : D) : idxD (.lst [a, b]) (.int 0) = some a := rfl
theorem idxB (a b : D) : idxD (.lst [a, b]) (.int 1) = some b := rfl
theorem dr0 {sp : Option Int} (h : DS ns k many sp ρ) : evE 300 Γ_dr ρ (valE (drS 0)) = some (.tup [.int k, .int (k + 1)]) := by
  conv => lhs; arg 4; whnf
  simp (config := { decide := true }) only [↓reduceIte, q_name, q_int, q_bool, q_bin, q_cmp, q_if, q_from, q_upto, q_subN, q_subC, q_subB, q_subS, q_list, q_tuple, q_comp, q_len, q_call, q_count, q_bname, q_bsub, q_btup, q_tnot, q_tbool, q_tcmp, q_tname, q_tcall, q_tsnA, q_tsnO, q_esnil, q_escons, q_itname, q_itsub, q_itrng, q_itrev, q_itzip, q_itenum, q_nil, q_ok, q_cons, q_asgName, q_asgList, q_asgMul, q_asgTup, q_asgSub, q_aug, q_augSub, q_for, q_while, q_ifs, q_ret, q_app, q_ext, q_freeze, n_name, n_tuple, n_list, n_bin, n_sub, n_call, n_const, n_slice, n_cmp, n_if, n_comp, List.flatMap_cons, List.flatMap_nil, List.append_nil, List.cons_append, List.nil_append, q_rho0, q_upd, q_fnL, q_compRho, updAll, q_tgN, q_tgT, q_asI, q_asL, Option.bind_some, Option.map_some, reduceCtorEq, ne_eq, not_false_eq_true, implies_true, and_self, if_true, if_false, Bool.false_eq_true, true_and, and_true, shD, t_st, t_b2, t_cm, t_ct, t_ifT, t_ifF, t_ls, t_tu, t_co, t_le, t_ca, t_cn, t_cd, t_seT, t_seF, q_cfN, q_cfT, decide_true, decide_false, t_no, t_nTT, t_nFF, t_nTF, t_nFT, t_tsAT, t_tsAF, t_tsOT, t_tsOF, t_it, t_zi, t_en, t_re, t_thN, t_thR, t_fin, t_siT, t_siF, t_rt, t_fo, t_as, t_al, t_am, t_at, t_su, t_au, t_ax, t_ay, t_ap, t_ex, t_tg, q_tscons, Γ_dr, h.line, idxB, binD, binI, binL, binR, isAdd, isMul, List.length_cons, List.length_nil]

/-- once the place has moved on, the list is read as it stands -/
structure DT (ns : List Int) (k : Nat) (many : Int) (ρ : Rho) : Prop where
  line : ρ "line" = some (.st (.lst [il ns, .int (k + 1)]))
  many : ρ "many" = some (.st (.int many))
  spot : ρ "spot" = some (.st (.int k))

theorem dr1e (hk : k ≤ 1000) (hm : 0 < many) (hn : ns = []) (h : DT ns k many ρ) : ∃ ρ', exe 300 Γ_dr ρ (drS 1) = some (.ret (.int (drawF ns k many)), ρ') := by
  conv => enter [1, ρ']; lhs; arg 4; whnf
  have c1 : (7 * (k : Int) + 2).natAbs < 2 ^ 62 := by first | lia | omega
  have e : il ns = .lst [] := by rw [hn]; rfl
  have hl := h.line
  rw [e] at hl
  have hd : drawF ns k many = (7 * (k : Int) + 2) * ((k : Int) + 1) % 1009 % many := by unfold drawF; rw [if_pos hn]
  simp (config := { decide := true }) only [↓reduceIte, q_name, q_int, q_bool, q_bin, q_cmp, q_if, q_from, q_upto, q_subN, q_subC, q_subB, q_subS, q_list, q_tuple, q_comp, q_len, q_call, q_count, q_bname, q_bsub, q_btup, q_tnot, q_tbool, q_tcmp, q_tname, q_tcall, q_tsnA, q_tsnO, q_esnil, q_escons, q_itname, q_itsub, q_itrng, q_itrev, q_itzip, q_itenum, q_nil, q_ok, q_cons, q_asgName, q_asgList, q_asgMul, q_asgTup, q_asgSub, q_aug, q_augSub, q_for, q_while, q_ifs, q_ret, q_app, q_ext, q_freeze, n_name, n_tuple, n_list, n_bin, n_sub, n_call, n_const, n_slice, n_cmp, n_if, n_comp, List.flatMap_cons, List.flatMap_nil, List.append_nil, List.cons_append, List.nil_append, q_rho0, q_upd, q_fnL, q_compRho, updAll, q_tgN, q_tgT, q_asI, q_asL, Option.bind_some, Option.map_some, reduceCtorEq, ne_eq, not_false_eq_true, implies_true, and_self, if_true, if_false, Bool.false_eq_true, true_and, and_true, shD, t_st, t_b2, t_cm, t_ct, t_ifT, t_ifF, t_ls, t_tu, t_co, t_le, t_ca, t_cn, t_cd, t_seT, t_seF, q_cfN, q_cfT, decide_true, decide_false, t_no, t_nTT, t_nFF, t_nTF, t_nFT, t_tsAT, t_tsAF, t_tsOT, t_tsOF, t_it, t_zi, t_en, t_re, t_thN, t_thR, t_fin, t_siT, t_siF, t_rt, t_fo, t_as, t_al, t_am, t_at, t_su, t_au, t_ax, t_ay, t_ap, t_ex, t_tg, q_tscons, Γ_dr, hl, h.many, h.spot, idxA, behindInMarks, cmpD, isEq, isNe, isNi, intsOf, List.length_nil, binD, binI, binL, binR, isAdd, isMul, c1, hm, hd]
  exact ⟨_, rfl⟩
theorem dr1n (hn : ns ≠ []) (h : DT ns k many ρ) : exe 300 Γ_dr ρ (drS 1) = some (.next, ρ) := by
  conv => lhs; arg 4; whnf
  simp (config := { decide := true }) only [↓reduceIte, q_name, q_int, q_bool, q_bin, q_cmp, q_if, q_from, q_upto, q_subN, q_subC, q_subB, q_subS, q_list, q_tuple, q_comp, q_len, q_call, q_count, q_bname, q_bsub, q_btup, q_tnot, q_tbool, q_tcmp, q_tname, q_tcall, q_tsnA, q_tsnO, q_esnil, q_escons, q_itname, q_itsub, q_itrng, q_itrev, q_itzip, q_itenum, q_nil, q_ok, q_cons, q_asgName, q_asgList, q_asgMul, q_asgTup, q_asgSub, q_aug, q_augSub, q_for, q_while, q_ifs, q_ret, q_app, q_ext, q_freeze, n_name, n_tuple, n_list, n_bin, n_sub, n_call, n_const, n_slice, n_cmp, n_if, n_comp, List.flatMap_cons, List.flatMap_nil, List.append_nil, List.cons_append, List.nil_append, q_rho0, q_upd, q_fnL, q_compRho, updAll, q_tgN, q_tgT, q_asI, q_asL, Option.bind_some, Option.map_some, reduceCtorEq, ne_eq, not_false_eq_true, implies_true, and_self, if_true, if_false, Bool.false_eq_true, true_and, and_true, shD, t_st, t_b2, t_cm, t_ct, t_ifT, t_ifF, t_ls, t_tu, t_co, t_le, t_ca, t_cn, t_cd, t_seT, t_seF, q_cfN, q_cfT, decide_true, decide_false, t_no, t_nTT, t_nFF, t_nTF, t_nFT, t_tsAT, t_tsAF, t_tsOT, t_tsOF, t_it, t_zi, t_en, t_re, t_thN, t_thR, t_fin, t_siT, t_siF, t_rt, t_fo, t_as, t_al, t_am, t_at, t_su, t_au, t_ax, t_ay, t_ap, t_ex, t_tg, q_tscons, Γ_dr, h.line, il, idxA, behindInMarks, cmpD, isEq, isNe, isNi, intsOf, intsOf_map, List.length_nil, hn, decide_false]
theorem dr2 (hk : k ≤ 1000) (hl : ns.length ≤ 100) (hn : ns ≠ []) (h : DT ns k many ρ) : evE 300 Γ_dr ρ (valE (drS 2)) = some (.tup [.int (cellF ns k), .int (lapF ns k)]) := by
  conv => lhs; arg 4; whnf
  have hp : 0 < ns.length := List.length_pos_iff.mpr hn
  have hb : ns.length ≤ big := by unfold big; (first | lia | omega)
  have c1 : (0 : Int) < (ns.length : Int) := by first | lia | omega
  have c2 : ns.length < 1000000000 := by first | lia | omega
  have c3 : (0 : Int) ≤ (k : Int) % (ns.length : Int) := Int.emod_nonneg _ (by first | lia | omega)
  have c4 : ((k : Int) % (ns.length : Int)).toNat = k % ns.length := by
    rw [show (k : Int) % (ns.length : Int) = ((k % ns.length : Nat) : Int) from (Int.natCast_emod k ns.length).symm, Int.toNat_natCast]
  have c5 : (ns.map D.int)[k % ns.length]? = some (.int (cellF ns k)) := get_map (Nat.mod_lt _ hp)
  have c6 : idxD (.lst (ns.map D.int)) (.int ((k : Int) % (ns.length : Int))) = some (.int (cellF ns k)) := by
    simp only [idxD, List.length_map]
    rw [if_pos ⟨c3, hb⟩, c4]
    exact c5
  simp (config := { decide := true }) only [↓reduceIte, q_name, q_int, q_bool, q_bin, q_cmp, q_if, q_from, q_upto, q_subN, q_subC, q_subB, q_subS, q_list, q_tuple, q_comp, q_len, q_call, q_count, q_bname, q_bsub, q_btup, q_tnot, q_tbool, q_tcmp, q_tname, q_tcall, q_tsnA, q_tsnO, q_esnil, q_escons, q_itname, q_itsub, q_itrng, q_itrev, q_itzip, q_itenum, q_nil, q_ok, q_cons, q_asgName, q_asgList, q_asgMul, q_asgTup, q_asgSub, q_aug, q_augSub, q_for, q_while, q_ifs, q_ret, q_app, q_ext, q_freeze, n_name, n_tuple, n_list, n_bin, n_sub, n_call, n_const, n_slice, n_cmp, n_if, n_comp, List.flatMap_cons, List.flatMap_nil, List.append_nil, List.cons_append, List.nil_append, q_rho0, q_upd, q_fnL, q_compRho, updAll, q_tgN, q_tgT, q_asI, q_asL, Option.bind_some, Option.map_some, reduceCtorEq, ne_eq, not_false_eq_true, implies_true, and_self, if_true, if_false, Bool.false_eq_true, true_and, and_true, shD, t_st, t_b2, t_cm, t_ct, t_ifT, t_ifF, t_ls, t_tu, t_co, t_le, t_ca, t_cn, t_cd, t_seT, t_seF, q_cfN, q_cfT, decide_true, decide_false, t_no, t_nTT, t_nFF, t_nTF, t_nFT, t_tsAT, t_tsAF, t_tsOT, t_tsOF, t_it, t_zi, t_en, t_re, t_thN, t_thR, t_fin, t_siT, t_siF, t_rt, t_fo, t_as, t_al, t_am, t_at, t_su, t_au, t_ax, t_ay, t_ap, t_ex, t_tg, q_tscons, Γ_dr, h.line, h.spot, il, idxA, φlen, List.length_map, hb, binD, binI, binL, binR, isAdd, isMul, c1, c2, Int.toNat_natCast, List.length_cons, List.length_nil, c6, lapF]
theorem dr3 (hm : 0 < many) (hn : ns ≠ []) (h : DT ns k many ρ) (h1 : ρ "cell" = some (.st (.int (cellF ns k)))) (h2 : ρ "lap" = some (.st (.int (lapF ns k)))) : ∃ ρ', exe 300 Γ_dr ρ (drS 3) = some (.ret (.int (drawF ns k many)), ρ') := by
  conv => enter [1, ρ']; lhs; arg 4; whnf
  have hl0 : 0 ≤ lapF ns k := Int.ediv_nonneg (by first | lia | omega) (by first | lia | omega)
  have c1 : 0 < many + lapF ns k := by first | lia | omega
  have hd : drawF ns k many = (cellF ns k % (many + lapF ns k) + 5 * lapF ns k) % many := by unfold drawF; rw [if_neg hn]
  simp (config := { decide := true }) only [↓reduceIte, q_name, q_int, q_bool, q_bin, q_cmp, q_if, q_from, q_upto, q_subN, q_subC, q_subB, q_subS, q_list, q_tuple, q_comp, q_len, q_call, q_count, q_bname, q_bsub, q_btup, q_tnot, q_tbool, q_tcmp, q_tname, q_tcall, q_tsnA, q_tsnO, q_esnil, q_escons, q_itname, q_itsub, q_itrng, q_itrev, q_itzip, q_itenum, q_nil, q_ok, q_cons, q_asgName, q_asgList, q_asgMul, q_asgTup, q_asgSub, q_aug, q_augSub, q_for, q_while, q_ifs, q_ret, q_app, q_ext, q_freeze, n_name, n_tuple, n_list, n_bin, n_sub, n_call, n_const, n_slice, n_cmp, n_if, n_comp, List.flatMap_cons, List.flatMap_nil, List.append_nil, List.cons_append, List.nil_append, q_rho0, q_upd, q_fnL, q_compRho, updAll, q_tgN, q_tgT, q_asI, q_asL, Option.bind_some, Option.map_some, reduceCtorEq, ne_eq, not_false_eq_true, implies_true, and_self, if_true, if_false, Bool.false_eq_true, true_and, and_true, shD, t_st, t_b2, t_cm, t_ct, t_ifT, t_ifF, t_ls, t_tu, t_co, t_le, t_ca, t_cn, t_cd, t_seT, t_seF, q_cfN, q_cfT, decide_true, decide_false, t_no, t_nTT, t_nFF, t_nTF, t_nFT, t_tsAT, t_tsAF, t_tsOT, t_tsOF, t_it, t_zi, t_en, t_re, t_thN, t_thR, t_fin, t_siT, t_siF, t_rt, t_fo, t_as, t_al, t_am, t_at, t_su, t_au, t_ax, t_ay, t_ap, t_ex, t_tg, q_tscons, Γ_dr, h1, h2, h.many, binD, binI, binL, binR, isAdd, isMul, c1, hm, hd]
  exact ⟨_, rfl⟩
end
end Mine
end

section
open PySem PySem.W PyProof.Rows PySem.Calls PySem.SeqAt
set_option linter.all false
set_option maxRecDepth 100000
set_option maxHeartbeats 4000000
namespace Mine
section
variable {prog : Program} {w : World} {A : Around} {base : Heap} {mg mb : Str → Option Value} {K : Frag}

noncomputable def rhoO (x y : Str) (ds : List D) (d : D) : Rho := fun z => if z = x then some (.own ds) else if z = y then some (.st d) else none

theorem enter2 (G : Gr K mg mb base) (hroom : A.depth < recursionLimit) {f : Addr} {fd : FuncData} {oc : Value} {od : Option Addr} {osl : Array (Option Value)} {body : List Stmt} {x y : Str}
    (ho : K.lookup f = some ⟨oc, od, .func fd, osl⟩) (hcd : codeIn K fd.code fd.qualname = true) (hbody : fd.body = .stmts body) (hclo : fd.closure = [])
    (hbind : ∀ u v : Value, bindArgs fd ⟨[u, v], []⟩ = pure [(x, u), (y, v)]) (hco : fd.scope.isCoroutine = false) (hgen : fd.scope.isGenerator = false) (hk : fd.scope.kind = .function) (hxy : x ≠ y)
    (hx : fd.scope.names.lookup x = some .local) (hy : fd.scope.names.lookup y = some .local) (hce : ∀ L, (callEnvC fd L f).cells = []) (hkx : ∀ L z, (callEnvC fd L f).kindOf z = fd.scope.names.lookup z)
    {a : Addr} {v : Value} {d : D} {g : PH} {s : Shared} {Q : Value → Shared → Prop} {E : Value → Shared → Prop} {vs : List Value} {n : Nat} {ds : List D}
    (hg : HS g s.heap) (hb : Kp base s.heap) (ha : s.heap.get? a = some (lstO vs n)) (hv : DIs g vs ds) (hd : DI g v d) (hga : g a = none) (hba : base.get? a = none)
    (h : ∀ h₁ tk E', Cf base (callEnvC fd s.heap.objs.size f) (fun _ => a) g (rhoO x y ds d) h₁ → Kp s.heap h₁ →
      wpAny (model prog w) (A.deeper (callEnvC fd s.heap.objs.size f)) (execs body (callEnvC fd s.heap.objs.size f)) (fun fl s' => Q (match fl with | .ret v => v | _ => .none) s') E' { s with heap := h₁, toks := tk }) :
    wpAny (model prog w) A (call (.ref f) [.ref a, v]) Q E s := by
  refine wpAny_call (codeAny_call_cells hroom (G.k.keeps hb _ _ ho) rfl (G.lim.keeps hb) (codeRec_of (G.k.keeps hb) hcd) hbody (hbind _ _) hclo (fun z hz => ?_) (fun s₁ X => ?_) hco hgen hk)
  · simp at hz
    rcases hz with rfl | rfl
    · exact .inl hx
    · exact .inl hy
  · obtain ⟨h₁, tk, rfl, kp⟩ := X.done
    have kp : Kp s.heap h₁ := kp
    have hL := get_size_none s.heap
    have haL : a ≠ s.heap.objs.size := fun q => by rw [← q, ha] at hL; cases hL
    have hkl : ∀ z, (callEnvC fd s.heap.objs.size f).kindOf z = fd.scope.names.lookup z := hkx _
    refine h h₁ tk _ ⟨⟨hk, hg.kp kp, ⟨_, X.toInCall.ns, fun z sl e k => ?_⟩, fun z sl e k => ?_, fun z c e => ?_, fun z u c e => ?_, hg.none hL, fun z c e => ?_, fun z es e => ⟨hga, haL, fun u c e2 => ?_⟩, fun z u es fs e1 e2 _ => ?_⟩, hb.trans kp, fun c wc => ?_⟩ kp
    · unfold rhoO at e
      by_cases q1 : z = x
      · subst q1
        rw [if_pos rfl] at e
        cases e
        refine ⟨.ref a, ?_, rfl, vs, n, kp _ _ ha, hv⟩
        have e1 : (callEnvC fd s.heap.objs.size f).kindOf z = some .local := (hkl z).trans hx
        have e2 : (callEnvC fd s.heap.objs.size f).kindOf y = some .local := (hkl y).trans hy
        simp only [bindL, e1, e2, if_true]
        rw [if_neg hxy]
      · rw [if_neg q1] at e
        by_cases q2 : z = y
        · subst q2
          rw [if_pos rfl] at e
          cases e
          refine ⟨v, ?_, hd⟩
          have e1 : (callEnvC fd s.heap.objs.size f).kindOf z = some .local := (hkl z).trans hy
          simp only [bindL, e1, if_true]
        · rw [if_neg q2] at e; cases e
    · exfalso
      unfold rhoO at e
      by_cases q1 : z = x
      · exact k ((hkl z).trans (q1 ▸ hx))
      · rw [if_neg q1] at e
        by_cases q2 : z = y
        · exact k ((hkl z).trans (q2 ▸ hy))
        · rw [if_neg q2] at e; cases e
    · rw [hce] at e; cases e
    · rw [hce] at e; cases e
    · rw [hce] at e; cases e
    · rw [hce] at e2; cases e2
    · have own : ∀ {z es}, rhoO x y ds d z = some (.own es) → z = x := fun {z es} e => by
        unfold rhoO at e
        by_cases q1 : z = x
        · exact q1
        · rw [if_neg q1] at e
          by_cases q2 : z = y
          · rw [if_pos q2] at e; cases e
          · rw [if_neg q2] at e; cases e
      rw [own e1, own e2]
    · rcases wc with rfl | ⟨z, e⟩ | ⟨z, es, e, q⟩
      · exact hb.none hL
      · rw [hce] at e; cases e
      · rw [← q]; exact hba
end

section
variable {prog : Program} {w : World} {A : Around} {base : Heap} {mg mb : Str → Option Value}
theorem execs_cons_lit {M : Model} {st : Stmt} {rest : List Stmt} {env : Env} {Q : Flow → Shared → Prop} {E : Value → Shared → Prop} {s : Shared}
    (h : wpAny M A (exec st env) (fun f s' => match f with | .next => wpAny M A (execs rest env) Q E s' | f => Q f s') E s) : wpAny M A (execs (st :: rest) env) Q E s := wpAny_execs_cons h

noncomputable def tgtE : Stmt → List Expr
  | .Assign t _ _ => t
  | _ => []
noncomputable def posE : Stmt → Pos
  | .Assign _ _ p => p
  | _ => ⟨0, 0, 0, 0⟩
set_option maxHeartbeats 8000000 in
theorem draw_body (hh : A.handled = none) (hu : A.units < cLine) {env : Env} {a : Addr} {ns : List Int} {k : Nat} {many : Int} {g : PH} {h₀ : Heap} {s : Shared} {Q : Value → Shared → Prop} {E' : Value → Shared → Prop} {h₁ : Heap} {tk : Nat}
    (hk : k ≤ 1000) (hns : ns.length ≤ 100) (hm : 0 < many) (hs : SigOk prog w A base env Γ_dr) (hL : h₀.get? env.locals = none) (hce : env.cells = [])
    (w1 : swapsWithSole (tgtE (drS 0)) (valE (drS 0)) (posE (drS 0)).line env = pure false) (w2 : swappedStores (tgtE (drS 0)) (valE (drS 0)) env = pure none)
    (w3 : swapsWithSole (tgtE (drS 2)) (valE (drS 2)) (posE (drS 2)).line env = pure false) (w4 : swappedStores (tgtE (drS 2)) (valE (drS 2)) env = pure (some (["cell", "lap"] : List Str)))
    (C : Cf base env (fun _ => a) g (rhoO "line" "many" [il ns, .int k] (.int many)) h₁) (kp : Kp h₀ h₁)
    (post : ∀ t h' g' tk vs' n', OneStep a h₀ h' g g' → h'.get? a = some (lstO vs' n') → DIs g' vs' [il ns, .int (k + 1 : Nat)] → Q (.int (drawF ns k many) t) { s with heap := h', toks := tk }) :
    wpAny (model prog w) A (execs B_dr env) (fun fl s' => Q (match fl with | .ret v => v | _ => .none) s') E' { s with heap := h₁, toks := tk } := by
  have H := snd_all (prog := prog) (w := w) (base := base) hh hu
  have X := ((snd_run (prog := prog) (w := w) (base := base) hh hu 300) 300 (Nat.le_refl _)).1
  have b0 : B_dr = [drS 0, drS 1, drS 2, drS 3] := rfl
  obtain ⟨p1, p2, p3, p4, q, kk, k0, p, e0⟩ : ∃ p1 p2 p3 p4 q kk k0 p, drS 0 = .Assign [.Tuple [.Name "spot" p1, .Subscript (.Name "line" p2) (.Constant (.int 1) kk p3) p4] k0 p] (valE (drS 0)) q := ⟨_, _, _, _, _, _, _, _, rfl⟩
  obtain ⟨r1, r2, r3, r0, r, e2⟩ : ∃ r1 r2 r3 r0 r, drS 2 = .Assign [.Tuple [.Name "cell" r1, .Name "lap" r2] r0 r] (valE (drS 2)) r3 := ⟨_, _, _, _, _, rfl⟩
  have t0 := congrArg tgtE e0
  have s0 := congrArg posE e0
  have t2 := congrArg tgtE e2
  have s2 := congrArg posE e2
  rw [t0, s0] at w1
  rw [t0] at w2
  rw [t2, s2] at w3
  rw [t2] at w4
  have lk : ∀ x ∈ Γ_dr.loc, kindOk env x := fun x hx => hs.loc x hx
  have D0 : DS ns k many none (rhoO "line" "many" [il ns, .int k] (.int many)) := ⟨by simp (config := { decide := true }) only [rhoO, if_true], by simp (config := { decide := true }) only [rhoO, if_true, if_false], fun x h => (nomatch h)⟩
  rw [b0]
  refine wpAny_execs_cons ?_
  rw [e0]
  refine two_item (H 300) hh (dr0 D0) C hs (lk "spot" (by decide)) D0.line (by decide) (by show 1 < 2; (first | lia | omega)) (by show 2 ≤ big; decide) (by decide) w1 w2 fun g1 h2 tk2 S1 T1 => ?_
  have C1 := C.stp S1 T1
  generalize hρ1 : upd (upd (rhoO "line" "many" [il ns, .int k] (.int many)) "spot" (.st (.int k))) "line" (.own ([il ns, D.int k].set 1 (.int (k + 1)))) = ρ1 at S1 T1 C1
  have l1 : ρ1 "line" = some (.own [il ns, .int (k + 1)]) := by rw [← hρ1]; simp (config := { decide := true }) only [q_upd, if_true]; rfl
  have l2 : ρ1 "many" = some (.st (.int many)) := by rw [← hρ1]; simp (config := { decide := true }) only [q_upd, if_true, if_false]; exact D0.many
  have l3 : ρ1 "spot" = some (.st (.int k)) := by rw [← hρ1]; simp (config := { decide := true }) only [q_upd, if_true, if_false]
  obtain ⟨vs1, n1, o1, d1⟩ := S1.own_some l1
  have ga : g1 a = none := (S1.wO _ _ l1).1
  obtain ⟨S2, T2⟩ := S1.freezeG l1 o1 d1
  have C2 := C1.stp S2 T2
  have D2 : DT ns k many (upd ρ1 "line" (.st (.lst [il ns, .int (k + 1)]))) := ⟨by simp (config := { decide := true }) only [q_upd, if_true], by simp (config := { decide := true }) only [q_upd, if_false]; exact l2, by simp (config := { decide := true }) only [q_upd, if_false]; exact l3⟩
  have O1 : ∀ b o, b ≠ a → h₀.get? b = some o → h2.get? b = some o := fun b o hb e => T1.kp b o (fun wb => by
    rcases wb with rfl | ⟨x, e'⟩ | ⟨x, es, _, e'⟩
    · rw [hL] at e; cases e
    · rw [hce] at e'; cases e'
    · exact hb e'.symm) (kp b o e)
  have N1 : ∀ b, g b = none → g1 b ≠ none → h₀.get? b = none := fun b e m => by
    rcases T1.nw b e m with y | y
    · exact kp.none y
    · rcases y with rfl | ⟨x, e'⟩ | ⟨x, es, _, e'⟩
      · exact hL
      · rw [hce] at e'; cases e'
      · have e9 : a = b := e'
        subst e9
        exact absurd ga m
  have gi : ins g1 a (lstO vs1 n1) a = some (lstO vs1 n1) := ins_self _ _ _
  have fin : ∀ t h' g' tk, HS g' h' → Sub (ins g1 a (lstO vs1 n1)) g' → (∀ b o, ¬ Wp env (fun _ => a) (upd ρ1 "line" (.st (.lst [il ns, .int (k + 1)]))) b → h2.get? b = some o → h'.get? b = some o) → Q (.int (drawF ns k many) t) { s with heap := h', toks := tk } := fun t h' g' tk hg' sub kk => by
    refine post t h' g1 tk vs1 n1 ⟨fun b o hb e => kk b o (fun wb => ?_) (O1 b o hb e), T1.gg, fun b o e => hg' _ _ (sub _ _ (ins_sub ga _ _ e)), N1⟩ (hg' _ _ (sub _ _ gi)) (by simpa using d1)
    rcases wb with rfl | ⟨x, e'⟩ | ⟨x, es, _, e'⟩
    · rw [hL] at e; cases e
    · rw [hce] at e'; cases e'
    · exact hb e'.symm
  show wpAny _ A (execs [drS 1, drS 2, drS 3] env) _ _ _
  refine wpAny_execs_cons ?_
  by_cases hn : ns = []
  · obtain ⟨ρ', e1⟩ := dr1e hk hm hn D2
    refine X Γ_dr _ (drS 1) _ e1 env _ _ { s with heap := h2, toks := tk2 } _ _ C2 hs fun f ow' g' h' tk' hf S3 T3 => ?_
    obtain ⟨v, rfl, hd⟩ := hf
    obtain ⟨t, rfl⟩ := hd.int_inv
    exact fin t h' g' tk' S3.gh T3.gg T3.kp
  · refine X Γ_dr _ (drS 1) _ (dr1n hn D2) env _ _ { s with heap := h2, toks := tk2 } _ _ C2 hs fun f ow' g' h' tk' hf S3 T3 => ?_
    have hf' : f = .next := hf
    subst hf'
    have C3 := C2.stp S3 T3
    show wpAny _ A (execs [drS 2, drS 3] env) _ _ _
    refine wpAny_execs_cons ?_
    rw [e2]
    refine two_swap (H 300) hh (dr2 hk hns hn D2) C3 hs (lk "cell" (by decide)) (lk "lap" (by decide)) w3 w4 fun g4 h4 tk4 S4 T4 => ?_
    have C4 := C3.stp S4 T4
    show wpAny _ A (execs [drS 3] env) _ _ _
    refine wpAny_execs_cons ?_
    have D4 : DT ns k many (upd (upd (upd ρ1 "line" (.st (.lst [il ns, .int (k + 1)]))) "lap" (.st (.int (lapF ns k)))) "cell" (.st (.int (cellF ns k)))) := ⟨by simp (config := { decide := true }) only [q_upd, if_true, if_false], by simp (config := { decide := true }) only [q_upd, if_false]; exact l2, by simp (config := { decide := true }) only [q_upd, if_false]; exact l3⟩
    obtain ⟨ρ', e3⟩ := dr3 hm hn D4 (by simp (config := { decide := true }) only [q_upd, if_true, if_false]) (by simp (config := { decide := true }) only [q_upd, if_true, if_false])
    refine X Γ_dr _ (drS 3) _ e3 env _ _ { s with heap := h4, toks := tk4 } _ _ C4 hs fun f ow5 g5 h5 tk5 hf S5 T5 => ?_
    obtain ⟨v, rfl, hd⟩ := hf
    obtain ⟨t, rfl⟩ := hd.int_inv
    have T := (T3.trans T4).trans T5
    exact fin t h5 g5 tk5 S5.gh T.gg T.kp

theorem draw_call (G : Gr (KF w.params) mg mb base) (hh : A.handled = none) (hu : A.units + 3 < cLine) (hroom : A.depth < recursionLimit) {a : Addr} {ns : List Int} {k : Nat} {many : Int} {v : Value} {g : PH} {s : Shared} {Q : Value → Shared → Prop} {E : Value → Shared → Prop} {vs : List Value} {n : Nat}
    (hk : k ≤ 1000) (hns : ns.length ≤ 100) (hm : 0 < many) (hg : HS g s.heap) (hb : Kp base s.heap) (ha : s.heap.get? a = some (lstO vs n)) (hv : DIs g vs [il ns, .int k]) (hd : DI g v (.int many)) (hga : g a = none) (hba : base.get? a = none)
    (post : ∀ t h' g' tk vs' n', OneStep a s.heap h' g g' → h'.get? a = some (lstO vs' n') → DIs g' vs' [il ns, .int (k + 1 : Nat)] → Q (.int (drawF ns k many) t) { s with heap := h', toks := tk }) :
    wpAny (model prog w) A (call (.ref 125) [.ref a, v]) Q E s := by
  refine enter2 (x := "line") (y := "many") G hroom (by rfl) (by rfl) (by rfl) (by rfl) (fun _ _ => rfl) (by rfl) (by rfl) (by rfl) (by decide) (by rfl) (by rfl) (fun _ => rfl) (fun L z => ?_) hg hb ha hv hd hga hba fun h₁ tk E' C kp => ?_
  · rfl
  · refine draw_body (A := A.deeper _) (h₀ := s.heap) (s := s) hh hu hk hns hm ?_ ?_ ?_ ?_ ?_ ?_ ?_ C kp post
    · refine ⟨fun f φ e => (by cases e), fun _ => glob_built (v := .builtin "len") G (by rfl) (by rfl) (by rfl) (by rfl) (by rfl) (by rfl), fun e => (nomatch e), fun e => (nomatch e), fun e => (nomatch e), fun e => (nomatch e), all_nil, (all_cons (.inl (by rfl)) (all_cons (.inl (by rfl)) (all_cons (.inl (by rfl)) (all_cons (.inl (by rfl)) all_nil))))⟩
    · exact get_size_none _
    · rfl
    · rfl
    · rfl
    · rfl
    · rfl
end
end Mine
end

section
open PySem PySem.W PyProof.Rows PySem.Calls PySem.SeqAt
set_option linter.all false
set_option maxRecDepth 100000
set_option maxHeartbeats 4000000
namespace Mine
noncomputable def lawScope : Scope := scopeOf "law"
noncomputable def lawEnv (L fa : Addr) (cd : Value) : Env := envOfC "law" lawScope L fa cd
section
variable {prog : Program} {w : World} {A : Around} {base : Heap} {mg mb : Str → Option Value}
theorem law_sig (G : Gr (KF w.params) mg mb base) (hh : A.handled = none) (hu : A.units + 12 < cLine) (hroom : A.depth + 4 ≤ recursionLimit) (L fa : Addr) (cd : Value) : SigOk prog w A base (lawEnv L fa cd) Γ_law :=
  ⟨(fnL_cons ⟨_, glob_def (v := .ref 118) G (by rfl) (by rfl) (by rfl) (by rfl), fn_tree_lengths G hh (Nat.lt_of_le_of_lt (by first | lia | omega) hu) (Nat.le_trans (by first | lia | omega) hroom)⟩
      (fnL_cons ⟨_, glob_built (v := .builtin "sorted") G (by rfl) (by rfl) (by rfl) (by rfl) (by rfl) (by rfl), fn_sorted⟩
      (fnL_cons ⟨_, glob_def (v := .ref 89) G (by rfl) (by rfl) (by rfl) (by rfl), fn_is_full G hh (Nat.lt_of_le_of_lt (by first | lia | omega) hu) (Nat.le_trans (by first | lia | omega) hroom)⟩
      (fnL_cons ⟨_, glob_def (v := .ref 96) G (by rfl) (by rfl) (by rfl) (by rfl), fn_cost G hh (Nat.lt_of_le_of_lt (by first | lia | omega) hu) (Nat.le_trans (by first | lia | omega) hroom)⟩
      (fnL_cons ⟨_, glob_def (v := .ref 113) G (by rfl) (by rfl) (by rfl) (by rfl), fn_code_lengths G hh (Nat.lt_of_le_of_lt (by first | lia | omega) hu) (Nat.le_trans (by first | lia | omega) hroom)⟩
      (fnL_cons ⟨_, glob_built (v := .builtin "max") G (by rfl) (by rfl) (by rfl) (by rfl) (by rfl) (by rfl), fn_max hh⟩
      (fnL_cons ⟨_, glob_def (v := .ref 130) G (by rfl) (by rfl) (by rfl) (by rfl), fn__law_cost G hh (Nat.lt_of_le_of_lt (by first | lia | omega) hu) (Nat.le_trans (by first | lia | omega) hroom)⟩
      fnL_nil))))))),
   (fun _ => glob_built (v := .builtin "len") G (by rfl) (by rfl) (by rfl) (by rfl) (by rfl) (by rfl)), (fun _ => glob_built (v := .type "range") G (by rfl) (by rfl) (by rfl) (by rfl) (by rfl) (by rfl)), (fun _ => glob_built (v := .type "zip") G (by rfl) (by rfl) (by rfl) (by rfl) (by rfl) (by rfl)), (fun _ => glob_built (v := .type "enumerate") G (by rfl) (by rfl) (by rfl) (by rfl) (by rfl) (by rfl)), (fun e => nomatch e),
   (all_cons ⟨by rfl, by rfl⟩ (all_cons ⟨by rfl, by rfl⟩ (all_cons ⟨by rfl, by rfl⟩ (all_cons ⟨by rfl, by rfl⟩ all_nil)))),
   (all_cons (.inl (by rfl)) (all_cons (.inr ⟨by rfl, by rfl⟩) (all_cons (.inl (by rfl)) (all_cons (.inr ⟨by rfl, by rfl⟩) (all_cons (.inl (by rfl)) (all_cons (.inl (by rfl)) (all_cons (.inl (by rfl)) (all_cons (.inl (by rfl)) (all_cons (.inr ⟨by rfl, by rfl⟩) (all_cons (.inr ⟨by rfl, by rfl⟩) (all_cons (.inl (by rfl)) (all_cons (.inl (by rfl)) all_nil))))))))))))⟩
theorem law_draw (G : Gr (KF w.params) mg mb base) (L fa : Addr) (cd : Value) : GlobIs prog w A base (lawEnv L fa cd) "_law_drawn" (.ref 125) := glob_def G (by rfl) (by rfl) (by rfl) (by rfl)
theorem law_list (G : Gr (KF w.params) mg mb base) (L fa : Addr) (cd : Value) : GlobIs prog w A base (lawEnv L fa cd) "list" (.type "list") := glob_built G (by rfl) (by rfl) (by rfl) (by rfl) (by rfl) (by rfl)
theorem law_range (G : Gr (KF w.params) mg mb base) (L fa : Addr) (cd : Value) : GlobIs prog w A base (lawEnv L fa cd) "range" (.type "range") := glob_built G (by rfl) (by rfl) (by rfl) (by rfl) (by rfl) (by rfl)
end
end Mine
end

section
open PySem PySem.W PyProof.Rows PySem.Calls PySem.SeqAt
set_option linter.all false
set_option maxRecDepth 100000
set_option maxHeartbeats 4000000
namespace Mine

theorem ints_DIs {g : PH} : ∀ {vs : List Value} {ns : List Int}, IntsAre vs ns → DIs g vs (ns.map .int)
  | _, _, .nil => .nil
  | _, _, .cons n t h => .cons (.int n t) (ints_DIs h)

section
variable {prog : Program} {w : World} {A : Around} {base : Heap} {mg mb : Str → Option Value} {L fa : Addr} {cd : Value}

theorem law0 (G : Gr (KF w.params) mg mb base) {ow : Str → Addr} {g : PH} {ρ : Rho} {s : Shared} {Q : Flow → Shared → Prop} {E : Value → Shared → Prop} {m : Str → Option Value} {l : Addr} {vs : List Value} {ns : List Int}
    (C : Cf base (lawEnv L fa cd) ow g ρ s.heap) (hns : s.heap.Ns L m) (hm : m "script" = some (.ref l)) (hl : s.heap.IsList l vs.toArray) (hi : IntsAre vs ns) (hlen : ns.length ≤ 100)
    (post : ∀ ow' g' h' tk, St (lawEnv L fa cd) ow' g' (upd ρ "line" (.own [il ns, .int 0])) h' → Stp (Wp (lawEnv L fa cd) ow ρ) (Wp (lawEnv L fa cd) ow' (upd ρ "line" (.own [il ns, .int 0]))) s.heap h' g g' → Q .next { s with heap := h', toks := tk }) :
    wpAny (model prog w) A (exec (lawS 0) (lawEnv L fa cd)) Q E s := by
  obtain ⟨p1, p2, p3, p4, k, p5, p6, p7, e0⟩ : ∃ p1 p2 p3 p4 k p5 p6 p7, lawS 0 = .Assign [.Name "line" p1] (.List [.Call (.Name "list" p2) [.Name "script" p3] [] p4, .Constant (.int 0) k p5] p6) p7 := ⟨_, _, _, _, _, _, _, _, rfl⟩
  rw [e0]
  refine wpAny_Assign_Name (List_ ?_) rfl
  show wpAny _ A (spliced [(false, eval (.Call (.Name "list" p2) [.Name "script" p3] [] p4) (lawEnv L fa cd)), (false, eval (.Constant (.int 0) k p5) (lawEnv L fa cd))]) _ _ _
  refine spliced_cons (Call_ (law_list G L fa cd s _ E p2 C.b ?_))
  refine callWith_of (P := Kp base) rfl (fn_list (prog := prog) (w := w) (A := A) (base := base)).keep ?_
  refine Calls.evalArgs_plain (spliced_cons (wpAny_Name (wpAny_loadName_local C.S.hk (by rfl) hns hm ?_) (by decide)))
  refine spliced_nil ⟨C.b, ?_⟩
  show wpAny _ A (call (.type "list") [.ref l]) _ _ _
  obtain ⟨o, ho, hc, n, hd⟩ := hl
  have l1 := hi.length
  refine call_list_seq l (T := "list") (.inl rfl) ho hc hd (fun h' c' k1 k2 => ?_) (by rw [sizeLine_eq]; simp; (first | lia | omega))
  have X : Ext s.heap h' g (ins g s.heap.objs.size (lstO vs c')) := Ext.new C.S.gh k1 (get_size_none _) k2
  refine spliced_cons (wpAny_Constant_int (spliced_nil ?_))
  refine wpAny_newList ?_ (by rw [sizeLine_eq]; show 2 ≤ _; (first | lia | omega))
  have hno := get_size_none h'
  refine own_store (s := s) C (X.trans (Ext.grow X.gh _)) (Heap.get?_push_size _ rfl) (.cons (.lst (ins_self _ _ _) (ints_DIs hi)) (.cons (.int _ _) .nil)) (X.kp.none hno) (X.gh.none hno) (.inl (by rfl)) fun ow' h'' tk' S T => post ow' _ h'' tk' S T
end
end Mine
end

section
open PySem PySem.W PyProof.Rows PySem.Calls PySem.SeqAt
set_option linter.all false
set_option maxRecDepth 100000
namespace Mine
section
variable {prog : Program} {w : World} {A : Around} {base : Heap}

set_option maxHeartbeats 2000000 in
/-- a for loop over a name, whose turns are given by hand -/
theorem for_any (hh : A.handled = none) {x : Str} {px : Pos} {body : List Stmt} {ds : List D} (ρs : Nat → Rho) {env : Env} {ow : Str → Addr} {g g₁ : PH} {h₀ h₁ : Heap} {s : Shared} {I : Addr} {fp wr : List Addr} {StS : Nat → Heap → Prop} {R : Result → Shared → Prop} {tk₁ : Tok}
    (hk : kindOk env x) (C : Cf base env ow g (ρs 0) h₀) (X : Ext h₀ h₁ g g₁) (W : Src prog w A (.Name x px) I fp wr g₁ ds StS) (hst : StS 0 h₁)
    (hwr : ∀ b ∈ wr, h₀.get? b = none ∧ g₁ b = none) (hfp : ∀ b ∈ fp, h₀.get? b = none ∨ g₁ b ≠ none)
    (turn : ∀ i d, ds[i]? = some d → ∀ (ow : Str → Addr) (g : PH) (s : Shared) (Q : Flow → Shared → Prop) (E : Value → Shared → Prop), Cf base env ow g (upd (ρs i) x (.st d)) s.heap →
      (∀ ow' g' h' tk, St env ow' g' (ρs (i + 1)) h' → Stp (Wp env ow (upd (ρs i) x (.st d))) (Wp env ow' (ρs (i + 1))) s.heap h' g g' → Q .next { s with heap := h', toks := tk }) → wpAny (model prog w) A (execs body env) Q E s)
    (post : ∀ ow' g' h' tk, St env ow' g' (ρs ds.length) h' → Stp (Wp env ow (ρs 0)) (Wp env ow' (ρs ds.length)) h₀ h' g g' → R (.ok .next) { s with heap := h', toks := tk }) :
    codeAny (model prog w) A (.forLoop (.Name x px) (.ref I) body [] env) R { s with heap := h₁, toks := tk₁ } := by
  have C₁ := C.ext X
  have hfW : ∀ b ∈ fp, ¬ Wp env ow (ρs 0) b := fun b hb wb => by
    rcases hfp b hb with q | q
    · exact C.S.w_some wb q
    · exact q (C₁.S.w_none wb)
  refine codeAny_forLoop_any (fun k s' => ∃ i owi gi hi tk, s' = { s with heap := hi, toks := tk } ∧ k = ds.length + 1 - i ∧ i ≤ ds.length ∧ St env owi gi (ρs i) hi ∧ StS i hi ∧ (∀ b ∈ wr, gi b = none) ∧ (∀ b ∈ fp, ¬ Wp env owi (ρs i) b) ∧ Sub g₁ gi ∧
      Stp (Wp env ow (ρs 0)) (Wp env owi (ρs i)) h₀ hi g gi) ?_ (ds.length + 1) ⟨0, ow, g₁, h₁, tk₁, rfl, by first | lia | omega, Nat.zero_le _, C₁.S, hst, fun b hb => (hwr b hb).2, hfW, Sub.refl _, .of_ext X⟩
  rintro k s' ⟨i, owi, gi, hi, tk, rfl, rfl, hile, S, hsti, hwi, hfWi, hsub, T⟩
  have Ci : Cf base env owi gi (ρs i) hi := C.stp S T
  rcases Nat.lt_or_ge i ds.length with hlt | hge
  · refine W.next i ds[i] gi { s with heap := hi, toks := tk } (List.getElem?_eq_getElem hlt) hsti hsub S.gh hwi (fun v s₁ hv => hv) ?_
    intro v h₂ g₂ tk₂ hdv hst₂ hsub₂ hHS₂ hnw₂ hkp₂ hw₂
    have S₂ : St env owi g₂ (ρs i) h₂ := S.step hsub₂ hHS₂ (fun a wa o e => hkp₂ a o (fun mm => hfWi a (W.sub a mm) wa) e) hnw₂
    have T₂ := T.next (fun b hb => (hwr b hb).1) hkp₂ hsub₂ hnw₂
    refine wpAny_assign_Name (S₂.store (s := { s with heap := h₂, toks := tk₂ }) hk hdv fun h₃ tk₃ S₃ kp₃ => ?_)
    have T₃ : Stp (Wp env ow (ρs 0)) (Wp env owi (upd (ρs i) x (.st ds[i]))) h₀ h₃ g g₂ := T₂.trans (store_stp [x] (fun b o q e => kp₃ b o (q x (by simp)) e) fun a wa => .inl (wp_upd_st wa))
    have hfW₃ : ∀ b ∈ fp, ¬ Wp env owi (upd (ρs i) x (.st ds[i])) b := fun b hb wb => hfWi b hb (wp_upd_st wb)
    have hst₃ : StS (i + 1) h₃ := W.frame _ _ _ hst₂ fun b hb o e => kp₃ b o (fun pl => hfWi b hb (place_w pl)) e
    refine turn i ds[i] (List.getElem?_eq_getElem hlt) owi g₂ { s with heap := h₃, toks := tk₃ } _ _ (C.stp S₃ T₃) fun ow₄ g₄ h₄ tk₄ S₄ T₄ => ?_
    have T₅ := T₃.trans T₄
    refine ⟨ds.length + 1 - (i + 1), by first | lia | omega, i + 1, ow₄, g₄, h₄, tk₄, rfl, rfl, hlt, S₄, ?_, fun b hb => ?_, fun b hb wb => ?_, (hsub.trans hsub₂).trans T₄.gg, T₅⟩
    · exact W.frame _ _ _ hst₃ fun b hb o e => T₄.kp b o (hfW₃ b hb) e
    · cases z : g₄ b with
      | none => rfl
      | some o =>
        exfalso
        rcases T₄.nw b (hw₂ b hb) (by rw [z]; simp) with y | y
        · exact W.live _ _ hst₃ b (W.sub b hb) y
        · exact hfW₃ b (W.sub b hb) y
    · rcases T₄.ww b wb with y | y
      · exact hfW₃ b hb y
      · exact W.live _ _ hst₃ b hb y
  · have hie : i = ds.length := by first | lia | omega
    subst hie
    refine W.done { s with heap := hi, toks := tk } _ _ hsti fun h₂ tk₂ hkp₂ => ?_
    have T₂ : Stp (Wp env ow (ρs 0)) (Wp env owi (ρs ds.length)) h₀ h₂ g gi := T.next (fun b hb => (hwr b hb).1) hkp₂ (Sub.refl _) (fun _ e m => absurd e m)
    have S₂ : St env owi gi (ρs ds.length) h₂ := S.step (Sub.refl _) (fun b o e => hkp₂ b o (fun q => by rw [hwi b q] at e; cases e) (S.gh b o e)) (fun a wa o e => hkp₂ a o (fun mm => hfWi a (W.sub a mm) wa) e) (fun _ e m => absurd e m)
    exact wpAny_execs_nil (post owi gi h₂ tk₂ S₂ T₂)
end
end Mine
end

section
open PySem PySem.W PyProof.Rows PySem.Calls PySem.SeqAt
set_option linter.all false
set_option maxRecDepth 100000
set_option maxHeartbeats 4000000
namespace Mine
section
variable {prog : Program} {w : World} {A : Around} {base : Heap} {mg mb : Str → Option Value} {L fa : Addr} {cd : Value}

theorem draw_keep (G : Gr (KF w.params) mg mb base) : ∀ h, Kp base h → ∃ k, (k = Keeper.frame ∨ k = Keeper.machine ∨ k = Keeper.boundFrame) ∧ Looks (model prog w) h (keeperOf (.ref 125)) k :=
  fun h hb => keeps_K (f := .ref 125) (by rfl) h (G.k.keeps hb)

theorem draw_eval (G : Gr (KF w.params) mg mb base) (hh : A.handled = none) (hu : A.units + 12 < cLine) (hroom : A.depth + 4 ≤ recursionLimit) {n : Nat} {ow : Str → Addr} {g : PH} {ρ : Rho} {s : Shared} {Q : Value → Shared → Prop} {E : Value → Shared → Prop}
    {ns : List Int} {k : Nat} {many : Int} {e : Expr} {fp p pos : Pos} (C : Cf base (lawEnv L fa cd) ow g ρ s.heap) (hl : ρ "line" = some (.own [il ns, .int k])) (he : evE n Γ_law ρ e = some (.int many)) (hk : k ≤ 1000) (hns : ns.length ≤ 100) (hm : 0 < many)
    (post : ∀ t g' h' tk, St (lawEnv L fa cd) ow g' (upd ρ "line" (.own [il ns, .int (k + 1 : Nat)])) h' → Stp (Wp (lawEnv L fa cd) ow ρ) (Wp (lawEnv L fa cd) ow (upd ρ "line" (.own [il ns, .int (k + 1 : Nat)]))) s.heap h' g g' → Q (.int (drawF ns k many) t) { s with heap := h', toks := tk }) :
    wpAny (model prog w) A (eval (.Call (.Name "_law_drawn" fp) [.Name "line" p, e] [] pos) (lawEnv L fa cd)) Q E s := by
  have hs := law_sig (prog := prog) (w := w) (A := A) (base := base) G hh hu hroom L fa cd
  have H := snd_all (prog := prog) (w := w) (base := base) hh (Nat.lt_of_le_of_lt (Nat.le_add_right _ _) hu) n
  have hst : backTo pos (starEach [Expr.Name "line" p, e] (lawEnv L fa cd)) = [(false, eval (.Name "line" p) (lawEnv L fa cd)), (false, eval e (lawEnv L fa cd))] := by
    have h1 : ∀ x q, e ≠ .Starred x q := notStar he
    cases e <;> first | rfl | (exact absurd rfl (h1 _ _))
  refine Call_ (law_draw G L fa cd s _ E fp C.b ?_)
  rw [hst]
  refine callWith_of (P := Kp base) rfl (draw_keep G) ?_
  refine Calls.evalArgs_plain (spliced_cons (wpAny_Name (C.S.load hl fun v hv => ?_) (by decide)))
  obtain ⟨rfl, vs, m, o1, o2⟩ := hv
  refine spliced_cons (H.e Γ_law ρ e _ he (lawEnv L fa cd) ow g s _ E C.S hs C.b fun v h' g' tk X hd => spliced_nil ⟨C.b.trans X.kp, ?_⟩)
  have C' := C.ext X
  have wl := C'.S.wO _ _ hl
  show wpAny _ A (call (.ref 125) [.ref (ow "line"), v]) Q E _
  refine draw_call (s := { s with heap := h', toks := tk }) G hh (by first | lia | omega) (by first | lia | omega) hk hns hm X.gh C'.b (X.kp _ _ o1) (o2.mono X.gg) hd wl.1 (C'.wb _ (.inr (.inr ⟨"line", _, hl, rfl⟩))) fun t h2 g2 tk2 vs' n' O hn hd2 => ?_
  obtain ⟨S2, T2⟩ := C'.S.turn hl O hn hd2
  exact post t g2 h2 tk2 S2 ((Stp.of_ext X).trans T2)

noncomputable def TAB : List Int := [0, 1, 1, 2, 3, 5, 8, 13, 1000, 4]
noncomputable def pickT (ns : List Int) (j : Nat) : Int := TAB.getD (drawF ns j 10).toNat 0
noncomputable def csI (ns : List Int) (i : Nat) : List Int := (List.range i).map fun j => pickT ns (1 + j)
noncomputable def ρL (ns : List Int) (ρ : Rho) : Nat → Rho
  | 0 => ρ
  | i + 1 => upd (upd (upd (ρL ns ρ i) "turn" (.st (.int (0 + (i : Int) * 1)))) "line" (.own [il ns, .int (1 + i + 1 : Nat)])) "counts" (.own ((csI ns (i + 1)).map .int))
theorem ρL_line {ns : List Int} {ρ : Rho} (h : ρ "line" = some (.own [il ns, .int (1 : Nat)])) : ∀ i, ρL ns ρ i "line" = some (.own [il ns, .int (1 + i : Nat)])
  | 0 => h
  | i + 1 => by simp (config := { decide := true }) only [ρL, q_upd, if_true, if_false]; rfl
theorem ρL_counts {ns : List Int} {ρ : Rho} (h : ρ "counts" = some (.own [])) : ∀ i, ρL ns ρ i "counts" = some (.own ((csI ns i).map .int))
  | 0 => h
  | i + 1 => by simp (config := { decide := true }) only [ρL, q_upd, if_true, if_false]
theorem csI_succ (ns : List Int) (i : Nat) : csI ns (i + 1) = csI ns i ++ [pickT ns (1 + i)] := by simp [csI, List.range_succ]

end
end Mine
end

section
open PySem PySem.W PyProof.Rows PySem.Calls PySem.SeqAt
set_option linter.all false
set_option maxRecDepth 100000
set_option maxHeartbeats 400000
namespace Mine

noncomputable def loopBody : List Stmt := match lawS 2 with
  | .For _ _ b _ _ => b
  | _ => []
noncomputable def tabE : Expr := match loopBody with
  | [.Expr (.Call _ [.Subscript t _ _] _ _) _] => t
  | _ => .Tuple [] 0 ⟨0, 0, 0, 0⟩
theorem tab_eval {ρ : Rho} : evB 300 Γ_law ρ tabE = some (.tup (TAB.map .int)) := by
  conv => lhs; arg 4; whnf
  simp (config := { decide := true }) only [↓reduceIte, q_name, q_int, q_bool, q_bin, q_cmp, q_if, q_from, q_upto, q_subN, q_subC, q_subB, q_subS, q_list, q_tuple, q_comp, q_len, q_call, q_count, q_bname, q_bsub, q_btup, q_tnot, q_tbool, q_tcmp, q_tname, q_tcall, q_tsnA, q_tsnO, q_esnil, q_escons, q_itname, q_itsub, q_itrng, q_itrev, q_itzip, q_itenum, q_nil, q_ok, q_cons, q_asgName, q_asgList, q_asgMul, q_asgTup, q_asgSub, q_aug, q_augSub, q_for, q_while, q_ifs, q_ret, q_app, q_ext, q_freeze, n_name, n_tuple, n_list, n_bin, n_sub, n_call, n_const, n_slice, n_cmp, n_if, n_comp, List.flatMap_cons, List.flatMap_nil, List.append_nil, List.cons_append, List.nil_append, q_rho0, q_upd, q_fnL, q_compRho, updAll, q_tgN, q_tgT, q_asI, q_asL, Option.bind_some, Option.map_some, reduceCtorEq, ne_eq, not_false_eq_true, implies_true, and_self, if_true, if_false, Bool.false_eq_true, true_and, and_true, shD, t_st, t_b2, t_cm, t_ct, t_ifT, t_ifF, t_ls, t_tu, t_co, t_le, t_ca, t_cn, t_cd, t_seT, t_seF, q_cfN, q_cfT, decide_true, decide_false, t_no, t_nTT, t_nFF, t_nTF, t_nFT, t_tsAT, t_tsAF, t_tsOT, t_tsOF, t_it, t_zi, t_en, t_re, t_thN, t_thR, t_fin, t_siT, t_siF, t_rt, t_fo, t_as, t_al, t_am, t_at, t_su, t_au, t_ax, t_ay, t_ap, t_ex, t_tg, q_tscons, List.length_cons, List.length_nil, TAB, List.map_cons, List.map_nil]
theorem const_eval {ρ : Rho} {i : Int} {k : Nat} {p : Pos} : evE 300 Γ_law ρ (.Constant (.int i) k p) = some (.int i) := q_int

section
variable {prog : Program} {w : World} {A : Around} {base : Heap} {mg mb : Str → Option Value} {L fa : Addr} {cd : Value}

theorem loop_turn (G : Gr (KF w.params) mg mb base) (hh : A.handled = none) (hu : A.units + 12 < cLine) (hroom : A.depth + 4 ≤ recursionLimit) {ns cs : List Int} {j : Nat} {ρ : Rho} {ow : Str → Addr} {g : PH} {s : Shared} {Q : Flow → Shared → Prop} {E : Value → Shared → Prop}
    (hj : j ≤ 1000) (hns : ns.length ≤ 100) (hc9 : cs.length ≤ 100) (C : Cf base (lawEnv L fa cd) ow g ρ s.heap) (hl : ρ "line" = some (.own [il ns, .int j])) (hc : ρ "counts" = some (.own (cs.map .int)))
    (post : ∀ g' h' tk, St (lawEnv L fa cd) ow g' (upd (upd ρ "line" (.own [il ns, .int (j + 1 : Nat)])) "counts" (.own ((cs ++ [pickT ns j]).map .int))) h' →
      Stp (Wp (lawEnv L fa cd) ow ρ) (Wp (lawEnv L fa cd) ow (upd (upd ρ "line" (.own [il ns, .int (j + 1 : Nat)])) "counts" (.own ((cs ++ [pickT ns j]).map .int)))) s.heap h' g g' → Q .next { s with heap := h', toks := tk }) :
    wpAny (model prog w) A (execs loopBody (lawEnv L fa cd)) Q E s := by
  have hs := law_sig (prog := prog) (w := w) (A := A) (base := base) G hh hu hroom L fa cd
  have H := snd_all (prog := prog) (w := w) (base := base) hh (Nat.lt_of_le_of_lt (Nat.le_add_right _ _) hu) 300
  obtain ⟨q1, q2, q3, q4, k3, q5, q6, q7, q8, q9, hline, e0⟩ : ∃ q1 q2 q3 q4 k3 q5 q6 q7 q8 q9, (q2.endLine == q8.line) = true ∧ loopBody = [.Expr (.Call (.Attribute (.Name "counts" q1) "append" q2) [.Subscript tabE (.Call (.Name "_law_drawn" q3) [.Name "line" q4, .Constant (.int 10) k3 q5] [] q6) q7] [] q8) q9] := ⟨_, _, _, _, _, _, _, _, _, _, by rfl, rfl⟩
  rw [e0]
  refine wpAny_execs_cons ?_
  refine wpAny_Expr (wpAny_Call_method (T := "list") (id := "list.append") rfl rfl hline PySem.F.plainAttrs_list PySem.F.slot_list_append PySem.F.type_list_append ?_) (interactive_fn C.S.hk) (by rfl)
  refine wpAny_Name (C.S.load hc fun v hv => ?_) (by decide)
  obtain ⟨rfl, vs, k, a1, a2⟩ := hv
  refine ⟨⟨_, a1, rfl⟩, fun b eb => by cases eb; exact ⟨_, a1, rfl⟩, ?_⟩
  show wpAny _ A (callWith _ _ _ [(false, eval (.Subscript tabE (.Call (.Name "_law_drawn" q3) [.Name "line" q4, .Constant (.int 10) k3 q5] [] q6) q7) (lawEnv L fa cd))] []) _ _ _
  refine P.append_list ?_
  refine Subscript_ ?_
  refine H.b Γ_law ρ tabE _ tab_eval (lawEnv L fa cd) ow g s _ E C.S hs C.b fun o h' g' tk X hd => ?_
  have C' := C.ext X
  refine draw_eval (s := { s with heap := h', toks := tk }) G hh hu hroom C' hl const_eval hj hns (by decide) fun t g2 h2 tk2 S2 T2 => ?_
  have hdr := drawF_range ns j (many := 10) (by decide)
  have hix : idxD (.tup (TAB.map .int)) (.int (drawF ns j 10)) = some (.int (pickT ns j)) := by
    have hl10 : (TAB.map D.int).length = 10 := rfl
    simp only [idxD]
    rw [if_pos ⟨hdr.1, by rw [hl10]; decide⟩]
    exact get_map (by show _ < 10; (first | lia | omega))
  have hd2 : SD g2 h2 o (.tup (TAB.map .int)) := by
    rcases hd with q | ⟨x, vs, m, ds, e1, e2, e3, e4⟩
    · exact .inl (q.mono T2.gg)
    · cases e4
  have C2 := C'.stp S2 T2
  refine idx_sound (s := { s with heap := h2, toks := tk2 }) (h9 := S2.gh) hix hd2 (.int _ _) (by intro l u s p q; cases q) fun v3 hd3 => ?_
  have hc2 : upd ρ "line" (.own [il ns, .int (j + 1 : Nat)]) "counts" = some (.own (cs.map .int)) := by simp (config := { decide := true }) only [q_upd, if_false]; exact hc
  obtain ⟨vs', n', b1, b2, S3, T3⟩ := appOwn S2 hc2 (.cons hd3 .nil)
  refine ⟨vs'.toArray, n', by simp [b2]; rw [sizeLine_eq]; (first | lia | omega), b1, ?_⟩
  have eqf : (fun xs : Array Value => xs.push v3) = fun xs => xs ++ [v3].toArray := by funext xs; simp
  have e9 : cs.map D.int ++ [D.int (pickT ns j)] = (cs ++ [pickT ns j]).map D.int := by simp
  rw [e9] at S3 T3
  show wpAny _ A (execs [] _) Q E _
  rw [eqf]
  exact wpAny_execs_nil (post g2 _ tk2 S3 ((Stp.of_ext X).trans (T2.trans T3)))
end
end Mine
end

section
open PySem PySem.W PyProof.Rows PySem.Calls PySem.SeqAt
set_option linter.all false
set_option maxRecDepth 100000
set_option maxHeartbeats 400000
namespace Mine
section
variable {prog : Program} {w : World} {A : Around} {base : Heap} {mg mb : Str → Option Value} {L fa : Addr} {cd : Value}

theorem law2 (G : Gr (KF w.params) mg mb base) (hh : A.handled = none) (hu : A.units + 12 < cLine) (hroom : A.depth + 4 ≤ recursionLimit) {ns : List Int} {ρ : Rho} {ow : Str → Addr} {g : PH} {s : Shared} {Q : Flow → Shared → Prop} {E : Value → Shared → Prop}
    (hns : ns.length ≤ 100) (C : Cf base (lawEnv L fa cd) ow g ρ s.heap) (hl : ρ "line" = some (.own [il ns, .int (0 : Nat)])) (hc : ρ "counts" = some (.own []))
    (post : ∀ ow' g' h' tk, St (lawEnv L fa cd) ow' g' (ρL ns (upd ρ "line" (.own [il ns, .int (1 : Nat)])) (1 + drawF ns 0 7).toNat) h' →
      Stp (Wp (lawEnv L fa cd) ow ρ) (Wp (lawEnv L fa cd) ow' (ρL ns (upd ρ "line" (.own [il ns, .int (1 : Nat)])) (1 + drawF ns 0 7).toNat)) s.heap h' g g' → Q .next { s with heap := h', toks := tk }) :
    wpAny (model prog w) A (exec (lawS 2) (lawEnv L fa cd)) Q E s := by
  have hs := law_sig (prog := prog) (w := w) (A := A) (base := base) G hh hu hroom L fa cd
  obtain ⟨p1, p2, k, p3, p4, p5, k2, p6, p7, p8, p9, p10, e0⟩ : ∃ p1 p2 k p3 p4 p5 k2 p6 p7 p8 p9 p10, lawS 2 = .For (.Name "turn" p1) (.Call (.Name "range" p2) [.BinOp (.Constant (.int 1) k p3) .Add (.Call (.Name "_law_drawn" p4) [.Name "line" p5, .Constant (.int 7) k2 p6] [] p7) p8] [] p9) loopBody [] p10 := ⟨_, _, _, _, _, _, _, _, _, _, _, _, rfl⟩
  rw [e0]
  have hdr := drawF_range ns 0 (many := 7) (by decide)
  have hn : Builtin.Range.rangeSize 0 (1 + drawF ns 0 7) 1 = (((1 + drawF ns 0 7).toNat : Nat) : Int) := by rw [rangeSize_one]; split <;> (first | lia | omega)
  refine wpAny_For ?_ (fun _ => rfl)
  refine Call_ (law_range G L fa cd s _ E p2 C.b ?_)
  refine callWith_of (P := Kp base) rfl keep_type ?_
  refine Calls.evalArgs_plain ?_
  refine spliced_cons ?_
  refine wpAny_BinOp ?_
  refine wpAny_Constant_int ?_
  refine draw_eval (s := { s with toks := s.toks + 1 }) G hh hu hroom C hl const_eval (by first | lia | omega) hns (by decide) fun t g2 h2 tk2 S2 T2 => ?_
  refine PyProof.Rows.add_int ?_
  have C2 := C.stp S2 T2
  refine spliced_nil ⟨C2.b, ?_⟩
  show wpAny _ A (call (.type "range") [.int (1 + drawF ns 0 7) tk2]) _ _ _
  refine call_range_1 (s := { s with heap := h2, toks := tk2 + 1 }) ?_
  have X2 : Ext h2 (h2.push { cls := .type "range", data := .fields #[.int 0 (tk2 + 1), .int (1 + drawF ns 0 7) tk2, .int 1 (tk2 + 1 + 1)] }) g2 g2 := Ext.grow S2.gh _
  refine iters_range (tg := .Name "turn" p1) (s := { s with heap := h2.push { cls := .type "range", data := .fields #[.int 0 (tk2 + 1), .int (1 + drawF ns 0 7) tk2, .int 1 (tk2 + 1 + 1)] }, toks := tk2 + 1 + 1 + 1 }) (s₀ := h2) hh X2.gh (IsRange.new h2 0 (1 + drawF ns 0 7) 1 (tk2 + 1) tk2 (tk2 + 1 + 1)) (small_one (by first | lia | omega) (by first | lia | omega) (by first | lia | omega) (by first | lia | omega)) hn X2.kp _ E fun I fp wr StS h3 kp W hst w1 w2 w3 w4 => ?_
  have X3 : Ext h2 h3 g2 g2 := X2.trans (Ext.of_kp X2.gh kp)
  have l1 : ρL ns (upd ρ "line" (.own [il ns, .int (1 : Nat)])) 0 "line" = some (.own [il ns, .int (1 : Nat)]) := by simp (config := { decide := true }) only [ρL, q_upd, if_true]
  have c1 : ρL ns (upd ρ "line" (.own [il ns, .int (1 : Nat)])) 0 "counts" = some (.own []) := by simp (config := { decide := true }) only [ρL, q_upd, if_false]; exact hc
  have hlen : (rangeD 0 1 (1 + drawF ns 0 7).toNat).length = (1 + drawF ns 0 7).toNat := by simp [rangeD]
  refine for_any (s := s) hh (ρL ns (upd ρ "line" (.own [il ns, .int (1 : Nat)]))) (.inl (by rfl)) C2 X3 W hst (fun b q => ⟨w1 b q, w2 b q⟩) w3 (fun i d hd ow g s Q E C9 post9 => ?_) fun ow' g' h' tk S T => ?_
  · have hi : i < (1 + drawF ns 0 7).toNat := by
      rcases Nat.lt_or_ge i (1 + drawF ns 0 7).toNat with q | q
      · exact q
      · rw [List.getElem?_eq_none (by rw [hlen]; exact q)] at hd; cases hd
    have hdv : d = .int (0 + (i : Int) * 1) := by
      simp only [rangeD, List.getElem?_map, List.getElem?_range hi, Option.map_some, Option.some.injEq] at hd
      exact hd.symm
    subst hdv
    refine loop_turn G hh hu hroom (j := 1 + i) (cs := csI ns i) (by first | lia | omega) hns (by simp [csI]; (first | lia | omega)) C9 (by simp (config := { decide := true }) only [q_upd, if_false]; exact ρL_line l1 i) (by simp (config := { decide := true }) only [q_upd, if_false]; exact ρL_counts c1 i) fun g' h' tk S T => ?_
    rw [← csI_succ] at S T
    exact post9 ow g' h' tk S T
  · rw [hlen] at S T
    exact post ow' g' h' tk S (T2.trans T)
end
end Mine
end

section
open PySem PySem.W PyProof.Rows PySem.Calls PySem.SeqAt
set_option linter.all false
set_option maxRecDepth 100000
set_option maxHeartbeats 400000
namespace Mine

noncomputable def sizeE : Expr := match lawS 7 with
  | .Assign _ (.Call _ [_, e] _ _) _ => e
  | _ => .Tuple [] 0 ⟨0, 0, 0, 0⟩
theorem size_eval {ρ : Rho} {cs : List Int} (h : cs.length ≤ 100) (hc : ρ "counts" = some (.st (il cs))) : evE 300 Γ_law ρ sizeE = some (.int ((cs.length : Int) + 1)) := by
  conv => lhs; arg 4; whnf
  have hb : cs.length ≤ big := by unfold big; (first | lia | omega)
  simp only [il] at hc
  simp (config := { decide := true }) only [↓reduceIte, q_name, q_int, q_bool, q_bin, q_cmp, q_if, q_from, q_upto, q_subN, q_subC, q_subB, q_subS, q_list, q_tuple, q_comp, q_len, q_call, q_count, q_bname, q_bsub, q_btup, q_tnot, q_tbool, q_tcmp, q_tname, q_tcall, q_tsnA, q_tsnO, q_esnil, q_escons, q_itname, q_itsub, q_itrng, q_itrev, q_itzip, q_itenum, q_nil, q_ok, q_cons, q_asgName, q_asgList, q_asgMul, q_asgTup, q_asgSub, q_aug, q_augSub, q_for, q_while, q_ifs, q_ret, q_app, q_ext, q_freeze, n_name, n_tuple, n_list, n_bin, n_sub, n_call, n_const, n_slice, n_cmp, n_if, n_comp, List.flatMap_cons, List.flatMap_nil, List.append_nil, List.cons_append, List.nil_append, q_rho0, q_upd, q_fnL, q_compRho, updAll, q_tgN, q_tgT, q_asI, q_asL, Option.bind_some, Option.map_some, reduceCtorEq, ne_eq, not_false_eq_true, implies_true, and_self, if_true, if_false, Bool.false_eq_true, true_and, and_true, shD, t_st, t_b2, t_cm, t_ct, t_ifT, t_ifF, t_ls, t_tu, t_co, t_le, t_ca, t_cn, t_cd, t_seT, t_seF, q_cfN, q_cfT, decide_true, decide_false, t_no, t_nTT, t_nFF, t_nTF, t_nFT, t_tsAT, t_tsAF, t_tsOT, t_tsOF, t_it, t_zi, t_en, t_re, t_thN, t_thR, t_fin, t_siT, t_siF, t_rt, t_fo, t_as, t_al, t_am, t_at, t_su, t_au, t_ax, t_ay, t_ap, t_ex, t_tg, q_tscons, Γ_law, hc, φlen, List.length_map, hb, binD, binI, binL, binR, isAdd, isMul]
section
variable {prog : Program} {w : World} {A : Around} {base : Heap} {mg mb : Str → Option Value} {L fa : Addr} {cd : Value}
theorem law7 (G : Gr (KF w.params) mg mb base) (hh : A.handled = none) (hu : A.units + 12 < cLine) (hroom : A.depth + 4 ≤ recursionLimit) {ns cs : List Int} {j : Nat} {ρ : Rho} {ow : Str → Addr} {g : PH} {s : Shared} {Q : Flow → Shared → Prop} {E : Value → Shared → Prop}
    (hj : j ≤ 1000) (hns : ns.length ≤ 100) (hcs : cs.length ≤ 100) (C : Cf base (lawEnv L fa cd) ow g ρ s.heap) (hl : ρ "line" = some (.own [il ns, .int j])) (hc : ρ "counts" = some (.st (il cs)))
    (post : ∀ g' h' tk, St (lawEnv L fa cd) ow g' (upd (upd ρ "line" (.own [il ns, .int (j + 1 : Nat)])) "spot" (.st (.int (drawF ns j ((cs.length : Int) + 1))))) h' →
      Stp (Wp (lawEnv L fa cd) ow ρ) (Wp (lawEnv L fa cd) ow (upd (upd ρ "line" (.own [il ns, .int (j + 1 : Nat)])) "spot" (.st (.int (drawF ns j ((cs.length : Int) + 1)))))) s.heap h' g g' → Q .next { s with heap := h', toks := tk }) :
    wpAny (model prog w) A (exec (lawS 7) (lawEnv L fa cd)) Q E s := by
  obtain ⟨p1, p2, p3, p4, p5, e0⟩ : ∃ p1 p2 p3 p4 p5, lawS 7 = .Assign [.Name "spot" p1] (.Call (.Name "_law_drawn" p2) [.Name "line" p3, sizeE] [] p4) p5 := ⟨_, _, _, _, _, rfl⟩
  rw [e0]
  refine wpAny_Assign_Name ?_ rfl
  refine draw_eval G hh hu hroom C hl (size_eval hcs hc) hj hns (by first | lia | omega) fun t g2 h2 tk2 S2 T2 => ?_
  refine S2.store (s := { s with heap := h2, toks := tk2 }) (.inl (by rfl)) (.int _ t) fun h3 tk3 S3 k3 => ?_
  exact post g2 h3 tk3 S3 (T2.trans (store_stp ["spot"] (fun b o q e => k3 b o (q _ (by simp)) e) fun b wb => .inl (wp_upd_st wb)))
end
end Mine
end

section
open PySem PySem.W PyProof.Rows PySem.Calls PySem.SeqAt
set_option linter.all false
set_option maxRecDepth 100000
set_option maxHeartbeats 400000
namespace Mine
section
variable {prog : Program} {w : World} {A : Around} {base : Heap} {mg mb : Str → Option Value} {L fa : Addr} {cd : Value}
theorem law13x (G : Gr (KF w.params) mg mb base) (hh : A.handled = none) (hu : A.units + 12 < cLine) (hroom : A.depth + 4 ≤ recursionLimit) {cs : List Int} {ln : List D} {p q : IP} {r : List IP} {ρ : Rho} {ow : Str → Addr} {g : PH} {s : Shared} {Q : Flow → Shared → Prop} {E : Value → Shared → Prop}
    (GG : Good cs) (hv : LV cs ln ρ) (ho : ordF cs = p :: q :: r) (C : Cf base (lawEnv L fa cd) ow g ρ s.heap)
    (post : ∀ ρ' g' h' tk, LL cs p.2 q.2 ρ' → St (lawEnv L fa cd) ow g' ρ' h' → Stp (Wp (lawEnv L fa cd) ow ρ) (Wp (lawEnv L fa cd) ow ρ') s.heap h' g g' → Q .next { s with heap := h', toks := tk }) :
    wpAny (model prog w) A (exec (lawS 13) (lawEnv L fa cd)) Q E s := by
  have hs := law_sig (prog := prog) (w := w) (A := A) (base := base) G hh hu hroom L fa cd
  have H := snd_all (prog := prog) (w := w) (base := base) hh (Nat.lt_of_le_of_lt (Nat.le_add_right _ _) hu) 300
  obtain ⟨p1, p2, k, p3, p4, e0⟩ : ∃ p1 p2 k p3 p4, lawS 13 = .Assign [.Tuple [.Name "low" p1, .Name "high" p2] k p3] pairE p4 := ⟨_, _, _, _, _, rfl⟩
  have w1 : swapsWithSole (tgtE (lawS 13)) (valE (lawS 13)) (posE (lawS 13)).line (lawEnv L fa cd) = pure false := by rfl
  have w2 : swappedStores (tgtE (lawS 13)) (valE (lawS 13)) (lawEnv L fa cd) = pure none := by rfl
  have t0 := congrArg tgtE e0
  have v0 := congrArg valE e0
  have s0 := congrArg posE e0
  rw [t0, v0, s0] at w1
  rw [t0, v0] at w2
  rw [e0]
  refine two_plain H hh (law13 GG hv ho) C hs (.inr ⟨by rfl, by rfl⟩) (.inr ⟨by rfl, by rfl⟩) w1 w2 fun g' h' tk S T => ?_
  refine post _ g' h' tk ⟨?_, ?_, ?_, ?_⟩ S T
  · simp (config := { decide := true }) only [q_upd, if_false]; exact hv.c
  · simp (config := { decide := true }) only [q_upd, if_false]; exact hv.live
  · simp (config := { decide := true }) only [q_upd, if_true, if_false]
  · simp (config := { decide := true }) only [q_upd, if_true]
end
end Mine
end

section
open PySem PySem.W PyProof.Rows PySem.Calls PySem.SeqAt
set_option linter.all false
set_option maxRecDepth 100000
set_option maxHeartbeats 4000000
namespace Mine

noncomputable def tryA : List Expr := match tryB with
  | [.If (.Compare (.Call _ [_, .Call _ as _ _] _ _) _ _ _) _ _ _] => as
  | _ => []
noncomputable def tryM : Expr := tryA.getD 1 (.Tuple [] 0 ⟨0, 0, 0, 0⟩)
noncomputable def suiteT : Expr := match lawS 12 with
  | .Try _ [.ExceptHandler _ _ [.If t _ _ _] _] _ _ _ => t
  | _ => .Tuple [] 0 ⟨0, 0, 0, 0⟩

theorem try_form : ∃ p1 q1 p2 q2 p3 p4 r p5 a p6 p7 p8 p9 b p10, behindInMarks .Lt r = false ∧ lawS 12 = .Try [.If (.Compare (.Call (.Name "cost" p1) [.Name "counts" q1, .Call (.Name "code_lengths" p2) [.Name "counts" q2, tryM] [] p3] [] p4) [.Lt] [r] p5) a [] p6] [.ExceptHandler (some (.Name "FilterFault" p7)) none [.If suiteT b [] p10] p8] [] [] p9 :=
  ⟨_, _, _, _, _, _, _, _, _, _, _, _, _, _, _, by rfl, rfl⟩
theorem suite_form : ∃ p1 p2 p3 k p4 p5 p6 p7 k2 p8 p9 p10 p11, suiteT = .Compare (.Call (.Name "len" p1) [.Name "live" p2] [] p3) [.LtE] [.BinOp (.Constant (.int 2) k p4) .Pow (.BinOp (.Call (.Name "max" p5) [.Name "lengths" p6] [] p7) .Sub (.Constant (.int 1) k2 p8) p9) p10] p11 :=
  ⟨_, _, _, _, _, _, _, _, _, _, _, _, _, rfl⟩

section
variable {prog : Program} {w : World} {A : Around} {base : Heap} {mg mb : Str → Option Value} {L fa : Addr} {cd : Value}

theorem suite_h (G : Gr (KF w.params) mg mb base) {x : Addr} {ox : Obj} {ws : Array Value} (hh : A.handled = some (.ref x))
    {cs : List Int} {ln : List D} {ρ : Rho} {ow : Str → Addr} {g : PH} {s : Shared} {Q : Bool → Shared → Prop} {E : Value → Shared → Prop} (hx : s.heap.get? x = some ox) (hxd : ox.data = .fields ws) (h2 : ws[2]? = some .none)
    (S : St (lawEnv L fa cd) ow g ρ s.heap) (hv : LV cs ln ρ) (hb : Kp base s.heap) (h8 : cs.length ≤ 8) (hne : treeF cs ≠ []) (hM : maxL (treeF cs) = (depthM cs : Nat)) (hd1 : 1 ≤ depthM cs) (hd2 : depthM cs ≤ 20) (hf : 2 ^ (depthM cs - 1) < (ordF cs).length)
    (post : ∀ h' tk g', Ext s.heap h' g g' → Q false { s with heap := h', toks := tk }) :
    wpAny (model prog w) A (PySem.isTrue suiteT (lawEnv L fa cd) (eval suiteT (lawEnv L fa cd))) Q E s := by
  obtain ⟨p1, p2, p3, k, p4, p5, p6, p7, k2, p8, p9, p10, p11, e0⟩ := suite_form
  rw [e0]
  obtain ⟨i1, i2, i3, i4⟩ := hv
  have hlen : GlobIs prog w A base (lawEnv L fa cd) "len" (.builtin "len") := glob_built G (by rfl) (by rfl) (by rfl) (by rfl) (by rfl) (by rfl)
  have hmax : GlobIs prog w A base (lawEnv L fa cd) "max" (.builtin "max") := glob_built G (by rfl) (by rfl) (by rfl) (by rfl) (by rfl) (by rfl)
  have hob : (ordF cs).length ≤ big := by have := ordF_len cs; unfold big; (first | lia | omega)
  refine wpAny_isTrue_Compare1 (Call_ (hlen s _ E p1 hb ?_)) (by rfl)
  refine callWith_of (P := Kp base) rfl (fn_len (prog := prog) (w := w) (A := A) (base := base)).keep ?_
  refine Calls.evalArgs_plain (spliced_cons (wpAny_Name (S.load i4 fun v hvv => ?_) (by decide)))
  refine spliced_nil ⟨hb, ?_⟩
  show wpAny _ A (call (.builtin "len") [v]) _ E _
  refine fn_len.call [v] [_] (.int ((ordF cs).length)) g s _ E (by simp only [φlen, List.length_map]; rw [if_pos hob]) (.cons hvv .nil) S.gh hb fun v1 h1 g1 tk1 X1 hd1' => ?_
  refine wpAny_BinOp (wpAny_Constant_int ?_)
  refine wpAny_BinOp (Call_ (hmax _ _ E p5 (hb.trans X1.kp) ?_))
  refine callWith_of (P := Kp base) rfl keep_builtin ?_
  refine Calls.evalArgs_plain (spliced_cons (wpAny_Name ((S.ext X1).load i3 fun v2 hv2 => ?_) (by decide)))
  refine spliced_nil ⟨hb.trans X1.kp, ?_⟩
  show wpAny _ A (call (.builtin "max") [v2]) _ E _
  refine max_h hh (X1.kp _ _ hx) hxd h2 X1.gh hv2 hne fun h3 tk3 t3 X3 => ?_
  rw [hM]
  refine wpAny_Constant_int ?_
  refine PyProof.Rows.sub_int ?_
  have hz : ((depthM cs : Nat) : Int) - 1 = ((depthM cs - 1 : Nat) : Int) := by first | lia | omega
  rw [hz]
  refine PyProof.Rows.pow_int_small (by first | lia | omega) (by first | lia | omega) (by decide) ?_
  rw [Int.toNat_natCast]
  obtain ⟨t1, rfl⟩ := hd1'.int_inv
  refine P.le_int ?_
  have c : ¬ (((ordF cs).length : Int) ≤ (2 : Int) ^ (depthM cs - 1)) := by
    have : ((2 ^ (depthM cs - 1) : Nat) : Int) = (2 : Int) ^ (depthM cs - 1) := by simp
    (first | lia | omega)
  rw [decide_eq_false c]
  exact wpAny_truthy_bool (post _ _ g1 (X1.trans X3))
end
end Mine
end

section
open PySem PySem.W PyProof.Rows PySem.Calls PySem.SeqAt
set_option linter.all false
set_option maxRecDepth 100000
set_option maxHeartbeats 4000000
namespace Mine

section
variable {env : Env} {ow : Str → Addr} {g : PH} {ρ : Rho} {hr h : Heap}
theorem St.mv (S : St env ow g ρ hr) (m : Mv hr [env.locals] h) : St env ow g ρ h := by
  have kw : ∀ b o, b ≠ env.locals → hr.get? b = some o → h.get? b = some o := fun b o hb e => m.kp b o e (by simpa using hb)
  have oldSI : ∀ x sl v, ρ x = some sl → SI g hr (ow x) v sl → SI g h (ow x) v sl := fun x sl v e z => by
    cases sl with
    | st d => exact z
    | own es => exact z.kp (Sub.refl _) fun o => kw _ o (S.wO x es e).2.1
  refine ⟨S.hk, fun b o e => kw b o (fun q => by rw [q, S.wL] at e; cases e) (S.gh b o e), ?_, fun x sl e k => ?_, fun x c e => ?_, S.apart, S.wL, S.wC, S.wO, S.inj⟩
  · obtain ⟨mm, ⟨o, es, ep, ho, hd, r⟩, hm⟩ := S.loc
    obtain ⟨sl, z⟩ := m.any ho
    exact ⟨mm, ⟨_, es, ep, z, hd, r⟩, fun x sl e k => let ⟨v, e1, e2⟩ := hm x sl e k; ⟨v, e1, oldSI x sl v e e2⟩⟩
  · obtain ⟨k2, c, v, e1, ⟨o, ho, hd⟩, e3⟩ := S.cel x sl e k
    exact ⟨k2, c, v, e1, ⟨o, kw c o (S.wC x c e1).2 ho, hd⟩, oldSI x sl v e e3⟩
  · obtain ⟨v, o, ho, hd⟩ := S.isc x c e
    exact ⟨v, o, kw c o (S.wC x c e).2 ho, hd⟩
theorem St.mv_stp (m : Mv hr [env.locals] h) : Stp (Wp env ow ρ) (Wp env ow ρ) hr h g g :=
  ⟨fun a o wa e => m.kp a o e (by simp only [List.mem_singleton]; intro q; exact wa (.inl q)), Sub.refl _, fun a e n => absurd e n, fun a w => .inl w⟩
end

theorem most_eval {cs : List Int} {ln : List D} {ρ : Rho} (GG : Good cs) (hv : LV cs ln ρ) (h2 : 2 ≤ (ordF cs).length) : evE 300 Γ_law ρ tryM = some (.int ((depthM cs - 1 : Nat) : Int)) := by
  conv => lhs; arg 4; whnf
  have W := GG.two h2
  obtain ⟨i1, i2, i3, i4⟩ := hv
  have hmax := max_eval GG h2 W.m1
  have hsub : ((depthM cs : Int) - 1) = ((depthM cs - 1 : Nat) : Int) := by have := W.m1; (first | lia | omega)
  simp only [il] at i3
  simp (config := { decide := true }) only [↓reduceIte, q_name, q_int, q_bool, q_bin, q_cmp, q_if, q_from, q_upto, q_subN, q_subC, q_subB, q_subS, q_list, q_tuple, q_comp, q_len, q_call, q_count, q_bname, q_bsub, q_btup, q_tnot, q_tbool, q_tcmp, q_tname, q_tcall, q_tsnA, q_tsnO, q_esnil, q_escons, q_itname, q_itsub, q_itrng, q_itrev, q_itzip, q_itenum, q_nil, q_ok, q_cons, q_asgName, q_asgList, q_asgMul, q_asgTup, q_asgSub, q_aug, q_augSub, q_for, q_while, q_ifs, q_ret, q_app, q_ext, q_freeze, n_name, n_tuple, n_list, n_bin, n_sub, n_call, n_const, n_slice, n_cmp, n_if, n_comp, List.flatMap_cons, List.flatMap_nil, List.append_nil, List.cons_append, List.nil_append, q_rho0, q_upd, q_fnL, q_compRho, updAll, q_tgN, q_tgT, q_asI, q_asL, Option.bind_some, Option.map_some, reduceCtorEq, ne_eq, not_false_eq_true, implies_true, and_self, if_true, if_false, Bool.false_eq_true, true_and, and_true, shD, t_st, t_b2, t_cm, t_ct, t_ifT, t_ifF, t_ls, t_tu, t_co, t_le, t_ca, t_cn, t_cd, t_seT, t_seF, q_cfN, q_cfT, decide_true, decide_false, t_no, t_nTT, t_nFF, t_nTF, t_nFT, t_tsAT, t_tsAF, t_tsOT, t_tsOF, t_it, t_zi, t_en, t_re, t_thN, t_thR, t_fin, t_siT, t_siF, t_rt, t_fo, t_as, t_al, t_am, t_at, t_su, t_au, t_ax, t_ay, t_ap, t_ex, t_tg, q_tscons, Γ_law, i3, hmax, binD, binI, binL, binR, isAdd, isMul, hsub]

section
variable {prog : Program} {w : World} {A : Around} {base : Heap} {mg mb : Str → Option Value} {L fa : Addr} {cd : Value}

theorem law_frames {h : Heap} {ow : Str → Addr} {g : PH} {ρ : Rho} (C : Cf base (lawEnv L fa cd) ow g ρ h) : h.FunFrames base [lawEnv L fa cd] := by
  obtain ⟨m, ⟨o, es, ep, ho, hd, _⟩, _⟩ := C.S.loc
  exact frame_none (fun q => by rw [C.S.hk] at q; cases q) (by rfl) (C.wb _ (.inl rfl)) ho (fun vs q => by rw [hd] at q; cases q) trivial

theorem law12r (G : Gr (KF w.params) mg mb base) (hh : A.handled = none) (hu : A.units + 12 < cLine) (hroom : A.depth + 4 ≤ recursionLimit) (hfr : A.frames = some [lawEnv L fa cd])
    {cs : List Int} {ln : List D} {ρ : Rho} {ow : Str → Addr} {g : PH} {s : Shared} {Q : Flow → Shared → Prop} {E : Value → Shared → Prop}
    (GG : Good cs) (hv : LV cs ln ρ) (h2 : 2 ≤ (ordF cs).length) (hx : ¬ (2 ≤ depthM cs ∧ (ordF cs).length ≤ 2 ^ (depthM cs - 1))) (C : Cf base (lawEnv L fa cd) ow g ρ s.heap)
    (post : ∀ g' h' tk, St (lawEnv L fa cd) ow g' ρ h' → Stp (Wp (lawEnv L fa cd) ow ρ) (Wp (lawEnv L fa cd) ow ρ) s.heap h' g g' → Q .next { s with heap := h', toks := tk }) :
    wpAny (model prog w) A (exec (lawS 12) (lawEnv L fa cd)) Q E s := by
  have hs := law_sig (prog := prog) (w := w) (A := A) (base := base) G hh hu hroom L fa cd
  have W := GG.two h2
  have H := snd_all (prog := prog) (w := w) (base := base) hh (Nat.lt_of_le_of_lt (Nat.le_add_right _ _) hu) 300
  have h8 : cs.length ≤ 8 := by have := GG.len; (first | lia | omega)
  have hm1 := W.m1
  have hm20 := W.m20
  have hf : 2 ^ (depthM cs - 1) < (ordF cs).length := by
    by_cases q : 2 ≤ depthM cs
    · exact Nat.lt_of_not_le fun z => hx ⟨q, z⟩
    · have : depthM cs - 1 = 0 := by first | lia | omega
      rw [this]; (first | lia | omega)
  have hne : treeF cs ≠ [] := fun q => by
    have := treeF_len cs
    rw [q] at this
    have := ordF_len cs
    simp at *; (first | lia | omega)
  have hM := tree_max' GG.facts h2 hm1
  obtain ⟨p1, q1, p2, q2, p3, p4, r, p5, a, p6, p7, p8, p9, b, p10, hbm, e0⟩ := try_form
  rw [e0]
  have hcost : GlobIs prog w A base (lawEnv L fa cd) "cost" (.ref 96) := glob_def (v := .ref 96) G (by rfl) (by rfl) (by rfl) (by rfl)
  have hcode : GlobIs prog w A base (lawEnv L fa cd) "code_lengths" (.ref 113) := glob_def (v := .ref 113) G (by rfl) (by rfl) (by rfl) (by rfl)
  have hflt : GlobIs prog w (A.mark (some (.ref 0))) base (lawEnv L fa cd) "FilterFault" (.ref 59) := glob_def (v := .ref 59) G (by rfl) (by rfl) (by rfl) (by rfl)
  have kcost : ∀ h, Kp base h → ∃ k, (k = Keeper.frame ∨ k = Keeper.machine ∨ k = Keeper.boundFrame) ∧ Looks (model prog w) h (keeperOf (.ref 96)) k := fun h hb => keeps_K (f := .ref 96) (by rfl) h (G.k.keeps hb)
  have kcode : ∀ h, Kp base h → ∃ k, (k = Keeper.frame ∨ k = Keeper.machine ∨ k = Keeper.boundFrame) ∧ Looks (model prog w) h (keeperOf (.ref 113)) k := fun h hb => keeps_K (f := .ref 113) (by rfl) h (G.k.keeps hb)
  refine wpAny_Try_except ?_
  refine wpAny_execs_cons (wpAny_If (wpAny_isTrue_Compare1 (Call_ (hcost s _ _ p1 C.b ?_)) hbm))
  refine callWith_of (P := Kp base) rfl kcost ?_
  refine Calls.evalArgs_plain (spliced_cons (wpAny_Name (C.S.load hv.c fun v1 hv1 => ?_) (by decide)))
  refine spliced_cons (Call_ (hcode s _ _ p2 C.b ?_))
  refine callWith_of (P := Kp base) rfl kcode ?_
  refine Calls.evalArgs_plain (spliced_cons (wpAny_Name (C.S.load hv.c fun v2 hv2 => ?_) (by decide)))
  refine spliced_cons (H.e Γ_law ρ tryM _ (most_eval GG hv h2) (lawEnv L fa cd) ow g s _ _ C.S hs C.b fun v3 h1 g1 tk1 X1 hd3 => spliced_nil ⟨C.b.trans X1.kp, ?_⟩)
  show wpAny _ A (call (.ref 113) [v2, v3]) _ _ _
  have C1 := C.ext X1
  have fr1 := law_frames C1
  refine cl_raise (s := { s with heap := h1, toks := tk1 }) (outer := [lawEnv L fa cd]) G hh (by first | lia | omega) (by first | lia | omega) hfr h8 h2 (n := depthM cs - 1) (by first | lia | omega) (.inr hf) (.cons (hv2.mono X1.gg) (.cons hd3 .nil)) X1.gh C1.b fr1 fun h2' tk2 e t od F1 => ?_
  refine note_next (s := { s with heap := h2', toks := tk2 }) (base := base) (F := [L]) hfr fr1 (fun _ z => z) (by rfl) F1 fun h3 F3 => ?_
  refine fly_off (s := { s with heap := h3, toks := tk2 }) F3 fun h4 F4 => ?_
  have C4 : Cf base (lawEnv L fa cd) ow g1 ρ h4 := C1.stp (C1.S.mv F4.mv) (St.mv_stp F4.mv)
  refine wpAny_handleBy_cons (codeAny_handlers_test ((glob_def (v := .ref 59) G (by rfl) (by rfl) (by rfl) (by rfl) : GlobIs prog w (A.mark (some (.ref e))) base (lawEnv L fa cd) "FilterFault" (.ref 59)) _ _ _ p7 C4.b ?_)) (by intro q; cases q)
  obtain ⟨T4, oT4, ts4, _, _, he4, _, _, _⟩ := F4.tb
  refine wpAny_excMatches_sub_self (at59 (G.k.keeps C4.b)) he4 rfl (by decide +kernel) (codeAny_handlers_suite ?_)
  refine fly_off (s := { s with heap := h4, toks := tk2 }) F4 fun h5 F5 => ?_
  have T5 := St.mv_stp (ow := ow) (g := g1) (ρ := ρ) (env := lawEnv L fa cd) F5.mv
  have C5 : Cf base (lawEnv L fa cd) ow g1 ρ h5 := C1.stp (C1.S.mv F5.mv) T5
  obtain ⟨T6, oT6, ts6, _, _, he5, _, _, _⟩ := F5.tb
  refine wpAny_execs_cons (wpAny_If (suite_h (s := { s with heap := h5, toks := tk2 }) (A := A.mark (some (.ref e))) G rfl he5 rfl (by rfl) C5.S hv C5.b h8 hne hM hm1 hm20 hf fun h6 tk6 g6 X6 => ?_))
  refine wpAny_execs_nil (wpAny_execs_nil (post g6 h6 tk6 (C5.S.ext X6) (((Stp.of_ext X1).trans T5).trans (Stp.of_ext X6))))
end
end Mine
end

section
open PySem PySem.W PyProof.Rows PySem.Calls PySem.SeqAt
set_option linter.all false
set_option maxRecDepth 100000
set_option maxHeartbeats 4000000
namespace Mine

theorem good_cs (ns : List Int) : Good (csI ns (1 + drawF ns 0 7).toNat) ∧ (csI ns (1 + drawF ns 0 7).toNat).length = (1 + drawF ns 0 7).toNat := by
  have h7 := drawF_range ns 0 (many := 7) (by decide)
  have hl : (csI ns (1 + drawF ns 0 7).toNat).length = (1 + drawF ns 0 7).toNat := by simp [csI]
  refine ⟨⟨by first | lia | omega, fun c hc => ?_⟩, hl⟩
  obtain ⟨j, _, rfl⟩ := List.mem_map.mp hc
  have h10 := drawF_range ns (1 + j) (many := 10) (by decide)
  unfold pickT
  generalize drawF ns (1 + j) 10 = d at h10
  have hk : d.toNat < 10 := by first | lia | omega
  generalize d.toNat = k at hk
  have : ∀ k, k < 10 → TAB.getD k 0 ∈ ([0, 1, 2, 3, 4, 5, 8, 13, 1000] : List Int) := by decide
  exact this k hk

theorem law1 {ρ : Rho} : exe 300 Γ_law ρ (lawS 1) = some (.next, upd ρ "counts" (.own [])) := by
  conv => lhs; arg 4; whnf
  simp (config := { decide := true }) only [↓reduceIte, q_name, q_int, q_bool, q_bin, q_cmp, q_if, q_from, q_upto, q_subN, q_subC, q_subB, q_subS, q_list, q_tuple, q_comp, q_len, q_call, q_count, q_bname, q_bsub, q_btup, q_tnot, q_tbool, q_tcmp, q_tname, q_tcall, q_tsnA, q_tsnO, q_esnil, q_escons, q_itname, q_itsub, q_itrng, q_itrev, q_itzip, q_itenum, q_nil, q_ok, q_cons, q_asgName, q_asgList, q_asgMul, q_asgTup, q_asgSub, q_aug, q_augSub, q_for, q_while, q_ifs, q_ret, q_app, q_ext, q_freeze, n_name, n_tuple, n_list, n_bin, n_sub, n_call, n_const, n_slice, n_cmp, n_if, n_comp, List.flatMap_cons, List.flatMap_nil, List.append_nil, List.cons_append, List.nil_append, q_rho0, q_upd, q_fnL, q_compRho, updAll, q_tgN, q_tgT, q_asI, q_asL, Option.bind_some, Option.map_some, reduceCtorEq, ne_eq, not_false_eq_true, implies_true, and_self, if_true, if_false, Bool.false_eq_true, true_and, and_true, shD, t_st, t_b2, t_cm, t_ct, t_ifT, t_ifF, t_ls, t_tu, t_co, t_le, t_ca, t_cn, t_cd, t_seT, t_seF, q_cfN, q_cfT, decide_true, decide_false, t_no, t_nTT, t_nFF, t_nTF, t_nFT, t_tsAT, t_tsAF, t_tsOT, t_tsOF, t_it, t_zi, t_en, t_re, t_thN, t_thR, t_fin, t_siT, t_siF, t_rt, t_fo, t_as, t_al, t_am, t_at, t_su, t_au, t_ax, t_ay, t_ap, t_ex, t_tg, q_tscons, Γ_law, List.length_nil]

theorem try_body : ∃ h0 p, lawS 12 = .Try tryB [h0] [] [] p := ⟨_, _, rfl⟩
theorem law_stmts : B_law = [lawS 0, lawS 1, lawS 2, lawS 3, lawS 4, lawS 5, lawS 6, lawS 7, lawS 8, lawS 9, lawS 10, lawS 11, lawS 12, lawS 13, lawS 14, lawS 15, lawS 16] := rfl

section
variable {prog : Program} {w : World} {A : Around} {base : Heap} {mg mb : Str → Option Value} {L fa : Addr} {cd : Value} {env : Env} {Γ : Sig}

theorem law_step (hh : A.handled = none) (hu : A.units < cLine) (hs : SigOk prog w A base env Γ) {st : Stmt} {rest : List Stmt} {ρ : Rho} {P : Rho → Prop} {ow : Str → Addr} {g : PH} {s : Shared} {Q : Flow → Shared → Prop} {E : Value → Shared → Prop}
    (ok : Ok (exe 300 Γ ρ st) P) (C : Cf base env ow g ρ s.heap)
    (k : ∀ ρ' ow' g' h' tk, P ρ' → Cf base env ow' g' ρ' h' → wpAny (model prog w) A (execs rest env) Q E { s with heap := h', toks := tk }) : wpAny (model prog w) A (execs (st :: rest) env) Q E s := by
  obtain ⟨ρ', e, p⟩ := ok.out
  refine wpAny_execs_cons (((snd_run (prog := prog) (w := w) (A := A) (base := base) hh hu 300) 300 (Nat.le_refl _)).1 Γ _ _ _ e _ _ g s _ _ C hs fun f ow' g' h' tk hf S T => ?_)
  cases hf
  exact k ρ' ow' g' h' tk p (C.stp S T)

theorem law_ret (hh : A.handled = none) (hu : A.units < cLine) (hs : SigOk prog w A base env Γ) {st : Stmt} {rest : List Stmt} {ρ : Rho} {b : Bool} {ow : Str → Addr} {g : PH} {s : Shared} {Q : Flow → Shared → Prop} {E : Value → Shared → Prop}
    (e : ∃ ρ', exe 300 Γ ρ st = some (.ret (.bool b), ρ')) (C : Cf base env ow g ρ s.heap)
    (k : ∀ h' tk, Kp base h' → Q (.ret (.bool b)) { s with heap := h', toks := tk }) : wpAny (model prog w) A (execs (st :: rest) env) Q E s := by
  obtain ⟨ρ', e⟩ := e
  refine wpAny_execs_cons (((snd_run (prog := prog) (w := w) (A := A) (base := base) hh hu 300) 300 (Nat.le_refl _)).1 Γ _ _ _ e _ _ g s _ _ C hs fun f ow' g' h' tk hf S T => ?_)
  obtain ⟨v, rfl, hv⟩ := hf
  obtain rfl := hv.bool_inv
  exact k h' tk (C.stp S T).b

/-- from the try on -/
theorem law_tail (G : Gr (KF w.params) mg mb base) (hh : A.handled = none) (hu : A.units + 12 < cLine) (hroom : A.depth + 4 ≤ recursionLimit) 
    {cs : List Int} {ln : List D} {ρ : Rho} {ow : Str → Addr} {g : PH} {s : Shared} {Q : Flow → Shared → Prop} {E : Value → Shared → Prop}
    (GG : Good cs) (hv : LV cs ln ρ) (h2 : 2 ≤ (ordF cs).length) (C : Cf base (lawEnv L fa cd) ow g ρ s.heap)
    (k : ∀ h' tk, Kp base h' → Q (.ret (.bool true)) { s with heap := h', toks := tk }) :
    wpAny (model prog w) A (execs [lawS 13, lawS 14, lawS 15, lawS 16] (lawEnv L fa cd)) Q E s := by
  have hs := law_sig (prog := prog) (w := w) (A := A) (base := base) G hh hu hroom L fa cd
  have hu0 : A.units < cLine := by first | lia | omega
  obtain ⟨p, q, r, ho⟩ : ∃ p q r, ordF cs = p :: q :: r := by
    match e : ordF cs, h2 with
    | p :: q :: r, _ => exact ⟨p, q, r, rfl⟩
  refine wpAny_execs_cons (law13x G hh hu hroom GG hv ho C fun ρ' g' h' tk hl S T => ?_)
  have C1 := C.stp S T
  refine law_step (s := { s with heap := h', toks := tk }) hh hu0 hs (law14 GG ho hl) C1 fun ρ2 ow2 g2 h2' tk2 P2 C2 => ?_
  refine law_step (s := { s with heap := h2', toks := tk2 }) hh hu0 hs (law15 GG P2) C2 fun ρ3 ow3 g3 h3 tk3 P3 C3 => ?_
  exact law_ret (s := { s with heap := h3, toks := tk3 }) hh hu0 hs (law16 GG ho P3) C3 k

theorem law_mid (G : Gr (KF w.params) mg mb base) (hh : A.handled = none) (hu : A.units + 12 < cLine) (hroom : A.depth + 4 ≤ recursionLimit) (hfr : A.frames = some [lawEnv L fa cd])
    {cs : List Int} {ln : List D} {ρ : Rho} {ow : Str → Addr} {g : PH} {s : Shared} {Q : Flow → Shared → Prop} {E : Value → Shared → Prop}
    (GG : Good cs) (hv : LV cs ln ρ) (C : Cf base (lawEnv L fa cd) ow g ρ s.heap)
    (k : ∀ h' tk, Kp base h' → Q (.ret (.bool true)) { s with heap := h', toks := tk }) :
    wpAny (model prog w) A (execs [lawS 10, lawS 11, lawS 12, lawS 13, lawS 14, lawS 15, lawS 16] (lawEnv L fa cd)) Q E s := by
  have hs := law_sig (prog := prog) (w := w) (A := A) (base := base) G hh hu hroom L fa cd
  have hu0 : A.units < cLine := by first | lia | omega
  by_cases hf : (ordF cs).length < 2
  · exact law_ret hh hu0 hs (law10s GG hv hf) C k
  have h2 : 2 ≤ (ordF cs).length := by first | lia | omega
  refine law_step hh hu0 hs (law10 GG hv h2) C fun ρ1 ow1 g1 h1 tk1 hv1 C1 => ?_
  refine law_step (s := { s with heap := h1, toks := tk1 }) hh hu0 hs (law11 GG hv1 h2) C1 fun ρ2 ow2 g2 h2' tk2 hv2 C2 => ?_
  by_cases hx : 2 ≤ depthM cs ∧ (ordF cs).length ≤ 2 ^ (depthM cs - 1)
  · obtain ⟨h0, p, e0⟩ := try_body
    obtain ⟨ρ3, e3, hv3⟩ := (law12 GG hv2 h2 hx.1 hx.2).out
    rw [e0]
    refine wpAny_execs_cons (wpAny_Try_except (((snd_run (prog := prog) (w := w) (A := A) (base := base) hh hu0 300) 300 (Nat.le_refl _)).2 Γ_law _ _ _ e3 _ _ g2 { s with heap := h2', toks := tk2 } _ _ C2 hs fun f ow3 g3 h3 tk3 hf S3 T3 => ?_))
    cases hf
    exact wpAny_execs_nil (law_tail (s := { s with heap := h3, toks := tk3 }) G hh hu hroom GG hv3 h2 (C2.stp S3 T3) k)
  · refine wpAny_execs_cons (law12r (s := { s with heap := h2', toks := tk2 }) G hh hu hroom hfr GG hv2 h2 hx C2 fun g3 h3 tk3 S3 T3 => ?_)
    exact law_tail (s := { s with heap := h3, toks := tk3 }) G hh hu hroom GG hv2 h2 (C2.stp S3 T3) k

theorem law_run (G : Gr (KF w.params) mg mb base) (hh : A.handled = none) (hu : A.units + 12 < cLine) (hroom : A.depth + 4 ≤ recursionLimit) (hfr : A.frames = some [lawEnv L fa cd])
    {ns : List Int} {vs : List Value} {l : Addr} {m : Str → Option Value} {ow : Str → Addr} {g : PH} {s : Shared} {Q : Flow → Shared → Prop} {E : Value → Shared → Prop}
    (C : Cf base (lawEnv L fa cd) ow g (fun _ => none) s.heap) (hns : s.heap.Ns L m) (hm : m "script" = some (.ref l)) (hl : s.heap.IsList l vs.toArray) (hi : IntsAre vs ns) (hlen : ns.length ≤ 100)
    (k : ∀ h' tk, Kp base h' → Q (.ret (.bool true)) { s with heap := h', toks := tk }) :
    wpAny (model prog w) A (execs B_law (lawEnv L fa cd)) Q E s := by
  have hs := law_sig (prog := prog) (w := w) (A := A) (base := base) G hh hu hroom L fa cd
  have hu0 : A.units < cLine := by first | lia | omega
  rw [law_stmts]
  refine wpAny_execs_cons (law0 G C hns hm hl hi hlen fun ow1 g1 h1 tk1 S1 T1 => ?_)
  have C1 := C.stp S1 T1
  refine law_step (s := { s with heap := h1, toks := tk1 }) (P := fun ρ => ρ "line" = some (.own [il ns, .int (0 : Nat)]) ∧ ρ "counts" = some (.own [])) hh hu0 hs (by rw [law1, q_ok]; exact ⟨by simp (config := { decide := true }) only [q_upd, if_true, if_false]; rfl, by simp (config := { decide := true }) only [q_upd, if_true]⟩) C1 fun ρ2 ow2 g2 h2 tk2 P2 C2 => ?_
  refine wpAny_execs_cons (law2 (s := { s with heap := h2, toks := tk2 }) G hh hu hroom hlen C2 P2.1 P2.2 fun ow3 g3 h3 tk3 S3 T3 => ?_)
  have C3 := C2.stp S3 T3
  obtain ⟨GG, hcl⟩ := good_cs ns
  have h7 := GG.len
  have l1 : upd ρ2 "line" (.own [il ns, .int (1 : Nat)]) "line" = some (.own [il ns, .int (1 : Nat)]) := by simp (config := { decide := true }) only [q_upd, if_true]
  have c1 : upd ρ2 "line" (.own [il ns, .int (1 : Nat)]) "counts" = some (.own []) := by simp (config := { decide := true }) only [q_upd, if_false]; exact P2.2
  have l3 := ρL_line l1 (1 + drawF ns 0 7).toNat
  have c3 := ρL_counts (ns := ns) c1 (1 + drawF ns 0 7).toNat
  generalize hcs : csI ns (1 + drawF ns 0 7).toNat = cs at GG hcl h7 c3
  generalize ρL ns (upd ρ2 "line" (.own [il ns, .int (1 : Nat)])) (1 + drawF ns 0 7).toNat = ρ3 at S3 T3 C3 l3 c3
  generalize (1 + drawF ns 0 7).toNat = n at hcl l3
  obtain ⟨g4, S4, T4⟩ := S3.freeze1 c3
  have C4 := C3.stp S4 T4
  have L4 : LS cs [il ns, .int (1 + n : Nat)] (upd ρ3 "counts" (.st (.lst (cs.map .int)))) := ⟨by simp (config := { decide := true }) only [q_upd, if_true]; rfl, by simp (config := { decide := true }) only [q_upd, if_false]; exact l3⟩
  refine law_step (s := { s with heap := h3, toks := tk3 }) hh hu0 hs (law3 GG L4) C4 fun ρ5 ow5 g5 h5 tk5 L5 C5 => ?_
  refine law_step (s := { s with heap := h5, toks := tk5 }) hh hu0 hs (law4 GG L5) C5 fun ρ6 ow6 g6 h6 tk6 L6 C6 => ?_
  refine law_step (s := { s with heap := h6, toks := tk6 }) hh hu0 hs (law5 GG L6) C6 fun ρ7 ow7 g7 h7' tk7 L7 C7 => ?_
  refine law_step (s := { s with heap := h7', toks := tk7 }) hh hu0 hs (law6 GG L7) C7 fun ρ8 ow8 g8 h8 tk8 L8 C8 => ?_
  refine wpAny_execs_cons (law7 (s := { s with heap := h8, toks := tk8 }) G hh hu hroom (j := 1 + n) (by first | lia | omega) hlen (by first | lia | omega) C8 L8.line L8.c fun g9 h9 tk9 S9 T9 => ?_)
  have C9 := C8.stp S9 T9
  have hr := drawF_range ns (1 + n) (many := (cs.length : Int) + 1) (by first | lia | omega)
  obtain ⟨kk, hkk⟩ : ∃ kk : Nat, drawF ns (1 + n) ((cs.length : Int) + 1) = kk := ⟨_, (Int.toNat_of_nonneg hr.1).symm⟩
  rw [hkk] at hr C9
  have L9 : LV cs [il ns, .int (1 + n + 1 : Nat)] (upd (upd ρ8 "line" (.own [il ns, .int (1 + n + 1 : Nat)])) "spot" (.st (.int kk))) :=
    ⟨by simp (config := { decide := true }) only [q_upd, if_false]; exact L8.c, by simp (config := { decide := true }) only [q_upd, if_true, if_false], by simp (config := { decide := true }) only [q_upd, if_false]; exact L8.len, by simp (config := { decide := true }) only [q_upd, if_false]; exact L8.live⟩
  refine law_step (s := { s with heap := h9, toks := tk9 }) hh hu0 hs (law8 (k := kk) GG (by first | lia | omega) L9 (by simp (config := { decide := true }) only [q_upd, if_true])) C9 fun ρ10 ow10 g10 h10 tk10 L10 C10 => ?_
  refine law_step (s := { s with heap := h10, toks := tk10 }) hh hu0 hs (law9 GG L10) C10 fun ρ11 ow11 g11 h11 tk11 L11 C11 => ?_
  exact law_mid (s := { s with heap := h11, toks := tk11 }) G hh hu hroom hfr GG L11 C11 k

theorem cellsAre_mem {cm : Str → Option Value} {x : Str} {c : Addr} : ∀ {cs : List (Str × Addr)} {cells : List (Addr × Obj)}, CellsAre cm cs cells → (x, c) ∈ cs → ∃ o, (c, o) ∈ cells ∧ o.data = .cell (cm x)
  | _, _, .nil, h => nomatch h
  | _, _, .cons d r, h => by
    rcases List.mem_cons.mp h with e | h
    · cases e; exact ⟨_, List.mem_cons_self, d⟩
    · obtain ⟨o, h1, h2⟩ := cellsAre_mem r h; exact ⟨o, List.mem_cons_of_mem _ h1, h2⟩

theorem law_cells (L fa : Addr) (cd : Value) : (lawEnv L fa cd).cells = cellsFrom (L + 1) lawScope.names [] := rfl
theorem law_cells4 (L : Addr) : ∃ a b c d : Str, cellsFrom (L + 1) lawScope.names [] = [(a, L + 1 + 1 + 1 + 1), (b, L + 1 + 1 + 1), (c, L + 1 + 1), (d, L + 1)] := ⟨_, _, _, _, rfl⟩

theorem law_start {s : Shared} {m cm : Str → Option Value} {news : List (Addr × Obj)} (F : Fr base base.objs.size s.heap m) (N : News base base.objs.size s.heap news) (X : CellsAre cm (cellsFrom (base.objs.size + 1) lawScope.names []) news) :
    Cf base (lawEnv base.objs.size fa cd) (fun _ => 0) (fun _ => none) (fun _ => none) s.heap := by
  have hc : ∀ x c, (lawEnv base.objs.size fa cd).cells.lookup x = some c → ∃ o, s.heap.get? c = some o ∧ o.data = .cell (cm x) ∧ c ≠ base.objs.size ∧ base.get? c = none := fun x c e => by
    obtain ⟨o, h1, h2⟩ := cellsAre_mem X (mem_of_lookup e)
    obtain ⟨n1, n2, n3⟩ := N _ h1
    exact ⟨o, n1, h2, n2, n3⟩
  have hp : (cellsFrom (base.objs.size + 1) lawScope.names []).Pairwise fun x y => x.2 ≠ y.2 := by
    obtain ⟨a, b, c, d, e⟩ := law_cells4 base.objs.size
    rw [e]
    simp only [List.pairwise_cons, List.mem_cons, List.not_mem_nil, or_false, forall_eq_or_imp, forall_eq, List.Pairwise.nil, and_true, false_implies, implies_true]
    unfold Addr at *
    (first | lia | omega)
  refine ⟨⟨by rfl, fun a o e => (nomatch e), ⟨m, F.ns, fun x sl e => (nomatch e)⟩, fun x sl e => (nomatch e), fun x c e => ?_, fun x y c e1 e2 => ?_, rfl, fun x c e => ⟨rfl, (hc x c e).choose_spec.2.2.1⟩, fun x ds e => (nomatch e), fun x y ds es e => (nomatch e)⟩, F.keep, fun a wa => ?_⟩
  · obtain ⟨o, h1, h2, _⟩ := hc x c e
    exact ⟨_, o, h1, h2⟩
  · exact name_of_addr hp (mem_of_lookup e1) (mem_of_lookup e2)
  · rcases wa with rfl | ⟨x, e⟩ | ⟨x, es, e, _⟩
    · exact get_size_none _
    · exact (hc x a e).choose_spec.2.2.2
    · cases e
end
end Mine
end

section
open PySem PySem.W PyProof.Rows PySem.Calls
set_option linter.all false
set_option maxRecDepth 100000
set_option maxHeartbeats 8000000
namespace Mine
theorem KF_at : ∀ P, kfAt = (KF P).map (·.1) := fun _ => by kernel_rfl
/-- the fragment is there, and nothing has been read from the input -/
noncomputable def kfHook : Hook := ⟨Nat × List (Option Obj), fun s => (s.os.stdinAt, kfAt.map s.heap.get?), fun w => (0, (KF w.params).map fun p => some p.2), InK KF,
  fun w s e => InK.of KF_at w s (congrArg Prod.snd e), InK.keeps⟩
theorem go : PySem.Challenge.rw_og0138_01.Holds := by
  w_on
  refine holds_law (by kernel_rfl) fun said => ?_
  o_head kfHook
  (case hw => w_witness2)
  w_strict (
    k_fill
    intro w s₀ s₁ mg mb G Y fa o pm cd doc dV kV ho hd hcd hD hmg hg args vals as hpre hlay hrd hwl hlo
    have KX : (KF w.params).In s₁.heap := Y
    refine Ground.open G ?_
    intro TT B D TE TW
    clear B D TE TW
    wrow_args hpre hlay hrd hwl hlo
    first | refine callC_kw (enter_call ?_) | refine enter_call ?_ | refine callC_kw (enter_callW ?_) | refine enter_callW ?_ | w_how
    refine codeAny_mono ?_ (fun _ _ g => GoodW.toG g)
    w_call any ho hd hcd hD TT F
    rename Fr _ _ _ _ => FF
    rename News _ _ _ _ => NN
    rename CellsAre _ _ _ => XX
    rename Heap.IsList _ _ _ => HL
    rename IntsAre _ _ => HI
    rename Shared.gens _ = _ => HG
    rename ¬ (_ < _) => HC
    refine law_run (A := callerA.deeper _) (G := ⟨KX, TT.g, TT.b, TT.nolimit, TT.builtins⟩) rfl ?c1 ?c2 (Around.frames_deeper rfl) (law_start FF NN XX) FF.ns ?c3 (HL.at fun o e => FF.keep _ o e) HI ?c4 ?c5
    case c1 => rw [Around.deeper_units]; decide
    case c2 => show 1 + claimMargin + 1 + 4 ≤ recursionLimit; decide
    case c3 => rfl
    case c4 => (first | lia | omega)
    case c5 => exact fun h' tk kp => ⟨.inl ⟨.bool true, .bool true, [], rfl, fun _ => rfl, .bool true, (by first | rfl | wrow_post), fun _ => ⟨.nil, fun a ha => nomatch ha⟩⟩, kp, rfl, HG⟩)
end Mine
end

theorem PySem.Challenge.cw_og0138_01_holds : PySem.Challenge.rw_og0138_01.Holds := by
  exact Mine.go
