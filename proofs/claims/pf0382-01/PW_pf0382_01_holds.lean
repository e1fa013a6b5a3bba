import PyProof.Rows.All
import Wide.All
import OpenK.AllK
import Wide.FinOn
import PySem.Challenge.RW_pf0382_01
set_option Elab.async false
set_option maxRecDepth 100000
set_option linter.unusedVariables false
set_option linter.unusedSimpArgs false
open PySem PySem.W PyProof.Rows
namespace Mine

section
open PySem PySem.W PyProof.Rows

/-- the statement at a place of a list of statements -/
def nthS : List Stmt → Nat → Stmt
  | [], _ => .Pass default
  | s :: _, 0 => s
  | _ :: r, n + 1 => nthS r n
/-- a statement of the text, by its place -/
def stAt (n : Nat) : Stmt := nthS PySem.Challenge.pw_pf0382_01.main.body n
/-- a statement in a class's body, by its place -/
def inAt (s : Stmt) (n : Nat) : Stmt := match s with
  | .ClassDef _ _ _ body _ _ _ _ _ _ _ => nthS body n
  | _ => s
/-- what a def of the text becomes -/
def fnAt (q : Str) (s : Stmt) : FuncData := match s with
  | .FunctionDef name params body _ _ _ scope _ _ _ => { name, qualname := q, params, body := .stmts body, scope, globals := 3, closure := [], defaults := .none, kwdefaults := .none }
  | _ => default
def recAt (s : Stmt) : DefRec := match s with
  | .FunctionDef name params body _ _ _ scope _ _ pos => { name, params, body, scope, pos }
  | _ => { name := "", params := default, body := [], scope := default, pos := default }
def pickS (l : List Stmt) (ns : List Nat) : List Stmt := ns.map (nthS l)
set_option maxHeartbeats 8000000
/-! the part of the heap that the law can come to: its statements are taken out of the row's own program -/
noncomputable def hd.n28 : { o : Obj // ({ cls := Value.type "function", data := Data.func { fnAt (Str.ofString "SwitchError.__init__") (inAt (stAt 1) 0) with defaults := Value.none, kwdefaults := Value.none, pyModule := Value.str (Str.ofString "switchloom.errors") 187, code := Value.ref 27 } } : Obj) = o } := ⟨_, by dsimp only [fnAt, stAt, inAt, nthS, PySem.Challenge.pw_pf0382_01]⟩
@[reducible] noncomputable def hd.o28 : Obj := hd.n28.1
noncomputable def hd.n63 : { o : Obj // ({ cls := Value.type "function", data := Data.func { fnAt (Str.ofString "put_number") (stAt 5) with defaults := Value.none, kwdefaults := Value.none, pyModule := Value.str (Str.ofString "switchloom.octets") 250, code := Value.ref 62 } } : Obj) = o } := ⟨_, by dsimp only [fnAt, stAt, inAt, nthS, PySem.Challenge.pw_pf0382_01]⟩
@[reducible] noncomputable def hd.o63 : Obj := hd.n63.1
noncomputable def hd.n70 : { o : Obj // ({ cls := Value.type "function", data := Data.func { fnAt (Str.ofString "get_number") (stAt 6) with defaults := Value.none, kwdefaults := Value.none, pyModule := Value.str (Str.ofString "switchloom.octets") 250, code := Value.ref 69 } } : Obj) = o } := ⟨_, by dsimp only [fnAt, stAt, inAt, nthS, PySem.Challenge.pw_pf0382_01]⟩
@[reducible] noncomputable def hd.o70 : Obj := hd.n70.1
noncomputable def hd.n77 : { o : Obj // ({ cls := Value.type "function", data := Data.func { fnAt (Str.ofString "put16") (stAt 7) with defaults := Value.none, kwdefaults := Value.none, pyModule := Value.str (Str.ofString "switchloom.octets") 250, code := Value.ref 76 } } : Obj) = o } := ⟨_, by dsimp only [fnAt, stAt, inAt, nthS, PySem.Challenge.pw_pf0382_01]⟩
@[reducible] noncomputable def hd.o77 : Obj := hd.n77.1
noncomputable def hd.n84 : { o : Obj // ({ cls := Value.type "function", data := Data.func { fnAt (Str.ofString "get16") (stAt 8) with defaults := Value.none, kwdefaults := Value.none, pyModule := Value.str (Str.ofString "switchloom.octets") 250, code := Value.ref 83 } } : Obj) = o } := ⟨_, by dsimp only [fnAt, stAt, inAt, nthS, PySem.Challenge.pw_pf0382_01]⟩
@[reducible] noncomputable def hd.o84 : Obj := hd.n84.1
noncomputable def hd.n98 : { o : Obj // ({ cls := Value.type "function", data := Data.func { fnAt (Str.ofString "PauseFrame.__init__") (inAt (stAt 14) 0) with defaults := Value.none, kwdefaults := Value.none, pyModule := Value.str (Str.ofString "switchloom.pause") 284, code := Value.ref 97 } } : Obj) = o } := ⟨_, by dsimp only [fnAt, stAt, inAt, nthS, PySem.Challenge.pw_pf0382_01]⟩
@[reducible] noncomputable def hd.o98 : Obj := hd.n98.1
noncomputable def hd.n110 : { o : Obj // ({ cls := Value.type "function", data := Data.func { fnAt (Str.ofString "pack_pause") (stAt 15) with defaults := Value.none, kwdefaults := Value.none, pyModule := Value.str (Str.ofString "switchloom.pause") 284, code := Value.ref 109 } } : Obj) = o } := ⟨_, by dsimp only [fnAt, stAt, inAt, nthS, PySem.Challenge.pw_pf0382_01]⟩
@[reducible] noncomputable def hd.o110 : Obj := hd.n110.1
noncomputable def hd.n115 : { o : Obj // ({ cls := Value.type "function", data := Data.func { fnAt (Str.ofString "unpack_pause") (stAt 16) with defaults := Value.none, kwdefaults := Value.none, pyModule := Value.str (Str.ofString "switchloom.pause") 284, code := Value.ref 114 } } : Obj) = o } := ⟨_, by dsimp only [fnAt, stAt, inAt, nthS, PySem.Challenge.pw_pf0382_01]⟩
@[reducible] noncomputable def hd.o115 : Obj := hd.n115.1
noncomputable def hd.n122 : { o : Obj // ({ cls := Value.type "function", data := Data.func { fnAt (Str.ofString "time_behind") (stAt 17) with defaults := Value.none, kwdefaults := Value.none, pyModule := Value.str (Str.ofString "switchloom.pause") 284, code := Value.ref 121 } } : Obj) = o } := ⟨_, by dsimp only [fnAt, stAt, inAt, nthS, PySem.Challenge.pw_pf0382_01]⟩
@[reducible] noncomputable def hd.o122 : Obj := hd.n122.1
noncomputable def hd.n136 : { o : Obj // ({ cls := Value.type "function", data := Data.func { fnAt (Str.ofString "PauseState.__init__") (inAt (stAt 18) 0) with defaults := Value.none, kwdefaults := Value.none, pyModule := Value.str (Str.ofString "switchloom.pause") 284, code := Value.ref 135 } } : Obj) = o } := ⟨_, by dsimp only [fnAt, stAt, inAt, nthS, PySem.Challenge.pw_pf0382_01]⟩
@[reducible] noncomputable def hd.o136 : Obj := hd.n136.1
noncomputable def hd.n143 : { o : Obj // ({ cls := Value.type "function", data := Data.func { fnAt (Str.ofString "PauseState.heard") (inAt (stAt 18) 1) with defaults := Value.none, kwdefaults := Value.none, pyModule := Value.str (Str.ofString "switchloom.pause") 284, code := Value.ref 142 } } : Obj) = o } := ⟨_, by dsimp only [fnAt, stAt, inAt, nthS, PySem.Challenge.pw_pf0382_01]⟩
@[reducible] noncomputable def hd.o143 : Obj := hd.n143.1
noncomputable def hd.n150 : { o : Obj // ({ cls := Value.type "function", data := Data.func { fnAt (Str.ofString "PauseState.may_send") (inAt (stAt 18) 2) with defaults := Value.none, kwdefaults := Value.none, pyModule := Value.str (Str.ofString "switchloom.pause") 284, code := Value.ref 149 } } : Obj) = o } := ⟨_, by dsimp only [fnAt, stAt, inAt, nthS, PySem.Challenge.pw_pf0382_01]⟩
@[reducible] noncomputable def hd.o150 : Obj := hd.n150.1
noncomputable def hd.n172 : { o : Obj // ({ cls := Value.type "function", data := Data.func { fnAt (Str.ofString "PauseAsker.__init__") (inAt (stAt 19) 0) with defaults := Value.ref 165, kwdefaults := Value.none, pyModule := Value.str (Str.ofString "switchloom.pause") 284, code := Value.ref 171 } } : Obj) = o } := ⟨_, by dsimp only [fnAt, stAt, inAt, nthS, PySem.Challenge.pw_pf0382_01]⟩
@[reducible] noncomputable def hd.o172 : Obj := hd.n172.1
noncomputable def hd.n177 : { o : Obj // ({ cls := Value.type "function", data := Data.func { fnAt (Str.ofString "PauseAsker.asking") (inAt (stAt 19) 1) with defaults := Value.none, kwdefaults := Value.none, pyModule := Value.str (Str.ofString "switchloom.pause") 284, code := Value.ref 176 } } : Obj) = o } := ⟨_, by dsimp only [fnAt, stAt, inAt, nthS, PySem.Challenge.pw_pf0382_01]⟩
@[reducible] noncomputable def hd.o177 : Obj := hd.n177.1
noncomputable def hd.n184 : { o : Obj // ({ cls := Value.type "function", data := Data.func { fnAt (Str.ofString "PauseAsker.level") (inAt (stAt 19) 2) with defaults := Value.none, kwdefaults := Value.none, pyModule := Value.str (Str.ofString "switchloom.pause") 284, code := Value.ref 183 } } : Obj) = o } := ⟨_, by dsimp only [fnAt, stAt, inAt, nthS, PySem.Challenge.pw_pf0382_01]⟩
@[reducible] noncomputable def hd.o184 : Obj := hd.n184.1
noncomputable def hd.n198 : { o : Obj // ({ cls := Value.type "function", data := Data.func { fnAt (Str.ofString "_law_pool") (stAt 21) with defaults := Value.none, kwdefaults := Value.none, pyModule := Value.str (Str.ofString "law_pf0382_01") 451, code := Value.ref 197 } } : Obj) = o } := ⟨_, by dsimp only [fnAt, stAt, inAt, nthS, PySem.Challenge.pw_pf0382_01]⟩
@[reducible] noncomputable def hd.o198 : Obj := hd.n198.1
noncomputable def hd.n205 : { o : Obj // ({ cls := Value.type "function", data := Data.func { fnAt (Str.ofString "_law_take") (stAt 22) with defaults := Value.none, kwdefaults := Value.none, pyModule := Value.str (Str.ofString "law_pf0382_01") 451, code := Value.ref 204 } } : Obj) = o } := ⟨_, by dsimp only [fnAt, stAt, inAt, nthS, PySem.Challenge.pw_pf0382_01]⟩
@[reducible] noncomputable def hd.o205 : Obj := hd.n205.1
noncomputable def hd.n212 : { o : Obj // ({ cls := Value.type "function", data := Data.func { fnAt (Str.ofString "_law_one") (stAt 23) with defaults := Value.none, kwdefaults := Value.none, pyModule := Value.str (Str.ofString "law_pf0382_01") 451, code := Value.ref 211 } } : Obj) = o } := ⟨_, by dsimp only [fnAt, stAt, inAt, nthS, PySem.Challenge.pw_pf0382_01]⟩
@[reducible] noncomputable def hd.o212 : Obj := hd.n212.1
noncomputable def hd.n217 : { o : Obj // ({ cls := Value.type "function", data := Data.func { fnAt (Str.ofString "_law_payload") (stAt 24) with defaults := Value.none, kwdefaults := Value.none, pyModule := Value.str (Str.ofString "law_pf0382_01") 451, code := Value.ref 216 } } : Obj) = o } := ⟨_, by dsimp only [fnAt, stAt, inAt, nthS, PySem.Challenge.pw_pf0382_01]⟩
@[reducible] noncomputable def hd.o217 : Obj := hd.n217.1
noncomputable def hd.n224 : { o : Obj // ({ cls := Value.type "function", data := Data.func { fnAt (Str.ofString "_law_heard_right") (stAt 25) with defaults := Value.none, kwdefaults := Value.none, pyModule := Value.str (Str.ofString "law_pf0382_01") 451, code := Value.ref 223 } } : Obj) = o } := ⟨_, by dsimp only [fnAt, stAt, inAt, nthS, PySem.Challenge.pw_pf0382_01]⟩
@[reducible] noncomputable def hd.o224 : Obj := hd.n224.1
noncomputable def hd.n231 : { o : Obj // ({ cls := Value.type "function", data := Data.func { fnAt (Str.ofString "_law_refused") (stAt 26) with defaults := Value.none, kwdefaults := Value.none, pyModule := Value.str (Str.ofString "law_pf0382_01") 451, code := Value.ref 230 } } : Obj) = o } := ⟨_, by dsimp only [fnAt, stAt, inAt, nthS, PySem.Challenge.pw_pf0382_01]⟩
@[reducible] noncomputable def hd.o231 : Obj := hd.n231.1
noncomputable def hd.n236 : { o : Obj // ({ cls := Value.type "function", data := Data.func { fnAt (Str.ofString "_law_refusals_right") (stAt 27) with defaults := Value.none, kwdefaults := Value.none, pyModule := Value.str (Str.ofString "law_pf0382_01") 451, code := Value.ref 235 } } : Obj) = o } := ⟨_, by dsimp only [fnAt, stAt, inAt, nthS, PySem.Challenge.pw_pf0382_01]⟩
@[reducible] noncomputable def hd.o236 : Obj := hd.n236.1
noncomputable def hd.n241 : { o : Obj // ({ cls := Value.type "function", data := Data.func { fnAt (Str.ofString "law") (stAt 28) with defaults := Value.none, kwdefaults := Value.none, pyModule := Value.str (Str.ofString "law_pf0382_01") 451, code := Value.ref 240 } } : Obj) = o } := ⟨_, by dsimp only [fnAt, stAt, inAt, nthS, PySem.Challenge.pw_pf0382_01]⟩
@[reducible] noncomputable def hd.o241 : Obj := hd.n241.1
noncomputable def hd.heap_39 : Params → Frag := fun P => 
    (nat_lit 2, { cls := Value.none, data := Data.dict #[{ hash := PyData.keyHash P (Str.ofString "type.__subclasses__.Exception.0"), key := Value.str (Str.ofString "type.__subclasses__.Exception.0") 214, val := Value.int 31 0 }, { hash := PyData.keyHash P (Str.ofString "type.__subclasses__.Exception.n"), key := Value.str (Str.ofString "type.__subclasses__.Exception.n") 215, val := Value.int 1 0 }] 2 }) ::
    (nat_lit 3, { cls := Value.type "dict", data := Data.dict #[{ hash := PyData.keyHash P (Str.ofString "__name__"), key := Value.str (Str.ofString "__name__") 165, val := Value.str (Str.ofString "law_pf0382_01") 451 }, { hash := PyData.keyHash P (Str.ofString "__doc__"), key := Value.str (Str.ofString "__doc__") 166, val := Value.none }, { hash := PyData.keyHash P (Str.ofString "__package__"), key := Value.str (Str.ofString "__package__") 167, val := Value.none }, { hash := PyData.keyHash P (Str.ofString "__loader__"), key := Value.str (Str.ofString "__loader__") 168, val := Value.builtin "__main__.__loader__#opaque" }, { hash := PyData.keyHash P (Str.ofString "__spec__"), key := Value.str (Str.ofString "__spec__") 169, val := Value.none }, { hash := PyData.keyHash P (Str.ofString "__annotations__"), key := Value.str (Str.ofString "__annotations__") 170, val := Value.ref 6 }, { hash := PyData.keyHash P (Str.ofString "__builtins__"), key := Value.str (Str.ofString "__builtins__") 171, val := Value.ref 4 }, { hash := PyData.keyHash P (Str.ofString "__file__"), key := Value.str (Str.ofString "__file__") 173, val := Value.str (Str.ofString "/claim/cut.py") 172 }, { hash := PyData.keyHash P (Str.ofString "__cached__"), key := Value.str (Str.ofString "__cached__") 174, val := Value.none }, { hash := PyData.keyHash P (Str.ofString "SwitchError"), key := Value.str (Str.ofString "SwitchError") 217, val := Value.ref 31 }, { hash := PyData.keyHash P (Str.ofString "FormError"), key := Value.str (Str.ofString "FormError") 233, val := Value.ref 44 }, { hash := PyData.keyHash P (Str.ofString "SizeError"), key := Value.str (Str.ofString "SizeError") 249, val := Value.ref 56 }, { hash := PyData.keyHash P (Str.ofString "put_number"), key := Value.str (Str.ofString "put_number") 257, val := Value.ref 63 }, { hash := PyData.keyHash P (Str.ofString "get_number"), key := Value.str (Str.ofString "get_number") 268, val := Value.ref 70 }, { hash := PyData.keyHash P (Str.ofString "put16"), key := Value.str (Str.ofString "put16") 275, val := Value.ref 77 }, { hash := PyData.keyHash P (Str.ofString "get16"), key := Value.str (Str.ofString "get16") 283, val := Value.ref 84 }, { hash := PyData.keyHash P (Str.ofString "PLAIN_CODE"), key := Value.str (Str.ofString "PLAIN_CODE") 287, val := Value.int 1 286 }, { hash := PyData.keyHash P (Str.ofString "SINGLE_CODE"), key := Value.str (Str.ofString "SINGLE_CODE") 289, val := Value.int 257 288 }, { hash := PyData.keyHash P (Str.ofString "PRIORITIES"), key := Value.str (Str.ofString "PRIORITIES") 291, val := Value.int 8 290 }, { hash := PyData.keyHash P (Str.ofString "MOST_TIME"), key := Value.str (Str.ofString "MOST_TIME") 293, val := Value.int 65535 292 }, { hash := PyData.keyHash P (Str.ofString "PauseFrame"), key := Value.str (Str.ofString "PauseFrame") 322, val := Value.ref 101 }, { hash := PyData.keyHash P (Str.ofString "pack_pause"), key := Value.str (Str.ofString "pack_pause") 328, val := Value.ref 110 }, { hash := PyData.keyHash P (Str.ofString "unpack_pause"), key := Value.str (Str.ofString "unpack_pause") 334, val := Value.ref 115 }, { hash := PyData.keyHash P (Str.ofString "time_behind"), key := Value.str (Str.ofString "time_behind") 343, val := Value.ref 122 }, { hash := PyData.keyHash P (Str.ofString "PauseState"), key := Value.str (Str.ofString "PauseState") 393, val := Value.ref 153 }, { hash := PyData.keyHash P (Str.ofString "PauseAsker"), key := Value.str (Str.ofString "PauseAsker") 450, val := Value.ref 187 }, { hash := PyData.keyHash P (Str.ofString "_law_pool"), key := Value.str (Str.ofString "_law_pool") 463, val := Value.ref 198 }, { hash := PyData.keyHash P (Str.ofString "_law_take"), key := Value.str (Str.ofString "_law_take") 472, val := Value.ref 205 }, { hash := PyData.keyHash P (Str.ofString "_law_one"), key := Value.str (Str.ofString "_law_one") 480, val := Value.ref 212 }, { hash := PyData.keyHash P (Str.ofString "_law_payload"), key := Value.str (Str.ofString "_law_payload") 486, val := Value.ref 217 }, { hash := PyData.keyHash P (Str.ofString "_law_heard_right"), key := Value.str (Str.ofString "_law_heard_right") 505, val := Value.ref 224 }, { hash := PyData.keyHash P (Str.ofString "_law_refused"), key := Value.str (Str.ofString "_law_refused") 512, val := Value.ref 231 }, { hash := PyData.keyHash P (Str.ofString "_law_refusals_right"), key := Value.str (Str.ofString "_law_refusals_right") 518, val := Value.ref 236 }, { hash := PyData.keyHash P (Str.ofString "law"), key := Value.str (Str.ofString "law") 524, val := Value.ref 241 }] 34 }) ::
    (nat_lit 15, { cls := Value.type "tuple", data := Data.seq #[Value.type "Exception"] }) ::
    (nat_lit 22, { cls := Value.type "tuple", data := Data.seq #[] }) ::
    (nat_lit 24, { cls := Value.type "tuple", data := Data.seq #[Value.str (Str.ofString "self") 204, Value.str (Str.ofString "message") 205] }) ::
    (nat_lit 25, { cls := Value.type "tuple", data := Data.seq #[] }) ::
    (nat_lit 27, { cls := Value.type "code", data := Data.fields #[Value.str (Str.ofString "__init__") 201, Value.str (Str.ofString "SwitchError.__init__") 202, Value.str (Str.ofString "/claim/cut.py") 203, Value.int 4 0, Value.int 2 0, Value.int 0 0, Value.int 0 0, Value.int 3 0, Value.ref 22, Value.bool true, Value.int 181 0, Value.ref 23, Value.none, Value.ref 24, Value.ref 25, Value.ref 26, Value.int 206 0, Value.int 4 0, Value.str (Str.ofString "/claim/cut.py") 207] }) ::
    (nat_lit 28, hd.o28) ::
    (nat_lit 29, { cls := Value.type "tuple", data := Data.seq #[Value.str (Str.ofString "message") 209] }) ::
    (nat_lit 30, { cls := Value.type "dict", data := Data.dict #[{ hash := PyData.keyHash P (Str.ofString "__module__"), key := Value.str (Str.ofString "__module__") 196, val := Value.str (Str.ofString "switchloom.errors") 187 }, { hash := PyData.keyHash P (Str.ofString "__firstlineno__"), key := Value.str (Str.ofString "__firstlineno__") 200, val := Value.int 2 199 }, { hash := PyData.keyHash P (Str.ofString "__init__"), key := Value.str (Str.ofString "__init__") 208, val := Value.ref 28 }, { hash := PyData.keyHash P (Str.ofString "__static_attributes__"), key := Value.str (Str.ofString "__static_attributes__") 210, val := Value.ref 29 }, { hash := PyData.keyHash P (Str.ofString "__weakref__"), key := Value.str (Str.ofString "__weakref__") 212, val := Value.ref 32 }, { hash := PyData.keyHash P (Str.ofString "__doc__"), key := Value.str (Str.ofString "__doc__") 213, val := Value.none }] 3 }) ::
    (nat_lit 31, { cls := Value.type "type", data := Data.cls { name := Str.ofString "SwitchError", bases := [Value.type "Exception"], mro := [Value.ref 31, Value.type "Exception", Value.type "BaseException", Value.type "object"], ns := 30, qualname := Str.ofString "SwitchError", subclasses := [Value.ref 44, Value.ref 56] }, slots := #[some (Value.ref 15), none, some (Value.str (Str.ofString "SwitchError") 189), some (Value.str (Str.ofString "SwitchError") 197), some (Value.builtin "Exception.__new__"), some (Value.bool true)] }) ::
    (nat_lit 32, { cls := Value.type "getset_descriptor", data := Data.fields #[Value.str (Str.ofString "__weakref__") 211, Value.ref 31, Value.builtin "ExceptionGroup.__weakref__", Value.none] }) ::
    (nat_lit 35, { cls := Value.type "tuple", data := Data.seq #[Value.ref 31] }) ::
    (nat_lit 42, { cls := Value.type "tuple", data := Data.seq #[] }) ::
    (nat_lit 43, { cls := Value.type "dict", data := Data.dict #[{ hash := PyData.keyHash P (Str.ofString "__module__"), key := Value.str (Str.ofString "__module__") 225, val := Value.str (Str.ofString "switchloom.errors") 187 }, { hash := PyData.keyHash P (Str.ofString "__firstlineno__"), key := Value.str (Str.ofString "__firstlineno__") 229, val := Value.int 7 228 }, { hash := PyData.keyHash P (Str.ofString "__static_attributes__"), key := Value.str (Str.ofString "__static_attributes__") 230, val := Value.ref 42 }, { hash := PyData.keyHash P (Str.ofString "__doc__"), key := Value.str (Str.ofString "__doc__") 231, val := Value.none }] 2 }) ::
    (nat_lit 44, { cls := Value.type "type", data := Data.cls { name := Str.ofString "FormError", bases := [Value.ref 31], mro := [Value.ref 44, Value.ref 31, Value.type "Exception", Value.type "BaseException", Value.type "object"], ns := 43, qualname := Str.ofString "FormError" }, slots := #[some (Value.ref 35), none, some (Value.str (Str.ofString "FormError") 218), some (Value.str (Str.ofString "FormError") 226), some (Value.builtin "Exception.__new__"), some (Value.bool true)] }) ::
    (nat_lit 47, { cls := Value.type "tuple", data := Data.seq #[Value.ref 31] }) ::
    (nat_lit 54, { cls := Value.type "tuple", data := Data.seq #[] }) ::
    (nat_lit 55, { cls := Value.type "dict", data := Data.dict #[{ hash := PyData.keyHash P (Str.ofString "__module__"), key := Value.str (Str.ofString "__module__") 241, val := Value.str (Str.ofString "switchloom.errors") 187 }, { hash := PyData.keyHash P (Str.ofString "__firstlineno__"), key := Value.str (Str.ofString "__firstlineno__") 245, val := Value.int 9 244 }, { hash := PyData.keyHash P (Str.ofString "__static_attributes__"), key := Value.str (Str.ofString "__static_attributes__") 246, val := Value.ref 54 }, { hash := PyData.keyHash P (Str.ofString "__doc__"), key := Value.str (Str.ofString "__doc__") 247, val := Value.none }] 2 }) ::
    (nat_lit 56, { cls := Value.type "type", data := Data.cls { name := Str.ofString "SizeError", bases := [Value.ref 31], mro := [Value.ref 56, Value.ref 31, Value.type "Exception", Value.type "BaseException", Value.type "object"], ns := 55, qualname := Str.ofString "SizeError" }, slots := #[some (Value.ref 47), none, some (Value.str (Str.ofString "SizeError") 234), some (Value.str (Str.ofString "SizeError") 242), some (Value.builtin "Exception.__new__"), some (Value.bool true)] }) ::
    (nat_lit 59, { cls := Value.type "tuple", data := Data.seq #[] }) ::
    (nat_lit 62, { cls := Value.type "code", data := Data.fields #[Value.str (Str.ofString "put_number") 252, Value.str (Str.ofString "put_number") 253, Value.str (Str.ofString "/claim/cut.py") 254, Value.int 12 0, Value.int 2 0, Value.int 0 0, Value.int 0 0, Value.int 3 0, Value.ref 59, Value.bool true, Value.int 181 0, Value.ref 60, Value.none, Value.none, Value.none, Value.ref 61, Value.int 255 0, Value.int 12 0, Value.str (Str.ofString "/claim/cut.py") 256] }) ::
    (nat_lit 63, hd.o63) ::
    (nat_lit 64, { cls := Value.type "tuple", data := Data.seq #[] }) ::
    (nat_lit 66, { cls := Value.type "tuple", data := Data.seq #[Value.str (Str.ofString "octets") 261, Value.str (Str.ofString "at") 262, Value.str (Str.ofString "many") 263, Value.str (Str.ofString "found") 264, Value.str (Str.ofString "octet") 265] }) ::
    (nat_lit 67, { cls := Value.type "tuple", data := Data.seq #[] }) ::
    (nat_lit 69, { cls := Value.type "code", data := Data.fields #[Value.str (Str.ofString "get_number") 258, Value.str (Str.ofString "get_number") 259, Value.str (Str.ofString "/claim/cut.py") 260, Value.int 16 0, Value.int 3 0, Value.int 0 0, Value.int 0 0, Value.int 3 0, Value.ref 64, Value.bool true, Value.int 181 0, Value.ref 65, Value.none, Value.ref 66, Value.ref 67, Value.ref 68, Value.int 266 0, Value.int 16 0, Value.str (Str.ofString "/claim/cut.py") 267] }) ::
    (nat_lit 70, hd.o70) ::
    (nat_lit 71, { cls := Value.type "tuple", data := Data.seq #[] }) ::
    (nat_lit 73, { cls := Value.type "tuple", data := Data.seq #[Value.str (Str.ofString "number") 272] }) ::
    (nat_lit 74, { cls := Value.type "tuple", data := Data.seq #[] }) ::
    (nat_lit 76, { cls := Value.type "code", data := Data.fields #[Value.str (Str.ofString "put16") 269, Value.str (Str.ofString "put16") 270, Value.str (Str.ofString "/claim/cut.py") 271, Value.int 23 0, Value.int 1 0, Value.int 0 0, Value.int 0 0, Value.int 3 0, Value.ref 71, Value.bool true, Value.int 181 0, Value.ref 72, Value.none, Value.ref 73, Value.ref 74, Value.ref 75, Value.int 273 0, Value.int 23 0, Value.str (Str.ofString "/claim/cut.py") 274] }) ::
    (nat_lit 77, hd.o77) ::
    (nat_lit 78, { cls := Value.type "tuple", data := Data.seq #[] }) ::
    (nat_lit 80, { cls := Value.type "tuple", data := Data.seq #[Value.str (Str.ofString "octets") 279, Value.str (Str.ofString "at") 280] }) ::
    (nat_lit 81, { cls := Value.type "tuple", data := Data.seq #[] }) ::
    (nat_lit 83, { cls := Value.type "code", data := Data.fields #[Value.str (Str.ofString "get16") 276, Value.str (Str.ofString "get16") 277, Value.str (Str.ofString "/claim/cut.py") 278, Value.int 25 0, Value.int 2 0, Value.int 0 0, Value.int 0 0, Value.int 3 0, Value.ref 78, Value.bool true, Value.int 181 0, Value.ref 79, Value.none, Value.ref 80, Value.ref 81, Value.ref 82, Value.int 281 0, Value.int 25 0, Value.str (Str.ofString "/claim/cut.py") 282] }) ::
    (nat_lit 84, hd.o84) ::
    (nat_lit 92, { cls := Value.type "tuple", data := Data.seq #[] }) ::
    (nat_lit 94, { cls := Value.type "tuple", data := Data.seq #[Value.str (Str.ofString "self") 309, Value.str (Str.ofString "times") 310] }) ::
    (nat_lit 95, { cls := Value.type "tuple", data := Data.seq #[] }) ::
    (nat_lit 97, { cls := Value.type "code", data := Data.fields #[Value.str (Str.ofString "__init__") 306, Value.str (Str.ofString "PauseFrame.__init__") 307, Value.str (Str.ofString "/claim/cut.py") 308, Value.int 34 0, Value.int 2 0, Value.int 0 0, Value.int 0 0, Value.int 3 0, Value.ref 92, Value.bool true, Value.int 181 0, Value.ref 93, Value.none, Value.ref 94, Value.ref 95, Value.ref 96, Value.int 311 0, Value.int 34 0, Value.str (Str.ofString "/claim/cut.py") 312] }) ::
    (nat_lit 98, hd.o98) ::
    (nat_lit 99, { cls := Value.type "tuple", data := Data.seq #[Value.str (Str.ofString "times") 314] }) ::
    (nat_lit 100, { cls := Value.type "dict", data := Data.dict #[{ hash := PyData.keyHash P (Str.ofString "__module__"), key := Value.str (Str.ofString "__module__") 301, val := Value.str (Str.ofString "switchloom.pause") 284 }, { hash := PyData.keyHash P (Str.ofString "__firstlineno__"), key := Value.str (Str.ofString "__firstlineno__") 305, val := Value.int 32 304 }, { hash := PyData.keyHash P (Str.ofString "__init__"), key := Value.str (Str.ofString "__init__") 313, val := Value.ref 98 }, { hash := PyData.keyHash P (Str.ofString "__static_attributes__"), key := Value.str (Str.ofString "__static_attributes__") 315, val := Value.ref 99 }, { hash := PyData.keyHash P (Str.ofString "__dict__"), key := Value.str (Str.ofString "__dict__") 317, val := Value.ref 102 }, { hash := PyData.keyHash P (Str.ofString "__weakref__"), key := Value.str (Str.ofString "__weakref__") 319, val := Value.ref 103 }, { hash := PyData.keyHash P (Str.ofString "__doc__"), key := Value.str (Str.ofString "__doc__") 320, val := Value.none }] 4 }) ::
    (nat_lit 101, { cls := Value.type "type", data := Data.cls { name := Str.ofString "PauseFrame", bases := [Value.type "object"], mro := [Value.ref 101, Value.type "object"], ns := 100, qualname := Str.ofString "PauseFrame" }, slots := #[none, none, some (Value.str (Str.ofString "PauseFrame") 294), some (Value.str (Str.ofString "PauseFrame") 302), some (Value.builtin "object.__new__"), some (Value.bool true)] }) ::
    (nat_lit 102, { cls := Value.type "getset_descriptor", data := Data.fields #[Value.str (Str.ofString "__dict__") 316, Value.ref 101, Value.builtin "function.__dict__", Value.builtin "function.__dict__#set"] }) ::
    (nat_lit 103, { cls := Value.type "getset_descriptor", data := Data.fields #[Value.str (Str.ofString "__weakref__") 318, Value.ref 101, Value.builtin "ExceptionGroup.__weakref__", Value.none] }) ::
    (nat_lit 106, { cls := Value.type "tuple", data := Data.seq #[] }) ::
    (nat_lit 109, { cls := Value.type "code", data := Data.fields #[Value.str (Str.ofString "pack_pause") 323, Value.str (Str.ofString "pack_pause") 324, Value.str (Str.ofString "/claim/cut.py") 325, Value.int 36 0, Value.int 1 0, Value.int 0 0, Value.int 0 0, Value.int 3 0, Value.ref 106, Value.bool true, Value.int 181 0, Value.ref 107, Value.none, Value.none, Value.none, Value.ref 108, Value.int 326 0, Value.int 36 0, Value.str (Str.ofString "/claim/cut.py") 327] }) ::
    (nat_lit 110, hd.o110) ::
    (nat_lit 111, { cls := Value.type "tuple", data := Data.seq #[] }) ::
    (nat_lit 114, { cls := Value.type "code", data := Data.fields #[Value.str (Str.ofString "unpack_pause") 329, Value.str (Str.ofString "unpack_pause") 330, Value.str (Str.ofString "/claim/cut.py") 331, Value.int 45 0, Value.int 1 0, Value.int 0 0, Value.int 0 0, Value.int 3 0, Value.ref 111, Value.bool true, Value.int 181 0, Value.ref 112, Value.none, Value.none, Value.none, Value.ref 113, Value.int 332 0, Value.int 45 0, Value.str (Str.ofString "/claim/cut.py") 333] }) ::
    (nat_lit 115, hd.o115) ::
    (nat_lit 116, { cls := Value.type "tuple", data := Data.seq #[] }) ::
    (nat_lit 118, { cls := Value.type "tuple", data := Data.seq #[Value.str (Str.ofString "now") 338, Value.str (Str.ofString "time") 339, Value.str (Str.ofString "tick") 340] }) ::
    (nat_lit 119, { cls := Value.type "tuple", data := Data.seq #[] }) ::
    (nat_lit 121, { cls := Value.type "code", data := Data.fields #[Value.str (Str.ofString "time_behind") 335, Value.str (Str.ofString "time_behind") 336, Value.str (Str.ofString "/claim/cut.py") 337, Value.int 54 0, Value.int 3 0, Value.int 0 0, Value.int 0 0, Value.int 3 0, Value.ref 116, Value.bool true, Value.int 181 0, Value.ref 117, Value.none, Value.ref 118, Value.ref 119, Value.ref 120, Value.int 341 0, Value.int 54 0, Value.str (Str.ofString "/claim/cut.py") 342] }) ::
    (nat_lit 122, hd.o122) ::
    (nat_lit 130, { cls := Value.type "tuple", data := Data.seq #[] }) ::
    (nat_lit 132, { cls := Value.type "tuple", data := Data.seq #[Value.str (Str.ofString "self") 359, Value.str (Str.ofString "tick") 360] }) ::
    (nat_lit 133, { cls := Value.type "tuple", data := Data.seq #[] }) ::
    (nat_lit 135, { cls := Value.type "code", data := Data.fields #[Value.str (Str.ofString "__init__") 356, Value.str (Str.ofString "PauseState.__init__") 357, Value.str (Str.ofString "/claim/cut.py") 358, Value.int 58 0, Value.int 2 0, Value.int 0 0, Value.int 0 0, Value.int 3 0, Value.ref 130, Value.bool true, Value.int 181 0, Value.ref 131, Value.none, Value.ref 132, Value.ref 133, Value.ref 134, Value.int 361 0, Value.int 58 0, Value.str (Str.ofString "/claim/cut.py") 362] }) ::
    (nat_lit 136, hd.o136) ::
    (nat_lit 137, { cls := Value.type "tuple", data := Data.seq #[] }) ::
    (nat_lit 139, { cls := Value.type "tuple", data := Data.seq #[Value.str (Str.ofString "self") 367, Value.str (Str.ofString "pause") 368, Value.str (Str.ofString "now") 369, Value.str (Str.ofString "times") 370, Value.str (Str.ofString "priority") 371] }) ::
    (nat_lit 140, { cls := Value.type "tuple", data := Data.seq #[] }) ::
    (nat_lit 142, { cls := Value.type "code", data := Data.fields #[Value.str (Str.ofString "heard") 364, Value.str (Str.ofString "PauseState.heard") 365, Value.str (Str.ofString "/claim/cut.py") 366, Value.int 64 0, Value.int 3 0, Value.int 0 0, Value.int 0 0, Value.int 3 0, Value.ref 137, Value.bool true, Value.int 181 0, Value.ref 138, Value.none, Value.ref 139, Value.ref 140, Value.ref 141, Value.int 372 0, Value.int 64 0, Value.str (Str.ofString "/claim/cut.py") 373] }) ::
    (nat_lit 143, hd.o143) ::
    (nat_lit 144, { cls := Value.type "tuple", data := Data.seq #[] }) ::
    (nat_lit 146, { cls := Value.type "tuple", data := Data.seq #[Value.str (Str.ofString "self") 378, Value.str (Str.ofString "priority") 379, Value.str (Str.ofString "now") 380] }) ::
    (nat_lit 147, { cls := Value.type "tuple", data := Data.seq #[] }) ::
    (nat_lit 149, { cls := Value.type "code", data := Data.fields #[Value.str (Str.ofString "may_send") 375, Value.str (Str.ofString "PauseState.may_send") 376, Value.str (Str.ofString "/claim/cut.py") 377, Value.int 72 0, Value.int 3 0, Value.int 0 0, Value.int 0 0, Value.int 3 0, Value.ref 144, Value.bool true, Value.int 181 0, Value.ref 145, Value.none, Value.ref 146, Value.ref 147, Value.ref 148, Value.int 381 0, Value.int 72 0, Value.str (Str.ofString "/claim/cut.py") 382] }) ::
    (nat_lit 150, hd.o150) ::
    (nat_lit 151, { cls := Value.type "tuple", data := Data.seq #[Value.str (Str.ofString "tick") 384, Value.str (Str.ofString "until") 385] }) ::
    (nat_lit 152, { cls := Value.type "dict", data := Data.dict #[{ hash := PyData.keyHash P (Str.ofString "__module__"), key := Value.str (Str.ofString "__module__") 351, val := Value.str (Str.ofString "switchloom.pause") 284 }, { hash := PyData.keyHash P (Str.ofString "__firstlineno__"), key := Value.str (Str.ofString "__firstlineno__") 355, val := Value.int 56 354 }, { hash := PyData.keyHash P (Str.ofString "__init__"), key := Value.str (Str.ofString "__init__") 363, val := Value.ref 136 }, { hash := PyData.keyHash P (Str.ofString "heard"), key := Value.str (Str.ofString "heard") 374, val := Value.ref 143 }, { hash := PyData.keyHash P (Str.ofString "may_send"), key := Value.str (Str.ofString "may_send") 383, val := Value.ref 150 }, { hash := PyData.keyHash P (Str.ofString "__static_attributes__"), key := Value.str (Str.ofString "__static_attributes__") 386, val := Value.ref 151 }, { hash := PyData.keyHash P (Str.ofString "__dict__"), key := Value.str (Str.ofString "__dict__") 388, val := Value.ref 154 }, { hash := PyData.keyHash P (Str.ofString "__weakref__"), key := Value.str (Str.ofString "__weakref__") 390, val := Value.ref 155 }, { hash := PyData.keyHash P (Str.ofString "__doc__"), key := Value.str (Str.ofString "__doc__") 391, val := Value.none }] 4 }) ::
    (nat_lit 153, { cls := Value.type "type", data := Data.cls { name := Str.ofString "PauseState", bases := [Value.type "object"], mro := [Value.ref 153, Value.type "object"], ns := 152, qualname := Str.ofString "PauseState" }, slots := #[none, none, some (Value.str (Str.ofString "PauseState") 344), some (Value.str (Str.ofString "PauseState") 352), some (Value.builtin "object.__new__"), some (Value.bool true)] }) ::
    (nat_lit 154, { cls := Value.type "getset_descriptor", data := Data.fields #[Value.str (Str.ofString "__dict__") 387, Value.ref 153, Value.builtin "function.__dict__", Value.builtin "function.__dict__#set"] }) ::
    (nat_lit 155, { cls := Value.type "getset_descriptor", data := Data.fields #[Value.str (Str.ofString "__weakref__") 389, Value.ref 153, Value.builtin "ExceptionGroup.__weakref__", Value.none] }) ::
    (nat_lit 165, { cls := Value.type "tuple", data := Data.seq #[Value.int 65535 292, Value.int 1 406, Value.int 1 407, Value.none] }) ::
    (nat_lit 166, { cls := Value.type "tuple", data := Data.seq #[] }) ::
    (nat_lit 168, { cls := Value.type "tuple", data := Data.seq #[Value.str (Str.ofString "self") 411, Value.str (Str.ofString "high") 412, Value.str (Str.ofString "low") 413, Value.str (Str.ofString "time") 414, Value.str (Str.ofString "tick") 415, Value.str (Str.ofString "ahead") 416, Value.str (Str.ofString "priority") 417] }) ::
    (nat_lit 169, { cls := Value.type "tuple", data := Data.seq #[] }) ::
    (nat_lit 171, { cls := Value.type "code", data := Data.fields #[Value.str (Str.ofString "__init__") 408, Value.str (Str.ofString "PauseAsker.__init__") 409, Value.str (Str.ofString "/claim/cut.py") 410, Value.int 76 0, Value.int 7 0, Value.int 0 0, Value.int 0 0, Value.int 3 0, Value.ref 166, Value.bool true, Value.int 181 0, Value.ref 167, Value.none, Value.ref 168, Value.ref 169, Value.ref 170, Value.int 418 0, Value.int 76 0, Value.str (Str.ofString "/claim/cut.py") 419] }) ::
    (nat_lit 172, hd.o172) ::
    (nat_lit 173, { cls := Value.type "tuple", data := Data.seq #[] }) ::
    (nat_lit 176, { cls := Value.type "code", data := Data.fields #[Value.str (Str.ofString "asking") 421, Value.str (Str.ofString "PauseAsker.asking") 422, Value.str (Str.ofString "/claim/cut.py") 423, Value.int 87 0, Value.int 2 0, Value.int 0 0, Value.int 0 0, Value.int 3 0, Value.ref 173, Value.bool true, Value.int 181 0, Value.ref 174, Value.none, Value.none, Value.none, Value.ref 175, Value.int 424 0, Value.int 87 0, Value.str (Str.ofString "/claim/cut.py") 425] }) ::
    (nat_lit 177, hd.o177) ::
    (nat_lit 178, { cls := Value.type "tuple", data := Data.seq #[] }) ::
    (nat_lit 180, { cls := Value.type "tuple", data := Data.seq #[Value.str (Str.ofString "self") 430, Value.str (Str.ofString "many") 431, Value.str (Str.ofString "now") 432] }) ::
    (nat_lit 181, { cls := Value.type "tuple", data := Data.seq #[] }) ::
    (nat_lit 183, { cls := Value.type "code", data := Data.fields #[Value.str (Str.ofString "level") 427, Value.str (Str.ofString "PauseAsker.level") 428, Value.str (Str.ofString "/claim/cut.py") 429, Value.int 92 0, Value.int 3 0, Value.int 0 0, Value.int 0 0, Value.int 3 0, Value.ref 178, Value.bool true, Value.int 181 0, Value.ref 179, Value.none, Value.ref 180, Value.ref 181, Value.ref 182, Value.int 433 0, Value.int 92 0, Value.str (Str.ofString "/claim/cut.py") 434] }) ::
    (nat_lit 184, hd.o184) ::
    (nat_lit 185, { cls := Value.type "tuple", data := Data.seq #[Value.str (Str.ofString "again") 436, Value.str (Str.ofString "ahead") 437, Value.str (Str.ofString "high") 438, Value.str (Str.ofString "low") 439, Value.str (Str.ofString "priority") 440, Value.str (Str.ofString "tick") 441, Value.str (Str.ofString "time") 442] }) ::
    (nat_lit 186, { cls := Value.type "dict", data := Data.dict #[{ hash := PyData.keyHash P (Str.ofString "__module__"), key := Value.str (Str.ofString "__module__") 401, val := Value.str (Str.ofString "switchloom.pause") 284 }, { hash := PyData.keyHash P (Str.ofString "__firstlineno__"), key := Value.str (Str.ofString "__firstlineno__") 405, val := Value.int 74 404 }, { hash := PyData.keyHash P (Str.ofString "__init__"), key := Value.str (Str.ofString "__init__") 420, val := Value.ref 172 }, { hash := PyData.keyHash P (Str.ofString "asking"), key := Value.str (Str.ofString "asking") 426, val := Value.ref 177 }, { hash := PyData.keyHash P (Str.ofString "level"), key := Value.str (Str.ofString "level") 435, val := Value.ref 184 }, { hash := PyData.keyHash P (Str.ofString "__static_attributes__"), key := Value.str (Str.ofString "__static_attributes__") 443, val := Value.ref 185 }, { hash := PyData.keyHash P (Str.ofString "__dict__"), key := Value.str (Str.ofString "__dict__") 445, val := Value.ref 188 }, { hash := PyData.keyHash P (Str.ofString "__weakref__"), key := Value.str (Str.ofString "__weakref__") 447, val := Value.ref 189 }, { hash := PyData.keyHash P (Str.ofString "__doc__"), key := Value.str (Str.ofString "__doc__") 448, val := Value.none }] 4 }) ::
    (nat_lit 187, { cls := Value.type "type", data := Data.cls { name := Str.ofString "PauseAsker", bases := [Value.type "object"], mro := [Value.ref 187, Value.type "object"], ns := 186, qualname := Str.ofString "PauseAsker" }, slots := #[none, none, some (Value.str (Str.ofString "PauseAsker") 394), some (Value.str (Str.ofString "PauseAsker") 402), some (Value.builtin "object.__new__"), some (Value.bool true)] }) ::
    (nat_lit 188, { cls := Value.type "getset_descriptor", data := Data.fields #[Value.str (Str.ofString "__dict__") 444, Value.ref 187, Value.builtin "function.__dict__", Value.builtin "function.__dict__#set"] }) ::
    (nat_lit 189, { cls := Value.type "getset_descriptor", data := Data.fields #[Value.str (Str.ofString "__weakref__") 446, Value.ref 187, Value.builtin "ExceptionGroup.__weakref__", Value.none] }) ::
    (nat_lit 192, { cls := Value.type "tuple", data := Data.seq #[] }) ::
    (nat_lit 194, { cls := Value.type "tuple", data := Data.seq #[Value.str (Str.ofString "script") 456, Value.str (Str.ofString "k") 457, Value.str (Str.ofString "cell") 458, Value.str (Str.ofString "size") 459, Value.str (Str.ofString "stirred") 460] }) ::
    (nat_lit 195, { cls := Value.type "tuple", data := Data.seq #[] }) ::
    (nat_lit 197, { cls := Value.type "code", data := Data.fields #[Value.str (Str.ofString "_law_pool") 453, Value.str (Str.ofString "_law_pool") 454, Value.str (Str.ofString "/claim/cut.py") 455, Value.int 104 0, Value.int 2 0, Value.int 0 0, Value.int 0 0, Value.int 3 0, Value.ref 192, Value.bool true, Value.int 181 0, Value.ref 193, Value.none, Value.ref 194, Value.ref 195, Value.ref 196, Value.int 461 0, Value.int 104 0, Value.str (Str.ofString "/claim/cut.py") 462] }) ::
    (nat_lit 198, hd.o198) ::
    (nat_lit 199, { cls := Value.type "tuple", data := Data.seq #[] }) ::
    (nat_lit 201, { cls := Value.type "tuple", data := Data.seq #[Value.str (Str.ofString "source") 467, Value.str (Str.ofString "top") 468, Value.str (Str.ofString "drawn") 469] }) ::
    (nat_lit 202, { cls := Value.type "tuple", data := Data.seq #[] }) ::
    (nat_lit 204, { cls := Value.type "code", data := Data.fields #[Value.str (Str.ofString "_law_take") 464, Value.str (Str.ofString "_law_take") 465, Value.str (Str.ofString "/claim/cut.py") 466, Value.int 109 0, Value.int 2 0, Value.int 0 0, Value.int 0 0, Value.int 3 0, Value.ref 199, Value.bool true, Value.int 181 0, Value.ref 200, Value.none, Value.ref 201, Value.ref 202, Value.ref 203, Value.int 470 0, Value.int 109 0, Value.str (Str.ofString "/claim/cut.py") 471] }) ::
    (nat_lit 205, hd.o205) ::
    (nat_lit 206, { cls := Value.type "tuple", data := Data.seq #[] }) ::
    (nat_lit 208, { cls := Value.type "tuple", data := Data.seq #[Value.str (Str.ofString "source") 476, Value.str (Str.ofString "things") 477] }) ::
    (nat_lit 209, { cls := Value.type "tuple", data := Data.seq #[] }) ::
    (nat_lit 211, { cls := Value.type "code", data := Data.fields #[Value.str (Str.ofString "_law_one") 473, Value.str (Str.ofString "_law_one") 474, Value.str (Str.ofString "/claim/cut.py") 475, Value.int 116 0, Value.int 2 0, Value.int 0 0, Value.int 0 0, Value.int 3 0, Value.ref 206, Value.bool true, Value.int 181 0, Value.ref 207, Value.none, Value.ref 208, Value.ref 209, Value.ref 210, Value.int 478 0, Value.int 116 0, Value.str (Str.ofString "/claim/cut.py") 479] }) ::
    (nat_lit 212, hd.o212) ::
    (nat_lit 213, { cls := Value.type "tuple", data := Data.seq #[] }) ::
    (nat_lit 216, { cls := Value.type "code", data := Data.fields #[Value.str (Str.ofString "_law_payload") 481, Value.str (Str.ofString "_law_payload") 482, Value.str (Str.ofString "/claim/cut.py") 483, Value.int 118 0, Value.int 1 0, Value.int 0 0, Value.int 0 0, Value.int 3 0, Value.ref 213, Value.bool true, Value.int 181 0, Value.ref 214, Value.none, Value.none, Value.none, Value.ref 215, Value.int 484 0, Value.int 118 0, Value.str (Str.ofString "/claim/cut.py") 485] }) ::
    (nat_lit 217, hd.o217) ::
    (nat_lit 218, { cls := Value.type "tuple", data := Data.seq #[] }) ::
    (nat_lit 220, { cls := Value.type "tuple", data := Data.seq #[Value.str (Str.ofString "source") 490, Value.str (Str.ofString "first") 491, Value.str (Str.ofString "second") 492, Value.str (Str.ofString "tick") 493, Value.str (Str.ofString "now") 494, Value.str (Str.ofString "later") 495, Value.str (Str.ofString "state") 496, Value.str (Str.ofString "due") 497, Value.str (Str.ofString "pause") 498, Value.str (Str.ofString "moment") 499, Value.str (Str.ofString "priority") 500, Value.str (Str.ofString "time") 501, Value.str (Str.ofString "here") 502] }) ::
    (nat_lit 221, { cls := Value.type "tuple", data := Data.seq #[] }) ::
    (nat_lit 223, { cls := Value.type "code", data := Data.fields #[Value.str (Str.ofString "_law_heard_right") 487, Value.str (Str.ofString "_law_heard_right") 488, Value.str (Str.ofString "/claim/cut.py") 489, Value.int 129 0, Value.int 3 0, Value.int 0 0, Value.int 0 0, Value.int 3 0, Value.ref 218, Value.bool true, Value.int 181 0, Value.ref 219, Value.none, Value.ref 220, Value.ref 221, Value.ref 222, Value.int 503 0, Value.int 129 0, Value.str (Str.ofString "/claim/cut.py") 504] }) ::
    (nat_lit 224, hd.o224) ::
    (nat_lit 225, { cls := Value.type "tuple", data := Data.seq #[] }) ::
    (nat_lit 227, { cls := Value.type "tuple", data := Data.seq #[Value.str (Str.ofString "call") 509] }) ::
    (nat_lit 228, { cls := Value.type "tuple", data := Data.seq #[] }) ::
    (nat_lit 230, { cls := Value.type "code", data := Data.fields #[Value.str (Str.ofString "_law_refused") 506, Value.str (Str.ofString "_law_refused") 507, Value.str (Str.ofString "/claim/cut.py") 508, Value.int 145 0, Value.int 1 0, Value.int 0 0, Value.int 0 0, Value.int 3 0, Value.ref 225, Value.bool true, Value.int 181 0, Value.ref 226, Value.none, Value.ref 227, Value.ref 228, Value.ref 229, Value.int 510 0, Value.int 145 0, Value.str (Str.ofString "/claim/cut.py") 511] }) ::
    (nat_lit 231, hd.o231) ::
    (nat_lit 232, { cls := Value.type "tuple", data := Data.seq #[] }) ::
    (nat_lit 235, { cls := Value.type "code", data := Data.fields #[Value.str (Str.ofString "_law_refusals_right") 513, Value.str (Str.ofString "_law_refusals_right") 514, Value.str (Str.ofString "/claim/cut.py") 515, Value.int 151 0, Value.int 1 0, Value.int 0 0, Value.int 0 0, Value.int 3 0, Value.ref 232, Value.bool true, Value.int 181 0, Value.ref 233, Value.none, Value.none, Value.none, Value.ref 234, Value.int 516 0, Value.int 151 0, Value.str (Str.ofString "/claim/cut.py") 517] }) ::
    (nat_lit 236, hd.o236) ::
    (nat_lit 237, { cls := Value.type "tuple", data := Data.seq #[] }) ::
    (nat_lit 240, { cls := Value.type "code", data := Data.fields #[Value.str (Str.ofString "law") 519, Value.str (Str.ofString "law") 520, Value.str (Str.ofString "/claim/cut.py") 521, Value.int 162 0, Value.int 1 0, Value.int 0 0, Value.int 0 0, Value.int 3 0, Value.ref 237, Value.bool true, Value.int 181 0, Value.ref 238, Value.none, Value.none, Value.none, Value.ref 239, Value.int 522 0, Value.int 162 0, Value.str (Str.ofString "/claim/cut.py") 523] }) ::
    (nat_lit 241, hd.o241) :: []

noncomputable def hd.nlaw : { d : DefRec // recAt (stAt 28) = d } := ⟨_, by dsimp only [recAt, stAt, nthS, PySem.Challenge.pw_pf0382_01]⟩
noncomputable def hd.law : DefRec := hd.nlaw.1
noncomputable def hd.view_39 : Program := { PySem.Challenge.pw_pf0382_01 with main := { PySem.Challenge.pw_pf0382_01.main with body := pickS PySem.Challenge.pw_pf0382_01.main.body [1, 2, 3, 5, 6, 7, 8, 10, 11, 12, 13, 14, 15, 16, 17, 18, 19, 21, 22, 23, 24, 25, 26, 27, 28] } }

noncomputable def hd.addrs : List Addr := [2, 3, 15, 22, 24, 25, 27, 28, 29, 30, 31, 32, 35, 42, 43, 44, 47, 54, 55, 56, 59, 62, 63, 64, 66, 67, 69, 70,
          71, 73, 74, 76, 77, 78, 80, 81, 83, 84, 92, 94, 95, 97, 98, 99, 100, 101, 102, 103, 106, 109, 110, 111, 114,
          115, 116, 118, 119, 121, 122, 130, 132, 133, 135, 136, 137, 139, 140, 142, 143, 144, 146, 147, 149, 150, 151,
          152, 153, 154, 155, 165, 166, 168, 169, 171, 172, 173, 176, 177, 178, 180, 181, 183, 184, 185, 186, 187, 188,
          189, 192, 194, 195, 197, 198, 199, 201, 202, 204, 205, 206, 208, 209, 211, 212, 213, 216, 217, 218, 220, 221,
          223, 224, 225, 227, 228, 230, 231, 232, 235, 236, 237, 240, 241]
theorem hd.addrs_eq (P : Params) : hd.addrs = (hd.heap_39 P).map (·.1) := rfl
end

section
open PySem PySem.W PyProof.Rows PySem.Calls PySem.Spec

abbrev Led := List (Addr × Obj)
def KeepBut (h h' : Heap) (own : Led) : Prop := ∀ b o, h.get? b = some o → b ∉ own.map (·.1) → h'.get? b = some o
theorem KeepBut.refl {h : Heap} {own : Led} : KeepBut h h own := fun _ _ e _ => e
theorem KeepBut.all {h h' : Heap} (k : KeepBut h h' []) : ∀ b o, h.get? b = some o → h'.get? b = some o := fun b o e => k b o e (fun q => nomatch q)
theorem KeepBut.fr {h₀ h h' : Heap} {L : Addr} {m : Str → Option Value} {own : Led} (k : KeepBut h h' own) (F : Fr h₀ L h m) (N : News h₀ L h own) : Fr h₀ L h' m := by
  have nL : L ∉ own.map (·.1) := fun q => by
    obtain ⟨p, hp, e⟩ := List.mem_map.mp q
    exact (N p hp).2.1 e
  refine ⟨F.ns.at' fun o e => k _ o e nL, fun b o e => k b o (F.keep b o e) fun q => ?_, F.above⟩
  obtain ⟨p, hp, q⟩ := List.mem_map.mp q
  have := (N p hp).2.2
  rw [q, e] at this
  cases this
theorem KeepBut.news {h₀ h h' : Heap} {L : Addr} {own rest : Led} (k : KeepBut h h' own) (N : News h₀ L h rest) (hd : ∀ p ∈ rest, ∀ q ∈ own, q.1 ≠ p.1) : News h₀ L h' rest := fun p hp =>
  ⟨k _ _ (N p hp).1 (fun q => by obtain ⟨x, hx, e⟩ := List.mem_map.mp q; exact hd p hp x hx e), (N p hp).2⟩

section
variable {prog : Program} {w : World} {A₀ A : Around} {s : Shared} {base h₀ : Heap} {outer : List Env} {L : Addr} {m : Str → Option Value} {env : Env} {own : Led} {K : Frag} {p : Program} {loose : List Str} {mean : ExcName → Option Value} {mg mb : Str → Option Value}
  {R : Result → Shared → Prop} {name qual : Str} {params : Arguments} {body : List Stmt} {scope : Scope} {dV kV doc pm cdv ct oc : Value} {an od : Option Addr} {osl : Array (Option Value)} {f : Addr} {args : Args} {binds : List (Str × Value)}

/-- entering a def of the text: all that the callee does not own stands in the ground of its frame -/
theorem enterO (B : Below A₀ base outer h₀) (F : Fr h₀ L s.heap m) (X₀ : K.In h₀) (N : News h₀ L s.heap own) (T : Top p loose mean mg mb h₀) (hA : A.frames = some (env :: outer)) (hf : env.frame = some L) (hke : env.scope.kind = .function)
    (ho : K.lookup f = some ⟨oc, od, .func (fnOf name qual params body scope dV kV doc pm an cdv ct), osl⟩) (hcd : codeIn K cdv qual = true) (hroom : A.depth < recursionLimit)
    (hbind : BindsTo s (fnOf name qual params body scope dV kV doc pm an cdv ct) args binds) (hloc : ∀ y ∈ binds, scope.names.lookup y.1 = some .local)
    (h : ∀ g L' h₁, Fr h₀ L g m → Fr g L' h₁ (fun y => binds.reverse.lookup y) → News g L' h₁ own → Below A base (env :: outer) g → K.In g → Top p loose mean mg mb g → (∀ q ∈ own, q.1 < L') →
      (∀ b o, s.heap.get? b = some o → b ∉ own.map (·.1) → g.get? b = some o) → (∀ b o, g.get? b = some o → s.heap.get? b = some o) → g.objs.size = s.heap.objs.size →
      wpAny (model prog w) (A.deeper (envOf qual scope L' f cdv)) (execs body (envOf qual scope L' f cdv))
        (fun fl s' => LeaveK h₀ L m g R (match fl with | .ret v => v | _ => .none) s')
        (fun e s' => wpAny (model prog w) (A.deeper (envOf qual scope L' f cdv)) (leaving (envOf qual scope L' f cdv) e) (fun _ s'' => R (.error e) s'') (fun e' s'' => R (.error e') s'') s')
        { s with heap := h₁, toks := s.toks + binds.length })
    (hco : scope.isCoroutine = false) (hgen : scope.isGenerator = false) (hk : scope.kind = .function)
    (hcell : ∀ x ∈ scope.names, x.2 ≠ .cell) : codeAny (model prog w) A (.call (.ref f) args) R s := by
  obtain ⟨FG, BG, st, lv⟩ := groundX (R := R) B F N hA hf hke
  refine codeAny_call_def (fd := fnOf name qual params body scope dV kV doc pm an cdv ct) (body := body) (binds := binds) hroom (X₀.keeps F.keep _ _ ho) rfl (T.nolimit.keeps F.keep) (codeRec_of (X₀.keeps F.keep) hcd) rfl hbind hcell hloc (fun h₁ hns hk₁ => ?_) hco hgen hk
  exact wpAny_mono (h _ s.heap.objs.size h₁ FG ⟨hns, fun b o e => hk₁ b o (of_hideAll _ e), Nat.le_of_eq (hideAll_size _ _)⟩
    (fun p hp => ⟨hk₁ _ _ (N p hp).1, Nat.ne_of_lt (Heap.lt_size (N p hp).1), hideAll_none _ (List.mem_map_of_mem hp)⟩) BG (X₀.keeps st) (T.keeps st) (fun p hp => Heap.lt_size (N p hp).1)
    (fun b o e n => hideAll_get _ e n) (fun b o e => of_hideAll _ e) (hideAll_size _ _)) (fun fl s' hl => lv _ _ hl) fun _ _ y => y
end

section
variable {prog : Program} {w : World} {A₀ A : Around} {s : Shared} {base h₀ : Heap} {outer : List Env} {L : Addr} {m : Str → Option Value} {env : Env} {own : Led} {K : Frag} {p : Program} {loose : List Str} {mean : ExcName → Option Value} {mg mb : Str → Option Value}
  {R : Result → Shared → Prop} {name qual : Str} {params : Arguments} {body : List Stmt} {scope : Scope} {dV kV doc pm cdv ct oc : Value} {an od : Option Addr} {osl : Array (Option Value)} {f : Addr} {args : Args} {binds : List (Str × Value)}
/-- the same for a def whose locals are captured -/
theorem enterC (B : Below A₀ base outer h₀) (F : Fr h₀ L s.heap m) (X₀ : K.In h₀) (N : News h₀ L s.heap own) (T : Top p loose mean mg mb h₀) (hA : A.frames = some (env :: outer)) (hf : env.frame = some L) (hke : env.scope.kind = .function)
    (ho : K.lookup f = some ⟨oc, od, .func (fnOf name qual params body scope dV kV doc pm an cdv ct), osl⟩) (hcd : codeIn K cdv qual = true) (hroom : A.depth < recursionLimit)
    (hbind : BindsTo s (fnOf name qual params body scope dV kV doc pm an cdv ct) args binds) (hkind : (binds.all fun y => scope.names.lookup y.1 == some .local || scope.names.lookup y.1 == some .cell) = true)
    (hnd : ((cellsFrom 0 scope.names []).map (·.1)).Nodup)
    (h : ∀ g L' h₁ tk cells, Fr h₀ L g m → Fr g L' h₁ (bindL (envOfC qual scope L' f cdv).kindOf binds fun _ => none) → News g L' h₁ (cells ++ own) →
      CellsAre (bindC (envOfC qual scope L' f cdv).kindOf binds fun _ => none) (cellsFrom (L' + 1) scope.names []) cells → Below A base (env :: outer) g → K.In g → Top p loose mean mg mb g → (∀ q ∈ own, q.1 < L') →
      (∀ b o, s.heap.get? b = some o → b ∉ own.map (·.1) → g.get? b = some o) → (∀ b o, g.get? b = some o → s.heap.get? b = some o) → g.objs.size = s.heap.objs.size →
      wpAny (model prog w) (A.deeper (envOfC qual scope L' f cdv)) (execs body (envOfC qual scope L' f cdv))
        (fun fl s' => LeaveK h₀ L m g R (match fl with | .ret v => v | _ => .none) s')
        (fun e s' => wpAny (model prog w) (A.deeper (envOfC qual scope L' f cdv)) (leaving (envOfC qual scope L' f cdv) e) (fun _ s'' => R (.error e) s'') (fun e' s'' => R (.error e') s'') s')
        { s with heap := h₁, toks := tk })
    (hco : scope.isCoroutine = false) (hgen : scope.isGenerator = false) (hk : scope.kind = .function) : codeAny (model prog w) A (.call (.ref f) args) R s := by
  obtain ⟨FG, BG, st, lv⟩ := groundX (R := R) B F N hA hf hke
  refine codeAny_call_function hroom (X₀.keeps F.keep _ _ ho) rfl hco hgen rfl (codeRec_of (X₀.keeps F.keep) hcd) (hbind _ _ _ _ ?_)
  refine wpAny_newFunctionEnv_cells hk (kindsX hkind _) fun env' he s' x => ?_
  subst he
  refine ⟨(T.nolimit.keeps F.keep).keeps x.toInCall.keep, codeAny_func ?_⟩
  obtain ⟨h₁, tk, rfl, _⟩ := x.done
  have hk₁ := x.toInCall.keep
  obtain ⟨cells, NC, Y⟩ := Cl.news (h₀ := s.heap) (Nat.le_refl _) fun n c hm => ⟨x.cell n c (lookup_of_mem_nodup (cellsFrom_names scope.names 0 (s.heap.objs.size + 1) [] [] rfl ▸ hnd) hm), x.above n c hm⟩
  refine wpAny_mono (h _ s.heap.objs.size h₁ tk cells FG ⟨x.toInCall.ns, fun b o e => hk₁ b o (of_hideAll _ e), Nat.le_of_eq (hideAll_size _ _)⟩ (fun p hp => ?_) Y BG (X₀.keeps st) (T.keeps st) (fun p hp => Heap.lt_size (N p hp).1)
    (fun b o e n => hideAll_get _ e n) (fun b o e => of_hideAll _ e) (hideAll_size _ _)) (fun fl s' hl => lv _ _ hl) fun _ _ y => y
  rcases List.mem_append.mp hp with hp | hp
  · refine ⟨(NC p hp).1, (NC p hp).2.1, ?_⟩
    cases q : (hideAll s.heap (own.map (·.1))).get? p.1 with
    | none => rfl
    | some o => have := of_hideAll _ q; rw [(NC p hp).2.2] at this; cases this
  · exact ⟨hk₁ _ _ (N p hp).1, Nat.ne_of_lt (Heap.lt_size (N p hp).1), hideAll_none _ (List.mem_map_of_mem hp)⟩
end

theorem take3 {h₀ h : Heap} {L : Addr} {a b c : Addr × Obj} {rest : Led} (N : News h₀ L h (a :: b :: c :: rest)) : News h₀ L h [a, b, c] := fun q hq => N q (List.mem_append_left (as := [a, b, c]) rest hq)
theorem takeP {h₀ h : Heap} {L : Addr} {a b c : Addr × Obj} {rest : Led} (N : News h₀ L h (c :: a :: b :: rest)) : News h₀ L h [a, b, c] := fun q hq => N q (by
  rcases List.mem_cons.mp hq with e | hq
  · rw [e]; exact .tail _ (.head _)
  · rcases List.mem_cons.mp hq with e | hq
    · rw [e]; exact .tail _ (.tail _ (.head _))
    · rcases List.mem_cons.mp hq with e | hq
      · rw [e]; exact .head _
      · cases hq)
theorem take1 {h₀ h : Heap} {L : Addr} {a : Addr × Obj} {rest : Led} (N : News h₀ L h (a :: rest)) : News h₀ L h [a] := fun q hq => N q (List.mem_append_left (as := [a]) rest hq)
/-- the times of a frame: what stands for a time that is not told, and for one that is -/
def TV : Option Int → Value → Prop
  | none, v => v = .none
  | some i, v => ∃ t, v = .int i t
def TVs : List (Option Int) → List Value → Prop
  | [], vs => vs = []
  | o :: l, vs => ∃ v r, vs = v :: r ∧ TV o v ∧ TVs l r
theorem TVs.length {l : List (Option Int)} : ∀ {vs : List Value}, TVs l vs → vs.length = l.length := by
  induction l with
  | nil => intro vs h; rw [show vs = [] from h]; rfl
  | cons o l ih => intro vs h; obtain ⟨v, r, e, _, h⟩ := h; rw [e, List.length_cons, List.length_cons, ih h]
theorem TVs.snoc {l : List (Option Int)} {o : Option Int} {v : Value} (h' : TV o v) : ∀ {vs : List Value}, TVs l vs → TVs (l ++ [o]) (vs ++ [v]) := by
  induction l with
  | nil => intro vs h; rw [show vs = [] from h]; exact ⟨v, [], rfl, h', rfl⟩
  | cons x l ih => intro vs h; obtain ⟨u, r, e, hu, h⟩ := h; exact ⟨u, r ++ [v], by rw [e]; rfl, hu, ih h⟩
theorem TVs.get {l : List (Option Int)} : ∀ {vs : List Value} {i : Nat}, TVs l vs → i < l.length → ∃ o v, l[i]? = some o ∧ vs[i]? = some v ∧ TV o v := by
  induction l with
  | nil => intro vs i _ hi; exact absurd hi (Nat.not_lt_zero _)
  | cons o l ih =>
    intro vs i h hi
    obtain ⟨v, r, e, hv, h⟩ := h
    subst e
    cases i with
    | zero => exact ⟨o, v, rfl, rfl, hv⟩
    | succ i => obtain ⟨o', v', a, b, c⟩ := ih h (Nat.lt_of_succ_lt_succ hi); exact ⟨o', v', by simpa using a, by simpa using b, c⟩
abbrev tupO (vs : List Value) (n : Nat) : Obj := { cls := .type "tuple", data := .seq vs.toArray n }
abbrev pfD (w : World) (T : Addr) (tt : Tok) : Obj := dictOf [⟨PyData.keyHash w.params "times", .str "times" tt, .ref T⟩] 1

/-- the word that a def of the text keeps: what it owns, what it gives -/
def Word (w : World) (f : Addr) (vs : List Value) (own : Led) (cost : Nat) (Post : Heap → Heap → Value → Led → Prop) : Prop :=
  ∀ (loose : List Str) (mean : ExcName → Option Value) (mg mb : Str → Option Value) (dp un : Nat) (gd : Option (List Code)) (cn : Str) (cs : Scope) (a : Addr) (ccd : Value) (cl : List (Str × Addr)) (outer : List Env) (A₀ : Around) (base h₀ : Heap) (L : Addr) (m : Str → Option Value) (s : Shared) (Q E : Value → Shared → Prop),
    Below A₀ base outer h₀ → Fr h₀ L s.heap m → (hd.heap_39 w.params).In h₀ → News h₀ L s.heap own → Top topProg loose mean mg mb h₀ → cs.kind = .function → dp + cost < recursionLimit → un + 8 * cost < cLine →
    (∀ r own' h' tk', KeepBut s.heap h' own → News h₀ L h' own' → Post s.heap h' r own' → Q r { s with heap := h', toks := tk' }) →
    wpAny (model PySem.Challenge.rw_pf0382_01.row.prog w) (ktrTop dp un gd cn cs L a ccd cl outer) (call (.ref f) vs) Q E s


inductive Rem (p : Addr × Obj) : Led → Led → Prop
  | head {r : Led} : Rem p (p :: r) r
  | tail {q : Addr × Obj} {r r' : Led} : Rem p r r' → Rem p (q :: r) (q :: r')
theorem Rem.sub {p : Addr × Obj} {l l' : Led} (x : Rem p l l') : p ∈ l ∧ ∀ q ∈ l', q ∈ l := by
  induction x with
  | head => exact ⟨.head _, fun _ h => .tail _ h⟩
  | tail _ ih =>
    refine ⟨.tail _ ih.1, fun q hq => ?_⟩
    rcases List.mem_cons.mp hq with rfl | hq
    · exact .head _
    · exact .tail _ (ih.2 q hq)
inductive Pick : Led → Led → Led → Prop
  | nil {l : Led} : Pick [] l l
  | cons {p : Addr × Obj} {own l l' r : Led} : Rem p l l' → Pick own l' r → Pick (p :: own) l r
theorem Pick.sub {own l r : Led} (x : Pick own l r) : (∀ p ∈ own, p ∈ l) ∧ ∀ p ∈ r, p ∈ l := by
  induction x with
  | nil => exact ⟨fun _ h => (nomatch h), fun _ h => h⟩
  | cons a _ ih =>
    refine ⟨fun q hq => ?_, fun q hq => a.sub.2 q (ih.2 q hq)⟩
    rcases List.mem_cons.mp hq with rfl | hq
    · exact a.sub.1
    · exact a.sub.2 q (ih.1 q hq)
def apartN (a : Nat) : Led → Prop
  | [] => True
  | p :: r => @Ne Nat a p.1 ∧ apartN a r
def Apart : Led → Led → Prop
  | [], _ => True
  | q :: own, rest => apartN q.1 rest ∧ Apart own rest
theorem apartN_of {h₀ h : Heap} {L p : Addr} {l : Led} (N : News h₀ L h l) (e : h.get? p = none) : apartN p l := by
  induction l with
  | nil => trivial
  | cons q r ih =>
    refine ⟨fun z => ?_, ih fun x hx => N x (.tail _ hx)⟩
    have := (N q (.head _)).1
    rw [← z, e] at this
    cases this
theorem fresh_of {s g : Heap} {own : Led} (hko : ∀ b o, s.get? b = some o → b ∉ own.map (·.1) → g.get? b = some o) {p : Addr} (hg : g.get? p = none) (hn : p ∉ own.map (·.1)) : s.get? p = none := by
  cases e : s.get? p with
  | none => rfl
  | some o => rw [hko p o e hn] at hg; cases hg
theorem apartN.out {a : Nat} {r : Led} (h : apartN a r) (p : Addr × Obj) (hp : p ∈ r) : a ≠ p.1 := by
  induction r with
  | nil => cases hp
  | cons q r ih =>
    rcases List.mem_cons.mp hp with e | hp
    · rw [e]; exact h.1
    · exact ih h.2 hp
theorem Apart.out {own rest : Led} (h : Apart own rest) (p : Addr × Obj) (hp : p ∈ rest) (q : Addr × Obj) (hq : q ∈ own) : q.1 ≠ p.1 := by
  induction own with
  | nil => cases hq
  | cons x r ih =>
    rcases List.mem_cons.mp hq with e | hq
    · rw [e]; exact h.1.out p hp
    · exact ih h.2 hq

section
variable {w : World} {f : Addr} {vs : List Value} {own : Led} {cost : Nat} {Post : Heap → Heap → Value → Led → Prop}
  {loose : List Str} {mean : ExcName → Option Value} {mg mb : Str → Option Value} {dp un : Nat} {gd : Option (List Code)} {cn : Str} {cs : Scope} {a : Addr} {ccd : Value} {cl : List (Str × Addr)} {outer : List Env} {A₀ : Around} {base h₀ : Heap} {L : Addr} {m : Str → Option Value} {s : Shared} {Q E : Value → Shared → Prop} {news rest : Led}
theorem Word.use (C : Word w f vs own cost Post) (B : Below A₀ base outer h₀) (F : Fr h₀ L s.heap m) (X : (hd.heap_39 w.params).In h₀) (N : News h₀ L s.heap news) (T : Top topProg loose mean mg mb h₀) (hk : cs.kind = .function)
    (P : Pick own news rest) (D : Apart own rest) (hd : dp + cost < recursionLimit) (hu : un + 8 * cost < cLine)
    (k : ∀ r own' h' tk', Fr h₀ L h' m → News h₀ L h' (own' ++ rest) → (∀ p : Addr, s.heap.get? p = none → apartN p news) → Post s.heap h' r own' → Q r { s with heap := h', toks := tk' }) :
    wpAny (model PySem.Challenge.rw_pf0382_01.row.prog w) (ktrTop dp un gd cn cs L a ccd cl outer) (call (.ref f) vs) Q E s := by
  have No : News h₀ L s.heap own := fun p hp => N p (P.sub.1 p hp)
  have Nr : News h₀ L s.heap rest := fun p hp => N p (P.sub.2 p hp)
  refine C _ _ _ _ _ _ _ _ _ _ _ _ _ _ _ _ _ _ _ _ _ B F X No T hk hd hu fun r own' h' tk' hkeep N' hP => k r own' h' tk' (hkeep.fr F No) (fun p hp => ?_) (fun p e => apartN_of N e) hP
  rcases List.mem_append.mp hp with hp | hp
  · exact N' p hp
  · exact hkeep.news Nr D.out p hp
/-- the same, curried: what the word gives comes as a for-all (an `obtain` in a walk copies the whole goal) -/
theorem Word.useK {PK : Heap → Heap → (Value → Led → Prop) → Prop} (C : Word w f vs own cost Post) (hPK : ∀ h h' (R : Value → Led → Prop), PK h h' R → ∀ r o, Post h h' r o → R r o) (B : Below A₀ base outer h₀) (F : Fr h₀ L s.heap m) (X : (hd.heap_39 w.params).In h₀) (N : News h₀ L s.heap news) (T : Top topProg loose mean mg mb h₀) (hk : cs.kind = .function)
    (P : Pick own news rest) (D : Apart own rest) (hd : dp + cost < recursionLimit) (hu : un + 8 * cost < cLine)
    (k : ∀ h' tk', (∀ p : Addr, s.heap.get? p = none → apartN p news) → Fr h₀ L h' m → PK s.heap h' (fun r own' => News h₀ L h' (own' ++ rest) → Q r { s with heap := h', toks := tk' })) :
    wpAny (model PySem.Challenge.rw_pf0382_01.row.prog w) (ktrTop dp un gd cn cs L a ccd cl outer) (call (.ref f) vs) Q E s :=
  C.use B F X N T hk P D hd hu fun r own' h' tk' F' N' Z hP => hPK _ _ _ (k h' tk' Z F') r own' hP N'
end
theorem room1 {d dp j k K R : Nat} (h : dp + K < R) (e : d = dp + j) (hk : j + k ≤ K) : d + k < R := by omega
end

section
open PySem PySem.W PyProof.Rows PySem.Calls PySem.Spec
/-- a word that leans on what stands in the ground -/
def WordH (w : World) (H : Heap → Prop) (f : Addr) (vs : List Value) (own : Led) (cost : Nat) (Post : Heap → Heap → Value → Led → Prop) : Prop :=
  ∀ (loose : List Str) (mean : ExcName → Option Value) (mg mb : Str → Option Value) (dp un : Nat) (gd : Option (List Code)) (cn : Str) (cs : Scope) (a : Addr) (ccd : Value) (cl : List (Str × Addr)) (outer : List Env) (A₀ : Around) (base h₀ : Heap) (L : Addr) (m : Str → Option Value) (s : Shared) (Q E : Value → Shared → Prop),
    H h₀ → Below A₀ base outer h₀ → Fr h₀ L s.heap m → (hd.heap_39 w.params).In h₀ → News h₀ L s.heap own → Top topProg loose mean mg mb h₀ → cs.kind = .function → dp + cost < recursionLimit → un + 8 * cost < cLine →
    (∀ r own' h' tk', KeepBut s.heap h' own → News h₀ L h' own' → Post s.heap h' r own' → Q r { s with heap := h', toks := tk' }) →
    wpAny (model PySem.Challenge.rw_pf0382_01.row.prog w) (ktrTop dp un gd cn cs L a ccd cl outer) (call (.ref f) vs) Q E s
section
variable {w : World} {H : Heap → Prop} {f : Addr} {vs : List Value} {own : Led} {cost : Nat} {Post : Heap → Heap → Value → Led → Prop}
  {loose : List Str} {mean : ExcName → Option Value} {mg mb : Str → Option Value} {dp un : Nat} {gd : Option (List Code)} {cn : Str} {cs : Scope} {a : Addr} {ccd : Value} {cl : List (Str × Addr)} {outer : List Env} {A₀ : Around} {base h₀ : Heap} {L : Addr} {m : Str → Option Value} {s : Shared} {Q E : Value → Shared → Prop} {news rest : Led}
theorem WordH.at (C : WordH w H f vs own cost Post) (hH : H h₀) (B : Below A₀ base outer h₀) (F : Fr h₀ L s.heap m) (X : (hd.heap_39 w.params).In h₀) (N : News h₀ L s.heap news) (T : Top topProg loose mean mg mb h₀) (hk : cs.kind = .function)
    (P : Pick own news rest) (D : Apart own rest) (hd : dp + cost < recursionLimit) (hu : un + 8 * cost < cLine)
    (k : ∀ r own' h' tk', Fr h₀ L h' m → News h₀ L h' (own' ++ rest) → (∀ p, s.heap.get? p = none → apartN p news) → Post s.heap h' r own' → Q r { s with heap := h', toks := tk' }) :
    wpAny (model PySem.Challenge.rw_pf0382_01.row.prog w) (ktrTop dp un gd cn cs L a ccd cl outer) (call (.ref f) vs) Q E s := by
  have No : News h₀ L s.heap own := fun p hp => N p (P.sub.1 p hp)
  have Nr : News h₀ L s.heap rest := fun p hp => N p (P.sub.2 p hp)
  refine C _ _ _ _ _ _ _ _ _ _ _ _ _ _ _ _ _ _ _ _ _ hH B F X No T hk hd hu fun r own' h' tk' hkeep N' hP => k r own' h' tk' (hkeep.fr F No) (fun p hp => ?_) (fun p e => apartN_of N e) hP
  rcases List.mem_append.mp hp with hp | hp
  · exact N' p hp
  · exact hkeep.news Nr D.out p hp
end
/-- two addresses apart (said so that the arithmetic does not look at it) -/
structure Ap (a b : Nat) : Prop where
  ne : a ≠ b
theorem Ap.symm {a b : Nat} (x : Ap a b) : Ap b a := ⟨fun e => x.ne e.symm⟩
def neAll (a : Nat) : List Nat → Prop
  | [] => True
  | b :: r => Ap a b ∧ neAll a r
/-- the addresses are all apart -/
def DistA : List Nat → Prop
  | [] => True
  | a :: r => neAll a r ∧ DistA r
theorem apartN_lt {a : Nat} {l : Led} (h : AllLt a l) : apartN a l := by
  induction l with
  | nil => trivial
  | cons p r ih => exact ⟨Nat.ne_of_gt h.1, ih h.2⟩
theorem apartN_mem {a : Nat} {l : Led} (h : apartN a l) : ∀ p ∈ l, p.1 ≠ a := by
  induction l with
  | nil => intro p hp; cases hp
  | cons q r ih =>
    intro p hp
    rcases List.mem_cons.mp hp with rfl | hp
    · exact Ne.symm h.1
    · exact ih h.2 p hp
theorem apartN_app {a : Nat} {l r : Led} (h : apartN a l) (k : apartN a r) : apartN a (l ++ r) := by
  induction l with
  | nil => exact k
  | cons q r' ih => exact ⟨h.1, ih h.2⟩
theorem apartN_all {a : Nat} {l : Led} (h : ∀ p ∈ l, p.1 ≠ a) : apartN a l := by
  induction l with
  | nil => trivial
  | cons p r ih => exact ⟨fun e => h p (.head _) e.symm, ih fun q hq => h q (.tail _ hq)⟩
theorem m_put {m : Str → Option Value} {x : Str} {v : Option Value} (h : m x = v) : m = fun y => if y = x then v else m y := by
  funext y
  split
  · rename_i e; rw [e, h]
  · rfl
theorem apartN_ap {a : Nat} {p : Addr × Obj} {r : Led} : apartN a (p :: r) ↔ Ap a p.1 ∧ apartN a r := ⟨fun h => ⟨⟨h.1⟩, h.2⟩, fun h => ⟨h.1.ne, h.2⟩⟩
theorem apartN_nil {a : Nat} : apartN a [] ↔ True := Iff.rfl
theorem memAllH_nil {l : Led} : ∀ q ∈ ([] : Led), q ∈ l := fun _ h => nomatch h
theorem news_sub {h₀ h : Heap} {L : Addr} {l l' : Led} (N : News h₀ L h l) (k : ∀ q ∈ l', q ∈ l) : News h₀ L h l' := fun q hq => N q (k q hq)
theorem memAllH_cons {p : Addr × Obj} {r l : Led} (h : p ∈ l) (hr : ∀ q ∈ r, q ∈ l) : ∀ q ∈ p :: r, q ∈ l := fun q hq => by
  rcases List.mem_cons.mp hq with e | hq
  · rw [e]; exact h
  · exact hr q hq
theorem gen_post {α : Type} {M : Model} {A : Around} {x : Sem α} {Q₀ : α → Shared → Prop} {E₀ : Value → Shared → Prop} {s : Shared} (P : (α → Shared → Prop) → Prop) (k : P Q₀) (h : ∀ Q, P Q → wpAny M A x Q E₀ s) : wpAny M A x Q₀ E₀ s := h _ k
theorem ne_gt {a b c : Nat} {R : Prop} (h : c < a ∧ R) (k : c < a ∧ R → b < a) : a ≠ b := Nat.ne_of_gt (k h)
theorem ne_lt {a b c : Nat} {R : Prop} (h : c < b ∧ R) (k : c < b ∧ R → a < b) : a ≠ b := Nat.ne_of_lt (k h)
/-- a mark: the walk's lines are meant for the theorem that bears it -/
structure Mk : Prop
theorem q0 {a0 a1 : Prop} (h : a0 ∧ a1) : a0 := h.1
theorem q1 {a0 a1 a2 : Prop} (h : a0 ∧ a1 ∧ a2) : a1 := h.2.1
theorem q2 {a0 a1 a2 a3 : Prop} (h : a0 ∧ a1 ∧ a2 ∧ a3) : a2 := h.2.2.1
theorem q3 {a0 a1 a2 a3 a4 : Prop} (h : a0 ∧ a1 ∧ a2 ∧ a3 ∧ a4) : a3 := h.2.2.2.1
theorem q4 {a0 a1 a2 a3 a4 a5 : Prop} (h : a0 ∧ a1 ∧ a2 ∧ a3 ∧ a4 ∧ a5) : a4 := h.2.2.2.2.1
theorem q5 {a0 a1 a2 a3 a4 a5 a6 : Prop} (h : a0 ∧ a1 ∧ a2 ∧ a3 ∧ a4 ∧ a5 ∧ a6) : a5 := h.2.2.2.2.2.1
theorem q6 {a0 a1 a2 a3 a4 a5 a6 a7 : Prop} (h : a0 ∧ a1 ∧ a2 ∧ a3 ∧ a4 ∧ a5 ∧ a6 ∧ a7) : a6 := h.2.2.2.2.2.2.1
theorem q7 {a0 a1 a2 a3 a4 a5 a6 a7 a8 : Prop} (h : a0 ∧ a1 ∧ a2 ∧ a3 ∧ a4 ∧ a5 ∧ a6 ∧ a7 ∧ a8) : a7 := h.2.2.2.2.2.2.2.1
theorem q8 {a0 a1 a2 a3 a4 a5 a6 a7 a8 a9 : Prop} (h : a0 ∧ a1 ∧ a2 ∧ a3 ∧ a4 ∧ a5 ∧ a6 ∧ a7 ∧ a8 ∧ a9) : a8 := h.2.2.2.2.2.2.2.2.1
theorem q9 {a0 a1 a2 a3 a4 a5 a6 a7 a8 a9 a10 : Prop} (h : a0 ∧ a1 ∧ a2 ∧ a3 ∧ a4 ∧ a5 ∧ a6 ∧ a7 ∧ a8 ∧ a9 ∧ a10) : a9 := h.2.2.2.2.2.2.2.2.2.1
theorem q10 {a0 a1 a2 a3 a4 a5 a6 a7 a8 a9 a10 a11 : Prop} (h : a0 ∧ a1 ∧ a2 ∧ a3 ∧ a4 ∧ a5 ∧ a6 ∧ a7 ∧ a8 ∧ a9 ∧ a10 ∧ a11) : a10 := h.2.2.2.2.2.2.2.2.2.2.1
theorem q11 {a0 a1 a2 a3 a4 a5 a6 a7 a8 a9 a10 a11 a12 : Prop} (h : a0 ∧ a1 ∧ a2 ∧ a3 ∧ a4 ∧ a5 ∧ a6 ∧ a7 ∧ a8 ∧ a9 ∧ a10 ∧ a11 ∧ a12) : a11 := h.2.2.2.2.2.2.2.2.2.2.2.1
theorem q12 {a0 a1 a2 a3 a4 a5 a6 a7 a8 a9 a10 a11 a12 a13 : Prop} (h : a0 ∧ a1 ∧ a2 ∧ a3 ∧ a4 ∧ a5 ∧ a6 ∧ a7 ∧ a8 ∧ a9 ∧ a10 ∧ a11 ∧ a12 ∧ a13) : a12 := h.2.2.2.2.2.2.2.2.2.2.2.2.1
theorem q13 {a0 a1 a2 a3 a4 a5 a6 a7 a8 a9 a10 a11 a12 a13 a14 : Prop} (h : a0 ∧ a1 ∧ a2 ∧ a3 ∧ a4 ∧ a5 ∧ a6 ∧ a7 ∧ a8 ∧ a9 ∧ a10 ∧ a11 ∧ a12 ∧ a13 ∧ a14) : a13 := h.2.2.2.2.2.2.2.2.2.2.2.2.2.1
theorem r1 {a0 a1 : Prop} (h : a0 ∧ a1) : a1 := h.2
theorem r2 {a0 a1 a2 : Prop} (h : a0 ∧ a1 ∧ a2) : a2 := h.2.2
theorem r3 {a0 a1 a2 a3 : Prop} (h : a0 ∧ a1 ∧ a2 ∧ a3) : a3 := h.2.2.2
theorem r4 {a0 a1 a2 a3 a4 : Prop} (h : a0 ∧ a1 ∧ a2 ∧ a3 ∧ a4) : a4 := h.2.2.2.2
theorem r5 {a0 a1 a2 a3 a4 a5 : Prop} (h : a0 ∧ a1 ∧ a2 ∧ a3 ∧ a4 ∧ a5) : a5 := h.2.2.2.2.2
theorem r6 {a0 a1 a2 a3 a4 a5 a6 : Prop} (h : a0 ∧ a1 ∧ a2 ∧ a3 ∧ a4 ∧ a5 ∧ a6) : a6 := h.2.2.2.2.2.2
theorem r7 {a0 a1 a2 a3 a4 a5 a6 a7 : Prop} (h : a0 ∧ a1 ∧ a2 ∧ a3 ∧ a4 ∧ a5 ∧ a6 ∧ a7) : a7 := h.2.2.2.2.2.2.2
theorem r8 {a0 a1 a2 a3 a4 a5 a6 a7 a8 : Prop} (h : a0 ∧ a1 ∧ a2 ∧ a3 ∧ a4 ∧ a5 ∧ a6 ∧ a7 ∧ a8) : a8 := h.2.2.2.2.2.2.2.2
theorem r9 {a0 a1 a2 a3 a4 a5 a6 a7 a8 a9 : Prop} (h : a0 ∧ a1 ∧ a2 ∧ a3 ∧ a4 ∧ a5 ∧ a6 ∧ a7 ∧ a8 ∧ a9) : a9 := h.2.2.2.2.2.2.2.2.2
theorem r10 {a0 a1 a2 a3 a4 a5 a6 a7 a8 a9 a10 : Prop} (h : a0 ∧ a1 ∧ a2 ∧ a3 ∧ a4 ∧ a5 ∧ a6 ∧ a7 ∧ a8 ∧ a9 ∧ a10) : a10 := h.2.2.2.2.2.2.2.2.2.2
theorem r11 {a0 a1 a2 a3 a4 a5 a6 a7 a8 a9 a10 a11 : Prop} (h : a0 ∧ a1 ∧ a2 ∧ a3 ∧ a4 ∧ a5 ∧ a6 ∧ a7 ∧ a8 ∧ a9 ∧ a10 ∧ a11) : a11 := h.2.2.2.2.2.2.2.2.2.2.2
theorem r12 {a0 a1 a2 a3 a4 a5 a6 a7 a8 a9 a10 a11 a12 : Prop} (h : a0 ∧ a1 ∧ a2 ∧ a3 ∧ a4 ∧ a5 ∧ a6 ∧ a7 ∧ a8 ∧ a9 ∧ a10 ∧ a11 ∧ a12) : a12 := h.2.2.2.2.2.2.2.2.2.2.2.2
theorem r13 {a0 a1 a2 a3 a4 a5 a6 a7 a8 a9 a10 a11 a12 a13 : Prop} (h : a0 ∧ a1 ∧ a2 ∧ a3 ∧ a4 ∧ a5 ∧ a6 ∧ a7 ∧ a8 ∧ a9 ∧ a10 ∧ a11 ∧ a12 ∧ a13) : a13 := h.2.2.2.2.2.2.2.2.2.2.2.2.2
theorem r14 {a0 a1 a2 a3 a4 a5 a6 a7 a8 a9 a10 a11 a12 a13 a14 : Prop} (h : a0 ∧ a1 ∧ a2 ∧ a3 ∧ a4 ∧ a5 ∧ a6 ∧ a7 ∧ a8 ∧ a9 ∧ a10 ∧ a11 ∧ a12 ∧ a13 ∧ a14) : a14 := h.2.2.2.2.2.2.2.2.2.2.2.2.2.2
theorem r15 {a0 a1 a2 a3 a4 a5 a6 a7 a8 a9 a10 a11 a12 a13 a14 a15 : Prop} (h : a0 ∧ a1 ∧ a2 ∧ a3 ∧ a4 ∧ a5 ∧ a6 ∧ a7 ∧ a8 ∧ a9 ∧ a10 ∧ a11 ∧ a12 ∧ a13 ∧ a14 ∧ a15) : a15 := h.2.2.2.2.2.2.2.2.2.2.2.2.2.2.2
theorem r16 {a0 a1 a2 a3 a4 a5 a6 a7 a8 a9 a10 a11 a12 a13 a14 a15 a16 : Prop} (h : a0 ∧ a1 ∧ a2 ∧ a3 ∧ a4 ∧ a5 ∧ a6 ∧ a7 ∧ a8 ∧ a9 ∧ a10 ∧ a11 ∧ a12 ∧ a13 ∧ a14 ∧ a15 ∧ a16) : a16 := h.2.2.2.2.2.2.2.2.2.2.2.2.2.2.2.2
end

open PySem.Calls PySem.Spec
local macro_rules | `(tactic| k_room) => `(tactic| ktr_room)
local macro_rules | `(tactic| walk_at $s:str) => `(tactic| k_extra $s)
local macro_rules | `(tactic| k_ne) => `(tactic| k_extra "ne")
local macro_rules | `(tactic| k_call_by "used" $c) => `(tactic| (k_whole; intro h9 tk9 Z9 F9; intro x9; intros; (try refine fun (y9 : News _ _ _ _) => ?_); (rename News _ _ _ _ => N9); (try (rename (_ ∈ _) => hm9; simp only [List.mem_cons, List.not_mem_nil, or_false] at hm9)); clear Z9; (try dsimp only [List.cons_append, List.nil_append] at N9); (try dsimp only); (try k_sweep)))
/-- the walk's words of this text, said once -/
theorem reg_all : True := by
  k_with_none
  k_with "ne3" => first | exact hz8.1 | exact Ne.symm hz8.1 | exact hz8.1.1 | exact Ne.symm hz8.1.1 | exact hz8.1.2.1 | exact Ne.symm hz8.1.2.1 | exact hz8.1.2.2 | exact Ne.symm hz8.1.2.2 | exact hz8.2.1 | exact Ne.symm hz8.2.1 | exact hz8.2.1.1 | exact Ne.symm hz8.2.1.1 | exact hz8.2.1.2.1 | exact Ne.symm hz8.2.1.2.1 | exact hz8.2.1.2.2 | exact Ne.symm hz8.2.1.2.2 | exact hz8.2 | exact Ne.symm hz8.2 | exact hz8.2.1 | exact Ne.symm hz8.2.1 | exact hz8.2.2.1 | exact Ne.symm hz8.2.2.1 | exact hz8.2.2.2 | exact Ne.symm hz8.2.2.2 | exact hz8.2.2.1 | exact Ne.symm hz8.2.2.1 | exact hz8.2.2.1.1 | exact Ne.symm hz8.2.2.1.1 | exact hz8.2.2.1.2.1 | exact Ne.symm hz8.2.2.1.2.1 | exact hz8.2.2.1.2.2 | exact Ne.symm hz8.2.2.1.2.2 | exact hz8.2.2 | exact Ne.symm hz8.2.2 | exact hz8.2.2.1 | exact Ne.symm hz8.2.2.1 | exact hz8.2.2.2.1 | exact Ne.symm hz8.2.2.2.1 | exact hz8.2.2.2.2 | exact Ne.symm hz8.2.2.2.2 | exact hz8.2.2.2.1 | exact Ne.symm hz8.2.2.2.1 | exact hz8.2.2.2.1.1 | exact Ne.symm hz8.2.2.2.1.1 | exact hz8.2.2.2.1.2.1 | exact Ne.symm hz8.2.2.2.1.2.1 | exact hz8.2.2.2.1.2.2 | exact Ne.symm hz8.2.2.2.1.2.2 | exact hz8.2.2.2 | exact Ne.symm hz8.2.2.2 | exact hz8.2.2.2.1 | exact Ne.symm hz8.2.2.2.1 | exact hz8.2.2.2.2.1 | exact Ne.symm hz8.2.2.2.2.1 | exact hz8.2.2.2.2.2 | exact Ne.symm hz8.2.2.2.2.2 | exact hz8.2.2.2.2.1 | exact Ne.symm hz8.2.2.2.2.1 | exact hz8.2.2.2.2.1.1 | exact Ne.symm hz8.2.2.2.2.1.1 | exact hz8.2.2.2.2.1.2.1 | exact Ne.symm hz8.2.2.2.2.1.2.1 | exact hz8.2.2.2.2.1.2.2 | exact Ne.symm hz8.2.2.2.2.1.2.2 | exact hz8.2.2.2.2 | exact Ne.symm hz8.2.2.2.2 | exact hz8.2.2.2.2.1 | exact Ne.symm hz8.2.2.2.2.1 | exact hz8.2.2.2.2.2.1 | exact Ne.symm hz8.2.2.2.2.2.1 | exact hz8.2.2.2.2.2.2 | exact Ne.symm hz8.2.2.2.2.2.2 | exact hz8.2.2.2.2.2.1 | exact Ne.symm hz8.2.2.2.2.2.1 | exact hz8.2.2.2.2.2.1.1 | exact Ne.symm hz8.2.2.2.2.2.1.1 | exact hz8.2.2.2.2.2.1.2.1 | exact Ne.symm hz8.2.2.2.2.2.1.2.1 | exact hz8.2.2.2.2.2.1.2.2 | exact Ne.symm hz8.2.2.2.2.2.1.2.2 | exact hz8.2.2.2.2.2 | exact Ne.symm hz8.2.2.2.2.2 | exact hz8.2.2.2.2.2.1 | exact Ne.symm hz8.2.2.2.2.2.1 | exact hz8.2.2.2.2.2.2.1 | exact Ne.symm hz8.2.2.2.2.2.2.1 | exact hz8.2.2.2.2.2.2.2 | exact Ne.symm hz8.2.2.2.2.2.2.2 | exact hz8.2.2.2.2.2.2.1 | exact Ne.symm hz8.2.2.2.2.2.2.1 | exact hz8.2.2.2.2.2.2.1.1 | exact Ne.symm hz8.2.2.2.2.2.2.1.1 | exact hz8.2.2.2.2.2.2.1.2.1 | exact Ne.symm hz8.2.2.2.2.2.2.1.2.1 | exact hz8.2.2.2.2.2.2.1.2.2 | exact Ne.symm hz8.2.2.2.2.2.2.1.2.2 | exact hz8.2.2.2.2.2.2 | exact Ne.symm hz8.2.2.2.2.2.2 | exact hz8.2.2.2.2.2.2.1 | exact Ne.symm hz8.2.2.2.2.2.2.1 | exact hz8.2.2.2.2.2.2.2.1 | exact Ne.symm hz8.2.2.2.2.2.2.2.1 | exact hz8.2.2.2.2.2.2.2.2 | exact Ne.symm hz8.2.2.2.2.2.2.2.2 | exact hz8.2.2.2.2.2.2.2.1 | exact Ne.symm hz8.2.2.2.2.2.2.2.1 | exact hz8.2.2.2.2.2.2.2.1.1 | exact Ne.symm hz8.2.2.2.2.2.2.2.1.1 | exact hz8.2.2.2.2.2.2.2.1.2.1 | exact Ne.symm hz8.2.2.2.2.2.2.2.1.2.1 | exact hz8.2.2.2.2.2.2.2.1.2.2 | exact Ne.symm hz8.2.2.2.2.2.2.2.1.2.2 | exact hz8.2.2.2.2.2.2.2 | exact Ne.symm hz8.2.2.2.2.2.2.2 | exact hz8.2.2.2.2.2.2.2.1 | exact Ne.symm hz8.2.2.2.2.2.2.2.1 | exact hz8.2.2.2.2.2.2.2.2.1 | exact Ne.symm hz8.2.2.2.2.2.2.2.2.1 | exact hz8.2.2.2.2.2.2.2.2.2 | exact Ne.symm hz8.2.2.2.2.2.2.2.2.2 | exact hz8.2.2.2.2.2.2.2.2.1 | exact Ne.symm hz8.2.2.2.2.2.2.2.2.1 | exact hz8.2.2.2.2.2.2.2.2.1.1 | exact Ne.symm hz8.2.2.2.2.2.2.2.2.1.1 | exact hz8.2.2.2.2.2.2.2.2.1.2.1 | exact Ne.symm hz8.2.2.2.2.2.2.2.2.1.2.1 | exact hz8.2.2.2.2.2.2.2.2.1.2.2 | exact Ne.symm hz8.2.2.2.2.2.2.2.2.1.2.2 | exact hz8.2.2.2.2.2.2.2.2 | exact Ne.symm hz8.2.2.2.2.2.2.2.2 | exact hz8.2.2.2.2.2.2.2.2.1 | exact Ne.symm hz8.2.2.2.2.2.2.2.2.1 | exact hz8.2.2.2.2.2.2.2.2.2.1 | exact Ne.symm hz8.2.2.2.2.2.2.2.2.2.1 | exact hz8.2.2.2.2.2.2.2.2.2.2 | exact Ne.symm hz8.2.2.2.2.2.2.2.2.2.2 | exact hz8.2.2.2.2.2.2.2.2.2.1 | exact Ne.symm hz8.2.2.2.2.2.2.2.2.2.1 | exact hz8.2.2.2.2.2.2.2.2.2 | exact Ne.symm hz8.2.2.2.2.2.2.2.2.2 | exact hz8.2.2.2.2.2.2.2.2.2.2.1 | exact Ne.symm hz8.2.2.2.2.2.2.2.2.2.2.1 | exact hz8.2.2.2.2.2.2.2.2.2.2 | exact Ne.symm hz8.2.2.2.2.2.2.2.2.2.2 | exact hz8.2.2.2.2.2.2.2.2.2.2.2.1 | exact Ne.symm hz8.2.2.2.2.2.2.2.2.2.2.2.1 | exact hz8.2.2.2.2.2.2.2.2.2.2.2 | exact Ne.symm hz8.2.2.2.2.2.2.2.2.2.2.2
  k_with "lt3" => (intro hz8; first | exact hz8.1 | exact hz8.2.1 | exact hz8.2 | exact hz8.2.2.1 | exact hz8.2.2 | exact hz8.2.2.2.1 | exact hz8.2.2.2 | exact hz8.2.2.2.2.1 | exact hz8.2.2.2.2 | exact hz8.2.2.2.2.2.1 | exact hz8.2.2.2.2.2 | exact hz8.2.2.2.2.2.2.1 | exact hz8.2.2.2.2.2.2 | exact hz8.2.2.2.2.2.2.2.1 | exact hz8.2.2.2.2.2.2.2 | exact hz8.2.2.2.2.2.2.2.2.1 | exact hz8.2.2.2.2.2.2.2.2 | exact hz8.2.2.2.2.2.2.2.2.2.1 | exact hz8.2.2.2.2.2.2.2.2.2 | exact hz8.2.2.2.2.2.2.2.2.2.2.1 | exact hz8.2.2.2.2.2.2.2.2.2.2 | exact hz8.2.2.2.2.2.2.2.2.2.2.2.1 | exact hz8.2.2.2.2.2.2.2.2.2.2.2 | exact hz8.2.2.2.2.2.2.2.2.2.2.2.2.1 | exact hz8.2.2.2.2.2.2.2.2.2.2.2.2 | exact hz8.2.2.2.2.2.2.2.2.2.2.2.2.2.1 | exact hz8.2.2.2.2.2.2.2.2.2.2.2.2.2 | exact hz8.2.2.2.2.2.2.2.2.2.2.2.2.2.2.1 | exact hz8.2.2.2.2.2.2.2.2.2.2.2.2.2.2 | exact hz8.2.2.2.2.2.2.2.2.2.2.2.2.2.2.2.1 | exact hz8.2.2.2.2.2.2.2.2.2.2.2.2.2.2.2)
  k_with "ne1" => first | (rename (_ ≠ _ ∧ _) => hz8; first | k_extra "ne3" | (clear hz8; k_extra "ne1")) | (rename ((_ ≠ _ ∧ _) ∧ _) => hz8; first | k_extra "ne3" | (clear hz8; k_extra "ne1"))
  k_with "ne2" => first | exact Ap.ne (by assumption) | exact (Ap.ne (by assumption)).symm | assumption | exact Ne.symm (by assumption) | exact Nat.ne_of_gt (by assumption) | exact Nat.ne_of_lt (by assumption) | (refine ne_gt (by assumption) ?_; k_extra "lt3") | (refine ne_lt (by assumption) ?_; k_extra "lt3") | k_extra "ne1"
  k_with "ne" => (refine neN ?_; (try dsimp only); first | k_extra "ne2" | omega)
  k_with "side" => first | with_reducible assumption | exact Int.le_of_lt (by with_reducible assumption) | exact (IntsAre.cons _ _ (IntsAre.cons _ _ (IntsAre.cons _ _ (IntsAre.cons _ _ (IntsAre.cons _ _ IntsAre.nil))))) | exact (IntsAre.cons _ _ (IntsAre.cons _ _ (IntsAre.cons _ _ (IntsAre.cons _ _ IntsAre.nil)))) | exact (IntsAre.cons _ _ (IntsAre.cons _ _ (IntsAre.cons _ _ (IntsAre.cons _ _ (IntsAre.cons _ _ (IntsAre.cons _ _ IntsAre.nil)))))) | exact (IntsAre.cons _ _ (IntsAre.cons _ _ (IntsAre.cons _ _ IntsAre.nil))) | (refine neN ?_; k_extra "ne2") | ((repeat (rename (_ ≠ _) => hz9; clear hz9)); (repeat (rename ((_ ≠ _) ∧ _) => hz9; clear hz9)); (repeat (rename ((_ ∧ _) ∧ _) => hz9; clear hz9)); omega) | omega | decide | exact rfl | exact Nat.le_of_ble_eq_true rfl | (simp only [DistA, neAll, and_true, true_and]; (repeat' apply And.intro) <;> first | assumption | (apply Ap.symm; assumption) | (apply Ap.mk; omega))
  k_with "uc" => ((case u1 => k_asm); (case u2 => k_asm); (case u3 => k_asm); (case u4 => k_asm); (case u5 => k_asm); (case u6 => first | exact rfl | assumption); (case u7 => repeat (first | exact Pick.nil | apply Pick.cons | exact Rem.head | apply Rem.tail)); (case u8 => first | exact trivial | (simp only [Apart, apartN, and_true, true_and]; done) | (simp only [Apart, apartN, and_true, true_and]; (repeat' apply And.intro) <;> first | exact Ap.ne (by assumption) | exact (Ap.ne (by assumption)).symm | k_extra "apart" | k_ne)); (case u9 => first | (refine' room1 ?rh ?re ?rk; (case rh => assumption); (case re => exact rfl); (case rk => exact Nat.le_of_ble_eq_true rfl)) | ktr_room); (case u10 => first | (refine' room1 ?rh ?re ?rk; (case rh => assumption); (case re => exact rfl); (case rk => exact Nat.le_of_ble_eq_true rfl)) | ktr_units))
  trivial

section
open PySem PySem.W PyProof.Rows PySem.Calls PySem.Spec


theorem mul_fm {x y p : Int} (hp : 0 < p) (hq : p < 18446744073709551616) : IntMulOk (Int.fmod x p) y :=
  IntMulOk.of_left (PySem.intBits_le_64 (by have := Int.fmod_nonneg_of_pos x hp; omega) (by have := Int.fmod_lt_of_pos x hp; omega))

set_option maxHeartbeats 8000000 in
theorem take_word (w : World) (src : Addr) (a b top : Int) (ta tb tt : Tok) (n : Nat) (h0a : 0 ≤ a) (h0b : 0 ≤ b) (hb : b < 2147483647) (ht : 0 < top) (ht2 : top < 65537) :
    Word w 205 [.ref src, .int top tt] [(src, PySem.W.listOf #[.int a ta, .int b tb] n)] 1 (fun h h' r own' => ∃ d t a' b' ta' tb' n', r = .int d t ∧ 0 ≤ d ∧ d < top ∧ own' = [(src, PySem.W.listOf #[.int a' ta', .int b' tb'] n')] ∧ 0 ≤ a' ∧ a' ≤ a ∧ 0 ≤ b' ∧ b' < 2147483647) := by
  unfold Word
  k_fill
  intro loose mean mg mb dp un gd cn cs ad ccd cl outer A₀ base h₀ L m s Q E B F X N T hk hd hu hret
  refine wpAny_call ?_
  (refine' enterO ?k1 ?k2 ?k3 ?k4 ?k5 ?kA ?kF ?kK ?k6 ?k7 ?k8 ?k9 ?kB ?_ ?c2 ?c3 ?c4 ?c5; (case kA => exact rfl); (case kF => exact rfl); (case kK => assumption); (case k1 => k_asm); (case k2 => k_asm); (case k3 => k_asm); (case k4 => k_asm); (case k5 => k_asm); (case k6 => k_is); (case k7 => k_is); (case k8 => ktr_room); (case k9 => exact BindsTo.of_eq rfl); (case c5 => decide); (case kB => exact locs rfl); (case c2 => exact rfl); (case c3 => exact rfl); (case c4 => exact rfl); k_whole)
  intro g' L' h' FG' F' N' B' X' T' l1 hko hkb hsz; (try k_lt l1); (try dsimp only); (try k_fold)
  k_with "binaryOp Mult int int" => (refine PyProof.Rows.mul_int ?_ (mul_fm (by decide) (by decide)))
  k_steps
  · rename Fr g' _ _ _ => F9
    refine hret _ _ _ _ (fun b o e n => F9.keep b o (hko b o e n)) (by assumption) ⟨_, _, a.fdiv top, b, _, _, _, rfl, Int.fmod_nonneg_of_pos _ ht, Int.fmod_lt_of_pos _ ht, rfl, ?_, ?_, h0b, hb⟩
    · exact Int.fdiv_nonneg h0a (by omega)
    · rw [Int.fdiv_eq_ediv_of_nonneg _ (by omega)]
      exact Int.ediv_le_self _ h0a
  · rename Fr g' _ _ _ => F9
    refine hret _ _ _ _ (fun b o e n => F9.keep b o (hko b o e n)) (by assumption) ⟨_, _, a, (b * 39373 + 7).fmod 2147483647, _, _, _, rfl, Int.fmod_nonneg_of_pos _ ht, Int.fmod_lt_of_pos _ ht, rfl, h0a, Int.le_refl _, Int.fmod_nonneg_of_pos _ (by decide), Int.fmod_lt_of_pos _ (by decide)⟩
theorem take_word_k {src : Addr} {a top : Int} (h h' : Heap) (R : Value → Led → Prop) (k : ∀ (d : Int) (t : Tok) (a' b' : Int) (ta' tb' : Tok) (n' : Nat), 0 ≤ d → d < top → 0 ≤ a' → a' ≤ a → 0 ≤ b' → b' < 2147483647 → R (.int d t) [(src, PySem.W.listOf #[.int a' ta', .int b' tb'] n')]) (r : Value) (own' : Led)
    (p : ∃ d t a' b' ta' tb' n', r = .int d t ∧ 0 ≤ d ∧ d < top ∧ own' = [(src, PySem.W.listOf #[.int a' ta', .int b' tb'] n')] ∧ 0 ≤ a' ∧ a' ≤ a ∧ 0 ≤ b' ∧ b' < 2147483647) : R r own' := by
  obtain ⟨d, t, a', b', ta', tb', n', rfl, h1, h2, rfl, h3, h4, h5, h6⟩ := p
  exact k d t a' b' ta' tb' n' h1 h2 h3 h4 h5 h6
end

section
open PySem PySem.W PyProof.Rows PySem.Calls PySem.Spec
theorem land8 (m n : Nat) (hn : n < 256) : (m * 256) &&& n = 0 := by
  apply Nat.eq_of_testBit_eq
  intro i
  rw [Nat.testBit_and, Nat.zero_testBit]
  by_cases h : i < 8
  · have : (m * 2 ^ 8).testBit i = false := by
      rw [Nat.testBit_mul_two_pow]
      simp; omega
    rw [show m * 256 = m * 2 ^ 8 from rfl, this]; rfl
  · have : n.testBit i = false := Nat.testBit_lt_two_pow (Nat.lt_of_lt_of_le hn (Nat.pow_le_pow_right (n := 2) (by decide) (show 8 ≤ i by omega)))
    rw [this, Bool.and_false]
theorem and8 {x y : Int} (hx : 0 ≤ x) (h0 : 0 ≤ y) (h1 : y < 256) : Builtin.bitAnd (x * 256) y = 0 := by
  obtain ⟨m, rfl⟩ := Int.eq_ofNat_of_zero_le hx
  obtain ⟨n, rfl⟩ := Int.eq_ofNat_of_zero_le h0
  unfold Builtin.bitAnd
  rw [decide_eq_true (show (0 : Int) ≤ (m : Int) * 256 by omega), decide_eq_true h0]
  show (((((m : Int) * 256).toNat) &&& ((n : Int).toNat) : Nat) : Int) = 0
  rw [show ((m : Int) * 256).toNat = m * 256 from by omega, Int.toNat_natCast, land8 m n (by omega)]
  rfl
theorem or8 {x y : Int} (hx : 0 ≤ x) (h0 : 0 ≤ y) (h1 : y < 256) : Builtin.bitOr (x * 2 ^ Int.toNat 8) y = x * 256 + y := by
  rw [show (2 : Int) ^ Int.toNat 8 = 256 from by decide, bitOr_and, and8 hx h0 h1]
  omega
theorem or8_int {prog : Program} {w : World} {A : Around} {E : Value → Shared → Prop} {s : Shared} {x y : Int} {t u : Tok} {Q : Value → Shared → Prop} (hx : 0 ≤ x) (h0 : 0 ≤ y) (h1 : y < 256) (h : Q (.int (x * 256 + y) s.toks) { s with toks := s.toks + 1 }) :
    wpAny (model prog w) A (binaryOp .BitOr (.int (x * 2 ^ Int.toNat 8) t) (.int y u)) Q E s :=
  or_int (by rw [or8 hx h0 h1]; exact h)
end

section
open PySem PySem.W PyProof.Rows PySem.Calls PySem.Spec


set_option maxHeartbeats 8000000 in
theorem one_word (w : World) (src th : Addr) (a b : Int) (ta tb : Tok) (n nt : Nat) (vs : List Value) (ns : List Int) (hi : IntsAre vs ns) (h0a : 0 ≤ a) (h0b : 0 ≤ b) (hb : b < 2147483647) (ht : 0 < ns.length) (ht2 : ns.length < 65537) (hne : @Ne Nat src th) :
    Word w 212 [.ref src, .ref th] [(src, PySem.W.listOf #[.int a ta, .int b tb] n), (th, PySem.W.listOf vs.toArray nt)] 2 (fun h h' r own' => ∃ d t a' b' ta' tb' n', r = .int d t ∧ d ∈ ns ∧ own' = [(src, PySem.W.listOf #[.int a' ta', .int b' tb'] n'), (th, PySem.W.listOf vs.toArray nt)] ∧ 0 ≤ a' ∧ a' ≤ a ∧ 0 ≤ b' ∧ b' < 2147483647) := by
  unfold Word
  have mk_one_word : Mk := ⟨⟩
  k_with "call ref" => (guard_hyp mk_one_word : Mk; (k_here; (with_reducible show wpAny _ _ (call (Value.ref 205) _) _ _ _); k_dflt ((refine' Word.useK (take_word _ _ _ _ _ _ _ _ _ ?v1 ?v2 ?v3 ?v4 ?v5) take_word_k ?u1 ?u2 ?u3 ?u4 ?u5 ?u6 ?u7 ?u8 ?u9 ?u10 ?_); k_extra "uc"; (case v1 => k_extra "side"); (case v2 => k_extra "side"); (case v3 => k_extra "side"); (case v4 => k_extra "side"); (case v5 => k_extra "side"); k_call_by "used" 0)))
  k_fill
  intro loose mean mg mb dp un gd cn cs ad ccd cl outer A₀ base h₀ L m s Q E B F X N T hk hdp hun hret
  refine wpAny_call ?_
  (refine' enterO (binds := [("source", .ref src), ("things", .ref th)]) ?k1 ?k2 ?k3 ?k4 ?k5 ?kA ?kF ?kK ?k6 ?k7 ?k8 ?k9 ?kB ?_ ?c2 ?c3 ?c4 ?c5; (case kA => exact rfl); (case kF => exact rfl); (case kK => assumption); (case k1 => k_asm); (case k2 => k_asm); (case k3 => k_asm); (case k4 => k_asm); (case k5 => k_asm); (case k6 => k_is); (case k7 => k_is); (case k8 => ktr_room); (case k9 => exact BindsTo.of_eq rfl); (case c5 => decide); (case kB => exact locs rfl); (case c2 => exact rfl); (case c3 => exact rfl); (case c4 => exact rfl); k_whole)
  intro g' L' h' FG' F' N' B' X' T' l1 hko hkb hsz; (try k_lt l1); (try dsimp only); (try k_fold)
  refine wpAny_noRaise ?_
  k_steps
  · rename Fr g' _ _ _ => F8
    rename News h₀ _ _ _ => N8
    refine hret _ _ _ _ (fun b o e n => F8.keep b o (hko b o e n)) N8 ⟨_, _, _, _, _, _, _, rfl, ?_, rfl, ?_, ?_, ?_, ?_⟩
    · rw [List.getD_eq_getElem?_getD, List.getElem?_eq_getElem (by omega)]
      exact List.getElem_mem _
    all_goals assumption
theorem one_word_k {src th : Addr} {a : Int} {nt : Nat} {vs : List Value} {ns : List Int} (h h' : Heap) (R₀ : Value → Led → Prop) (k₀ : ∀ d t a' b' ta' tb' n', (d ∈ ns) → (0 ≤ a') → (a' ≤ a) → (0 ≤ b') → (b' < 2147483647) → (R₀ (.int d t) [(src, PySem.W.listOf #[.int a' ta', .int b' tb'] n'), (th, PySem.W.listOf vs.toArray nt)])) (r : Value) (own' : Led) (p₀ : ∃ d t a' b' ta' tb' n', r = .int d t ∧ d ∈ ns ∧ own' = [(src, PySem.W.listOf #[.int a' ta', .int b' tb'] n'), (th, PySem.W.listOf vs.toArray nt)] ∧ 0 ≤ a' ∧ a' ≤ a ∧ 0 ≤ b' ∧ b' < 2147483647) : R₀ r own' := by
  obtain ⟨d, t, a', b', ta', tb', n', rfl, c0, rfl, c1, c2, c3, c4⟩ := p₀
  exact k₀ d t a' b' ta' tb' n' c0 c1 c2 c3 c4
end

section
open PySem PySem.W PyProof.Rows PySem.Calls PySem.Spec


theorem slice2 (ks : List Int) (i : Int) (h0 : 0 ≤ i) (h1 : i + 2 ≤ ks.length) : List.take (clipAt ks.length (i + 2) - clipAt ks.length i) (List.drop (clipAt ks.length i) ks) = [ks.getD i.toNat 0, ks.getD (i.toNat + 1) 0] := by
  obtain ⟨n, rfl⟩ := Int.eq_ofNat_of_zero_le h0
  have e1 : clipAt ks.length (n : Int) = n := by unfold clipAt; split <;> omega
  have e2 : clipAt ks.length ((n : Int) + 2) = n + 2 := by unfold clipAt; split <;> omega
  rw [e1, e2, show n + 2 - n = 2 from by omega, List.drop_eq_getElem_cons (by omega), List.drop_eq_getElem_cons (by omega)]
  simp only [List.take_succ_cons, List.take_zero, Int.toNat_natCast]
  rw [List.getD_eq_getElem?_getD, List.getElem?_eq_getElem (by omega), List.getD_eq_getElem?_getD, List.getElem?_eq_getElem (by omega)]
  rfl

set_option maxHeartbeats 8000000 in
theorem get16_word (w : World) (b : Array UInt8) (tb ta : Tok) (at_ : Int) (ks : List Int) (hks : KBw.bInts b = ks) (h0 : 0 ≤ at_) (h1 : at_ + 2 ≤ ks.length) (h2 : ks.length ≤ 1000) :
    Word w 84 [.bytes b tb, .int at_ ta] [] 2 (fun h h' r own' => ∃ d t, r = .int d t ∧ own' = [] ∧ d = ks.getD at_.toNat 0 * 256 + ks.getD (at_.toNat + 1) 0) := by
  unfold Word
  have mk_get16_word : Mk := ⟨⟩
  k_with "exec For Name Subscript cons nil" => (guard_hyp mk_get16_word : Mk; (k_here; (with_unfolding_all refine' For_invVF ‹Fr _ _ _ _› ?z9k1 ?z9k2 ?_; (case z9k1 => exact rfl); (case z9k2 => exact rfl); k_whole)))
  k_with "binaryOp BitOr int int" => (guard_hyp mk_get16_word : Mk; (k_here; k_dflt (refine or8_int ?z9x ?z9y ?z9z ?_; (case z9x => omega); (case z9y => omega); (case z9z => omega))))
  k_fill
  intro loose mean mg mb dp un gd cn cs ad ccd cl outer A₀ base h₀ L m s Q E B F X N T hk hdp hun hret
  refine wpAny_call ?_
  (refine' enterO (binds := [("octets", .bytes b tb), ("at", .int at_ ta)]) ?k1 ?k2 ?k3 ?k4 ?k5 ?kA ?kF ?kK ?k6 ?k7 ?k8 ?k9 ?kB ?_ ?c2 ?c3 ?c4 ?c5; (case kA => exact rfl); (case kF => exact rfl); (case kK => assumption); (case k1 => k_asm); (case k2 => k_asm); (case k3 => k_asm); (case k4 => k_asm); (case k5 => k_asm); (case k6 => k_is); (case k7 => k_is); (case k8 => ktr_room); (case k9 => exact BindsTo.of_eq rfl); (case c5 => decide); (case kB => exact locs rfl); (case c2 => exact rfl); (case c3 => exact rfl); (case c4 => exact rfl); k_whole)
  intro g' L' h' FG' F' N' B' X' T' l1 hko hkb hsz; (try k_lt l1); (try dsimp only); (try k_fold)
  repeat' (first | ((fail_if_success (with_reducible show wpAny _ _ (pyIter (Value.bytes _ _)) _ _ _)); first | (k_unfold; (try dsimp only)) | (k_end; kc_close) | walk1 | (dsimp only; walk1) | (leave1; walk_say "STEP leave1"; (try dsimp only)) | fail "no step") | fail "no step")
  (rename Fr _ _ _ _ => lF'); (rename News _ _ _ _ => lN'); (rename KBw.bInts _ = _ => lK')
  (with_unfolding_all refine iter_bytesUnr (l := [ks.getD at_.toNat 0, ks.getD (at_.toNat + 1) 0]) (by rfl) lF' lN' (lK'.trans (slice2 ks at_ h0 h1)) ?_); clear lF' lN'; intro i' l1; (try k_lt l1)
  k_steps
  · rename Fr g' _ _ _ => F8
    rename News h₀ _ _ _ => N8
    refine hret _ _ _ _ (fun b o e n => F8.keep b o (hko b o e n)) N8 ⟨_, _, rfl, rfl, ?_⟩
    omega

theorem get16_v (w : World) (b : Array UInt8) (tb ta : Tok) (at_ : Int) (ks : List Int) (v : Int) (hks : KBw.bInts b = ks) (h0 : 0 ≤ at_) (h1 : at_ + 2 ≤ ks.length) (h2 : ks.length ≤ 1000) (hv : ks.getD at_.toNat 0 * 256 + ks.getD (at_.toNat + 1) 0 = v) :
    Word w 84 [.bytes b tb, .int at_ ta] [] 2 (fun h h' r own' => ∃ t, r = .int v t ∧ own' = []) := by
  intro loose mean mg mb dp un gd cn cs ad ccd cl outer A₀ base h₀ L m s Q E B F X N T hk hdp hun hret
  refine get16_word w b tb ta at_ ks hks h0 h1 h2 _ _ _ _ _ _ _ _ _ _ _ _ _ _ _ _ _ _ _ _ _ B F X N T hk hdp hun fun r own' h' tk' k1 k2 k3 => hret r own' h' tk' k1 k2 ?_
  obtain ⟨d, t, e1, e2, e3⟩ := k3
  exact ⟨t, by rw [e1, e3, hv], e2⟩
theorem get16_v_k {v : Int} (h h' : Heap) (R₀ : Value → Led → Prop) (k₀ : ∀ t, (R₀ (.int v t) [])) (r : Value) (own' : Led) (p₀ : ∃ t, r = .int v t ∧ own' = []) : R₀ r own' := by
  obtain ⟨t, rfl, rfl⟩ := p₀
  exact k₀ t
end

section
open PySem PySem.W PyProof.Rows PySem.Calls PySem.Spec PyProof.Rows.LCg
section
variable {prog : Program} {w : World} {A : Around} {E : Value → Shared → Prop} {s : Shared} {h₀ : Heap} {L : Addr} {m : Str → Option Value} {env : Env}

/-- the source of a comprehension: a range of any step -/
def SrcD (prog : Program) (w : World) (A : Around) (h₀ : Heap) (L : Addr) (m : Str → Option Value) (env : Env) (elt : Expr) (x : Str) (scope : Scope) (cl : List (Str × Addr)) (Fin : Shared → List Value → Led → Prop) (xv : Value) (s₁ : Shared) : Prop :=
  ∃ r a b c t u v n news, xv = .ref r ∧ A.handled = none ∧ Fr h₀ L s₁.heap m ∧ News h₀ L s₁.heap news ∧ IsRange s₁.heap r a b c t u v ∧ Builtin.Range.small a b c = true ∧ Builtin.Range.rangeSize a b c = ((n : Nat) : Int) ∧ n ≤ sizeLine ∧
    ∀ s₂ : Shared, (∃ h, s₂ = { s₁ with heap := h }) → CompRest prog w A h₀ L m env elt x scope cl s₂ (fun _ => True) (fun i v => i < n ∧ ∃ t, v = .int (a + (i : Int) * c) t) (Fin s₂) n 0 [] news

theorem rangeD_st {I : Addr} {a c : Int} {n : Nat} : ∀ i (h h' : Heap) (o : Obj) (nw : Led), IsRangeIter h I (a + (i : Nat) * c) ((n : Int) - (i : Nat)) c → h.get? I = some o → h'.get? I = some o → (∀ b o, h₀.get? b = some o → h'.get? b = some o) → News h₀ L h' nw → True → IsRangeIter h' I (a + (i : Nat) * c) ((n : Int) - (i : Nat)) c :=
  fun i h h' o nw st e e' _ _ _ => by
    have st' : h.get? I = some _ := st
    show h'.get? I = some _
    rw [e', ← e]; exact st'

theorem ListComp_D {elt iter : Expr} {x : Str} {px : Pos} {scope : Scope} {cl : List (Str × Addr)} {pos : Pos} {Q : Value → Shared → Prop} (F₀ : Fr h₀ L s.heap m)
    (hclos : closureFor scope env = pure cl) (hcell : ∀ y ∈ scope.names, y.2 ≠ .cell) (hkind : scope.kind = .function)
    (hnames : ∀ y ∈ scope.names, y.2 = .local → scope.names.lookup y.1 = some .local) (hx : scope.names.lookup x = some .local)
    (h : wpAny (model prog w) A (eval iter env) (SrcD prog w A h₀ L m env elt x scope cl (fun s₂ => FinE h₀ L m s₂ Q)) E s)
    (hs : ∀ x, foldedSetIterable iter env x = pure x := by intro _; rfl) :
    wpAny (model prog w) A (eval (.ListComp elt [⟨.Name x px, iter, [], 0⟩] scope pos) env) Q E s := by
  rw [eval_ListComp]
  refine wpAny_comprehension_free (use := none) rfl hs hclos hkind hnames (wpAny_mono h (fun xv s₁ h₁ => ?_) fun _ _ e => e)
  obtain ⟨r, a, b, c, t, u, v, n, news, rfl, hh, F, N, hr, hsm, hn, hsz, R⟩ := h₁
  refine wpAny_pyIter_range hr hsm ?_
  refine block_U (Walks.range hh s₁.heap.objs.size a c n).bound hsz (fun i h st => ⟨_, st⟩) rangeD_st hcell hkind hx (by show IsRangeIter _ _ _ _ _; rw [hn]; simpa using Heap.get?_push_size _ rfl) (fun b hb => ?_)
    (F.keeps fun _ _ e => Heap.get?_push_of_some _ e) (N.grown fun _ _ e => Heap.get?_push_of_some _ e) (Nat.ne_of_lt F.ns.lt) (next_is_new F) (fun p hp => Nat.ne_of_lt (Heap.lt_size (N p hp).1)) trivial (R _ ⟨_, rfl⟩) ?_
  · rw [List.mem_singleton.mp hb]
    show s₁.heap.objs.size < (s₁.heap.push _).objs.size
    rw [Heap.size_push]; exact Nat.lt_succ_self _
  · intro D C h tk m' ys news' F' N' o1 hn hC₀ hD₀ hCL hDL hCD offC fin
    refine ⟨m', hn, fun h'' hs'' => fin D h'' tk (F'.change hs'' hCL hC₀) (fun p hp => ?_) o1⟩
    refine ⟨hs''.extBut _ _ ?_ (N' p hp).1, (N' p hp).2⟩
    rcases List.mem_cons.mp hp with rfl | hp
    · exact Ne.symm hCD
    · exact offC p hp
theorem SrcD.intro {elt : Expr} {x : Str} {scope : Scope} {cl : List (Str × Addr)} {Fin : Shared → List Value → Led → Prop} {r : Addr} {a b c : Int} {t u v : Tok} {n : Nat} {news : Led} {s₁ : Shared}
    (hh : A.handled = none) (F : Fr h₀ L s₁.heap m) (N : News h₀ L s₁.heap news) (hr : IsRange s₁.heap r a b c t u v) (hsm : Builtin.Range.small a b c = true) (hn : Builtin.Range.rangeSize a b c = ((n : Nat) : Int)) (hsz : n ≤ sizeLine)
    (h : ∀ g, CompRest prog w A h₀ L m env elt x scope cl { s₁ with heap := g } (fun _ => True) (fun i v => i < n ∧ ∃ t, v = .int (a + (i : Int) * c) t) (Fin { s₁ with heap := g }) n 0 [] news) :
    SrcD prog w A h₀ L m env elt x scope cl Fin (.ref r) s₁ := ⟨r, a, b, c, t, u, v, n, news, rfl, hh, F, N, hr, hsm, hn, hsz, fun _ ⟨g, e⟩ => e ▸ h g⟩
/-- a comprehension's turns by a word that holds between them -/
theorem compRest_ind {elt : Expr} {x : Str} {scope : Scope} {cl : List (Str × Addr)} {s : Shared} {S : Led → Prop} {P : Nat → Value → Prop} {Fin : List Value → Led → Prop} {news : Led} (J : Nat → List Value → Prop) (n : Nat)
    (step : ∀ k i ys, i + (k + 1) = n → J i ys → (∀ ys', J (i + 1) ys' → CompRest prog w A h₀ L m env elt x scope cl s S P Fin k (i + 1) ys' news) → CompRest prog w A h₀ L m env elt x scope cl s S P Fin (k + 1) i ys news)
    (done : ∀ ys, J n ys → Fin ys news) : ∀ k i ys, i + k = n → J i ys → CompRest prog w A h₀ L m env elt x scope cl s S P Fin k i ys news
  | 0, i, ys, e, hJ => by
    have e' : i = n := e
    subst e'
    exact done ys hJ
  | k + 1, i, ys, e, hJ => step k i ys e hJ fun ys' hJ' => compRest_ind J n step done k (i + 1) ys' (by omega) hJ'
/-- the same, where a turn changes the ledger -/
theorem compRest_indL {elt : Expr} {x : Str} {scope : Scope} {cl : List (Str × Addr)} {s : Shared} {S : Led → Prop} {P : Nat → Value → Prop} {Fin : List Value → Led → Prop} (J : Nat → List Value → Led → Prop) (n : Nat)
    (step : ∀ k i ys news, i + (k + 1) = n → J i ys news → (∀ ys' news', J (i + 1) ys' news' → CompRest prog w A h₀ L m env elt x scope cl s S P Fin k (i + 1) ys' news') → CompRest prog w A h₀ L m env elt x scope cl s S P Fin (k + 1) i ys news)
    (done : ∀ ys news, J n ys news → Fin ys news) : ∀ k i ys news, i + k = n → J i ys news → CompRest prog w A h₀ L m env elt x scope cl s S P Fin k i ys news
  | 0, i, ys, news, e, hJ => by
    have e' : i = n := e
    subst e'
    exact done ys news hJ
  | k + 1, i, ys, news, e, hJ => step k i ys news e hJ fun ys' news' hJ' => compRest_indL J n step done k (i + 1) ys' news' (by omega) hJ'
/-- the same, its state told by one letter -/
theorem compRest_indP {α : Type} {elt : Expr} {x : Str} {scope : Scope} {cl : List (Str × Addr)} {s : Shared} {S : Led → Prop} {P : Nat → Value → Prop} {Fin : List Value → Led → Prop} (yf : α → List Value) (nf : α → Led) (J : Nat → α → Prop) (n : Nat)
    (step : ∀ k i a, i + (k + 1) = n → J i a → (∀ a', J (i + 1) a' → CompRest prog w A h₀ L m env elt x scope cl s S P Fin k (i + 1) (yf a') (nf a')) → CompRest prog w A h₀ L m env elt x scope cl s S P Fin (k + 1) i (yf a) (nf a))
    (done : ∀ a, J n a → Fin (yf a) (nf a)) : ∀ k i a, i + k = n → J i a → CompRest prog w A h₀ L m env elt x scope cl s S P Fin k i (yf a) (nf a)
  | 0, i, a, e, hJ => by
    have e' : i = n := e
    subst e'
    exact done a hJ
  | k + 1, i, a, e, hJ => step k i a e hJ fun a' hJ' => compRest_indP yf nf J n step done k (i + 1) a' (by omega) hJ'
end
section
variable {prog : Program} {w : World} {A : Around} {E : Value → Shared → Prop} {s : Shared} {env : Env} {h₀ : Heap} {x : Str} {body : List Stmt} {Q : Flow → Shared → Prop}
/-- a written range's turns by a word that holds between them -/
theorem rangeRest_ind {I : Addr} {a : Int} {N : Nat} (J : Nat → (Str → Option Value) → Led → Prop) (n : Nat)
    (step : ∀ k i m news, i + (k + 1) = n → J i m news → (∀ m' news', J (i + 1) m' news' → RangeRest prog w A E h₀ env x body Q s I a N k (i + 1) m' news') → RangeRest prog w A E h₀ env x body Q s I a N (k + 1) i m news)
    (done : ∀ m news, J n m news → ∀ h tk, Fr h₀ env.locals h m → News h₀ env.locals h news → Q .next { s with heap := h, toks := tk }) : ∀ k i m news, i + k = n → J i m news → RangeRest prog w A E h₀ env x body Q s I a N k i m news
  | 0, i, m, news, e, hJ => by
    have e' : i = n := e
    subst e'
    exact RangeRest.zero (done m news hJ)
  | k + 1, i, m, news, e, hJ => step k i m news e hJ fun m' news' hJ' => rangeRest_ind J n step done k (i + 1) m' news' (by omega) hJ'
theorem rangeRest_indP {α : Type} {I : Addr} {a : Int} {N : Nat} (mf : α → Str → Option Value) (nf : α → Led) (J : Nat → α → Prop) (n : Nat)
    (step : ∀ k i p, i + (k + 1) = n → J i p → (∀ p', J (i + 1) p' → RangeRest prog w A E h₀ env x body Q s I a N k (i + 1) (mf p') (nf p')) → RangeRest prog w A E h₀ env x body Q s I a N (k + 1) i (mf p) (nf p))
    (done : ∀ p, J n p → ∀ h tk, Fr h₀ env.locals h (mf p) → News h₀ env.locals h (nf p) → Q .next { s with heap := h, toks := tk }) :
    ∀ k i p, i + k = n → J i p → RangeRest prog w A E h₀ env x body Q s I a N k i (mf p) (nf p)
  | 0, i, p, e, hJ => by
    have e' : i = n := e
    subst e'
    exact RangeRest.zero (done p hJ)
  | k + 1, i, p, e, hJ => step k i p e hJ fun p' hJ' => rangeRest_indP mf nf J n step done k (i + 1) p' (by omega) hJ'
/-- the same, its state told by four letters -/
theorem rangeRest_ind4 {α β γ δ : Type} {I : Addr} {a : Int} {N : Nat} (mf : α → β → γ → δ → Str → Option Value) (nf : α → β → γ → δ → Led) (J : Nat → α → β → γ → δ → Prop) (n : Nat)
    (step : ∀ k i a₁ b₁ c₁ d₁, i + (k + 1) = n → J i a₁ b₁ c₁ d₁ → (∀ a₂ b₂ c₂ d₂, J (i + 1) a₂ b₂ c₂ d₂ → RangeRest prog w A E h₀ env x body Q s I a N k (i + 1) (mf a₂ b₂ c₂ d₂) (nf a₂ b₂ c₂ d₂)) → RangeRest prog w A E h₀ env x body Q s I a N (k + 1) i (mf a₁ b₁ c₁ d₁) (nf a₁ b₁ c₁ d₁))
    (done : ∀ a₁ b₁ c₁ d₁, J n a₁ b₁ c₁ d₁ → ∀ h tk, Fr h₀ env.locals h (mf a₁ b₁ c₁ d₁) → News h₀ env.locals h (nf a₁ b₁ c₁ d₁) → Q .next { s with heap := h, toks := tk }) :
    ∀ k i a₁ b₁ c₁ d₁, i + k = n → J i a₁ b₁ c₁ d₁ → RangeRest prog w A E h₀ env x body Q s I a N k i (mf a₁ b₁ c₁ d₁) (nf a₁ b₁ c₁ d₁)
  | 0, i, a₁, b₁, c₁, d₁, e, hJ => by
    have e' : i = n := e
    subst e'
    exact RangeRest.zero (done a₁ b₁ c₁ d₁ hJ)
  | k + 1, i, a₁, b₁, c₁, d₁, e, hJ => step k i a₁ b₁ c₁ d₁ e hJ fun a₂ b₂ c₂ d₂ hJ' => rangeRest_ind4 mf nf J n step done k (i + 1) a₂ b₂ c₂ d₂ (by omega) hJ'
theorem rangeRest_drop {I : Addr} {a : Int} {N : Nat} : ∀ k i m (news news' : Led), (∀ p ∈ news', p ∈ news) → RangeRest prog w A E h₀ env x body Q s I a N k i m news' → RangeRest prog w A E h₀ env x body Q s I a N k i m news
  | 0, i, m, news, news', hs, R => RangeRest.zero fun h tk F Nw => R h tk F fun p hp => Nw p (hs p hp)
  | k + 1, i, m, news, news', hs, R => RangeRest.succ fun t h tk F Nw => R t h tk F fun p hp => Nw p (by
      rcases List.mem_cons.mp hp with e | hp
      · rw [e]; exact .head _
      · exact .tail _ (hs p hp))
theorem put_over (x : Str) (a b : Option Value) (m : Str → Option Value) : (fun y => if y = x then a else if y = x then b else m y) = fun y => if y = x then a else m y := by
  funext y; split <;> rfl
end
end

section
open PySem PySem.W PyProof.Rows PySem.Calls PySem.Spec
open PyProof.Rows.LCg

local macro_rules | `(tactic| walk_at "CompRest") => `(tactic| (with_unfolding_all (refine CompRest.succ ?_; intro v' I' oI' C' oC' D' m' h' tk' E' hv' hC' hx' F' N' off' ne'; (obtain ⟨i9', t9', hv9'⟩ := hv'; subst hv9'); (try simp only [LCg.Off3, and_true] at off'))))

theorem and255 (a : Int) : Builtin.bitAnd a 255 = a % 256 := kbt_mask a 8
theorem in2 (a b : Int) : KBa.In [Builtin.bitAnd a 255, Builtin.bitAnd b 255] := by
  intro n hn
  rcases List.mem_cons.mp hn with e | hn
  · rw [e, and255]; omega
  · rcases List.mem_cons.mp hn with e | hn
    · rw [e, and255]; omega
    · cases hn

set_option maxHeartbeats 8000000 in
theorem put16_word (w : World) (x : Int) (tx : Tok) (h0 : 0 ≤ x) (h1 : x < 65536) :
    Word w 77 [.int x tx] [] 2 (fun h h' r own' => ∃ b t, r = .bytes b t ∧ own' = [] ∧ KBw.bInts b = [x / 256, x % 256]) := by
  unfold Word
  have mk_put16_word : Mk := ⟨⟩
  k_with "eval ListComp" => (guard_hyp mk_put16_word : Mk; (k_here; (with_reducible show wpAny _ _ (eval (Expr.ListComp _ [⟨_, Expr.Call _ [_, _, _] _ _, [], 0⟩] _ _) _) _ _ _); k_dflt (refine ListComp_D (F₀ := by k_asm) (by rfl) (by decide) (by rfl) (by decide) (by rfl) ?_)))
  k_with "SrcD" => (guard_hyp mk_put16_word : Mk; (k_here; k_dflt (refine SrcD.intro (by rfl) (by k_asm) (by k_asm) (by assumption) (by first | decide | rfl) (n := 2) (by first | rfl | decide) (by first | size_fits | exact Nat.le_of_ble_eq_true rfl) ?_; intro _)))
  k_with "call type:bytes" => (guard_hyp mk_put16_word : Mk; (k_here; (with_reducible show wpAny _ _ (call (Value.type "bytes") [Value.ref _]) _ _ _); k_dflt (refine' KBa.make_K ?z9kbaF ?z9kbaN ?z9kbah ?z9kbal ?z9kbai ?z9kbar ?z9kban ?_; (case z9kbaF => k_asm); (case z9kbaN => k_asm); (case z9kbah => rfl); (case z9kbal => kba_isList); (case z9kbai => kba_listInts); (case z9kbar => exact in2 _ _); (case z9kban => kba_size)); intro _ _ _ _ _ _))
  k_fill
  intro loose mean mg mb dp un gd cn cs ad ccd cl outer A₀ base h₀ L m s Q E B F X N T hk hdp hun hret
  refine wpAny_call ?_
  (refine' enterO (binds := [("number", .int x tx)]) ?k1 ?k2 ?k3 ?k4 ?k5 ?kA ?kF ?kK ?k6 ?k7 ?k8 ?k9 ?kB ?_ ?c2 ?c3 ?c4 ?c5; (case kA => exact rfl); (case kF => exact rfl); (case kK => assumption); (case k1 => k_asm); (case k2 => k_asm); (case k3 => k_asm); (case k4 => k_asm); (case k5 => k_asm); (case k6 => k_is); (case k7 => k_is); (case k8 => ktr_room); (case k9 => exact BindsTo.of_eq rfl); (case c5 => decide); (case kB => exact locs rfl); (case c2 => exact rfl); (case c3 => exact rfl); (case c4 => exact rfl); k_whole)
  intro g' L' h' FG' F' N' B' X' T' l1 hko hkb hsz; (try k_lt l1); (try dsimp only); (try k_fold)
  have hp16 : (1 : Int) * 2 ^ Int.toNat (8 * 2) = 65536 := by decide
  k_steps
  · rename Fr g' _ _ _ => F8
    rename News h₀ _ _ _ => N8
    refine hret _ _ _ _ (fun b o e n => F8.keep b o (hko b o e n)) News.nil ⟨_, _, rfl, rfl, ?_⟩
    rw [KBa.ints_make (in2 _ _), and255, and255]
    have e1 : x.fdiv (2 ^ Int.toNat (8 * (2 - 1 + ((0 : Nat) : Int) * -1))) = x / 256 := by
      rw [show (2 : Int) ^ Int.toNat (8 * (2 - 1 + ((0 : Nat) : Int) * -1)) = 256 from by decide]
      exact Int.fdiv_eq_ediv_of_nonneg _ (by decide)
    have e2 : x.fdiv (2 ^ Int.toNat (8 * (2 - 1 + ((0 + 1 : Nat) : Int) * -1))) = x := by
      rw [show (2 : Int) ^ Int.toNat (8 * (2 - 1 + ((0 + 1 : Nat) : Int) * -1)) = 1 from by decide]
      exact Int.fdiv_one _
    rw [e1, e2, Int.emod_eq_of_lt (by omega) (by omega)]
theorem put16_word_k {x : Int} (h h' : Heap) (R₀ : Value → Led → Prop) (k₀ : ∀ b t, (KBw.bInts b = [x / 256, x % 256]) → (R₀ (.bytes b t) [])) (r : Value) (own' : Led) (p₀ : ∃ b t, r = .bytes b t ∧ own' = [] ∧ KBw.bInts b = [x / 256, x % 256]) : R₀ r own' := by
  obtain ⟨b, t, rfl, rfl, c0⟩ := p₀
  exact k₀ b t c0
end

section
open PySem PySem.W PyProof.Rows PySem.Calls PySem.Spec


/-- what the octets of a frame tell -/
def unp8 (ks : List Int) : List (Option Int) := (List.range 8).map fun i => if (ks.getD 3 0 / 2 ^ i) % 2 = 1 then some (ks.getD (4 + 2 * i) 0 * 256 + ks.getD (5 + 2 * i) 0) else none

set_option maxHeartbeats 8000000 in
theorem unp1_word (w : World) (b : Array UInt8) (tb : Tok) (ks : List Int) (hks : KBw.bInts b = ks) (h1 : 4 ≤ ks.length) (h2 : ks.length ≤ 1000) (c0 : ks.getD 0 0 = 0) (c1 : ks.getD 1 0 = 1) :
    Word w 115 [.bytes b tb] [] 6 (fun h h' r own' => ∃ p dp T tt vs n, r = .ref p ∧ own' = [(p, instObj 101 dp), (dp, pfD w T tt), (T, tupO vs n)] ∧ TVs [some (ks.getD 2 0 * 256 + ks.getD 3 0)] vs ∧ h.get? p = none ∧ h.get? dp = none ∧ h.get? T = none) := by
  unfold Word
  have mk_unp1_word : Mk := ⟨⟩
  k_with "call ref" => (guard_hyp mk_unp1_word : Mk; (k_here; (with_reducible show wpAny _ _ (call (Value.ref 84) _) _ _ _); k_dflt ((refine' Word.useK (get16_v _ _ _ _ _ _ _ ?v1 ?v2 ?v3 ?v4 ?v5) get16_v_k ?u1 ?u2 ?u3 ?u4 ?u5 ?u6 ?u7 ?u8 ?u9 ?u10 ?_); k_extra "uc"; (case v1 => k_extra "side"); (case v2 => k_extra "side"); (case v3 => k_extra "side"); (case v4 => k_extra "side"); (case v5 => k_extra "side"); k_call_by "used" 0)))
  k_fill
  intro loose mean mg mb dp un gd cn cs ad ccd cl outer A₀ base h₀ L m s Q E B F X N T hk hdp hun hret
  refine wpAny_call ?_
  (refine' enterC (binds := [("payload", .bytes b tb)]) ?k1 ?k2 ?k3 ?k4 ?k5 ?kA ?kF ?kK ?k6 ?k7 ?k8 ?k9 ?kB ?kD ?_ ?c2 ?c3 ?c4; (case kA => exact rfl); (case kF => exact rfl); (case kK => assumption); (case k1 => k_asm); (case k2 => k_asm); (case k3 => k_asm); (case k4 => k_asm); (case k5 => k_asm); (case k6 => k_is); (case k7 => k_is); (case k8 => ktr_room); (case k9 => exact BindsTo.of_eq rfl); (case kB => exact rfl); (case kD => decide +kernel); (case c2 => exact rfl); (case c3 => exact rfl); (case c4 => exact rfl); k_whole)
  intro g' L' h' tk' cells' FG' F' N' Y' B' X' T' l1 hko hkb hsz; (try k_lt l1); k_cells Y'; (try simp only [List.cons_append, List.nil_append] at N'); (try dsimp only); (try k_fold)
  have hv0 : ks.getD (Int.toNat 0) 0 * 256 + ks.getD (Int.toNat 0 + 1) 0 = 1 := by rw [show ks.getD (Int.toNat 0) 0 = 0 from c0, show ks.getD (Int.toNat 0 + 1) 0 = 1 from c1]; decide
  k_steps
  · rename Fr g' _ _ _ => F8
    rename News h₀ _ _ _ => N8
    rename News g' _ _ _ => G8
    have fr : ∀ p o, _ → s.heap.get? p = none := fun p o (hm : (p, o) ∈ _) => fresh_of (own := []) hko (G8 (p, o) hm).2.2 (fun q => nomatch q)
    refine hret _ _ _ _ (fun b o e n => F8.keep b o (hko b o e n)) (take3 N8) ⟨_, _, _, _, _, _, rfl, rfl, ⟨_, _, rfl, ⟨_, rfl⟩, rfl⟩, ?_, ?_, ?_⟩
    · exact fr _ _ (by k_mem)
    · exact fr _ _ (by k_mem)
    · exact fr _ _ (by k_mem)
end

section
open PySem PySem.W PyProof.Rows PySem.Calls PySem.Spec PyProof.Rows.LCg

theorem unp8_snoc (ks : List Int) (i : Nat) (hi : i < 8) : (unp8 ks).take (i + 1) = (unp8 ks).take i ++ [if (ks.getD 3 0 / 2 ^ i) % 2 = 1 then some (ks.getD (4 + 2 * i) 0 * 256 + ks.getD (5 + 2 * i) 0) else none] := by
  unfold unp8
  rw [List.take_add_one, List.getElem?_map, List.getElem?_range hi]
  rfl
theorem unp8_length (ks : List Int) : (unp8 ks).length = 8 := by unfold unp8; rw [List.length_map, List.length_range]
theorem pow01 (i : Nat) : (0 + (i : Int) * 1).toNat = i := by rw [Int.mul_one, Int.zero_add, Int.toNat_natCast]
theorem bitOf (mask : Int) (i : Nat) : Builtin.bitAnd (mask.fdiv (2 ^ (0 + (i : Int) * 1).toNat)) 1 = (mask / 2 ^ i) % 2 := by
  rw [pow01, bitAnd_m1, Int.fdiv_eq_ediv_of_nonneg _ (Int.le_of_lt (kbt_pos i))]
theorem nat4 (i : Nat) : (4 + 2 * (0 + (0 + (i : Int) * 1))).toNat = 4 + 2 * i := by omega
set_option maxHeartbeats 8000000 in
theorem unp8_word (w : World) (b : Array UInt8) (tb : Tok) (ks : List Int) (mask : Int) (hks : KBw.bInts b = ks) (h1 : 20 ≤ ks.length) (h2 : ks.length ≤ 1000) (c0 : ks.getD 0 0 = 1) (c1 : ks.getD 1 0 = 1) (c2 : ks.getD 2 0 = 0) (c3 : ks.getD 3 0 = mask) (hm0 : 0 ≤ mask) (hm1 : mask ≤ 255) :
    Word w 115 [.bytes b tb] [] 6 (fun h h' r own' => ∃ p dp T tt vs n, r = .ref p ∧ own' = [(p, instObj 101 dp), (dp, pfD w T tt), (T, tupO vs n)] ∧ TVs (unp8 ks) vs ∧ h.get? p = none ∧ h.get? dp = none ∧ h.get? T = none) := by
  unfold Word
  have mk_unp8_word : Mk := ⟨⟩
  k_with "call ref" => (guard_hyp mk_unp8_word : Mk; (k_here; (with_reducible show wpAny _ _ (call (Value.ref 84) _) _ _ _); k_dflt ((refine' Word.useK (get16_v _ _ _ _ _ _ _ ?v1 ?v2 ?v3 ?v4 ?v5) get16_v_k ?u1 ?u2 ?u3 ?u4 ?u5 ?u6 ?u7 ?u8 ?u9 ?u10 ?_); k_extra "uc"; (case v1 => k_extra "side"); (case v2 => k_extra "side"); (case v3 => k_extra "side"); (case v4 => k_extra "side"); (case v5 => k_extra "side"); k_call_by "used" 0)))
  k_with "call type:tuple" => (guard_hyp mk_unp8_word : Mk; (k_here; (with_reducible show wpAny _ _ (call (Value.type _) [Value.ref _]) _ _ _); k_dflt (refine' kde_tupleOf ?z9k1 ?z9k2 ?z9k3 ?z9k4 ?z9k5 ?_; (case z9k1 => k_asm); (case z9k2 => k_asm); (case z9k3 => exact News.isList (by k_asm) (by k_mem)); (case z9k4 => (simp only [List.size_toArray]; omega)); (case z9k5 => rfl); k_whole); intro _ _ _ _ l1; (try k_lt l1); (try k_sweep); (revert l1; intro _)))
  k_with "eval ListComp" => (guard_hyp mk_unp8_word : Mk; (k_here; (with_reducible show wpAny _ _ (eval (Expr.ListComp (Expr.IfExp _ _ _ _) _ _ _) _) _ _ _); k_dflt (refine ListComp_D (F₀ := by k_asm) (by rfl) (by decide) (by rfl) (by decide) (by rfl) ?_)))
  k_with "SrcD" => (guard_hyp mk_unp8_word : Mk; (k_here; k_dflt (refine SrcD.intro (by rfl) (by k_asm) (by k_asm) (by assumption) (by first | decide | rfl) (n := 8) (by first | rfl | decide) (by first | size_fits | exact Nat.le_of_ble_eq_true rfl) ?_; intro _)))
  k_fill
  intro loose mean mg mb dp un gd cn cs ad ccd cl outer A₀ base h₀ L m s Q E B F X N T hk hdp hun hret
  refine wpAny_call ?_
  (refine' enterC (binds := [("payload", .bytes b tb)]) ?k1 ?k2 ?k3 ?k4 ?k5 ?kA ?kF ?kK ?k6 ?k7 ?k8 ?k9 ?kB ?kD ?_ ?c2 ?c3 ?c4; (case kA => exact rfl); (case kF => exact rfl); (case kK => assumption); (case k1 => k_asm); (case k2 => k_asm); (case k3 => k_asm); (case k4 => k_asm); (case k5 => k_asm); (case k6 => k_is); (case k7 => k_is); (case k8 => ktr_room); (case k9 => exact BindsTo.of_eq rfl); (case kB => exact rfl); (case kD => decide +kernel); (case c2 => exact rfl); (case c3 => exact rfl); (case c4 => exact rfl); k_whole)
  intro g' L' h' tk' cells' FG' F' N' Y' B' X' T' l1 hko hkb hsz; (try k_lt l1); k_cells Y'; (try simp only [List.cons_append, List.nil_append] at N'); (try dsimp only); (try k_fold)
  have hv0 : ks.getD (Int.toNat 0) 0 * 256 + ks.getD (Int.toNat 0 + 1) 0 = 257 := by rw [show ks.getD (Int.toNat 0) 0 = 1 from c0, show ks.getD (Int.toNat 0 + 1) 0 = 1 from c1]; decide
  have hv2 : ks.getD (Int.toNat 2) 0 * 256 + ks.getD (Int.toNat 2 + 1) 0 = mask := by rw [show ks.getD (Int.toNat 2) 0 = 0 from c2, show ks.getD (Int.toNat 2 + 1) 0 = mask from c3]; omega
  repeat' (first | ((fail_if_success (with_reducible show LCg.CompRest _ _ _ _ _ _ _ (Expr.IfExp _ _ _ _) _ _ _ _ _ _ _ _ _ _ _)); first | (k_unfold; (try dsimp only)) | (k_end; kc_close) | walk1 | (dsimp only; walk1) | (leave1; walk_say "STEP leave1"; (try dsimp only)) | fail "no step") | fail "no step")
  refine compRest_ind (fun i ys => TVs ((unp8 ks).take i) ys) 8 (fun k i ys hik hT ih => ?_) (fun ys hT => ?_) 8 0 [] rfl rfl
  · refine CompRest.succ ?_
    intro v' I' oI' C' oC' D' m' h' tk' E' hv' hC' hx' F' N' off' ne'
    obtain ⟨i9', t9', hv9'⟩ := hv'
    subst hv9'
    try simp only [LCg.Off3, and_true] at off'
    have o0a : Ap _ _ := ⟨off'.1.1⟩
    have o0b : Ap _ _ := ⟨off'.1.2.1⟩
    have o0c : Ap _ _ := ⟨off'.1.2.2⟩
    have o1a : Ap _ _ := ⟨off'.2.1.1⟩
    have o1b : Ap _ _ := ⟨off'.2.1.2.1⟩
    have o1c : Ap _ _ := ⟨off'.2.1.2.2⟩
    have o2a : Ap _ _ := ⟨off'.2.2.1.1⟩
    have o2b : Ap _ _ := ⟨off'.2.2.1.2.1⟩
    have o2c : Ap _ _ := ⟨off'.2.2.1.2.2⟩
    have o3a : Ap _ _ := ⟨off'.2.2.2.1⟩
    have o3b : Ap _ _ := ⟨off'.2.2.2.2.1⟩
    have o3c : Ap _ _ := ⟨off'.2.2.2.2.2⟩
    have n1 : Ap _ _ := ⟨ne'.1⟩
    have n2 : Ap _ _ := ⟨ne'.2.1⟩
    have n3 : Ap _ _ := ⟨ne'.2.2⟩
    clear off' ne'
    k_steps
    · rename Builtin.bitAnd _ _ = 1 => hb
      refine ih _ ?_
      rw [unp8_snoc ks i i9']
      rw [bitOf] at hb
      exact TVs.snoc (by rw [c3, if_pos hb, show ks.getD (4 + 2 * i) 0 = ks.getD (4 + 2 * (0 + (0 + (i : Int) * 1))).toNat 0 by rw [nat4], show ks.getD (5 + 2 * i) 0 = ks.getD ((4 + 2 * (0 + (0 + (i : Int) * 1))).toNat + 1) 0 by rw [nat4, show 4 + 2 * i + 1 = 5 + 2 * i by omega]]; exact ⟨_, rfl⟩) hT
    · rename Builtin.bitAnd _ _ ≠ 1 => hb
      refine ih _ ?_
      rw [unp8_snoc ks i i9']
      rw [bitOf] at hb
      exact TVs.snoc (by rw [c3, if_neg hb]; rfl) hT
  · rw [List.take_of_length_le (Nat.le_of_eq (unp8_length ks))] at hT
    have hlen8 : ys.length = 8 := hT.length.trans (unp8_length ks)
    k_steps
    · rename Fr g' _ _ _ => F8
      rename News h₀ _ _ _ => N8
      rename News g' _ _ _ => G8
      have fr : ∀ p o, _ → s.heap.get? p = none := fun p o (hm : (p, o) ∈ _) => fresh_of (own := []) hko (G8 (p, o) hm).2.2 (fun q => nomatch q)
      refine hret _ _ _ _ (fun b o e n => F8.keep b o (hko b o e n)) (takeP N8) ⟨_, _, _, _, ys, _, rfl, rfl, hT, ?_, ?_, ?_⟩
      · exact fr _ _ (by k_mem)
      · exact fr _ _ (by k_mem)
      · exact fr _ _ (by k_mem)
end

section
open PySem PySem.W PyProof.Rows PySem.Calls PySem.Spec


set_option maxHeartbeats 8000000 in
theorem tb_word (w : World) (now time tick : Int) (t1 t2 t3 : Tok) (h1 : 1 ≤ tick) (h2 : tick ≤ 1000) (h3 : 0 ≤ time) (h4 : time ≤ 65535) (h5 : 0 ≤ now) (h6 : now ≤ 1000) :
    Word w 122 [.int now t1, .int time t2, .int tick t3] [] 1 (fun h h' r own' => ∃ t, r = .int (now + (time + tick - 1) / tick) t ∧ own' = []) := by
  unfold Word
  k_fill
  intro loose mean mg mb dp un gd cn cs ad ccd cl outer A₀ base h₀ L m s Q E B F X N T hk hdp hun hret
  refine wpAny_call ?_
  (refine' enterO (binds := [("now", .int now t1), ("time", .int time t2), ("tick", .int tick t3)]) ?k1 ?k2 ?k3 ?k4 ?k5 ?kA ?kF ?kK ?k6 ?k7 ?k8 ?k9 ?kB ?_ ?c2 ?c3 ?c4 ?c5; (case kA => exact rfl); (case kF => exact rfl); (case kK => assumption); (case k1 => k_asm); (case k2 => k_asm); (case k3 => k_asm); (case k4 => k_asm); (case k5 => k_asm); (case k6 => k_is); (case k7 => k_is); (case k8 => ktr_room); (case k9 => exact BindsTo.of_eq rfl); (case c5 => decide); (case kB => exact locs rfl); (case c2 => exact rfl); (case c3 => exact rfl); (case c4 => exact rfl); k_whole)
  intro g' L' h' FG' F' N' B' X' T' l1 hko hkb hsz; (try k_lt l1); (try dsimp only); (try k_fold)
  have ee : (time + tick - 1) / tick = (time + tick - 1).fdiv tick := (Int.fdiv_eq_ediv_of_nonneg _ (by omega)).symm
  simp only [ee] at hret
  k_steps
  · rename Fr g' _ _ _ => F8
    rename News h₀ _ _ _ => N8
    exact hret _ _ _ _ (fun b o e n => F8.keep b o (hko b o e n)) N8 ⟨_, rfl, rfl⟩
abbrev stD (w : World) (tick : Int) (U : Addr) (t1 t2 t3 : Tok) : Obj := dictOf [⟨PyData.keyHash w.params "tick", .str "tick" t1, .int tick t2⟩, ⟨PyData.keyHash w.params "until", .str "until" t3, .ref U⟩] 2

set_option maxHeartbeats 8000000 in
theorem ms_word (w : World) (x dx U : Addr) (p now v : Int) (t1 t2 t3 t4 t5 : Tok) (us : List Value) (n : Nat) (ns : List Int) (hi : IntsAre us ns) (h8 : ns.length = 8) (hp : 0 ≤ p) (hp8 : p < 8) :
    Word w 150 [.ref x, .int p t1, .int now t2] [(x, instObj 153 dx), (dx, stD w v U t3 t4 t5), (U, PySem.W.listOf us.toArray n)] 1 (fun h h' r own' => r = .bool (decide (ns.getD p.toNat 0 ≤ now)) ∧ own' = [(x, instObj 153 dx), (dx, stD w v U t3 t4 t5), (U, PySem.W.listOf us.toArray n)]) := by
  unfold Word
  k_fill
  intro loose mean mg mb dp un gd cn cs ad ccd cl outer A₀ base h₀ L m s Q E B F X N T hk hdp hun hret
  refine wpAny_call ?_
  (refine' enterO (binds := [("self", .ref x), ("priority", .int p t1), ("now", .int now t2)]) ?k1 ?k2 ?k3 ?k4 ?k5 ?kA ?kF ?kK ?k6 ?k7 ?k8 ?k9 ?kB ?_ ?c2 ?c3 ?c4 ?c5; (case kA => exact rfl); (case kF => exact rfl); (case kK => assumption); (case k1 => k_asm); (case k2 => k_asm); (case k3 => k_asm); (case k4 => k_asm); (case k5 => k_asm); (case k6 => k_is); (case k7 => k_is); (case k8 => ktr_room); (case k9 => exact BindsTo.of_eq rfl); (case c5 => decide); (case kB => exact locs rfl); (case c2 => exact rfl); (case c3 => exact rfl); (case c4 => exact rfl); k_whole)
  intro g' L' h' FG' F' N' B' X' T' l1 hko hkb hsz; (try k_lt l1); (try dsimp only); (try k_fold)
  k_steps
  · rename Fr g' _ _ _ => F8
    rename News h₀ _ _ _ => N8
    exact hret _ _ _ _ (fun b o e n => F8.keep b o (hko b o e n)) N8 ⟨rfl, rfl⟩
theorem tb_word_k {now time tick : Int} (h h' : Heap) (R₀ : Value → Led → Prop) (k₀ : ∀ t, (R₀ (.int (now + (time + tick - 1) / tick) t) [])) (r : Value) (own' : Led) (p₀ : ∃ t, r = .int (now + (time + tick - 1) / tick) t ∧ own' = []) : R₀ r own' := by
  obtain ⟨t, rfl, rfl⟩ := p₀
  exact k₀ t
end

section
open PySem PySem.W PyProof.Rows PySem.Calls PySem.Spec PySem.Builtin
theorem fold_rep (v : Value) : ∀ (n : Nat) (a : Array Value), List.foldl (fun x1 x2 : Array Value => x1 ++ x2) a (List.replicate n #[v]) = a ++ (List.replicate n v).toArray
  | 0, a => by simp
  | n + 1, a => by
    rw [List.replicate_succ, List.foldl_cons, fold_rep v n, List.replicate_succ]
    apply Array.ext'
    simp
theorem fold_rep0 (v : Value) (n : Nat) : List.foldl (fun x1 x2 : Array Value => x1 ++ x2) #[] (List.replicate n #[v]) = (List.replicate n v).toArray := by rw [fold_rep]; simp
theorem tuple_mul_many (l : Addr) (v : Value) (n : Nat) (x : Int) (u : Tok) (h2 : 2 ≤ x) (hx : x ≤ 1000) :
    Meets (Builtin.«tuple.__mul__» ⟨[.ref l, .int x u], []⟩) (fun _ R s => s.heap.get? l = some { cls := .type "tuple", dict := none, data := .seq #[v] n, slots := #[] } ∧ R (.ok (.ret (Value.ref s.heap.objs.size))) { s with heap := s.heap.push { cls := Value.type "tuple", data := Data.seq (List.replicate x.toNat v).toArray }, toks := s.toks }) :=
  .of_wp fun prog w A R s h => by
    obtain ⟨hp, g, d, tk, os⟩ := s; obtain ⟨hl, h⟩ := h; have f1 := PySem.AutoSeq1.idx_int; have f2 := PySem.AutoSeq1.sub_tuple_tuple
    have hc0 : ¬ ((decide (x < -2 ^ 63) || decide (x ≥ 2 ^ 63)) = true) := by simp only [Bool.or_eq_true, decide_eq_true_eq]; omega
    have hc1 : ¬ (((#[v] : Array Value).isEmpty || x == 1) = true) := by
      simp only [Bool.or_eq_true, beq_iff_eq]; rintro (h | h)
      · cases h
      · omega
    have hc2 : ¬ ((decide (x ≤ 0) || (#[v] : Array Value).isEmpty) = true) := by
      simp only [Bool.or_eq_true, decide_eq_true_eq]; rintro (h | h)
      · omega
      · cases h
    have e1 : (((#[v] : Array Value).size : Nat) : Int) = 1 := rfl
    have hc3 : ¬ (((#[v] : Array Value).size : Int) * x > (2 ^ 63 - 1) / 8) := by rw [e1]; omega
    have hc4 : ¬ (Tuple.tupleTooMany (((#[v] : Array Value).size : Int) * x) = true) := by
      unfold Tuple.tupleTooMany; rw [decide_eq_true_eq, sizeLine_eq, e1]; omega
    wp_walk using PySem.AutoSeq1.wpAny_loadPart' hl
    refine wpAny_ite_false (decide_eq_false hc0) ?_
    wp_walk using PySem.AutoSeq1.wpAny_loadPart' hl
    refine wpAny_ite_false (decide_eq_false hc1) ?_
    refine wpAny_ite_false (decide_eq_false hc2) ?_
    refine wpAny_ite_false (decide_eq_false hc3) ?_
    refine wpAny_ite_false (decide_eq_false hc4) ?_
    rw [fold_rep0]
    have hc5 : (List.replicate x.toNat v).toArray.size ≤ sizeLine := by rw [List.size_toArray, List.length_replicate, sizeLine_eq]; omega
    wp_walk using PySem.AutoSeq1.wpAny_loadPart' hl
    refine wpAny_ite_false (decide_eq_false (Nat.not_lt.mpr hc5)) ?_
    wp_walk using PySem.AutoSeq1.wpAny_loadPart' hl
    exact ⟨_, rfl, h⟩
theorem tuple_mul_one (l : Addr) (v : Value) (n : Nat) (u : Tok) :
    Meets (Builtin.«tuple.__mul__» ⟨[.ref l, .int 1 u], []⟩) (fun _ R s => s.heap.get? l = some { cls := .type "tuple", dict := none, data := .seq #[v] n, slots := #[] } ∧ R (.ok (.ret (Value.ref l))) s) :=
  .of_wp fun prog w A R s h => by
    obtain ⟨hp, g, d, tk, os⟩ := s; obtain ⟨hl, h⟩ := h; have f1 := PySem.AutoSeq1.idx_int; have f2 := PySem.AutoSeq1.sub_tuple_tuple
    wp_walk using PySem.AutoSeq1.wpAny_loadPart' hl
    exact ⟨_, rfl, h⟩
theorem tuple_mul_none (l : Addr) (v : Value) (n : Nat) (u : Tok) :
    Meets (Builtin.«tuple.__mul__» ⟨[.ref l, .int 0 u], []⟩) (fun _ R s => s.heap.get? l = some { cls := .type "tuple", dict := none, data := .seq #[v] n, slots := #[] } ∧ R (.ok (.ret (Value.ref s.heap.objs.size))) { s with heap := s.heap.push { cls := Value.type "tuple", data := Data.seq #[] }, toks := s.toks }) :=
  .of_wp fun prog w A R s h => by
    obtain ⟨hp, g, d, tk, os⟩ := s; obtain ⟨hl, h⟩ := h; have f1 := PySem.AutoSeq1.idx_int; have f2 := PySem.AutoSeq1.sub_tuple_tuple
    wp_walk using PySem.AutoSeq1.wpAny_loadPart' hl
    exact ⟨_, rfl, h⟩
theorem noFill_tuple_mul : fillsNumberSlot (.type "tuple") "mul" = pure false :=
  PySem.fillsNumberSlot_seq (id := "tuple.__mul__") (r := some (.builtin "tuple.__rmul__")) PySem.F.slot_tuple_mul.lookup (by decide +kernel) PySem.F.slot_tuple_rmul.lookup (by decide +kernel)
theorem repeat_tuple : seqRepeat? (.type "tuple") = pure (some (.builtin "tuple.__mul__")) := by
  unfold seqRepeat?
  rw [PySem.seqSlot_of (T := "tuple") (name := "__mul__") (id := "tuple.__mul__") PySem.F.slot_tuple_mul.lookup (by decide +kernel), PySem.seqSlot_of (T := "tuple") (name := "__rmul__") (id := "tuple.__rmul__") PySem.F.slot_tuple_rmul.lookup (by decide +kernel)]
  rfl
theorem rmul_int_tuple (a : Int) (t : Tok) (l : Addr) (items : Array Value) (n : Nat) :
    Meets (Builtin.«int.__rmul__» ⟨[.int a t, .ref l], []⟩) (fun _ R s => s.heap.get? l = some { cls := .type "tuple", dict := none, data := .seq items n, slots := #[] } ∧ R (.ok (.ret Value.notImplemented)) s) :=
  .of_wp fun prog w A R s h => by obtain ⟨hp, g, d, tk, os⟩ := s; obtain ⟨hl, h⟩ := h; wp_walk; exact ⟨_, rfl, h⟩
section
variable {prog : Program} {w : World} {A : Around} {E : Value → Shared → Prop} {s : Shared} {h₀ : Heap} {L : Addr} {m : PySem.Str → Option Value} {news : Led}
theorem mul_road {l : Addr} {v : Value} {n : Nat} {x : Int} {u : Tok} {Q : Value → Shared → Prop} (hl : s.heap.get? l = some { cls := .type "tuple", dict := none, data := .seq #[v] n, slots := #[] })
    (h : wpAny (model prog w) A (call (.builtin "tuple.__mul__") [.ref l, .int x u]) Q E s) : wpAny (model prog w) A (binaryOp .Mult (.ref l) (.int x u)) Q E s :=
  wpAny_binaryOp_repeat_ref (T := "tuple") (U := "int") (by decide) ⟨_, hl, rfl⟩ (fun s' => typeIs_int s' x u) noFill_tuple_mul PySem.F.fills_int_mul PySem.F.slot_int_rmul repeat_tuple PySem.F.slot_int_index.lookup
    (call_meets PySem.F.slot_int_rmul (typeIs_int s x u) PySem.F.entry_int_rmul (PySem.F.args_int_rmul_2 _ _) (rmul_int_tuple x u l #[v] n) ⟨hl, rfl, ⟨_, hl, rfl⟩, h⟩)
/-- a tuple of one, k times -/
theorem tup_rep {T : Addr} {v : Value} {n : Nat} {k : Int} {u : Tok} {Q : Value → Shared → Prop} (F : Fr h₀ L s.heap m) (N : News h₀ L s.heap news) (hm : (T, tupO [v] n) ∈ news) (h0 : 0 ≤ k) (hk : k ≤ 1000)
    (h : ∀ D h' n', Fr h₀ L h' m → News h₀ L h' ((D, tupO (List.replicate k.toNat v) n') :: news) → (D = T ∨ apartN D news) → Q (.ref D) { s with heap := h' }) : wpAny (model prog w) A (binaryOp .Mult (.ref T) (.int k u)) Q E s := by
  have hl := (N _ hm).1
  refine mul_road hl ?_
  have fresh : apartN s.heap.objs.size news := by
    have key : ∀ r : Led, (∀ p ∈ r, p ∈ news) → apartN s.heap.objs.size r := by
      intro r
      induction r with
      | nil => intro _; trivial
      | cons p r ih => intro hs; exact ⟨fun e => absurd (Heap.lt_size (N p (hs p (.head _))).1) (by rw [← e]; exact Nat.lt_irrefl _), ih fun q hq => hs q (.tail _ hq)⟩
    exact key news fun _ h => h
  by_cases h1 : k = 1
  · subst h1
    exact call_meets PySem.F.slot_tuple_mul ⟨_, hl, rfl⟩ PySem.F.entry_tuple_mul (PySem.F.args_tuple_mul_2 _ _) (tuple_mul_one T v n u) ⟨hl, h T s.heap n F (fun p hp => by
      rcases List.mem_cons.mp hp with e | hp
      · rw [e]; exact N _ hm
      · exact N p hp) (.inl rfl)⟩
  · by_cases h2 : k = 0
    · subst h2
      exact call_meets PySem.F.slot_tuple_mul ⟨_, hl, rfl⟩ PySem.F.entry_tuple_mul (PySem.F.args_tuple_mul_2 _ _) (tuple_mul_none T v n u) ⟨hl, h _ _ 0 (F.push _) (News.push F N _) (.inr fresh)⟩
    · exact call_meets PySem.F.slot_tuple_mul ⟨_, hl, rfl⟩ PySem.F.entry_tuple_mul (PySem.F.args_tuple_mul_2 _ _) (tuple_mul_many T v n k u (by omega) hk) ⟨hl, h _ _ 0 (F.push _) (News.push F N _) (.inr fresh)⟩
end
end

section
open PySem PySem.W PyProof.Rows PySem.Calls PySem.Spec PyProof.Rows.LCg

theorem len8 {vs : List Value} (h : vs.length = 8) : ∃ a b c d e f g k, vs = [a, b, c, d, e, f, g, k] := by
  match vs, h with
  | [a, b, c, d, e, f, g, k], _ => exact ⟨a, b, c, d, e, f, g, k, rfl⟩
theorem tup_item {prog : Program} {w : World} {A : Around} {E : Value → Shared → Prop} {s : Shared} {value slice : Expr} {h₀ : Heap} {L T : Addr} {vs : List Value} {nT : Nat} {news : Led} {k : Int} {u : Tok} {v : Value} {Q : Value → Shared → Prop}
    (N : News h₀ L s.heap news) (hm : (T, tupO vs nT) ∈ news) (h0 : 0 ≤ k) (h1 : k < 9223372036854775808) (hk : k.toNat < vs.length) (hx : vs[k.toNat]? = some v) (h : Q v s)
    (hs : subscripted slice false (.ref T) (.int k u) = operate [.ref T, .int k u] (getItem (.ref T) (.int k u)) := by with_unfolding_all rfl) :
    wpAny (model prog w) A (subscriptTail value slice (.ref T) (.int k u)) Q E s := by
  refine item_tupleT (News.isTup N hm) (by omega) (by omega) (j := k.toNat) ?_ hx h hs
  unfold seqIndex?
  dsimp only
  rw [if_neg (show ¬ k < 0 by omega)]
  exact if_pos (by rw [Bool.and_eq_true]; exact ⟨decide_eq_true h0, decide_eq_true (by omega)⟩)
/-- what is due behind a frame that was heard -/
def due (l : List (Option Int)) (now tick : Int) (ns : List Int) (i : Nat) : List Int := (List.range 8).map fun j => if j < i then (match l.getD j none with | some t => now + (t + tick - 1) / tick | none => ns.getD j 0) else ns.getD j 0

theorem due_length (l : List (Option Int)) (now tick : Int) (ns : List Int) (i : Nat) : (due l now tick ns i).length = 8 := by unfold due; rw [List.length_map, List.length_range]
theorem due_get (l : List (Option Int)) (now tick : Int) (ns : List Int) (i j : Nat) (hj : j < 8) : (due l now tick ns i)[j]? = some (if j < i then (match l.getD j none with | some t => now + (t + tick - 1) / tick | none => ns.getD j 0) else ns.getD j 0) := by
  unfold due
  rw [List.getElem?_map, List.getElem?_range hj]; rfl
theorem due_none {l : List (Option Int)} {now tick : Int} {ns : List Int} {i : Nat} (ho : l[i]? = some none) : due l now tick ns (i + 1) = due l now tick ns i := by
  apply List.ext_getElem?
  intro j
  by_cases hj : j < 8
  · rw [due_get _ _ _ _ _ _ hj, due_get _ _ _ _ _ _ hj]
    by_cases h : j = i
    · subst h
      rw [if_pos (Nat.lt_succ_self _), if_neg (Nat.lt_irrefl _), List.getD_eq_getElem?_getD, ho]; rfl
    · by_cases h' : j < i
      · rw [if_pos (by omega), if_pos h']
      · rw [if_neg (by omega), if_neg h']
  · rw [List.getElem?_eq_none (by rw [due_length]; omega), List.getElem?_eq_none (by rw [due_length]; omega)]
theorem due_some {l : List (Option Int)} {now tick t : Int} {ns : List Int} {i : Nat} (hi : i < 8) (ho : l[i]? = some (some t)) : due l now tick ns (i + 1) = (due l now tick ns i).set i (now + (t + tick - 1) / tick) := by
  apply List.ext_getElem?
  intro j
  by_cases hj : j < 8
  · rw [due_get _ _ _ _ _ _ hj, List.getElem?_set]
    by_cases h : i = j
    · subst h
      rw [if_pos (Nat.lt_succ_self _), if_pos rfl, if_pos (by rw [due_length]; exact hi), List.getD_eq_getElem?_getD, ho]; rfl
    · rw [if_neg h, due_get _ _ _ _ _ _ hj]
      by_cases h' : j < i
      · rw [if_pos (by omega), if_pos h']
      · rw [if_neg (by omega), if_neg h']
  · rw [List.getElem?_eq_none (by rw [due_length]; omega), List.getElem?_eq_none (by rw [List.length_set, due_length]; omega)]
theorem due_zero (l : List (Option Int)) (now tick : Int) {ns : List Int} (h : ns.length = 8) : due l now tick ns 0 = ns := by
  apply List.ext_getElem?
  intro j
  by_cases hj : j < 8
  · rw [due_get _ _ _ _ _ _ hj, if_neg (Nat.not_lt_zero _), List.getD_eq_getElem?_getD, List.getElem?_eq_getElem (by omega)]; rfl
  · rw [List.getElem?_eq_none (by rw [due_length]; omega), List.getElem?_eq_none (by omega)]

set_option maxHeartbeats 8000000 in
theorem heard8_word (w : World) (x dx U p pd pT : Addr) (now v : Int) (t1 t2 t3 t4 t5 : Tok) (us vs : List Value) (n nT : Nat) (ns : List Int) (l : List (Option Int)) (hi : IntsAre us ns) (h8 : ns.length = 8) (hl : TVs l vs) (hl8 : l.length = 8)
    (hr : ∀ t, some t ∈ l → 0 ≤ t ∧ t ≤ 65535) (h1 : 1 ≤ v) (h2 : v ≤ 1000) (h5 : 0 ≤ now) (h6 : now ≤ 1000) (d1 : @Ne Nat U x) (d2 : @Ne Nat U dx) (d3 : @Ne Nat U p) (d4 : @Ne Nat U pd) (d5 : @Ne Nat U pT) :
    Word w 143 [.ref x, .ref p, .int now t1] [(x, instObj 153 dx), (dx, stD w v U t3 t4 t5), (U, PySem.W.listOf us.toArray n), (p, instObj 101 pd), (pd, pfD w pT t2), (pT, tupO vs nT)] 3 (fun h h' r own' => ∃ us' n', r = .none ∧ own' = [(x, instObj 153 dx), (dx, stD w v U t3 t4 t5), (U, PySem.W.listOf us'.toArray n'), (p, instObj 101 pd), (pd, pfD w pT t2), (pT, tupO vs nT)] ∧ IntsAre us' (due l now v ns 8)) := by
  obtain ⟨v0, v1, v2, v3, v4, v5, v6, v7, rfl⟩ := len8 (hl.length.trans hl8)
  unfold Word
  have mk_heard8_word : Mk := ⟨⟩
  k_with "call ref" => (guard_hyp mk_heard8_word : Mk; (k_here; (with_reducible show wpAny _ _ (call (Value.ref 122) _) _ _ _); k_dflt ((refine' Word.useK (tb_word _ _ _ _ _ _ _ ?v1 ?v2 ?v3 ?v4 ?v5 ?v6) tb_word_k ?u1 ?u2 ?u3 ?u4 ?u5 ?u6 ?u7 ?u8 ?u9 ?u10 ?_); k_extra "uc"; (case v1 => k_extra "side"); (case v2 => k_extra "side"); (case v3 => k_extra "side"); (case v4 => k_extra "side"); (case v5 => k_extra "side"); (case v6 => k_extra "side"); k_call_by "used" 0)))
  k_with "subscriptTail" => (guard_hyp mk_heard8_word : Mk; (k_here; (with_reducible show wpAny _ _ (subscriptTail _ _ (Value.ref _) (Value.int _ _)) _ _ _); k_dflt (refine' tup_item ?z9F ?z9m ?z9a ?z9b ?z9c ?z9x ?_; (case z9F => k_asm); (case z9m => k_mem); (case z9a => omega); (case z9b => omega); (case z9c => (simp only [List.length_cons, List.length_nil]; omega)); (case z9x => assumption))))
  k_fill
  intro loose mean mg mb dp un gd cn cs ad ccd cl outer A₀ base h₀ L m s Q E B F X N T hk hdp hun hret
  refine wpAny_call ?_
  (refine' enterO (binds := [("self", .ref x), ("pause", .ref p), ("now", .int now t1)]) ?k1 ?k2 ?k3 ?k4 ?k5 ?kA ?kF ?kK ?k6 ?k7 ?k8 ?k9 ?kB ?_ ?c2 ?c3 ?c4 ?c5; (case kA => exact rfl); (case kF => exact rfl); (case kK => assumption); (case k1 => k_asm); (case k2 => k_asm); (case k3 => k_asm); (case k4 => k_asm); (case k5 => k_asm); (case k6 => k_is); (case k7 => k_is); (case k8 => ktr_room); (case k9 => exact BindsTo.of_eq rfl); (case c5 => decide); (case kB => exact locs rfl); (case c2 => exact rfl); (case c3 => exact rfl); (case c4 => exact rfl); k_whole)
  intro g' L' h' FG' F' N' B' X' T' l1 hko hkb hsz; (try k_lt l1); (try dsimp only); (try k_fold)
  repeat' (first | ((fail_if_success (with_reducible show RangeRest _ _ _ _ _ _ _ _ _ _ _ _ _ _ _ _ _)); first | (k_unfold; (try dsimp only)) | (k_end; kc_close) | walk1 | (dsimp only; walk1) | (leave1; walk_say "STEP leave1"; (try dsimp only)) | fail "no step") | fail "no step")
  refine rangeRest_drop _ _ _ _ [(x, instObj 153 dx), (dx, stD w v U t3 t4 t5), (U, PySem.W.listOf us.toArray n), (p, instObj 101 pd), (pd, pfD w pT t2), (pT, tupO [v0, v1, v2, v3, v4, v5, v6, v7] nT)] (fun q hq => .tail _ hq) ?_
  refine rangeRest_ind (fun i m news => (∃ pv, m = fun y => if y = Str.ofString "priority" then pv else if y = Str.ofString "times" then some (Value.ref pT) else List.lookup y [(Str.ofString "self", Value.ref x), (Str.ofString "pause", Value.ref p), (Str.ofString "now", Value.int now t1)].reverse) ∧
      ∃ us' n', news = [(x, instObj 153 dx), (dx, stD w v U t3 t4 t5), (U, PySem.W.listOf us'.toArray n'), (p, instObj 101 pd), (pd, pfD w pT t2), (pT, tupO [v0, v1, v2, v3, v4, v5, v6, v7] nT)] ∧ IntsAre us' (due l now v ns i)) 8 ?step ?done 8 0 _ _ rfl ?start
  case start =>
    refine ⟨⟨none, ?_⟩, us, n, rfl, by rw [due_zero _ _ _ h8]; exact hi⟩
    funext y
    by_cases hy : y = Str.ofString "priority"
    · rw [if_pos hy, hy]; rfl
    · rw [if_neg hy]
  case done =>
    rintro m1 news1 ⟨⟨pv, e1⟩, us1, n1, e2, hi1⟩ hh tkh Fh Nh
    subst e1 e2
    k_steps
    · rename Fr g' _ _ _ => F8
      rename News h₀ _ _ _ => N8
      exact hret _ _ _ _ (fun b o e n => F8.keep b o (hko b o e n)) N8 ⟨_, _, rfl, rfl, hi1⟩
  case step =>
    intro k i m1 news1 hik hJ ih
    obtain ⟨⟨pv, e1⟩, us1, n1, e2, hi1⟩ := hJ
    subst e1 e2
    have hi8 : i < 8 := by omega
    have hdl : (due l now v ns i).length = 8 := due_length l now v ns i
    obtain ⟨o, vv, ho, hvv, htv⟩ := hl.get (i := i) (by omega)
    have hvv' : [v0, v1, v2, v3, v4, v5, v6, v7][(0 + (i : Int)).toNat]? = some vv := by rw [show (0 + (i : Int)).toNat = i by omega]; exact hvv
    refine RangeRest.succ (fun t' h' tk' F' N' => ?_)
    rw [put_over] at F'
    cases o with
    | none =>
      have e3 : vv = .none := htv
      subst e3
      k_steps
      exact ih _ _ ⟨⟨_, rfl⟩, _, _, rfl, by rw [due_none ho]; exact hi1⟩
    | some tm =>
      obtain ⟨ttm, e3⟩ := htv
      subst e3
      have hb := hr tm (List.mem_of_getElem? ho)
      k_steps
      refine ih _ _ ⟨⟨_, rfl⟩, _, _, rfl, ?_⟩
      rw [due_some hi8 ho]
      rename IntsAre (List.set _ _ _) _ => h9
      rw [show (0 + (i : Int)).toNat = i by omega] at h9 ⊢
      exact h9
end

section
open PySem PySem.W PyProof.Rows PySem.Calls PySem.Spec PyProof.Rows.LCg


set_option maxHeartbeats 8000000 in
theorem heard1_word (w : World) (x dx U p pd pT : Addr) (now v tm : Int) (t1 t2 t3 t4 t5 ttm : Tok) (us : List Value) (n nT : Nat) (ns : List Int) (hi : IntsAre us ns) (h8 : ns.length = 8) 
    (hr : 0 ≤ tm ∧ tm ≤ 65535) (h1 : 1 ≤ v) (h2 : v ≤ 1000) (h5 : 0 ≤ now) (h6 : now ≤ 1000) (d1 : @Ne Nat U x) (d2 : @Ne Nat U dx) (d3 : @Ne Nat U p) (d4 : @Ne Nat U pd) (d5 : @Ne Nat U pT) :
    Word w 143 [.ref x, .ref p, .int now t1] [(x, instObj 153 dx), (dx, stD w v U t3 t4 t5), (U, PySem.W.listOf us.toArray n), (p, instObj 101 pd), (pd, pfD w pT t2), (pT, tupO [.int tm ttm] nT)] 3 (fun h h' r own' => ∃ us' n', r = .none ∧ own' = [(x, instObj 153 dx), (dx, stD w v U t3 t4 t5), (U, PySem.W.listOf us'.toArray n'), (p, instObj 101 pd), (pd, pfD w pT t2), (pT, tupO [.int tm ttm] nT)] ∧ IntsAre us' (due (List.replicate 8 (some tm)) now v ns 8)) := by
  unfold Word
  have mk_heard1_word : Mk := ⟨⟩
  k_with "call ref" => (guard_hyp mk_heard1_word : Mk; (k_here; (with_reducible show wpAny _ _ (call (Value.ref 122) _) _ _ _); k_dflt ((refine' Word.useK (tb_word _ _ _ _ _ _ _ ?v1 ?v2 ?v3 ?v4 ?v5 ?v6) tb_word_k ?u1 ?u2 ?u3 ?u4 ?u5 ?u6 ?u7 ?u8 ?u9 ?u10 ?_); k_extra "uc"; (case v1 => k_extra "side"); (case v2 => k_extra "side"); (case v3 => k_extra "side"); (case v4 => k_extra "side"); (case v5 => k_extra "side"); (case v6 => k_extra "side"); k_call_by "used" 0)))
  k_with "subscriptTail" => (guard_hyp mk_heard1_word : Mk; (k_here; (with_reducible show wpAny _ _ (subscriptTail _ _ (Value.ref _) (Value.int _ _)) _ _ _); k_dflt (refine' tup_item ?z9F ?z9m ?z9a ?z9b ?z9c ?z9x ?_; (case z9F => k_asm); (case z9m => k_mem); (case z9a => omega); (case z9b => omega); (case z9c => (simp only [List.length_cons, List.length_nil]; omega)); (case z9x => assumption))))
  k_fill
  intro loose mean mg mb dp un gd cn cs ad ccd cl outer A₀ base h₀ L m s Q E B F X N T hk hdp hun hret
  refine wpAny_call ?_
  (refine' enterO (binds := [("self", .ref x), ("pause", .ref p), ("now", .int now t1)]) ?k1 ?k2 ?k3 ?k4 ?k5 ?kA ?kF ?kK ?k6 ?k7 ?k8 ?k9 ?kB ?_ ?c2 ?c3 ?c4 ?c5; (case kA => exact rfl); (case kF => exact rfl); (case kK => assumption); (case k1 => k_asm); (case k2 => k_asm); (case k3 => k_asm); (case k4 => k_asm); (case k5 => k_asm); (case k6 => k_is); (case k7 => k_is); (case k8 => ktr_room); (case k9 => exact BindsTo.of_eq rfl); (case c5 => decide); (case kB => exact locs rfl); (case c2 => exact rfl); (case c3 => exact rfl); (case c4 => exact rfl); k_whole)
  intro g' L' h' FG' F' N' B' X' T' l1 hko hkb hsz; (try k_lt l1); (try dsimp only); (try k_fold)
  repeat' (first | ((fail_if_success (with_reducible show wpAny _ _ (binaryOp Operator.Mult (Value.ref _) (Value.int _ _)) _ _ _)); first | (k_unfold; (try dsimp only)) | (k_end; kc_close) | walk1 | (dsimp only; walk1) | (leave1; walk_say "STEP leave1"; (try dsimp only)) | fail "no step") | fail "no step")
  refine tup_rep (by k_asm) (by k_asm) (by k_mem) (by omega) (by omega) ?_
  intro D1 h1' n1 F1 N1 ho1
  change News _ _ _ ((D1, tupO [.int tm ttm, .int tm ttm, .int tm ttm, .int tm ttm, .int tm ttm, .int tm ttm, .int tm ttm, .int tm ttm] n1) :: _) at N1
  k_sweep
  have hUD : @Ne Nat U D1 := by
    rcases ho1 with ho1 | ho1
    · rw [ho1]; exact d5
    · simp only [apartN] at ho1; omega
  repeat' (first | ((fail_if_success (with_reducible show RangeRest _ _ _ _ _ _ _ _ _ _ _ _ _ _ _ _ _)); first | (k_unfold; (try dsimp only)) | (k_end; kc_close) | walk1 | (dsimp only; walk1) | (leave1; walk_say "STEP leave1"; (try dsimp only)) | fail "no step") | fail "no step")
  refine rangeRest_drop _ _ _ _ [(D1, tupO [.int tm ttm, .int tm ttm, .int tm ttm, .int tm ttm, .int tm ttm, .int tm ttm, .int tm ttm, .int tm ttm] n1), (x, instObj 153 dx), (dx, stD w v U t3 t4 t5), (U, PySem.W.listOf us.toArray n), (p, instObj 101 pd), (pd, pfD w pT t2), (pT, tupO [.int tm ttm] nT)] (fun q hq => by
    rcases List.mem_cons.mp hq with e | hq
    · rw [e]; exact .head _
    · exact .tail _ (.tail _ hq)) ?_
  refine rangeRest_ind (fun i m news => (∃ pv, m = fun y => if y = Str.ofString "priority" then pv else if y = Str.ofString "times" then some (Value.ref D1) else List.lookup y [(Str.ofString "self", Value.ref x), (Str.ofString "pause", Value.ref p), (Str.ofString "now", Value.int now t1)].reverse) ∧
      ∃ us' n', news = [(D1, tupO [.int tm ttm, .int tm ttm, .int tm ttm, .int tm ttm, .int tm ttm, .int tm ttm, .int tm ttm, .int tm ttm] n1), (x, instObj 153 dx), (dx, stD w v U t3 t4 t5), (U, PySem.W.listOf us'.toArray n'), (p, instObj 101 pd), (pd, pfD w pT t2), (pT, tupO [.int tm ttm] nT)] ∧ IntsAre us' (due (List.replicate 8 (some tm)) now v ns i)) 8 ?step ?done 8 0 _ _ rfl ?start
  case start =>
    refine ⟨⟨none, ?_⟩, us, n, rfl, by rw [due_zero _ _ _ h8]; exact hi⟩
    funext y
    by_cases hy : y = Str.ofString "priority"
    · rw [if_pos hy, hy]; rfl
    · rw [if_neg hy]
  case done =>
    rintro m1 news1 ⟨⟨pv, e1⟩, us1, n1, e2, hi1⟩ hh tkh Fh Nh
    subst e1 e2
    k_steps
    · rename Fr g' _ _ _ => F8
      rename News h₀ _ _ _ => N8
      exact hret _ _ _ _ (fun b o e n => F8.keep b o (hko b o e n)) (fun q hq => N8 q (.tail _ hq)) ⟨_, _, rfl, rfl, hi1⟩
  case step =>
    intro k i m1 news1 hik hJ ih
    obtain ⟨⟨pv, e1⟩, us1, n1, e2, hi1⟩ := hJ
    subst e1 e2
    have hi8 : i < 8 := by omega
    have hdl : (due (List.replicate 8 (some tm)) now v ns i).length = 8 := due_length _ now v ns i
    have ho : (List.replicate 8 (some tm))[i]? = some (some tm) := by rw [List.getElem?_replicate, if_pos hi8]
    have hvv' : [Value.int tm ttm, .int tm ttm, .int tm ttm, .int tm ttm, .int tm ttm, .int tm ttm, .int tm ttm, .int tm ttm][(0 + (i : Int)).toNat]? = some (Value.int tm ttm) := by
      rw [show (0 + (i : Int)).toNat = i by omega]
      exact (show (List.replicate 8 (Value.int tm ttm))[i]? = _ by rw [List.getElem?_replicate, if_pos hi8])
    refine RangeRest.succ (fun t' h' tk' F' N' => ?_)
    rw [put_over] at F'
    k_steps
    refine ih _ _ ⟨⟨_, rfl⟩, _, _, rfl, ?_⟩
    rw [due_some hi8 ho]
    rename IntsAre (List.set _ _ _) _ => h9
    rw [show (0 + (i : Int)).toNat = i by omega] at h9 ⊢
    exact h9
end

section
open PySem PySem.W PyProof.Rows PySem.Calls PySem.Spec PyProof.Rows.LCg
/-- one time is told for all eight -/
def ext (l : List (Option Int)) : List (Option Int) := if l.length = 1 then List.replicate 8 (l.getD 0 none) else l
theorem ext1 (t : Int) : ext [some t] = List.replicate 8 (some t) := rfl
theorem ext8 {l : List (Option Int)} (h : l.length = 8) : ext l = l := by unfold ext; rw [if_neg (by omega)]
theorem ext_length {l : List (Option Int)} (h : l.length = 8 ∨ ∃ t, l = [some t]) : (ext l).length = 8 := by
  rcases h with h | ⟨t, rfl⟩
  · rw [ext8 h, h]
  · rfl
theorem heard_word (w : World) (x dx U p pd pT : Addr) (now v : Int) (t1 t2 t3 t4 t5 : Tok) (us vs : List Value) (n nT : Nat) (ns : List Int) (l : List (Option Int)) (hi : IntsAre us ns) (h8 : ns.length = 8) (hl : TVs l vs) (hl8 : l.length = 8 ∨ ∃ t, l = [some t])
    (hr : ∀ t, some t ∈ l → 0 ≤ t ∧ t ≤ 65535) (h1 : 1 ≤ v) (h2 : v ≤ 1000) (h5 : 0 ≤ now) (h6 : now ≤ 1000) (d1 : @Ne Nat U x) (d2 : @Ne Nat U dx) (d3 : @Ne Nat U p) (d4 : @Ne Nat U pd) (d5 : @Ne Nat U pT) :
    Word w 143 [.ref x, .ref p, .int now t1] [(x, instObj 153 dx), (dx, stD w v U t3 t4 t5), (U, PySem.W.listOf us.toArray n), (p, instObj 101 pd), (pd, pfD w pT t2), (pT, tupO vs nT)] 3 (fun h h' r own' => ∃ us' n', r = .none ∧ own' = [(x, instObj 153 dx), (dx, stD w v U t3 t4 t5), (U, PySem.W.listOf us'.toArray n'), (p, instObj 101 pd), (pd, pfD w pT t2), (pT, tupO vs nT)] ∧ IntsAre us' (due (ext l) now v ns 8)) := by
  rcases hl8 with hl8 | ⟨t, rfl⟩
  · rw [ext8 hl8]
    exact heard8_word w x dx U p pd pT now v t1 t2 t3 t4 t5 us vs n nT ns l hi h8 hl hl8 hr h1 h2 h5 h6 d1 d2 d3 d4 d5
  · obtain ⟨u, r, rfl, ⟨tu, rfl⟩, hr0⟩ := hl
    rw [show r = [] from hr0, ext1]
    exact heard1_word w x dx U p pd pT now v t t1 t2 t3 t4 t5 tu us n nT ns hi h8 (hr t (.head _)) h1 h2 h5 h6 d1 d2 d3 d4 d5
theorem ms_no (w : World) (x dx U : Addr) (p now v : Int) (t1 t2 t3 t4 t5 : Tok) (us : List Value) (n : Nat) (ns : List Int) (hi : IntsAre us ns) (h8 : ns.length = 8) (hp : 0 ≤ p) (hp8 : p < 8) (hn : now < ns.getD p.toNat 0) :
    Word w 150 [.ref x, .int p t1, .int now t2] [(x, instObj 153 dx), (dx, stD w v U t3 t4 t5), (U, PySem.W.listOf us.toArray n)] 1 (fun h h' r own' => r = .bool false ∧ own' = [(x, instObj 153 dx), (dx, stD w v U t3 t4 t5), (U, PySem.W.listOf us.toArray n)]) := by
  have := ms_word w x dx U p now v t1 t2 t3 t4 t5 us n ns hi h8 hp hp8
  rw [decide_eq_false (show ¬ ns.getD p.toNat 0 ≤ now by omega)] at this
  exact this
theorem ms_yes (w : World) (x dx U : Addr) (p now v : Int) (t1 t2 t3 t4 t5 : Tok) (us : List Value) (n : Nat) (ns : List Int) (hi : IntsAre us ns) (h8 : ns.length = 8) (hp : 0 ≤ p) (hp8 : p < 8) (hn : ns.getD p.toNat 0 ≤ now) :
    Word w 150 [.ref x, .int p t1, .int now t2] [(x, instObj 153 dx), (dx, stD w v U t3 t4 t5), (U, PySem.W.listOf us.toArray n)] 1 (fun h h' r own' => r = .bool true ∧ own' = [(x, instObj 153 dx), (dx, stD w v U t3 t4 t5), (U, PySem.W.listOf us.toArray n)]) := by
  have := ms_word w x dx U p now v t1 t2 t3 t4 t5 us n ns hi h8 hp hp8
  rw [decide_eq_true hn] at this
  exact this
theorem heard_word_k {w : World} {x dx U p pd pT : Addr} {now v : Int} {t2 t3 t4 t5 : Tok} {vs : List Value} {nT : Nat} {ns : List Int} {l : List (Option Int)} (h h' : Heap) (R₀ : Value → Led → Prop) (k₀ : ∀ us' n', (IntsAre us' (due (ext l) now v ns 8)) → (R₀ (.none) [(x, instObj 153 dx), (dx, stD w v U t3 t4 t5), (U, PySem.W.listOf us'.toArray n'), (p, instObj 101 pd), (pd, pfD w pT t2), (pT, tupO vs nT)])) (r : Value) (own' : Led) (p₀ : ∃ us' n', r = .none ∧ own' = [(x, instObj 153 dx), (dx, stD w v U t3 t4 t5), (U, PySem.W.listOf us'.toArray n'), (p, instObj 101 pd), (pd, pfD w pT t2), (pT, tupO vs nT)] ∧ IntsAre us' (due (ext l) now v ns 8)) : R₀ r own' := by
  obtain ⟨us', n', rfl, rfl, c0⟩ := p₀
  exact k₀ us' n' c0
theorem ms_no_k {w : World} {x dx U : Addr} {v : Int} {t3 t4 t5 : Tok} {us : List Value} {n : Nat} (h h' : Heap) (R₀ : Value → Led → Prop) (k₀ : (R₀ (.bool false) [(x, instObj 153 dx), (dx, stD w v U t3 t4 t5), (U, PySem.W.listOf us.toArray n)])) (r : Value) (own' : Led) (p₀ : r = .bool false ∧ own' = [(x, instObj 153 dx), (dx, stD w v U t3 t4 t5), (U, PySem.W.listOf us.toArray n)]) : R₀ r own' := by
  obtain ⟨rfl, rfl⟩ := p₀
  exact k₀
theorem ms_yes_k {w : World} {x dx U : Addr} {v : Int} {t3 t4 t5 : Tok} {us : List Value} {n : Nat} (h h' : Heap) (R₀ : Value → Led → Prop) (k₀ : (R₀ (.bool true) [(x, instObj 153 dx), (dx, stD w v U t3 t4 t5), (U, PySem.W.listOf us.toArray n)])) (r : Value) (own' : Led) (p₀ : r = .bool true ∧ own' = [(x, instObj 153 dx), (dx, stD w v U t3 t4 t5), (U, PySem.W.listOf us.toArray n)]) : R₀ r own' := by
  obtain ⟨rfl, rfl⟩ := p₀
  exact k₀
end

section
open PySem PySem.W PyProof.Rows PySem.Calls PySem.Spec PyProof.Rows.LCg

theorem in_hilo {t : Int} (h0 : 0 ≤ t) (h1 : t ≤ 65535) : KBa.In [t.fdiv 256, t.fmod 256] := by
  rw [Int.fdiv_eq_ediv_of_nonneg _ (by decide), Int.fmod_eq_emod_of_nonneg _ (by decide)]
  intro n hn
  rcases List.mem_cons.mp hn with e | hn
  · omega
  · rcases List.mem_cons.mp hn with e | hn
    · omega
    · cases hn
theorem in_head {t : Int} (h0 : 0 ≤ t) (h1 : t ≤ 65535) : KBa.In [0, 1, t.fdiv 256, t.fmod 256] := by
  intro n hn
  rcases List.mem_cons.mp hn with e | hn
  · omega
  · rcases List.mem_cons.mp hn with e | hn
    · omega
    · exact in_hilo h0 h1 n hn
theorem in_mask {t : Int} (h0 : 0 ≤ t) (h1 : t ≤ 255) : KBa.In [1, 1, 0, t] := by
  intro n hn
  simp only [List.mem_cons, List.not_mem_nil, or_false] at hn
  omega
/-- what a payload's octets are, and what they tell -/
def PL (ks : List Int) (l : List (Option Int)) : Prop :=
  (4 ≤ ks.length ∧ ks.length ≤ 1000 ∧ ks.getD 0 0 = 0 ∧ ks.getD 1 0 = 1 ∧ (0 ≤ ks.getD 2 0 * 256 + ks.getD 3 0 ∧ ks.getD 2 0 * 256 + ks.getD 3 0 ≤ 65535) ∧ l = [some (ks.getD 2 0 * 256 + ks.getD 3 0)]) ∨
  (20 ≤ ks.length ∧ ks.length ≤ 1000 ∧ ks.getD 0 0 = 1 ∧ ks.getD 1 0 = 1 ∧ ks.getD 2 0 = 0 ∧ (0 ≤ ks.getD 3 0 ∧ ks.getD 3 0 ≤ 255) ∧ (∀ t, some t ∈ l → 0 ≤ t ∧ t ≤ 65535) ∧ l = unp8 ks)
theorem pl_plain {t : Int} {ns : List Int} (h0 : 0 ≤ t) (h1 : t ≤ 65535) (hl : ns.length ≤ 5) : PL ([0, 1, t.fdiv 256, t.fmod 256] ++ ns) [some t] := by
  have e1 : t.fdiv 256 = t / 256 := Int.fdiv_eq_ediv_of_nonneg _ (by decide)
  have e2 : t.fmod 256 = t % 256 := Int.fmod_eq_emod_of_nonneg _ (by decide)
  have e : t.fdiv 256 * 256 + t.fmod 256 = t := by rw [e1, e2]; omega
  refine .inl ⟨?_, ?_, rfl, rfl, ?_, ?_⟩
  · rw [List.length_append]; simp only [List.length_cons, List.length_nil]; omega
  · rw [List.length_append]; simp only [List.length_cons, List.length_nil]; omega
  · show 0 ≤ t.fdiv 256 * 256 + t.fmod 256 ∧ t.fdiv 256 * 256 + t.fmod 256 ≤ 65535
    rw [e]; exact ⟨h0, h1⟩
  · show _ = [some (t.fdiv 256 * 256 + t.fmod 256)]
    rw [e]
theorem hilo {d : Int} (h0 : 0 ≤ d) : d.fdiv 256 * 256 + d.fmod 256 = d := by
  rw [Int.fdiv_eq_ediv_of_nonneg _ (by decide), Int.fmod_eq_emod_of_nonneg _ (by decide)]; omega
theorem bit_of (md : Int) (i : Nat) : (md.fdiv (2 ^ (0 + (i : Int)).toNat)).fmod 2 = (md / 2 ^ i) % 2 := by
  rw [show (0 + (i : Int)).toNat = i by omega, Int.fdiv_eq_ediv_of_nonneg _ (Int.le_of_lt (kbt_pos i)), Int.fmod_eq_emod_of_nonneg _ (by decide)]
theorem getD_app2 (os : List Int) (a b : Int) (i : Nat) (h : os.length = 2 * i) : (os ++ [a, b]).getD (2 * i) 0 = a ∧ (os ++ [a, b]).getD (2 * i + 1) 0 = b := by
  constructor
  · rw [List.getD_eq_getElem?_getD, List.getElem?_append_right (by omega), show 2 * i - os.length = 0 by omega]; rfl
  · rw [List.getD_eq_getElem?_getD, List.getElem?_append_right (by omega), show 2 * i + 1 - os.length = 1 by omega]; rfl
theorem getD_app_l (os r : List Int) (i : Nat) (h : i < os.length) : (os ++ r).getD i 0 = os.getD i 0 := by
  rw [List.getD_eq_getElem?_getD, List.getElem?_append_left h, List.getD_eq_getElem?_getD]
theorem oct_step {os : List Int} {l : List (Option Int)} {md d : Int} {i : Nat} {o : Option Int} (h0 : 0 ≤ d) (hol : os.length = 2 * i) (hll : l.length = i)
    (hlj : ∀ j, j < i → l[j]? = some (if (md / 2 ^ j) % 2 = 1 then some (os.getD (2 * j) 0 * 256 + os.getD (2 * j + 1) 0) else none)) (ho : o = if (md / 2 ^ i) % 2 = 1 then some d else none) :
    ∀ j, j < i + 1 → (l ++ [o])[j]? = some (if (md / 2 ^ j) % 2 = 1 then some ((os ++ [d.fdiv 256, d.fmod 256]).getD (2 * j) 0 * 256 + (os ++ [d.fdiv 256, d.fmod 256]).getD (2 * j + 1) 0) else none) := by
  intro j hj
  by_cases e : j = i
  · subst e
    obtain ⟨e1, e2⟩ := getD_app2 os (d.fdiv 256) (d.fmod 256) j hol
    rw [e1, e2, hilo h0, List.getElem?_append_right (by omega), show j - l.length = 0 by omega, ho]; rfl
  · rw [getD_app_l _ _ _ (by omega), getD_app_l _ _ _ (by omega), List.getElem?_append_left (by omega)]
    exact hlj j (by omega)
theorem unp8_get (ks : List Int) (j : Nat) (hj : j < 8) : (unp8 ks)[j]? = some (if (ks.getD 3 0 / 2 ^ j) % 2 = 1 then some (ks.getD (4 + 2 * j) 0 * 256 + ks.getD (5 + 2 * j) 0) else none) := by
  unfold unp8
  rw [List.getElem?_map, List.getElem?_range hj]; rfl
theorem pl_eight {md : Int} {os ns : List Int} {l : List (Option Int)} (h0 : 0 ≤ md) (h1 : md ≤ 255) (hol : os.length = 2 * 8) (hnl : ns.length ≤ 5) (hll : l.length = 8) (hlr : ∀ t, some t ∈ l → 0 ≤ t ∧ t ≤ 65535)
    (hlj : ∀ j, j < 8 → l[j]? = some (if (md / 2 ^ j) % 2 = 1 then some (os.getD (2 * j) 0 * 256 + os.getD (2 * j + 1) 0) else none)) : PL ([1, 1, 0, md] ++ os ++ ns) l := by
  have g : ∀ i, i < 16 → ([1, 1, 0, md] ++ os ++ ns).getD (4 + i) 0 = os.getD i 0 := fun i hi => by
    rw [List.append_assoc, List.getD_eq_getElem?_getD, List.getElem?_append_right (by simp only [List.length_cons, List.length_nil]; omega), show 4 + i - [1, 1, 0, md].length = i by simp only [List.length_cons, List.length_nil]; omega, List.getElem?_append_left (by omega), List.getD_eq_getElem?_getD]
  refine .inr ⟨?_, ?_, rfl, rfl, rfl, ⟨h0, h1⟩, hlr, ?_⟩
  · simp only [List.length_append, List.length_cons, List.length_nil]; omega
  · simp only [List.length_append, List.length_cons, List.length_nil]; omega
  · apply List.ext_getElem?
    intro j
    by_cases hj : j < 8
    · rw [hlj j hj, unp8_get _ j hj, show ([1, 1, 0, md] ++ os ++ ns).getD 3 0 = md from rfl, g (2 * j) (by omega), show 5 + 2 * j = 4 + (2 * j + 1) by omega, g (2 * j + 1) (by omega)]
    · rw [List.getElem?_eq_none (by omega), List.getElem?_eq_none (by rw [unp8_length]; omega)]
theorem take014 {h₀ h : Heap} {L : Addr} {a b c d e : Addr × Obj} {rest : Led} (N : News h₀ L h (a :: b :: c :: d :: e :: rest)) : News h₀ L h [a, b, e] := fun q hq => N q (by
  rcases List.mem_cons.mp hq with x | hq
  · rw [x]; exact .head _
  · rcases List.mem_cons.mp hq with x | hq
    · rw [x]; exact .tail _ (.head _)
    · rcases List.mem_cons.mp hq with x | hq
      · rw [x]; exact .tail _ (.tail _ (.tail _ (.tail _ (.head _))))
      · cases hq)
theorem mem3 {a b c : Addr × Obj} {l : Led} (h1 : a ∈ l) (h2 : b ∈ l) (h3 : c ∈ l) : ∀ q ∈ [a, b, c], q ∈ l := fun q hq => by
  rcases List.mem_cons.mp hq with x | hq
  · rw [x]; exact h1
  · rcases List.mem_cons.mp hq with x | hq
    · rw [x]; exact h2
    · rcases List.mem_cons.mp hq with x | hq
      · rw [x]; exact h3
      · cases hq
theorem take013 {h₀ h : Heap} {L : Addr} {a b c d : Addr × Obj} {rest : Led} (N : News h₀ L h (a :: b :: c :: d :: rest)) : News h₀ L h [a, b, d] := fun q hq => N q (by
  rcases List.mem_cons.mp hq with e | hq
  · rw [e]; exact .head _
  · rcases List.mem_cons.mp hq with e | hq
    · rw [e]; exact .tail _ (.head _)
    · rcases List.mem_cons.mp hq with e | hq
      · rw [e]; exact .tail _ (.tail _ (.tail _ (.head _)))
      · cases hq)
theorem fresh_of1 {s g : Heap} {src : Addr} {o : Obj} (hko : ∀ b o', s.get? b = some o' → b ∉ [(src, o)].map (·.1) → g.get? b = some o') {p : Addr} (hg : g.get? p = none) (hn : @Ne Nat p src) : s.get? p = none :=
  fresh_of hko hg (fun q => by
    rcases List.mem_cons.mp q with q | q
    · exact hn q
    · cases q)
def JM (M0 : Str → Option Value) (md : Int) (td : Tok) (lt : Addr) (bhv oct : Value) (pT pP : Option Value) : Str → Option Value :=
  fun y => if y = Str.ofString "octets" then some oct else if y = Str.ofString "time" then pT else if y = Str.ofString "priority" then pP else if y = Str.ofString "mask" then some (.int md td) else if y = Str.ofString "times" then some (.ref lt) else if y = Str.ofString "behind" then some bhv else M0 y
theorem jm_step (M0 : Str → Option Value) (md : Int) (td : Tok) (lt : Addr) (bhv oct oct' : Value) (pT pP pT' pP' : Option Value) :
    (fun y => if y = Str.ofString "octets" then some oct' else if y = Str.ofString "time" then pT' else if y = Str.ofString "priority" then pP' else JM M0 md td lt bhv oct pT pP y) = JM M0 md td lt bhv oct' pT' pP' := by
  funext y
  unfold JM
  by_cases h1 : y = Str.ofString "octets"
  · rw [if_pos h1, if_pos h1]
  · rw [if_neg h1, if_neg h1, if_neg h1]
    by_cases h2 : y = Str.ofString "time"
    · rw [if_pos h2, if_pos h2]
    · rw [if_neg h2, if_neg h2, if_neg h2]
      by_cases h3 : y = Str.ofString "priority"
      · rw [if_pos h3, if_pos h3]
      · rw [if_neg h3, if_neg h3, if_neg h3]
theorem jm_start (M0 : Str → Option Value) (md : Int) (td : Tok) (lt : Addr) (bhv oct : Value) :
    (fun y => if y = Str.ofString "mask" then some (Value.int md td) else if y = Str.ofString "times" then some (Value.ref lt) else if y = Str.ofString "octets" then some oct else if y = Str.ofString "behind" then some bhv else M0 y) = JM M0 md td lt bhv oct (M0 (Str.ofString "time")) (M0 (Str.ofString "priority")) := by
  have n1 : Str.ofString "octets" ≠ Str.ofString "mask" := by decide +kernel
  have n2 : Str.ofString "octets" ≠ Str.ofString "times" := by decide +kernel
  have n3 : Str.ofString "time" ≠ Str.ofString "mask" := by decide +kernel
  have n4 : Str.ofString "time" ≠ Str.ofString "times" := by decide +kernel
  have n5 : Str.ofString "time" ≠ Str.ofString "octets" := by decide +kernel
  have n6 : Str.ofString "time" ≠ Str.ofString "behind" := by decide +kernel
  have n7 : Str.ofString "priority" ≠ Str.ofString "mask" := by decide +kernel
  have n8 : Str.ofString "priority" ≠ Str.ofString "times" := by decide +kernel
  have n9 : Str.ofString "priority" ≠ Str.ofString "octets" := by decide +kernel
  have n10 : Str.ofString "priority" ≠ Str.ofString "behind" := by decide +kernel
  funext y
  unfold JM
  by_cases h1 : y = Str.ofString "octets"
  · rw [h1, if_neg n1, if_neg n2, if_pos rfl, if_pos rfl]
  · by_cases h2 : y = Str.ofString "time"
    · rw [h2, if_neg n3, if_neg n4, if_neg n5, if_neg n6, if_neg n5, if_pos rfl]
    · by_cases h3 : y = Str.ofString "priority"
      · have n11 : Str.ofString "priority" ≠ Str.ofString "time" := by decide +kernel
        rw [h3, if_neg n7, if_neg n8, if_neg n9, if_neg n10, if_neg n9, if_neg n11, if_pos rfl]
      · rw [if_neg h1, if_neg h1, if_neg h2, if_neg h3]

theorem d65 {d x : Int} (h : d = 0 ∨ d = 1 ∨ d = 77 ∨ d = 65535 ∨ d = x) (h0 : 0 ≤ x) (h1 : x < 65536) : 0 ≤ d ∧ d ≤ 65535 := by
  rcases h with h | h | h | h | h <;> subst h <;> first | decide | exact ⟨h0, Int.le_of_lt_add_one h1⟩
theorem d255 {d x : Int} (h : d = 0 ∨ d = 255 ∨ d = 1 ∨ d = 128 ∨ d = x) (h0 : 0 ≤ x) (h1 : x < 256) : 0 ≤ d ∧ d ≤ 255 := by
  rcases h with h | h | h | h | h <;> subst h <;> first | decide | exact ⟨h0, Int.le_of_lt_add_one h1⟩
/-- what a turn of the octets behind changes -/
structure PayB where
  a : Int
  b : Int
  ta : Tok
  tb : Tok
  n : Nat
  ns : List Int
  ys : List Value
/-- what a turn of the eight times changes -/
structure PayT where
  oct : Array UInt8
  tO : Tok
  pT : Option Value
  pP : Option Value
  vs : List Value
  nl : Nat
  l : List (Option Int)
  a : Int
  b : Int
  ta : Tok
  tb : Tok
  n : Nat
structure PayI (md : Int) (i : Nat) (p : PayT) : Prop where
  q1 : 0 ≤ p.a
  q2 : 0 ≤ p.b
  q3 : p.b < 2147483647
  hol : (KBw.bInts p.oct).length = 2 * i
  hT : TVs p.l p.vs
  hll : p.l.length = i
  hlr : ∀ t, some t ∈ p.l → 0 ≤ t ∧ t ≤ 65535
  hlj : ∀ j, j < i → p.l[j]? = some (if (md / 2 ^ j) % 2 = 1 then some ((KBw.bInts p.oct).getD (2 * j) 0 * 256 + (KBw.bInts p.oct).getD (2 * j + 1) 0) else none)
set_option maxHeartbeats 8000000 in
theorem pay_word (w : World) (src : Addr) (a b : Int) (ta tb : Tok) (n : Nat) (h0a : 0 ≤ a) (h0b : 0 ≤ b) (hb : b < 2147483647) :
    Word w 217 [.ref src] [(src, PySem.W.listOf #[.int a ta, .int b tb] n)] 4 (fun h h' r own' => ∃ R T B tB vs nR nT ks l a' b' ta' tb' n', r = .ref R ∧ own' = [(R, tupO [.bytes B tB, .ref T] nR), (T, tupO vs nT), (src, PySem.W.listOf #[.int a' ta', .int b' tb'] n')] ∧ KBw.bInts B = ks ∧ PL ks l ∧ TVs l vs ∧ 0 ≤ a' ∧ 0 ≤ b' ∧ b' < 2147483647 ∧ h.get? R = none ∧ h.get? T = none) := by
  unfold Word
  have mk_pay_word : Mk := ⟨⟩
  k_with "call ref" => (guard_hyp mk_pay_word : Mk; (k_here; (with_reducible show wpAny _ _ (call (Value.ref 205) _) _ _ _); k_dflt ((refine' Word.useK (take_word _ _ _ _ _ _ _ _ _ ?v1 ?v2 ?v3 ?v4 ?v5) take_word_k ?u1 ?u2 ?u3 ?u4 ?u5 ?u6 ?u7 ?u8 ?u9 ?u10 ?_); k_extra "uc"; (case v1 => k_extra "side"); (case v2 => k_extra "side"); (case v3 => k_extra "side"); (case v4 => k_extra "side"); (case v5 => k_extra "side"); k_call_by "used" 0)))
  k_with "call ref" => (guard_hyp mk_pay_word : Mk; (k_here; (with_reducible show wpAny _ _ (call (Value.ref 212) _) _ _ _); k_dflt ((refine' Word.useK (one_word _ _ _ _ _ _ _ _ _ _ _ ?w1 ?v2 ?v3 ?v4 ?v5 ?v6 ?v7) one_word_k ?u1 ?u2 ?u3 ?u4 ?u5 ?u6 ?u7 ?u8 ?u9 ?u10 ?_); k_extra "uc"; (case w1 => k_extra "side"); (case v2 => k_extra "side"); (case v3 => k_extra "side"); (case v4 => k_extra "side"); (case v5 => k_extra "side"); (case v6 => k_extra "side"); (case v7 => k_extra "side"); k_call_by "used" 0)))
  k_with "eval ListComp" => (guard_hyp mk_pay_word : Mk; (k_here; (with_reducible show wpAny _ _ (eval (Expr.ListComp (Expr.Call _ _ _ _) _ _ _) _) _ _ _); k_dflt (refine ListComp_D (F₀ := by k_asm) (by rfl) (by decide) (by rfl) (by decide) (by rfl) ?_)))
  k_with "call type:tuple" => (guard_hyp mk_pay_word : Mk; (k_here; (with_reducible show wpAny _ _ (call (Value.type _) [Value.ref _]) _ _ _); k_dflt (refine' kde_tupleOf ?z9k1 ?z9k2 ?z9k3 ?z9k4 ?z9k5 ?_; (case z9k1 => k_asm); (case z9k2 => k_asm); (case z9k3 => exact News.isList (by k_asm) (by k_mem)); (case z9k4 => (simp only [List.size_toArray]; omega)); (case z9k5 => rfl); k_whole); intro _ _ _ _ l1; (try k_lt l1); (try k_sweep); (revert l1; intro _)))
  k_with "call type:bytes" => (guard_hyp mk_pay_word : Mk; (k_here; (with_reducible show wpAny _ _ (call (Value.type "bytes") [Value.ref _]) _ _ _); k_dflt (refine' KBa.make_K ?z9kbaF ?z9kbaN ?z9kbah ?z9kbal ?z9kbai ?z9kbar ?z9kban ?_; (case z9kbaF => k_asm); (case z9kbaN => k_asm); (case z9kbah => rfl); (case z9kbal => first | is_list | kba_isList); (case z9kbai => first | assumption | l_ints | l_intsW); (case z9kbar => first | assumption | exact in_hilo (by omega) (by omega) | exact in_head (by omega) (by omega) | exact in_mask (by omega) (by omega)); (case z9kban => first | omega | kba_size)); intro _ _ _ _ _ _))
  k_fill
  intro loose mean mg mb dp un gd cn cs ad ccd cl outer A₀ base h₀ L m s Q E B F X N T hk hdp hun hret
  refine wpAny_call ?_
  (refine' enterC (binds := [("source", .ref src)]) ?k1 ?k2 ?k3 ?k4 ?k5 ?kA ?kF ?kK ?k6 ?k7 ?k8 ?k9 ?kB ?kD ?_ ?c2 ?c3 ?c4; (case kA => exact rfl); (case kF => exact rfl); (case kK => assumption); (case k1 => k_asm); (case k2 => k_asm); (case k3 => k_asm); (case k4 => k_asm); (case k5 => k_asm); (case k6 => k_is); (case k7 => k_is); (case k8 => ktr_room); (case k9 => exact BindsTo.of_eq rfl); (case kB => exact rfl); (case kD => decide +kernel); (case c2 => exact rfl); (case c3 => exact rfl); (case c4 => exact rfl); k_whole)
  intro g' L' h' tk' cells' FG' F' N' Y' B' X' T' l1 hko hkb hsz; (try k_lt l1); k_cells Y'; (try simp only [List.cons_append, List.nil_append] at N'); (try dsimp only); (try k_fold)
  refine wpAny_noRaise ?_
  rename_i oc hoc
  generalize bindL _ _ _ = M0 at F'
  repeat' (first | ((fail_if_success (with_reducible show SrcD _ _ _ _ _ _ _ _ _ _ _ _ _ _)); first | (k_unfold; (try dsimp only)) | (k_end; kc_close) | walk1 | (dsimp only; walk1) | (leave1; walk_say "STEP leave1"; (try dsimp only)) | fail "no step") | fail "no step")
  rename_i d td a1 b1 ta1 tb1 n1 hd0 hd1 ha0 ha1 hb0 hb1 N1 hp tkp t1 u1 v1 hR FR NR KR
  refine SrcD.intro (by rfl) FR NR hR (small_one (by omega) (by omega) (by omega) (by omega)) (n := (d - 0).toNat) (rangeSize_nat _ _) (by rw [sizeLine_eq]; omega) ?_
  intro g1
  refine compRest_indP (fun p : PayB => p.ys) (fun p => [(src, PySem.W.listOf #[.int p.a p.ta, .int p.b p.tb] p.n), (L' + 1, oc)]) (fun i p => (0 ≤ p.a ∧ 0 ≤ p.b ∧ p.b < 2147483647) ∧ IntsAre p.ys p.ns ∧ KBa.In p.ns ∧ p.ns.length = i) (d - 0).toNat ?step ?done _ 0 ⟨a1, b1, ta1, tb1, n1, [], []⟩ (by omega) ⟨⟨ha0, hb0, hb1⟩, .nil, (fun _ h => nomatch h), rfl⟩
  case step =>
    intro k i p hik hp ih
    have p1 := hp.1.1
    have p2 := hp.1.2.1
    have p3 := hp.1.2.2
    have hin := hp.2.2.1
    refine CompRest.succ ?_
    intro v' I' oI' C' oC' D' m' h' tk' E' hv' hC' hx' F' N' off' ne'
    obtain ⟨i9', t9', hv9'⟩ := hv'
    subst hv9'
    try simp only [LCg.Off3, and_true] at off'
    k_steps
    refine ih ⟨_, _, _, _, _, _, _⟩ ⟨⟨‹_›, ‹_›, ‹_›⟩, IntsAre.append hp.2.1 (IntsAre.cons _ _ IntsAre.nil), ?_, ?_⟩
    · intro q hq
      rcases List.mem_append.mp hq with hq | hq
      · exact hin q hq
      · rw [List.mem_singleton.mp hq]; omega
    · rw [List.length_append, hp.2.2.2]; rfl
  case done =>
    intro p0 hp0
    obtain ⟨a', b', ta', tb', n', ns, ys⟩ := p0
    have p1 := hp0.1.1
    have p2 := hp0.1.2.1
    have p3 := hp0.1.2.2
    have hi := hp0.2.1
    have hin := hp0.2.2.1
    have hlen := hp0.2.2.2
    clear hp0
    dsimp only at p1 p2 p3 hi hin hlen ⊢
    have hnl : ns.length ≤ 5 := by omega
    repeat' (first | ((fail_if_success (with_reducible show RangeRest _ _ _ _ _ _ _ _ _ _ _ _ _ _ _ _ _)); first | (k_unfold; (try dsimp only)) | (k_end; kc_close) | walk1 | (dsimp only; walk1) | (leave1; walk_say "STEP leave1"; (try dsimp only)) | fail "no step") | fail "no step")
    · rename Fr g' _ _ _ => F8
      rename News h₀ _ _ _ => N8
      rename News g' _ _ _ => G8
      rename KBa.In [0, 1, _, _] => hA
      refine hret _ _ _ _ (fun b o e n => F8.keep b o (hko b o e n)) (take013 N8) ⟨_, _, _, _, _, _, _, _, _, _, _, _, _, _, rfl, rfl, KBw.ints_app (KBa.ints_make hA) (KBa.ints_make hin), pl_plain (by omega) (by omega) hnl, ⟨_, _, rfl, ⟨_, rfl⟩, rfl⟩, ‹_›, ‹_›, ‹_›, ?_, ?_⟩
      · exact fresh_of1 hko (G8 _ (.head _)).2.2 (by omega)
      · exact fresh_of1 hko (G8 _ (.tail _ (.head _))).2.2 (by omega)
    · rename_i md td a2 b2 ta2 tb2 n2 ha2 ha2' hb2 hb2' hmm lt hx6 lx2 D2 hx5 lx1 hx4 hx3 hx2 hx1 F2 N2 hx0 tk3 t3 u3 v3 hR2 hK2 ii lii
      have hmd : 0 ≤ md ∧ md ≤ 255 := d255 hmm (by assumption) (by assumption)
      clear hmm
      refine rangeRest_drop _ _ _ _ [(lt, PySem.W.listOf (([] : List Value).toArray) 0), (src, PySem.W.listOf #[.int a2 ta2, .int b2 tb2] n2), (L' + 1, oc)] (fun q hq => ?_) ?_
      · rcases List.mem_cons.mp hq with e | hq
        · rw [e]; k_mem
        · rcases List.mem_cons.mp hq with e | hq
          · rw [e]; k_mem
          · rcases List.mem_cons.mp hq with e | hq
            · rw [e]; k_mem
            · cases hq
      rw [jm_start]
      generalize hbv : Value.bytes (byteArr ns) _ = bhv
      refine rangeRest_indP (fun p : PayT => JM M0 md td lt bhv (.bytes p.oct p.tO) p.pT p.pP) (fun p => [(lt, PySem.W.listOf p.vs.toArray p.nl), (src, PySem.W.listOf #[.int p.a p.ta, .int p.b p.tb] p.n), (L' + 1, oc)]) (PayI md) 8 ?step8 ?done8 8 0 ⟨#[], _, _, _, [], _, [], _, _, _, _, _⟩ rfl ⟨‹_›, ‹_›, ‹_›, rfl, rfl, rfl, (fun _ h => nomatch h), (fun _ h => absurd h (Nat.not_lt_zero _))⟩
      case step8 =>
        intro k i p hik hp ih
        have hi8 : i < 8 := by omega
        have hosz : p.oct.size = 2 * i := by rw [← KBw.ints_length, hp.hol]
        have hvl : p.vs.length = i := hp.hT.length.trans hp.hll
        have q1 := hp.q1
        have q2 := hp.q2
        have q3 := hp.q3
        have hol := hp.hol
        have hos : KBw.bInts p.oct = KBw.bInts p.oct := rfl
        refine RangeRest.succ (fun t' h' tk' F' N' => ?_)
        repeat' (first | ((fail_if_success (with_reducible show wpAny _ _ (execs (Stmt.Assign _ _ _ :: Stmt.Expr _ _ :: []) _) _ _ _)); first | (k_unfold; (try dsimp only)) | (k_end; kc_close) | walk1 | (dsimp only; walk1) | (leave1; walk_say "STEP leave1"; (try dsimp only)) | fail "no step") | fail "no step")
        rename (_ = (0 : Int) ∨ _) => hmm
        have hd := d65 hmm (by assumption) (by assumption)
        clear hmm
        k_steps
        · rename_i h9x tk9x d9 t9 a9 b9 ta9 tb9 n9 pa0 pa1 pb0 pb1 tkx lx hx4 lx1 hx3 tx1 kx1 kin tx kx kap hx1 tkx1 hbit hx0 FX NX
          rw [bit_of] at hbit
          rw [jm_step, List.push_toArray]
          refine rangeRest_drop _ _ _ _ [(lt, PySem.W.listOf (p.vs ++ [Value.int d9 t9]).toArray (p.nl + 1)), (src, PySem.W.listOf #[.int a9 ta9, .int b9 tb9] n9), (L' + 1, oc)] (mem3 (by k_mem) (by k_mem) (by k_mem)) (ih ⟨_, _, _, _, _, _, p.l ++ [some d9], _, _, _, _, _⟩ ⟨pa0, pb0, pb1, ?_, TVs.snoc (o := some d9) (v := .int d9 t9) ⟨_, rfl⟩ hp.hT, ?_, ?_, ?_⟩)
          · rw [kap, List.length_append, hp.hol]; simp only [List.length_cons, List.length_nil]; omega
          · rw [List.length_append, hp.hll]; rfl
          · intro t ht
            rcases List.mem_append.mp ht with ht | ht
            · exact hp.hlr t ht
            · have ht := List.mem_singleton.mp ht
              cases ht; exact hd
          · rw [kap]; exact oct_step hd.1 hp.hol hp.hll hp.hlj (by rw [if_pos hbit])
        · rename_i h9x tk9x d9 t9 a9 b9 ta9 tb9 n9 pa0 pa1 pb0 pb1 tkx lx hx4 lx1 hx3 tx1 kx1 kin tx kx kap hx1 tkx1 hbit hx0 FX NX
          rw [bit_of] at hbit
          rw [jm_step, List.push_toArray]
          refine rangeRest_drop _ _ _ _ [(lt, PySem.W.listOf (p.vs ++ [Value.none]).toArray (p.nl + 1)), (src, PySem.W.listOf #[.int a9 ta9, .int b9 tb9] n9), (L' + 1, oc)] (mem3 (by k_mem) (by k_mem) (by k_mem)) (ih ⟨_, _, _, _, _, _, p.l ++ [none], _, _, _, _, _⟩ ⟨pa0, pb0, pb1, ?_, TVs.snoc (o := none) (v := .none) rfl hp.hT, ?_, ?_, ?_⟩)
          · rw [kap, List.length_append, hp.hol]; simp only [List.length_cons, List.length_nil]; omega
          · rw [List.length_append, hp.hll]; rfl
          · intro t ht
            rcases List.mem_append.mp ht with ht | ht
            · exact hp.hlr t ht
            · have ht := List.mem_singleton.mp ht
              cases ht
          · rw [kap]; exact oct_step hd.1 hp.hol hp.hll hp.hlj (by rw [if_neg hbit])
      case done8 =>
        intro p hp hh tkh Fh Nh
        subst hbv
        have hosz : p.oct.size = 16 := by rw [← KBw.ints_length, hp.hol]
        have hvl : p.vs.length = 8 := hp.hT.length.trans hp.hll
        have hol := hp.hol
        have hos : KBw.bInts p.oct = KBw.bInts p.oct := rfl
        k_steps
        · rename Fr g' _ _ _ => F8
          rename News h₀ _ _ _ => N8
          rename News g' _ _ _ => G8
          refine hret _ _ _ _ (fun b o e n => F8.keep b o (hko b o e n)) (take014 N8) ⟨_, _, _, _, _, _, _, _, _, _, _, _, _, _, rfl, rfl, KBw.ints_app (KBw.ints_app (KBa.ints_make (in_mask hmd.1 hmd.2)) rfl) (KBa.ints_make hin), pl_eight hmd.1 hmd.2 hp.hol hnl hp.hll hp.hlr hp.hlj, hp.hT, hp.q1, hp.q2, hp.q3, ?_, ?_⟩
          · exact fresh_of1 hko (G8 _ (.head _)).2.2 (by omega)
          · exact fresh_of1 hko (G8 _ (.tail _ (.head _))).2.2 (by omega)
theorem pay_word_k {src : Addr} (h h' : Heap) (R₀ : Value → Led → Prop) (k₀ : ∀ R T B tB vs nR nT ks l a' b' ta' tb' n', (KBw.bInts B = ks) → (PL ks l) → (TVs l vs) → (0 ≤ a') → (0 ≤ b') → (b' < 2147483647) → (h.get? R = none) → (h.get? T = none) → (R₀ (.ref R) [(R, tupO [.bytes B tB, .ref T] nR), (T, tupO vs nT), (src, PySem.W.listOf #[.int a' ta', .int b' tb'] n')])) (r : Value) (own' : Led) (p₀ : ∃ R T B tB vs nR nT ks l a' b' ta' tb' n', r = .ref R ∧ own' = [(R, tupO [.bytes B tB, .ref T] nR), (T, tupO vs nT), (src, PySem.W.listOf #[.int a' ta', .int b' tb'] n')] ∧ KBw.bInts B = ks ∧ PL ks l ∧ TVs l vs ∧ 0 ≤ a' ∧ 0 ≤ b' ∧ b' < 2147483647 ∧ h.get? R = none ∧ h.get? T = none) : R₀ r own' := by
  obtain ⟨R, T, B, tB, vs, nR, nT, ks, l, a', b', ta', tb', n', rfl, rfl, c0, c1, c2, c3, c4, c5, c6, c7⟩ := p₀
  exact k₀ R T B tB vs nR nT ks l a' b' ta' tb' n' c0 c1 c2 c3 c4 c5 c6 c7
end

section
open PySem PySem.W PyProof.Rows PySem.Calls PySem.Spec PyProof.Rows.LCg


set_option maxHeartbeats 8000000 in
theorem pool_word (w : World) (sc : Addr) (k : Int) (tk0 : Tok) (vs : List Value) (ns : List Int) (hi : IntsAre vs ns) (hk0 : 0 ≤ k) (hk1 : k ≤ 1) (hlen : ns.length ≤ 63) :
    WordH w (fun h => h.IsList sc vs.toArray) 198 [.ref sc, .int k tk0] [] 1 (fun h h' r own' => ∃ p a b ta tb n', r = .ref p ∧ own' = [(p, PySem.W.listOf #[.int a ta, .int b tb] n')] ∧ 0 ≤ a ∧ 0 ≤ b ∧ b < 2147483647 ∧ h.get? p = none) := by
  unfold WordH
  k_fill
  intro loose mean mg mb dp un gd cn cs ad ccd cl outer A₀ base h₀ L m s Q E hH B F X N T hk hdp hun hret
  refine wpAny_call ?_
  (refine' enterO (binds := [("script", .ref sc), ("k", .int k tk0)]) ?k1 ?k2 ?k3 ?k4 ?k5 ?kA ?kF ?kK ?k6 ?k7 ?k8 ?k9 ?kB ?_ ?c2 ?c3 ?c4 ?c5; (case kA => exact rfl); (case kF => exact rfl); (case kK => assumption); (case k1 => k_asm); (case k2 => k_asm); (case k3 => k_asm); (case k4 => k_asm); (case k5 => k_asm); (case k6 => k_is); (case k7 => k_is); (case k8 => ktr_room); (case k9 => exact BindsTo.of_eq rfl); (case c5 => decide); (case kB => exact locs rfl); (case c2 => exact rfl); (case c3 => exact rfl); (case c4 => exact rfl); k_whole)
  intro g' L' h' FG' F' N' B' X' T' l1 hko hkb hsz; (try k_lt l1); (try dsimp only); (try k_fold)
  have hl' : g'.IsList sc vs.toArray := by
    obtain ⟨o, ho, r⟩ := hH
    exact ⟨o, FG'.keep _ _ ho, r⟩
  k_steps
  all_goals
    rename Fr g' _ _ _ => F8
    rename News h₀ _ _ _ => N8
    rename News g' _ _ _ => G8
    refine hret _ _ _ _ (fun b o e n => F8.keep b o (hko b o e n)) N8 ⟨_, _, _, _, _, _, rfl, rfl, ?_, Int.fmod_nonneg_of_pos _ (by decide), Int.fmod_lt_of_pos _ (by decide), ?_⟩
    · omega
    · exact fresh_of (own := []) hko (G8 _ (.head _)).2.2 (fun q => nomatch q)
end

section
open PySem PySem.W PyProof.Rows PySem.Calls PySem.Spec
/-- the places that are told, below i -/
def tolds (l : List (Option Int)) (i : Nat) : List Int := ((List.range i).filter fun j => (l.getD j none).isSome).map fun (j : Nat) => (j : Int)
def maskL (l : List (Option Int)) : Int := ((tolds l 8).map fun k => 1 * 2 ^ k.toNat).sum
def octsL (l : List (Option Int)) : List Int := l.flatMap fun o => [o.getD 0 / 256, o.getD 0 % 256]
def maskB (l : List Bool) : Int := (((List.range 8).filter fun j => l.getD j false).map fun j => (1 * 2 ^ j : Int)).sum
theorem mask_eq (l : List (Option Int)) : maskL l = maskB (l.map Option.isSome) := by
  unfold maskL maskB tolds
  rw [List.map_map]
  congr 1
  have e : (fun j => (l.getD j none).isSome) = fun j => (l.map Option.isSome).getD j false := by
    funext j
    simp only [List.getD_eq_getElem?_getD, List.getElem?_map]
    cases l[j]? <;> rfl
  rw [e]
  rfl
theorem bits8 : ∀ b0 b1 b2 b3 b4 b5 b6 b7 : Bool, 0 ≤ maskB [b0, b1, b2, b3, b4, b5, b6, b7] ∧ maskB [b0, b1, b2, b3, b4, b5, b6, b7] ≤ 255 ∧ ∀ j, j < 8 → (((maskB [b0, b1, b2, b3, b4, b5, b6, b7] / 2 ^ j) % 2 = 1) ↔ [b0, b1, b2, b3, b4, b5, b6, b7].getD j false = true) := by decide +kernel
theorem opt8 {l : List (Option Int)} (h : l.length = 8) : ∃ a b c d e f g k, l = [a, b, c, d, e, f, g, k] := by
  match l, h with
  | [a, b, c, d, e, f, g, k], _ => exact ⟨a, b, c, d, e, f, g, k, rfl⟩
theorem mask_bits {l : List (Option Int)} (h : l.length = 8) : 0 ≤ maskL l ∧ maskL l ≤ 255 ∧ ∀ j, j < 8 → (((maskL l / 2 ^ j) % 2 = 1) ↔ (l.getD j none).isSome = true) := by
  obtain ⟨a, b, c, d, e, f, g, k, rfl⟩ := opt8 h
  rw [mask_eq]
  obtain ⟨x, y, z⟩ := bits8 a.isSome b.isSome c.isSome d.isSome e.isSome f.isSome g.isSome k.isSome
  refine ⟨x, y, fun j hj => (z j hj).trans ?_⟩
  rw [show ([a, b, c, d, e, f, g, k].getD j none).isSome = ([a, b, c, d, e, f, g, k].map Option.isSome).getD j false by
    simp only [List.getD_eq_getElem?_getD, List.getElem?_map]
    cases [a, b, c, d, e, f, g, k][j]? <;> rfl]
  rfl
theorem octs_get : ∀ (l : List (Option Int)) (j : Nat), j < l.length → (octsL l).getD (2 * j) 0 = (l.getD j none).getD 0 / 256 ∧ (octsL l).getD (2 * j + 1) 0 = (l.getD j none).getD 0 % 256
  | [], j, h => absurd h (Nat.not_lt_zero _)
  | o :: l, 0, _ => ⟨rfl, rfl⟩
  | o :: l, j + 1, h => by
    obtain ⟨e1, e2⟩ := octs_get l j (Nat.lt_of_succ_lt_succ h)
    exact ⟨e1, e2⟩
theorem octs_length : ∀ (l : List (Option Int)), (octsL l).length = 2 * l.length
  | [] => rfl
  | o :: l => by
    show (octsL l).length + 1 + 1 = 2 * (l.length + 1)
    rw [octs_length l]; omega
theorem pl_pack {l : List (Option Int)} (h8 : l.length = 8) (hr : ∀ t, some t ∈ l → 0 ≤ t ∧ t ≤ 65535) : PL ([257 / 256, 257 % 256] ++ [maskL l / 256, maskL l % 256] ++ octsL l) l := by
  obtain ⟨m0, m1, mb⟩ := mask_bits h8
  have e3 : maskL l % 256 = maskL l := by omega
  have g : ∀ i, i < 16 → ([257 / 256, 257 % 256] ++ [maskL l / 256, maskL l % 256] ++ octsL l).getD (4 + i) 0 = (octsL l).getD i 0 := fun i hi => by
    rw [List.getD_eq_getElem?_getD, List.getElem?_append_right (by simp only [List.length_append, List.length_cons, List.length_nil]; omega), List.getD_eq_getElem?_getD]
    congr 2
    simp only [List.length_append, List.length_cons, List.length_nil]; omega
  refine .inr ⟨?_, ?_, ?_, ?_, ?_, ?_, hr, ?_⟩
  · rw [List.length_append, octs_length, h8]; simp only [List.length_append, List.length_cons, List.length_nil]; omega
  · rw [List.length_append, octs_length, h8]; simp only [List.length_append, List.length_cons, List.length_nil]; omega
  · show (257 : Int) / 256 = 1; decide
  · show (257 : Int) % 256 = 1; decide
  · show maskL l / 256 = 0; omega
  · show 0 ≤ maskL l % 256 ∧ maskL l % 256 ≤ 255; omega
  · apply List.ext_getElem?
    intro j
    by_cases hj : j < 8
    · have e0 : (([257 / 256, 257 % 256] ++ [maskL l / 256, maskL l % 256] ++ octsL l : List Int)).getD 3 0 = maskL l % 256 := rfl
      rw [unp8_get _ j hj, g (2 * j) (by omega), show 5 + 2 * j = 4 + (2 * j + 1) by omega, g (2 * j + 1) (by omega), e0, e3]
      obtain ⟨o1, o2⟩ := octs_get l j (by omega)
      rw [o1, o2]
      have hb := mb j hj
      rw [List.getElem?_eq_getElem (by omega)]
      have eg : l.getD j none = l[j]'(by omega) := by rw [List.getD_eq_getElem?_getD, List.getElem?_eq_getElem (by omega)]; rfl
      rw [eg] at hb ⊢
      cases hv : l[j]'(by omega) with
      | none =>
        rw [hv] at hb
        rw [if_neg (fun q => by have := hb.mp q; cases this)]
      | some t =>
        rw [hv] at hb
        have ht := hr t (hv ▸ List.getElem_mem _)
        rw [if_pos (hb.mpr rfl)]
        show some (some t) = some (some (t / 256 * 256 + t % 256))
        rw [show t / 256 * 256 + t % 256 = t by omega]
    · rw [List.getElem?_eq_none (by omega), List.getElem?_eq_none (by rw [unp8_length]; omega)]
theorem tolds_succ (l : List (Option Int)) (i : Nat) : tolds l (i + 1) = tolds l i ++ (if (l.getD i none).isSome then [0 + (i : Int)] else []) := by
  unfold tolds
  rw [List.range_succ, List.filter_append, List.map_append]
  congr 1
  by_cases h : (l.getD i none).isSome = true
  · rw [if_pos h, List.filter_cons, if_pos h, Int.zero_add]; rfl
  · rw [if_neg h, List.filter_cons, if_neg h]; rfl
theorem tolds_none {l : List (Option Int)} {i : Nat} (h : l[i]? = some none) : tolds l (i + 1) = tolds l i := by
  rw [tolds_succ, List.getD_eq_getElem?_getD, h]; exact List.append_nil _
theorem tolds_some {l : List (Option Int)} {i : Nat} {t : Int} (h : l[i]? = some (some t)) : tolds l (i + 1) = tolds l i ++ [0 + (i : Int)] := by
  rw [tolds_succ, List.getD_eq_getElem?_getD, h]; rfl
theorem tolds_mem {l : List (Option Int)} {k : Int} (h : k ∈ tolds l 8) : 0 ≤ k ∧ k < 8 := by
  unfold tolds at h
  obtain ⟨j, hj, e⟩ := List.mem_map.mp h
  have := List.mem_range.mp (List.mem_filter.mp hj).1
  omega
theorem tolds_len (l : List (Option Int)) : (tolds l 8).length ≤ 8 := by
  unfold tolds
  rw [List.length_map]
  exact Nat.le_trans (List.length_filter_le _ _) (Nat.le_of_eq (List.length_range))
theorem intsAre_get {vs : List Value} {ns : List Int} (h : IntsAre vs ns) : ∀ {i : Nat} {v : Value}, vs[i]? = some v → ∃ k t, v = .int k t ∧ ns[i]? = some k := by
  induction h with
  | nil => intro i v e; cases i <;> cases e
  | cons n t _ ih =>
    intro i v e
    cases i with
    | zero => exact ⟨n, t, by simpa using e.symm, rfl⟩
    | succ i => obtain ⟨k, u, a, b⟩ := ih (i := i) (v := v) (by simpa using e); exact ⟨k, u, a, by simpa using b⟩
/-- octets of the times, and the bytes that are joined -/
def BtsOf : List (Option Int) → List (Array UInt8 × Tok) → Prop
  | [], ps => ps = []
  | o :: l, ps => ∃ b t r, ps = (b, t) :: r ∧ KBw.bInts b = [o.getD 0 / 256, o.getD 0 % 256] ∧ BtsOf l r
theorem BtsOf.snoc {o : Option Int} {b : Array UInt8} {t : Tok} (hb : KBw.bInts b = [o.getD 0 / 256, o.getD 0 % 256]) : ∀ {l : List (Option Int)} {ps : List (Array UInt8 × Tok)}, BtsOf l ps → BtsOf (l ++ [o]) (ps ++ [(b, t)])
  | [], ps, h => by rw [show ps = [] from h]; exact ⟨b, t, [], rfl, hb, rfl⟩
  | x :: l, ps, h => by obtain ⟨c, u, r, e, hc, h⟩ := h; exact ⟨c, u, r ++ [(b, t)], by rw [e]; rfl, hc, BtsOf.snoc hb h⟩
theorem BtsOf.length : ∀ {l : List (Option Int)} {ps : List (Array UInt8 × Tok)}, BtsOf l ps → ps.length = l.length
  | [], ps, h => by rw [show ps = [] from h]; rfl
  | x :: l, ps, h => by obtain ⟨c, u, r, e, hc, h⟩ := h; rw [e, List.length_cons, List.length_cons, BtsOf.length h]
theorem BtsOf.sizes : ∀ {l : List (Option Int)} {ps : List (Array UInt8 × Tok)}, BtsOf l ps → (ps.map fun p => p.1.size).sum = 2 * l.length
  | [], ps, h => by rw [show ps = [] from h]; rfl
  | x :: l, ps, h => by
    obtain ⟨c, u, r, e, hc, h⟩ := h
    have hl := congrArg List.length hc
    rw [KBw.ints_length] at hl
    rw [e, List.map_cons, List.sum_cons, BtsOf.sizes h, List.length_cons, hl]
    simp only [List.length_cons, List.length_nil]; omega
theorem BtsOf.fold : ∀ {l : List (Option Int)} {ps : List (Array UInt8 × Tok)} {a : Array UInt8} {ns : List Int}, BtsOf l ps → KBw.bInts a = ns → KBw.bInts ((ps.map fun p => p.1).foldl (· ++ ·) a) = ns ++ octsL l
  | [], ps, a, ns, h, ha => by rw [show ps = [] from h, ← ha]; exact (List.append_nil _).symm
  | x :: l, ps, a, ns, h, ha => by
    obtain ⟨c, u, r, e, hc, h⟩ := h
    rw [e, List.map_cons, List.foldl_cons, BtsOf.fold h (KBw.ints_app ha hc), List.append_assoc]
    rfl
end

section
open PySem PySem.W PyProof.Rows PySem.Calls PySem.Spec PyProof.Rows.LCg

section
variable {M : Model} {A : Around} {E : Value → Shared → Prop} {s : Shared} {env : Env}
/-- a raise that leaves a comprehension -/
def ErrE (M : Model) (A : Around) (E : Value → Shared → Prop) (cenv : Env) (x : Value) (s' : Shared) : Prop :=
  ∃ m, s'.heap.Ns cenv.locals m ∧ ∀ h', Heap.SameBut cenv.locals s'.heap h' → wpAny M A (passOn "comprehension.variables-let-go" x cenv : Sem Value) (fun _ _ => False) E { s' with heap := h' }
def postE (M : Model) (A : Around) (E : Value → Shared → Prop) (use : Option (Value → Sem Unit)) (Q : Value → Shared → Prop) (acc : Value) (cenv : Env) (r : Result) (s' : Shared) : Prop :=
  match r with
  | .ok _ => (match use with
    | none => ∃ m, s'.heap.Ns cenv.locals m ∧ ∀ h', Heap.SameBut cenv.locals s'.heap h' → Q acc { s' with heap := h' }
    | some u => wpAny M A (u acc) (fun _ s'' => ∃ m, s''.heap.Ns cenv.locals m ∧ ∀ h', Heap.SameBut cenv.locals s''.heap h' → Q .none { s'' with heap := h' }) E s')
  | .error x => ErrE M A E cenv x s'
theorem comprehensionE {e : Expr} {scope : Scope} {pos : Pos} {newAcc first : Sem Value} {g : Comprehension} {gs : List Comprehension} {cl : List (Str × Addr)} {use : Option (Value → Sem Unit)} {Q : Value → Shared → Prop}
    (hcl : clausesOf e = g :: gs) (hs : ∀ x, foldedSetIterable g.iter env x = pure x) (hclos : closureFor scope env = pure cl)
    (hkind : scope.kind = .function) (hnames : ∀ x ∈ scope.names, x.2 = .local → scope.names.lookup x.1 = some .local)
    (h : wpAny M A first (fun x s₁ => wpAny M A (pyIter x) (fun it s₂ => wpAny M A newAcc (fun acc s₃ =>
      wpAny M A (newFunctionEnv scope env.globals cl [] env.qual none .none (some env)) (fun cenv s₄ =>
        codeAny M A (.compStart e 0 it acc { cenv with scope := relabel scope env }) (postE M A E use Q acc { cenv with scope := relabel scope env }) s₄) E s₃) E s₂) E s₁) E s) :
    wpAny M A (comprehension e scope env pos newAcc false first use) Q E s := by
  unfold comprehension
  rw [hclos, hcl]
  refine wpAny_bind (wpAny_mono h (fun x s₁ h₁ => wpAny_bind (wpAny_standAt (wpAny_bind (wpAny_of_eq (hs x) (wpAny_bind (wpAny_holding (wpAny_mono h₁ (fun it s₂ h₂ =>
    wpAny_standIf (wpAny_bind (wpAny_mono h₂ (fun acc s₃ h₃ => wpAny_bind (wpAny_pure (wpAny_bind (wpAny_mono h₃ (fun cenv s₄ h₄ => ?_) fun _ _ h' => h')))) fun _ _ h' => h')))
      fun _ _ h' => h'))))))) fun _ _ h' => h')
  dsimp only
  have loc : ∀ y : Str × NameKind, y ∈ (scope.names.filter fun x => (x.2 == .local || x.2 == .cell) && x.1 != (".0" : Str)) → y.2 = .local → Env.kindOf { cenv with scope := relabel scope env } y.1 = some .local :=
    fun y hy hl => lookup_relabel_local (hnames y (List.mem_filter.mp hy).1 hl)
  have v1 : ∀ y ∈ (scope.names.filter fun x => (x.2 == .local || x.2 == .cell) && x.1 != (".0" : Str)).reverse, y.2 = .local → Env.kindOf { cenv with scope := relabel scope env } y.1 = some .local :=
    fun y hy hl => loc y (List.mem_reverse.mp hy) hl
  have v2 : ∀ y ∈ (scope.names.filter fun x => (x.2 == .local || x.2 == .cell) && x.1 != (".0" : Str)).reverse.drop 1 ++ (scope.names.filter fun x => (x.2 == .local || x.2 == .cell) && x.1 != (".0" : Str)).reverse.take 1,
      y.2 = .local → Env.kindOf { cenv with scope := relabel scope env } y.1 = some .local := fun y hy hl => by
    rcases List.mem_append.mp hy with h1 | h1
    · exact v1 y (List.mem_of_mem_drop h1) hl
    · exact v1 y (List.mem_of_mem_take h1) hl
  refine wpAny_holding (wpAny_bind (wpAny_attempt (wpAny_holding (wpAny_run (codeAny_mono h₄ fun r s' hr => ?_)))))
  cases r with
  | ok f =>
    cases use with
    | none =>
      obtain ⟨m, hn, hr⟩ := hr
      exact wpAny_bind (wpAny_holding (wpAny_comp_letGo (cenv := { cenv with scope := relabel scope env }) hkind _ s' m v1 hn fun h' m' _ hs' => wpAny_pure (hr h' hs')))
    | some u =>
      refine wpAny_bind (wpAny_rule (wpAny_bind (wpAny_holding (wpAny_mono hr (fun _ s'' hr' => ?_) fun _ _ h' => h'))))
      obtain ⟨m, hn, hr'⟩ := hr'
      exact wpAny_bind (wpAny_comp_letGo (cenv := { cenv with scope := relabel scope env }) hkind _ s'' m v2 hn fun h' m' _ hs' => wpAny_pure (hr' h' hs'))
  | error x =>
    obtain ⟨m, hn, hr⟩ := (hr : ErrE M A E { cenv with scope := relabel scope env } x s')
    exact wpAny_bind (wpAny_holding (wpAny_comp_letGo (cenv := { cenv with scope := relabel scope env }) hkind _ s' m v1 hn fun h' m' _ hs' => wpAny_mono (hr h' hs') (fun _ _ f => f.elim) fun _ _ y => y))
end

section
variable {prog : Program} {w : World} {A : Around} {E : Value → Shared → Prop} {s : Shared} {h₀ : Heap} {L : Addr} {m : Str → Option Value} {env : Env}
/-- the tuple stands in the ledger (or: the shape that the turn's end is asked in) -/
def TSrc (T : Addr) (vs : List Value) (nw : Led) : Prop := False ∨ ∃ o, (T, o) ∈ nw ∧ o.cls = .type "tuple" ∧ ∃ n, o.data = .seq vs.toArray n
theorem TSrc.tup {h₀ h : Heap} {L T : Addr} {vs : List Value} {nw : Led} (x : TSrc T vs nw) (N : News h₀ L h nw) : h.IsTuple T vs.toArray := by
  rcases x with x | ⟨o, hm, hc, n, hd⟩
  · exact x.elim
  · exact ⟨o, (N _ hm).1, hc, n, hd⟩
/-- the turns of a comprehension over a tuple that stands in the ledger; what becomes of a raise is said -/
def TupRest (prog : Program) (w : World) (A : Around) (E : Value → Shared → Prop) (h₀ : Heap) (L : Addr) (m : Str → Option Value) (env : Env) (elt : Expr) (x : Str) (scope : Scope) (cl : List (Str × Addr)) (s : Shared) (T : Addr) (vs : List Value)
    (Fin : List Value → Led → Prop) : Nat → Nat → List Value → Led → Prop
  | 0, _, ys, news => Fin ys news
  | k + 1, i, ys, news => ∀ v I oI C oC D m₂ h tk, vs[i]? = some v → NsObj oC m₂ → m₂ x = some v → Fr h₀ L h m → News h₀ L h ((I, oI) :: (C, oC) :: (D, lst ys) :: news) → Off3 I C D news → ((@Ne Nat I C) ∧ (@Ne Nat I D) ∧ (@Ne Nat C D)) →
      wpAny (model prog w) A (eval elt (compEnvC scope cl C env)) (CompEnd h₀ L m { s with heap := h, toks := tk } I oI C oC D (lst ys) (TSrc T vs) (fun y news' => TupRest prog w A E h₀ L m env elt x scope cl s T vs Fin k (i + 1) (ys ++ [y]) news'))
        (notedBy (model prog w) A (compEnvC scope cl C env) (ErrE (model prog w) A E (compEnvC scope cl C env))) { s with heap := h, toks := tk }

theorem block_E {elt iter : Expr} {x : Str} {px : Pos} {scope : Scope} {cl : List (Str × Addr)} {pos : Pos} {s₁ : Shared} {T : Addr} {vs : List Value} {nT : Nat} {news : Led} {Fin : List Value → Led → Prop} {use : Option (Value → Sem Unit)} {Qc : Value → Shared → Prop}
    (hh : A.handled = none) (hsz : vs.length ≤ sizeLine) (hcell : ∀ y ∈ scope.names, y.2 ≠ .cell) (hkind : scope.kind = .function) (hx : scope.names.lookup x = some .local)
    (F : Fr h₀ L s₁.heap m) (N : News h₀ L s₁.heap news) (hT0 : (T, tupO vs nT) ∈ news)
    (R : TupRest prog w A E h₀ L m env elt x scope cl s₁ T vs Fin vs.length 0 [] news)
    (hRR : ∀ D C h tk m' ys news', Fr h₀ L h m → News h₀ L h ((D, lst ys) :: news') → Off1 D news' → h.Ns C m' → h₀.get? C = none → h₀.get? D = none → C ≠ L → D ≠ L → C ≠ D → (∀ p ∈ news', p.1 ≠ C) → Fin ys news' →
      postE (model prog w) A E use Qc (.ref D) (compEnvC scope cl C env) (.ok .next) { s₁ with heap := h, toks := tk }) :
    wpAny (model prog w) A (pyIter (.ref T)) (fun it s₂ => wpAny (model prog w) A (newList []) (fun acc s₃ => wpAny (model prog w) A (newFunctionEnv scope env.globals cl [] env.qual none .none (some env)) (fun cenv s₄ =>
      codeAny (model prog w) A (.compStart (.ListComp elt [⟨.Name x px, iter, [], 0⟩] scope pos) 0 it acc { cenv with scope := relabel scope env }) (postE (model prog w) A E use Qc acc { cenv with scope := relabel scope env }) s₄) E s₃) E s₂) E s₁ := by
  have hT : TSrc T vs news := .inr ⟨_, hT0, rfl, _, rfl⟩
  have ht : s₁.heap.IsTuple T vs.toArray := hT.tup N
  have hlt : T < s₁.heap.objs.size := Heap.lt_size (N _ hT0).1
  refine wpAny_pyIter_tuple ht ?_
  generalize hI : s₁.heap.objs.size = I
  generalize hs2 : s₁.heap.push { cls := .type "tuple_iterator", data := .fields #[.ref T, .int 0 0] } = H1
  have up : ∀ b o, s₁.heap.get? b = some o → H1.get? b = some o := fun b o e => hs2 ▸ Heap.get?_push_of_some _ e
  have W := Walks.tuple (prog := prog) (w := w) hh I T (by rw [← hI]; exact Nat.ne_of_lt hlt) vs.toArray
  have hst : H1.IsTupleIter I T 0 ∧ H1.IsTuple T vs.toArray := by
    subst hs2 hI
    exact ⟨⟨_, Heap.get?_push_size _ rfl, rfl, rfl⟩, ht.push _⟩
  have hH1 : H1.objs.size = I + 1 := by rw [← hs2, Heap.size_push, hI]
  have F1 : Fr h₀ L H1 m := F.keeps up
  have N1 : News h₀ L H1 news := N.grown up
  have nI : s₁.heap.get? I = none := hI ▸ Heap.get?_none_of_le (Nat.le_refl _)
  have hI₀ : h₀.get? I = none := by
    cases e : h₀.get? I with
    | none => rfl
    | some o => have := F.keep _ _ e; rw [nI] at this; cases this
  have hIL : L ≠ I := hI ▸ Nat.ne_of_lt F.ns.lt
  have off : ∀ p ∈ news, p.1 ≠ I := fun p hp => hI ▸ Nat.ne_of_lt (Heap.lt_size (N p hp).1)
  refine wpAny_newObj_type (wpAny_newFunctionEnv hcell (by intro y hy; simp at hy) (fun h₁ hns₁ hsb₁ => ?_) hkind)
  dsimp only at hns₁ hsb₁ ⊢
  generalize hD : H1.objs.size = D at hns₁ hsb₁ ⊢
  generalize hH2 : H1.push { cls := .type "list", dict := none, data := .seq ([] : List Value).toArray } = H2 at hns₁ hsb₁ ⊢
  have hC2 : H2.objs.size = D + 1 := by rw [← hH2, Heap.size_push, hD]
  generalize hC : H2.objs.size = C at hns₁ hsb₁ ⊢
  have eD : D = I + 1 := by rw [← hD, hH1]
  have eC : C = I + 2 := by rw [← hC, hC2, eD]
  have hlast : ∀ b o, H1.get? b = some o → @LT.lt Nat _ b D := fun b o e => hD ▸ Heap.lt_size e
  have old : ∀ b o, H1.get? b = some o → h₁.get? b = some o := fun b o e => hsb₁.extBut b o (by have := hlast b o e; show @Ne Nat _ _; omega) (Heap.get?_push_of_some _ (hH2 ▸ Heap.get?_push_of_some _ e))
  have hacc : h₁.get? D = some (lst []) := hsb₁.extBut _ _ (by show @Ne Nat _ _; omega) (Heap.get?_push_of_some _ (by rw [← hH2]; rw [← hD]; exact Heap.get?_push_size _ rfl))
  have fresh₀ : ∀ a, D ≤ a → h₀.get? a = none := fun a ha => by
    cases e : h₀.get? a with
    | none => rfl
    | some o' => have z : @LT.lt Nat _ a D := hlast a o' (F1.keep a o' e); exact absurd (show @LE.le Nat _ D a from ha) (by omega)
  have hD₀ := fresh₀ D (Nat.le_refl _)
  have hC₀ := fresh₀ C (by omega)
  have hLD : @LT.lt Nat _ L D := by obtain ⟨o, _, _, e, _⟩ := F1.ns; exact hlast L o e
  have nlt : ∀ p ∈ news, @LT.lt Nat _ p.1 I := fun p hp => hI ▸ Heap.lt_size (N p hp).1
  have off₀ : Off3 I C D news := Off3.of fun p hp => by have := nlt p hp; refine ⟨?_, ?_, ?_⟩ <;> (show @Ne Nat _ _; omega)
  have eCI : I ≠ C := by show @Ne Nat _ _; omega
  have eDI : I ≠ D := by show @Ne Nat _ _; omega
  have eCD : C ≠ D := by show @Ne Nat _ _; omega
  have hCL : C ≠ L := by show @Ne Nat _ _; omega
  have hDL : D ≠ L := by show @Ne Nat _ _; omega
  have hTI : @LT.lt Nat _ T I := hI ▸ hlt
  have loop : ∀ s₃ : Shared, s₃ = { s₁ with heap := h₁, toks := s₁.toks + ([] : List (Str × Value)).length } →
      codeAny (model prog w) A (.compLoop (.ListComp elt [⟨.Name x px, iter, [], 0⟩] scope pos) 0 (.ref I) (.ref D) (compEnvC scope cl C env)) (postE (model prog w) A E use Qc (.ref D) (compEnvC scope cl C env)) s₃ := by
    rintro s₃ rfl
    refine codeAny_compLoop_tests
      (fun k s' => ∃ h' tk i ys m' news', s' = { s₁ with heap := h', toks := tk } ∧ i ≤ vs.length ∧ k = vs.length + 1 - i ∧ ys.length = i ∧ (h'.IsTupleIter I T i ∧ h'.IsTuple T vs.toArray) ∧ Fr h₀ L h' m ∧ h'.Ns C m' ∧ News h₀ L h' ((D, lst ys) :: news') ∧
        Off3 I C D news' ∧ TSrc T vs news' ∧ TupRest prog w A E h₀ L m env elt x scope cl s₁ T vs Fin (vs.length - i) i ys news') ?_ (vs.length + 1)
      ⟨h₁, _, 0, [], _, news, rfl, Nat.zero_le _, rfl, rfl, W.frame _ _ _ hst fun b _ o e => old b o e, F1.keeps old, hns₁, fun p hp => ?_, off₀, hT, R⟩
    · rintro k s' ⟨h', tk, i, ys, m', news', rfl, hi, rfl, hyl, hst', F', hn', N', off', hS', R'⟩
      by_cases hlt : i < vs.length
      · obtain ⟨j, hj⟩ : ∃ j, vs.length - i = j + 1 := ⟨vs.length - i - 1, by omega⟩
        rw [hj] at R'
        refine W.item i _ _ _ (by simpa using hlt) hst' fun v h₂ tk₂ hPv hst₂ hk₂ => ?_
        refine wpAny_assign_Name (wpAny_storeName_local (lookup_relabel_local hx) (hn'.at' fun o e => hk₂ _ o (by simpa using Ne.symm eCI) e) (fun h₃ hn₃ hs₃ => ?_) (by simp [compEnvC, relabel, hkind]))
        refine wpAny_tests_nil ?_
        simp only [if_true]
        have hst₃ := W.frame (i + 1) _ h₃ hst₂ fun b hb o e => hs₃.extBut b o (fun q => by
          have q' : @Eq Nat b C := q
          rcases List.mem_cons.mp hb with z | z
          · have z : @Eq Nat b I := z
            omega
          · have z : @Eq Nat b T := List.mem_singleton.mp z
            omega) e
        obtain ⟨oI, heI, _⟩ := id hst₃.1
        obtain ⟨oC, heC, hoC⟩ := ns_obj hn₃
        have F₃ : Fr h₀ L h₃ m := (fr_but F' hk₂ hIL hI₀).change hs₃ hCL hC₀
        have off3 := off'.mem
        have N₂ : News h₀ L h₂ ((D, lst ys) :: news') := news_but N' hk₂ fun p hp => by
          rcases List.mem_cons.mp hp with rfl | hp
          · exact Ne.symm eDI
          · exact (off3 p hp).1
        have N₃ : News h₀ L h₃ ((I, oI) :: (C, oC) :: (D, lst ys) :: news') := fun p hp => by
          rcases List.mem_cons.mp hp with rfl | hp
          · exact ⟨heI, Ne.symm hIL, hI₀⟩
          · rcases List.mem_cons.mp hp with rfl | hp
            · exact ⟨heC, hCL, hC₀⟩
            · have z := N₂ p hp
              refine ⟨hs₃.extBut _ _ ?_ z.1, z.2⟩
              rcases List.mem_cons.mp hp with rfl | hp
              · exact Ne.symm eCD
              · exact (off3 p hp).2.1
        refine wpAny_mono (R' v I oI C oC D _ h₃ _ (by simpa using hPv) hoC (by simp) F₃ N₃ off' ⟨eCI, eDI, eCD⟩) (fun y s₄ h₄ => ?_) fun _ _ e => e
        obtain ⟨h₄, tk₄, news₄, rfl, F₄, N₄, off₄, hS₄, R₄⟩ := h₄
        have zI := (N₄ (I, oI) List.mem_cons_self).1
        have zC := (N₄ (C, oC) (List.mem_cons_of_mem _ List.mem_cons_self)).1
        have zD := (N₄ (D, lst ys) (List.mem_cons_of_mem _ (List.mem_cons_of_mem _ List.mem_cons_self))).1
        have N₄' : News h₀ L h₄ news₄ := fun p hp => N₄ p (List.mem_cons_of_mem _ (List.mem_cons_of_mem _ (List.mem_cons_of_mem _ hp)))
        have hst₄ : h₄.IsTupleIter I T (i + 1) ∧ h₄.IsTuple T vs.toArray := by
          refine ⟨?_, hS₄.tup N₄'⟩
          obtain ⟨o', q, r⟩ := hst₃.1
          rw [heI] at q; cases q
          exact ⟨oI, zI, r⟩
        refine append_at (hsz := by show ys.toArray.size ≤ sizeLine; rw [List.size_toArray, hyl]; exact Nat.le_trans hi hsz) zD fun h₅ hs₅ hD₅ => ?_
        have off4 := off₄.mem
        refine ⟨vs.length + 1 - (i + 1), by omega, h₅, tk₄, i + 1, ys ++ [y], _, news₄, rfl, hlt, rfl, by rw [List.length_append, List.length_singleton, hyl], W.frame _ _ _ hst₄ fun b hb o e => hs₅.extBut b o (fun q => by
            have q' : @Eq Nat b D := q
            rcases List.mem_cons.mp hb with z | z
            · have z : @Eq Nat b I := z
              omega
            · have z : @Eq Nat b T := List.mem_singleton.mp z
              omega) e, F₄.change hs₅ hDL hD₀,
          (hoC.ns zC).sameBut hs₅ eCD, fun p hp => ?_, off₄, hS₄, ?_⟩
        · rcases List.mem_cons.mp hp with rfl | hp
          · exact ⟨hD₅.trans (congrArg some (lst_snoc ys y)), hDL, hD₀⟩
          · exact ⟨hs₅.extBut _ _ (off4 p hp).2.2 (N₄' p hp).1, (N₄' p hp).2⟩
        · rw [show vs.length - (i + 1) = j by omega]
          exact R₄
      · obtain rfl : i = vs.length := Nat.le_antisymm hi (Nat.not_lt.mp hlt)
        rw [Nat.sub_self] at R'
        refine W.done _ _ _ (by simpa using hst') fun h₂ tk₂ hk₂ => ?_
        have off3 := off'.mem
        exact hRR D C h₂ tk₂ _ ys news' (fr_but F' hk₂ hIL hI₀) (news_but N' hk₂ fun p hp => by
          rcases List.mem_cons.mp hp with rfl | hp
          · exact Ne.symm eDI
          · exact (off3 p hp).1) off'.one (hn'.at' fun o e => hk₂ _ o (by simpa using Ne.symm eCI) e) hC₀ hD₀ hCL hDL eCD (fun p hp => (off3 p hp).2.1) R'
    · rcases List.mem_cons.mp hp with rfl | hp
      · exact ⟨hacc, hDL, hD₀⟩
      · exact ⟨old _ _ (N1 p hp).1, (N1 p hp).2⟩
  exact codeAny_compStart_list (loop _ rfl) (W.self 0 _ _ _ (W.frame _ _ _ hst fun b _ o e => old b o e) (loop _ rfl))

def SrcTup (prog : Program) (w : World) (A : Around) (E : Value → Shared → Prop) (h₀ : Heap) (L : Addr) (m : Str → Option Value) (env : Env) (elt : Expr) (x : Str) (scope : Scope) (cl : List (Str × Addr)) (Fin : Shared → List Value → Led → Prop) (xv : Value) (s₁ : Shared) : Prop :=
  ∃ T vs nT news, xv = .ref T ∧ A.handled = none ∧ Fr h₀ L s₁.heap m ∧ News h₀ L s₁.heap news ∧ (T, tupO vs nT) ∈ news ∧ vs.length ≤ sizeLine ∧ TupRest prog w A E h₀ L m env elt x scope cl s₁ T vs (Fin s₁) vs.length 0 [] news
theorem Assign_ListComp_E {elt iter : Expr} {x y : Str} {px py : Pos} {scope : Scope} {cl : List (Str × Addr)} {pos spos : Pos} {Q : Flow → Shared → Prop} (F₀ : Fr h₀ L s.heap m) (hLe : env.locals = L)
    (hsw : swapsWith (.ListComp elt [⟨.Name x px, iter, [], 0⟩] scope pos) (some (.Name y py)) spos.line env = pure true)
    (hclos : closureFor scope env = pure cl) (hcell : ∀ z ∈ scope.names, z.2 ≠ .cell) (hkind : scope.kind = .function)
    (hnames : ∀ z ∈ scope.names, z.2 = .local → scope.names.lookup z.1 = some .local) (hx : scope.names.lookup x = some .local)
    (hy : env.kindOf y = some .local) (hp : (env.scope.kind == .class || (env.scope.kind == .module && env.locals != env.globals)) = false)
    (h : wpAny (model prog w) A (eval iter env) (SrcTup prog w A E h₀ L m env elt x scope cl (fun s₂ => FinA h₀ L m s₂ y Q)) E s)
    (hs : ∀ x, foldedSetIterable iter env x = pure x := by intro _; rfl) :
    wpAny (model prog w) A (exec (.Assign [.Name y py] (.ListComp elt [⟨.Name x px, iter, [], 0⟩] scope pos) spos) env) Q E s := by
  subst hLe
  rw [exec_Assign_Name_used _ _ _ _ hsw]
  refine wpAny_bind (wpAny_standAt (wpAny_bind ?_))
  show wpAny _ A (do let _ ← comprehension (.ListComp elt [⟨.Name x px, iter, [], 0⟩] scope pos) scope env _ (newList []) false (eval iter env) (some (assign (.Name y py) env))) _ _ s
  refine wpAny_bind (wpAny_mono (comprehensionE (use := some (assign (.Name y py) env)) (Q := fun _ s' => Q .next s') rfl hs hclos hkind hnames
    (wpAny_mono h (fun xv s₁ h₁ => ?_) fun _ _ e => e)) (fun _ s' hq => wpAny_pure (wpAny_pure hq)) fun _ _ e => e)
  obtain ⟨T, vs, nT, news, rfl, hh, F, N, hT, hsz, R⟩ := h₁
  refine block_E hh hsz hcell hkind hx F N hT R ?_
  intro D C h' tk m' ys news' F' N' o1 hn hC₀ hD₀ hCL hDL hCD offC fin
  show wpAny _ A (assign (.Name y py) env (.ref D)) _ _ _
  refine wpAny_assign_Name (wpAny_storeName_local hy F'.ns (fun h₂ hn₂ hs₂ => ?_) hp)
  have hL₀ : h₀.get? env.locals = none := Heap.get?_none_of_le F'.above
  have F₂ : Fr h₀ env.locals h₂ (fun z => if z = y then some (.ref D) else m z) := ⟨hn₂, fun b o e => hs₂.extBut b o (fun q => by rw [q, hL₀] at e; cases e) (F'.keep b o e), F'.above⟩
  refine ⟨m', hn.sameBut hs₂ hCL, fun h'' hs'' => fin D h'' _ (F₂.change hs'' hCL hC₀) (fun p hp => ?_) o1⟩
  have z : h₂.get? p.1 = some p.2 := hs₂.extBut _ _ (N' p hp).2.1 (N' p hp).1
  refine ⟨hs''.extBut _ _ ?_ z, (N' p hp).2⟩
  rcases List.mem_cons.mp hp with rfl | hp
  · exact Ne.symm hCD
  · exact offC p hp
theorem tupRest_ind {elt : Expr} {x : Str} {scope : Scope} {cl : List (Str × Addr)} {T : Addr} {vs : List Value} {Fin : List Value → Led → Prop} (J : Nat → List Value → Led → Prop) (n : Nat)
    (step : ∀ k i ys news, i + (k + 1) = n → J i ys news → (∀ ys' news', J (i + 1) ys' news' → TupRest prog w A E h₀ L m env elt x scope cl s T vs Fin k (i + 1) ys' news') → TupRest prog w A E h₀ L m env elt x scope cl s T vs Fin (k + 1) i ys news)
    (done : ∀ ys news, J n ys news → Fin ys news) : ∀ k i ys news, i + k = n → J i ys news → TupRest prog w A E h₀ L m env elt x scope cl s T vs Fin k i ys news
  | 0, i, ys, news, e, hJ => by
    have e' : i = n := e
    subst e'
    exact done ys news hJ
  | k + 1, i, ys, news, e, hJ => step k i ys news e hJ fun ys' news' hJ' => tupRest_ind J n step done k (i + 1) ys' news' (by omega) hJ'
end
end

section
open PySem PySem.W PyProof.Rows PySem.Calls PySem.Spec
open PySem.Builtin
theorem slot_join : Slot "bytes" "join" "bytes.join" :=
  .of (owner := "bytes") (n := "join") (by rw [typeLookup_type, builtinLookup_eq_fast]; kernel_rfl) (by decide +kernel) (by decide +kernel) (by decide +kernel)
    (by first | exact .inl (by decide +kernel) | exact .inr (by decide +kernel)) (by rw [isSubtype_type]; kernel_rfl)
theorem type_join : typeOf (.builtin "bytes.join") = pure (.type "method_descriptor") := by show builtinType _ = _; rw [builtinType_eq_fast]; kernel_rfl
theorem entry_join : entryFor table "bytes.join" = some Builtin.«bytes.join» := entryFor_of_tree (by kernel_rfl)
theorem args_join (a b : Value) : argsOk "bytes.join" ⟨[a, b], []⟩ := by unfold argsOk; kernel_rfl
theorem method_join {M : Model} {A : Around} {E : Value → Shared → Prop} {s : Shared} {b : Array UInt8} {t : Tok} {pl : Sem Bool} {Q : Value × List Value → Shared → Prop} (h : Q (.builtin "bytes.join", [.bytes b t]) s) : wpAny M A (getMethod (.bytes b t) "join" pl) Q E s := by
  with_reducible exact KBd.method_of (.bytes b t) (typeIs_bytes _ _ _) slot_join type_join KBd.noRef h
theorem take_eq {id : String} {b : Array UInt8} {t : Tok} {f : Int} (hf : (f == Bytes.fullReadOnly) = false) : Bytes.takeBuffer? id (.bytes b t) f = pure (some (b, none)) := by
  unfold Bytes.takeBuffer?
  rw [KBy.special_eq KBy.look_buffer, KBy.own_buffer]
  simp only [pure_bind, hf]
  rw [KBy.buffer_eq]
  kernel_rfl
theorem takeq_eq {id : String} {b : Array UInt8} {t : Tok} {f : Int} (hf : (f == Bytes.fullReadOnly) = false) : Bytes.takeBufferQuiet? id (.bytes b t) f = pure (some (b, none)) := by
  unfold Bytes.takeBufferQuiet?
  rw [take_eq hf]
  rfl

theorem joinLetGo_none {M : Model} {A : Around} {E : Value → Shared → Prop} {s : Shared} {keep : List Value} {Q : Unit → Shared → Prop} : ∀ (l : List (Value × Option Value)) (_ : ∀ p ∈ l, p.2 = none) (_ : Q () s), wpAny M A (Bytes.joinLetGo l keep) Q E s
  | [], _, h => by unfold Bytes.joinLetGo; exact wpAny_pure h
  | (x, none) :: r, hl, h => by
    unfold Bytes.joinLetGo
    exact wpAny_bind (wpAny_letGo (joinLetGo_none r (fun p hp => hl p (.tail _ hp)) h))
  | (x, some w) :: r, hl, h => absurd (hl _ (.head _)) (fun q => nomatch q)
set_option maxHeartbeats 2000000 in
theorem meets_join (l : Addr) (ps : List (Array UInt8 × Tok)) (h8 : ps.length = 8) (n : Nat) (t : Tok) :
    Meets («bytes.join» ⟨[.bytes #[] t, .ref l], []⟩) (fun _ R s => s.heap.get? l = some { cls := .type "list", dict := none, data := .seq (ps.map fun p => Value.bytes p.1 p.2).toArray n, slots := #[] } ∧ (ps.map fun p => p.1.size).sum ≤ 16777216 ∧
      ∀ t' k, R (.ok (.ret (.bytes ((ps.map fun p => p.1).foldl (· ++ ·) #[]) t'))) { s with toks := k }) := by
  match ps, h8 with
  | [(a0, t0), (a1, t1), (a2, t2), (a3, t3), (a4, t4), (a5, t5), (a6, t6), (a7, t7)], _ =>
    refine .of_wp fun prog w A R s hS => ?_
    obtain ⟨hl, hsz, h⟩ := hS
    dsimp only [List.map] at hl
    have hT : s.TypeIs (.ref l) "list" := ⟨_, hl, rfl⟩
    unfold «bytes.join» Bytes.joinM
    show wpAny _ _ (Bytes.joinItems (.ref l) >>= fun r => _) _ _ s
    refine wpAny_bind ?_
    unfold Bytes.joinItems
    refine wpAny_bind (wpAny_typeOf hT ?_)
    refine wpAny_pure ?_
    dsimp only
    refine wpAny_bind (wpAny_seqItems hl rfl ?_)
    dsimp only
    refine wpAny_ite_true rfl ?_
    show wpAny _ _ (forIn (m := Sem) _ _ _ >>= _) _ _ s
    rw [Std.Legacy.Range.forIn_eq_forIn_range']
    refine wpAny_bind ?_
    generalize hr : List.range' _ _ _ = rr
    obtain rfl : [0, 1, 2, 3, 4, 5, 6, 7] = rr := (show _ = _ from (by with_unfolding_all rfl : [0, 1, 2, 3, 4, 5, 6, 7] = List.range' _ _ _)).trans hr
    clear hr
    have h0 : ((0 : Int) == Bytes.fullReadOnly) = false := by decide
    have g0 : (#[Value.bytes a0 t0, Value.bytes a1 t1, Value.bytes a2 t2, Value.bytes a3 t3, Value.bytes a4 t4, Value.bytes a5 t5, Value.bytes a6 t6, Value.bytes a7 t7] : Array Value).getD 0 Value.none = Value.bytes a0 t0 := rfl
    have g1 : (#[Value.bytes a0 t0, Value.bytes a1 t1, Value.bytes a2 t2, Value.bytes a3 t3, Value.bytes a4 t4, Value.bytes a5 t5, Value.bytes a6 t6, Value.bytes a7 t7] : Array Value).getD 1 Value.none = Value.bytes a1 t1 := rfl
    have g2 : (#[Value.bytes a0 t0, Value.bytes a1 t1, Value.bytes a2 t2, Value.bytes a3 t3, Value.bytes a4 t4, Value.bytes a5 t5, Value.bytes a6 t6, Value.bytes a7 t7] : Array Value).getD 2 Value.none = Value.bytes a2 t2 := rfl
    have g3 : (#[Value.bytes a0 t0, Value.bytes a1 t1, Value.bytes a2 t2, Value.bytes a3 t3, Value.bytes a4 t4, Value.bytes a5 t5, Value.bytes a6 t6, Value.bytes a7 t7] : Array Value).getD 3 Value.none = Value.bytes a3 t3 := rfl
    have g4 : (#[Value.bytes a0 t0, Value.bytes a1 t1, Value.bytes a2 t2, Value.bytes a3 t3, Value.bytes a4 t4, Value.bytes a5 t5, Value.bytes a6 t6, Value.bytes a7 t7] : Array Value).getD 4 Value.none = Value.bytes a4 t4 := rfl
    have g5 : (#[Value.bytes a0 t0, Value.bytes a1 t1, Value.bytes a2 t2, Value.bytes a3 t3, Value.bytes a4 t4, Value.bytes a5 t5, Value.bytes a6 t6, Value.bytes a7 t7] : Array Value).getD 5 Value.none = Value.bytes a5 t5 := rfl
    have g6 : (#[Value.bytes a0 t0, Value.bytes a1 t1, Value.bytes a2 t2, Value.bytes a3 t3, Value.bytes a4 t4, Value.bytes a5 t5, Value.bytes a6 t6, Value.bytes a7 t7] : Array Value).getD 6 Value.none = Value.bytes a6 t6 := rfl
    have g7 : (#[Value.bytes a0 t0, Value.bytes a1 t1, Value.bytes a2 t2, Value.bytes a3 t3, Value.bytes a4 t4, Value.bytes a5 t5, Value.bytes a6 t6, Value.bytes a7 t7] : Array Value).getD 7 Value.none = Value.bytes a7 t7 := rfl
    rw [List.forIn_cons]
    refine wpAny_bind ?_
    refine wpAny_bind (wpAny_seqItems hl rfl ?_)
    dsimp only
    refine wpAny_ite_false rfl ?_
    rw [g0, takeq_eq h0]
    refine wpAny_bind (wpAny_holding (wpAny_pure ?_))
    dsimp only
    refine wpAny_bind (wpAny_seqItems hl rfl ?_)
    dsimp only
    refine wpAny_ite_false rfl ?_
    refine wpAny_pure ?_
    dsimp only
    rw [List.forIn_cons]
    refine wpAny_bind ?_
    refine wpAny_bind (wpAny_seqItems hl rfl ?_)
    dsimp only
    refine wpAny_ite_false rfl ?_
    rw [g1, takeq_eq h0]
    refine wpAny_bind (wpAny_holding (wpAny_pure ?_))
    dsimp only
    refine wpAny_bind (wpAny_seqItems hl rfl ?_)
    dsimp only
    refine wpAny_ite_false rfl ?_
    refine wpAny_pure ?_
    dsimp only
    rw [List.forIn_cons]
    refine wpAny_bind ?_
    refine wpAny_bind (wpAny_seqItems hl rfl ?_)
    dsimp only
    refine wpAny_ite_false rfl ?_
    rw [g2, takeq_eq h0]
    refine wpAny_bind (wpAny_holding (wpAny_pure ?_))
    dsimp only
    refine wpAny_bind (wpAny_seqItems hl rfl ?_)
    dsimp only
    refine wpAny_ite_false rfl ?_
    refine wpAny_pure ?_
    dsimp only
    rw [List.forIn_cons]
    refine wpAny_bind ?_
    refine wpAny_bind (wpAny_seqItems hl rfl ?_)
    dsimp only
    refine wpAny_ite_false rfl ?_
    rw [g3, takeq_eq h0]
    refine wpAny_bind (wpAny_holding (wpAny_pure ?_))
    dsimp only
    refine wpAny_bind (wpAny_seqItems hl rfl ?_)
    dsimp only
    refine wpAny_ite_false rfl ?_
    refine wpAny_pure ?_
    dsimp only
    rw [List.forIn_cons]
    refine wpAny_bind ?_
    refine wpAny_bind (wpAny_seqItems hl rfl ?_)
    dsimp only
    refine wpAny_ite_false rfl ?_
    rw [g4, takeq_eq h0]
    refine wpAny_bind (wpAny_holding (wpAny_pure ?_))
    dsimp only
    refine wpAny_bind (wpAny_seqItems hl rfl ?_)
    dsimp only
    refine wpAny_ite_false rfl ?_
    refine wpAny_pure ?_
    dsimp only
    rw [List.forIn_cons]
    refine wpAny_bind ?_
    refine wpAny_bind (wpAny_seqItems hl rfl ?_)
    dsimp only
    refine wpAny_ite_false rfl ?_
    rw [g5, takeq_eq h0]
    refine wpAny_bind (wpAny_holding (wpAny_pure ?_))
    dsimp only
    refine wpAny_bind (wpAny_seqItems hl rfl ?_)
    dsimp only
    refine wpAny_ite_false rfl ?_
    refine wpAny_pure ?_
    dsimp only
    rw [List.forIn_cons]
    refine wpAny_bind ?_
    refine wpAny_bind (wpAny_seqItems hl rfl ?_)
    dsimp only
    refine wpAny_ite_false rfl ?_
    rw [g6, takeq_eq h0]
    refine wpAny_bind (wpAny_holding (wpAny_pure ?_))
    dsimp only
    refine wpAny_bind (wpAny_seqItems hl rfl ?_)
    dsimp only
    refine wpAny_ite_false rfl ?_
    refine wpAny_pure ?_
    dsimp only
    rw [List.forIn_cons]
    refine wpAny_bind ?_
    refine wpAny_bind (wpAny_seqItems hl rfl ?_)
    dsimp only
    refine wpAny_ite_false rfl ?_
    rw [g7, takeq_eq h0]
    refine wpAny_bind (wpAny_holding (wpAny_pure ?_))
    dsimp only
    refine wpAny_bind (wpAny_seqItems hl rfl ?_)
    dsimp only
    refine wpAny_ite_false rfl ?_
    refine wpAny_pure ?_
    dsimp only
    rw [List.forIn_nil]
    refine wpAny_pure ?_
    dsimp only
    refine wpAny_bind (wpAny_of_eq (a := (#[] : Array UInt8)) rfl ?_)
    have ej : Bytes.joined (#[] : Array UInt8) ((((((((#[].push a0).push a1).push a2).push a3).push a4).push a5).push a6).push a7).toList = (([(a0, t0), (a1, t1), (a2, t2), (a3, t3), (a4, t4), (a5, t5), (a6, t6), (a7, t7)] : List (Array UInt8 × Tok)).map fun p => p.1).foldl (· ++ ·) #[] := by
      show Bytes.joined #[] [a0, a1, a2, a3, a4, a5, a6, a7] = _
      simp [Bytes.joined, List.zipIdx]
    have es : Array.foldl (fun (x1 : Nat) (x2 : Array UInt8) => x1 + x2.size) ((#[] : Array UInt8).size * (((((((((#[].push a0).push a1).push a2).push a3).push a4).push a5).push a6).push a7).size - 1)) ((((((((#[].push a0).push a1).push a2).push a3).push a4).push a5).push a6).push a7) ≤ 16777216 := by
      simp only [List.map, List.sum_cons, List.sum_nil] at hsz
      show ((((((((0 * _ + a0.size) + a1.size) + a2.size) + a3.size) + a4.size) + a5.size) + a6.size) + a7.size) ≤ _
      omega
    refine wpAny_ite_false (decide_eq_false (by rw [KBy.tooLong_not es]; exact Bool.false_ne_true)) ?_
    show wpAny _ _ (mkBytes (Bytes.joined #[] _) >>= _) _ _ s
    rw [ej]
    refine wpAny_bind (wpAny_mkBytes ?_ (by rw [sizeLine_eq]; simp only [List.map, List.foldl, Array.size_append, Array.size_empty, List.sum_cons, List.sum_nil] at hsz ⊢; omega))
    refine wpAny_bind (wpAny_holding (wpAny_point ?_))
    show wpAny _ _ (Bytes.joinLetGo [(Value.bytes a0 t0, none), (Value.bytes a1 t1, none), (Value.bytes a2 t2, none), (Value.bytes a3 t3, none), (Value.bytes a4 t4, none), (Value.bytes a5 t5, none), (Value.bytes a6 t6, none), (Value.bytes a7 t7, none)] _ >>= _) _ _ _
    refine wpAny_bind (joinLetGo_none _ (by simp) ?_)
    exact wpAny_pure ⟨_, rfl, h _ _⟩
section
variable {prog : Program} {w : World} {A : Around} {E : Value → Shared → Prop} {s : Shared} {h₀ : Heap} {L : Addr} {m : Str → Option Value} {news : Led}
theorem join_rule {l : Addr} {ps : List (Array UInt8 × Tok)} {n : Nat} {t : Tok} {Q : Value → Shared → Prop} (N : News h₀ L s.heap news) (hm : (l, PySem.W.listOf (ps.map fun p => Value.bytes p.1 p.2).toArray n) ∈ news) (h8 : ps.length = 8)
    (hsz : (ps.map fun p => p.1.size).sum ≤ 16777216) (h : ∀ t' k, Q (.bytes ((ps.map fun p => p.1).foldl (· ++ ·) #[]) t') { s with toks := k }) :
    wpAny (model prog w) A (call (.builtin "bytes.join") [.bytes #[] t, .ref l]) Q E s :=
  call_meets slot_join (typeIs_bytes _ _ _) entry_join (args_join _ _) (meets_join l ps h8 n t) ⟨(N _ hm).1, hsz, h⟩
end
end

section
open PySem PySem.W PyProof.Rows PySem.Calls PySem.Spec PyProof.Rows.LCg


set_option maxHeartbeats 8000000 in
theorem pack1_word (w : World) (p pd T : Addr) (tt : Tok) (tm : Int) (ttm : Tok) (nT : Nat) (h0 : 0 ≤ tm) (h1 : tm ≤ 65535) :
    Word w 110 [.ref p] [(p, instObj 101 pd), (pd, pfD w T tt), (T, tupO [.int tm ttm] nT)] 4 (fun h h' r own' => ∃ b t, r = .bytes b t ∧ own' = [(p, instObj 101 pd), (pd, pfD w T tt), (T, tupO [.int tm ttm] nT)] ∧ KBw.bInts b = [0, 1, tm / 256, tm % 256]) := by
  unfold Word
  have mk_pack1_word : Mk := ⟨⟩
  k_with "call ref" => (guard_hyp mk_pack1_word : Mk; (k_here; (with_reducible show wpAny _ _ (call (Value.ref 77) _) _ _ _); k_dflt ((refine' Word.useK (put16_word _ _ _ ?v1 ?v2) put16_word_k ?u1 ?u2 ?u3 ?u4 ?u5 ?u6 ?u7 ?u8 ?u9 ?u10 ?_); k_extra "uc"; (case v1 => k_extra "side"); (case v2 => k_extra "side"); k_call_by "used" 0)))
  k_fill
  intro loose mean mg mb dp un gd cn cs ad ccd cl outer A₀ base h₀ L m s Q E B F X N T hk hdp hun hret
  refine wpAny_call ?_
  (refine' enterC (binds := [("pause", .ref p)]) ?k1 ?k2 ?k3 ?k4 ?k5 ?kA ?kF ?kK ?k6 ?k7 ?k8 ?k9 ?kB ?kD ?_ ?c2 ?c3 ?c4; (case kA => exact rfl); (case kF => exact rfl); (case kK => assumption); (case k1 => k_asm); (case k2 => k_asm); (case k3 => k_asm); (case k4 => k_asm); (case k5 => k_asm); (case k6 => k_is); (case k7 => k_is); (case k8 => ktr_room); (case k9 => exact BindsTo.of_eq rfl); (case kB => exact rfl); (case kD => decide +kernel); (case c2 => exact rfl); (case c3 => exact rfl); (case c4 => exact rfl); k_whole)
  intro g' L' h' tk' cells' FG' F' N' Y' B' X' T' l1 hko hkb hsz; (try k_lt l1); k_cells Y'; (try simp only [List.cons_append, List.nil_append] at N'); (try dsimp only); (try k_fold)
  k_steps
  · rename Fr g' _ _ _ => F8
    rename News h₀ _ _ _ => N8
    rename KBw.bInts _ = [1 / 256, 1 % 256] ++ _ => hb
    exact hret _ _ _ _ (fun b o e n => F8.keep b o (hko b o e n)) (fun q hq => N8 q (.tail _ hq)) ⟨_, _, rfl, rfl, hb⟩
end

section
open PySem PySem.W PyProof.Rows PySem.Calls PySem.Spec PyProof.Rows.LCg


/-- the frame's names in a turn: x and priority over the rest -/
def JH (x : Str) (M0 : Str → Option Value) (pT pP : Option Value) : Str → Option Value := fun y => if y = x then pT else if y = Str.ofString "priority" then pP else M0 y
theorem jh_step (x : Str) (M0 : Str → Option Value) (a b c d : Option Value) : (fun y => if y = x then a else if y = Str.ofString "priority" then b else JH x M0 c d y) = JH x M0 a b := by
  funext y; unfold JH
  by_cases h : y = x
  · rw [if_pos h, if_pos h]
  · rw [if_neg h, if_neg h, if_neg h]
    by_cases h2 : y = Str.ofString "priority"
    · rw [if_pos h2, if_pos h2]
    · rw [if_neg h2, if_neg h2, if_neg h2]
theorem jh_start (x : Str) (M0 : Str → Option Value) : M0 = JH x M0 (M0 x) (M0 (Str.ofString "priority")) := by
  funext y; unfold JH
  by_cases h : y = x
  · rw [if_pos h, h]
  · rw [if_neg h]
    by_cases h2 : y = Str.ofString "priority"
    · rw [if_pos h2, h2]
    · rw [if_neg h2]
theorem due_eq (now t v : Int) (h : 0 ≤ t) (hv : 1 ≤ v) : now + t.fdiv v + (if 0 < t.fmod v then 1 else 0) = now + (t + v - 1) / v := by
  rw [Int.fdiv_eq_ediv_of_nonneg _ (by omega), Int.fmod_eq_emod_of_nonneg _ (by omega)]
  have e := Int.mul_ediv_add_emod t v
  have r0 := Int.emod_nonneg t (show v ≠ 0 by omega)
  have r1 := Int.emod_lt_of_pos t (show 0 < v by omega)
  generalize t / v = q at e ⊢
  generalize t % v = r at e r0 r1 ⊢
  have key : ∀ k : Int, k * v ≤ t + v - 1 → t + v - 1 < (k + 1) * v → (t + v - 1) / v = k := fun k a b => by
    have x := (Int.le_ediv_iff_mul_le (show 0 < v by omega)).mpr a
    have y := (Int.ediv_lt_iff_lt_mul (show 0 < v by omega)).mpr b
    omega
  have mq : q * v = v * q := Int.mul_comm _ _
  by_cases h0 : 0 < r
  · rw [if_pos h0, key (q + 1) (by rw [Int.add_mul]; omega) (by rw [Int.add_mul, Int.add_mul]; omega)]; omega
  · rw [if_neg h0, key q (by omega) (by rw [Int.add_mul]; omega)]; omega
theorem due_eqb (now t v : Int) (h : 0 ≤ t) (hv : 1 ≤ v) : (now + t.fdiv v + if decide (0 < t.fmod v) = true then 1 else 0) = now + (t + v - 1) / v := by
  rw [← due_eq now t v h hv]
  by_cases h0 : 0 < t.fmod v
  · rw [if_pos h0, if_pos (decide_eq_true h0)]
  · rw [if_neg h0, if_neg (by rw [decide_eq_false h0]; exact Bool.false_ne_true)]
def forBody : Stmt → List Stmt
  | .For _ _ b _ _ => b
  | _ => []
/-- the frame's names that the loop's body reads -/
def hrM (x DU p : Addr) (mo : Int) (tmo : Tok) (tick : Int) (tti : Tok) (m : Str → Option Value) : Str → Option Value := fun y => if y = Str.ofString "state" then some (.ref x) else if y = Str.ofString "due" then some (.ref DU) else if y = Str.ofString "pause" then some (.ref p) else if y = Str.ofString "moment" then some (.int mo tmo) else if y = Str.ofString "tick" then some (.int tick tti) else m y
theorem hrM_of {x DU p : Addr} {mo : Int} {tmo : Tok} {tick : Int} {tti : Tok} {m : Str → Option Value} (hst : m (Str.ofString "state") = some (.ref x)) (hdu : m (Str.ofString "due") = some (.ref DU)) (hpa : m (Str.ofString "pause") = some (.ref p)) (hmo : m (Str.ofString "moment") = some (.int mo tmo)) (hti : m (Str.ofString "tick") = some (.int tick tti)) : m = hrM x DU p mo tmo tick tti m := by
  funext y
  unfold hrM
  split
  · rename_i e; rw [e, hst]
  · split
    · rename_i e; rw [e, hdu]
    · split
      · rename_i e; rw [e, hpa]
      · split
        · rename_i e; rw [e, hmo]
        · split
          · rename_i e; rw [e, hti]
          · rfl
/-- the body of the loop over the two pauses, and the names, read off the written heap -/
noncomputable def hrBody (P : Params) : List Stmt := match (hd.heap_39 P).lookup 224 with
  | some ⟨_, _, .func fd, _⟩ => (match fd.body with | .stmts b => forBody (b.getD 2 (.Pass default)) | _ => [])
  | _ => []
noncomputable def hrScope (P : Params) : Scope := match (hd.heap_39 P).lookup 224 with
  | some ⟨_, _, .func fd, _⟩ => fd.scope
  | _ => default
local macro_rules | `(tactic| k_upd) => `(tactic| first | exact Upd.head (apartN_mem (by assumption)) | (refine' Upd.tail ?a ?b; (case a => first | exact Ap.ne (by assumption) | exact (Ap.ne (by assumption)).symm | k_ne); (case b => k_upd)))
set_option maxHeartbeats 8000000 in
theorem hr_turn (w : World) (x dx U p d T DU L : Addr) (tick mo : Int) (tt t3 t5 tT tmo tti : Tok) (us vs dl : List Value) (nus nT ndl : Nat) (ns : List Int) (l : List (Option Int)) (rest : Led) (scope : Scope) (hsc : scope = hrScope w.params)
    (loose : List Str) (mean : ExcName → Option Value) (mg mb : Str → Option Value) (dp un : Nat) (gd : Option (List Code)) (outer : List Env) (A₀ : Around) (base g : Heap) (m : Str → Option Value) (s : Shared) (Q : Flow → Shared → Prop)
    (hi : IntsAre us ns) (hdl : IntsAre dl ns) (h8 : ns.length = 8) (hl : TVs l vs) (hl8 : l.length = 8 ∨ ∃ t, l = [some t]) (hr : ∀ t, some t ∈ l → 0 ≤ t ∧ t ≤ 65535) (h1 : 1 ≤ tick) (h2 : tick ≤ 1000) (h5 : 0 ≤ mo) (h6 : mo ≤ 1000)
    (aU1 : Ap U x) (aU2 : Ap U dx) (aU3 : Ap U p) (aU4 : Ap U d) (aU5 : Ap U T) (aU6 : Ap U DU) (aD1 : Ap DU x) (aD2 : Ap DU dx) (aD3 : Ap DU p) (aD4 : Ap DU d) (aD5 : Ap DU T) (ax1 : Ap x p) (ax2 : Ap x d) (ax3 : Ap x T) (ad1 : Ap dx p) (ad2 : Ap dx d) (ad3 : Ap dx T) (rx : apartN x rest) (rdx : apartN dx rest) (rU : apartN U rest) (rp : apartN p rest) (rd : apartN d rest) (rT : apartN T rest) (rD : apartN DU rest)
    (hst : m (Str.ofString "state") = some (.ref x)) (hdu : m (Str.ofString "due") = some (.ref DU)) (hpa : m (Str.ofString "pause") = some (.ref p)) (hmo : m (Str.ofString "moment") = some (.int mo tmo)) (hti : m (Str.ofString "tick") = some (.int tick tti))
    (B : Below A₀ base outer g) (X : (hd.heap_39 w.params).In g) (Tp : Top topProg loose mean mg mb g) (F : Fr g L s.heap m)
    (N : News g L s.heap ((x, instObj 153 dx) :: (dx, stD w tick U t3 tt t5) :: (U, PySem.W.listOf us.toArray nus) :: (p, instObj 101 d) :: (d, pfD w T tT) :: (T, tupO vs nT) :: (DU, PySem.W.listOf dl.toArray ndl) :: rest)) (hdp : dp + 10 < recursionLimit) (hun : un + 80 < cLine)
    (k : ∀ us' nus' dl' ndl' h' tk' m', Fr g L h' m' → News g L h' ((x, instObj 153 dx) :: (dx, stD w tick U t3 tt t5) :: (U, PySem.W.listOf us'.toArray nus') :: (p, instObj 101 d) :: (d, pfD w T tT) :: (T, tupO vs nT) :: (DU, PySem.W.listOf dl'.toArray ndl') :: rest) → IntsAre us' (due (ext l) mo tick ns 8) → IntsAre dl' (due (ext l) mo tick ns 8) →
      m' (Str.ofString "state") = some (.ref x) → m' (Str.ofString "due") = some (.ref DU) → m' (Str.ofString "tick") = some (.int tick tti) → Q .next { s with heap := h', toks := tk' }) :
    wpAny (model PySem.Challenge.rw_pf0382_01.row.prog w) (ktrTop dp un gd (Str.ofString "_law_heard_right") scope L 224 (.ref 223) [] outer) (execs (hrBody w.params) (envOf (Str.ofString "_law_heard_right") scope L 224 (.ref 223))) Q (fun _ _ => False) s := by
  revert X
  have mk_hr_turn : Mk := ⟨⟩
  k_with "call ref" => (guard_hyp mk_hr_turn : Mk; (k_here; (with_reducible show wpAny _ _ (call (Value.ref 143) _) _ _ _); k_dflt ((refine' Word.useK (heard_word _ _ _ _ _ _ _ _ _ _ _ _ _ _ _ _ _ _ _ _ ?v1 ?v2 ?v3 ?v4 ?v5 ?v6 ?v7 ?v8 ?v9 ?v10 ?v11 ?v12 ?v13 ?v14) heard_word_k ?u1 ?u2 ?u3 ?u4 ?u5 ?u6 ?u7 ?u8 ?u9 ?u10 ?_); k_extra "uc"; (case v1 => k_extra "side"); (case v2 => k_extra "side"); (case v3 => k_extra "side"); (case v4 => k_extra "side"); (case v5 => k_extra "side"); (case v6 => k_extra "side"); (case v7 => k_extra "side"); (case v8 => k_extra "side"); (case v9 => k_extra "side"); (case v10 => k_extra "side"); (case v11 => k_extra "side"); (case v12 => k_extra "side"); (case v13 => k_extra "side"); (case v14 => k_extra "side"); k_call_by "used" 0)))
  k_with "call ref" => (guard_hyp mk_hr_turn : Mk; (k_here; (with_reducible show wpAny _ _ (call (Value.ref 150) _) _ _ _); k_dflt ((refine' Word.useK (ms_no _ _ _ _ _ _ _ _ _ _ _ _ _ _ _ ?v1 ?v2 ?v3 ?v4 ?v5) ms_no_k ?u1 ?u2 ?u3 ?u4 ?u5 ?u6 ?u7 ?u8 ?u9 ?u10 ?_); k_extra "uc"; (case v1 => k_extra "side"); (case v2 => k_extra "side"); (case v3 => k_extra "side"); (case v4 => k_extra "side"); (case v5 => k_extra "side"); k_call_by "used" 0)))
  k_with "subscriptTail" => (guard_hyp mk_hr_turn : Mk; (k_here; (with_reducible show wpAny _ _ (subscriptTail _ _ (Value.ref _) (Value.int _ _)) _ _ _); k_dflt (refine' tup_item ?z9F ?z9m ?z9a ?z9b ?z9c ?z9x ?_; (case z9F => k_asm); (case z9m => k_mem); (case z9a => omega); (case z9b => omega); (case z9c => (simp only [List.length_cons, List.length_nil]; omega)); (case z9x => assumption))))
  k_with "call type:list" => (guard_hyp mk_hr_turn : Mk; (k_here; (with_reducible show wpAny _ _ (call (Value.type _) [Value.ref _]) _ _ _); k_dflt (refine' list_copyK ?z9k1 ?z9k2 ?z9k3 ?_ ?z9z; (case z9k1 => k_asm); (case z9k2 => k_asm); (case z9k3 => is_list); (case z9z => (rw [List.size_toArray, sizeLine_eq]; omega)); k_whole); intro _ _ _ _ _ l1; (try k_lt l1); (try k_sweep); (revert l1; intro _)))
  k_with "call ref" => (guard_hyp mk_hr_turn : Mk; (k_here; (with_reducible show wpAny _ _ (call (Value.ref 150) _) _ _ _); k_dflt ((refine' Word.useK (ms_yes _ _ _ _ _ _ _ _ _ _ _ _ _ _ _ ?v1 ?v2 ?v3 ?v4 ?v5) ms_yes_k ?u1 ?u2 ?u3 ?u4 ?u5 ?u6 ?u7 ?u8 ?u9 ?u10 ?_); k_extra "uc"; (case v1 => k_extra "side"); (case v2 => k_extra "side"); (case v3 => k_extra "side"); (case v4 => k_extra "side"); (case v5 => k_extra "side"); k_call_by "used" 0)))
  k_with "apart" => (guard_hyp mk_hr_turn : Mk; (with_reducible show apartN _ _; first | assumption | exact apartN_lt (by assumption) | exact apartN_lt (r1 (by assumption)) | exact apartN_lt (r2 (by assumption)) | exact apartN_lt (r3 (by assumption)) | exact apartN_lt (r4 (by assumption)) | exact apartN_lt (r5 (by assumption)) | exact apartN_lt (r6 (by assumption)) | exact apartN_lt (r7 (by assumption)) | exact apartN_lt (r8 (by assumption)) | exact apartN_lt (r9 (by assumption)) | exact apartN_lt (r10 (by assumption)) | exact apartN_lt (r11 (by assumption)) | exact apartN_lt (r12 (by assumption)) | exact apartN_lt (r13 (by assumption)) | exact apartN_lt (r14 (by assumption)) | exact apartN_lt (r15 (by assumption)) | exact apartN_lt (r16 (by assumption)) | exact r1 (by assumption) | exact r2 (by assumption) | exact r3 (by assumption) | exact r4 (by assumption) | exact r5 (by assumption) | exact r6 (by assumption) | exact r7 (by assumption) | exact r8 (by assumption) | exact r9 (by assumption) | exact r10 (by assumption) | exact r11 (by assumption) | exact r12 (by assumption) | exact r13 (by assumption) | exact r14 (by assumption) | exact r15 (by assumption) | exact r16 (by assumption)))
  k_fill
  intro X
  have hsc' : scope = { kind := _, names := _, isGenerator := _, isCoroutine := _, more := _ } := hsc
  clear hsc
  subst hsc'
  show wpAny _ _ (execs (_ :: _ :: _ :: _ :: []) _) _ _ _
  rw [hrM_of hst hdu hpa hmo hti] at F
  try dsimp only
  repeat' (first | ((fail_if_success (with_reducible show RangeRest _ _ _ _ _ _ _ _ _ _ _ _ _ _ _ _ _)); first | (k_unfold; (try dsimp only)) | (k_end; kc_close) | walk1 | (dsimp only; walk1) | (leave1; walk_say "STEP leave1"; (try dsimp only)) | fail "no step") | fail "no step")
  rename_i h9 tk9 F9 us1 nus1 hus N9 h10 tk10 t10 u10 v10 hR hK It lIt
  have aI : apartN It ((x, instObj 153 dx) :: (dx, stD w tick U t3 tt t5) :: (U, PySem.W.listOf us1.toArray nus1) :: (p, instObj 101 d) :: (d, pfD w T tT) :: (T, tupO vs nT) :: (DU, PySem.W.listOf dl.toArray ndl) :: rest) := apartN_lt lIt
  have aID : Ap It DU := ⟨Nat.ne_of_gt lIt.2.2.2.2.2.2.1⟩
  clear lIt hK hR hi
  rw [jh_start (Str.ofString "time") (hrM x DU p mo tmo tick tti m)]
  refine rangeRest_ind4 (fun pT pP _ _ => JH (Str.ofString "time") (hrM x DU p mo tmo tick tti m) pT pP) (fun _ _ dl1 nd1 => (x, instObj 153 dx) :: (dx, stD w tick U t3 tt t5) :: (U, PySem.W.listOf us1.toArray nus1) :: (p, instObj 101 d) :: (d, pfD w T tT) :: (T, tupO vs nT) :: (DU, PySem.W.listOf dl1.toArray nd1) :: rest) (fun i _ _ dl1 _ => IntsAre dl1 (due (ext l) mo tick ns i)) 8 ?step1 ?done1 8 0 _ _ dl ndl rfl (by rw [due_zero _ _ _ h8]; exact hdl)
  case step1 =>
    intro kk i pT pP dl1 nd1 hik hdl1 ih
    have hi8 : i < 8 := by omega
    have hdl8 : (due (ext l) mo tick ns i).length = 8 := due_length _ _ _ _ i
    refine RangeRest.succ (fun t' h' tk' F' N' => ?_)
    walk1
    refine gen_post (fun Q => ∀ o vv h2 tk2, (ext l)[i]? = some o → TV o vv → Fr g L h2 (fun y => if y = Str.ofString "time" then some vv else if y = Str.ofString "priority" then some (.int (0 + (i : Int)) t') else JH (Str.ofString "time") (hrM x DU p mo tmo tick tti m) pT pP y) →
      News g L h2 ((It, itR (0 + ((i + 1 : Nat) : Int)) (((8 : Nat) : Int) - ((i + 1 : Nat) : Int))) :: (x, instObj 153 dx) :: (dx, stD w tick U t3 tt t5) :: (U, PySem.W.listOf us1.toArray nus1) :: (p, instObj 101 d) :: (d, pfD w T tT) :: (T, tupO vs nT) :: (DU, PySem.W.listOf dl1.toArray nd1) :: rest) → Q .next { s with heap := h2, toks := tk2 }) ?rest ?time
    case time =>
      clear ih aI k
      intro Q' hQ
      rcases hl8 with hl8 | ⟨t0, e0⟩
      · obtain ⟨v0, v1, v2, v3, v4, v5, v6, v7, rfl⟩ := len8 (hl.length.trans hl8)
        obtain ⟨o, vv, ho, hvv, htv⟩ := hl.get (i := i) (by omega)
        have hvv' : [v0, v1, v2, v3, v4, v5, v6, v7][(0 + (i : Int)).toNat]? = some vv := by rw [show (0 + (i : Int)).toNat = i by omega]; exact hvv
        repeat' (first | ((fail_if_success (with_reducible show Q' _ _)); first | (k_unfold; (try dsimp only)) | (k_end; kc_close) | walk1 | (dsimp only; walk1) | (leave1; walk_say "STEP leave1"; (try dsimp only)) | fail "no step") | fail "no step")
        exact hQ o vv _ _ (by rw [ext8 hl8]; exact ho) htv (by k_asm) (by k_asm)
      · subst e0
        obtain ⟨u0, r0, rfl, ⟨tu0, rfl⟩, hr0⟩ := hl
        obtain rfl : r0 = [] := hr0
        repeat' (first | ((fail_if_success (with_reducible show Q' _ _)); first | (k_unfold; (try dsimp only)) | (k_end; kc_close) | walk1 | (dsimp only; walk1) | (leave1; walk_say "STEP leave1"; (try dsimp only)) | fail "no step") | fail "no step")
        exact hQ (some t0) _ _ _ (by rw [ext1, List.getElem?_replicate, if_pos hi8]) ⟨_, rfl⟩ (by k_asm) (by k_asm)
    case rest =>
      clear F' N'
      intro o vv h2 tk2 ho hv F' N'
      try dsimp only
      cases o with
      | none =>
        have e3 : vv = .none := hv
        subst e3
        repeat' (first | ((fail_if_success (with_reducible show UnrPost _ _ _ _ _ _ _ _ _)); first | (k_unfold; (try dsimp only)) | (k_end; kc_close) | walk1 | (dsimp only; walk1) | (leave1; walk_say "STEP leave1"; (try dsimp only)) | fail "no step") | fail "no step")
        dsimp only [UnrPost]
        rename Fr _ _ _ _ => F3
        rename News _ _ _ _ => N3
        rw [jh_step] at F3
        exact UnrEnd.intro F3 N3 _ (fun q hq => hq) (apartN_mem aI) (ih _ _ _ _ (by rw [due_none ho]; exact hdl1))
      | some tm =>
        obtain ⟨ttm, e3⟩ := hv
        subst e3
        have hb : 0 ≤ tm ∧ tm ≤ 65535 := hr tm (by
          rcases hl8 with e | ⟨t0, rfl⟩
          · rw [ext8 e] at ho; exact List.mem_of_getElem? ho
          · rw [ext1, List.getElem?_replicate, if_pos hi8] at ho; cases ho; exact .head _)
        repeat' (first | ((fail_if_success (with_reducible show UnrPost _ _ _ _ _ _ _ _ _)); first | (k_unfold; (try dsimp only)) | (k_end; kc_close) | walk1 | (dsimp only; walk1) | (leave1; walk_say "STEP leave1"; (try dsimp only)) | fail "no step") | fail "no step")
        dsimp only [UnrPost]
        rename Fr _ _ _ _ => F3
        rename News _ _ _ _ => N3
        rename IntsAre (List.set _ _ _) _ => hset
        rw [jh_step] at F3
        refine UnrEnd.intro F3 N3 _ (fun q hq => hq) (apartN_mem aI) (ih _ _ _ _ ?_)
        rw [due_some hi8 ho, ← due_eqb mo tm tick hb.1 h1]
        rw [show (0 + (i : Int)).toNat = i by omega] at hset ⊢
        exact hset
  case done1 =>
    intro pT pP dl1 nd1 hdl1 hh tkh Fh Nh
    have hdul : (due (ext l) mo tick ns 8).length = 8 := due_length _ _ _ _ _
    generalize hdz : due (ext l) mo tick ns 8 = dz at hus hdl1 hdul
    have husl : us1.length = 8 := hus.length.trans hdul
    have hdll : dl1.length = 8 := hdl1.length.trans hdul
    clear aI aID hdl h8 hl8 hr hl h5 h6
    try dsimp only
    repeat' (first | ((fail_if_success (with_reducible show wpAny _ _ (compareOp CmpOp.NotEq _ _) _ _ _)); first | (k_unfold; (try dsimp only)) | (k_end; kc_close) | walk1 | (dsimp only; walk1) | (leave1; walk_say "STEP leave1"; (try dsimp only)) | fail "no step") | fail "no step")
    refine ne_intsK (News.isList (by k_asm) (by k_mem)) hus (News.isList (by k_asm) (by k_mem)) hdl1 (by ktr_units) ?_
    rw [decide_eq_true rfl, Bool.not_true]
    repeat' (first | ((fail_if_success (with_reducible show RangeRest _ _ _ _ _ _ _ _ _ _ _ _ _ _ _ _ _)); first | (k_unfold; (try dsimp only)) | (k_end; kc_close) | walk1 | (dsimp only; walk1) | (leave1; walk_say "STEP leave1"; (try dsimp only)) | fail "no step") | fail "no step")
    rename_i D2 c2 h2' F2' N2' l2 h3 tk3 t3' u3 v3 hR2 hK2 It2 lIt2
    have aI2 : apartN It2 ((x, instObj 153 dx) :: (dx, stD w tick U t3 tt t5) :: (U, PySem.W.listOf us1.toArray nus1) :: (p, instObj 101 d) :: (d, pfD w T tT) :: (T, tupO vs nT) :: (DU, PySem.W.listOf dl1.toArray nd1) :: rest) := apartN_lt lIt2.2
    have bI1 : Ap It2 x := ⟨Nat.ne_of_gt lIt2.2.1⟩
    have bI2 : Ap It2 dx := ⟨Nat.ne_of_gt lIt2.2.2.1⟩
    have bI3 : Ap It2 U := ⟨Nat.ne_of_gt lIt2.2.2.2.1⟩
    clear lIt2 hK2 hR2 l2
    rw [jh_start (Str.ofString "here") (JH (Str.ofString "time") (hrM x DU p mo tmo tick tti m) pT pP)]
    refine rangeRest_drop _ _ _ _ ((x, instObj 153 dx) :: (dx, stD w tick U t3 tt t5) :: (U, PySem.W.listOf us1.toArray nus1) :: (p, instObj 101 d) :: (d, pfD w T tT) :: (T, tupO vs nT) :: (DU, PySem.W.listOf dl1.toArray nd1) :: rest) (fun q hq => List.mem_cons_of_mem _ hq) ?_
    refine rangeRest_ind4 (fun qT qP (_ : Unit) (_ : Unit) => JH (Str.ofString "here") (JH (Str.ofString "time") (hrM x DU p mo tmo tick tti m) pT pP) qT qP) (fun _ _ _ _ => (x, instObj 153 dx) :: (dx, stD w tick U t3 tt t5) :: (U, PySem.W.listOf us1.toArray nus1) :: (p, instObj 101 d) :: (d, pfD w T tT) :: (T, tupO vs nT) :: (DU, PySem.W.listOf dl1.toArray nd1) :: rest) (fun _ _ _ _ _ => True) 8 ?step2 ?done2 8 0 _ _ () () rfl True.intro
    case step2 =>
      intro kk i qT qP _ _ hik _ ih
      have hi8 : i < 8 := by omega
      refine RangeRest.succ (fun t' h' tk' F' N' => ?_)
      repeat' (first | ((fail_if_success (with_reducible show UnrPost _ _ _ _ _ _ _ _ _)); first | (k_unfold; (try dsimp only)) | (k_end; kc_close) | walk1 | (dsimp only; walk1) | (leave1; walk_say "STEP leave1"; (try dsimp only)) | fail "no step") | fail "no step")
      dsimp only [UnrPost]
      rename Fr _ _ _ _ => F3
      rename News _ _ _ _ => N3
      rw [jh_step] at F3
      exact UnrEnd.intro F3 N3 _ (by (repeat (refine memAllH_cons (by k_mem) ?_)); intro q hq; repeat (first | exact hq | apply List.mem_cons_of_mem)) (apartN_mem aI2) (ih _ _ () () True.intro)
    case done2 =>
      intro qT qP _ _ _ hh2 tkh2 Fh2 Nh2
      subst hdz
      try dsimp only
      repeat' (first | ((fail_if_success (with_reducible show Q _ _)); first | (k_unfold; (try dsimp only)) | (k_end; kc_close) | walk1 | (dsimp only; walk1) | (leave1; walk_say "STEP leave1"; (try dsimp only)) | fail "no step") | fail "no step")
      exact k _ _ _ _ _ _ _ Fh2 Nh2 hus hdl1 rfl rfl rfl
end

section
open PySem PySem.W PyProof.Rows PySem.Calls PySem.Spec PyProof.Rows.LCg

theorem tick_ok {t : Int} (h : t = 1 ∨ t = 2 ∨ t = 7 ∨ t = 512) : 1 ≤ t ∧ t ≤ 1000 := by
  rcases h with h | h | h | h <;> subst h <;> decide
set_option maxHeartbeats 8000000 in
theorem hr_word (w : World) (src p1 d1 T1 p2 d2 T2 : Addr) (a b : Int) (ta tb tt1 tt2 : Tok) (n n1 n2 : Nat) (vs1 vs2 : List Value) (oa ob : List (Option Int)) (h0a : 0 ≤ a) (h0b : 0 ≤ b) (hb : b < 2147483647)
    (ht1 : TVs oa vs1) (ht2 : TVs ob vs2) (hk1 : oa.length = 8 ∨ ∃ t, oa = [some t]) (hk2 : ob.length = 8 ∨ ∃ t, ob = [some t]) (hr1 : ∀ t, some t ∈ oa → 0 ≤ t ∧ t ≤ 65535) (hr2 : ∀ t, some t ∈ ob → 0 ≤ t ∧ t ≤ 65535)
    (hD : DistA [src, p1, d1, T1, p2, d2, T2]) :
    Word w 224 [.ref src, .ref p1, .ref p2] [(src, PySem.W.listOf #[.int a ta, .int b tb] n), (p1, instObj 101 d1), (d1, pfD w T1 tt1), (T1, tupO vs1 n1), (p2, instObj 101 d2), (d2, pfD w T2 tt2), (T2, tupO vs2 n2)] 20
      (fun h h' r own' => ∃ a' b' ta' tb' n', r = .bool true ∧ own' = [(src, PySem.W.listOf #[.int a' ta', .int b' tb'] n'), (p1, instObj 101 d1), (d1, pfD w T1 tt1), (T1, tupO vs1 n1), (p2, instObj 101 d2), (d2, pfD w T2 tt2), (T2, tupO vs2 n2)] ∧ 0 ≤ a' ∧ 0 ≤ b' ∧ b' < 2147483647) := by
  simp only [DistA, neAll, and_true] at hD
  obtain ⟨⟨a01, a02, a03, a04, a05, a06⟩, ⟨a12, a13, a14, a15, a16⟩, ⟨a23, a24, a25, a26⟩, ⟨a34, a35, a36⟩, ⟨a45, a46⟩, a56⟩ := hD
  unfold Word
  have mk_hr_word : Mk := ⟨⟩
  k_with "call ref" => (guard_hyp mk_hr_word : Mk; (k_here; (with_reducible show wpAny _ _ (call (Value.ref 205) _) _ _ _); k_dflt ((refine' Word.useK (take_word _ _ _ _ _ _ _ _ _ ?v1 ?v2 ?v3 ?v4 ?v5) take_word_k ?u1 ?u2 ?u3 ?u4 ?u5 ?u6 ?u7 ?u8 ?u9 ?u10 ?_); k_extra "uc"; (case v1 => k_extra "side"); (case v2 => k_extra "side"); (case v3 => k_extra "side"); (case v4 => k_extra "side"); (case v5 => k_extra "side"); k_call_by "used" 0)))
  k_with "call ref" => (guard_hyp mk_hr_word : Mk; (k_here; (with_reducible show wpAny _ _ (call (Value.ref 212) _) _ _ _); k_dflt ((refine' Word.useK (one_word _ _ _ _ _ _ _ _ _ _ _ ?w1 ?v2 ?v3 ?v4 ?v5 ?v6 ?v7) one_word_k ?u1 ?u2 ?u3 ?u4 ?u5 ?u6 ?u7 ?u8 ?u9 ?u10 ?_); k_extra "uc"; (case w1 => k_extra "side"); (case v2 => k_extra "side"); (case v3 => k_extra "side"); (case v4 => k_extra "side"); (case v5 => k_extra "side"); (case v6 => k_extra "side"); (case v7 => k_extra "side"); k_call_by "used" 0)))
  k_fill
  intro loose mean mg mb dp un gd cn cs ad ccd cl outer A₀ base h₀ L m s Q E B F X N T hk hdp hun hret
  refine wpAny_call ?_
  (refine' enterO (binds := [("source", .ref src), ("first", .ref p1), ("second", .ref p2)]) ?k1 ?k2 ?k3 ?k4 ?k5 ?kA ?kF ?kK ?k6 ?k7 ?k8 ?k9 ?kB ?_ ?c2 ?c3 ?c4 ?c5; (case kA => exact rfl); (case kF => exact rfl); (case kK => assumption); (case k1 => k_asm); (case k2 => k_asm); (case k3 => k_asm); (case k4 => k_asm); (case k5 => k_asm); (case k6 => k_is); (case k7 => k_is); (case k8 => ktr_room); (case k9 => exact BindsTo.of_eq rfl); (case c5 => decide); (case kB => exact locs rfl); (case c2 => exact rfl); (case c3 => exact rfl); (case c4 => exact rfl); k_whole)
  intro g' L' h' FG' F' N' B' X' T' l1 hko hkb hsz; (try k_lt l1); (try dsimp only); (try k_fold)
  refine wpAny_noRaise ?_
  repeat' (first | ((fail_if_success (with_reducible show wpAny _ _ (execs (Stmt.Expr _ _ :: _) _) _ _ _)); first | (k_unfold; (try dsimp only)) | (k_end; kc_close) | walk1 | (dsimp only; walk1) | (leave1; walk_say "STEP leave1"; (try dsimp only)) | fail "no step") | fail "no step")
  rename_i _ _ _ _ _ _ tick tt _ _ _ _ _ _ _ _ _ htick _ _ now tnow _ _ _ _ _ hn0 hn1 _ _ _ _ _ tlat lat _ a3 b3 ta3 tb3 n3 hl0 hl1 ha3 _ hb3 hc3 _ _ _ _ _ _ _ _ x dx _ ldx ltx _ _ _ _ _ _ _ tkx _ _ _ _ U _ iU _ _ _ _ _ _ _ _ _ tkz _ _ _ _ _ DU _ iz _ _ _ _ _ _ _ _ _ _ _ _ Ta _ _ Tb _ _ LL _ _ It _ _ _ oIt hIt _ _ _ _ _ _ NN
  have hti1 := tick_ok htick
  clear htick
  have lxp : src < x ∧ p1 < x ∧ d1 < x ∧ T1 < x ∧ p2 < x ∧ d2 < x ∧ T2 < x := ⟨Nat.lt_trans ldx.2.1 ltx, Nat.lt_trans ldx.2.2.2.1 ltx, Nat.lt_trans ldx.2.2.2.2.1 ltx, Nat.lt_trans ldx.2.2.2.2.2.1 ltx, Nat.lt_trans ldx.2.2.2.2.2.2.1 ltx, Nat.lt_trans ldx.2.2.2.2.2.2.2.1 ltx, Nat.lt_trans ldx.2.2.2.2.2.2.2.2 ltx⟩
  refine hr_turn w x dx U p1 d1 T1 DU L' tick now tt (tkx + 1) (tkx + 2 + 1 + 1) tt1 tnow _ _ vs1 _ 0 n1 0 _ oa [(It, oIt), (LL, PySem.W.listOf #[Value.ref Ta, Value.ref Tb] 0), (Tb, tupO [Value.ref p2, Value.int (50 + lat) tlat] 0), (src, PySem.W.listOf #[Value.int a3 ta3, Value.int b3 tb3] n3), (p2, instObj 101 d2), (d2, pfD w T2 tt2), (T2, tupO vs2 n2)] _ rfl loose mean mg mb _ _ _ _ _ _ g' _ _ _ iU iz rfl ht1 hk1 hr1 hti1.1 hti1.2 hn0 (by clear NN; omega) ⟨by k_ne⟩ ⟨by k_ne⟩ ⟨by k_ne⟩ ⟨by k_ne⟩ ⟨by k_ne⟩ ⟨by k_ne⟩ ⟨by k_ne⟩ ⟨by k_ne⟩ ⟨by k_ne⟩ ⟨by k_ne⟩ ⟨by k_ne⟩ ⟨by k_ne⟩ ⟨by k_ne⟩ ⟨by k_ne⟩ ⟨by k_ne⟩ ⟨by k_ne⟩ ⟨by k_ne⟩ (by simp only [apartN, and_true]; (repeat' apply And.intro) <;> k_ne) (by simp only [apartN, and_true]; (repeat' apply And.intro) <;> k_ne) (by simp only [apartN, and_true]; (repeat' apply And.intro) <;> k_ne) (by simp only [apartN, and_true]; (repeat' apply And.intro) <;> k_ne) (by simp only [apartN, and_true]; (repeat' apply And.intro) <;> k_ne) (by simp only [apartN, and_true]; (repeat' apply And.intro) <;> k_ne) (by simp only [apartN, and_true]; (repeat' apply And.intro) <;> k_ne) rfl rfl rfl rfl rfl B' X' T' (by k_asm) (news_sub NN (by repeat (first | exact memAllH_nil | refine memAllH_cons (by k_mem) ?_))) ?_ ?_ ?_
  · ktr_room
  · ktr_units
  · intro us1 nus1 dl1 ndl1 h5 tk5 m5 F5 N5 hus1 hdl1 hst1 hdu1 hti2
    clear NN
    try dsimp only
    repeat' (first | ((fail_if_success (with_reducible show wpAny _ _ (execs (Stmt.Expr _ _ :: _) _) _ _ _)); first | (k_unfold; (try dsimp only)) | (k_end; kc_close) | walk1 | (dsimp only; walk1) | (leave1; walk_say "STEP leave1"; (try dsimp only)) | fail "no step") | fail "no step")
    rename_i oJ _ _ _ _ _ _ F6 N6
    try dsimp only
    refine hr_turn w x dx U p2 d2 T2 DU L' tick (50 + lat) tt (tkx + 1) (tkx + 2 + 1 + 1) tt2 tlat tt us1 vs2 dl1 nus1 n2 ndl1 _ ob [(It, oJ), (LL, PySem.W.listOf #[Value.ref Ta, Value.ref Tb] 0), (Tb, tupO [Value.ref p2, Value.int (50 + lat) tlat] 0), (src, PySem.W.listOf #[Value.int a3 ta3, Value.int b3 tb3] n3), (p1, instObj 101 d1), (d1, pfD w T1 tt1), (T1, tupO vs1 n1)] _ rfl loose mean mg mb _ _ _ _ _ _ g' (fun y => if y = Str.ofString "moment" then some (.int (50 + lat) tlat) else if y = Str.ofString "pause" then some (.ref p2) else m5 y) _ _ hus1 hdl1 (due_length _ _ _ _ _) ht2 hk2 hr2 hti1.1 hti1.2 (by clear N6; omega) (by clear N6; omega) ⟨by k_ne⟩ ⟨by k_ne⟩ ⟨by k_ne⟩ ⟨by k_ne⟩ ⟨by k_ne⟩ ⟨by k_ne⟩ ⟨by k_ne⟩ ⟨by k_ne⟩ ⟨by k_ne⟩ ⟨by k_ne⟩ ⟨by k_ne⟩ ⟨by k_ne⟩ ⟨by k_ne⟩ ⟨by k_ne⟩ ⟨by k_ne⟩ ⟨by k_ne⟩ ⟨by k_ne⟩ (by simp only [apartN, and_true]; (repeat' apply And.intro) <;> k_ne) (by simp only [apartN, and_true]; (repeat' apply And.intro) <;> k_ne) (by simp only [apartN, and_true]; (repeat' apply And.intro) <;> k_ne) (by simp only [apartN, and_true]; (repeat' apply And.intro) <;> k_ne) (by simp only [apartN, and_true]; (repeat' apply And.intro) <;> k_ne) (by simp only [apartN, and_true]; (repeat' apply And.intro) <;> k_ne) (by simp only [apartN, and_true]; (repeat' apply And.intro) <;> k_ne) hst1 hdu1 rfl rfl hti2 B' X' T' F6 (news_sub N6 (by repeat (first | exact memAllH_nil | refine memAllH_cons (by k_mem) ?_))) ?_ ?_ ?_
    · ktr_room
    · ktr_units
    · intro us2 nus2 dl2 ndl2 h6 tk6 m6 F7 N7 hus2 hdl2 hst2 hdu2 hti3
      clear N6 F6
      try dsimp only
      k_steps
      · rename Fr g' _ _ _ => F8
        rename News h₀ _ _ _ => N8
        refine hret _ _ _ _ (fun b o e n => F8.keep b o (hko b o e n)) (news_sub (l' := [(src, PySem.W.listOf #[.int a3 ta3, .int b3 tb3] n3), (p1, instObj 101 d1), (d1, pfD w T1 tt1), (T1, tupO vs1 n1), (p2, instObj 101 d2), (d2, pfD w T2 tt2), (T2, tupO vs2 n2)]) N8 ?_) ⟨_, _, _, _, _, rfl, rfl, ‹_›, ‹_›, ‹_›⟩
        repeat (first | exact memAllH_nil | refine memAllH_cons (by k_mem) ?_)
theorem hr_word_k {w : World} {src p1 d1 T1 p2 d2 T2 : Addr} {tt1 tt2 : Tok} {n1 n2 : Nat} {vs1 vs2 : List Value} (h h' : Heap) (R₀ : Value → Led → Prop) (k₀ : ∀ a' b' ta' tb' n', (0 ≤ a') → (0 ≤ b') → (b' < 2147483647) → (R₀ (.bool true) [(src, PySem.W.listOf #[.int a' ta', .int b' tb'] n'), (p1, instObj 101 d1), (d1, pfD w T1 tt1), (T1, tupO vs1 n1), (p2, instObj 101 d2), (d2, pfD w T2 tt2), (T2, tupO vs2 n2)])) (r : Value) (own' : Led) (p₀ : ∃ a' b' ta' tb' n', r = .bool true ∧ own' = [(src, PySem.W.listOf #[.int a' ta', .int b' tb'] n'), (p1, instObj 101 d1), (d1, pfD w T1 tt1), (T1, tupO vs1 n1), (p2, instObj 101 d2), (d2, pfD w T2 tt2), (T2, tupO vs2 n2)] ∧ 0 ≤ a' ∧ 0 ≤ b' ∧ b' < 2147483647) : R₀ r own' := by
  obtain ⟨a', b', ta', tb', n', rfl, rfl, c0, c1, c2⟩ := p₀
  exact k₀ a' b' ta' tb' n' c0 c1 c2
end

section
open PySem PySem.W PyProof.Rows PySem.Calls PySem.Spec
section
variable {M : Model} {A : Around} {E : Value → Shared → Prop} {h : Heap} {g : Array GenState} {d : Drawn} {t : Nat} {os : OsState}
variable {nm q : Str} {C N : Addr} {bs bm bmB : List Value} {hdct : Bool} {sn : List Str} {sub : List Value} {ab : Bool} {col : Option Bool} {dd : Option Addr} {k0 k1 k2 k3 k5 : Option Value} {B newId initId : String}
/-- the maker's arguments, for a class two steps below a built-in one -/
theorem xs_check_new (F : ExcBaseFacts B newId initId bmB) (hB : (Value.ref C :: bm).contains (.type B) = true) {rest : List Value} {Q : Unit → Shared → Prop} (hC : h.get? C = some (excClassObj nm q C N bs bm hdct sn sub ab col dd k0 k1 k2 k3 k5 newId))
    (hq : Q () ⟨h, g, d, t, os⟩) : wpAny M A (checkBuiltinCall newId ⟨.ref C :: rest, []⟩) Q E ⟨h, g, d, t, os⟩ := by
  have hstar := F.noStar
  simp only [checkBuiltinCall, F.newKind, F.newSplit, F.newRow]
  repeat (first | refine wpAny_loadPart_at hC ?_ | (refine wpAny_isSubtype_exc hC ?_; rw [hB]) | refine wpAny_staticBase_exc hC ?_ | refine wpAny_madeBy_exc hC ?_ | simp only [bne_self_eq_false, Bool.false_eq_true, if_false] | wp_step)
  exact hq
end
section
variable {prog : Program} {w : World} {A : Around} {E : Value → Shared → Prop} {R : Result → Shared → Prop} {h : Heap} {g : Array GenState} {d : Drawn} {t : Nat} {os : OsState}
variable {nm q : Str} {C N : Addr} {bs bm bmB : List Value} {hdct : Bool} {sn : List Str} {sub : List Value} {ab : Bool} {col : Option Bool} {dd : Option Addr} {k0 k1 k2 k3 k5 : Option Value} {B newId initId : String}
theorem xs_new (F : ExcBaseFacts B newId initId bmB) (hB : (Value.ref C :: bm).contains (.type B) = true) (hcA : (Value.ref C :: bm).contains (.type "AttributeError") = false) (hcN : (Value.ref C :: bm).contains (.type "NameError") = false) {rest : List Value}
    (hC : h.get? C = some (excClassObj nm q C N bs bm hdct sn sub ab col dd k0 k1 k2 k3 k5 newId))
    (hq : R (.ok (.ret (.ref (h.objs.size + 1)))) ⟨(h.push { cls := .type "tuple", data := .seq rest.toArray }).push
      { cls := .ref C, data := .fields #[.ref h.objs.size, .none, .none, .none, .bool false, .none] }, g, d, t, os⟩) (hrest : rest.length ≤ sizeLine) :
    codeAny (model prog w) A (.builtin newId ⟨.ref C :: rest, []⟩) R ⟨h, g, d, t, os⟩ := by
  have hends := F.ends
  refine codeAny_builtinAt F.entry ?_
  unfold Builtin.«BaseException.__new__»
  refine _root_.PySem.wpAt_bind ?_
  show _root_.PySem.wpAt _ _ _ (stack >>= _) _ _ _
  refine _root_.PySem.wpAt_bind (_root_.PySem.wpAt_stack fun p below => _root_.PySem.wpAt_of_wpAny ?_)
  wp_walk
  refine _root_.PySem.wpAt_of_wpAny ?_
  rw [F.owner]
  repeat (first | with_reducible refine wpAny_madeHere_exc F.canon hC ?_ | with_reducible refine wpAny_loadPart_at hC ?_ | (with_reducible refine wpAny_isSubtype_exc hC ?_; first | rw [hB] | rw [hcA] | rw [hcN]) | wp_step)
  show R _ _
  rw [Heap.size_push]
  exact hq
theorem xs_type_call (F : ExcBaseFacts B newId initId bmB) (hB : (Value.ref C :: bm).contains (.type B) = true) (hcA : (Value.ref C :: bm).contains (.type "AttributeError") = false) (hcN : (Value.ref C :: bm).contains (.type "NameError") = false)
    {rest : List Value} {fI : Addr} {oI : Obj} {Q : Fin → Shared → Prop}
    (hC : h.get? C = some (excClassObj nm q C N bs bm hdct sn sub ab col dd k0 k1 k2 k3 k5 newId)) (hi : Looks (model prog w) h (typeLookup (.ref C) "__init__") (some (.ref fI)))
    (hfI : h.get? fI = some oI) (hfc : oI.cls = .type "function")
    (hq : ∀ h' e, Heap.MadeExcOf h h' e (.ref C) rest →
      wpAny (model prog w) A (call (.ref fI) (.ref e :: rest)) (fun r s' => r = .none ∧ Q (.done (.ret (.ref e))) s') E ⟨h', g, d, t, os⟩) (hrest : rest.length ≤ sizeLine) :
    wpAny (model prog w) A (Builtin.«type.__call__» ⟨.ref C :: rest, []⟩) Q E ⟨h, g, d, t, os⟩ := by
  repeat (first | with_reducible refine wpAny_loadPart_at hC ?_ | with_reducible refine wpAny_madeBy_exc hC ?_ | wp_step)
  refine codeAny_call_builtin_code (Code.quiet_builtin _ F.quiet) (xs_check_new F hB hC ?_)
  refine xs_new F hB hcA hcN hC ?_ hrest
  show wpAny _ _ _ _ _ _
  have kp : ∀ b o, h.get? b = some o → ((h.push { cls := .type "tuple", data := .seq rest.toArray }).push { cls := .ref C, data := .fields #[.ref h.objs.size, .none, .none, .none, .bool false, .none] }).get? b = some o :=
    fun b o e => Heap.get?_push_of_some _ (Heap.get?_push_of_some _ e)
  have hC₁ := kp _ _ hC
  have hfI₁ := kp _ _ hfI
  have hget : ((h.push { cls := .type "tuple", data := .seq rest.toArray }).push
      { cls := .ref C, data := .fields #[.ref h.objs.size, .none, .none, .none, .bool false, .none] }).get? (h.objs.size + 1) = some
      { cls := .ref C, data := .fields #[.ref h.objs.size, .none, .none, .none, .bool false, .none] } := by heap_get
  have hcC : (Value.ref C :: bm).contains (.ref C) = true := by simp
  unfold isInstance
  repeat (first | with_reducible refine wpAny_loadPart_at hget ?_ | (with_reducible refine wpAny_isSubtype_exc hC₁ ?_; rw [hcC]) | wp_step)
  show wpAny _ _ (typeLookup (.ref C) _) _ _ _
  refine hi _ _ _ _ kp ?_
  refine wpAny_holding (wpAny_bind ?_)
  unfold bindSpecial
  refine wpAny_bind (wpAny_typeOf (T := "function") ⟨_, hfI₁, hfc⟩ ?_)
  rw [if_pos (by decide)]
  refine wpAny_pure (wpAny_bind (wpAny_mono (hq _ (h.objs.size + 1) ⟨kp, Heap.get?_none_of_le (Nat.le_succ _), h.objs.size, hget, Heap.get?_none_of_le (Nat.le_refl _), ?_⟩) (fun r s' hr => ?_) fun _ _ x => x))
  · exact Heap.get?_push_of_some _ (Heap.get?_push_at rfl rfl)
  · obtain ⟨rfl, hQ⟩ := hr
    wp_walk
    exact hQ
theorem xs_call (F : ExcBaseFacts B newId initId bmB) (hB : (Value.ref C :: bm).contains (.type B) = true) (hcA : (Value.ref C :: bm).contains (.type "AttributeError") = false) (hcN : (Value.ref C :: bm).contains (.type "NameError") = false)
    {rest : List Value} {fI : Addr} {oI : Obj} {Q : Value → Shared → Prop}
    (hC : h.get? C = some (excClassObj nm q C N bs bm hdct sn sub ab col dd k0 k1 k2 k3 k5 newId)) (hi : Looks (model prog w) h (typeLookup (.ref C) "__init__") (some (.ref fI)))
    (hfI : h.get? fI = some oI) (hfc : oI.cls = .type "function")
    (hq : ∀ h' e, Heap.MadeExcOf h h' e (.ref C) rest →
      wpAny (model prog w) (A.under (.builtin "type.__call__" ⟨.ref C :: rest, []⟩)) (call (.ref fI) (.ref e :: rest)) (fun r s' => r = .none ∧ Q (.ref e) s') E ⟨h', g, d, t, os⟩) (hrest : rest.length ≤ sizeLine) :
    wpAny (model prog w) A (call (.ref C) rest) Q E ⟨h, g, d, t, os⟩ := by
  have f1 := tc_lookup
  have f2 := tc_bind (.ref C)
  have hT : (⟨h, g, d, t, os⟩ : Shared).TypeIs (.ref C) "type" := ⟨_, hC, rfl⟩
  refine wpAny_call (codeAny_of_tree ?_)
  show wpAny _ _ (callAny (.ref C) _) _ _ _
  repeat (any_goals (first | assumption | with_reducible refine wpAny_loadPart_at hC ?_ | wp_step))
  refine ⟨rfl, ?_⟩
  refine codeAny_call_builtin_at (Code.quiet_builtin _ (by decide +kernel)) entry_typeCall (wpAny_check_type_call_sub hC (xs_type_call F hB hcA hcN hC hi hfI hfc (fun h' e hm => ?_) hrest))
  exact hq h' e hm
end
/-- an exception object of an own class, its dict made -/
abbrev exO (C t D : Addr) : Obj := { cls := .ref C, dict := some D, data := .fields #[.ref t, .none, .none, .none, .bool false, .none] }
/-- a statement that raises what it makes -/
theorem xs_raise {prog : Program} {w : World} {A : Around} {E : Value → Shared → Prop} {s : Shared} {env : Env} {x : Expr} {pos : Pos} {Q : Flow → Shared → Prop}
    {nm q : Str} {C N : Addr} {bs bm : List Value} {hdct : Bool} {sn : List Str} {sub : List Value} {ab : Bool} {col : Option Bool} {dd : Option Addr} {k0 k1 k2 k3 k5 : Option Value} {newId : String}
    (hcB : (Value.ref C :: bm).contains (.type "BaseException") = true) (hh : A.handled = none)
    (h : wpAny (model prog w) A (eval x env) (fun v s₁ => ∃ e t D, v = .ref e ∧ s₁.heap.get? C = some (excClassObj nm q C N bs bm hdct sn sub ab col dd k0 k1 k2 k3 k5 newId) ∧
      s₁.heap.get? e = some (exO C t D) ∧ E (.ref e) s₁) E s) :
    wpAny (model prog w) A (exec (.Raise (some x) none pos) env) Q E s := by
  rw [arm_exec_Raise]
  simp only [evalOpt, Option.map]
  refine wpAny_bind (wpAny_standAt ?_)
  unfold raiseStmt
  refine wpAny_bind (wpAny_bind (wpAny_mono h (fun v s₁ h₁ => ?_) fun _ _ x => x))
  obtain ⟨e, t, D, rfl, hC, he, hE⟩ := h₁
  obtain ⟨hp, g, d, tk, os⟩ := s₁
  repeat (first | with_reducible refine wpAny_loadPart_at he ?_ | with_reducible refine wpAny_loadPart_at hC ?_ | (with_reducible refine wpAny_isSubtype_exc hC ?_; rw [hcB]) | wp_step)
  exact wpAny_raiseNew_none hh hE
end

section
open PySem PySem.W PyProof.Rows PySem.Calls PySem.Spec
open PySem.Builtin PySem.Builtin.ObjectAttr
section
variable {prog : Program} {w : World} {A : Around} {E : Value → Shared → Prop} {s : Shared} {h₀ : Heap} {L C e : Addr} {m : Str → Option Value} {K : Frag} {pre post : Led} {oe : Obj} {vs : Array Value} {cd : ClassData} {name : Str} {v : Value}
theorem xs_setattr {b : Option Value} {Q : Unit → Shared → Prop} (F : Fr h₀ L s.heap m) (X : K.In s.heap) (N : News h₀ L s.heap (pre ++ (e, oe) :: post)) (h1 : ∀ p ∈ pre, p.1 ≠ e) (h2 : ∀ p ∈ post, p.1 ≠ e)
    (hcls : oe.cls = .ref C) (hdict : oe.dict = none) (hdata : oe.data = .fields vs)
    (hs : findIn K (.ref C) "__setattr__" = some (some (.builtin "object.__setattr__"))) (hcd : clsIn K C = some cd) (hhd : cd.hasDict = true) (hmro : refuseLoop (.ref e) "__setattr__" cd.mro = pure ()) (hob : mroIn K C (.type "object") = some true)
    (ht : findIn K (.ref C) name = some none)
    (h : ∀ D h' tk, Fr h₀ L h' m → News h₀ L h' (pre ++ (e, { oe with dict := some D }) :: post) → Q () { s with heap := h', toks := tk }) : wpAny (model prog w) A (setAttr (.ref e) name v) Q E s := by
  have he : s.heap.get? e = some oe := (N (e, oe) (by simp)).1
  have I : InstAt s.heap e oe C none := ⟨he, hcls, by unfold notCls; rw [hdata], by rw [hdict]; trivial⟩
  refine set_plain X I hs ?_
  have SF := PySem.F.store_object
  have sub : Looks (model prog w) s.heap (isInstance (.ref e) (.type "object")) true := I.type.andThen (looks_mroIn X hob)
  refine codeAny_call_builtin SF.slot.plain SF.entry (@check_slot (model prog w) _ _ _ "object.__setattr__" "object" "__setattr__" (.ref e) [.str name s.toks, v] [] _ SF.kind SF.split sub (SF.args (.ref e) (.str name s.toks) v) ?_)
  have hm : Looks (model prog w) s.heap (mroOf (.ref C)) cd.mro := (looks_clsIn X hcd).andThen .now
  rw [osa_eq, refuse_eq]
  refine wpAny_bind (wpAny_bind (I.type _ _ _ _ (fun _ _ e => e) (wpAny_bind (hm _ _ _ _ (fun _ _ e => e) ?_))))
  rw [hmro]
  refine wpAny_pure (wpAny_bind (I.type _ _ _ _ (fun _ _ e => e) (wpAny_bind (looks_findIn X ht _ _ _ _ (fun _ _ e => e) ?_))))
  refine wpAny_bind (wpAny_pure ?_)
  show wpAny _ _ (storeInOwnDict (.ref e) (.ref C) (.str name s.toks) name v false) _ _ _
  unfold storeInOwnDict
  refine wpAny_bind (wpAny_pure ?_)
  show wpAny _ _ (ownDictForStores (.ref e) >>= _) _ _ _
  refine wpAny_bind ?_
  unfold ownDictForStores
  show wpAny _ _ (instanceDict e true) _ _ _
  unfold instanceDict
  refine wpAny_bind (wpAny_loadPart he ?_)
  obtain ⟨oc, odi, oda, osl⟩ := oe
  dsimp only at hcls hdict hdata
  subst hcls hdict hdata
  refine wpAny_bind (looks_clsIn X hcd _ _ _ _ (fun _ _ e => e) ?_)
  dsimp only
  rw [hhd]
  rw [if_neg (by decide), if_neg (by simp [typeHasDict])]
  obtain ⟨hp, g, d, tk, os⟩ := s
  dsimp only at F X N he I h ⊢
  have F1 := F.push { cls := Value.type "dict", data := Data.dict #[] }
  have N1 := News.push F N { cls := Value.type "dict", data := Data.dict #[] }
  have he1 : (hp.push { cls := Value.type "dict", data := Data.dict #[] }).get? e = some { cls := .ref C, dict := none, data := .fields vs, slots := osl } := Heap.get?_push_of_some _ he
  have hne : e ≠ hp.objs.size := Nat.ne_of_lt (Heap.lt_size he)
  have hD := (N1 _ (List.mem_cons_self)).1
  have hDL := (N1 _ (List.mem_cons_self)).2
  obtain ⟨F2, N2⟩ := news_upd (f := fun o => { cls := o.cls, dict := some hp.objs.size, data := o.data, slots := o.slots }) (o' := { cls := .ref C, dict := some hp.objs.size, data := .fields vs, slots := osl }) F1 (fun p hp => N1 p (.tail _ hp)) h1 h2 rfl rfl
  refine wpAny_bind (wpAny_alloc' ?_)
  refine wpAny_bind (wpAny_update' he1 ?_)
  refine wpAny_pure ?_
  show wpAny _ _ (storeInDict hp.objs.size (.str name _) name v) _ _ _
  have hgd : ((hp.push { cls := Value.type "dict", data := Data.dict #[] }).update e fun o => { cls := o.cls, dict := some hp.objs.size, data := o.data, slots := o.slots }).get? hp.objs.size = some { cls := .type "dict", data := .dict #[] } :=
    (Heap.get?_update_ne _ _ _ _ hne.symm).trans hD
  have hnd : ((hp.push { cls := Value.type "dict", data := Data.dict #[] }).update e fun o => { cls := o.cls, dict := some hp.objs.size, data := o.data, slots := o.slots }).Ns hp.objs.size (fun _ => none) :=
    ⟨_, #[], _, hgd, rfl, fun e he => absurd he (by simp), fun _ => rfl⟩
  unfold storeInDict newKeyGuard
  refine wpAny_bind (wpAny_pure (wpAny_bind (wpAny_nsSet1 (Heap.Ns1.of_empty hnd) fun h' hn' hs => ?_)))
  obtain ⟨oD, esD, epD, hoD, hdD, hcD⟩ := hn'.count (Within.cons name v Within.nil)
  refine wpAny_bind (wpAny_lookBehind hoD (by rw [hdD]; exact pastItsLine_dict (Nat.le_trans hcD (by rw [List.length_cons, List.length_nil, sizeLine_eq]; omega))) ?_)
  have F3 := F2.change hs (Ne.symm (fun q => hDL.1 q.symm)) hDL.2
  refine wpAny_pure (h _ _ _ F3 fun p hp' => ⟨hs.extBut _ _ ?_ (N2 p hp').1, (N2 p hp').2⟩)
  intro q
  have q2 := (N2 p hp').1
  rcases List.mem_append.mp hp' with z | z
  · have := Heap.lt_size (N p (List.mem_append_left _ z)).1
    rw [q] at this
    exact absurd this (Nat.lt_irrefl _)
  · rcases List.mem_cons.mp z with z | z
    · rw [z] at q
      exact hne q
    · have := Heap.lt_size (N p (List.mem_append_right _ (.tail _ z))).1
      rw [q] at this
      exact absurd this (Nat.lt_irrefl _)
theorem xs_check_init {nm q : Str} {N : Addr} {bs bm bmB : List Value} {hdct : Bool} {sn : List Str} {sub : List Value} {ab : Bool} {col : Option Bool} {dd : Option Addr} {k0 k1 k2 k3 k5 : Option Value} {B newId nid initId : String} {h : Heap} {g : Array GenState} {d : Drawn} {t : Nat} {os : OsState}
    (F : ExcBaseFacts B nid initId bmB) (hcB : (Value.ref C :: bm).contains (.type B) = true) {M : Model} {rest : List Value} {Q : Unit → Shared → Prop}
    (hC : h.get? C = some (excClassObj nm q C N bs bm hdct sn sub ab col dd k0 k1 k2 k3 k5 newId)) (he : h.get? e = some oe) (hcls : oe.cls = .ref C) (hq : Q () ⟨h, g, d, t, os⟩) :
    wpAny M A (checkBuiltinCall initId ⟨.ref e :: rest, []⟩) Q E ⟨h, g, d, t, os⟩ := by
  have hshort := F.noStar
  simp only [checkBuiltinCall, F.initKind, F.initSplit, F.initRow]
  repeat (first | (with_reducible refine wpAny_loadPart_at he ?_; rw [hcls]) | with_reducible refine wpAny_loadPart_at hC ?_ | (with_reducible refine wpAny_isSubtype_exc hC ?_; rw [hcB]) | wp_step)
  refine wpAny_onRaise ?_
  rw [show ∀ (a b : String) (n : Nat), Bind.check ⟨.positional, "*", B, .self, [⟨"args", .varPos, false⟩]⟩ a b n (List.map (fun x => x.fst) ({ pos := Value.ref e :: rest } : Args).kw) = pure () from
    fun a b n => check_star_args _ _ _ _ _ _]
  exact wpAny_pure hq
theorem xs_init {nm q : Str} {NN : Addr} {bs bm bmB : List Value} {hdct : Bool} {sn : List Str} {sub : List Value} {ab : Bool} {col : Option Bool} {dd : Option Addr} {k0 k1 k2 k3 k5 : Option Value} {B newId nid initId : String}
    (FE : ExcBaseFacts B nid initId bmB) (hcB : (Value.ref C :: bm).contains (.type B) = true) {rest : List Value} {t0 : Addr} {Q : Value → Shared → Prop}
    (hC : s.heap.get? C = some (excClassObj nm q C NN bs bm hdct sn sub ab col dd k0 k1 k2 k3 k5 newId))
    (F : Fr h₀ L s.heap m) (N : News h₀ L s.heap (pre ++ (e, oe) :: post)) (h1 : ∀ p ∈ pre, p.1 ≠ e) (h2 : ∀ p ∈ post, p.1 ≠ e) (hcls : oe.cls = .ref C) (hdata : oe.data = .fields vs) (h0 : vs[0]? = some (.ref t0)) (hrest : rest.length ≤ sizeLine)
    (h : ∀ t h', Fr h₀ L h' m → News h₀ L h' (pre ++ (e, { oe with data := .fields (vs.setIfInBounds 0 (.ref t)) }) :: post) → Q .none { s with heap := h' }) :
    wpAny (model prog w) A (call (.builtin initId) (.ref e :: rest)) Q E s := by
  have he : s.heap.get? e = some oe := (N (e, oe) (by simp)).1
  obtain ⟨hp, g, d, tk, os⟩ := s
  refine wpAny_call (codeAny_call_builtin FE.init.plain FE.initEntry (xs_check_init FE hcB hC he hcls ?_))
  unfold Builtin.«BaseException.__init__»
  dsimp only
  rw [if_neg (by simp)]
  unfold newTuple Builtin.BaseException.bexcPut
  have hsz : 0 < vs.size := (Array.getElem?_eq_some_iff.mp h0).1
  have he₁ := Heap.get?_push_of_some (h := hp) { cls := .type "tuple", data := .seq rest.toArray } he
  refine wpAny_bind (wpAny_newObj_type (wpAny_bind (wpAny_bind (wpAny_field he₁ hdata h0 (wpAny_bind (wpAny_setField he₁ hdata hsz ?_))))) (by show rest.toArray.size ≤ sizeLine; rw [List.size_toArray]; exact hrest))
  have F1 := F.push { cls := Value.type "tuple", data := Data.seq rest.toArray }
  have N1 := News.push F N { cls := Value.type "tuple", data := Data.seq rest.toArray }
  obtain ⟨oc, odi, oda, osl⟩ := oe
  dsimp only at hcls hdata
  subst hcls hdata
  obtain ⟨F2, N2⟩ := news_upd (f := Obj.mapFields (·.setIfInBounds 0 (.ref hp.objs.size))) (o' := { cls := .ref C, dict := odi, data := .fields (vs.setIfInBounds 0 (.ref hp.objs.size)), slots := osl }) F1 (fun p hp => N1 p (.tail _ hp)) h1 h2 rfl rfl
  exact wpAny_letGo (wpAny_pure (h _ _ F2 N2))
end
end

section
open PySem PySem.W PyProof.Rows PySem.Calls PySem.Spec

theorem meta_exc : typeOf (.type "Exception") = pure (.type "type") := by kernel_rfl
theorem size_cls (P : Params) : List.lookup (56 : Addr) (hd.heap_39 P) = some (excClassObj "SizeError" "SizeError" 56 55 [.ref 31] [.ref 31, .type "Exception", .type "BaseException", .type "object"] true [] [] false none none (some (.ref 47)) none (some (.str "SizeError" 234)) (some (.str "SizeError" 242)) (some (.bool true)) "Exception.__new__") := rfl
set_option maxHeartbeats 8000000 in
theorem init_word (w : World) (e t0 : Addr) (msg : Str) (tm : Tok) :
    Word w 28 [.ref e, .str msg tm] [(e, { cls := .ref 56, data := .fields #[.ref t0, .none, .none, .none, .bool false, .none] })] 2 (fun h h' r own' => r = .none ∧ ∃ t D, own' = [(e, exO 56 t D)]) := by
  unfold Word
  have mk_init_word : Mk := ⟨⟩
  k_with "getMethod type:Exception" => (guard_hyp mk_init_word : Mk; (k_here; refine' method_type ?z9F ?z9X ?z9m (by decide +kernel) ?z9e ?z9h ?_; (case z9F => k_asm); (case z9X => k_asm); (case z9m => exact meta_exc); (case z9e => k_dflt k_is); (case z9h => k_handed)))
  k_fill
  intro loose mean mg mb dp un gd cn cs ad ccd cl outer A₀ base h₀ L m s Q E B F X N T hk hdp hun hret
  refine wpAny_call ?_
  (refine' enterO (binds := [("self", .ref e), ("message", .str msg tm)]) ?k1 ?k2 ?k3 ?k4 ?k5 ?kA ?kF ?kK ?k6 ?k7 ?k8 ?k9 ?kB ?_ ?c2 ?c3 ?c4 ?c5; (case kA => exact rfl); (case kF => exact rfl); (case kK => assumption); (case k1 => k_asm); (case k2 => k_asm); (case k3 => k_asm); (case k4 => k_asm); (case k5 => k_asm); (case k6 => k_is); (case k7 => k_is); (case k8 => ktr_room); (case k9 => exact BindsTo.of_eq rfl); (case c5 => decide); (case kB => exact locs rfl); (case c2 => exact rfl); (case c3 => exact rfl); (case c4 => exact rfl); k_whole)
  intro g' L' h' FG' F' N' B' X' T' l1 hko hkb hsz; (try k_lt l1); (try dsimp only); (try k_fold)
  repeat' (first | ((fail_if_success (with_reducible show wpAny _ _ (call (Value.builtin "Exception.__init__") _) _ _ _)); first | (k_unfold; (try dsimp only)) | (k_end; kc_close) | walk1 | (dsimp only; walk1) | (leave1; walk_say "STEP leave1"; (try dsimp only)) | fail "no step") | fail "no step")
  rename Fr g' _ _ _ => F1
  rename News g' _ _ _ => N1
  refine xs_init (pre := []) (post := []) (C := 56) PySem.F.excBase_Exception (by decide) ((X'.keeps F1.keep) _ _ (size_cls _)) F1 N1 (fun _ h => nomatch h) (fun _ h => nomatch h) rfl rfl rfl (by rw [sizeLine_eq]; exact Nat.le_of_ble_eq_true rfl) ?_
  intro t1 h1 F2 N2
  clear F1 N1
  repeat' (first | ((fail_if_success (with_reducible show wpAny _ _ (setAttr _ _ _) _ _ _)); first | (k_unfold; (try dsimp only)) | (k_end; kc_close) | walk1 | (dsimp only; walk1) | (leave1; walk_say "STEP leave1"; (try dsimp only)) | fail "no step") | fail "no step")
  refine xs_setattr (b := none) (pre := []) (post := []) (C := 56) (K := hd.heap_39 w.params) F2 (X'.keeps F2.keep) N2 (fun _ h => nomatch h) (fun _ h => nomatch h) rfl rfl rfl ?a1 rfl rfl ?a2 ?a3 ?a4 ?_
  case a1 => k_is
  case a2 =>
    show refuseLoop (.ref e) "__setattr__" [.ref 56, .ref 31, .type "Exception", .type "BaseException", .type "object"] = pure ()
    rw [refuseLoop_ref, refuseLoop_ref]
    exact PySem.F.store_Exception.passes _
  case a3 => k_is
  case a4 => k_is
  intro D2 h3 tk3 F3 N3
  clear F2 N2
  k_steps
  · rename Fr g' _ _ _ => F8
    rename News h₀ _ _ _ => N8
    exact hret _ _ _ _ (fun b o e n => F8.keep b o (hko b o e n)) N8 ⟨rfl, _, _, rfl⟩
end

section
open PySem PySem.W PyProof.Rows PySem.Calls PySem.Spec
section
variable {w : World} {loose : List Str} {mean : ExcName → Option Value} {mg mb : Str → Option Value} {dp un : Nat} {gd : Option (List Code)} {cn : Str} {cs : Scope} {a : Addr} {ccd : Value} {cl : List (Str × Addr)} {outer : List Env} {A₀ : Around} {base h₀ : Heap} {L : Addr} {m : Str → Option Value} {s : Shared} {Q E : Value → Shared → Prop} {news : Led}
theorem size_made {msg : Str} {tm : Tok} (B : Below A₀ base outer h₀) (F : Fr h₀ L s.heap m) (X : (hd.heap_39 w.params).In h₀) (N : News h₀ L s.heap news) (T : Top topProg loose mean mg mb h₀) (hk : cs.kind = .function)
    (hdp : dp + 4 < recursionLimit) (hun : un + 8 * 4 < cLine)
    (k : ∀ e t D h' tk', Fr h₀ L h' m → News h₀ L h' ((e, exO 56 t D) :: news) → apartN e news → Q (.ref e) { s with heap := h', toks := tk' }) :
    wpAny (model PySem.Challenge.rw_pf0382_01.row.prog w) (ktrTop dp un gd cn cs L a ccd cl outer) (call (.ref 56) [.str msg tm]) Q E s := by
  obtain ⟨hp, g, d, tk, os⟩ := s
  have XS : (hd.heap_39 w.params).In hp := X.keeps F.keep
  refine xs_call PySem.F.excBase_Exception (by decide) (by decide) (by decide) (XS _ _ (size_cls _)) (looks_findIn (r := some (.ref 28)) XS (show findIn (hd.heap_39 w.params) (.ref 56) "__init__" = some (some (.ref 28)) from rfl)) (fI := 28) (XS _ _ rfl) rfl (fun h1 e hm => ?_) (by rw [sizeLine_eq]; exact Nat.le_of_ble_eq_true rfl)
  obtain ⟨t, he, htn, ht⟩ := hm.there
  have F1 : Fr h₀ L h1 m := F.keeps hm.keeps
  have heL : e ≠ L := fun q => by
    obtain ⟨oL, _, _, hL, _⟩ := F.ns
    have := hm.new
    rw [q] at this
    exact absurd (this.symm.trans hL) (fun z => nomatch z)
  have he0 : h₀.get? e = none := by
    cases z : h₀.get? e with
    | none => rfl
    | some o => have := F.keep _ _ z; rw [hm.new] at this; cases this
  have N0 : News h₀ L h1 [(e, { cls := .ref 56, data := .fields #[.ref t, .none, .none, .none, .bool false, .none] })] := fun p hp' => by
    rw [List.mem_singleton.mp hp']
    exact ⟨he, heL, he0⟩
  have ap : apartN e news := apartN_of N hm.new
  have hA : (ktrTop dp un gd cn cs L a ccd cl outer).under (.builtin "type.__call__" ⟨.ref 56 :: [.str msg tm], []⟩) = ktrTop (dp + 1) (un + 1) ((ktrTop dp un gd cn cs L a ccd cl outer).under (.builtin "type.__call__" ⟨.ref 56 :: [.str msg tm], []⟩)).guards cn cs L a ccd cl outer := rfl
  rw [hA]
  refine init_word w e t msg tm loose mean mg mb (dp + 1) (un + 1) _ cn cs a ccd cl outer A₀ base h₀ L m ⟨h1, g, d, tk, os⟩ _ _ B F1 X N0 T hk (by omega) (by omega) fun r own' h' tk' kb N' P => ?_
  obtain ⟨e1, t2, D, e2⟩ := P
  subst e1 e2
  refine ⟨rfl, k e t2 D h' tk' (kb.fr F1 N0) (fun p hp' => ?_) ap⟩
  rcases List.mem_cons.mp hp' with z | z
  · rw [z]; exact N' _ (.head _)
  · refine kb.news (N.grown hm.keeps) (fun p hp q hq => ?_) p z
    rw [List.mem_singleton.mp hq]
    exact ap.out p hp
end
end

section
open PySem PySem.W PyProof.Rows PySem.Calls PySem.Spec
theorem raised_sub {base G : Heap} {l : List Env} {e : Addr} {cls : Value} {news news' : Led} {h : Heap} (R : RaisedSN base G l e cls news h) (k : ∀ q ∈ news', q ∈ news) : RaisedSN base G l e cls news' h := by
  obtain ⟨B, a0, h1, h2, h3, h4⟩ := R
  exact ⟨B, a0, h1, h2, fun q hq => h3 q (k q hq), h4⟩
theorem xs_mem {env : Env} {outer : List Env} {L b : Addr} (hf : env.frame = some L) (hm : b ∈ (env :: outer).filterMap (·.frame)) : b = L ∨ b ∈ outer.filterMap (·.frame) := by
  obtain ⟨env', he, hf'⟩ := List.mem_filterMap.mp hm
  rcases List.mem_cons.mp he with rfl | he
  · exact .inl (Option.some.inj (hf.symm.trans hf')).symm
  · exact .inr (List.mem_filterMap.mpr ⟨env', he, hf'⟩)
section
variable {M : Model} {A : Around} {E : Value → Shared → Prop} {s' : Shared} {base g g₂ : Heap} {outer : List Env} {L e C t D : Addr} {m : Str → Option Value} {env : Env} {Q : Unit → Shared → Prop} {news : Led} {cls : Value}
/-- the first frame that a raise leaves -/
theorem xs_leave (K : Below A base outer g) (F : Fr g L s'.heap m) (N : News g L s'.heap ((e, exO C t D) :: news)) (ap : apartN e news) (hf : env.frame = some L) (hk : env.scope.kind = .function)
    (hQ : ∀ h', RaisedSN base g outer e (.ref C) news h' → g.UpToSlots h' → Q () { s' with heap := h' }) : wpAny M (A.deeper env) (leaving env (.ref e)) Q E s' := by
  have K' := pushX K F hf hk
  have ne := N _ (.head _)
  have hin : ∀ env' ∈ (env :: outer), ∀ b, env'.frame = some b → b ∈ e :: (env :: outer).filterMap (·.frame) := fun env' he b hb => .tail _ (List.mem_filterMap.mpr ⟨env', he, hb⟩)
  have be : base.get? e = none := fresh_of_stays K.stays ne.2.2
  have out : ∀ b o, s'.heap.get? b = some o → b ≠ e → b ≠ L → b ∉ outer.filterMap (·.frame) → (hideAll s'.heap (e :: (env :: outer).filterMap (·.frame))).get? b = some o := fun b o hb h1 h2 h3 => hideAll_get _ hb fun hm => by
    rcases List.mem_cons.mp hm with z | z
    · exact h1 z
    · rcases xs_mem hf z with z | z
      · exact h2 z
      · exact h3 z
  have st : base.StaysIn (hideAll s'.heap (e :: (env :: outer).filterMap (·.frame))) := fun b o q => hideAll_get _ (K'.stays b o q) fun hm => by
    rcases List.mem_cons.mp hm with z | z
    · rw [z, be] at q; cases q
    · rw [(K'.frames.mem z).1] at q; cases q
  have sg : ∀ b o, g.get? b = some o → b ∉ outer.filterMap (·.frame) → (hideAll s'.heap (e :: (env :: outer).filterMap (·.frame))).get? b = some o := fun b o q nm =>
    out b o (F.keep b o q) (fun z => by rw [z, ne.2.2] at q; cases q) (fun z => by rw [z, kts_self F] at q; cases q) nm
  have hl : ∀ q ∈ news, (hideAll s'.heap (e :: (env :: outer).filterMap (·.frame))).get? q.1 = some q.2 ∧ g.get? q.1 = none ∧ base.get? q.1 = none := fun q hq => by
    have nq := N q (.tail _ hq)
    refine ⟨out _ _ nq.1 (fun z => ap.out q hq z.symm) nq.2.1 (fun hm => ?_), nq.2.2, fresh_of_stays K.stays nq.2.2⟩
    obtain ⟨o, ho, _⟩ := (K.frames.mem hm).2
    rw [nq.2.2] at ho; cases ho
  have hen : (hideAll s'.heap (e :: (env :: outer).filterMap (·.frame))).get? e = none := hideAll_none _ (.head _)
  refine wpAny_leaving_firstW (a0 := .ref t) K'.stack (funFrames_hide K'.frames hin) hf ne.1 (fun b o hb => of_hideAll _ hb) hen rfl rfl rfl fun h' hL => ?_
  obtain ⟨k1, ⟨_, _, k2⟩, k3, k4⟩ := hL
  exact hQ h' ⟨_, .ref t, st, sg, hl, k1, hen, k2, k3⟩ ((Heap.UpToSlots.of_keeps F.keep).trans k4)
/-- a frame that a raise from within leaves -/
theorem xs_leave_on (K : Below A base outer g) (F : Fr g L g₂ m) (R : RaisedSN base g₂ (env :: outer) e cls news s'.heap) (hsm : g₂.UpToSlots s'.heap) (hf : env.frame = some L) 
    (hQ : ∀ h', RaisedSN base g outer e cls news h' → g.UpToSlots h' → Q () { s' with heap := h' }) :
    wpAny M (A.deeper env) (leaving env (.ref e)) Q E s' := by
  obtain ⟨B, a0, hB, hBG, hl, hfl⟩ := R
  exact wpAny_leaves_onW (Around.frames_deeper K.stack) hf hfl fun h' x1 x2 =>
    hQ h' ⟨B, a0, hB, fun b o q nm => hBG b o (F.keep b o q) (fun hm => by
      rcases xs_mem hf hm with z | z
      · rw [z, kts_self F] at q
        cases q
      · exact nm z), fun q hq => ⟨(hl q hq).1, kts_none F.keep (hl q hq).2.1, (hl q hq).2.2⟩, x1⟩ ((Heap.UpToSlots.of_keeps F.keep).trans (hsm.trans x2))
end
/-- the word of a def that raises a SizeError -/
def WordE (w : World) (f : Addr) (vs : List Value) (own : Led) (cost : Nat) : Prop :=
  ∀ (loose : List Str) (mean : ExcName → Option Value) (mg mb : Str → Option Value) (dp un : Nat) (gd : Option (List Code)) (cn : Str) (cs : Scope) (a : Addr) (ccd : Value) (cl : List (Str × Addr)) (outer : List Env) (A₀ : Around) (base h₀ : Heap) (L : Addr) (m : Str → Option Value) (s : Shared) (Q E : Value → Shared → Prop) (rest : Led),
    Below A₀ base outer h₀ → Fr h₀ L s.heap m → (hd.heap_39 w.params).In h₀ → News h₀ L s.heap (own ++ rest) → Top topProg loose mean mg mb h₀ → cs.kind = .function → dp + cost < recursionLimit → un + 8 * cost < cLine →
    (∀ e G h' tk', Fr h₀ L G m → RaisedSN base G (envX cn cs L a ccd cl :: outer) e (.ref 56) (own ++ rest) h' → G.UpToSlots h' → E (.ref e) { s with heap := h', toks := tk' }) →
    wpAny (model PySem.Challenge.rw_pf0382_01.row.prog w) (ktrTop dp un gd cn cs L a ccd cl outer) (call (.ref f) vs) Q E s
section
variable {w : World} {f : Addr} {vs : List Value} {own : Led} {cost : Nat}
  {loose : List Str} {mean : ExcName → Option Value} {mg mb : Str → Option Value} {dp un : Nat} {gd : Option (List Code)} {cn : Str} {cs : Scope} {a : Addr} {ccd : Value} {cl : List (Str × Addr)} {outer : List Env} {A₀ : Around} {base h₀ : Heap} {L : Addr} {m : Str → Option Value} {s : Shared} {Q E : Value → Shared → Prop} {news : Led}
theorem WordE.use (C : WordE w f vs own cost) (B : Below A₀ base outer h₀) (F : Fr h₀ L s.heap m) (X : (hd.heap_39 w.params).In h₀) (N : News h₀ L s.heap news) (T : Top topProg loose mean mg mb h₀) (hk : cs.kind = .function)
    (P : ∀ q ∈ own, q ∈ news) (hd : dp + cost < recursionLimit) (hu : un + 8 * cost < cLine)
    (k : ∀ e G h' tk', Fr h₀ L G m → RaisedSN base G (envX cn cs L a ccd cl :: outer) e (.ref 56) news h' → G.UpToSlots h' → E (.ref e) { s with heap := h', toks := tk' }) :
    wpAny (model PySem.Challenge.rw_pf0382_01.row.prog w) (ktrTop dp un gd cn cs L a ccd cl outer) (call (.ref f) vs) Q E s :=
  C _ _ _ _ _ _ _ _ _ _ _ _ _ _ _ _ _ _ _ _ _ news B F X (fun p hp => (List.mem_append.mp hp).elim (fun z => N p (P p z)) (N p)) T hk hd hu fun e G h' tk' FG R U => k e G h' tk' FG (raised_sub R fun q hq => List.mem_append_right _ hq) U
end
theorem size_raise {w : World} {A : Around} {E : Value → Shared → Prop} {s : Shared} {env : Env} {x : Expr} {pos : Pos} {Q : Flow → Shared → Prop} (hh : A.handled = none)
    (h : wpAny (model PySem.Challenge.rw_pf0382_01.row.prog w) A (eval x env) (fun v s₁ => ∃ e t D, v = .ref e ∧ (hd.heap_39 w.params).In s₁.heap ∧ s₁.heap.get? e = some (exO 56 t D) ∧ E (.ref e) s₁) E s) :
    wpAny (model PySem.Challenge.rw_pf0382_01.row.prog w) A (exec (.Raise (some x) none pos) env) Q E s := by
  refine xs_raise (nm := "SizeError") (q := "SizeError") (C := 56) (N := 55) (bs := [.ref 31]) (bm := [.ref 31, .type "Exception", .type "BaseException", .type "object"]) (hdct := true) (sn := []) (sub := []) (ab := false) (col := none) (dd := none) (k0 := some (.ref 47)) (k1 := none)
    (k2 := some (.str "SizeError" 234)) (k3 := some (.str "SizeError" 242)) (k5 := some (.bool true)) (newId := "Exception.__new__") (by decide) hh (wpAny_mono h (fun v s₁ h₁ => ?_) fun _ _ x => x)
  obtain ⟨e, t, D, e1, X, he, hE⟩ := h₁
  exact ⟨e, t, D, e1, X _ _ (size_cls _), he, hE⟩
end

section
open PySem PySem.W PyProof.Rows PySem.Calls PySem.Spec


set_option maxHeartbeats 8000000 in
theorem num_bad (w : World) (x : Int) (tx t2 : Tok) (hx : ¬ (0 ≤ x ∧ x < 65536)) (hb1 : -1000000000000 ≤ x) (hb2 : x ≤ 1000000000000) :
    WordE w 63 [.int x tx, .int 2 t2] [] 5 := by
  unfold WordE
  k_fill
  intro loose mean mg mb dp un gd cn cs ad ccd cl outer A₀ base h₀ L m s Q E rest B F X N T hk hdp hun hE
  refine wpAny_call ?_
  (refine' enterC (binds := [("number", .int x tx), ("many", .int 2 t2)]) ?k1 ?k2 ?k3 ?k4 ?k5 ?kA ?kF ?kK ?k6 ?k7 ?k8 ?k9 ?kB ?kD ?_ ?c2 ?c3 ?c4; (case kA => exact rfl); (case kF => exact rfl); (case kK => assumption); (case k1 => k_asm); (case k2 => k_asm); (case k3 => k_asm); (case k4 => k_asm); (case k5 => k_asm); (case k6 => k_is); (case k7 => k_is); (case k8 => ktr_room); (case k9 => exact BindsTo.of_eq rfl); (case kB => exact rfl); (case kD => decide +kernel); (case c2 => exact rfl); (case c3 => exact rfl); (case c4 => exact rfl); k_whole)
  intro g' L' h' tk' cells' FG' F' N' Y' B' X' T' l1 hko hkb hsz; (try k_lt l1); k_cells Y'; (try simp only [List.cons_append, List.nil_append] at N'); (try dsimp only); (try k_fold)
  have hp16 : (1 : Int) * 2 ^ Int.toNat (8 * 2) = 65536 := by decide
  repeat' (first | ((fail_if_success (with_reducible show wpAny _ _ (exec (Stmt.Raise _ _ _) _) _ _ _)); first | (k_unfold; (try dsimp only)) | (k_end; kc_close) | walk1 | (dsimp only; walk1) | (leave1; walk_say "STEP leave1"; (try dsimp only)) | fail "no step") | fail "no step")
  all_goals
    refine size_raise rfl ?_
    repeat' (first | ((fail_if_success (with_reducible show wpAny _ _ (call (Value.ref 56) _) _ _ _)); first | (k_unfold; (try dsimp only)) | (k_end; kc_close) | walk1 | (dsimp only; walk1) | (leave1; walk_say "STEP leave1"; (try dsimp only)) | fail "no step") | fail "no step")
    rename Fr g' _ _ _ => F9
    rename News g' _ _ _ => N9
    refine size_made B' F9 X' N9 T' rfl (by ktr_room) (by ktr_units) ?_
    intro e t D h9 tk9 F10 N10 ap
    refine ⟨e, t, D, rfl, X'.keeps F10.keep, (N10 _ (.head _)).1, ?_⟩
    refine xs_leave B' F10 N10 ap rfl rfl ?_
    intro h11 R U
    exact hE e g' h11 _ FG' (raised_sub R fun q hq => .tail _ hq) U
end

section
open PySem PySem.W PyProof.Rows PySem.Calls PySem.Spec


set_option maxHeartbeats 8000000 in
theorem p16_bad (w : World) (x : Int) (tx : Tok) (hx : ¬ (0 ≤ x ∧ x < 65536)) (hb1 : -1000000000000 ≤ x) (hb2 : x ≤ 1000000000000) :
    WordE w 77 [.int x tx] [] 6 := by
  unfold WordE
  k_fill
  intro loose mean mg mb dp un gd cn cs ad ccd cl outer A₀ base h₀ L m s Q E rest B F X N T hk hdp hun hE
  refine wpAny_call ?_
  (refine' enterO (binds := [("number", .int x tx)]) ?k1 ?k2 ?k3 ?k4 ?k5 ?kA ?kF ?kK ?k6 ?k7 ?k8 ?k9 ?kB ?_ ?c2 ?c3 ?c4 ?c5; (case kA => exact rfl); (case kF => exact rfl); (case kK => assumption); (case k1 => k_asm); (case k2 => k_asm); (case k3 => k_asm); (case k4 => k_asm); (case k5 => k_asm); (case k6 => k_is); (case k7 => k_is); (case k8 => ktr_room); (case k9 => exact BindsTo.of_eq rfl); (case c5 => decide); (case kB => exact locs rfl); (case c2 => exact rfl); (case c3 => exact rfl); (case c4 => exact rfl); k_whole)
  intro g' L' h' FG' F' N' B' X' T' l1 hko hkb hsz; (try k_lt l1); (try dsimp only); (try k_fold)
  repeat' (first | ((fail_if_success (with_reducible show wpAny _ _ (call (Value.ref 63) _) _ _ _)); first | (k_unfold; (try dsimp only)) | (k_end; kc_close) | walk1 | (dsimp only; walk1) | (leave1; walk_say "STEP leave1"; (try dsimp only)) | fail "no step") | fail "no step")
  refine WordE.use (num_bad w x _ _ hx hb1 hb2) B' F' X' N' T' rfl (fun _ h => nomatch h) (by ktr_room) (by ktr_units) ?_
  intro e G h9 tk9 FG9 R U
  refine xs_leave_on B' FG9 R U rfl ?_
  intro h11 R2 U2
  exact hE e g' h11 _ FG' R2 U2
end

section
open PySem PySem.W PyProof.Rows PySem.Calls PySem.Spec PyProof.Rows.LCg
theorem funFrames_but {B h h' : Heap} {C : Addr} {oC : Obj} (hC : B.get? C = some oC) (hs : Heap.SameBut C h h') : ∀ {l : List Env}, h.FunFrames B l → h'.FunFrames (hideAll B [C]) l
  | [], _ => trivial
  | env :: _, ⟨hk, ⟨L, o, hf, hn, ho, hd⟩, hr⟩ => by
    have hne : L ≠ C := fun q => by rw [q, hC] at hn; cases hn
    refine ⟨hk, ⟨L, o, hf, ?_, (hs.2 L hne).trans ho, hd⟩, funFrames_but hC hs hr⟩
    cases z : (hideAll B [C]).get? L with
    | none => rfl
    | some o' => have := of_hideAll _ z; rw [hn] at this; cases this
/-- the raise is held in the frame; one object of the ledger is changed -/
theorem held_but {B h h' : Heap} {l : List Env} {e C L : Addr} {oC : Obj} {cls a0 : Value} (x : Heap.HeldW B l e cls a0 L h) (hC : B.get? C = some oC) (hs : Heap.SameBut C h h') : Heap.HeldW (hideAll B [C]) l e cls a0 L h' := by
  obtain ⟨f1, f2, f3, oe, vs, T, oT, ts, a1, a2, a3, a4, a5, a6, a7, a8, a9⟩ := x
  have eC : e ≠ C := fun q => by rw [q, hC] at f2; cases f2
  have TC : T ≠ C := fun q => by rw [q, hC] at a5; cases a5
  have hid : ∀ b, B.get? b = none → (hideAll B [C]).get? b = none := fun b hb => by
    cases z : (hideAll B [C]).get? b with
    | none => rfl
    | some o' => have := of_hideAll _ z; rw [hb] at this; cases this
  refine ⟨fun b o q => ?_, hid _ f2, funFrames_but hC hs f3, oe, vs, T, oT, ts, (hs.2 e eC).trans a1, a2, a3, a4, hid _ a5, a6, (hs.2 T TC).trans a7, a8, a9⟩
  have hb : b ≠ C := fun z => by rw [z, hideAll_none [C] (.head _)] at q; cases q
  exact (hs.2 b hb).trans (f1 b o (of_hideAll _ q))
section
variable {M : Model} {A : Around} {E : Value → Shared → Prop} {s : Shared} {B : Heap} {l : List Env} {e L : Addr} {cls a0 : Value}
theorem held_pass {α : Type} {what : String} {cenv : Env} {P : α → Shared → Prop} (hf : cenv.frame = some L) (x : Heap.HeldW B l e cls a0 L s.heap)
    (h : ∀ h', Heap.HeldW B l e cls a0 L h' → s.heap.UpToSlots h' → E (.ref e) { s with heap := h' }) : wpAny M A (_root_.PySem.passOn what (.ref e) cenv : Sem α) P E s := by
  obtain ⟨f1, f2, f3, oe, vs, T, oT, ts, a1, a2, a3, a4, a5, a6, a7, a8, a9⟩ := x
  have hsz : 3 < ts.size := (Array.getElem?_eq_some_iff.mp a9).1
  have other : ∀ b, b ≠ T → (s.heap.update T (Obj.mapFields (·.setIfInBounds 3 (rawInt L)))).get? b = s.heap.get? b := fun b hb => Heap.get?_update_other _ _ (Ne.symm hb)
  have noRecord : ∀ b o, s.heap.get? b = some o → (∀ vs, o.data ≠ .fields vs) → b ≠ T := fun b o hb hnf q => by
    rw [q, a7] at hb; injection hb with hb; subst hb; exact hnf ts a8
  unfold _root_.PySem.passOn
  refine wpAny_bind (wpAny_field a1 a3 a4 ?_)
  rw [if_neg (show ¬ ((Value.ref T == Value.none) = true) from Bool.false_ne_true)]
  refine wpAny_bind ?_
  unfold setFlight
  refine wpAny_bind (wpAny_field a1 a3 a4 ?_)
  rw [if_pos (show (Value.ref T != Value.none) = true from by simp), hf]
  refine wpAny_setField a7 a8 hsz ?_
  refine wpAny_throw (h _ ⟨fun b o hb => (other b fun q => by rw [q, a5] at hb; cases hb).trans (f1 b o hb), f2, f3.of_keeps fun b o hb hnf => ⟨o, (other b (noRecord b o hb hnf)).trans hb, rfl⟩,
    oe, vs, T, _, _, (other e (Ne.symm a6)).trans a1, a2, a3, a4, a5, a6, Heap.get?_update_self _ a7 (Obj.isFreed_of_fields (Obj.data_mapFields a8 _)), Obj.data_mapFields a8 _, by simp [hsz]⟩ fun b o hb hnf => ⟨o.slots, (other b (noRecord b o hb hnf)).trans hb⟩)
end
/-- a raise that is held in the frame where a comprehension let it through -/
def HeldSN (base G : Heap) (l : List Env) (e : Addr) (cls : Value) (L : Addr) (news : Led) (h : Heap) : Prop :=
  ∃ B a0, base.StaysIn B ∧ (∀ b o, G.get? b = some o → b ∉ l.filterMap (·.frame) → B.get? b = some o) ∧ (∀ q ∈ news, B.get? q.1 = some q.2 ∧ G.get? q.1 = none ∧ base.get? q.1 = none) ∧ Heap.HeldW B l e cls a0 L h
section
variable {M : Model} {A₀ : Around} {E : Value → Shared → Prop} {s' : Shared} {base g G : Heap} {outer : List Env} {L e C : Addr} {m mC : Str → Option Value} {env cenv : Env} {news rest : Led} {cls : Value} {oC : Obj}
theorem xs_err (K : Below A₀ base outer g) (R : RaisedSN base G (env :: outer) e cls ((C, oC) :: rest) s'.heap) (hsm : G.UpToSlots s'.heap) (hf : env.frame = some L) (hcf : cenv.frame = env.frame) (hcl : cenv.locals = C) (hoC : NsObj oC mC) (apart : ∀ q ∈ rest, q.1 ≠ C)
    (hQ : ∀ h', HeldSN base G (env :: outer) e cls L rest h' → G.UpToSlots h' → E (.ref e) { s' with heap := h' }) :
    notedBy M (A₀.deeper env) cenv (ErrE M (A₀.deeper env) E cenv) (.ref e) s' := by
  obtain ⟨B, a0, hB, hBG, hl, hfl⟩ := R
  have hCB := hl (C, oC) (.head _)
  unfold notedBy
  have en : noteFrame (.ref e) cenv = noteFrame (.ref e) env := by
    unfold noteFrame _root_.PySem.frameOf
    rw [hcf]
  rw [en]
  refine wpAny_looks_onW (Around.frames_deeper K.stack) hf hfl fun h₄ hheld hsm₄ => ?_
  have hC4 : h₄.get? C = some oC := hheld.1 _ _ hCB.1
  refine ⟨mC, by rw [hcl]; exact hoC.ns hC4, fun h₅ hs₅ => ?_⟩
  rw [hcl] at hs₅
  have hh := held_but hheld hCB.1 hs₅
  refine held_pass (hcf.trans hf) hh fun h₆ hh₆ hsm₆ => ?_
  refine hQ h₆ ⟨hideAll B [C], a0, fun b o q => hideAll_get _ (hB b o q) (fun z => ?_), fun b o q nm => hideAll_get _ (hBG b o q nm) (fun z => ?_), fun q hq => ⟨hideAll_get _ (hl q (.tail _ hq)).1 (fun z => apart q hq (List.mem_singleton.mp z)), (hl q (.tail _ hq)).2⟩, hh₆⟩ ?_
  · rw [List.mem_singleton.mp z, hCB.2.2] at q; cases q
  · rw [List.mem_singleton.mp z, hCB.2.1] at q; cases q
  · intro b o hb hnf
    obtain ⟨sl, h1⟩ := (hsm.trans hsm₄) b o hb hnf
    have hne : b ≠ C := fun z => by rw [z, hCB.2.1] at hb; cases hb
    obtain ⟨sl2, h2⟩ := hsm₆ b _ ((hs₅.2 b hne).trans h1) hnf
    exact ⟨sl2, h2⟩
theorem xs_leave_held (K : Below A₀ base outer g) (F : Fr g L G m) (R : HeldSN base G (env :: outer) e cls L news s'.heap) (hsm : G.UpToSlots s'.heap) (hf : env.frame = some L) {Q : Unit → Shared → Prop}
    (hQ : ∀ h', RaisedSN base g outer e cls news h' → g.UpToSlots h' → Q () { s' with heap := h' }) : wpAny M (A₀.deeper env) (leaving env (.ref e)) Q E s' := by
  obtain ⟨B, a0, hB, hBG, hl, hh⟩ := R
  unfold leaving
  refine wpAny_bind (wpAny_noteFrame_againW hf hh.2.2.2 ?_)
  refine wpAny_landsW hh fun h' hfl hsl => ?_
  obtain ⟨k1, k2, ⟨_, _, k3⟩, k4⟩ := hfl
  exact hQ h' ⟨B, a0, hB, fun b o q nm => hBG b o (F.keep b o q) (fun hm => by
    rcases xs_mem hf hm with z | z
    · rw [z, kts_self F] at q
      cases q
    · exact nm z), fun q hq => ⟨(hl q hq).1, kts_none F.keep (hl q hq).2.1, (hl q hq).2.2⟩, k1, k2, k3, k4⟩ ((Heap.UpToSlots.of_keeps F.keep).trans (hsm.trans hsl))
end
theorem len_tup9 {prog : Program} {w : World} {A : Around} {E : Value → Shared → Prop} {s : Shared} {h₀ : Heap} {L T : Addr} {vs : List Value} {n : Nat} {news : Led} {Q : Value → Shared → Prop} (N : News h₀ L s.heap news) (hm : (T, tupO vs n) ∈ news) (hz : vs.length ≤ 16384)
    (h : Q (.int (vs.length : Int) (s.toks + 1)) { s with toks := s.toks + 1 + 1 }) : wpAny (model prog w) A (call (.builtin "len") [.ref T]) Q E s :=
  kun_lenT (News.isTup N hm) (by simp) (by omega) h
end

section
open PySem PySem.W PyProof.Rows PySem.Calls PySem.Spec

theorem len_eq1 {prog : Program} {w : World} {A : Around} {E : Value → Shared → Prop} {s : Shared} {n : Nat} {t u : Tok} {Q : Value → Shared → Prop} (hn : n ≠ 1) (h : Q (.bool false) s) : wpAny (model prog w) A (compareOp .Eq (.int (n : Int) t) (.int 1 u)) Q E s :=
  PyProof.Rows.eq_int (by rw [show ((n : Int) == 1) = false from beq_false_of_ne (by omega)]; exact h)
theorem len_ne8 {prog : Program} {w : World} {A : Around} {E : Value → Shared → Prop} {s : Shared} {n : Nat} {t u : Tok} {Q : Value → Shared → Prop} (hn : n ≠ 8) (h : Q (.bool true) s) : wpAny (model prog w) A (compareOp .NotEq (.int (n : Int) t) (.int 8 u)) Q E s :=
  PyProof.Rows.ne_int (by rw [show ((n : Int) != 8) = true from bne_iff_ne.mpr (by omega)]; exact h)
set_option maxHeartbeats 8000000 in
theorem packL_bad (w : World) (p pd pT : Addr) (tt : Tok) (nT : Nat) (vs : List Value) (h1 : vs.length ≠ 1) (h8 : vs.length ≠ 8) (hz : vs.length ≤ 1000) :
    WordE w 110 [.ref p] [(p, instObj 101 pd), (pd, pfD w pT tt), (pT, tupO vs nT)] 8 := by
  unfold WordE
  have mk_packL_bad : Mk := ⟨⟩
  k_with "call builtin:len" => (guard_hyp mk_packL_bad : Mk; (k_here; (with_reducible show wpAny _ _ (call (Value.builtin "len") [Value.ref _]) _ _ _); k_dflt (refine len_tup9 (by k_asm) (by k_mem) (by omega) ?_)))
  k_with "compareOp Eq int int" => (guard_hyp mk_packL_bad : Mk; (k_here; (with_reducible refine len_eq1 (by assumption) ?_)))
  k_with "compareOp NotEq int int" => (guard_hyp mk_packL_bad : Mk; (k_here; (with_reducible refine len_ne8 (by assumption) ?_)))
  k_with "call ref" => (guard_hyp mk_packL_bad : Mk; (k_here; (with_reducible show wpAny _ _ (call (Value.ref 77) _) _ _ _); k_dflt ((refine' Word.useK (put16_word _ _ _ ?v1 ?v2) put16_word_k ?u1 ?u2 ?u3 ?u4 ?u5 ?u6 ?u7 ?u8 ?u9 ?u10 ?_); k_extra "uc"; (case v1 => k_extra "side"); (case v2 => k_extra "side"); k_call_by "used" 0)))
  k_fill
  intro loose mean mg mb dp un gd cn cs ad ccd cl outer A₀ base h₀ L m s Q E rest B F X N T hk hdp hun hE
  refine wpAny_call ?_
  simp only [List.cons_append, List.nil_append] at N
  (refine' enterC (binds := [("pause", .ref p)]) ?k1 ?k2 ?k3 ?k4 ?k5 ?kA ?kF ?kK ?k6 ?k7 ?k8 ?k9 ?kB ?kD ?_ ?c2 ?c3 ?c4; (case kA => exact rfl); (case kF => exact rfl); (case kK => assumption); (case k1 => k_asm); (case k2 => k_asm); (case k3 => k_asm); (case k4 => k_asm); (case k5 => k_asm); (case k6 => k_is); (case k7 => k_is); (case k8 => ktr_room); (case k9 => exact BindsTo.of_eq rfl); (case kB => exact rfl); (case kD => decide +kernel); (case c2 => exact rfl); (case c3 => exact rfl); (case c4 => exact rfl); k_whole)
  intro g' L' h' tk' cells' FG' F' N' Y' B' X' T' l1 hko hkb hsz; (try k_lt l1); k_cells Y'; (try simp only [List.cons_append, List.nil_append] at N'); (try dsimp only); (try k_fold)
  repeat' (first | ((fail_if_success (with_reducible show wpAny _ _ (exec (Stmt.Raise _ _ _) _) _ _ _)); first | (k_unfold; (try dsimp only)) | (k_end; kc_close) | walk1 | (dsimp only; walk1) | (leave1; walk_say "STEP leave1"; (try dsimp only)) | fail "no step") | fail "no step")
  refine size_raise rfl ?_
  repeat' (first | ((fail_if_success (with_reducible show wpAny _ _ (call (Value.ref 56) _) _ _ _)); first | (k_unfold; (try dsimp only)) | (k_end; kc_close) | walk1 | (dsimp only; walk1) | (leave1; walk_say "STEP leave1"; (try dsimp only)) | fail "no step") | fail "no step")
  rename Fr g' _ _ _ => F9
  rename News g' _ _ _ => N9
  refine size_made B' F9 X' N9 T' rfl (by ktr_room) (by ktr_units) ?_
  intro e t D h9 tk9 F10 N10 ap
  refine ⟨e, t, D, rfl, X'.keeps F10.keep, (N10 _ (.head _)).1, ?_⟩
  refine xs_leave B' F10 N10 ap rfl rfl ?_
  intro h11 R U
  exact hE e g' h11 _ FG' (raised_sub R fun q hq => .tail _ hq) U
set_option maxHeartbeats 8000000 in
theorem pack1_bad (w : World) (p pd pT : Addr) (tt : Tok) (nT : Nat) (tm : Int) (ttm : Tok) (hx : ¬ (0 ≤ tm ∧ tm < 65536)) (hb1 : -1000000000000 ≤ tm) (hb2 : tm ≤ 1000000000000) :
    WordE w 110 [.ref p] [(p, instObj 101 pd), (pd, pfD w pT tt), (pT, tupO [.int tm ttm] nT)] 8 := by
  unfold WordE
  have mk_pack1_bad : Mk := ⟨⟩
  k_with "call builtin:len" => (guard_hyp mk_pack1_bad : Mk; (k_here; (with_reducible show wpAny _ _ (call (Value.builtin "len") [Value.ref _]) _ _ _); k_dflt (refine len_tup9 (by k_asm) (by k_mem) (by omega) ?_)))
  k_with "compareOp Eq int int" => (guard_hyp mk_pack1_bad : Mk; (k_here; (with_reducible refine len_eq1 (by assumption) ?_)))
  k_with "compareOp NotEq int int" => (guard_hyp mk_pack1_bad : Mk; (k_here; (with_reducible refine len_ne8 (by assumption) ?_)))
  k_with "call ref" => (guard_hyp mk_pack1_bad : Mk; (k_here; (with_reducible show wpAny _ _ (call (Value.ref 77) _) _ _ _); k_dflt ((refine' Word.useK (put16_word _ _ _ ?v1 ?v2) put16_word_k ?u1 ?u2 ?u3 ?u4 ?u5 ?u6 ?u7 ?u8 ?u9 ?u10 ?_); k_extra "uc"; (case v1 => k_extra "side"); (case v2 => k_extra "side"); k_call_by "used" 0)))
  k_fill
  intro loose mean mg mb dp un gd cn cs ad ccd cl outer A₀ base h₀ L m s Q E rest B F X N T hk hdp hun hE
  refine wpAny_call ?_
  simp only [List.cons_append, List.nil_append] at N
  (refine' enterC (binds := [("pause", .ref p)]) ?k1 ?k2 ?k3 ?k4 ?k5 ?kA ?kF ?kK ?k6 ?k7 ?k8 ?k9 ?kB ?kD ?_ ?c2 ?c3 ?c4; (case kA => exact rfl); (case kF => exact rfl); (case kK => assumption); (case k1 => k_asm); (case k2 => k_asm); (case k3 => k_asm); (case k4 => k_asm); (case k5 => k_asm); (case k6 => k_is); (case k7 => k_is); (case k8 => ktr_room); (case k9 => exact BindsTo.of_eq rfl); (case kB => exact rfl); (case kD => decide +kernel); (case c2 => exact rfl); (case c3 => exact rfl); (case c4 => exact rfl); k_whole)
  intro g' L' h' tk' cells' FG' F' N' Y' B' X' T' l1 hko hkb hsz; (try k_lt l1); k_cells Y'; (try simp only [List.cons_append, List.nil_append] at N'); (try dsimp only); (try k_fold)
  repeat' (first | ((fail_if_success (with_reducible show wpAny _ _ (call (Value.ref 77) [Value.int tm _]) _ _ _)); first | (k_unfold; (try dsimp only)) | (k_end; kc_close) | walk1 | (dsimp only; walk1) | (leave1; walk_say "STEP leave1"; (try dsimp only)) | fail "no step") | fail "no step")
  rename Fr g' _ _ _ => F9
  rename News g' _ _ _ => N9
  refine WordE.use (p16_bad w tm _ hx hb1 hb2) B' F9 X' N9 T' rfl (fun _ h => nomatch h) (by ktr_room) (by ktr_units) ?_
  intro e G h9 tk9 FG9 R U
  refine xs_leave_on B' FG9 R U rfl ?_
  intro h11 R2 U2
  exact hE e g' h11 _ FG' (raised_sub R2 fun q hq => .tail _ hq) U2
end

section
open PySem PySem.W PyProof.Rows PySem.Calls PySem.Spec
/-- the word of a def that raises, its ledger what it owns alone -/
def WordE0 (w : World) (f : Addr) (vs : List Value) (own : Led) (cost : Nat) : Prop :=
  ∀ (loose : List Str) (mean : ExcName → Option Value) (mg mb : Str → Option Value) (dp un : Nat) (gd : Option (List Code)) (cn : Str) (cs : Scope) (a : Addr) (ccd : Value) (cl : List (Str × Addr)) (outer : List Env) (A₀ : Around) (base h₀ : Heap) (L : Addr) (m : Str → Option Value) (s : Shared) (Q E : Value → Shared → Prop),
    Below A₀ base outer h₀ → Fr h₀ L s.heap m → (hd.heap_39 w.params).In h₀ → News h₀ L s.heap own → Top topProg loose mean mg mb h₀ → cs.kind = .function → dp + cost < recursionLimit → un + 8 * cost < cLine →
    (∀ e G h' tk', Fr h₀ L G m → (∀ b o, s.heap.get? b = some o → b ∉ own.map (·.1) → G.get? b = some o) → RaisedSN base G (envX cn cs L a ccd cl :: outer) e (.ref 56) own h' → G.UpToSlots h' → E (.ref e) { s with heap := h', toks := tk' }) →
    wpAny (model PySem.Challenge.rw_pf0382_01.row.prog w) (ktrTop dp un gd cn cs L a ccd cl outer) (call (.ref f) vs) Q E s
theorem wordE_of0 {w : World} {f : Addr} {vs : List Value} {own : Led} {cost : Nat} (C : WordE0 w f vs own cost) : WordE w f vs own cost := by
  intro loose mean mg mb dp un gd cn cs a ccd cl outer A₀ base h₀ L m s Q E rest B F X N T hk hd hu hE
  refine C _ _ _ _ _ _ _ _ _ _ _ _ _ _ _ _ _ _ _ _ _ B F X (fun p hp => N p (List.mem_append_left _ hp)) T hk hd hu fun e G h' tk' FG KG R U => ?_
  have nm : ∀ b o, h₀.get? b = some o → b ∉ rest.map (·.1) := fun b o e q => by
    obtain ⟨p, hp, rfl⟩ := List.mem_map.mp q
    rw [(N p (List.mem_append_right _ hp)).2.2] at e; cases e
  have nL : L ∉ rest.map (·.1) := fun q => by
    obtain ⟨p, hp, e⟩ := List.mem_map.mp q
    exact (N p (List.mem_append_right _ hp)).2.1 e
  refine hE e (hideAll G (rest.map (·.1))) h' tk' ⟨?_, fun b o e => hideAll_get _ (FG.keep b o e) (nm b o e), FG.above⟩ ?_ (fun b o hb hn => U b o (of_hideAll _ hb) hn)
  · obtain ⟨oL, es, ep, hL, r⟩ := FG.ns
    exact ⟨oL, es, ep, hideAll_get _ hL nL, r⟩
  · obtain ⟨BB, a0, h1, h2, h3, h4⟩ := R
    refine ⟨BB, a0, h1, fun b o q n => h2 b o (of_hideAll _ q) n, fun q hq => ?_, h4⟩
    have hid : ∀ b, G.get? b = none → (hideAll G (rest.map (·.1))).get? b = none := fun b hb => by
      cases z : (hideAll G (rest.map (·.1))).get? b with
      | none => rfl
      | some o' => have := of_hideAll _ z; rw [hb] at this; cases this
    have Nq := N q hq
    by_cases ho : q.1 ∈ own.map (·.1)
    · obtain ⟨p, hp, e⟩ := List.mem_map.mp ho
      have e' : p.1 = q.1 := e
      have Np := N p (List.mem_append_left _ hp)
      have eo : p.2 = q.2 := by
        have x := Np.1
        rw [e', Nq.1] at x
        exact (Option.some.inj x).symm
      have := h3 p hp
      rw [e', eo] at this
      exact ⟨this.1, hid _ this.2.1, this.2.2⟩
    · have hr : q ∈ rest := (List.mem_append.mp hq).elim (fun z => absurd (List.mem_map_of_mem z) ho) id
      refine ⟨h2 _ _ (KG _ _ Nq.1 ho) (fun hm => ?_), hideAll_none _ (List.mem_map_of_mem hr), fresh_of_stays B.stays Nq.2.2⟩
      rcases xs_mem (L := L) rfl hm with z | z
      · exact Nq.2.1 z
      · obtain ⟨o, ho', _⟩ := (B.frames.mem z).2
        rw [Nq.2.2] at ho'; cases ho'
end

section
open PySem PySem.W PyProof.Rows PySem.Calls PySem.Spec PyProof.Rows.LCg



/-- a time's two ways, at a place -/
theorem TVs.casesI {G : Prop} {l : List (Option Int)} {vs : List Value} {i : Nat} (h : TVs l vs) (hi : i < l.length) (hn : l[i]? = some none → vs[i]? = some .none → G) (hs : ∀ t u, l[i]? = some (some t) → vs[i]? = some (.int t u) → G) : G := by
  obtain ⟨o, v, h1, h2, h3⟩ := h.get hi
  cases o with
  | none => exact hn h1 (by rw [h2, show v = .none from h3])
  | some t => obtain ⟨u, e⟩ := h3; exact hs t u h1 (by rw [h2, e])
theorem TVs.casesV {l : List (Option Int)} {vs : List Value} {i : Nat} {v : Value} {G : Value → Prop} (h : TVs l vs) (hi : i < l.length) (hv : vs[i]? = some v) (hn : l[i]? = some none → G .none) (hs : ∀ t u, l[i]? = some (some t) → G (.int t u)) : G v := by
  obtain ⟨o, v', h1, h2, h3⟩ := h.get hi
  rw [hv] at h2
  obtain rfl := Option.some.inj h2
  cases o with
  | none => rw [show v = .none from h3]; exact hn h1
  | some t => obtain ⟨u, e⟩ := h3; rw [e]; exact hs t u h1
theorem compRestT_ind {prog : Program} {w : World} {A : Around} {h₀ : Heap} {L : Addr} {m : Str → Option Value} {env : Env} {ct elt : Expr} {x : Str} {scope : Scope} {cl : List (Str × Addr)} {s : Shared} {S : Led → Prop} {P : Nat → Value → Prop} {Fin : List Value → Led → Prop} {news : Led} (J : Nat → List Value → Prop) (n : Nat)
    (step : ∀ k i ys, i + (k + 1) = n → J i ys → (∀ ys', J (i + 1) ys' → LCt.CompRestT prog w A h₀ L m env ct elt x scope cl s S P Fin k (i + 1) ys' news) → LCt.CompRestT prog w A h₀ L m env ct elt x scope cl s S P Fin (k + 1) i ys news)
    (done : ∀ ys, J n ys → Fin ys news) : ∀ k i ys, i + k = n → J i ys → LCt.CompRestT prog w A h₀ L m env ct elt x scope cl s S P Fin k i ys news
  | 0, i, ys, e, hJ => by
    have e' : i = n := e
    subst e'
    exact done ys hJ
  | k + 1, i, ys, e, hJ => step k i ys e hJ fun ys' hJ' => compRestT_ind J n step done k (i + 1) ys' (by omega) hJ'
theorem tupRest_indP {prog : Program} {w : World} {A : Around} {E : Value → Shared → Prop} {h₀ : Heap} {L : Addr} {m : Str → Option Value} {env : Env} {s : Shared} {α : Type} {elt : Expr} {x : Str} {scope : Scope} {cl : List (Str × Addr)} {T : Addr} {vs : List Value} {Fin : List Value → Led → Prop} {news : Led} (bf : α → List Value) (J : Nat → α → Prop) (n : Nat)
    (step : ∀ k i a, i + (k + 1) = n → J i a → (∀ a', J (i + 1) a' → TupRest prog w A E h₀ L m env elt x scope cl s T vs Fin k (i + 1) (bf a') news) → TupRest prog w A E h₀ L m env elt x scope cl s T vs Fin (k + 1) i (bf a) news)
    (done : ∀ a, J n a → Fin (bf a) news) : ∀ k i a, i + k = n → J i a → TupRest prog w A E h₀ L m env elt x scope cl s T vs Fin k i (bf a) news
  | 0, i, a, e, hJ => by
    have e' : i = n := e
    subst e'
    exact done a hJ
  | k + 1, i, a, e, hJ => step k i a e hJ fun a' hJ' => tupRest_indP bf J n step done k (i + 1) a' (by omega) hJ'
theorem memAll_nil {l : Led} : ∀ q ∈ ([] : Led), q ∈ l := fun _ h => nomatch h
theorem memAll_cons {p : Addr × Obj} {r l : Led} (h : p ∈ l) (hr : ∀ q ∈ r, q ∈ l) : ∀ q ∈ p :: r, q ∈ l := memAllH_cons h hr
set_option maxHeartbeats 8000000 in
/-- pack_pause over eight times: packs them, or raises at the first that has no room -/
theorem pack8_all (w : World) (p pd pT : Addr) (tt : Tok) (nT : Nat) (v0 v1 v2 v3 v4 v5 v6 v7 : Value) (l : List (Option Int)) (hl : TVs l [v0, v1, v2, v3, v4, v5, v6, v7]) (hl8 : l.length = 8) (hb : ∀ t, some t ∈ l → -1000000000000 ≤ t ∧ t ≤ 1000000000000)
    (loose : List Str) (mean : ExcName → Option Value) (mg mb : Str → Option Value) (dp un : Nat) (gd : Option (List Code)) (cn : Str) (cs : Scope) (ad : Addr) (ccd : Value) (cl : List (Str × Addr)) (outer : List Env) (A₀ : Around) (base h₀ : Heap) (L : Addr) (m : Str → Option Value) (s : Shared) (Q E : Value → Shared → Prop)
    (B : Below A₀ base outer h₀) (F : Fr h₀ L s.heap m) (X : (hd.heap_39 w.params).In h₀) (N : News h₀ L s.heap [(p, instObj 101 pd), (pd, pfD w pT tt), (pT, tupO [v0, v1, v2, v3, v4, v5, v6, v7] nT)]) (T : Top topProg loose mean mg mb h₀) (hk : cs.kind = .function) (hdp : dp + 8 < recursionLimit) (hun : un + 8 * 8 < cLine)
    (hret : (∀ t, some t ∈ l → 0 ≤ t ∧ t ≤ 65535) → ∀ b t h' tk', KeepBut s.heap h' [(p, instObj 101 pd), (pd, pfD w pT tt), (pT, tupO [v0, v1, v2, v3, v4, v5, v6, v7] nT)] → News h₀ L h' [(p, instObj 101 pd), (pd, pfD w pT tt), (pT, tupO [v0, v1, v2, v3, v4, v5, v6, v7] nT)] → PL (KBw.bInts b) l → Q (.bytes b t) { s with heap := h', toks := tk' })
    (hE : (∃ t, some t ∈ l ∧ ¬ (0 ≤ t ∧ t < 65536)) → ∀ e G h' tk', Fr h₀ L G m → (∀ b o, s.heap.get? b = some o → b ∉ ([(p, instObj 101 pd), (pd, pfD w pT tt), (pT, tupO [v0, v1, v2, v3, v4, v5, v6, v7] nT)] : Led).map (·.1) → G.get? b = some o) →
      RaisedSN base G (envX cn cs L ad ccd cl :: outer) e (.ref 56) [(p, instObj 101 pd), (pd, pfD w pT tt), (pT, tupO [v0, v1, v2, v3, v4, v5, v6, v7] nT)] h' → G.UpToSlots h' → E (.ref e) { s with heap := h', toks := tk' }) :
    wpAny (model PySem.Challenge.rw_pf0382_01.row.prog w) (ktrTop dp un gd cn cs L ad ccd cl outer) (call (.ref 110) [.ref p]) Q E s := by
  revert X
  have mk_pack8_all : Mk := ⟨⟩
  k_with "call ref" => (guard_hyp mk_pack8_all : Mk; (k_here; (with_reducible show wpAny _ _ (call (Value.ref 77) _) _ _ _); k_dflt ((refine' Word.useK (put16_word _ _ _ ?v1 ?v2) put16_word_k ?u1 ?u2 ?u3 ?u4 ?u5 ?u6 ?u7 ?u8 ?u9 ?u10 ?_); k_extra "uc"; (case v1 => k_extra "side"); (case v2 => k_extra "side"); k_call_by "used" 0)))
  k_with "subscriptTail" => (guard_hyp mk_pack8_all : Mk; (k_here; (with_reducible show wpAny _ _ (subscriptTail _ _ (Value.ref _) (Value.int _ _)) _ _ _); k_dflt (refine' tup_item ?z9F ?z9m ?z9a ?z9b ?z9c ?z9x ?_; (case z9F => k_asm); (case z9m => k_mem); (case z9a => omega); (case z9b => omega); (case z9c => (simp only [List.length_cons, List.length_nil]; omega)); (case z9x => assumption))))
  k_with "exec Assign cons ListComp" => (guard_hyp mk_pack8_all : Mk; (k_here; (with_reducible show wpAny _ _ (exec (Stmt.Assign _ (Expr.ListComp _ [⟨_, Expr.Call _ _ _ _, [_], 0⟩] _ _) _) _) _ _ _); k_dflt (refine LCt.Assign_ListComp_T (F₀ := by k_asm) (by rfl) (by with_unfolding_all rfl) (by with_unfolding_all rfl) (by decide) (by rfl) (by decide) (by rfl) (by rfl) (by rfl) ?_)))
  k_with "exec Assign cons ListComp" => (guard_hyp mk_pack8_all : Mk; (k_here; (with_reducible show wpAny _ _ (exec (Stmt.Assign _ (Expr.ListComp _ [⟨_, Expr.Attribute _ _ _, [], 0⟩] _ _) _) _) _ _ _); k_dflt (refine Assign_ListComp_E (F₀ := by k_asm) (by rfl) (by with_unfolding_all rfl) (by with_unfolding_all rfl) (by decide) (by rfl) (by decide) (by rfl) (by rfl) (by rfl) ?_)))
  k_with "eval ListComp" => (guard_hyp mk_pack8_all : Mk; (k_here; (with_reducible show wpAny _ _ (eval (Expr.ListComp _ [⟨_, Expr.Name _ _, [], 0⟩] _ _) _) _ _ _); k_dflt (refine LCg.ListComp_U (F₀ := by k_asm) (by with_unfolding_all rfl) (by decide) (by rfl) (by decide) (by rfl) ?_)))
  k_with "CompSrcT" => (guard_hyp mk_pack8_all : Mk; (k_here; k_dflt (refine LCt.CompSrcT.range (by rfl) (by k_asm) (by k_asm) (by assumption) (by first | decide | rfl) (n := 8) (by first | rfl | decide) (by first | size_fits | exact Nat.le_of_ble_eq_true rfl) ?_; intro _)))
  k_with "getMethod bytes" => (guard_hyp mk_pack8_all : Mk; (k_here; (with_reducible refine method_join ?_)))
  k_with "call builtin:bytes.join" => (guard_hyp mk_pack8_all : Mk; (k_here; k_dflt (refine join_rule (by k_asm) (by k_mem) (by assumption) (by assumption) ?_; intro _ _)))
  k_fill
  intro X
  refine wpAny_call ?_
  (refine' enterC (binds := [("pause", .ref p)]) ?k1 ?k2 ?k3 ?k4 ?k5 ?kA ?kF ?kK ?k6 ?k7 ?k8 ?k9 ?kB ?kD ?_ ?c2 ?c3 ?c4; (case kA => exact rfl); (case kF => exact rfl); (case kK => assumption); (case k1 => k_asm); (case k2 => k_asm); (case k3 => k_asm); (case k4 => k_asm); (case k5 => k_asm); (case k6 => k_is); (case k7 => k_is); (case k8 => ktr_room); (case k9 => exact BindsTo.of_eq rfl); (case kB => exact rfl); (case kD => decide +kernel); (case c2 => exact rfl); (case c3 => exact rfl); (case c4 => exact rfl); k_whole)
  intro g' L' h' tk' cells' FG' F' N' Y' B' X' T' l1 hko hkb hsz; (try k_lt l1); k_cells Y'; (try simp only [List.cons_append, List.nil_append] at N'); (try dsimp only); (try k_fold)
  repeat' (first | ((fail_if_success (with_reducible show LCt.CompRestT _ _ _ _ _ _ _ _ _ _ _ _ _ _ _ _ _ _ _ _)); first | (k_unfold; (try dsimp only)) | (k_end; kc_close) | walk1 | (dsimp only; walk1) | (leave1; walk_say "STEP leave1"; (try dsimp only)) | fail "no step") | fail "no step")
  rename_i o1 ho1 N1 tkp hp tkq t1 u1 w1 hR FR NR KR g1
  refine compRestT_ind (fun i ys => IntsAre ys (tolds l i)) 8 ?step1 ?done1 8 0 [] rfl IntsAre.nil
  case step1 =>
    intro k i ys hik hi ih
    refine LCt.CompRestT.succ ?_
    intro v' I' oI' C' oC' D' m' h' tk' E' hv' hC' hx' F' N' off' ne'
    obtain ⟨t9', hv9'⟩ := hv'
    subst hv9'
    try simp only [LCg.Off3, and_true] at off'
    have hi8 : i < 8 := by omega
    have ez : (0 + (i : Int)).toNat = i := by omega
    clear hb hret hE
    refine hl.casesI (i := i) (by omega) (fun ho hvv => ?_) fun tm ttm ho hvv => ?_
    · have hvv' : [v0, v1, v2, v3, v4, v5, v6, v7][(0 + (i : Int)).toNat]? = some .none := by rw [ez]; exact hvv
      k_steps
      exact ih _ (by rw [tolds_none ho]; exact hi)
    · have hvv' : [v0, v1, v2, v3, v4, v5, v6, v7][(0 + (i : Int)).toNat]? = some (.int tm ttm) := by rw [ez]; exact hvv
      k_steps
      exact ih _ (by rw [tolds_some ho]; exact IntsAre.append hi (IntsAre.cons _ _ IntsAre.nil))
  case done1 =>
    intro ys hi
    repeat' (first | ((fail_if_success (with_reducible show LCg.CompSrc _ _ _ _ _ _ _ _ _ _ _ _ _ _)); first | (k_unfold; (try dsimp only)) | (k_end; kc_close) | walk1 | (dsimp only; walk1) | (leave1; walk_say "STEP leave1"; (try dsimp only)) | fail "no step") | fail "no step")
    rename_i D1 hx1 tkx1 F1 N1' off1
    have hys : ys.toArray.size = (tolds l 8).length := by rw [List.size_toArray, hi.length]
    have hys8 := tolds_len l
    refine LCg.CompSrc.ledger (by rfl) (by k_asm) (by k_asm) (by k_mem) (by rw [sizeLine_eq]; omega) ?_
    intro g2
    refine compRest_ind (fun i zs => IntsAre zs (((tolds l 8).take i).map fun k => 1 * 2 ^ k.toNat)) ys.toArray.size ?step2 ?done2 _ 0 [] (by omega) IntsAre.nil
    case step2 =>
      intro k i zs hik hi2 ih
      refine CompRest.succ ?_
      intro v' I' oI' C' oC' D' m' h' tk' E' hv' hC' hx' F' N' off' ne'
      try simp only [LCg.Off3, and_true] at off'
      clear hb hret hE
      rw [List.getElem?_toArray] at hv'
      obtain ⟨kk, tkk, e2, hkk⟩ := intsAre_get hi hv'
      subst e2
      have hk8 := tolds_mem (List.mem_of_getElem? hkk)
      k_steps
      refine ih _ ?_
      rw [List.take_add_one, hkk, List.map_append]
      exact IntsAre.append hi2 (IntsAre.cons _ _ IntsAre.nil)
    case done2 =>
      intro zs hi2
      rw [hys, List.take_length] at hi2
      repeat' (first | ((fail_if_success (with_reducible show SrcTup _ _ _ _ _ _ _ _ _ _ _ _ _ _ _)); first | (k_unfold; (try dsimp only)) | (k_end; kc_close) | walk1 | (dsimp only; walk1) | (leave1; walk_say "STEP leave1"; (try dsimp only)) | fail "no step") | fail "no step")
      rename_i D2 hx2 tkx2 off2 hx3 tkx3 tmk hx4 F4 N4
      obtain ⟨mk0, mk1, mkb⟩ := mask_bits hl8
      have hmk0 : (List.map (fun k => (1 : Int) * 2 ^ k.toNat) (tolds l 8)).sum = maskL l := rfl
      rw [hmk0] at F4
      rw [hmk0]
      clear mkb hmk0
      refine ⟨pT, [v0, v1, v2, v3, v4, v5, v6, v7], nT, _, rfl, rfl, F4, N4, by k_mem, (by rw [sizeLine_eq]; simp only [List.length_cons, List.length_nil]; omega), ?_⟩
      refine tupRest_indP (fun ps : List (Array UInt8 × Tok) => ps.map fun p => Value.bytes p.1 p.2) (fun i ps => BtsOf (l.take i) ps ∧ ∀ t, some t ∈ l.take i → 0 ≤ t ∧ t ≤ 65535) 8 ?step3 ?done3 8 0 [] rfl ⟨rfl, fun _ h => nomatch h⟩
      case step3 =>
        intro k i ps hik hps ih
        intro v' I' oI' C' oC' D' m' h' tk' hv' hC' hx' F' N' off' ne'
        have hi8 : i < 8 := by omega
        refine hl.casesI (i := i) (by omega) (fun ho hvv => ?_) fun tm ttm ho hvv => ?_
        · clear hb hret hE
          obtain rfl : .none = v' := Option.some.inj (hvv.symm.trans hv')
          clear hvv hv'
          generalize notedBy _ _ _ _ = E'
          try simp only [LCg.Off3, and_true] at off'
          iterate 16 (first | walk1 | (dsimp only; walk1) | skip)
          rename_i cE9 h9 tk9 F9 b9 t9 eb9 N9
          refine CompEnd.intro F9 N9 [(D2, lst zs), (D1, lst ys), (L' + 1, o1), (p, instObj 101 pd), (pd, pfD w pT tt), (pT, tupO [v0, v1, v2, v3, v4, v5, v6, v7] nT)] (fun _ h => h) (by simp only [LCg.Off3, and_true]; exact off') (.inr ⟨_, by k_mem, rfl, _, rfl⟩) ?_
          have h := ih (ps ++ [(b9, t9)]) ⟨by rw [List.take_add_one, ho]; exact BtsOf.snoc eb9 hps.1, fun t ht => hps.2 t (by
            rw [List.take_add_one, ho] at ht
            rcases List.mem_append.mp ht with ht | ht
            · exact ht
            · cases List.mem_singleton.mp ht)⟩
          rw [List.map_append] at h
          exact h
        · obtain rfl : .int tm ttm = v' := Option.some.inj (hvv.symm.trans hv')
          clear hvv hv'
          by_cases hok : 0 ≤ tm ∧ tm < 65536
          · clear hb hret hE
            generalize notedBy _ _ _ _ = E'
            try simp only [LCg.Off3, and_true] at off'
            have hb : 0 ≤ tm ∧ tm ≤ 65535 := by omega
            iterate 16 (first | walk1 | (dsimp only; walk1) | skip)
            rename_i cE9 h9 tk9 F9 b9 t9 eb9 N9
            refine CompEnd.intro F9 N9 [(D2, lst zs), (D1, lst ys), (L' + 1, o1), (p, instObj 101 pd), (pd, pfD w pT tt), (pT, tupO [v0, v1, v2, v3, v4, v5, v6, v7] nT)] (fun _ h => h) (by simp only [LCg.Off3, and_true]; exact off') (.inr ⟨_, by k_mem, rfl, _, rfl⟩) ?_
            have h := ih (ps ++ [(b9, t9)]) ⟨by rw [List.take_add_one, ho]; exact BtsOf.snoc eb9 hps.1, fun t ht => by
              rw [List.take_add_one, ho] at ht
              rcases List.mem_append.mp ht with ht | ht
              · exact hps.2 t ht
              · cases List.mem_singleton.mp ht; exact hb⟩
            rw [List.map_append] at h
            exact h
          · have hbt := hb tm (List.mem_of_getElem? ho)
            generalize hEE : notedBy _ _ _ _ = EE
            repeat' (first | ((fail_if_success (with_reducible show wpAny _ _ (call (Value.ref 77) _) _ _ _)); first | (k_unfold; (try dsimp only)) | (k_end; kc_close) | walk1 | (dsimp only; walk1) | (leave1; walk_say "STEP leave1"; (try dsimp only)) | fail "no step") | fail "no step")
            subst hEE
            refine WordE.use (p16_bad w tm _ hok hbt.1 hbt.2) B' F' X' N' T' rfl (fun _ h => nomatch h) (by ktr_room) (by ktr_units) ?_
            intro e G h9 tk9 FG9 R U
            refine xs_err (C := C') (oC := oC') (mC := m') (L := L') (rest := [(D2, lst zs), (D1, lst ys), (L' + 1, o1), (p, instObj 101 pd), (pd, pfD w pT tt), (pT, tupO [v0, v1, v2, v3, v4, v5, v6, v7] nT)]) B' (raised_sub R (memAll_cons (by k_mem) (by repeat (first | exact memAll_nil | refine memAll_cons (by k_mem) ?_)))) U rfl rfl rfl hC' (fun q hq => (off'.mem q hq).2.1) ?_
            intro h10 R10 U10
            refine xs_leave_held B' FG9 R10 U10 rfl ?_
            intro h11 R2 U2
            exact hE ⟨tm, List.mem_of_getElem? ho, hok⟩ e g' h11 _ FG' hko (raised_sub R2 (by repeat (first | exact memAll_nil | refine memAll_cons (by k_mem) ?_))) U2
      case done3 =>
        intro ps hps
        clear hE hb
        obtain ⟨hps, hrr⟩ := hps
        rw [List.take_of_length_le (Nat.le_of_eq hl8)] at hps hrr
        have hp8 : ps.length = 8 := hps.length.trans hl8
        have hpz : (ps.map fun p => p.1.size).sum ≤ 16777216 := by rw [hps.sizes, hl8]; omega
        repeat' (first | ((fail_if_success (with_reducible show wpAny _ _ (call (Value.builtin "bytes.join") _) _ _ _)); first | (k_unfold; (try dsimp only)) | (k_end; kc_close) | walk1 | (dsimp only; walk1) | (leave1; walk_say "STEP leave1"; (try dsimp only)) | fail "no step") | fail "no step")
        refine join_rule (by k_asm) (by k_mem) hp8 hpz ?_
        intro tj kj
        have hj := hps.fold (a := #[]) (ns := []) rfl
        rw [List.nil_append] at hj
        generalize (List.map (fun p => p.1) ps).foldl (· ++ ·) #[] = jb at hj ⊢
        rename KBw.bInts _ = [257 / 256, 257 % 256] ++ _ => hb1
        have z1 := congrArg List.length hb1
        rw [KBw.ints_length] at z1
        simp only [List.length_append, List.length_cons, List.length_nil] at z1
        have z2 := congrArg List.length hj
        rw [KBw.ints_length, octs_length, hl8] at z2
        refine KBy.add_bytes (by omega) ?_
        intro tz kz
        have hbj := KBw.ints_app hb1 hj
        clear z1 z2
        k_steps
        · rename Fr g' _ _ _ => F8
          rename News h₀ _ _ _ => N8
          exact hret hrr _ _ _ _ (fun b o e n => F8.keep b o (hko b o e n)) (fun q hq => N8 q (.tail _ (.tail _ (.tail _ (.tail _ hq))))) (by rw [hbj]; exact pl_pack hl8 hrr)
theorem pack8_word (w : World) (p pd pT : Addr) (tt : Tok) (nT : Nat) (vs : List Value) (l : List (Option Int)) (hl : TVs l vs) (hl8 : l.length = 8) (hr : ∀ t, some t ∈ l → 0 ≤ t ∧ t ≤ 65535) :
    Word w 110 [.ref p] [(p, instObj 101 pd), (pd, pfD w pT tt), (pT, tupO vs nT)] 8 (fun h h' r own' => ∃ b t ks, r = .bytes b t ∧ own' = [(p, instObj 101 pd), (pd, pfD w pT tt), (pT, tupO vs nT)] ∧ KBw.bInts b = ks ∧ PL ks l) := by
  obtain ⟨v0, v1, v2, v3, v4, v5, v6, v7, rfl⟩ := len8 (hl.length.trans hl8)
  intro loose mean mg mb dp un gd cn cs ad ccd cl outer A₀ base h₀ L m s Q E B F X N T hk hdp hun hret
  exact pack8_all w p pd pT tt nT v0 v1 v2 v3 v4 v5 v6 v7 l hl hl8 (fun t ht => by have := hr t ht; omega) loose mean mg mb dp un gd cn cs ad ccd cl outer A₀ base h₀ L m s Q E B F X N T hk hdp hun
    (fun _ b t h' tk' K N' hP => hret _ _ _ _ K N' ⟨b, t, _, rfl, rfl, rfl, hP⟩) fun ⟨t, ht, hx⟩ => absurd (hr t ht) (by omega)
theorem pack8_bad (w : World) (p pd pT : Addr) (tt : Tok) (nT : Nat) (vs : List Value) (l : List (Option Int)) (tb : Int) (hl : TVs l vs) (hl8 : l.length = 8) (hjj : some tb ∈ l) (hx : ¬ (0 ≤ tb ∧ tb < 65536)) (hb : ∀ t, some t ∈ l → -1000000000000 ≤ t ∧ t ≤ 1000000000000) :
    WordE0 w 110 [.ref p] [(p, instObj 101 pd), (pd, pfD w pT tt), (pT, tupO vs nT)] 8 := by
  obtain ⟨v0, v1, v2, v3, v4, v5, v6, v7, rfl⟩ := len8 (hl.length.trans hl8)
  intro loose mean mg mb dp un gd cn cs ad ccd cl outer A₀ base h₀ L m s Q E B F X N T hk hdp hun hE
  exact pack8_all w p pd pT tt nT v0 v1 v2 v3 v4 v5 v6 v7 l hl hl8 hb loose mean mg mb dp un gd cn cs ad ccd cl outer A₀ base h₀ L m s Q E B F X N T hk hdp hun
    (fun hr => absurd (hr tb hjj) (by omega)) fun _ => hE
end

section
open PySem PySem.W PyProof.Rows PySem.Calls PySem.Spec
section
variable {w : World} {A₀ : Around} {E : Value → Shared → Prop} {s' : Shared} {base g g₀ G : Heap} {outer : List Env} {L a e : Addr} {m : Str → Option Value} {name : Str} {scope : Scope} {cd : Value}
  {b₀ : Stmt} {suite : List Stmt} {pos np : Pos} {rest : List ExceptHandler} {Q : Flow → Shared → Prop} {news : Led} {loose : List Str} {mean : ExcName → Option Value} {mg mb : Str → Option Value}
/-- a SizeError from below is caught in this frame -/
theorem caught_own (R : RaisedSN base G (envOf name scope L a cd :: outer) e (.ref 56) news s'.heap) (F : Fr g L G m) (K : Below A₀ base outer g) (hsm : G.UpToSlots s'.heap) (XB : (hd.heap_39 w.params).In base) (TB : Top topProg loose mean mg mb base)
    (D : KtsDicts (outer.filterMap (·.frame)) g) (T0 : KtsTurn (outer.filterMap (·.frame)) g₀ g)
    (k : ∀ h' g', KtsTurn (outer.filterMap (·.frame)) g₀ g' → Fr g' L h' m → News g' L h' news → Below A₀ base outer g' → (hd.heap_39 w.params).In g' → Top topProg loose mean mg mb g' → KtsDicts (outer.filterMap (·.frame)) g' →
      wpAny (model PySem.Challenge.rw_pf0382_01.row.prog w) ((A₀.deeper (envOf name scope L a cd)).mark (some (.ref e))) (execs (b₀ :: suite) (envOf name scope L a cd)) Q E { s' with heap := h' })
    (hk : scope.kind = .function := by rfl) (hx : (envOf name scope L a cd).kindOf (Str.ofString "SizeError") = some .globalImplicit := by rfl)
    (hE : PassesOwnAt (model PySem.Challenge.rw_pf0382_01.row.prog w) ((A₀.deeper (envOf name scope L a cd)).mark (some (.ref e))) (A₀.deeper (envOf name scope L a cd)) (envOf name scope L a cd) E := by passes_own) :
    wpAny (model PySem.Challenge.rw_pf0382_01.row.prog w) (A₀.deeper (envOf name scope L a cd)) (noteFrame (.ref e) (envOf name scope L a cd))
      (fun _ s₂ => wpAny (model PySem.Challenge.rw_pf0382_01.row.prog w) (A₀.deeper (envOf name scope L a cd)) (setFlight (.ref e) none) (fun _ s₃ =>
        wpAny (model PySem.Challenge.rw_pf0382_01.row.prog w) (A₀.deeper (envOf name scope L a cd)) (handleBy (.ref e) (envOf name scope L a cd) (.ExceptHandler (some (.Name (Str.ofString "SizeError") np)) none (b₀ :: suite) pos :: rest)) Q E s₃) E s₂) E s' := by
  obtain ⟨B, a0, hB, hBG, hl, hfl⟩ := R
  have hL : B.get? L = none := by
    obtain ⟨_, ⟨L', _, hf, hn', _⟩, _⟩ := hfl.2.2.1
    obtain rfl : L = L' := Option.some.inj hf
    exact hn'
  refine wpAny_looks_onW (Around.frames_deeper K.stack) rfl hfl fun h₄ hheld₄ hsm₄ => ?_
  refine wpAny_landsW hheld₄ fun h₅ hheld hsm₅' => ?_
  have hsm₅ := hsm₄.trans hsm₅'
  obtain ⟨g₅, T₅, F₅, K₅⟩ := kts_ground K F hBG hheld.1 (hsm.trans hsm₅)
  have X₅ : (hd.heap_39 w.params).In g₅ := XB.keeps K₅.stays
  have P₅ : TopRead topProg loose mg mb g₅ := topRead_of (TB.keeps K₅.stays)
  obtain ⟨ob, hob, hobc⟩ := hheld.there
  have hC₅ := F₅.keep _ _ (X₅ _ _ (size_cls w.params))
  have ex : nsIn (hd.heap_39 w.params) mainGlobals (Str.ofString "SizeError") = some (some (.ref 56)) := rfl
  refine wpAny_handleBy_cons (codeAny_handlers_test (name_K F₅ X₅ P₅ ex ?_ hk hx (by decide))) (by intro q; cases q)
  refine wpAny_excMatches_sub_self hC₅ hob hobc (by decide) (codeAny_handlers_suite ?_)
  refine lands_againW hheld fun h₆ hfl₆ hsm₆ => ?_
  obtain ⟨g₆, T₆, F₆, K₆⟩ := kts_ground K F hBG hfl₆.1 ((hsm.trans hsm₅).trans hsm₆)
  have Nl : News g₆ L h₆ news := fun q hq => ⟨hfl₆.1 _ _ (hl q hq).1, (fun z => by have := (hl q hq).1; rw [z, hL] at this; cases this), T₆.none_ _ (kts_none F.keep (hl q hq).2.1)⟩
  exact wpAny_passesOwnAt hE (k h₆ g₆ (T0.trans T₆) F₆ Nl K₆ (XB.keeps K₆.stays) (TB.keeps K₆.stays) (D.turn T₆))
end
/-- the word of a def that catches within: the ground of its caller's frame is turned -/
def WordT (w : World) (f : Addr) (vs : List Value) (own : Led) (cost : Nat) (Post : Heap → Heap → Value → Led → Prop) : Prop :=
  ∀ (loose : List Str) (mean : ExcName → Option Value) (mg mb : Str → Option Value) (dp un : Nat) (gd : Option (List Code)) (cn : Str) (cs : Scope) (a : Addr) (ccd : Value) (outer : List Env) (A₀ : Around) (base h₀ g₀ : Heap) (L : Addr) (m : Str → Option Value) (s : Shared) (Q E : Value → Shared → Prop) (rest : Led),
    Below A₀ base outer h₀ → Fr h₀ L s.heap m → (hd.heap_39 w.params).In h₀ → News h₀ L s.heap (own ++ rest) → Top topProg loose mean mg mb h₀ → (hd.heap_39 w.params).In base → Top topProg loose mean mg mb base → KtsDicts (outer.filterMap (·.frame)) h₀ → KtsTurn (outer.filterMap (·.frame)) g₀ h₀ → cs.kind = .function → dp + cost < recursionLimit → un + 8 * cost < cLine →
    (∀ r own' h₀' h' tk', KtsTurn (outer.filterMap (·.frame)) g₀ h₀' → Fr h₀' L h' m → News h₀' L h' (own' ++ rest) → Below A₀ base outer h₀' → (hd.heap_39 w.params).In h₀' → Top topProg loose mean mg mb h₀' → KtsDicts (outer.filterMap (·.frame)) h₀' → Post s.heap h' r own' → Q r { s with heap := h', toks := tk' }) →
    wpAny (model PySem.Challenge.rw_pf0382_01.row.prog w) (ktrTop dp un gd cn cs L a ccd [] outer) (call (.ref f) vs) Q E s
set_option maxHeartbeats 8000000 in
theorem refused_word (w : World) (f : Addr) (own : Led) (cost : Nat) (C : WordE w f [] own cost) (hc : cost ≤ 20) {oc : Value} {od : Option Addr} {fd : FuncData} {sl : Array (Option Value)} (hf : (f, (⟨oc, od, .func fd, sl⟩ : Obj)) ∈ own) : WordT w 231 [.ref f] own (cost + 2) (fun h h' r own' => r = .bool true ∧ own' = own) := by
  unfold WordT
  k_fill
  intro loose mean mg mb dp un gd cn cs ad ccd outer A₀ base h₀ g₀ L m s Q E rest B F X N T XB TB D T0 hk hdp hun hret
  refine wpAny_call ?_
  (refine' code_defS (binds := [("call", .ref f)]) ?k1 ?k2 ?k3 ?k4 ?k5 ?XB ?TB ?D ?T0 ?kA ?k6 ?k7 ?k8 ?k9 ?kB ?_ ?cK ?c2 ?c3 ?c4 ?c5; (case kA => exact rfl); (case k2 => k_asm); (case k1 => k_asm); (case XB => assumption); (case TB => assumption); (case D => assumption); (case T0 => assumption); (case k3 => k_asm); (case k4 => k_asm); (case k5 => k_asm); (case k6 => k_is); (case k7 => k_is); (case k8 => ktr_room); (case k9 => exact BindsTo.of_eq rfl); (case kB => exact locs rfl); (case cK => assumption); (case c2 => exact rfl); (case c3 => exact rfl); (case c4 => exact rfl); (case c5 => decide); k_whole)
  intro g' L' h' FG' F' N' B' X' T' D'
  try dsimp only
  repeat' (first | ((fail_if_success (with_reducible show wpAny _ _ (callWith _ (Value.ref f) _ _ _) _ _ _)); first | (k_unfold; (try dsimp only)) | (k_end; kc_close) | walk1 | (dsimp only; walk1) | (leave1; walk_say "STEP leave1"; (try dsimp only)) | fail "no step") | fail "no step")
  refine callWith_F0 (FnAt.of N' (List.mem_append_left _ hf)) ?_
  try dsimp only [List.nil_append]
  refine WordE.use C B' F' X' N' T' rfl (fun q hq => List.mem_append_left _ hq) (by ktr_room) (by ktr_room) ?_
  intro e G h1 tk1 FG1 R1 U1
  refine caught_own R1 FG1 B' U1 XB TB D' KtsTurn.refl ?_
  intro h2 g2 T2 F2 N2 B2 X2 Top2 D2
  try dsimp only
  repeat' (first | ((fail_if_success (with_reducible show LeaveS _ _ _ _ _ _ _ _ _ _ _ _ _ _ _ _ _ _)); first | (k_unfold; (try dsimp only)) | (k_end; kc_close) | walk1 | (dsimp only; walk1) | (leave1; walk_say "STEP leave1"; (try dsimp only)) | fail "no step") | fail "no step")
  refine leaveS_r F2 N2 T2 fun h₀' T3 F3 N3 B3 X3 Top3 D3 => ?_
  exact hret _ own h₀' _ _ T3 F3 N3 B3 X3 Top3 D3 ⟨rfl, rfl⟩
end

section
open PySem PySem.W PyProof.Rows PySem.Calls PySem.Spec
/-- the shape of a lambda that packs the row of its cell -/
abbrev noArgs : Arguments := { posonlyargs := [], args := [], vararg := none, kwonlyargs := [], kw_defaults := [], kwarg := none, defaults := [] }
abbrev packLam (p1 p2 p3 p4 p5 : Pos) : Expr := .Call (.Name "pack_pause" p1) [.Call (.Name "PauseFrame" p2) [.Name "row" p3] [] p4] [] p5
abbrev packScope : Scope := { kind := .function, names := [("row", .free), ("pack_pause", .globalImplicit), ("PauseFrame", .globalImplicit)], isGenerator := false, isCoroutine := false }
section
variable {w : World} {f : Addr} {cost : Nat}
  {loose : List Str} {mean : ExcName → Option Value} {mg mb : Str → Option Value} {dp un : Nat} {gd : Option (List Code)} {cn : Str} {cs : Scope} {a : Addr} {ccd : Value} {cl : List (Str × Addr)} {outer : List Env} {A₀ : Around} {base h₀ : Heap} {L : Addr} {m : Str → Option Value} {s : Shared} {Q E : Value → Shared → Prop} {news : Led}
theorem usePF {p pd pT : Addr} {tt : Tok} {vs : List Value} {nT : Nat} (C : ∀ p pd tt, WordE w 110 [.ref p] [(p, instObj 101 pd), (pd, pfD w pT tt), (pT, tupO vs nT)] cost) (B : Below A₀ base outer h₀) (F : Fr h₀ L s.heap m) (X : (hd.heap_39 w.params).In h₀)
    (N : News h₀ L s.heap ((p, instObj 101 pd) :: (pd, pfD w pT tt) :: news)) (hm : (pT, tupO vs nT) ∈ news) (T : Top topProg loose mean mg mb h₀) (hk : cs.kind = .function) (hd : dp + cost < recursionLimit) (hu : un + 8 * cost < cLine)
    (k : ∀ e G h' tk', Fr h₀ L G m → RaisedSN base G (envX cn cs L a ccd cl :: outer) e (.ref 56) news h' → G.UpToSlots h' → E (.ref e) { s with heap := h', toks := tk' }) :
    wpAny (model PySem.Challenge.rw_pf0382_01.row.prog w) (ktrTop dp un gd cn cs L a ccd cl outer) (call (.ref 110) [.ref p]) Q E s := by
  refine WordE.use (C p pd tt) B F X N T hk ?_ hd hu fun e G h' tk' FG R U => k e G h' tk' FG (raised_sub R fun q hq => .tail _ (.tail _ hq)) U
  intro q hq
  simp only [List.mem_cons, List.not_mem_nil, or_false] at hq
  rcases hq with rfl | rfl | rfl
  · exact .head _
  · exact .tail _ (.head _)
  · exact .tail _ (.tail _ hm)
end
set_option maxHeartbeats 8000000 in
theorem lam_pack (w : World) (p1 p2 p3 p4 p5 : Pos) (f c' cell pT : Addr) (qual : Str) (pm ctv : Value) (oc oCell : Obj) (ws : Array Value) (tq : Tok) (vs : List Value) (nT : Nat) (hoc : oc.data = .fields ws) (hws : ws[1]? = some (.str qual tq)) (hcell : oCell.data = .cell (some (.ref pT)))
    (C : ∀ p pd tt, WordE w 110 [.ref p] [(p, instObj 101 pd), (pd, pfD w pT tt), (pT, tupO vs nT)] 8) :
    WordE w f [] [(f, kla_obj "<lambda>" qual noArgs (packLam p1 p2 p3 p4 p5) packScope [("row", cell)] pm c' ctv), (c', oc), (cell, oCell), (pT, tupO vs nT)] 12 := by
  unfold WordE
  have mk_lam_pack : Mk := ⟨⟩
  k_with "call type:tuple" => (guard_hyp mk_lam_pack : Mk; (k_here; (with_reducible show wpAny _ _ (call (Value.type _) [Value.ref _]) _ _ _); k_dflt (refine call_tuple_tup (News.isTup (by k_asm) (by k_mem)) ?_)))
  k_fill
  intro loose mean mg mb dp un gd cn cs ad ccd cl outer A₀ base h₀ L m s Q E rest B F X N T hk hdp hun hE
  refine wpAny_call ?_
  simp only [List.cons_append, List.nil_append] at N
  refine' kla_code (binds := []) ?k1 ?k2 ?k3 ?k4 ?k5 ?kA ?kF ?kK ?k6 ?k7 ?k8 ?k9 ?kB ?_ ?c2 ?c3 ?c4 ?c5; (case kA => exact rfl); (case kF => exact rfl); (case kK => assumption); (case k1 => k_asm); (case k2 => k_asm); (case k3 => k_asm); (case k4 => k_asm); (case k5 => k_asm); (case k6 => k_mem); (case k7 => exact codeRec_news (by k_asm) (by k_mem) (by assumption) (by assumption)); (case k8 => ktr_room); (case k9 => exact rfl); (case c5 => decide); (case kB => exact fun _ h => nomatch h); (case c2 => exact rfl); (case c3 => exact rfl); (case c4 => exact rfl)
  intro g' L' h' FG' F' N' B' X' T'
  try dsimp only
  repeat' (first | ((fail_if_success (with_reducible show wpAny _ _ (eval (Expr.Name (Str.ofString "row") _) _) _ _ _)); first | (k_unfold; (try dsimp only)) | (k_end; kc_close) | walk1 | (dsimp only; walk1) | (leave1; walk_say "STEP leave1"; (try dsimp only)) | fail "no step") | fail "no step")
  refine nameX_F (o := oCell) N' rfl (by k_mem) hcell ?_ rfl rfl
  repeat' (first | ((fail_if_success (with_reducible show wpAny _ _ (call (Value.ref 110) _) _ _ _)); first | (k_unfold; (try dsimp only)) | (k_end; kc_close) | walk1 | (dsimp only; walk1) | (leave1; walk_say "STEP leave1"; (try dsimp only)) | fail "no step") | fail "no step")
  rename Fr g' _ _ _ => F9
  rename News g' _ _ _ => N9
  refine usePF C B' F9 X' N9 (by k_mem) T' rfl (by ktr_room) (by ktr_units) ?_
  intro e G h9 tk9 FG9 R U
  refine xs_leave_on B' FG9 R U rfl ?_
  intro h11 R2 U2
  exact hE e g' h11 _ FG' R2 U2
end

section
open PySem PySem.W PyProof.Rows PySem.Calls PySem.Spec
theorem units_tcall (A : Around) (args : Args) : (A.under (.builtin "type.__call__" args)).units ≤ A.units + 3 := by
  simp [Around.under, Code.cUnits, Code.frames, Code.isFrame]
/-- the shape of a lambda that makes an asker of the row of its cell -/
abbrev askLam (p0 p1 p2 p3 p4 p5 p6 p7 p8 p9 p10 p11 p12 p13 p14 p15 p16 p17 : Pos) : Expr := .Call (.Name "PauseAsker" p0) [.Subscript (.Name "row" p2) (.Constant (.int 0) 0 p3) p4, .Subscript (.Name "row" p5) (.Constant (.int 1) 0 p6) p7, .Subscript (.Name "row" p8) (.Constant (.int 2) 0 p9) p10, .Subscript (.Name "row" p11) (.Constant (.int 3) 0 p12) p13, .Subscript (.Name "row" p14) (.Constant (.int 4) 0 p15) p16] [] p1
abbrev askScope : Scope := { kind := .function, names := [("row", .free), ("PauseAsker", .globalImplicit)], isGenerator := false, isCoroutine := false }
abbrev askRow (hi lo tm kk ah : Int) (t1 t2 t3 t4 t5 : Tok) (nT : Nat) : Obj := tupO [.int hi t1, .int lo t2, .int tm t3, .int kk t4, .int ah t5] nT
theorem cutB {M : Model} {A : Around} {x : Sem Bool} {Q : Bool → Shared → Prop} {E : Value → Shared → Prop} {s : Shared} {g : Heap} {L : Addr} {m : Str → Option Value} {news : Led} (_ : Fr g L s.heap m) (_ : News g L s.heap news)
    (h : ∀ Q' : Bool → Shared → Prop, (∀ h' tk, Fr g L h' m → News g L h' news → Q' true { s with heap := h', toks := tk }) → wpAny M A x Q' E s) (k : ∀ h' tk, Fr g L h' m → News g L h' news → Q true { s with heap := h', toks := tk }) : wpAny M A x Q E s := h _ k
set_option maxHeartbeats 8000000 in
theorem ask_bad (w : World) (p0 p1 p2 p3 p4 p5 p6 p7 p8 p9 p10 p11 p12 p13 p14 p15 p16 p17 : Pos) (f c' cell pT : Addr) (qual : Str) (pm ctv : Value) (oc oCell : Obj) (ws : Array Value) (tq : Tok) (nT : Nat) (hoc : oc.data = .fields ws) (hws : ws[1]? = some (.str qual tq)) (hcell : oCell.data = .cell (some (.ref pT)))
    (hi lo tm kk ah : Int) (t1 t2 t3 t4 t5 : Tok) (h1 : 1 ≤ kk) (hbad : ¬ (0 ≤ lo) ∨ (0 ≤ lo ∧ ¬ (lo < hi)) ∨ (0 ≤ lo ∧ lo < hi ∧ ¬ (1 ≤ tm)) ∨ (0 ≤ lo ∧ lo < hi ∧ 1 ≤ tm ∧ ¬ (tm ≤ 65535)) ∨ (0 ≤ lo ∧ lo < hi ∧ 1 ≤ tm ∧ tm ≤ 65535 ∧ kk ≤ 1000 ∧ 0 + (tm + kk - 1) / kk ≤ ah)) :
    WordE w f [] [(f, kla_obj "<lambda>" qual noArgs (askLam p0 p1 p2 p3 p4 p5 p6 p7 p8 p9 p10 p11 p12 p13 p14 p15 p16 p17) askScope [("row", cell)] pm c' ctv), (c', oc), (cell, oCell), (pT, askRow hi lo tm kk ah t1 t2 t3 t4 t5 nT)] 12 := by
  unfold WordE
  have mk_ask_bad : Mk := ⟨⟩
  k_with "eval Name" => (guard_hyp mk_ask_bad : Mk; (k_here; (with_reducible show wpAny _ _ (eval (Expr.Name (Str.ofString "row") _) _) _ _ _); k_dflt (refine' nameX_F ?z9N rfl ?z9m ?z9d ?_ rfl rfl; (case z9N => k_asm); (case z9d => assumption); (case z9m => k_mem))))
  k_fill
  intro loose mean mg mb dp un gd cn cs ad ccd cl outer A₀ base h₀ L m s Q E rest B F X N T hk hdp hun hE
  refine wpAny_call ?_
  simp only [List.cons_append, List.nil_append] at N
  refine' kla_code (binds := []) ?k1 ?k2 ?k3 ?k4 ?k5 ?kA ?kF ?kK ?k6 ?k7 ?k8 ?k9 ?kB ?_ ?c2 ?c3 ?c4 ?c5; (case kA => exact rfl); (case kF => exact rfl); (case kK => assumption); (case k1 => k_asm); (case k2 => k_asm); (case k3 => k_asm); (case k4 => k_asm); (case k5 => k_asm); (case k6 => k_mem); (case k7 => exact codeRec_news (by k_asm) (by k_mem) (by assumption) (by assumption)); (case k8 => ktr_room); (case k9 => exact rfl); (case c5 => decide); (case kB => exact fun _ h => nomatch h); (case c2 => exact rfl); (case c3 => exact rfl); (case c4 => exact rfl)
  intro g' L' h' FG' F' N' B' X' T'
  try dsimp only
  repeat' (first | ((fail_if_success (with_reducible show wpAny _ _ (PySem.isTrue (Expr.BoolOp _ _ _) _ _) _ _ _)); first | (k_unfold; (try dsimp only)) | (k_end; kc_close) | walk1 | (dsimp only; walk1) | (leave1; walk_say "STEP leave1"; (try dsimp only)) | fail "no step") | fail "no step")
  refine cutB (by k_asm) (by k_asm) ?test ?on
  case test =>
    intro Q9 hQ
    clear hE
    rcases hbad with h2 | ⟨h2, h3⟩ | ⟨h2, h3, h4⟩ | ⟨h2, h3, h4, h5⟩ | ⟨h2, h3, h4, h5, h6, h7⟩
    · repeat' (first | ((fail_if_success (with_reducible show Q9 _ _)); first | (k_unfold; (try dsimp only)) | (k_end; kc_close) | walk1 | (dsimp only; walk1) | (leave1; walk_say "STEP leave1"; (try dsimp only)) | fail "no step") | fail "no step")
      exact hQ _ _ (by k_asm) (by k_asm)
    · repeat' (first | ((fail_if_success (with_reducible show Q9 _ _)); first | (k_unfold; (try dsimp only)) | (k_end; kc_close) | walk1 | (dsimp only; walk1) | (leave1; walk_say "STEP leave1"; (try dsimp only)) | fail "no step") | fail "no step")
      exact hQ _ _ (by k_asm) (by k_asm)
    · repeat' (first | ((fail_if_success (with_reducible show Q9 _ _)); first | (k_unfold; (try dsimp only)) | (k_end; kc_close) | walk1 | (dsimp only; walk1) | (leave1; walk_say "STEP leave1"; (try dsimp only)) | fail "no step") | fail "no step")
      exact hQ _ _ (by k_asm) (by k_asm)
    · repeat' (first | ((fail_if_success (with_reducible show Q9 _ _)); first | (k_unfold; (try dsimp only)) | (k_end; kc_close) | walk1 | (dsimp only; walk1) | (leave1; walk_say "STEP leave1"; (try dsimp only)) | fail "no step") | fail "no step")
      exact hQ _ _ (by k_asm) (by k_asm)
    · repeat' (first | ((fail_if_success (with_reducible show Q9 _ _)); first | (k_unfold; (try dsimp only)) | (k_end; kc_close) | walk1 | (dsimp only; walk1) | (leave1; walk_say "STEP leave1"; (try dsimp only)) | fail "no step") | fail "no step")
      exact hQ _ _ (by k_asm) (by k_asm)
  case on =>
  rename Fr _ _ _ _ => FI
  rename News _ _ _ _ => NI
  clear FI NI
  intro h7 tk7 FI NI
  try dsimp only
  repeat' (first | ((fail_if_success (with_reducible show wpAny _ _ (exec (Stmt.Raise _ _ _) _) _ _ _)); first | (k_unfold; (try dsimp only)) | (k_end; kc_close) | walk1 | (dsimp only; walk1) | (leave1; walk_say "STEP leave1"; (try dsimp only)) | fail "no step") | fail "no step")
  refine size_raise rfl ?_
  repeat' (first | ((fail_if_success (with_reducible show wpAny _ _ (call (Value.ref 56) _) _ _ _)); first | (k_unfold; (try dsimp only)) | (k_end; kc_close) | walk1 | (dsimp only; walk1) | (leave1; walk_say "STEP leave1"; (try dsimp only)) | fail "no step") | fail "no step")
  rename Fr _ _ _ _ => F9
  rename News _ _ _ _ => N9
  rename Below (Around.under _ _) _ _ _ => B9
  refine size_made B9 F9 (by assumption) N9 (by assumption) rfl (by ktr_room) ?U ?C9
  case U =>
    have hcL9 := cLine_is
    refine Nat.lt_of_le_of_lt (Nat.add_le_add_right (Nat.add_le_add_right (units_tcall _ _) 3) _) ?_
    show un + 3 + 3 + 3 + 8 * 4 < cLine
    omega
  intro e t D h9 tk9 F10 N10 ap
  refine ⟨e, t, D, rfl, Frag.In.keeps (by assumption) F10.keep, (N10 _ (.head _)).1, ?_⟩
  refine xs_leave B9 F10 N10 ap rfl rfl ?_
  intro h11 R U
  dsimp only [InitBack]
  rename Fr g' _ _ _ => FGm
  refine xs_leave_on B' FGm R U rfl ?_
  intro h12 R2 U2
  exact hE e g' h12 _ FG' (raised_sub R2 fun q hq => .tail _ (.tail _ hq)) U2
theorem ask_a (w : World) (p0 p1 p2 p3 p4 p5 p6 p7 p8 p9 p10 p11 p12 p13 p14 p15 p16 p17 : Pos) (f c' cell pT : Addr) (qual : Str) (pm ctv : Value) (oc oCell : Obj) (ws : Array Value) (tq : Tok) (nT : Nat) (hoc : oc.data = .fields ws) (hws : ws[1]? = some (.str qual tq)) (hcell : oCell.data = .cell (some (.ref pT)))
    (hi lo tm kk ah : Int) (t1 t2 t3 t4 t5 : Tok) (h1 : 1 ≤ kk) (h2 : ¬ (0 ≤ lo)) :
    WordE w f [] [(f, kla_obj "<lambda>" qual noArgs (askLam p0 p1 p2 p3 p4 p5 p6 p7 p8 p9 p10 p11 p12 p13 p14 p15 p16 p17) askScope [("row", cell)] pm c' ctv), (c', oc), (cell, oCell), (pT, askRow hi lo tm kk ah t1 t2 t3 t4 t5 nT)] 12 :=
  ask_bad w p0 p1 p2 p3 p4 p5 p6 p7 p8 p9 p10 p11 p12 p13 p14 p15 p16 p17 f c' cell pT qual pm ctv oc oCell ws tq nT hoc hws hcell hi lo tm kk ah t1 t2 t3 t4 t5 h1 (.inl h2)
theorem ask_b (w : World) (p0 p1 p2 p3 p4 p5 p6 p7 p8 p9 p10 p11 p12 p13 p14 p15 p16 p17 : Pos) (f c' cell pT : Addr) (qual : Str) (pm ctv : Value) (oc oCell : Obj) (ws : Array Value) (tq : Tok) (nT : Nat) (hoc : oc.data = .fields ws) (hws : ws[1]? = some (.str qual tq)) (hcell : oCell.data = .cell (some (.ref pT)))
    (hi lo tm kk ah : Int) (t1 t2 t3 t4 t5 : Tok) (h1 : 1 ≤ kk) (h2 : 0 ≤ lo) (h3 : ¬ (lo < hi)) :
    WordE w f [] [(f, kla_obj "<lambda>" qual noArgs (askLam p0 p1 p2 p3 p4 p5 p6 p7 p8 p9 p10 p11 p12 p13 p14 p15 p16 p17) askScope [("row", cell)] pm c' ctv), (c', oc), (cell, oCell), (pT, askRow hi lo tm kk ah t1 t2 t3 t4 t5 nT)] 12 :=
  ask_bad w p0 p1 p2 p3 p4 p5 p6 p7 p8 p9 p10 p11 p12 p13 p14 p15 p16 p17 f c' cell pT qual pm ctv oc oCell ws tq nT hoc hws hcell hi lo tm kk ah t1 t2 t3 t4 t5 h1 (.inr (.inl ⟨h2, h3⟩))
theorem ask_c (w : World) (p0 p1 p2 p3 p4 p5 p6 p7 p8 p9 p10 p11 p12 p13 p14 p15 p16 p17 : Pos) (f c' cell pT : Addr) (qual : Str) (pm ctv : Value) (oc oCell : Obj) (ws : Array Value) (tq : Tok) (nT : Nat) (hoc : oc.data = .fields ws) (hws : ws[1]? = some (.str qual tq)) (hcell : oCell.data = .cell (some (.ref pT)))
    (hi lo tm kk ah : Int) (t1 t2 t3 t4 t5 : Tok) (h1 : 1 ≤ kk) (h2 : 0 ≤ lo) (h3 : lo < hi) (h4 : ¬ (1 ≤ tm)) :
    WordE w f [] [(f, kla_obj "<lambda>" qual noArgs (askLam p0 p1 p2 p3 p4 p5 p6 p7 p8 p9 p10 p11 p12 p13 p14 p15 p16 p17) askScope [("row", cell)] pm c' ctv), (c', oc), (cell, oCell), (pT, askRow hi lo tm kk ah t1 t2 t3 t4 t5 nT)] 12 :=
  ask_bad w p0 p1 p2 p3 p4 p5 p6 p7 p8 p9 p10 p11 p12 p13 p14 p15 p16 p17 f c' cell pT qual pm ctv oc oCell ws tq nT hoc hws hcell hi lo tm kk ah t1 t2 t3 t4 t5 h1 (.inr (.inr (.inl ⟨h2, h3, h4⟩)))
theorem ask_d (w : World) (p0 p1 p2 p3 p4 p5 p6 p7 p8 p9 p10 p11 p12 p13 p14 p15 p16 p17 : Pos) (f c' cell pT : Addr) (qual : Str) (pm ctv : Value) (oc oCell : Obj) (ws : Array Value) (tq : Tok) (nT : Nat) (hoc : oc.data = .fields ws) (hws : ws[1]? = some (.str qual tq)) (hcell : oCell.data = .cell (some (.ref pT)))
    (hi lo tm kk ah : Int) (t1 t2 t3 t4 t5 : Tok) (h1 : 1 ≤ kk) (h2 : 0 ≤ lo) (h3 : lo < hi) (h4 : 1 ≤ tm) (h5 : ¬ (tm ≤ 65535)) :
    WordE w f [] [(f, kla_obj "<lambda>" qual noArgs (askLam p0 p1 p2 p3 p4 p5 p6 p7 p8 p9 p10 p11 p12 p13 p14 p15 p16 p17) askScope [("row", cell)] pm c' ctv), (c', oc), (cell, oCell), (pT, askRow hi lo tm kk ah t1 t2 t3 t4 t5 nT)] 12 :=
  ask_bad w p0 p1 p2 p3 p4 p5 p6 p7 p8 p9 p10 p11 p12 p13 p14 p15 p16 p17 f c' cell pT qual pm ctv oc oCell ws tq nT hoc hws hcell hi lo tm kk ah t1 t2 t3 t4 t5 h1 (.inr (.inr (.inr (.inl ⟨h2, h3, h4, h5⟩))))
theorem ask_e (w : World) (p0 p1 p2 p3 p4 p5 p6 p7 p8 p9 p10 p11 p12 p13 p14 p15 p16 p17 : Pos) (f c' cell pT : Addr) (qual : Str) (pm ctv : Value) (oc oCell : Obj) (ws : Array Value) (tq : Tok) (nT : Nat) (hoc : oc.data = .fields ws) (hws : ws[1]? = some (.str qual tq)) (hcell : oCell.data = .cell (some (.ref pT)))
    (hi lo tm kk ah : Int) (t1 t2 t3 t4 t5 : Tok) (h1 : 1 ≤ kk) (h2 : 0 ≤ lo) (h3 : lo < hi) (h4 : 1 ≤ tm) (h5 : tm ≤ 65535) (h6 : kk ≤ 1000) (h7 : 0 + (tm + kk - 1) / kk ≤ ah) :
    WordE w f [] [(f, kla_obj "<lambda>" qual noArgs (askLam p0 p1 p2 p3 p4 p5 p6 p7 p8 p9 p10 p11 p12 p13 p14 p15 p16 p17) askScope [("row", cell)] pm c' ctv), (c', oc), (cell, oCell), (pT, askRow hi lo tm kk ah t1 t2 t3 t4 t5 nT)] 12 :=
  ask_bad w p0 p1 p2 p3 p4 p5 p6 p7 p8 p9 p10 p11 p12 p13 p14 p15 p16 p17 f c' cell pT qual pm ctv oc oCell ws tq nT hoc hws hcell hi lo tm kk ah t1 t2 t3 t4 t5 h1 (.inr (.inr (.inr (.inr ⟨h2, h3, h4, h5, h6, h7⟩))))
end

section
open PySem PySem.W PyProof.Rows PySem.Calls PySem.Spec
/-- what a table of codes holds: codes of one name -/
def Tab (qual : Str) (ps : Array Value) (codes : Led) : Prop :=
  TriplesOk ps.toList ∧ ∀ q v, codeAmong q ps.toList = some v → ∃ c' oc ws t, v = .ref c' ∧ ((c', oc) : Addr × Obj) ∈ codes ∧ oc.data = .fields ws ∧ ws[1]? = some (.str qual t)
theorem codeAmong_more {q : Pos} {a b : Int} {c v : Value} (l : List Value) (h : TriplesOk l) (hs : codeAmong q (l ++ [rawInt a, rawInt b, c]) = some v) : codeAmong q l = some v ∨ v = c := by
  fun_induction TriplesOk l with
  | case1 =>
    simp only [List.nil_append, rawInt, codeAmong] at hs
    split at hs
    · exact .inr (Option.some.inj hs).symm
    · cases hs
  | case2 a' t b' u x rest ih =>
    simp only [List.cons_append, codeAmong] at hs ⊢
    split at hs
    · rename_i hc; rw [if_pos hc]; exact .inl hs
    · rename_i hc; rw [if_neg hc]; exact ih h hs
  | case3 l h1 h2 => exact h.elim
theorem Tab.nil (qual : Str) : Tab qual #[] [] := ⟨trivial, fun q v h => by simp [codeAmong] at h⟩
theorem Tab.push {qual : Str} {ps : Array Value} {codes : Led} (T : Tab qual ps codes) (pos : Pos) {c' : Addr} {oc : Obj} {ws : Array Value} {t : Tok} (h1 : oc.data = .fields ws) (h2 : ws[1]? = some (.str qual t)) :
    Tab qual (ps ++ #[rawInt pos.line, rawInt pos.col, .ref c']) ((c', oc) :: codes) := by
  refine ⟨?_, fun q v h => ?_⟩
  · rw [Array.toList_append]; exact TriplesOk_snoc _ _ _ _ T.1
  · rw [Array.toList_append] at h
    rcases codeAmong_more _ T.1 h with h | rfl
    · obtain ⟨c2, o2, w2, t2, e1, e2, e3, e4⟩ := T.2 q v h
      exact ⟨c2, o2, w2, t2, e1, .tail _ e2, e3, e4⟩
    · exact ⟨c', oc, ws, t, rfl, .head _, h1, h2⟩
abbrev compScope : Scope := { kind := .function, names := [(".0", .local), ("row", .cell), ("_law_refused", .globalImplicit)], isGenerator := false, isCoroutine := false }
section
variable {w : World} {loose : List Str} {mean : ExcName → Option Value} {mg mb : Str → Option Value} {dp un : Nat} {gd : Option (List Code)} {cn : Str} {cs : Scope} {a : Addr} {c : Addr} {outer : List Env} {A₀ : Around} {base g g₀ : Heap} {L : Addr} {m : Str → Option Value} {s : Shared} {Q : Bool → Shared → Prop} {E : Value → Shared → Prop}
set_option maxHeartbeats 8000000 in
theorem row_test {lbody : Expr} {lscope : Scope} {lpos q1 q2 q3 : Pos} {whole : Sem Value} {C cell pT P : Addr} {ps : Array Value} {codes rest : Led} {oCell oT : Obj} {qual : Str}
    (B : Below A₀ base outer g) (F : Fr g L s.heap m) (X : (hd.heap_39 w.params).In g) (N : News g L s.heap ((P, tabObj ps) :: (codes ++ rest))) (hP : ∀ p ∈ codes ++ rest, p.1 ≠ P) (T : Top topProg loose mean mg mb g) (XB : (hd.heap_39 w.params).In base) (TB : Top topProg loose mean mg mb base)
    (D : KtsDicts (outer.filterMap (·.frame)) g) (T0 : KtsTurn (outer.filterMap (·.frame)) g₀ g) (hk : cs.kind = .function) (hdp : dp + 14 < recursionLimit) (hun : un + 8 * 14 < cLine)
    (CH : CodeHd base c P) (hT : Tab qual ps codes) (hq : qual = cn ++ ".<locals>." ++ "<lambda>") (hcm : (cell, oCell) ∈ rest) (hTm : (pT, oT) ∈ rest) (hcl : closureFor lscope (envX cn (relabel compScope (envX cn cs L a (.ref c) [])) L a (.ref c) [("row", cell)]) = pure [((Str.ofString "row", cell) : Str × Addr)])
    (hW : ∀ f c' oc ws tq pm ctv, oc.data = .fields ws → ws[1]? = some (.str qual tq) → WordE w f [] [(f, kla_obj "<lambda>" qual noArgs lbody lscope [("row", cell)] pm c' ctv), (c', oc), (cell, oCell), (pT, oT)] 12)
    (k : ∀ g' h' tk' ps' codes', KtsTurn (outer.filterMap (·.frame)) g₀ g' → Fr g' L h' m → News g' L h' ((P, tabObj ps') :: (codes' ++ rest)) → (∀ p ∈ codes' ++ rest, p.1 ≠ P) → Tab qual ps' codes' → (∀ p ∈ codes', p ∈ codes ∨ ∀ q ∈ rest, q.1 < p.1) → Below A₀ base outer g' → (hd.heap_39 w.params).In g' → Top topProg loose mean mg mb g' → KtsDicts (outer.filterMap (·.frame)) g' → Q false { s with heap := h', toks := tk' }) :
    wpAny (model PySem.Challenge.rw_pf0382_01.row.prog w) (ktrTop dp un gd cn cs L a (.ref c) [] outer) (isTrue (.UnaryOp .Not (.Call (.Name "_law_refused" q1) [.Lambda noArgs lbody lscope lpos] [] q2) q3) (compEnvC compScope [("row", cell)] C (envX cn cs L a (.ref c) [])) whole) Q E s := by
  subst hq
  refine isTrue_not (isTrue_plain ?_)
  iterate 2 (first | (k_unfold; (try dsimp only)) | (k_end; kc_close) | walk1 | (dsimp only; walk1) | (leave1; walk_say "STEP leave1"; (try dsimp only)) | skip)
  have ex : nsIn (hd.heap_39 w.params) mainGlobals (Str.ofString "_law_refused") = some (some (.ref 231)) := rfl
  refine Name_function_global (env := compEnvC compScope [("row", cell)] C (envX cn cs L a (.ref c) [])) rfl rfl (loadGlobal_global (env := compEnvC compScope [("row", cell)] C (envX cn cs L a (.ref c) [])) (T.g.keeps F.keep) (mg_of X T.g ex) ?_) (by decide)
  refine' callWith_K X ?k2 ?_
  (case k2 => exact rfl)
  refine spliced_more ?_
  refine kla_eval rfl ?_
  show wpAny _ _ (makeFunction "<lambda>" (cn ++ ".<locals>." ++ "<lambda>") noArgs (.expr lbody) lscope (envX cn (relabel compScope (envX cn cs L a (.ref c) [])) L a (.ref c) [("row", cell)]) [] [] [] lpos lpos.line) _ _ _
  have go : ∀ f c' oc ws t pm ctv ps' codes' h1 tk1, oc.data = .fields ws → ws[1]? = some (.str (cn ++ ".<locals>." ++ "<lambda>") t) → Tab (cn ++ ".<locals>." ++ "<lambda>") ps' codes' → (c', oc) ∈ codes' → (∀ p ∈ codes' ++ rest, p.1 ≠ P) → (∀ p ∈ codes', p ∈ codes ∨ ∀ q ∈ rest, q.1 < p.1) → Fr g L h1 m →
      News g L h1 ((f, kla_obj "<lambda>" (cn ++ ".<locals>." ++ "<lambda>") noArgs lbody lscope [("row", cell)] pm c' ctv) :: (P, tabObj ps') :: (codes' ++ rest)) →
      wpAny (model PySem.Challenge.rw_pf0382_01.row.prog w) (ktrTop dp un gd cn cs L a (.ref c) [] outer) (call (.ref 231) [.ref f]) (fun v s₁ => wpAny (model PySem.Challenge.rw_pf0382_01.row.prog w) (ktrTop dp un gd cn cs L a (.ref c) [] outer) (truthy v) (fun b s' => Q (!b) s') E s₁) E { s with heap := h1, toks := tk1 } := by
    intro f c' oc ws t pm ctv ps' codes' h1 tk1 e1 e2 hT' hc' hP' hN' F1 N1
    have R := refused_word w f _ 12 (hW f c' oc ws t pm ctv e1 e2) (by decide) (.head _)
    refine R loose mean mg mb dp un gd cn cs a (.ref c) outer A₀ base g g₀ L m _ _ _ ((f, kla_obj "<lambda>" (cn ++ ".<locals>." ++ "<lambda>") noArgs lbody lscope [("row", cell)] pm c' ctv) :: (P, tabObj ps') :: (codes' ++ rest)) B F1 X ?_ T XB TB D T0 hk hdp hun ?_
    · intro q hq
      rcases List.mem_append.mp hq with hq | hq
      · simp only [List.mem_cons, List.not_mem_nil, or_false] at hq
        rcases hq with rfl | rfl | rfl | rfl
        · exact N1 _ (.head _)
        · exact N1 _ (.tail _ (.tail _ (List.mem_append_left _ hc')))
        · exact N1 _ (.tail _ (.tail _ (List.mem_append_right _ hcm)))
        · exact N1 _ (.tail _ (.tail _ (List.mem_append_right _ hTm)))
      · exact N1 _ hq
    · rintro r own' g2 h2 tk2 T2 F2 N2 B2 X2 Tp2 D2 ⟨rfl, rfl⟩
      refine wpAny_truthy_bool ?_
      exact k g2 h2 tk2 ps' codes' T2 F2 (fun q hq => N2 q (List.mem_append_right _ (.tail _ hq))) hP' hT' hN' B2 X2 Tp2 D2
  cases hn : codeAmong lpos ps.toList with
  | none =>
    refine kla_nest F N T (CH.keeps B.stays) rfl (UpdF.head hP) hT.1 hn hcl ?_
    intro f c' oc ws t ctv h1 tk1 F1 N1 d1 d2 l1 l2
    refine spliced_none ?_
    have lt := l1 _ (.head _)
    refine ⟨X.keeps F1.keep, go f c' oc ws t ((mg "__name__").getD .none) ctv _ ((c', oc) :: codes) h1 tk1 d1 d2 (hT.push lpos d1 d2) (.head _) (fun p hp => ?_) (fun p hp => ?_) F1 (fun q hq => N1 q ?_)⟩
    · rcases List.mem_cons.mp hp with rfl | hp
      · exact Nat.ne_of_gt lt
      · exact hP p hp
    · rcases List.mem_cons.mp hp with rfl | hp
      · exact .inr fun q hq => l1 q (.tail _ (List.mem_append_right _ hq))
      · exact .inl hp
    · rcases List.mem_cons.mp hq with rfl | hq
      · exact .head _
      · rcases List.mem_cons.mp hq with rfl | hq
        · exact .tail _ (.tail _ (.head _))
        · rcases List.mem_cons.mp hq with rfl | hq
          · exact .tail _ (.head _)
          · exact .tail _ (.tail _ (.tail _ hq))
  | some v =>
    obtain ⟨c', oc, ws, t, rfl, e2, e3, e4⟩ := hT.2 _ _ hn
    refine kla_hit F N T (CH.keeps B.stays) rfl (.head _) hT.1 hn hcl ?_
    intro f ctv h1 tk1 F1 N1 l1
    refine spliced_none ?_
    exact ⟨X.keeps F1.keep, go f c' oc ws t _ ctv ps codes h1 tk1 e3 e4 hT e2 hP (fun p hp => .inl hp) F1 N1⟩
end
end

section
open PySem PySem.W PyProof.Rows PySem.Calls PySem.Spec PyProof.Rows.LCg
/-- the frame of a comprehension whose variable a lambda keeps -/
theorem newEnv_cell {M : Model} {A : Around} {E : Value → Shared → Prop} {s : Shared} {env : Env} {Q : Env → Shared → Prop}
    (h : Q { compEnvC compScope [("row", s.heap.objs.size + 1)] s.heap.objs.size env with scope := compScope } { s with heap := (s.heap.push { cls := .type "dict", data := .dict #[] }).push { cls := .type "cell", data := .cell none } }) :
    wpAny M A (newFunctionEnv compScope env.globals [] [] env.qual none .none (some env)) Q E s := by
  simp only [newFunctionEnv, Option.isSome_some, if_true]
  refine wpAny_bind (wpAny_alloc ?_)
  refine wpAny_bind (wpAny_layCells _ (fun name kind cells => by cases hkc : kind == NameKind.cell <;> simp [hkc]) _ _ _ _ ?_)
  simp only [List.forIn_nil]
  refine wpAny_bind (wpAny_pure (wpAny_pure ?_))
  have e : s.heap.objs.size + 1 = (s.heap.push { cls := .type "dict", data := .dict #[] }).objs.size := (Heap.size_push ..).symm
  rw [e] at h
  exact h

section
variable {w : World} {loose : List Str} {mean : ExcName → Option Value} {mg mb : Str → Option Value} {dp un : Nat} {gd : Option (List Code)} {cn : Str} {cs : Scope} {a : Addr} {c : Addr} {outer : List Env} {A₀ : Around} {base g₁ g₀ : Heap} {L : Addr} {m : Str → Option Value} {s₁ : Shared} {Q : Value → Shared → Prop} {E : Value → Shared → Prop}
theorem comp_block {elt iter : Expr} {px pos : Pos} {lbody : Expr} {lscope : Scope} {lpos q1 q2 q3 : Pos} {T P : Addr} {oL : Obj} {nL : Nat} {vs : List Value} {ps₁ : Array Value} {codes₁ rest : Led} {qual : Str}
    (B : Below A₀ base outer g₁) (F : Fr g₁ L s₁.heap m) (X : (hd.heap_39 w.params).In g₁) (N : News g₁ L s₁.heap ((P, tabObj ps₁) :: (codes₁ ++ rest))) (hP : ∀ p ∈ codes₁ ++ rest, p.1 ≠ P) (Tp : Top topProg loose mean mg mb g₁) (XB : (hd.heap_39 w.params).In base) (TB : Top topProg loose mean mg mb base)
    (D0 : KtsDicts (outer.filterMap (·.frame)) g₁) (T0 : KtsTurn (outer.filterMap (·.frame)) g₀ g₁) (hk : cs.kind = .function) (hdp : dp + 14 < recursionLimit) (hun : un + 8 * 14 < cLine)
    (CH : CodeHd base c P) (hT : Tab qual ps₁ codes₁) (hq : qual = cn ++ ".<locals>." ++ "<lambda>")
    (hcl : ∀ cell, closureFor lscope (envX cn (relabel compScope (envX cn cs L a (.ref c) [])) L a (.ref c) [("row", cell)]) = pure [((Str.ofString "row", cell) : Str × Addr)])
    (hTL : (T, oL) ∈ rest) (hLc : oL.cls = .type "list") (hLd : oL.data = .seq vs.toArray nL)
    (rows : ∀ (i : Nat) v, vs[i]? = some v → ∃ pT oT, v = .ref pT ∧ ((pT, oT) : Addr × Obj) ∈ rest ∧ ∀ cell (oCell : Obj), oCell.data = .cell (some (.ref pT)) → ∀ f c' (oc : Obj) ws tq pm ctv, oc.data = .fields ws → ws[1]? = some (.str qual tq) → WordE w f [] [(f, kla_obj "<lambda>" qual noArgs lbody lscope [("row", cell)] pm c' ctv), (c', oc), (cell, oCell), (pT, oT)] 12)
    (fin : ∀ g' h' tk' ps' codes' D, KtsTurn (outer.filterMap (·.frame)) g₀ g' → Fr g' L h' m → News g' L h' ((P, tabObj ps') :: (codes' ++ ((D, lst []) :: rest))) → (∀ p ∈ codes' ++ ((D, lst []) :: rest), p.1 ≠ P) → Tab qual ps' codes' → (∀ p ∈ codes', p ∈ codes₁ ∨ ∀ q ∈ (D, lst []) :: rest, q.1 < p.1) → (∀ q ∈ codes₁ ++ rest, q.1 < D) →
      Below A₀ base outer g' → (hd.heap_39 w.params).In g' → Top topProg loose mean mg mb g' → KtsDicts (outer.filterMap (·.frame)) g' → Q (.ref D) { s₁ with heap := h', toks := tk' }) :
    wpAny (model PySem.Challenge.rw_pf0382_01.row.prog w) (ktrTop dp un gd cn cs L a (.ref c) [] outer) (pyIter (.ref T)) (fun it s₂ => wpAny (model PySem.Challenge.rw_pf0382_01.row.prog w) (ktrTop dp un gd cn cs L a (.ref c) [] outer) (newList []) (fun acc s₃ =>
      wpAny (model PySem.Challenge.rw_pf0382_01.row.prog w) (ktrTop dp un gd cn cs L a (.ref c) [] outer) (newFunctionEnv compScope (envX cn cs L a (.ref c) []).globals [] [] (envX cn cs L a (.ref c) []).qual none .none (some (envX cn cs L a (.ref c) []))) (fun cenv s₄ =>
      codeAny (model PySem.Challenge.rw_pf0382_01.row.prog w) (ktrTop dp un gd cn cs L a (.ref c) [] outer) (.compStart (.ListComp elt [⟨.Name "row" px, iter, [.UnaryOp .Not (.Call (.Name "_law_refused" q1) [.Lambda noArgs lbody lscope lpos] [] q2) q3], 0⟩] compScope pos) 0 it acc { cenv with scope := relabel compScope (envX cn cs L a (.ref c) []) })
        (postE (model PySem.Challenge.rw_pf0382_01.row.prog w) (ktrTop dp un gd cn cs L a (.ref c) [] outer) E none Q acc { cenv with scope := relabel compScope (envX cn cs L a (.ref c) []) }) s₄) E s₃) E s₂) E s₁ := by
  have zT := N _ (.tail _ (List.mem_append_right _ hTL))
  have hl : s₁.heap.IsList T vs.toArray := ⟨oL, zT.1, hLc, nL, hLd⟩
  have hltT : T < s₁.heap.objs.size := Heap.lt_size zT.1
  refine wpAny_pyIter_list hl ?_
  generalize hI : s₁.heap.objs.size = I at hltT ⊢
  generalize hs2 : s₁.heap.push { cls := .type "list_iterator", data := .fields #[.ref T, .int 0 0] } = H1
  have W := Walks.list (prog := PySem.Challenge.rw_pf0382_01.row.prog) (w := w) (A := ktrTop dp un gd cn cs L a (.ref c) [] outer) rfl I T (Nat.ne_of_lt hltT) vs.toArray
  have up1 : ∀ b o, s₁.heap.get? b = some o → H1.get? b = some o := fun b o e => hs2 ▸ Heap.get?_push_of_some _ e
  have zI1 : H1.get? I = some { cls := .type "list_iterator", data := .fields #[.ref T, .int 0 0] } := by subst hs2 hI; exact Heap.get?_push_size _ rfl
  have hH1 : H1.objs.size = I + 1 := by rw [← hs2, Heap.size_push, hI]
  refine wpAny_newObj_type (newEnv_cell ?_)
  dsimp only
  generalize hH2 : H1.push { cls := .type "list", dict := none, data := .seq ([] : List Value).toArray } = H2
  have zD2 : H2.get? (I + 1) = some (lst []) := by rw [← hH2, ← hH1]; exact Heap.get?_push_size _ rfl
  have hH2s : H2.objs.size = I + 2 := by rw [← hH2, Heap.size_push, hH1]
  rw [hH1, hH2s]
  generalize hH3 : H2.push { cls := .type "dict", data := .dict #[] } = H3
  have zC3 : H3.get? (I + 2) = some { cls := .type "dict", data := .dict #[] } := by rw [← hH3, ← hH2s]; exact Heap.get?_push_size _ rfl
  have nsC3 : H3.Ns (I + 2) (fun _ => none) := by rw [← hH3, ← hH2s]; exact Heap.Ns.new H2 (.type "dict")
  have hH3s : H3.objs.size = I + 3 := by rw [← hH3, Heap.size_push, hH2s]
  generalize hH4 : H3.push { cls := .type "cell", data := .cell none } = H4
  have zK4 : H4.get? (I + 3) = some { cls := .type "cell", data := .cell none } := by rw [← hH4, ← hH3s]; exact Heap.get?_push_size _ rfl
  have up4 : ∀ b o, H3.get? b = some o → H4.get? b = some o := fun b o e => hH4 ▸ Heap.get?_push_of_some _ e
  have up3 : ∀ b o, H2.get? b = some o → H4.get? b = some o := fun b o e => up4 _ _ (hH3 ▸ Heap.get?_push_of_some _ e)
  have up2 : ∀ b o, H1.get? b = some o → H4.get? b = some o := fun b o e => up3 _ _ (hH2 ▸ Heap.get?_push_of_some _ e)
  have up : ∀ b o, s₁.heap.get? b = some o → H4.get? b = some o := fun b o e => up2 _ _ (up1 _ _ e)
  have lts : ∀ b o, s₁.heap.get? b = some o → b < I := fun b o e => hI ▸ Heap.lt_size e
  have hLI : L < I := by obtain ⟨o, _, _, e, _⟩ := F.ns; exact lts L o e
  have fresh : ∀ b, I ≤ b → g₁.get? b = none := fun b hb => by
    cases e : g₁.get? b with
    | none => rfl
    | some o => exact absurd (lts b o (F.keep _ _ e)) (Nat.not_lt.mpr hb)
  have ltN : ∀ p ∈ (P, tabObj ps₁) :: (codes₁ ++ rest), p.1 < I := fun p hp => lts _ _ (N p hp).1
  obtain ⟨oC, zC, hoC⟩ := ns_obj nsC3
  have F4 := F.keeps up
  have nLe : ∀ b, I ≤ b → b ≠ L := fun b hb q => by rw [q] at hb; exact absurd hLI (Nat.not_lt.mpr hb)
  have F4s := F4
  have zI4 := up2 _ _ zI1
  have zD4 := up3 _ _ zD2
  have zC4 := up4 _ _ zC
  have N4 : News g₁ L H4 ((P, tabObj ps₁) :: (codes₁ ++ ((I, { cls := .type "list_iterator", data := .fields #[.ref T, .int 0 0] }) :: (I + 1, lst []) :: (I + 2, oC) :: (I + 2 + 1, { cls := .type "cell", data := .cell none }) :: rest))) := by
    intro p hp
    rcases List.mem_cons.mp hp with rfl | hp
    · have z := N _ (.head _); exact ⟨up _ _ z.1, z.2⟩
    · rcases List.mem_append.mp hp with hp | hp
      · have z := N _ (.tail _ (List.mem_append_left _ hp)); exact ⟨up _ _ z.1, z.2⟩
      · rcases List.mem_cons.mp hp with rfl | hp
        · exact ⟨zI4, nLe _ (Nat.le_refl _), fresh _ (Nat.le_refl _)⟩
        · rcases List.mem_cons.mp hp with rfl | hp
          · exact ⟨zD4, nLe _ (Nat.le_add_right _ _), fresh _ (Nat.le_add_right _ _)⟩
          · rcases List.mem_cons.mp hp with rfl | hp
            · exact ⟨zC4, nLe _ (Nat.le_add_right _ _), fresh _ (Nat.le_add_right _ _)⟩
            · rcases List.mem_cons.mp hp with rfl | hp
              · exact ⟨zK4, nLe _ (Nat.le_add_right _ 3), fresh _ (Nat.le_add_right _ 3)⟩
              · have z := N _ (.tail _ (List.mem_append_right _ hp)); exact ⟨up _ _ z.1, z.2⟩
  have hPI : P < I := ltN _ (.head _)
  have ltR : ∀ p ∈ rest, p.1 < I := fun p hp => ltN p (.tail _ (List.mem_append_right _ hp))
  have ltC : ∀ p ∈ codes₁, p.1 < I := fun p hp => ltN p (.tail _ (List.mem_append_left _ hp))
  have hP4 : ∀ (codes : Led) (oI oK : Obj), (∀ p ∈ codes, p.1 ≠ P) → ∀ p ∈ codes ++ ((I, oI) :: (I + 1, lst []) :: (I + 2, oC) :: (I + 2 + 1, oK) :: rest), p.1 ≠ P := by
    intro codes oI oK hc p hp
    rcases List.mem_append.mp hp with hp | hp
    · exact hc p hp
    · rcases List.mem_cons.mp hp with rfl | hp
      · exact Nat.ne_of_gt hPI
      · rcases List.mem_cons.mp hp with rfl | hp
        · exact Nat.ne_of_gt (Nat.lt_of_lt_of_le hPI (Nat.le_add_right _ _))
        · rcases List.mem_cons.mp hp with rfl | hp
          · exact Nat.ne_of_gt (Nat.lt_of_lt_of_le hPI (Nat.le_add_right _ _))
          · rcases List.mem_cons.mp hp with rfl | hp
            · exact Nat.ne_of_gt (Nat.lt_of_lt_of_le hPI (Nat.le_add_right _ 3))
            · exact hP p (List.mem_append_right _ hp)
  have loop : codeAny (model PySem.Challenge.rw_pf0382_01.row.prog w) (ktrTop dp un gd cn cs L a (.ref c) [] outer) (.compLoop (.ListComp elt [⟨.Name "row" px, iter, [.UnaryOp .Not (.Call (.Name "_law_refused" q1) [.Lambda noArgs lbody lscope lpos] [] q2) q3], 0⟩] compScope pos) 0 (.ref I) (.ref (I + 1)) (compEnvC compScope [("row", I + 2 + 1)] (I + 2) (envX cn cs L a (.ref c) [])))
      (postE (model PySem.Challenge.rw_pf0382_01.row.prog w) (ktrTop dp un gd cn cs L a (.ref c) [] outer) E none Q (.ref (I + 1)) (compEnvC compScope [("row", I + 2 + 1)] (I + 2) (envX cn cs L a (.ref c) []))) { s₁ with heap := H4 } := by
    refine codeAny_compLoop_tests
      (fun k s' => ∃ h' tk i g ps codes oI oK cv, s' = { s₁ with heap := h', toks := tk } ∧ i ≤ vs.length ∧ k = vs.length + 1 - i ∧ h'.IsListIter I T i ∧ oK.data = .cell cv ∧ KtsTurn (outer.filterMap (·.frame)) g₀ g ∧ Fr g L h' m ∧
        News g L h' ((P, tabObj ps) :: (codes ++ ((I, oI) :: (I + 1, lst []) :: (I + 2, oC) :: (I + 2 + 1, oK) :: rest))) ∧ (∀ p ∈ codes, p.1 ≠ P) ∧ Tab qual ps codes ∧ (∀ p ∈ codes, p ∈ codes₁ ∨ I + 2 + 1 < p.1) ∧
        Below A₀ base outer g ∧ (hd.heap_39 w.params).In g ∧ Top topProg loose mean mg mb g ∧ KtsDicts (outer.filterMap (·.frame)) g) ?_ (vs.length + 1)
      ⟨H4, _, 0, g₁, ps₁, codes₁, _, _, none, rfl, Nat.zero_le _, rfl, ⟨_, zI4, rfl, rfl⟩, rfl, T0, F4, N4, fun p hp => hP p (List.mem_append_left _ hp), hT, fun p hp => .inl hp, B, X, Tp, D0⟩
    rintro k s' ⟨h', tk, i, g, ps, codes, oI, oK, cv, rfl, hi, rfl, hit, hcv, T', F', N', hP', hT', hN', B', X', Tp', D'⟩
    have zT' := N' (T, oL) (.tail _ (List.mem_append_right _ (.tail _ (.tail _ (.tail _ (.tail _ hTL))))))
    have hst' : h'.IsListIter I T i ∧ h'.IsList T vs.toArray := ⟨hit, oL, zT'.1, hLc, nL, hLd⟩
    have mK : ((I + 2 + 1, oK) : Addr × Obj) ∈ (P, tabObj ps) :: (codes ++ ((I, oI) :: (I + 1, lst []) :: (I + 2, oC) :: (I + 2 + 1, oK) :: rest)) := .tail _ (List.mem_append_right _ (.tail _ (.tail _ (.tail _ (.head _)))))
    have mI : ((I, oI) : Addr × Obj) ∈ (P, tabObj ps) :: (codes ++ ((I, oI) :: (I + 1, lst []) :: (I + 2, oC) :: (I + 2 + 1, oK) :: rest)) := .tail _ (List.mem_append_right _ (.head _))
    by_cases hlt : i < vs.length
    · refine W.item i _ _ _ (by simpa using hlt) hst' fun v h₂ tk₂ hPv hst₂ hk₂ => ?_
      obtain ⟨pT, oT, rfl, hTm, hW⟩ := rows i v (by simpa using hPv)
      have zK := N' _ mK
      have zI := N' _ mI
      have nIK : I ≠ I + 2 + 1 := Nat.ne_of_lt (Nat.lt_add_of_pos_right (Nat.zero_lt_succ 2))
      have F₂ : Fr g L h₂ m := fr_but F' hk₂ (Ne.symm zI.2.1) zI.2.2
      have k2 : ∀ b o, h'.get? b = some o → b ≠ I → h₂.get? b = some o := fun b o e n => hk₂ b o (by simpa using n) e
      refine wpAny_assign_Name (wpAny_storeName_cell rfl rfl rfl ⟨oK, k2 _ _ zK.1 (Ne.symm nIK), hcv⟩ fun h₃ hv₃ hs₃ => ?_)
      obtain ⟨oK', zK', hcv'⟩ := hv₃
      obtain ⟨oI', zI', hIc, hId⟩ := hst₂.1
      have zI3 := hs₃.extBut _ _ nIK zI'
      have F₃ := F₂.change hs₃ zK.2.1 zK.2.2
      have keep : ∀ p ∈ (P, tabObj ps) :: (codes ++ ((I, oI) :: (I + 1, lst []) :: (I + 2, oC) :: (I + 2 + 1, oK) :: rest)), p.1 ≠ I → p.1 ≠ I + 2 + 1 → h₃.get? p.1 = some p.2 ∧ p.1 ≠ L ∧ g.get? p.1 = none :=
        fun p hp n1 n2 => ⟨hs₃.extBut _ _ n2 (k2 _ _ (N' p hp).1 n1), (N' p hp).2⟩
      have lt3 : I < I + 2 + 1 := Nat.lt_add_of_pos_right (Nat.zero_lt_succ 2)
      have low : ∀ b : Nat, b < I → b ≠ I ∧ b ≠ I + 2 + 1 := fun b hb => ⟨Nat.ne_of_lt hb, Nat.ne_of_lt (Nat.lt_trans hb lt3)⟩
      have N₃ : News g L h₃ ((P, tabObj ps) :: (codes ++ ((I, oI') :: (I + 1, lst []) :: (I + 2, oC) :: (I + 2 + 1, oK') :: rest))) := by
        intro p hp
        rcases List.mem_cons.mp hp with rfl | hp
        · exact keep _ (.head _) (low _ hPI).1 (low _ hPI).2
        · rcases List.mem_append.mp hp with hp | hp
          · have z := keep p (.tail _ (List.mem_append_left _ hp))
            rcases hN' p hp with q | q
            · exact z (low _ (ltC p q)).1 (low _ (ltC p q)).2
            · exact z (Nat.ne_of_gt (Nat.lt_trans lt3 q)) (Nat.ne_of_gt q)
          · rcases List.mem_cons.mp hp with rfl | hp
            · exact ⟨zI3, zI.2⟩
            · rcases List.mem_cons.mp hp with rfl | hp
              · exact keep (I + 1, lst []) (.tail _ (List.mem_append_right _ (.tail _ (.head _)))) (Nat.ne_of_gt (Nat.lt_succ_self _)) (Nat.ne_of_lt (Nat.lt_succ_of_lt (Nat.lt_succ_self _)))
              · rcases List.mem_cons.mp hp with rfl | hp
                · exact keep (I + 2, oC) (.tail _ (List.mem_append_right _ (.tail _ (.tail _ (.head _))))) (Nat.ne_of_gt (Nat.lt_succ_of_lt (Nat.lt_succ_self _))) (Nat.ne_of_lt (Nat.lt_succ_self _))
                · rcases List.mem_cons.mp hp with rfl | hp
                  · exact ⟨zK', zK.2⟩
                  · exact keep p (.tail _ (List.mem_append_right _ (.tail _ (.tail _ (.tail _ (.tail _ hp)))))) (low _ (ltR p hp)).1 (low _ (ltR p hp)).2
      refine wpAny_tests_one ?_
      refine row_test (rest := (I, oI') :: (I + 1, lst []) :: (I + 2, oC) :: (I + 2 + 1, oK') :: rest) B' F₃ X' N₃ (hP4 codes oI' oK' hP') Tp' XB TB D' T' hk hdp hun CH hT' hq (.tail _ (.tail _ (.tail _ (.head _)))) (.tail _ (.tail _ (.tail _ (.tail _ hTm)))) (hcl _) (hW _ oK' hcv') ?_
      intro g5 h5 tk5 ps5 codes5 T5 F5 N5 hP5 hT5 hF5 B5 X5 Tp5 D5
      simp only [Bool.false_eq_true, if_false]
      refine ⟨vs.length + 1 - (i + 1), by omega, h5, tk5, i + 1, g5, ps5, codes5, oI', oK', _, rfl, hlt, rfl, ⟨oI', (N5 (I, oI') (.tail _ (List.mem_append_right _ (.head _)))).1, hIc, hId⟩, hcv', T5, F5, N5, fun p hp => hP5 p (List.mem_append_left _ hp), hT5, fun p hp => ?_, B5, X5, Tp5, D5⟩
      rcases hF5 p hp with q | q
      · exact hN' p q
      · exact .inr (q (I + 2 + 1, oK') (.tail _ (.tail _ (.tail _ (.head _)))))
    · obtain rfl : i = vs.length := Nat.le_antisymm hi (Nat.not_lt.mp hlt)
      refine W.done _ _ _ (by simpa using hst') fun h₂ tk₂ hk₂ => ?_
      have zI := N' _ mI
      have mC : ((I + 2, oC) : Addr × Obj) ∈ (P, tabObj ps) :: (codes ++ ((I, oI) :: (I + 1, lst []) :: (I + 2, oC) :: (I + 2 + 1, oK) :: rest)) := .tail _ (List.mem_append_right _ (.tail _ (.tail _ (.head _))))
      have zC' := N' _ mC
      have F₂ : Fr g L h₂ m := fr_but F' hk₂ (Ne.symm zI.2.1) zI.2.2
      have k2 : ∀ b o, h'.get? b = some o → b ≠ I → h₂.get? b = some o := fun b o e n => hk₂ b o (by simpa using n) e
      refine ⟨fun _ => none, hoC.ns (k2 _ _ zC'.1 (Nat.ne_of_gt (Nat.lt_succ_of_lt (Nat.lt_succ_self _)))), fun h3 hs3 => ?_⟩
      have F₃ := F₂.change hs3 zC'.2.1 zC'.2.2
      have keep : ∀ p ∈ (P, tabObj ps) :: (codes ++ ((I, oI) :: (I + 1, lst []) :: (I + 2, oC) :: (I + 2 + 1, oK) :: rest)), p.1 ≠ I → p.1 ≠ I + 2 → h3.get? p.1 = some p.2 ∧ p.1 ≠ L ∧ g.get? p.1 = none :=
        fun p hp n1 n2 => ⟨hs3.extBut _ _ n2 (k2 _ _ (N' p hp).1 n1), (N' p hp).2⟩
      have lt2 : I < I + 2 := Nat.lt_succ_of_lt (Nat.lt_succ_self _)
      have low : ∀ b : Nat, b < I → b ≠ I ∧ b ≠ I + 2 := fun b hb => ⟨Nat.ne_of_lt hb, Nat.ne_of_lt (Nat.lt_trans hb lt2)⟩
      refine fin g h3 tk₂ ps codes (I + 1) T' F₃ ?_ ?_ hT' ?_ ?_ B' X' Tp' D'
      · intro p hp
        rcases List.mem_cons.mp hp with rfl | hp
        · exact keep _ (.head _) (low _ hPI).1 (low _ hPI).2
        · rcases List.mem_append.mp hp with hp | hp
          · have z := keep p (.tail _ (List.mem_append_left _ hp))
            rcases hN' p hp with q | q
            · exact z (low _ (ltC p q)).1 (low _ (ltC p q)).2
            · exact z (Nat.ne_of_gt (Nat.lt_trans (Nat.lt_succ_of_lt lt2) q)) (Nat.ne_of_gt (Nat.lt_trans (Nat.lt_succ_self _) q))
          · rcases List.mem_cons.mp hp with rfl | hp
            · exact keep (I + 1, lst []) (.tail _ (List.mem_append_right _ (.tail _ (.head _)))) (Nat.ne_of_gt (Nat.lt_succ_self _)) (Nat.ne_of_lt (Nat.lt_succ_self _))
            · exact keep p (.tail _ (List.mem_append_right _ (.tail _ (.tail _ (.tail _ (.tail _ hp)))))) (low _ (ltR p hp)).1 (low _ (ltR p hp)).2
      · intro p hp
        rcases List.mem_append.mp hp with hp | hp
        · exact hP' p hp
        · rcases List.mem_cons.mp hp with rfl | hp
          · exact Nat.ne_of_gt (Nat.lt_of_lt_of_le hPI (Nat.le_add_right _ _))
          · exact hP p (List.mem_append_right _ hp)
      · intro p hp
        rcases hN' p hp with q | q
        · exact .inl q
        · refine .inr fun q' hq' => ?_
          rcases List.mem_cons.mp hq' with rfl | hq'
          · exact Nat.lt_trans (Nat.lt_succ_of_lt (Nat.lt_succ_self _)) q
          · exact Nat.lt_trans (ltR q' hq') (Nat.lt_trans (Nat.lt_succ_of_lt lt2) q)
      · intro q hq'
        exact Nat.lt_succ_of_lt (ltN q (.tail _ hq'))
  exact codeAny_compStart_list loop (W.self 0 _ _ _ ⟨⟨_, zI4, rfl, rfl⟩, ⟨oL, (N4 (T, oL) (.tail _ (List.mem_append_right _ (.tail _ (.tail _ (.tail _ (.tail _ hTL))))))).1, hLc, nL, hLd⟩⟩ loop)
/-- what is left of a comprehension when its source is known -/
def CompAt (w : World) (A : Around) (E : Value → Shared → Prop) (Q : Value → Shared → Prop) (e : Expr) (env : Env) (xv : Value) (s₁ : Shared) : Prop :=
  wpAny (model PySem.Challenge.rw_pf0382_01.row.prog w) A (pyIter xv) (fun it s₂ => wpAny (model PySem.Challenge.rw_pf0382_01.row.prog w) A (newList []) (fun acc s₃ =>
      wpAny (model PySem.Challenge.rw_pf0382_01.row.prog w) A (newFunctionEnv compScope env.globals [] [] env.qual none .none (some env)) (fun cenv s₄ =>
      codeAny (model PySem.Challenge.rw_pf0382_01.row.prog w) A (.compStart e 0 it acc { cenv with scope := relabel compScope env })
        (postE (model PySem.Challenge.rw_pf0382_01.row.prog w) A E none Q acc { cenv with scope := relabel compScope env }) s₄) E s₃) E s₂) E s₁
theorem eval_cell_comp {A : Around} {s : Shared} {elt iter : Expr} {px pos : Pos} {test : Expr} {env : Env} (hs : ∀ x, foldedSetIterable iter env x = pure x)
    (h : wpAny (model PySem.Challenge.rw_pf0382_01.row.prog w) A (eval iter env) (CompAt w A E Q (.ListComp elt [⟨.Name "row" px, iter, [test], 0⟩] compScope pos) env) E s) :
    wpAny (model PySem.Challenge.rw_pf0382_01.row.prog w) A (eval (.ListComp elt [⟨.Name "row" px, iter, [test], 0⟩] compScope pos) env) Q E s := by
  rw [arm_eval_ListComp]
  exact comprehensionE (use := none) (cl := []) rfl hs rfl rfl (by decide) h
end
end

section
open PySem PySem.W PyProof.Rows PySem.Calls PySem.Spec PyProof.Rows.LCg
/-- how a def leaves whose caller's ground was turned only at the caller's own frame -/
def LeaveZ (hs h₀ : Heap) (L : Addr) (m : Str → Option Value) (own : Led) (g : Heap) (R : Result → Shared → Prop) (v : Value) (s' : Shared) : Prop :=
  ∃ g' L' m' own', KtsTurn [L] g g' ∧ Fr g' L' s'.heap m' ∧ News g' L' s'.heap own' ∧ (Fr h₀ L s'.heap m → News h₀ L s'.heap own' → (∀ b o, hs.get? b = some o → b ≠ L → b ∉ own.map (·.1) → s'.heap.get? b = some o) → R (.ok (.ret v)) s')
section
variable {prog : Program} {w : World} {A₀ A : Around} {s : Shared} {base h₀ : Heap} {L a : Addr} {m : Str → Option Value} {cn : Str} {cs : Scope} {ccd : Value} {own : Led} {K : Frag} {p : Program} {loose : List Str} {mean : ExcName → Option Value} {mg mb : Str → Option Value}
    {R : Result → Shared → Prop} {name qual : Str} {params : Arguments} {body : List Stmt} {scope : Scope} {dV kV doc pm cdv ct oc : Value} {an od : Option Addr} {osl : Array (Option Value)} {f : Addr} {args : Args} {binds : List (Str × Value)}
theorem enterZ (B : Below A₀ base [] h₀) (F : Fr h₀ L s.heap m) (X₀ : K.In h₀) (N : News h₀ L s.heap own) (T : Top p loose mean mg mb h₀) (hA : A.frames = some [envOf cn cs L a ccd])
    (ho : K.lookup f = some ⟨oc, od, .func (fnOf name qual params body scope dV kV doc pm an cdv ct), osl⟩) (hcd : codeIn K cdv qual = true) (hroom : A.depth < recursionLimit)
    (hbind : BindsTo s (fnOf name qual params body scope dV kV doc pm an cdv ct) args binds) (hloc : ∀ y ∈ binds, scope.names.lookup y.1 = some .local)
    (h : ∀ g L' h₁, Fr g L' h₁ (fun y => binds.reverse.lookup y) → News g L' h₁ own → Below A base [envOf cn cs L a ccd] g → K.In g → Top p loose mean mg mb g → KtsDicts [L] g → (∀ q ∈ own, q.1 < L') → (∀ b o, h₀.get? b = some o → g.get? b = some o) →
      wpAny (model prog w) (A.deeper (envOf qual scope L' f cdv)) (execs body (envOf qual scope L' f cdv))
        (fun fl s' => LeaveZ s.heap h₀ L m own g R (match fl with | .ret v => v | _ => .none) s')
        (fun e s' => wpAny (model prog w) (A.deeper (envOf qual scope L' f cdv)) (leaving (envOf qual scope L' f cdv) e) (fun _ s'' => R (.error e) s'') (fun e' s'' => R (.error e') s'') s')
        { s with heap := h₁, toks := s.toks + binds.length })
    (hck : cs.kind = .function) (hco : scope.isCoroutine = false) (hgen : scope.isGenerator = false) (hk : scope.kind = .function)
    (hcell : ∀ x ∈ scope.names, x.2 ≠ .cell) : codeAny (model prog w) A (.call (.ref f) args) R s := by
  have XS := X₀.keeps F.keep
  refine codeAny_call_def (fd := fnOf name qual params body scope dV kV doc pm an cdv ct) (body := body) (binds := binds) hroom (XS _ _ ho) rfl (T.nolimit.keeps F.keep) (codeRec_of XS hcd) rfl hbind hcell hloc (fun h₁ hns hk₁ => ?_) hco hgen hk
  obtain ⟨oL, es, ep, hLg, hLd, hN, hNs, st, B₂⟩ := kts_enter B F N hA hck
  have up : ∀ b o, s.heap.get? b = some o → b ∉ own.map (·.1) → (hideAll s.heap (own.map (·.1))).get? b = some o := fun b o e n => hideAll_get _ e n
  have start := h (hideAll s.heap (own.map (fun q : Addr × Obj => q.1))) s.heap.objs.size h₁ ⟨hns, fun b o e => hk₁ b o (of_hideAll _ e), Nat.le_of_eq (hideAll_size _ _)⟩
    (fun q hq => ⟨hk₁ _ _ (N q hq).1, Nat.ne_of_lt (Heap.lt_size (N q hq).1), hideAll_none _ (List.mem_map_of_mem hq)⟩) B₂ (X₀.keeps st) (T.keeps st)
    (fun b hb => by
      obtain rfl := List.mem_singleton.mp hb
      exact ⟨oL, es, ep, hLg, hLd⟩) (fun q hq => Heap.lt_size (N q hq).1) st
  refine wpAny_mono start (fun fl s' hl => ?_) fun _ _ y => y
  obtain ⟨g', L', m', own', T', F', N', k⟩ := hl
  obtain ⟨sl, hs⟩ := T'.up hLg
  have nL₀ : h₀.get? L = none := kts_self F
  have oth : ∀ b o, s.heap.get? b = some o → b ≠ L → b ∉ own.map (·.1) → s'.heap.get? b = some o := fun b o e n1 n2 => F'.keep b o (T'.other b o (up b o e n2) (fun q => n1 (List.mem_singleton.mp q)))
  refine k ⟨hNs sl _ (F'.keep _ _ hs), fun b o e => ?_, F.above⟩ (fun q hq => ⟨(N' q hq).1, fun z => ?_, ?_⟩) oth
  · refine F'.keep b o (T'.other b o (st b o e) fun z => ?_)
    rw [List.mem_singleton.mp z, nL₀] at e
    cases e
  · have y := (N' q hq).2.2
    rw [z, hs] at y
    cases y
  · cases z : h₀.get? q.1 with
    | none => rfl
    | some o =>
      obtain ⟨sl', hs'⟩ := T'.up (st _ _ z)
      have y := (N' q hq).2.2
      rw [hs'] at y
      cases y
end
/-- the word of a def that catches within, called from a frame that stands alone -/
def WordL (w : World) (H : Heap → Prop) (f : Addr) (vs : List Value) (own : Led) (cost : Nat) (Post : Value → Led → Prop) : Prop :=
  ∀ (loose : List Str) (mean : ExcName → Option Value) (mg mb : Str → Option Value) (dp un : Nat) (gd : Option (List Code)) (cn : Str) (cs : Scope) (a : Addr) (ccd : Value) (A₀ : Around) (base h₀ : Heap) (L : Addr) (m : Str → Option Value) (s : Shared) (Q E : Value → Shared → Prop),
    H base → (hd.heap_39 w.params).In base → Top topProg loose mean mg mb base → Below A₀ base [] h₀ → Fr h₀ L s.heap m → (hd.heap_39 w.params).In h₀ → News h₀ L s.heap own → Top topProg loose mean mg mb h₀ → cs.kind = .function → dp + cost < recursionLimit → un + 8 * cost < cLine →
    (∀ r own' h' tk', Fr h₀ L h' m → News h₀ L h' own' → (∀ b o, s.heap.get? b = some o → b ≠ L → b ∉ own.map (·.1) → h'.get? b = some o) → Post r own' → Q r { s with heap := h', toks := tk' }) →
    wpAny (model PySem.Challenge.rw_pf0382_01.row.prog w) (ktrTop dp un gd cn cs L a ccd [] []) (call (.ref f) vs) Q E s
section
variable {w : World} {H : Heap → Prop} {f : Addr} {vs : List Value} {own : Led} {cost : Nat} {Post : Value → Led → Prop}
  {loose : List Str} {mean : ExcName → Option Value} {mg mb : Str → Option Value} {dp un : Nat} {gd : Option (List Code)} {cn : Str} {cs : Scope} {a : Addr} {ccd : Value} {A₀ : Around} {base h₀ : Heap} {L : Addr} {m : Str → Option Value} {s : Shared} {Q E : Value → Shared → Prop} {news rest : Led}
theorem WordL.use (C : WordL w H f vs own cost Post) (hH : H base) (XB : (hd.heap_39 w.params).In base) (TB : Top topProg loose mean mg mb base) (B : Below A₀ base [] h₀) (F : Fr h₀ L s.heap m) (X : (hd.heap_39 w.params).In h₀) (N : News h₀ L s.heap news) (T : Top topProg loose mean mg mb h₀) (hk : cs.kind = .function)
    (P : Pick own news rest) (D : Apart own rest) (hd : dp + cost < recursionLimit) (hu : un + 8 * cost < cLine)
    (k : ∀ r own' h' tk', Fr h₀ L h' m → News h₀ L h' (own' ++ rest) → (∀ p : Addr, s.heap.get? p = none → apartN p news) → Post r own' → Q r { s with heap := h', toks := tk' }) :
    wpAny (model PySem.Challenge.rw_pf0382_01.row.prog w) (ktrTop dp un gd cn cs L a ccd [] []) (call (.ref f) vs) Q E s := by
  have No : News h₀ L s.heap own := fun p hp => N p (P.sub.1 p hp)
  have Nr : News h₀ L s.heap rest := fun p hp => N p (P.sub.2 p hp)
  refine C _ _ _ _ _ _ _ _ _ _ _ _ _ _ _ _ _ _ _ hH XB TB B F X No T hk hd hu fun r own' h' tk' F' N' hkeep hP => k r own' h' tk' F' (fun p hp => ?_) (fun p e => apartN_of N e) hP
  rcases List.mem_append.mp hp with hp | hp
  · exact N' p hp
  · have z := Nr p hp
    refine ⟨hkeep _ _ z.1 z.2.1 fun q => ?_, z.2⟩
    obtain ⟨x, hx, e⟩ := List.mem_map.mp q
    exact D.out p hp x hx e
end
end

section
open PySem PySem.W PyProof.Rows PySem.Calls PySem.Spec
section
variable {prog : Program} {w : World} {A : Around} {E : Value → Shared → Prop} {s : Shared} {h₀ : Heap} {L : Addr} {m : PySem.Str → Option Value} {news : Led}
/-- two tuples of the ledger, one behind the other: the sum stands in the ledger, in a new place or in one of theirs -/
theorem tup_add {T U : Addr} {xs ys : List Value} {n k : Nat} {Q : Value → Shared → Prop} (F : Fr h₀ L s.heap m) (N : News h₀ L s.heap news) (hT : (T, tupO xs n) ∈ news) (hU : (U, tupO ys k) ∈ news) (hz : xs.length + ys.length ≤ 16384)
    (h : ∀ D h' n', Fr h₀ L h' m → News h₀ L h' ((D, tupO (xs ++ ys) n') :: news) → (D = T ∨ D = U ∨ apartN D news) → Q (.ref D) { s with heap := h' }) : wpAny (model prog w) A (binaryOp .Add (.ref T) (.ref U)) Q E s := by
  have fresh : apartN s.heap.objs.size news := by
    have key : ∀ r : Led, (∀ p ∈ r, p ∈ news) → apartN s.heap.objs.size r := by
      intro r
      induction r with
      | nil => intro _; trivial
      | cons p r ih => intro hs; exact ⟨fun e => absurd (Heap.lt_size (N p (hs p (.head _))).1) (by rw [← e]; exact Nat.lt_irrefl _), ih fun q hq => hs q (.tail _ hq)⟩
    exact key news fun _ h => h
  refine add_tuples F N (News.isTup N hT) (News.isTup N hU) (fun e => ?_) (fun e1 e2 => ?_) (fun _ _ h' F' N' => h _ h' 0 F' N' (.inr (.inr fresh))) (by rw [sizeLine_eq]; omega)
  · refine h U s.heap k F (fun p hp => ?_) (.inr (.inl rfl))
    rcases List.mem_cons.mp hp with e' | hp
    · rw [e', e, List.nil_append]; exact N _ hU
    · exact N p hp
  · refine h T s.heap n F (fun p hp => ?_) (.inl rfl)
    rcases List.mem_cons.mp hp with e' | hp
    · rw [e', e2, List.append_nil]; exact N _ hT
    · exact N p hp
end
end

section
open PySem PySem.W PyProof.Rows PySem.Calls PySem.Spec
/-- every lambda of this shape that keeps this row raises -/
def RowBad (w : World) (qual : Str) (lbody : Expr) (lscope : Scope) (pT : Addr) (oT : Obj) : Prop :=
  ∀ cell (oCell : Obj), oCell.data = .cell (some (.ref pT)) → ∀ f c' (oc : Obj) ws tq pm ctv, oc.data = .fields ws → ws[1]? = some (.str qual tq) →
    WordE w f [] [(f, kla_obj "<lambda>" qual noArgs lbody lscope [("row", cell)] pm c' ctv), (c', oc), (cell, oCell), (pT, oT)] 12
theorem TVs.app {l : List (Option Int)} : ∀ {l2 : List (Option Int)} {vs ws : List Value}, TVs l vs → TVs l2 ws → TVs (l ++ l2) (vs ++ ws) := by
  induction l with
  | nil => intro l2 vs ws h h2; rw [show vs = [] from h]; exact h2
  | cons o l ih => intro l2 vs ws h h2; obtain ⟨v, r, e, hv, h⟩ := h; exact ⟨v, r ++ ws, by rw [e]; rfl, hv, ih h h2⟩
theorem TVs.rep {o : Option Int} {v : Value} (h : TV o v) : ∀ n : Nat, TVs (List.replicate n o) (List.replicate n v)
  | 0 => rfl
  | n + 1 => ⟨v, List.replicate n v, rfl, h, TVs.rep h n⟩
section
variable (w : World) (qual : Str) (p1 p2 p3 p4 p5 : Pos) (pT : Addr)
theorem rowL (vs : List Value) (n : Nat) (h1 : vs.length ≠ 1) (h8 : vs.length ≠ 8) (hz : vs.length ≤ 1000) : RowBad w qual (packLam p1 p2 p3 p4 p5) packScope pT (tupO vs n) :=
  fun cell oCell hcell f c' oc ws tq pm ctv hoc hws => lam_pack w p1 p2 p3 p4 p5 f c' cell pT qual pm ctv oc oCell ws tq vs n hoc hws hcell fun p pd tt => packL_bad w p pd pT tt n vs h1 h8 hz
theorem row1 (tm : Int) (t : Tok) (n : Nat) (hx : ¬ (0 ≤ tm ∧ tm < 65536)) (hb1 : -1000000000000 ≤ tm) (hb2 : tm ≤ 1000000000000) : RowBad w qual (packLam p1 p2 p3 p4 p5) packScope pT (tupO [.int tm t] n) :=
  fun cell oCell hcell f c' oc ws tq pm ctv hoc hws => lam_pack w p1 p2 p3 p4 p5 f c' cell pT qual pm ctv oc oCell ws tq _ n hoc hws hcell fun p pd tt => pack1_bad w p pd pT tt n tm t hx hb1 hb2
theorem row8 (k : Nat) (tm : Int) (t0 t : Tok) (n : Nat) (hk : k ≤ 7) (hx : ¬ (0 ≤ tm ∧ tm < 65536)) (hb1 : -1000000000000 ≤ tm) (hb2 : tm ≤ 1000000000000) :
    RowBad w qual (packLam p1 p2 p3 p4 p5) packScope pT (tupO (List.replicate k (.int 0 t0) ++ [.int tm t] ++ List.replicate (7 - k) .none) n) := by
  intro cell oCell hcell f c' oc ws tq pm ctv hoc hws
  refine lam_pack w p1 p2 p3 p4 p5 f c' cell pT qual pm ctv oc oCell ws tq _ n hoc hws hcell fun p pd tt => ?_
  refine wordE_of0 (pack8_bad w p pd pT tt n _ (List.replicate k (some 0) ++ [some tm] ++ List.replicate (7 - k) none) tm ?_ ?_ ?_ hx ?_)
  · exact TVs.app (TVs.app (TVs.rep (show TV (some 0) (.int 0 t0) from ⟨t0, rfl⟩) k) (show TVs [some tm] [.int tm t] from ⟨_, [], rfl, ⟨t, rfl⟩, rfl⟩)) (TVs.rep (show TV none .none from rfl) _)
  · simp only [List.length_append, List.length_replicate, List.length_cons, List.length_nil]; omega
  · exact List.mem_append_left _ (List.mem_append_right _ (.head _))
  · intro t' e
    rcases List.mem_append.mp e with e | e
    · rcases List.mem_append.mp e with e | e
      · cases List.eq_of_mem_replicate e; decide
      · cases List.mem_singleton.mp e; exact ⟨hb1, hb2⟩
    · cases List.eq_of_mem_replicate e
end
end

section
open PySem PySem.W PyProof.Rows PySem.Calls PySem.Spec
section
variable (w : World) (qual : Str) (p0 p1 p2 p3 p4 p5 p6 p7 p8 p9 p10 p11 p12 p13 p14 p15 p16 p17 : Pos) (pT : Addr)
theorem rowA (hi lo tm kk ah : Int) (t1 t2 t3 t4 t5 : Tok) (nT : Nat) (h1 : 1 ≤ kk) (h2 : ¬ (0 ≤ lo)) : RowBad w qual (askLam p0 p1 p2 p3 p4 p5 p6 p7 p8 p9 p10 p11 p12 p13 p14 p15 p16 p17) askScope pT (askRow hi lo tm kk ah t1 t2 t3 t4 t5 nT) :=
  fun cell oCell hcell f c' oc ws tq pm ctv hoc hws => ask_a w p0 p1 p2 p3 p4 p5 p6 p7 p8 p9 p10 p11 p12 p13 p14 p15 p16 p17 f c' cell pT qual pm ctv oc oCell ws tq nT hoc hws hcell hi lo tm kk ah t1 t2 t3 t4 t5 h1 h2
theorem rowB (hi lo tm kk ah : Int) (t1 t2 t3 t4 t5 : Tok) (nT : Nat) (h1 : 1 ≤ kk) (h2 : 0 ≤ lo) (h3 : ¬ (lo < hi)) : RowBad w qual (askLam p0 p1 p2 p3 p4 p5 p6 p7 p8 p9 p10 p11 p12 p13 p14 p15 p16 p17) askScope pT (askRow hi lo tm kk ah t1 t2 t3 t4 t5 nT) :=
  fun cell oCell hcell f c' oc ws tq pm ctv hoc hws => ask_b w p0 p1 p2 p3 p4 p5 p6 p7 p8 p9 p10 p11 p12 p13 p14 p15 p16 p17 f c' cell pT qual pm ctv oc oCell ws tq nT hoc hws hcell hi lo tm kk ah t1 t2 t3 t4 t5 h1 h2 h3
theorem rowT (hi lo tm kk ah : Int) (t1 t2 t3 t4 t5 : Tok) (nT : Nat) (h1 : 1 ≤ kk) (h2 : 0 ≤ lo) (h3 : lo < hi) (h4 : ¬ (1 ≤ tm ∧ tm ≤ 65535)) : RowBad w qual (askLam p0 p1 p2 p3 p4 p5 p6 p7 p8 p9 p10 p11 p12 p13 p14 p15 p16 p17) askScope pT (askRow hi lo tm kk ah t1 t2 t3 t4 t5 nT) :=
  fun cell oCell hcell f c' oc ws tq pm ctv hoc hws => by
    by_cases h5 : 1 ≤ tm
    · exact ask_d w p0 p1 p2 p3 p4 p5 p6 p7 p8 p9 p10 p11 p12 p13 p14 p15 p16 p17 f c' cell pT qual pm ctv oc oCell ws tq nT hoc hws hcell hi lo tm kk ah t1 t2 t3 t4 t5 h1 h2 h3 h5 (fun x => h4 ⟨h5, x⟩)
    · exact ask_c w p0 p1 p2 p3 p4 p5 p6 p7 p8 p9 p10 p11 p12 p13 p14 p15 p16 p17 f c' cell pT qual pm ctv oc oCell ws tq nT hoc hws hcell hi lo tm kk ah t1 t2 t3 t4 t5 h1 h2 h3 h5
theorem rowE (hi lo tm kk ah : Int) (t1 t2 t3 t4 t5 : Tok) (nT : Nat) (h1 : 1 ≤ kk) (h2 : 0 ≤ lo) (h3 : lo < hi) (h4 : 1 ≤ tm) (h5 : tm ≤ 65535) (h6 : kk ≤ 1000) (h7 : 0 + (tm + kk - 1) / kk ≤ ah) : RowBad w qual (askLam p0 p1 p2 p3 p4 p5 p6 p7 p8 p9 p10 p11 p12 p13 p14 p15 p16 p17) askScope pT (askRow hi lo tm kk ah t1 t2 t3 t4 t5 nT) :=
  fun cell oCell hcell f c' oc ws tq pm ctv hoc hws => ask_e w p0 p1 p2 p3 p4 p5 p6 p7 p8 p9 p10 p11 p12 p13 p14 p15 p16 p17 f c' cell pT qual pm ctv oc oCell ws tq nT hoc hws hcell hi lo tm kk ah t1 t2 t3 t4 t5 h1 h2 h3 h4 h5 h6 h7
end
end

section
open PySem PySem.W PyProof.Rows PySem.Calls PySem.Spec
/-- the data of a time -/
def tvD : Option Int → PyData
  | none => .none
  | some i => .int i
theorem tvs_reads {h : Heap} : ∀ {l : List (Option Int)} {vs : List Value}, TVs l vs → ReadsAll h vs (l.map tvD) []
  | [], vs, e => by rw [show vs = [] from e]; exact .nil
  | none :: l, vs, ⟨v, r, e, hv, hr⟩ => by
    rw [e, show v = .none from hv]
    exact readsAll_cons_val .none (tvs_reads hr)
  | some i :: l, vs, ⟨v, r, e, ⟨t, hv⟩, hr⟩ => by
    rw [e, hv]
    exact readsAll_cons_val (.int i t) (tvs_reads hr)
theorem tvs_canLay : ∀ l : List (Option Int), PyData.canLayAll0 (l.map tvD) = true
  | [] => rfl
  | none :: l => by simp [PyData.canLayAll0, PyData.canLay0, tvD, tvs_canLay l]
  | some i :: l => by simp [PyData.canLayAll0, PyData.canLay0, tvD, tvs_canLay l]
theorem tvs_depth : ∀ l : List (Option Int), PyData.depthAll (l.map tvD) = 0
  | [] => rfl
  | none :: l => by simp [PyData.depthAll, PyData.depth, tvD, tvs_depth l]
  | some i :: l => by simp [PyData.depthAll, PyData.depth, tvD, tvs_depth l]
theorem tvs_shaped (l : List (Option Int)) : SeqAt.shaped (.tuple (l.map tvD)) = true := by
  simp [SeqAt.shaped, PyData.canLay0, PyData.depth, tvs_canLay, tvs_depth]
section
variable {prog : Program} {w : World} {A : Around} {E : Value → Shared → Prop} {s : Shared} {h₀ : Heap} {L a b : Addr} {Q : Value → Shared → Prop} {news : Led} {vs us : List Value} {n k : Nat} {l : List (Option Int)}
theorem tvs_ne (N : News h₀ L s.heap news) (ha : ((a : Addr), tupO vs n) ∈ news) (hb : ((b : Addr), tupO us k) ∈ news) (h1 : TVs l vs) (h2 : TVs l us) (hu : A.units + 64 < cLine)
    (h : Q (.bool false) s) : wpAny (model prog w) A (compareOp .NotEq (.ref a) (.ref b)) Q E s := by
  refine ne_dataH (da := .tuple (l.map tvD)) (db := .tuple (l.map tvD)) (as := []) (bs := []) (reads_tuple_at (N _ ha).1 rfl rfl (by rw [List.toList_toArray]; exact tvs_reads h1)) (reads_tuple_at (N _ hb).1 rfl rfl (by rw [List.toList_toArray]; exact tvs_reads h2)) (tvs_shaped l) (tvs_shaped l) hu ?_
  rw [SeqAt.eqv_refl _ (SeqAt.canLay_of_shaped (tvs_shaped l))]
  exact h
end
end

section
open PySem PySem.W PyProof.Rows PySem.Calls PySem.Spec
theorem Word.mono {w : World} {f : Addr} {vs : List Value} {own : Led} {cost cost' : Nat} {Post Post' : Heap → Heap → Value → Led → Prop} (C : Word w f vs own cost Post) (hc : cost ≤ cost') (h : ∀ a b r o, Post a b r o → Post' a b r o) : Word w f vs own cost' Post' :=
  fun loose mean mg mb dp un gd cn cs a ccd cl outer A₀ base h₀ L m s Q E B F X N T hk hdp hun hret => C loose mean mg mb dp un gd cn cs a ccd cl outer A₀ base h₀ L m s Q E B F X N T hk (Nat.lt_of_le_of_lt (Nat.add_le_add_left hc _) hdp) (Nat.lt_of_le_of_lt (Nat.add_le_add_left (Nat.mul_le_mul_left _ hc) _) hun) fun r own' h' tk' k N' P => hret r own' h' tk' k N' (h _ _ _ _ P)
/-- unpack_pause of a payload, short or long -/
theorem unp_word (w : World) (b : Array UInt8) (tb : Tok) (ks : List Int) (l : List (Option Int)) (hks : KBw.bInts b = ks) (hp : PL ks l) :
    Word w 115 [.bytes b tb] [] 6 (fun h h' r own' => ∃ p dp T tt vs n, r = .ref p ∧ own' = [(p, instObj 101 dp), (dp, pfD w T tt), (T, tupO vs n)] ∧ TVs l vs ∧ h.get? p = none ∧ h.get? dp = none ∧ h.get? T = none) := by
  rcases hp with ⟨h1, h2, c0, c1, _, rfl⟩ | ⟨h1, h2, c0, c1, c2, c3, _, rfl⟩
  · exact unp1_word w b tb ks hks h1 h2 c0 c1
  · exact unp8_word w b tb ks _ hks h1 h2 c0 c1 c2 rfl c3.1 c3.2
theorem pl_len {ks : List Int} {l : List (Option Int)} (hp : PL ks l) : l.length = 8 ∨ ∃ t, l = [some t] := by
  rcases hp with ⟨_, _, _, _, _, rfl⟩ | ⟨_, _, _, _, _, _, _, rfl⟩
  · exact .inr ⟨_, rfl⟩
  · exact .inl (unp8_length ks)
theorem pl_range {ks : List Int} {l : List (Option Int)} (hp : PL ks l) : ∀ t, some t ∈ l → 0 ≤ t ∧ t ≤ 65535 := by
  rcases hp with ⟨_, _, _, _, h, rfl⟩ | ⟨_, _, _, _, _, _, h, rfl⟩
  · intro t ht
    have ht := List.mem_singleton.mp ht
    cases ht
    exact h
  · exact h
/-- pack_pause of what was told by a payload: a payload that tells the same -/
theorem packA_word (w : World) (p pd T : Addr) (tt : Tok) (nT : Nat) (vs : List Value) (ks : List Int) (l : List (Option Int)) (hl : TVs l vs) (hp : PL ks l) :
    Word w 110 [.ref p] [(p, instObj 101 pd), (pd, pfD w T tt), (T, tupO vs nT)] 8 (fun h h' r own' => ∃ b t ks', r = .bytes b t ∧ own' = [(p, instObj 101 pd), (pd, pfD w T tt), (T, tupO vs nT)] ∧ KBw.bInts b = ks' ∧ PL ks' l) := by
  have hr := pl_range hp
  rcases pl_len hp with h8 | ⟨t, rfl⟩
  · exact pack8_word w p pd T tt nT vs l hl h8 hr
  · obtain ⟨v, r, rfl, ⟨tv, rfl⟩, hr'⟩ := hl
    rw [show r = [] from hr']
    have ht := hr t (.head _)
    refine (pack1_word w p pd T tt t tv nT ht.1 ht.2).mono (by decide) ?_
    rintro _ _ r o ⟨b, tb, rfl, rfl, hb⟩
    refine ⟨b, tb, _, rfl, rfl, hb, .inl ⟨Nat.le_refl 4, Nat.le_of_ble_eq_true rfl, rfl, rfl, ?_, ?_⟩⟩
    · show 0 ≤ t / 256 * 256 + t % 256 ∧ t / 256 * 256 + t % 256 ≤ 65535
      omega
    · show [some t] = [some (t / 256 * 256 + t % 256)]
      rw [show t / 256 * 256 + t % 256 = t by omega]
theorem unp_word_k {w : World} {l : List (Option Int)} (h h' : Heap) (R₀ : Value → Led → Prop) (k₀ : ∀ p dp T tt vs n, (TVs l vs) → (h.get? p = none) → (h.get? dp = none) → (h.get? T = none) → (R₀ (.ref p) [(p, instObj 101 dp), (dp, pfD w T tt), (T, tupO vs n)])) (r : Value) (own' : Led) (p₀ : ∃ p dp T tt vs n, r = .ref p ∧ own' = [(p, instObj 101 dp), (dp, pfD w T tt), (T, tupO vs n)] ∧ TVs l vs ∧ h.get? p = none ∧ h.get? dp = none ∧ h.get? T = none) : R₀ r own' := by
  obtain ⟨p, dp, T, tt, vs, n, rfl, rfl, c0, c1, c2, c3⟩ := p₀
  exact k₀ p dp T tt vs n c0 c1 c2 c3
theorem packA_word_k {w : World} {p pd T : Addr} {tt : Tok} {nT : Nat} {vs : List Value} {l : List (Option Int)} (h h' : Heap) (R₀ : Value → Led → Prop) (k₀ : ∀ b t ks', (KBw.bInts b = ks') → (PL ks' l) → (R₀ (.bytes b t) [(p, instObj 101 pd), (pd, pfD w T tt), (T, tupO vs nT)])) (r : Value) (own' : Led) (p₀ : ∃ b t ks', r = .bytes b t ∧ own' = [(p, instObj 101 pd), (pd, pfD w T tt), (T, tupO vs nT)] ∧ KBw.bInts b = ks' ∧ PL ks' l) : R₀ r own' := by
  obtain ⟨b, t, ks', rfl, rfl, c0, c1⟩ := p₀
  exact k₀ b t ks' c0 c1
end

section
open PySem PySem.W PyProof.Rows PySem.Calls PySem.Spec PyProof.Rows.LCg
theorem off_or {D T a : Nat} {l : Led} {o : Obj} (h : D = T ∨ apartN D l) (hm : ((a : Addr), o) ∈ l) (hT : T ≠ a) : @Ne Nat D a := by
  rcases h with rfl | h
  · exact hT
  · exact fun e => apartN_mem h _ hm e.symm
theorem off_or3 {D T U a : Nat} {l : Led} {o : Obj} (h : D = T ∨ D = U ∨ apartN D l) (hm : ((a : Addr), o) ∈ l) (hT : T ≠ a) (hU : U ≠ a) : @Ne Nat D a := by
  rcases h with rfl | rfl | h
  · exact hT
  · exact hU
  · exact fun e => apartN_mem h _ hm e.symm
theorem news_rem {h₀ h : Heap} {L : Addr} {p : Addr × Obj} {l l' codes : Led} (N : News h₀ L h l) (R : Rem p l l') (hc : ∀ q ∈ codes, q ∈ l) : News h₀ L h (p :: (codes ++ l')) := fun q hq => by
  rcases List.mem_cons.mp hq with rfl | hq
  · exact N _ R.sub.1
  · rcases List.mem_append.mp hq with hq | hq
    · exact N q (hc q hq)
    · exact N q (R.sub.2 q hq)
abbrev rrQual : Str := Str.ofString "_law_refusals_right" ++ ".<locals>." ++ "<lambda>"
theorem apart_grow {a : Nat} {codes codes2 l : Led} {o : Obj} (h : ∀ p ∈ codes2, p ∈ codes ∨ ∀ q ∈ l, q.1 < p.1) (ha : apartN a codes) (hm : ((a : Addr), o) ∈ l) : apartN a codes2 :=
  apartN_all fun p hp => (h p hp).elim (fun q => apartN_mem ha p q) fun q => Nat.ne_of_gt (q _ hm)
theorem news_cut {h₀ h : Heap} {L P D src : Addr} {o x oS : Obj} {codes l l' : Led} (N : News h₀ L h ((P, o) :: (codes ++ ((D, x) :: l)))) (R : Rem (src, oS) l l') : News h₀ L h ((P, o) :: (D, x) :: (src, oS) :: codes) := fun q hq => by
  rcases List.mem_cons.mp hq with rfl | hq
  · exact N _ (.head _)
  · rcases List.mem_cons.mp hq with rfl | hq
    · exact N _ (.tail _ (List.mem_append_right _ (.head _)))
    · rcases List.mem_cons.mp hq with rfl | hq
      · exact N _ (.tail _ (List.mem_append_right _ (.tail _ R.sub.1)))
      · exact N _ (.tail _ (List.mem_append_left _ hq))
theorem news_cut2 {h₀ h : Heap} {L P D src ex I : Addr} {o x oS oE oI : Obj} {codes l l' l'' l₃ : Led} (N : News h₀ L h ((P, o) :: (codes ++ ((D, x) :: l)))) (R : Rem (src, oS) l l') (R' : Rem (ex, oE) l l'') (R₃ : Rem (I, oI) l l₃) : News h₀ L h ((P, o) :: (D, x) :: (src, oS) :: (ex, oE) :: (I, oI) :: codes) := fun q hq => by
  rcases List.mem_cons.mp hq with rfl | hq
  · exact N _ (.head _)
  · rcases List.mem_cons.mp hq with rfl | hq
    · exact N _ (.tail _ (List.mem_append_right _ (.head _)))
    · rcases List.mem_cons.mp hq with rfl | hq
      · exact N _ (.tail _ (List.mem_append_right _ (.tail _ R.sub.1)))
      · rcases List.mem_cons.mp hq with rfl | hq
        · exact N _ (.tail _ (List.mem_append_right _ (.tail _ R'.sub.1)))
        · rcases List.mem_cons.mp hq with rfl | hq
          · exact N _ (.tail _ (List.mem_append_right _ (.tail _ R₃.sub.1)))
          · exact N _ (.tail _ (List.mem_append_left _ hq))
theorem ne_of_rem {src D : Addr} {oS : Obj} {c l l' : Led} (R : Rem (src, oS) l l') (h : ∀ q ∈ c ++ l, q.1 < D) : @Ne Nat src D := Nat.ne_of_lt (h _ (List.mem_append_right _ R.sub.1))
theorem tm_bad (d : Int) (h : d = 65536 ∨ d = -1 ∨ d = 10 ^ Int.toNat 9) : ¬ (0 ≤ d ∧ d < 65536) ∧ -1000000000000 ≤ d ∧ d ≤ 1000000000000 := by
  have e : (10 : Int) ^ Int.toNat 9 = 1000000000 := by decide
  rw [e] at h
  omega
theorem row8' (w : World) (p1 p2 p3 p4 p5 : Pos) (qual : Str) (pT : Addr) (k tm : Int) (t0 t : Tok) (n : Nat) (h0 : 0 ≤ k) (hk : k ≤ 7) (hx : ¬ (0 ≤ tm ∧ tm < 65536)) (hb1 : -1000000000000 ≤ tm) (hb2 : tm ≤ 1000000000000) :
    RowBad w qual (packLam p1 p2 p3 p4 p5) packScope pT (tupO (List.replicate k.toNat (.int 0 t0) ++ [.int tm t] ++ List.replicate (7 - k).toNat .none) n) := by
  have e : (7 - k).toNat = 7 - k.toNat := by omega
  rw [e]
  exact row8 w _ _ _ _ _ _ _ k.toNat tm t0 t n (by omega) hx hb1 hb2
abbrev lawQual : Str := Str.ofString "law" ++ ".<locals>." ++ "<lambda>"
theorem fr_turn0 {base g h h0 : Heap} {L : Addr} {m m0 : Str → Option Value} (F0 : Fr base L h0 m0) (F : Fr g L h m) (T : KtsTurn [] base g) : Fr base L h m := ⟨F.ns, fun b o e => F.keep b o (T.other b o e (fun x => nomatch x)), F0.above⟩
theorem news_turn0 {base g h : Heap} {L : Addr} {l : Led} (N : News g L h l) (T : KtsTurn [] base g) : News base L h l := fun q hq => by
  refine ⟨(N q hq).1, (N q hq).2.1, ?_⟩
  cases e : base.get? q.1 with
  | none => rfl
  | some o => have z := T.other _ o e (fun x => nomatch x); rw [(N q hq).2.2] at z; cases z
end

section
open PySem PySem.W PyProof.Rows PySem.Calls PySem.Spec PyProof.Rows.LCg
theorem many_ok (m : Int) (h : m = 0 ∨ m = 2 ∨ m = 3 ∨ m = 7 ∨ m = 9 ∨ m = 16) : 0 ≤ m ∧ m ≤ 1000 ∧ m.toNat ≠ 1 ∧ m.toNat ≠ 8 ∧ m.toNat ≤ 1000 := by
  rcases h with h | h | h | h | h | h <;> subst h <;> decide
set_option maxHeartbeats 8000000 in
theorem rr_word (w : World) (src : Addr) (a b : Int) (ta tb : Tok) (n : Nat) (h0a : 0 ≤ a) (h0b : 0 ≤ b) (hb : b < 2147483647) (ps : Array Value) (codes : Led) (hT : Tab rrQual ps codes) (hc : apartN 233 codes) (hsc : apartN src codes) (hs : Ap src 233) (oE : Obj) (hec : apartN 238 codes) (hse : Ap src 238) (I : Addr) (oI : Obj) (hic : apartN I codes) (hsi : Ap src I) (hi3 : Ap I 233) :
    WordL w (fun base => CodeHd base 235 233) 236 [.ref src] ((233, tabObj ps) :: (src, PySem.W.listOf #[.int a ta, .int b tb] n) :: (238, oE) :: (I, oI) :: codes) 40
      (fun r own' => ∃ ps' codes' a' b' ta' tb' n', r = .bool true ∧ own' = (233, tabObj ps') :: (src, PySem.W.listOf #[.int a' ta', .int b' tb'] n') :: (238, oE) :: (I, oI) :: codes' ∧ Tab rrQual ps' codes' ∧ apartN 233 codes' ∧ apartN src codes' ∧ apartN 238 codes' ∧ apartN I codes' ∧ 0 ≤ a' ∧ 0 ≤ b' ∧ b' < 2147483647) := by
  unfold WordL
  have mk_rr_word : Mk := ⟨⟩
  k_with "call ref" => (guard_hyp mk_rr_word : Mk; (k_here; (with_reducible show wpAny _ _ (call (Value.ref 205) _) _ _ _); k_dflt ((refine' Word.useK (take_word _ _ _ _ _ _ _ _ _ ?v1 ?v2 ?v3 ?v4 ?v5) take_word_k ?u1 ?u2 ?u3 ?u4 ?u5 ?u6 ?u7 ?u8 ?u9 ?u10 ?_); k_extra "uc"; (case v1 => k_extra "side"); (case v2 => k_extra "side"); (case v3 => k_extra "side"); (case v4 => k_extra "side"); (case v5 => k_extra "side"); k_call_by "used" 0)))
  k_with "call ref" => (guard_hyp mk_rr_word : Mk; (k_here; (with_reducible show wpAny _ _ (call (Value.ref 212) _) _ _ _); k_dflt ((refine' Word.useK (one_word _ _ _ _ _ _ _ _ _ _ _ ?w1 ?v2 ?v3 ?v4 ?v5 ?v6 ?v7) one_word_k ?u1 ?u2 ?u3 ?u4 ?u5 ?u6 ?u7 ?u8 ?u9 ?u10 ?_); k_extra "uc"; (case w1 => k_extra "side"); (case v2 => k_extra "side"); (case v3 => k_extra "side"); (case v4 => k_extra "side"); (case v5 => k_extra "side"); (case v6 => k_extra "side"); (case v7 => k_extra "side"); k_call_by "used" 0)))
  k_with "apart" => (guard_hyp mk_rr_word : Mk; (with_reducible show apartN _ _; first | assumption | exact apartN_lt (by assumption) | exact apartN_lt (r1 (by assumption)) | exact apartN_lt (r2 (by assumption)) | exact apartN_lt (r3 (by assumption)) | exact apartN_lt (r4 (by assumption)) | exact apartN_lt (r5 (by assumption)) | exact apartN_lt (r6 (by assumption)) | exact apartN_lt (r7 (by assumption)) | exact apartN_lt (r8 (by assumption)) | exact apartN_lt (r9 (by assumption)) | exact apartN_lt (r10 (by assumption)) | exact apartN_lt (r11 (by assumption)) | exact apartN_lt (r12 (by assumption)) | exact apartN_lt (r13 (by assumption)) | exact apartN_lt (r14 (by assumption)) | exact apartN_lt (r15 (by assumption)) | exact apartN_lt (r16 (by assumption)) | exact r1 (by assumption) | exact r2 (by assumption) | exact r3 (by assumption) | exact r4 (by assumption) | exact r5 (by assumption) | exact r6 (by assumption) | exact r7 (by assumption) | exact r8 (by assumption) | exact r9 (by assumption) | exact r10 (by assumption) | exact r11 (by assumption) | exact r12 (by assumption) | exact r13 (by assumption) | exact r14 (by assumption) | exact r15 (by assumption) | exact r16 (by assumption)))
  k_fill
  intro loose mean mg mb dp un gd cn cs ad ccd A₀ base h₀ L m s Q E CH XB TB B F X N T hk hdp hun hret
  refine wpAny_call ?_
  (refine' enterZ (binds := [("source", .ref src)]) ?k1 ?k2 ?k3 ?k4 ?k5 ?kA ?k6 ?k7 ?k8 ?k9 ?kB ?_ ?cK ?c2 ?c3 ?c4 ?c5; (case kA => exact rfl); (case k2 => k_asm); (case k1 => k_asm); (case k3 => k_asm); (case k4 => k_asm); (case k5 => k_asm); (case k6 => k_is); (case k7 => k_is); (case k8 => ktr_room); (case k9 => exact BindsTo.of_eq rfl); (case kB => exact locs rfl); (case cK => assumption); (case c2 => exact rfl); (case c3 => exact rfl); (case c4 => exact rfl); (case c5 => decide); k_whole)
  intro g' L' h' F' N' B' X' T' D' l1 hst
  try dsimp only
  k_lt l1
  repeat' (first | ((fail_if_success (with_reducible show wpAny _ _ (binaryOp Operator.Mult (Value.ref _) (Value.int _ _)) _ _ _)); first | (k_unfold; (try dsimp only)) | (k_end; kc_close) | walk1 | (dsimp only; walk1) | (leave1; walk_say "STEP leave1"; (try dsimp only)) | fail "no step") | fail "no step")
  rename (_ = (0 : Int) ∨ _) => hmany
  rename (_ = (65536 : Int) ∨ _) => htime
  have hm0 := (many_ok _ hmany).1
  have hm1 := (many_ok _ hmany).2.1
  have hm2 := (many_ok _ hmany).2.2
  replace htime := tm_bad _ htime
  clear hmany
  refine tup_rep (by k_asm) (by k_asm) (by k_mem) hm0 hm1 ?_
  intro D1 h10 n10 F10 N10 l10
  have q10 : Ap D1 233 := ⟨off_or (o := tabObj ps) l10 (by k_mem) (by omega)⟩
  try dsimp only
  repeat' (first | ((fail_if_success (with_reducible show wpAny _ _ (binaryOp Operator.Mult (Value.ref _) (Value.int _ _)) _ _ _)); first | (k_unfold; (try dsimp only)) | (k_end; kc_close) | walk1 | (dsimp only; walk1) | (leave1; walk_say "STEP leave1"; (try dsimp only)) | fail "no step") | fail "no step")
  refine tup_rep (by k_asm) (by k_asm) (by k_mem) (by omega) (by omega) ?_
  intro D2 h11 n11 F11 N11 l11
  have q11 : Ap D2 233 := ⟨off_or (o := tabObj ps) l11 (by k_mem) (by omega)⟩
  try dsimp only
  repeat' (first | ((fail_if_success (with_reducible show wpAny _ _ (binaryOp Operator.Add (Value.ref _) (Value.ref _)) _ _ _)); first | (k_unfold; (try dsimp only)) | (k_end; kc_close) | walk1 | (dsimp only; walk1) | (leave1; walk_say "STEP leave1"; (try dsimp only)) | fail "no step") | fail "no step")
  refine tup_add (by k_asm) (by k_asm) (by k_mem) (by k_mem) (by simp only [List.length_replicate, List.length_cons, List.length_nil]; omega) ?_
  intro D3 h12 n12 F12 N12 l12
  have q12 : Ap D3 233 := ⟨off_or3 (o := tabObj ps) l12 (by k_mem) (by first | exact Ap.ne (by assumption) | omega) (by first | exact Ap.ne (by assumption) | omega)⟩
  try dsimp only
  repeat' (first | ((fail_if_success (with_reducible show wpAny _ _ (binaryOp Operator.Mult (Value.ref _) (Value.int _ _)) _ _ _)); first | (k_unfold; (try dsimp only)) | (k_end; kc_close) | walk1 | (dsimp only; walk1) | (leave1; walk_say "STEP leave1"; (try dsimp only)) | fail "no step") | fail "no step")
  refine tup_rep (by k_asm) (by k_asm) (by k_mem) (by omega) (by omega) ?_
  intro D4 h13 n13 F13 N13 l13
  have q13 : Ap D4 233 := ⟨off_or (o := tabObj ps) l13 (by k_mem) (by omega)⟩
  try dsimp only
  repeat' (first | ((fail_if_success (with_reducible show wpAny _ _ (binaryOp Operator.Add (Value.ref _) (Value.ref _)) _ _ _)); first | (k_unfold; (try dsimp only)) | (k_end; kc_close) | walk1 | (dsimp only; walk1) | (leave1; walk_say "STEP leave1"; (try dsimp only)) | fail "no step") | fail "no step")
  refine tup_add (by k_asm) (by k_asm) (by k_mem) (by k_mem) (by simp only [List.length_append, List.length_replicate, List.length_cons, List.length_nil]; omega) ?_
  intro D5 h14 n14 F14 N14 l14
  have q14 : Ap D5 233 := ⟨off_or3 (o := tabObj ps) l14 (by k_mem) (by first | exact Ap.ne (by assumption) | omega) (by first | exact Ap.ne (by assumption) | omega)⟩
  try dsimp only
  repeat' (first | ((fail_if_success (with_reducible show wpAny _ _ (eval (Expr.ListComp _ _ _ _) _) _ _ _)); first | (k_unfold; (try dsimp only)) | (k_end; kc_close) | walk1 | (dsimp only; walk1) | (leave1; walk_say "STEP leave1"; (try dsimp only)) | fail "no step") | fail "no step")
  refine eval_cell_comp (w := w) (by intro _; rfl) ?_
  repeat' (first | ((fail_if_success (with_reducible show CompAt _ _ _ _ _ _ _ _)); first | (k_unfold; (try dsimp only)) | (k_end; kc_close) | walk1 | (dsimp only; walk1) | (leave1; walk_say "STEP leave1"; (try dsimp only)) | fail "no step") | fail "no step")
  unfold CompAt
  rename News g' _ _ _ => N20
  rename Fr g' _ _ _ => F20
  refine' comp_block (codes₁ := codes) (ps₁ := ps) (qual := rrQual) B' F20 X' (news_rem N20 ?R ?hc) ?hP T' XB TB D' KtsTurn.refl rfl (by ktr_room) (by ktr_units) CH hT rfl (fun _ => rfl) (vs := [.ref D1, .ref _, .ref D5]) ?hTL ?hLc ?hLd ?rows ?fin
  case R => repeat (first | exact Rem.head | apply Rem.tail)
  case hTL => exact .head _
  case hLc => rfl
  case hLd => rfl
  case hc =>
    intro q hq
    repeat (first | exact hq | apply List.mem_cons_of_mem)
  case hP =>
    refine apartN_mem (apartN_app hc ?_)
    clear l10 l11 l12 l13 l14
    simp only [apartN, and_true]
    refine ⟨?_, ?_, ?_, ?_, ?_, ?_, ?_, ?_, ?_, ?_, ?_, ?_, ?_, ?_, ?_, ?_, hc⟩ <;> first | exact (Ap.ne (by assumption)).symm | omega
  case rows =>
    intro i v hv
    rcases i with _ | _ | _ | i
    · cases hv
      exact ⟨_, _, rfl, by k_mem, rowL w _ _ _ _ _ _ _ _ _ (by rw [List.length_replicate]; exact hm2.1) (by rw [List.length_replicate]; exact hm2.2.1) (by rw [List.length_replicate]; exact hm2.2.2)⟩
    · cases hv
      exact ⟨_, _, rfl, by k_mem, row1 w _ _ _ _ _ _ _ _ _ 0 htime.1 htime.2.1 htime.2.2⟩
    · cases hv
      refine ⟨_, _, rfl, by k_mem, row8' w _ _ _ _ _ _ _ _ _ _ _ _ (by omega) (by omega) htime.1 htime.2.1 htime.2.2⟩
    · exact absurd hv (by simp)
  case fin =>
    intro g2 h2 tk2 ps2 codes2 D20 T2 F2 N2 hP2 hT2 hfr2 hlt2 B2 X2 Tp2 Dd2
    have N3 := news_cut2 (src := src) (ex := 238) (oE := oE) (I := I) (oI := oI) N2 (by repeat (first | exact Rem.head | apply Rem.tail)) (by repeat (first | exact Rem.head | apply Rem.tail)) (by repeat (first | exact Rem.head | apply Rem.tail))
    have hc2 : apartN 233 codes2 := apartN_all fun p hp => hP2 p (List.mem_append_left _ hp)
    have hsc2 : apartN src codes2 := apart_grow hfr2 hsc (.tail _ (Rem.sub (by repeat (first | exact Rem.head | apply Rem.tail))).1)
    have hec2 : apartN 238 codes2 := apart_grow hfr2 hec (.tail _ (Rem.sub (by repeat (first | exact Rem.head | apply Rem.tail))).1)
    have hic2 : apartN I codes2 := apart_grow hfr2 hic (.tail _ (Rem.sub (by repeat (first | exact Rem.head | apply Rem.tail))).1)
    have hsD : Ap src D20 := ⟨ne_of_rem (by repeat (first | exact Rem.head | apply Rem.tail)) hlt2⟩
    have hD233 : Ap D20 233 := ⟨hP2 (D20, lst []) (List.mem_append_right _ (.head _))⟩
    clear N2 hP2 hfr2 hlt2
    try dsimp only
    skip
    repeat' (first | ((fail_if_success (with_reducible show wpAny _ _ (eval (Expr.ListComp _ _ _ _) _) _ _ _)); first | (k_unfold; (try dsimp only)) | (k_end; kc_close) | walk1 | (dsimp only; walk1) | (leave1; walk_say "STEP leave1"; (try dsimp only)) | fail "no step") | fail "no step")
    refine eval_cell_comp (w := w) (by intro _; rfl) ?_
    repeat' (first | ((fail_if_success (with_reducible show CompAt _ _ _ _ _ _ _ _)); first | (k_unfold; (try dsimp only)) | (k_end; kc_close) | walk1 | (dsimp only; walk1) | (leave1; walk_say "STEP leave1"; (try dsimp only)) | fail "no step") | fail "no step")
    unfold CompAt
    rename News g2 _ _ _ => N20
    rename Fr g2 _ _ _ => F20
    rename_i D6 _ _ _
    refine' comp_block (codes₁ := codes2) (ps₁ := ps2) (qual := rrQual) B2 F20 X2 (news_rem N20 ?R ?hc) ?hP Tp2 XB TB Dd2 T2 rfl (by ktr_room) (by ktr_units) CH hT2 rfl (fun _ => rfl) (vs := [.ref _, .ref _, .ref _, .ref _, .ref _, .ref _]) ?hTL ?hLc ?hLd ?rows ?fin
    case R => repeat (first | exact Rem.head | apply Rem.tail)
    case hTL => k_mem
    case hLc => rfl
    case hLd => rfl
    case hc =>
      intro q hq
      repeat (first | exact hq | apply List.mem_cons_of_mem)
    case hP =>
      refine apartN_mem (apartN_app hc2 ?_)
      simp only [apartN, and_true]
      refine ⟨?_, ?_, ?_, ?_, ?_, ?_, ?_, ?_, ?_, ?_, ?_, ?_, hc2⟩ <;> first | exact (Ap.ne (by assumption)).symm | omega
    case rows =>
      intro i v hv
      rcases i with _ | _ | _ | _ | _ | _ | i
      · cases hv
        exact ⟨_, _, rfl, by k_mem, rowB w _ _ _ _ _ _ _ _ _ _ _ _ _ _ _ _ _ _ ⟨0, 0, 0, 0⟩  _ _ _ _ _ _ _ _ _ _ _ 0 (by omega) (by omega) (by omega)⟩
      · cases hv
        exact ⟨_, _, rfl, by k_mem, rowB w _ _ _ _ _ _ _ _ _ _ _ _ _ _ _ _ _ _ ⟨0, 0, 0, 0⟩  _ _ _ _ _ _ _ _ _ _ _ 0 (by omega) (by omega) (by omega)⟩
      · cases hv
        exact ⟨_, _, rfl, by k_mem, rowA w _ _ _ _ _ _ _ _ _ _ _ _ _ _ _ _ _ _ ⟨0, 0, 0, 0⟩  _ _ _ _ _ _ _ _ _ _ _ 0 (by omega) (by omega)⟩
      · cases hv
        exact ⟨_, _, rfl, by k_mem, rowT w _ _ _ _ _ _ _ _ _ _ _ _ _ _ _ _ _ _ ⟨0, 0, 0, 0⟩  _ _ _ _ _ _ _ _ _ _ _ 0 (by omega) (by omega) (by omega) (by omega)⟩
      · cases hv
        exact ⟨_, _, rfl, by k_mem, rowT w _ _ _ _ _ _ _ _ _ _ _ _ _ _ _ _ _ _ ⟨0, 0, 0, 0⟩  _ _ _ _ _ _ _ _ _ _ _ 0 (by omega) (by omega) (by omega) (by omega)⟩
      · cases hv
        exact ⟨_, _, rfl, by k_mem, rowE w _ _ _ _ _ _ _ _ _ _ _ _ _ _ _ _ _ _ ⟨0, 0, 0, 0⟩  _ _ _ _ _ _ _ _ _ _ _ 0 (by omega) (by omega) (by omega) (by omega) (by omega) (by omega) (by omega)⟩
      · exact absurd hv (by simp)
    case fin =>
      intro g3 h3 tk3 ps3 codes3 D30 T3 F3 N3 hP3 hT3 hfr3 hlt3 B3 X3 Tp3 Dd3
      have N4 := news_cut2 (src := src) (ex := 238) (oE := oE) (I := I) (oI := oI) N3 (by repeat (first | exact Rem.head | apply Rem.tail)) (by repeat (first | exact Rem.head | apply Rem.tail)) (by repeat (first | exact Rem.head | apply Rem.tail))
      have hc3 : apartN 233 codes3 := apartN_all fun p hp => hP3 p (List.mem_append_left _ hp)
      have hsc3 : apartN src codes3 := apart_grow hfr3 hsc2 (.tail _ (Rem.sub (by repeat (first | exact Rem.head | apply Rem.tail))).1)
      have hec3 : apartN 238 codes3 := apart_grow hfr3 hec2 (.tail _ (Rem.sub (by repeat (first | exact Rem.head | apply Rem.tail))).1)
      have hic3 : apartN I codes3 := apart_grow hfr3 hic2 (.tail _ (Rem.sub (by repeat (first | exact Rem.head | apply Rem.tail))).1)
      clear N3 hP3 hfr3 hlt3
      try dsimp only
      repeat' (first | ((fail_if_success (with_reducible show LeaveZ _ _ _ _ _ _ _ _ _)); first | (k_unfold; (try dsimp only)) | (k_end; kc_close) | walk1 | (dsimp only; walk1) | (leave1; walk_say "STEP leave1"; (try dsimp only)) | fail "no step") | fail "no step")
      rename News g3 _ _ _ => N30
      rename Fr g3 _ _ _ => F30
      refine ⟨g3, L', _, _, T3, F30, news_sub (l' := (233, tabObj ps3) :: (src, _) :: (238, oE) :: (I, oI) :: codes3) N30 (List.forall_mem_cons.mpr ⟨by k_mem, List.forall_mem_cons.mpr ⟨by k_mem, List.forall_mem_cons.mpr ⟨by k_mem, List.forall_mem_cons.mpr ⟨by k_mem, fun q hq => ?_⟩⟩⟩⟩), fun Fz Nz keep => hret _ _ _ _ Fz Nz keep ⟨_, _, _, _, _, _, _, rfl, rfl, hT3, hc3, hsc3, hec3, hic3, by assumption, by assumption, by assumption⟩⟩
      repeat (first | exact hq | apply List.mem_cons_of_mem)
end

section
open PySem PySem.W PyProof.Rows PySem.Calls PySem.Spec PyProof.Rows.LCg
local macro_rules | `(tactic| k_upd) => `(tactic| first | exact Upd.head (apartN_mem (by assumption)) | (refine' Upd.tail ?a ?b; (case a => first | exact Ap.ne (by assumption) | exact (Ap.ne (by assumption)).symm); (case b => k_upd)))
theorem last_item {prog : Program} {w : World} {A : Around} {E : Value → Shared → Prop} {s : Shared} {value slice : Expr} {h₀ : Heap} {L l : Addr} {arr : Array Value} {n : Nat} {news : Led} {u : Tok} {x : Value} {Q : Value → Shared → Prop}
    (N : News h₀ L s.heap news) (hm : (l, PySem.W.listOf (arr.push x) n) ∈ news) (hz : arr.size ≤ 10) (h : Q x s)
    (hs : subscripted slice false (.ref l) (.int (-1) u) = operate [.ref l, .int (-1) u] (getItem (.ref l) (.int (-1) u)) := by with_unfolding_all rfl) :
    wpAny (model prog w) A (subscriptTail value slice (.ref l) (.int (-1) u)) Q E s := by
  have hl : s.heap.IsList l (arr.push x) := ⟨_, (N _ hm).1, rfl, _, rfl⟩
  refine tail_any hl.typeIs slot_list_getitem.lookup (wpAny_getItem_list_neg hl (by decide) (by rw [Array.size_push]; omega) (by decide) ?_ h) hs
  rw [show ((-1 : Int) + ((arr.push x).size : Int)).toNat = arr.size by rw [Array.size_push]; omega]
  exact Array.getElem?_push_size
/-- the body and the names of the law, read off the written heap -/
noncomputable def lawBody (P : Params) : List Stmt := match (hd.heap_39 P).lookup 241 with
  | some ⟨_, _, .func fd, _⟩ => (match fd.body with | .stmts b => b | _ => [])
  | _ => []
noncomputable def lawScope (P : Params) : Scope := match (hd.heap_39 P).lookup 241 with
  | some ⟨_, _, .func fd, _⟩ => fd.scope
  | _ => default
noncomputable def turnBody (P : Params) : List Stmt := forBody ((forBody ((lawBody P).getD 3 (.Pass default))).getD 2 (.Pass default))
set_option maxHeartbeats 8000000 in
theorem turn_word (w : World) (fa L src lp I2 : Addr) (scope : Scope) (hsc : scope = lawScope w.params) (a b : Int) (ta tb : Tok) (n nl : Nat) (arr : Array Value) (oI2 : Obj) (tail : Led) (loose : List Str) (mean : ExcName → Option Value) (mg mb : Str → Option Value)
    (base : Heap) (m : Str → Option Value) (s : Shared) (Q : Flow → Shared → Prop) (E : Value → Shared → Prop) (hsT : apartN src tail) (hlT : apartN lp tail) (hsl : Ap src lp) (hs2 : Ap src I2) (hl2 : Ap lp I2) (hza : arr.size ≤ 10) (h0a : 0 ≤ a) (h0b : 0 ≤ b) (hb : b < 2147483647)
    (hms : m (Str.ofString "source") = some (.ref src)) (hmp : m (Str.ofString "pauses") = some (.ref lp))
    (BB : Below callerA base [] base) (XB : (hd.heap_39 w.params).In base) (TB : Top topProg loose mean mg mb base) (F : Fr base L s.heap m)
    (N : News base L s.heap ((I2, oI2) :: (lp, PySem.W.listOf arr nl) :: (src, PySem.W.listOf #[.int a ta, .int b tb] n) :: tail))
    (k : ∀ p d T tt vs n' l ks a' b' ta' tb' n2 h' tk' m', Fr base L h' m' → News base L h' ((I2, oI2) :: (lp, PySem.W.listOf (arr.push (.ref p)) (nl + 1)) :: (src, PySem.W.listOf #[.int a' ta', .int b' tb'] n2) :: (p, instObj 101 d) :: (d, pfD w T tt) :: (T, tupO vs n') :: tail) →
      TVs l vs → PL ks l → 0 ≤ a' → 0 ≤ b' → b' < 2147483647 → m' (Str.ofString "source") = some (.ref src) → m' (Str.ofString "pauses") = some (.ref lp) → m' (Str.ofString "script") = m (Str.ofString "script") →
      Ap p src → Ap p lp → Ap p I2 → apartN p tail → Ap d src → Ap d lp → Ap d I2 → apartN d tail → Ap T src → Ap T lp → Ap T I2 → apartN T tail → Q .next { s with heap := h', toks := tk' }) :
    wpAny (model PySem.Challenge.rw_pf0382_01.row.prog w) (callerA.deeper (envOf (Str.ofString "law") scope L fa (.ref 240))) (execs (turnBody w.params) (envOf (Str.ofString "law") scope L fa (.ref 240))) Q E s := by
  revert XB
  have mk_turn_word : Mk := ⟨⟩
  k_with "ite" => (guard_hyp mk_turn_word : Mk; (k_here; first | (with_reducible refine ite_neg (show ¬ (false = true) from Bool.false_ne_true) ?_) | (with_reducible refine ite_pos (show true = true from rfl) ?_)))
  k_with "call ref" => (guard_hyp mk_turn_word : Mk; (k_here; (with_reducible show wpAny _ _ (call (Value.ref 217) _) _ _ _); k_dflt (((refine' Word.useK (pay_word _ _ _ _ _ _ _ ?v1 ?v2 ?v3) pay_word_k ?u1 ?u2 ?u3 ?u4 ?u5 ?u6 ?u7 ?u8 ?u9 ?u10 ?_); k_extra "uc"; (case v1 => k_extra "side"); (case v2 => k_extra "side"); (case v3 => k_extra "side"); k_whole; intro h9 tk9 Z9 F9 R9 T9 B9 tB9 vs9 nR9 nT9 ks9 l9 a9 b9 ta9 tb9 n9 hB9 hp9 hv9 ha0 hb0 hb1 fr1 fr2 N9; (replace fr1 := Z9 _ fr1); (simp only [apartN_ap, apartN_nil, and_true] at fr1); (repeat (obtain ⟨_, fr1⟩ := fr1)); (replace fr2 := Z9 _ fr2); (simp only [apartN_ap, apartN_nil, and_true] at fr2); (repeat (obtain ⟨_, fr2⟩ := fr2)); clear Z9; (try dsimp only [List.cons_append, List.nil_append] at N9); (try dsimp only); (try k_sweep)))))
  k_with "call ref" => (guard_hyp mk_turn_word : Mk; (k_here; (with_reducible show wpAny _ _ (call (Value.ref 115) _) _ _ _); k_dflt (((refine' Word.useK (unp_word _ _ _ _ _ ?v1 ?v2) unp_word_k ?u1 ?u2 ?u3 ?u4 ?u5 ?u6 ?u7 ?u8 ?u9 ?u10 ?_); k_extra "uc"; (case v1 => k_extra "side"); (case v2 => k_extra "side"); k_whole; intro h9 tk9 Z9 F9 p9 d9 T9 tt9 vs9 n9 hv9 fr1 fr2 fr3 N9; (replace fr1 := Z9 _ fr1); (simp only [apartN_ap, apartN_nil, and_true] at fr1); (repeat (obtain ⟨_, fr1⟩ := fr1)); (replace fr2 := Z9 _ fr2); (simp only [apartN_ap, apartN_nil, and_true] at fr2); (repeat (obtain ⟨_, fr2⟩ := fr2)); (replace fr3 := Z9 _ fr3); (simp only [apartN_ap, apartN_nil, and_true] at fr3); (repeat (obtain ⟨_, fr3⟩ := fr3)); clear Z9; (try dsimp only [List.cons_append, List.nil_append] at N9); (try dsimp only); (try k_sweep)))))
  k_with "call ref" => (guard_hyp mk_turn_word : Mk; (k_here; (with_reducible show wpAny _ _ (call (Value.ref 110) _) _ _ _); k_dflt ((refine' Word.useK (packA_word _ _ _ _ _ _ _ _ _ ?v1 ?v2) packA_word_k ?u1 ?u2 ?u3 ?u4 ?u5 ?u6 ?u7 ?u8 ?u9 ?u10 ?_); k_extra "uc"; (case v1 => k_extra "side"); (case v2 => k_extra "side"); k_call_by "used" 0)))
  k_with "compareOp NotEq ref ref" => (guard_hyp mk_turn_word : Mk; (k_here; (with_reducible show wpAny _ _ (compareOp .NotEq (Value.ref _) (Value.ref _)) _ _ _); k_dflt (refine tvs_ne (by k_asm) (by k_mem) (by k_mem) (by assumption) (by assumption) (by ktr_units) ?_)))
  k_with "subscriptTail" => (guard_hyp mk_turn_word : Mk; (k_here; (with_reducible show wpAny _ _ (subscriptTail _ _ (Value.ref _) (Value.int _ _)) _ _ _); k_dflt (refine' last_item ?z9F ?z9m ?z9z ?_; (case z9F => k_asm); (case z9m => k_mem); (case z9z => assumption))))
  k_with "apart" => (guard_hyp mk_turn_word : Mk; (with_reducible show apartN _ _; first | assumption | exact apartN_lt (by assumption) | exact apartN_lt (r1 (by assumption)) | exact apartN_lt (r2 (by assumption)) | exact apartN_lt (r3 (by assumption)) | exact apartN_lt (r4 (by assumption)) | exact apartN_lt (r5 (by assumption)) | exact apartN_lt (r6 (by assumption)) | exact apartN_lt (r7 (by assumption)) | exact apartN_lt (r8 (by assumption)) | exact apartN_lt (r9 (by assumption)) | exact apartN_lt (r10 (by assumption)) | exact apartN_lt (r11 (by assumption)) | exact apartN_lt (r12 (by assumption)) | exact apartN_lt (r13 (by assumption)) | exact apartN_lt (r14 (by assumption)) | exact apartN_lt (r15 (by assumption)) | exact apartN_lt (r16 (by assumption)) | exact r1 (by assumption) | exact r2 (by assumption) | exact r3 (by assumption) | exact r4 (by assumption) | exact r5 (by assumption) | exact r6 (by assumption) | exact r7 (by assumption) | exact r8 (by assumption) | exact r9 (by assumption) | exact r10 (by assumption) | exact r11 (by assumption) | exact r12 (by assumption) | exact r13 (by assumption) | exact r14 (by assumption) | exact r15 (by assumption) | exact r16 (by assumption)))
  k_fill
  intro XB
  have hsc' : scope = { kind := _, names := _, isGenerator := _, isCoroutine := _, more := _ } := hsc
  clear hsc
  subst hsc'
  show wpAny _ _ (execs (_ :: _ :: _ :: []) _) _ _ _
  obtain ⟨hx, gx, dx, tx, osx⟩ := s
  dsimp only at F N
  try dsimp only
  rw [m_put hms] at F
  rw [m_put hmp] at F
  repeat' (first | ((fail_if_success (with_reducible show Q _ _)); first | (k_unfold; (try dsimp only)) | (k_end; kc_close) | walk1 | (dsimp only; walk1) | (leave1; walk_say "STEP leave1"; (try dsimp only)) | fail "no step") | fail "no step")
  rename News base L _ _ => N9
  rename Fr base L _ _ => F9
  refine k _ _ _ _ _ _ _ _ _ _ _ _ _ _ _ _ F9 (news_sub N9 (List.forall_mem_cons.mpr ⟨by k_mem, List.forall_mem_cons.mpr ⟨by k_mem, List.forall_mem_cons.mpr ⟨by k_mem, List.forall_mem_cons.mpr ⟨by k_mem, List.forall_mem_cons.mpr ⟨by k_mem, List.forall_mem_cons.mpr ⟨by k_mem, fun q hq => ?_⟩⟩⟩⟩⟩⟩)) (by assumption) (by assumption) (by assumption) (by assumption) (by assumption) rfl rfl rfl (by assumption) (by assumption) (by assumption) (by assumption) (by assumption) (by assumption) (by assumption) (by assumption) (by assumption) (by assumption) (by assumption) (by assumption)
  repeat (first | exact hq | apply List.mem_cons_of_mem)
end

section
open PySem PySem.W PyProof.Rows PySem.Calls PySem.Spec PyProof.Rows.LCg
theorem ap_cls {h₀ h : Heap} {L a b : Addr} {o o' : Obj} {news : Led} (N : News h₀ L h news) (h1 : ((a : Addr), o) ∈ news) (h2 : ((b : Addr), o') ∈ news) (hc : o.cls ≠ o'.cls) : Ap a b := ⟨fun e => hc (by
  have e1 := (N _ h1).1
  have e2 := (N _ h2).1
  have e' : a = b := e
  subst e'
  exact congrArg Obj.cls (Option.some.inj (e1.symm.trans e2)))⟩
theorem apart4 {a b c d : Nat} {ob oc od : Obj} {l : Led} (h : apartN a (((b : Addr), ob) :: ((c : Addr), oc) :: ((d : Addr), od) :: l)) : Ap a b ∧ Ap a c ∧ Ap a d ∧ apartN a l := ⟨⟨h.1⟩, ⟨h.2.1⟩, ⟨h.2.2.1⟩, h.2.2.2⟩
noncomputable def roundBody (P : Params) : List Stmt := forBody ((lawBody P).getD 3 (.Pass default))
set_option maxHeartbeats 8000000 in
theorem round_word (w : World) (fa L sc I : Addr) (scope : Scope) (hscp : scope = lawScope w.params) (vs : List Value) (ns : List Int) (kk : Int) (t : Tok) (oI oE : Obj) (ps : Array Value) (codes : Led) (loose : List Str) (mean : ExcName → Option Value) (mg mb : Str → Option Value)
    (base : Heap) (m : Str → Option Value) (s : Shared) (Q : Flow → Shared → Prop) (hvi : IntsAre vs ns) (hns : ns.length ≤ 63) (hk0 : 0 ≤ kk) (hk1 : kk ≤ 1) (hT : Tab rrQual ps codes) (hc : apartN 233 codes) (hec : apartN 238 codes) (hic : apartN I codes) (hI3 : Ap I 233) (hI8 : Ap I 238)
    (hmk : m (Str.ofString "k") = some (.int kk t)) (hms : m (Str.ofString "script") = some (.ref sc)) (lifted : base.IsList sc vs.toArray) (CH : CodeHd base 235 233)
    (BB : Below callerA base [] base) (XB : (hd.heap_39 w.params).In base) (TB : Top topProg loose mean mg mb base) (F : Fr base L s.heap m) (N : News base L s.heap ((I, oI) :: (233, tabObj ps) :: (238, oE) :: codes))
    (k : ∀ ps' codes' h' tk' m', Fr base L h' m' → News base L h' ((I, oI) :: (233, tabObj ps') :: (238, oE) :: codes') → Tab rrQual ps' codes' → apartN 233 codes' → apartN 238 codes' → apartN I codes' → m' (Str.ofString "script") = some (.ref sc) → Q .next { s with heap := h', toks := tk' }) :
    wpAny (model PySem.Challenge.rw_pf0382_01.row.prog w) (callerA.deeper (envOf (Str.ofString "law") scope L fa (.ref 240))) (execs (roundBody w.params) (envOf (Str.ofString "law") scope L fa (.ref 240))) Q (fun _ _ => False) s := by
  revert XB
  have mk_round_word : Mk := ⟨⟩
  k_with "ite" => (guard_hyp mk_round_word : Mk; (k_here; first | (with_reducible refine ite_neg (show ¬ (false = true) from Bool.false_ne_true) ?_) | (with_reducible refine ite_pos (show true = true from rfl) ?_)))
  k_with "apart" => (guard_hyp mk_round_word : Mk; (with_reducible show apartN _ _; first | assumption | exact apartN_lt (by assumption) | exact apartN_lt (r1 (by assumption)) | exact apartN_lt (r2 (by assumption)) | exact apartN_lt (r3 (by assumption)) | exact apartN_lt (r4 (by assumption)) | exact apartN_lt (r5 (by assumption)) | exact apartN_lt (r6 (by assumption)) | exact apartN_lt (r7 (by assumption)) | exact apartN_lt (r8 (by assumption)) | exact apartN_lt (r9 (by assumption)) | exact apartN_lt (r10 (by assumption)) | exact apartN_lt (r11 (by assumption)) | exact apartN_lt (r12 (by assumption)) | exact apartN_lt (r13 (by assumption)) | exact apartN_lt (r14 (by assumption)) | exact apartN_lt (r15 (by assumption)) | exact apartN_lt (r16 (by assumption)) | exact r1 (by assumption) | exact r2 (by assumption) | exact r3 (by assumption) | exact r4 (by assumption) | exact r5 (by assumption) | exact r6 (by assumption) | exact r7 (by assumption) | exact r8 (by assumption) | exact r9 (by assumption) | exact r10 (by assumption) | exact r11 (by assumption) | exact r12 (by assumption) | exact r13 (by assumption) | exact r14 (by assumption) | exact r15 (by assumption) | exact r16 (by assumption)))
  k_fill
  intro XB
  have hsc' : scope = { kind := _, names := _, isGenerator := _, isCoroutine := _, more := _ } := hscp
  clear hscp
  subst hsc'
  show wpAny _ _ (execs (_ :: _ :: _ :: _ :: []) _) _ _ _
  obtain ⟨hx, gx, dx, tx, osx⟩ := s
  dsimp only at F N
  try dsimp only
  rw [m_put hmk] at F
  rw [m_put hms] at F
  repeat' (first | ((fail_if_success (with_reducible show wpAny _ _ (call (Value.ref 198) _) _ _ _)); first | (k_unfold; (try dsimp only)) | (k_end; kc_close) | walk1 | (dsimp only; walk1) | (leave1; walk_say "STEP leave1"; (try dsimp only)) | fail "no step") | fail "no step")
  refine WordH.at (pool_word w sc _ _ vs ns hvi hk0 hk1 hns) lifted BB F XB N TB rfl .nil True.intro (by ktr_room) (by ktr_units) ?_
  rintro r own' h2 tk2 F2 N2 fr ⟨src, a, b, ta, tb, nn, rfl, rfl, ha0, hb0, hb1, hfs⟩
  obtain ⟨hsI, hs3, hs8, hsc⟩ := apart4 (fr _ hfs)
  clear fr F N
  simp only [List.cons_append, List.nil_append] at N2
  try dsimp only
  repeat' (first | ((fail_if_success (with_reducible show wpAny _ _ (exec (Stmt.For _ _ _ _ _) _) _ _ _)); first | (k_unfold; (try dsimp only)) | (k_end; kc_close) | walk1 | (dsimp only; walk1) | (leave1; walk_say "STEP leave1"; (try dsimp only)) | fail "no step") | fail "no step")
  rename Fr base _ _ _ => F3
  (with_unfolding_all refine' For_invVF (hE := PassesOwn.never) F3 ?k1 ?k2 ?_; (case k1 => exact rfl); (case k2 => exact rfl); k_whole)
  repeat' (first | ((fail_if_success (with_reducible show wpAny _ _ (pyIter (Value.ref _)) _ _ _)); first | (k_unfold; (try dsimp only)) | (k_end; kc_close) | walk1 | (dsimp only; walk1) | (leave1; walk_say "STEP leave1"; (try dsimp only)) | fail "no step") | fail "no step")
  rename_i lp _ llp _ _ _ _ _ _ _ _ hR2 FR2 NR2 KR2
  have hsl : Ap src lp := ⟨Nat.ne_of_lt llp.1⟩
  have hlI : Ap lp I := ⟨Nat.ne_of_gt llp.2.1⟩
  have hl3 : Ap lp 233 := ⟨Nat.ne_of_gt llp.2.2.1⟩
  have hl8 : Ap lp 238 := ⟨Nat.ne_of_gt llp.2.2.2.1⟩
  have hlc : apartN lp codes := apartN_lt llp.2.2.2.2
  with_unfolding_all refine iter_rangeUnr (n := 2) (by rfl) hR2 (by decide) (by decide) FR2 NR2 ?_
  intro I2 lI2
  have hs2 : Ap src I2 := ⟨Nat.ne_of_lt (lI2 (src, _) (.tail _ (.head _)))⟩
  have hl2 : Ap lp I2 := ⟨Nat.ne_of_lt (lI2 (lp, _) (.head _))⟩
  have ht2 : ∀ q ∈ (I, oI) :: (233, tabObj ps) :: (238, oE) :: codes, q.1 ≠ I2 := fun q hq => Nat.ne_of_lt (lI2 q (.tail _ (.tail _ hq)))
  have hsT : apartN src ((I, oI) :: (233, tabObj ps) :: (238, oE) :: codes) := ⟨hsI.ne, hs3.ne, hs8.ne, hsc⟩
  have hlT : apartN lp ((I, oI) :: (233, tabObj ps) :: (238, oE) :: codes) := ⟨hlI.ne, hl3.ne, hl8.ne, hlc⟩
  refine RangeRest.succ (fun t4 h4 tk4 F4 N4 => ?_)
  change Fr base L h4 _ at F4
  change News base L h4 _ at N4
  refine turn_word w fa L src lp I2 _ rfl _ _ _ _ _ _ #[] _ _ _ _ _ _ base _ _ _ _ hsT hlT hsl hs2 hl2 (by decide) ha0 hb0 hb1 rfl rfl BB XB TB F4 N4 ?_
  intro p1 d1 T1 tt1 vs1 n1 l1 ks1 a1 b1 ta1 tb1 nn1 h5 tk5 m5 F5 N5 hv1 hp1 ha1 hb1' hb1'' hm5s hm5p hm5c q1 q2 q3 q4 q5 q6 q7 q8 q9 q10 q11 q12
  dsimp only [UnrPost]
  refine UnrEnd.intro F5 N5 _ (fun q hq => hq) (List.forall_mem_cons.mpr ⟨hl2.ne, List.forall_mem_cons.mpr ⟨hs2.ne, List.forall_mem_cons.mpr ⟨q3.ne, List.forall_mem_cons.mpr ⟨q7.ne, List.forall_mem_cons.mpr ⟨q11.ne, ht2⟩⟩⟩⟩⟩) ?_
  refine RangeRest.succ (fun t6 h6 tk6 F6 N6 => ?_)
  change Fr base L h6 _ at F6
  change News base L h6 _ at N6
  refine turn_word w fa L src lp I2 _ rfl _ _ _ _ _ _ _ _ _ _ _ _ _ base _ _ _ _ (show apartN src ((p1, _) :: (d1, _) :: (T1, _) :: _) from ⟨q1.symm.ne, q5.symm.ne, q9.symm.ne, hsT⟩) ⟨q2.symm.ne, q6.symm.ne, q10.symm.ne, hlT⟩ hsl hs2 hl2 (Nat.le_of_ble_eq_true rfl) ha1 hb1' hb1'' (by exact hm5s) (by exact hm5p) BB XB TB F6 N6 ?_
  intro p2 d2 T2 tt2 vs2 n2 l2 ks2 a2 b2 ta2 tb2 nn2 h7 tk7 m7 F7 N7 hv2 hp2 ha2 hb2 hb2' hm7s hm7p hm7c r1 r2 r3 r4 r5 r6 r7 r8 r9 r10 r11 r12
  dsimp only [UnrPost]
  refine UnrEnd.intro F7 N7 _ (fun q hq => hq) (List.forall_mem_cons.mpr ⟨hl2.ne, List.forall_mem_cons.mpr ⟨hs2.ne, List.forall_mem_cons.mpr ⟨r3.ne, List.forall_mem_cons.mpr ⟨r7.ne, List.forall_mem_cons.mpr ⟨r11.ne, List.forall_mem_cons.mpr ⟨q3.ne, List.forall_mem_cons.mpr ⟨q7.ne, List.forall_mem_cons.mpr ⟨q11.ne, ht2⟩⟩⟩⟩⟩⟩⟩⟩) ?_
  refine RangeRest.zero (fun h8 tk8 F8 N8 => ?_)
  change Fr base L h8 _ at F8
  change News base L h8 _ at N8
  replace N8 := news_sub (l' := (src, PySem.W.listOf #[.int a2 ta2, .int b2 tb2] nn2) :: (p1, instObj 101 d1) :: (d1, pfD w T1 tt1) :: (T1, tupO vs1 n1) :: (p2, instObj 101 d2) :: (d2, pfD w T2 tt2) :: (T2, tupO vs2 n2) :: (lp, PySem.W.listOf #[.ref p1, .ref p2] 2) :: (I, oI) :: (233, tabObj ps) :: (238, oE) :: codes) N8 (by repeat (first | exact List.forall_mem_nil _ | refine List.forall_mem_cons.mpr ⟨by k_mem, ?_⟩ | (intro q hq; repeat (first | exact hq | apply List.mem_cons_of_mem))))
  have x1 : Ap p1 d1 := ap_cls N8 (.tail _ (.head _)) (.tail _ (.tail _ (.head _))) (by simp [instObj, dictOf])
  have x2 : Ap p1 T1 := ap_cls N8 (.tail _ (.head _)) (.tail _ (.tail _ (.tail _ (.head _)))) (by simp [instObj])
  have x3 : Ap d1 T1 := ap_cls N8 (.tail _ (.tail _ (.head _))) (.tail _ (.tail _ (.tail _ (.head _)))) (by simp [dictOf])
  have x4 : Ap p2 d2 := ap_cls N8 (.tail _ (.tail _ (.tail _ (.tail _ (.head _))))) (.tail _ (.tail _ (.tail _ (.tail _ (.tail _ (.head _)))))) (by simp [instObj, dictOf])
  have x5 : Ap p2 T2 := ap_cls N8 (.tail _ (.tail _ (.tail _ (.tail _ (.head _))))) (.tail _ (.tail _ (.tail _ (.tail _ (.tail _ (.tail _ (.head _))))))) (by simp [instObj])
  have x6 : Ap d2 T2 := ap_cls N8 (.tail _ (.tail _ (.tail _ (.tail _ (.tail _ (.head _)))))) (.tail _ (.tail _ (.tail _ (.tail _ (.tail _ (.tail _ (.head _))))))) (by simp [dictOf])
  obtain ⟨y1, y2, y3, y4⟩ := apart4 q4
  obtain ⟨y5, y6, y7, y8⟩ := apart4 q8
  obtain ⟨y9, y10, y11, y12⟩ := apart4 q12
  obtain ⟨z1, z2, z3, z4⟩ := apart4 r4
  obtain ⟨z5, z6, z7, z8⟩ := apart4 r8
  obtain ⟨z9, z10, z11, z12⟩ := apart4 r12
  obtain ⟨z13, z14, z15, z16⟩ := apart4 z4
  obtain ⟨z17, z18, z19, z20⟩ := apart4 z8
  obtain ⟨z21, z22, z23, z24⟩ := apart4 z12
  have hDA : DistA [src, p1, d1, T1, p2, d2, T2] := by
    simp only [DistA, neAll, and_true]
    (repeat' apply And.intro) <;> first | assumption | (apply Ap.symm; assumption)
  clear F7 N7 F6 N6 F5 N5 F4 N4 FR2 NR2 KR2 hR2 lI2 ht2
  have hm7c' : m7 (Str.ofString "script") = some (.ref sc) := by rw [hm7c]; exact hm5c
  rw [m_put hm7s] at F8
  rw [m_put hm7p] at F8
  rw [m_put hm7c'] at F8
  try dsimp only
  repeat' (first | ((fail_if_success (with_reducible show wpAny _ _ (call (Value.ref 224) _) _ _ _)); first | (k_unfold; (try dsimp only)) | (k_end; kc_close) | walk1 | (dsimp only; walk1) | (leave1; walk_say "STEP leave1"; (try dsimp only)) | fail "no step") | fail "no step")
  ((refine' Word.useK (hr_word w src p1 d1 T1 p2 d2 T2 a2 b2 ta2 tb2 tt1 tt2 nn2 n1 n2 vs1 vs2 l1 l2 ha2 hb2 hb2' hv1 hv2 (pl_len hp1) (pl_len hp2) (pl_range hp1) (pl_range hp2) hDA) hr_word_k ?u1 ?u2 ?u3 ?u4 ?u5 ?u6 ?u7 ?u8 ?u9 ?u10 ?_); k_extra "uc";  k_whole; intro h9 tk9 Z9 F9 a3 b3 ta3 tb3 nn3 ha3 hb3 hb3' N9;  clear Z9; (try dsimp only [List.cons_append, List.nil_append] at N9); (try dsimp only); (try k_sweep))
  replace N9 := news_sub (l' := (233, tabObj ps) :: (src, PySem.W.listOf #[.int a3 ta3, .int b3 tb3] nn3) :: (238, oE) :: (I, oI) :: codes) N9 (by repeat (first | exact List.forall_mem_nil _ | refine List.forall_mem_cons.mpr ⟨by k_mem, ?_⟩ | (intro q hq; repeat (first | exact hq | apply List.mem_cons_of_mem))))
  repeat' (first | ((fail_if_success (with_reducible show wpAny _ _ (call (Value.ref 236) _) _ _ _)); first | (k_unfold; (try dsimp only)) | (k_end; kc_close) | walk1 | (dsimp only; walk1) | (leave1; walk_say "STEP leave1"; (try dsimp only)) | fail "no step") | fail "no step")
  refine rr_word w src a3 b3 ta3 tb3 nn3 ha3 hb3 hb3' ps codes hT hc hsc hs3 oE hec hs8 I oI hic hsI hI3 _ _ _ _ _ _ _ _ _ _ _ _ base base _ _ _ _ _ CH XB TB BB F9 XB N9 TB rfl (by ktr_room) (by ktr_units) ?_
  rintro r4 own4 h10 tk10 F10 N10 keep ⟨ps4, codes4, a4, b4, ta4, tb4, nn4, rfl, rfl, hT4, hc4, hsc4, hec4, hic4, hh1, hh2, hh3⟩
  clear keep
  try dsimp only
  repeat' (first | ((fail_if_success (with_reducible show Q _ _)); first | (k_unfold; (try dsimp only)) | (k_end; kc_close) | walk1 | (dsimp only; walk1) | (leave1; walk_say "STEP leave1"; (try dsimp only)) | fail "no step") | fail "no step")
  rename Fr base L _ _ => F11
  rename News base L _ _ => N11
  refine k _ _ _ _ _ F11 (news_sub N11 (List.forall_mem_cons.mpr ⟨by k_mem, List.forall_mem_cons.mpr ⟨by k_mem, List.forall_mem_cons.mpr ⟨by k_mem, fun q hq => ?_⟩⟩⟩)) hT4 hc4 hec4 hic4 rfl
  repeat (first | exact hq | apply List.mem_cons_of_mem)
end

section
open PySem PySem.W PyProof.Rows PySem.Calls PySem.Spec PyProof.Rows.LCg
theorem in_rep (v : Int) (n : Nat) (h : 0 ≤ v ∧ v ≤ 255) : KBa.In (List.replicate n [v]).flatten := fun q hq => by
  obtain ⟨l, hl, hq⟩ := List.mem_flatten.mp hq
  rw [List.eq_of_mem_replicate hl] at hq
  rw [List.mem_singleton.mp hq]; omega
theorem told_tvs (t : Tok) : TVs [none, some 5, none, none, none, none, none, none] ([Value.none, Value.int 5 t] ++ List.replicate (Int.toNat 6) Value.none) :=
  ⟨_, _, rfl, rfl, _, _, rfl, ⟨t, rfl⟩, _, _, rfl, rfl, _, _, rfl, rfl, _, _, rfl, rfl, _, _, rfl, rfl, _, _, rfl, rfl, _, _, rfl, rfl, rfl⟩
theorem told_pl : PL ([1, 1, 0, 2, 9, 9, 0, 5] ++ (List.replicate 14 [(9 : Int)]).flatten) [none, some 5, none, none, none, none, none, none] := by
  refine .inr ⟨by decide, by decide, rfl, rfl, rfl, by decide, ?_, by decide⟩
  intro t ht
  simp only [List.mem_cons, Option.some.injEq, reduceCtorEq, List.not_mem_nil, or_false, false_or] at ht
  omega
/-- one or two (said so that the walk does not part the ways) -/
structure Two (i : Int) : Prop where
  lo : 1 ≤ i
  hi : i ≤ 2
theorem cut12 {M : Model} {A : Around} {x : Sem Value} {Q : Value → Shared → Prop} {E : Value → Shared → Prop} {s : Shared} {base h₁ h₂ : Heap} {L : Addr} {m : Str → Option Value} {news : Led} (_ : Fr base L h₁ m) (_ : News base L h₂ news)
    (h : wpAny M A x (fun v s' => ∃ i t h' tk, v = .int i t ∧ Two i ∧ Fr base L h' m ∧ News base L h' news ∧ s' = { s with heap := h', toks := tk }) E s) (k : ∀ i t h' tk, Two i → Fr base L h' m → News base L h' news → Q (.int i t) { s with heap := h', toks := tk }) : wpAny M A x Q E s :=
  wpAny_mono h (fun v s' ⟨i, t, h', tk, e1, h1, F, N, e2⟩ => by rw [e1, e2]; exact k i t h' tk h1 F N) fun _ _ h => h
set_option maxHeartbeats 8000000 in
theorem law_walks : WalkO hd.view_39 [Str.ofString "PauseAsker"] (XL hd.view_39 []) (kmHook hd.heap_39 hd.addrs hd.addrs_eq [233, 238]).says PySem.Challenge.rw_pf0382_01.row.toRowW hd.law [] fun f vs => call f vs := by
  unfold hd.law hd.nlaw
  dsimp only
  have mk_law_walks : Mk := ⟨⟩
  k_with "ite" => (guard_hyp mk_law_walks : Mk; (k_here; first | (with_reducible refine ite_neg (show ¬ (false = true) from Bool.false_ne_true) ?_) | (with_reducible refine ite_pos (show true = true from rfl) ?_)))
  k_with "call type:bytes" => (guard_hyp mk_law_walks : Mk; (k_here; (with_reducible show wpAny _ _ (call (Value.type "bytes") [Value.ref _]) _ _ _); k_dflt (refine' KBa.make_K ?z9kbaF ?z9kbaN ?z9kbah ?z9kbal ?z9kbai ?z9kbar ?z9kban ?_; (case z9kbaF => k_asm); (case z9kbaN => k_asm); (case z9kbah => rfl); (case z9kbal => first | is_list | kba_isList); (case z9kbai => first | assumption | l_ints | l_intsW); (case z9kbar => first | assumption | exact in_hilo (by omega) (by omega) | exact in_head (by omega) (by omega) | exact in_mask (by omega) (by omega)); (case z9kban => first | omega | kba_size)); intro _ _ _ _ _ _))
  k_go0
  all_goals (try k_fold)
  rename_i w s0 s1 mg mb G Y fa o pm doc kV ho hgn X0 V0 T0 B0 TE0 TW0 hcd ns hs hlay0 hL1 hr1 hl2 w4 w3 sc vs w0 hLx ra w1 r0 hI hr hlen hcond hD h1 XB TB BB F0 CH2 N0 l0
  generalize hg : ghostOf _ _ = base at *
  refine gen_post (fun Q => ∀ h' tk' ps qs m', Fr base s1.heap.objs.size h' m' → News base s1.heap.objs.size h' [(233, tabObj ps), (238, tabObj qs)] → Q (Flow.ret (.bool true)) { s1 with heap := h', toks := tk' }) ?fin ?body
  case fin =>
    intro h' tk' ps qs m' F N
    refine ⟨goodW_bool F hgn (raisesW_false ?_) ?_, GrownAt.of N (.head _), GrownAt.of N (.tail _ (.head _)), True.intro⟩
    · wrow_none_raised
    · wrow_post
  case body =>
  intro Q hret
  replace codeHd : CodeHd base 240 238 := codeHd
  replace CH2 : CodeHd base 235 233 := CH2
  clear hD hcond hr r0 w1 ra hLx w3 w4 w0 hl2 hr1 hL1 hlay0 hs hcd hT9 TW0 TE0 B0 T0 V0 X0 hT8 hgn ho kV doc pm o Y G hg
  try dsimp only
  repeat' (first | ((fail_if_success (with_reducible show wpAny _ _ (call (Value.ref 115) _) _ _ _)); first | (k_unfold; (try dsimp only)) | (k_end; kc_close) | walk1 | (dsimp only; walk1) | (leave1; walk_say "STEP leave1"; (try dsimp only)) | fail "no step") | fail "no step")
  refine' KBa.make_K (by k_asm) (by k_asm) rfl (News.isList (by k_asm) (by k_mem)) (by assumption) (in_rep 9 14 (by omega)) (by decide) ?_
  intro h1 t1 k1 F1 N1 I1
  try dsimp only
  repeat' (first | ((fail_if_success (with_reducible show wpAny _ _ (call (Value.ref 115) _) _ _ _)); first | (k_unfold; (try dsimp only)) | (k_end; kc_close) | walk1 | (dsimp only; walk1) | (leave1; walk_say "STEP leave1"; (try dsimp only)) | fail "no step") | fail "no step")
  ((refine' Word.useK (unp_word _ _ _ ([1, 1, 0, 2, 9, 9, 0, 5] ++ (List.replicate 14 [(9 : Int)]).flatten) _ (by decide +kernel) told_pl) unp_word_k ?u1 ?u2 ?u3 ?u4 ?u5 ?u6 ?u7 ?u8 ?u9 ?u10 ?_); k_extra "uc";  k_whole; intro h9 tk9 Z9 F9 pT dT T9 tt9 vs9 n9 hv9 fr1 fr2 fr3 N9; (replace fr1 := Z9 _ fr1); (try simp only [apartN, and_true] at fr1); (replace fr2 := Z9 _ fr2); (try simp only [apartN, and_true] at fr2); (replace fr3 := Z9 _ fr3); (try simp only [apartN, and_true] at fr3); clear Z9; (try dsimp only [List.cons_append, List.nil_append] at N9); (try dsimp only); (try k_sweep))
  replace N9 := news_sub (l' := [(pT, instObj 101 dT), (dT, pfD _ T9 tt9), (T9, tupO vs9 n9), (233, tabObj #[]), (238, tabObj #[])]) N9 (by repeat (first | exact List.forall_mem_nil _ | refine List.forall_mem_cons.mpr ⟨by k_mem, ?_⟩))
  rename_i z1 z2 z3 z4 z5 z6 z7 z8 z9 z10 z11 z12 z13 z14 z15 z16 z17 z18 z19 z20 z21 z22 z23 z24 z25 z26 z27 z28 z29 z30
  clear fr1 fr2 fr3 I1 z28 z27 z26 z25 z24 z22 z19 z16 z15 z14 z13 z12 z11 z10 z9 z8 z4
  try dsimp only
  repeat' (first | ((fail_if_success (with_reducible show wpAny _ _ (binaryOp Operator.Mult (Value.ref _) (Value.int _ _)) _ _ _)); first | (k_unfold; (try dsimp only)) | (k_end; kc_close) | walk1 | (dsimp only; walk1) | (leave1; walk_say "STEP leave1"; (try dsimp only)) | fail "no step") | fail "no step")
  refine tup_rep (by k_asm) (by k_asm) (by k_mem) (by omega) (by omega) ?_
  intro D1 h10 n10 F10 N10 l10
  have q10 : @Ne Nat D1 233 := off_or (o := tabObj #[]) l10 (by k_mem) (by omega)
  have r10 : @Ne Nat D1 238 := off_or (o := tabObj #[]) l10 (by k_mem) (by omega)
  try dsimp only
  repeat' (first | ((fail_if_success (with_reducible show wpAny _ _ (binaryOp Operator.Add (Value.ref _) (Value.ref _)) _ _ _)); first | (k_unfold; (try dsimp only)) | (k_end; kc_close) | walk1 | (dsimp only; walk1) | (leave1; walk_say "STEP leave1"; (try dsimp only)) | fail "no step") | fail "no step")
  refine tup_add (by k_asm) (by k_asm) (by k_mem) (by k_mem) (by simp only [List.length_replicate, List.length_cons, List.length_nil]; omega) ?_
  intro D2 h11 n11 F11 N11 l11
  try dsimp only
  repeat' (first | ((fail_if_success (with_reducible show wpAny _ _ (compareOp .NotEq (Value.ref _) (Value.ref _)) _ _ _)); first | (k_unfold; (try dsimp only)) | (k_end; kc_close) | walk1 | (dsimp only; walk1) | (leave1; walk_say "STEP leave1"; (try dsimp only)) | fail "no step") | fail "no step")
  refine tvs_ne (l := [none, some 5, none, none, none, none, none, none]) (by k_asm) (by k_mem) (by k_mem) (by assumption) (told_tvs _) (by ktr_units) ?_
  try dsimp only
  repeat' (first | ((fail_if_success (with_reducible show wpAny _ _ (eval (Expr.ListComp _ _ _ _) _) _ _ _)); first | (k_unfold; (try dsimp only)) | (k_end; kc_close) | walk1 | (dsimp only; walk1) | (leave1; walk_say "STEP leave1"; (try dsimp only)) | fail "no step") | fail "no step")
  rename News _ _ _ _ => N9
  replace N9 := news_sub (l' := [(233, tabObj #[]), (238, tabObj #[])]) N9 (by repeat (first | exact List.forall_mem_nil _ | refine List.forall_mem_cons.mpr ⟨by k_mem, ?_⟩))
  clear q10 r10 l10 l11
  refine eval_cell_comp (w := w) (by intro _; rfl) ?_
  repeat' (first | ((fail_if_success (with_reducible show wpAny _ _ (binaryOp Operator.Mult (Value.ref _) (Value.int _ _)) _ _ _)); first | (k_unfold; (try dsimp only)) | (k_end; kc_close) | walk1 | (dsimp only; walk1) | (leave1; walk_say "STEP leave1"; (try dsimp only)) | fail "no step") | fail "no step")
  refine tup_rep (by k_asm) (by k_asm) (by k_mem) (by omega) (by omega) ?_
  intro D1 h10 n10 F10 N10 l10
  have q10 : @Ne Nat D1 233 := off_or (o := tabObj #[]) l10 (by k_mem) (by omega)
  have r10 : @Ne Nat D1 238 := off_or (o := tabObj #[]) l10 (by k_mem) (by omega)
  try dsimp only
  repeat' (first | ((fail_if_success (with_reducible show CompAt _ _ _ _ _ _ _ _)); first | (k_unfold; (try dsimp only)) | (k_end; kc_close) | walk1 | (dsimp only; walk1) | (leave1; walk_say "STEP leave1"; (try dsimp only)) | fail "no step") | fail "no step")
  unfold CompAt
  rename News base _ _ _ => N20
  rename Fr base _ _ _ => F20
  refine' comp_block (outer := []) (codes₁ := []) (ps₁ := #[]) (qual := lawQual) BB F20 XB (news_rem N20 ?R ?hc) ?hP TB XB TB ktsDicts_nil KtsTurn.refl rfl (by ktr_room) (by ktr_units) codeHd (Tab.nil _) rfl (fun _ => rfl) (vs := [.ref _, .ref _, .ref _, .ref D1]) ?hTL ?hLc ?hLd ?rows ?fin
  case R => repeat (first | exact Rem.head | apply Rem.tail)
  case hTL => exact .head _
  case hLc => rfl
  case hLd => rfl
  case hc => intro q hq; cases hq
  case hP =>
    refine apartN_mem ?_
    clear l10
    simp only [List.nil_append, apartN, and_true]
    refine ⟨?_, ?_, ?_, ?_, ?_, ?_, ?_⟩ <;> omega
  case rows =>
    intro i v hv
    rcases i with _ | _ | _ | _ | i
    · cases hv
      exact ⟨_, _, rfl, by k_mem, row1 w _ _ _ _ _ _ _ _ _ 0 (by omega) (by omega) (by omega)⟩
    · cases hv
      exact ⟨_, _, rfl, by k_mem, rowL w _ _ _ _ _ _ _ [.int 1 _, .int 2 _] 0 (by simp) (by simp) (by simp)⟩
    · cases hv
      exact ⟨_, _, rfl, by k_mem, rowL w _ _ _ _ _ _ _ [] 0 (by simp) (by simp) (by simp)⟩
    · cases hv
      exact ⟨_, _, rfl, by k_mem, rowL w _ _ _ _ _ _ _ _ _ (by simp) (by simp) (by simp)⟩
    · exact absurd hv (by simp)
  case fin =>
    intro g2 h2 tk2 qs codes2 D20 T2 F2 N2 hP2 hT2 hfr2 hlt2 B2 X2 Tp2 Dd2
    have hc2 : apartN 238 codes2 := apartN_all fun p hp => hP2 p (List.mem_append_left _ hp)
    have hr2 : apartN 233 codes2 := apart_grow hfr2 True.intro (.tail _ (Rem.sub (by repeat (first | exact Rem.head | apply Rem.tail))).1)
    have N3 := news_cut (src := 233) (news_turn0 N2 T2) (by repeat (first | exact Rem.head | apply Rem.tail))
    have F3 := fr_turn0 F20 F2 T2
    have hD1 : @Ne Nat D20 238 := hP2 (D20, lst []) (List.mem_append_right _ (.head _))
    have hD2 : @Ne Nat D20 233 := (ne_of_rem (by repeat (first | exact Rem.head | apply Rem.tail)) hlt2).symm
    clear N2 F2 hP2 hfr2 hlt2 T2 B2 X2 Tp2 Dd2 l10 F20 N20 q10 r10
    try dsimp only
    repeat' (first | ((fail_if_success (with_reducible show wpAny _ _ (exec (Stmt.For _ _ _ _ _) _) _ _ _)); first | (k_unfold; (try dsimp only)) | (k_end; kc_close) | walk1 | (dsimp only; walk1) | (leave1; walk_say "STEP leave1"; (try dsimp only)) | fail "no step") | fail "no step")
    clear l0
    rename Fr base _ _ _ => F0
    rename News base _ _ _ => N0
    replace N0 := news_sub (l' := [(233, tabObj #[]), (238, tabObj qs)]) N0 (by repeat (first | exact List.forall_mem_nil _ | refine List.forall_mem_cons.mpr ⟨by k_mem, ?_⟩))
    (with_unfolding_all refine' For_invVF F0 ?k1 ?k2 ?_; (case k1 => exact rfl); (case k2 => exact rfl); k_whole)
    repeat' (first | ((fail_if_success (with_reducible show wpAny _ _ (eval (Expr.Call (Expr.Name (Str.ofString "max") _) _ _ _) _) _ _ _)); first | (k_unfold; (try dsimp only)) | (k_end; kc_close) | walk1 | (dsimp only; walk1) | (leave1; walk_say "STEP leave1"; (try dsimp only)) | fail "no step") | fail "no step")
    refine cut12 (by k_asm) (by k_asm) ?c1 ?c2
    case c1 =>
      repeat' (first | ((fail_if_success (with_reducible show Exists _)); first | (k_unfold; (try dsimp only)) | (k_end; kc_close) | walk1 | (dsimp only; walk1) | (leave1; walk_say "STEP leave1"; (try dsimp only)) | fail "no step") | fail "no step")
      all_goals exact ⟨_, _, _, _, rfl, ⟨by omega, by omega⟩, by k_asm, by k_asm, rfl⟩
    case c2 =>
      clear N0
      intro iv it hx0 tk0 hv F1 N1
      repeat' (first | ((fail_if_success (with_reducible show wpAny _ _ (pyIter (Value.ref _)) _ _ _)); first | (k_unfold; (try dsimp only)) | (k_end; kc_close) | walk1 | (dsimp only; walk1) | (leave1; walk_say "STEP leave1"; (try dsimp only)) | fail "no step") | fail "no step")
      rename_i hR FR NR KR
      have hv1 := hv.lo
      have hv2 := hv.hi
      with_unfolding_all refine iter_rangeUnr (n := (iv - 0).toNat) (by rfl) hR (small_one (by omega) (by omega) (by omega) (by omega)) (rangeSize_nat _ _) FR NR ?_
      intro I lI
      refine rangeRest_ind (fun i m news => ∃ ps codes, m (Str.ofString "script") = some (.ref sc) ∧ news = (233, tabObj ps) :: (238, tabObj qs) :: codes ∧ Tab rrQual ps codes ∧ apartN 233 codes ∧ apartN 238 codes ∧ apartN I codes) (iv - 0).toNat ?step ?done _ 0 _ _ (by omega) ⟨_, _, rfl, rfl, Tab.nil _, True.intro, True.intro, True.intro⟩
      case done =>
        rintro m news ⟨ps, codes, hm, e1, hT, hc, hc', hic⟩ h tk F N
        subst e1
        try dsimp only
        k_steps
        exact hret _ _ _ _ _ F (news_sub N (by repeat (first | exact List.forall_mem_nil _ | refine List.forall_mem_cons.mpr ⟨by k_mem, ?_⟩)))
      case step =>
        rintro k i m news hik ⟨ps, codes, hm, e1, hT, hc, hc', hic⟩ ih
        subst e1
        refine RangeRest.succ (fun t' h' tk' F' N' => ?_)
        change Fr base s1.heap.objs.size h' _ at F'
        change News base s1.heap.objs.size h' _ at N'
        have hI3 : Ap I 233 := ⟨Nat.ne_of_gt (lI (233, _) (.head _))⟩
        have hI8 : Ap I 238 := ⟨Nat.ne_of_gt (lI (238, _) (.tail _ (.head _)))⟩
        refine wpAny_noRaise ?_
        refine round_word w fa _ sc I _ rfl vs ns _ t' _ _ ps codes _ _ _ _ base _ _ _ hI (by omega) ?k0 ?k1 hT hc hc' hic hI3 hI8 rfl (by exact hm) lifted CH2 BB XB TB F' N' ?_
        case k0 => omega
        case k1 => omega
        intro ps' codes' h2 tk2 m2 F2 N2 hT2 hc2 hc2' hic2 hm2
        dsimp only [UnrPost]
        exact UnrEnd.intro F2 N2 _ (fun q hq => hq) (List.forall_mem_cons.mpr ⟨hI3.symm.ne, List.forall_mem_cons.mpr ⟨hI8.symm.ne, apartN_mem hic2⟩⟩) (ih _ _ ⟨ps', codes', hm2, rfl, hT2, hc2, hc2', hic2⟩)
end

section
/-! the names under which the library's head would lay twins of the text's own constants (some 20 MiB that nothing here leans on) -/
def top.tw16900427199656544559 : Nat := 0
def top.tw18164388396756303480 : Nat := 0
def top.tw1139600151236580504 : Nat := 0
def top.tw10996937224433265937 : Nat := 0
def top.tw18186074749648716422 : Nat := 0
def top.tw705360758644809490 : Nat := 0
def top.tw3969286963782609292 : Nat := 0
def top.tw6240723676877644813 : Nat := 0
def top.tw10936122117785486979 : Nat := 0
def top.tw17810072253543177317 : Nat := 0
def top.tw5868845118606482295 : Nat := 0
def top.tw6859976401760118174 : Nat := 0
def top.tw14402358008270493973 : Nat := 0
def top.tw14917401599646851644 : Nat := 0
def top.tw16869712714098612864 : Nat := 0
def top.tw10773188271377071773 : Nat := 0
def top.tw15177526630643400193 : Nat := 0
def top.tw14823308797102314842 : Nat := 0
def top.tw2822501910515967889 : Nat := 0
def top.tw17953806662267207243 : Nat := 0
def top.tw1284575025550258836 : Nat := 0
def top.tw15569959144833144457 : Nat := 0
def top.tw5766051744304087583 : Nat := 0
def top.tw14372152842798730730 : Nat := 0
def top.tw1516213087968936877 : Nat := 0
def top.tw13369591340354186047 : Nat := 0
def top.tw8892184565913893157 : Nat := 0
def top.tw987869383939708018 : Nat := 0
def top.tw8640399195822439974 : Nat := 0
def top.tw5118827330378232414 : Nat := 0
def top.tw12094960947251128927 : Nat := 0
def top.tw7990429038631628895 : Nat := 0
def top.tw6756868429301003459 : Nat := 0
def top.tw1212798325632107971 : Nat := 0
def top.tw5667650583090716360 : Nat := 0
def top.tw17470836177267949868 : Nat := 0
def top.tw11546936639936008217 : Nat := 0
def top.tw14901070454687303710 : Nat := 0
def top.tw4655869559712951663 : Nat := 0
def top.tw17492772389151264855 : Nat := 0
def top.tw2617719716777270872 : Nat := 0
def top.tw13498101095514990694 : Nat := 0
def top.tw13091174067606910046 : Nat := 0
def top.tw4498253355057717688 : Nat := 0
def top.tw16541100652227675460 : Nat := 0
def top.tw10617020205504526918 : Nat := 0
def top.tw6749217079512962374 : Nat := 0
def top.tw16713831800681072344 : Nat := 0
def top.tw15878805988109762761 : Nat := 0
def top.tw1047907039808853306 : Nat := 0
def top.tw5058314954733539658 : Nat := 0
def top.tw1300977216157355950 : Nat := 0
def top.tw8443935842833279946 : Nat := 0
def top.tw13388952794222517624 : Nat := 0
def top.tw4551080515912023512 : Nat := 0
def top.tw8813761850579938390 : Nat := 0
def top.tw14374289702345001990 : Nat := 0
def top.tw13370750898655102155 : Nat := 0
def top.tw11133666699803404755 : Nat := 0
def top.tw5105846836358774362 : Nat := 0
def top.tw15362295582089109014 : Nat := 0
def top.tw16885616592811714743 : Nat := 0
def top.tw12425085872883035938 : Nat := 0
def top.tw18064794426631996164 : Nat := 0
def top.tw9229161468869434483 : Nat := 0
def top.tw2835187731363253809 : Nat := 0
def top.tw17177869089781658578 : Nat := 0
def top.tw6187478851450931391 : Nat := 0
def top.tw2741389259953327712 : Nat := 0
def top.tw14861896470697024400 : Nat := 0
def top.tw1483126911874232274 : Nat := 0
def top.tw8598144960395782539 : Nat := 0
def top.tw2812155379371279736 : Nat := 0
def top.tw8735323631387419056 : Nat := 0
def top.tw9503340733035011235 : Nat := 0
def top.tw2464713573024523455 : Nat := 0
def top.tw8265191368974092141 : Nat := 0
def top.tw14676097989624264726 : Nat := 0
def top.tw7458633546980236471 : Nat := 0
def top.tw11423202765487971197 : Nat := 0
def top.tw12904846372982387590 : Nat := 0
def top.tw10567129059001840431 : Nat := 0
def top.tw14826035006057030972 : Nat := 0
def top.tw15860264024139754761 : Nat := 0
def top.tw7527032243904285869 : Nat := 0
def top.tw8689318265317240412 : Nat := 0
def top.tw11536330283829923712 : Nat := 0
def top.tw1869187583165140508 : Nat := 0
def top.tw4205137553216949640 : Nat := 0
def top.tw12535971307161669396 : Nat := 0
def top.tw7590842439687088537 : Nat := 0
def top.tw16439428074185983240 : Nat := 0
def top.tw9614876229902214918 : Nat := 0
def top.tw16782997733028217545 : Nat := 0
def top.tw5889316905344633881 : Nat := 0
def top.tw16123964013534891561 : Nat := 0
def top.tw16273406610938067001 : Nat := 0
def top.tw15058813355848621054 : Nat := 0
def top.tw7855079511596107753 : Nat := 0
def top.tw81815255157605957 : Nat := 0
def top.tw12385144161495827662 : Nat := 0
def top.tw6961719218334789944 : Nat := 0
def top.tw12376051458212225564 : Nat := 0
def top.tw14502225709538309166 : Nat := 0
def top.tw15299407806266782574 : Nat := 0
def top.tw17315540178315561739 : Nat := 0
def top.tw7414872774492366064 : Nat := 0
def top.tw2555065506035805374 : Nat := 0
def top.tw13160728816969591200 : Nat := 0
def top.tw12483720753089274532 : Nat := 0
def top.tw9108098604805947806 : Nat := 0
def top.tw14597223018079223185 : Nat := 0
def top.tw10648311167861321448 : Nat := 0
def top.tw6664487174759623829 : Nat := 0
def top.tw11960245374511038805 : Nat := 0
def top.tw6286779285267259847 : Nat := 0
def top.tw9759319705405543751 : Nat := 0
def top.tw6333448901615975916 : Nat := 0
def top.tw6898770573198911631 : Nat := 0
def top.tw14459580976405569124 : Nat := 0
def top.tw814325599930780420 : Nat := 0
def top.tw16325430554902658873 : Nat := 0
def top.tw1676862907878916244 : Nat := 0
def top.tw8645369167282567922 : Nat := 0
def top.tw17486766287000646611 : Nat := 0
def top.tw6520327441239513222 : Nat := 0
def top.tw11613256710310857696 : Nat := 0
def top.tw9059672392935016618 : Nat := 0
def top.tw13486290882257350879 : Nat := 0
def top.tw12392516345856041104 : Nat := 0
def top.tw5476889619067714990 : Nat := 0
def top.tw1149218181149386328 : Nat := 0
def top.tw18086089286151905521 : Nat := 0
def top.tw8538268897159353584 : Nat := 0
def top.tw7008692893051332821 : Nat := 0
def top.tw9378254376102152143 : Nat := 0
def top.tw10090393231696489298 : Nat := 0
def top.tw7847650389618582240 : Nat := 0
def top.tw13359135706311490777 : Nat := 0
def top.tw16420938139371093754 : Nat := 0
def top.tw5225153198818245361 : Nat := 0
def top.tw14349089067433371257 : Nat := 0
def top.tw16759092144687519636 : Nat := 0
def top.tw13928562000808390012 : Nat := 0
def top.tw10404823597219466188 : Nat := 0
def top.tw4321519831107876412 : Nat := 0
def top.tw2462062305354472974 : Nat := 0
def top.tw8184561461823581802 : Nat := 0
def top.tw5597187220613765494 : Nat := 0
def top.tw8435561252592420358 : Nat := 0
def top.tw12209373703501877683 : Nat := 0
def top.tw15911845374378037316 : Nat := 0
def top.tw14390669486469195807 : Nat := 0
def top.tw370947364307004932 : Nat := 0
def top.tw3776753064480771068 : Nat := 0
def top.tw11459358961799972967 : Nat := 0
def top.tw795583310449317561 : Nat := 0
def top.tw8345894832289464959 : Nat := 0
def top.tw13120753694373217308 : Nat := 0
def top.tw16155163154822807229 : Nat := 0
def top.tw216529984938456764 : Nat := 0
def top.tw2985252069258134486 : Nat := 0
def top.tw7297446738713254254 : Nat := 0
def top.tw16196420915677631385 : Nat := 0
def top.tw2057334267981633021 : Nat := 0
def top.tw12643491718579748851 : Nat := 0
def top.tw5523086135645875356 : Nat := 0
def top.tw18034075008235765660 : Nat := 0
def top.tw15169761463676818070 : Nat := 0
def top.tw11858546649754279707 : Nat := 0
def top.tw4159251561096739476 : Nat := 0
def top.tw775762912060472103 : Nat := 0
def top.tw105208000716104510 : Nat := 0
def top.tw2924597203103170677 : Nat := 0
def top.tw4299629679881509495 : Nat := 0
def top.tw5155950481276406077 : Nat := 0
def top.tw3561193834555079511 : Nat := 0
def top.tw12318557346453588183 : Nat := 0
def top.tw4213018616267185653 : Nat := 0
def top.tw9601329371697537090 : Nat := 0
def top.tw908825868028484722 : Nat := 0
def top.tw8507776931139520737 : Nat := 0
def top.tw16174758807025615021 : Nat := 0
def top.tw11430207588045935325 : Nat := 0
def top.tw2287823674025257028 : Nat := 0
def top.tw6127594578889010139 : Nat := 0
def top.tw14796646475526232899 : Nat := 0
def top.tw1814787853859245837 : Nat := 0
def top.tw728428047077509346 : Nat := 0
def top.tw14282377253939248939 : Nat := 0
def top.tw8810280945414196856 : Nat := 0
def top.tw12958502747184954254 : Nat := 0
def top.tw14987219478266130788 : Nat := 0
def top.tw11334350811105764591 : Nat := 0
def top.tw16044733080236030384 : Nat := 0
def top.tw575894324575664597 : Nat := 0
def top.tw6431110157172167083 : Nat := 0
def top.tw16580785732701462914 : Nat := 0
def top.tw2731995056826638727 : Nat := 0
def top.tw6812286434817487243 : Nat := 0
def top.tw2732273902793177162 : Nat := 0
def top.tw16204670001084760307 : Nat := 0
def top.tw17886615442053742456 : Nat := 0
def top.tw8363718466572441477 : Nat := 0
def top.tw6388654656322651781 : Nat := 0
def top.tw788273225186049534 : Nat := 0
def top.tw3730354652608582461 : Nat := 0
def top.tw10187264123177260123 : Nat := 0
def top.tw16352630495959832749 : Nat := 0
def top.tw7652560490529028683 : Nat := 0
def top.tw2782073688633401757 : Nat := 0
def top.tw390997316461189296 : Nat := 0
def top.tw342308947776675178 : Nat := 0
def top.tw6919701780365589675 : Nat := 0
def top.tw9382581127745807760 : Nat := 0
def top.tw12342655685612074800 : Nat := 0
def top.tw2867133514656366558 : Nat := 0
def top.tw5969682004907312646 : Nat := 0
def top.tw15240379268576122478 : Nat := 0
def top.tw14611434983143301774 : Nat := 0
def top.tw9800703332001039478 : Nat := 0
def top.tw10006222313960134694 : Nat := 0
def top.tw1245559373397905713 : Nat := 0
def top.tw16058212318047004132 : Nat := 0
def top.tw13264354339760550358 : Nat := 0
def top.tw4713442408853163898 : Nat := 0
def top.tw6370870915552960936 : Nat := 0
def top.tw8143265674769528471 : Nat := 0
def top.tw2218668502564051296 : Nat := 0
def top.tw1736530178072539846 : Nat := 0
def top.tw11334415319851112604 : Nat := 0
def top.tw1400011881503588481 : Nat := 0
def top.tw17555251805378815213 : Nat := 0
set_option Elab.async true
set_option maxHeartbeats 8000000 in
theorem top : PySem.Challenge.rw_pf0382_01.Holds := by
  w_on
  o_law
  k_head
  case hw => w_witness2
  exact law_walks
set_option Elab.async false
end
end Mine
theorem PySem.Challenge.cw_pf0382_01_holds : PySem.Challenge.rw_pf0382_01.Holds :=
  Mine.top
