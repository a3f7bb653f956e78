import PyProof.Rows.All
import Wide.All
import OpenK.AllK
import Wide.FinOn
import Lean
import PySem.Challenge.RW_no0183_01
open PySem PySem.W PyProof.Rows PySem.Spec PySem.Calls
set_option Elab.async false
set_option maxRecDepth 100000
set_option linter.unusedVariables false
set_option linter.unusedSectionVars false
set_option linter.unusedSimpArgs false
set_option compiler.extract_closed false
namespace Mine
local macro_rules | `(tactic| walk_at "o") => `(tactic| first | lia | omega)
section
noncomputable section
noncomputable abbrev pw : Program := PySem.Challenge.pw_no0183_01
noncomputable def nth : List Stmt → Nat → Stmt
  | [], _ => .Pass ⟨0, 0, 0, 0⟩
  | s :: _, 0 => s
  | _ :: r, n + 1 => nth r n
noncomputable def bodyS : Stmt → List Stmt
  | .FunctionDef (body := b) .. => b
  | .ClassDef (body := b) .. => b
  | _ => []
noncomputable def noArgs : Arguments := { posonlyargs := [], args := [], vararg := none, kwonlyargs := [], kw_defaults := [], kwarg := none, defaults := [] }
noncomputable def argsS : Stmt → Arguments
  | .FunctionDef (args := a) .. => a
  | _ => noArgs
noncomputable def scopeS : Stmt → Scope
  | .FunctionDef (scope := a) .. => a
  | .ClassDef (scope := a) .. => a
  | _ => { kind := .module, names := [], isGenerator := false, isCoroutine := false, more := [] }
noncomputable def stm (i : Nat) : Stmt := nth pw.main.body i
noncomputable def en (P : Params) (x : Str) (t : Nat) (v : Value) : DictEntry := ⟨PyData.keyHash P x, .str x t, v⟩
noncomputable def o11 (P : Params) : Obj := ⟨(.type "tuple"), none, (.seq #[] 0), #[]⟩
noncomputable def o12 (P : Params) : Obj := ⟨.none, none, (.fields #[]), #[]⟩
noncomputable def o13 (P : Params) : Obj := ⟨(.type "code"), none, (.fields #[(.str "<module>" 182), (.str "<module>" 183), (.str "/claim/cut.py" 184), (.int 1 0), (.int 0 0), (.int 0 0), (.int 0 0), (.int 0 0), (.ref 11), (.bool false), (.int 181 0), (.ref 12), .none, .none, .none, .none, (.int 185 0), (.int 1 0), (.str "/claim/cut.py" 186)]), #[]⟩
noncomputable def o14 (P : Params) : Obj := ⟨(.type "frame"), none, .plain, #[some (.ref 13), some (.ref 3), some (.ref 3), none, some (.str "__main__" 164), none, some (.ref 0)]⟩
noncomputable def tr_a (P : Params) : BT := (.node (boot_o_0 P) (.node (boot_o_1 P) (.node (boot_o_3 P) (.node (boot_o_7 P) .nil .nil) (.node (o11 P) .nil .nil)) (.node (boot_o_5 P) (.node (boot_o_9 P) .nil .nil) (.node (o13 P) .nil .nil))) (.node (boot_o_2 P) (.node (boot_o_4 P) (.node (boot_o_8 P) .nil .nil) (.node (o12 P) .nil .nil)) (.node (boot_o_6 P) (.node (boot_o_10 P) .nil .nil) (.node (o14 P) .nil .nil))))
noncomputable def heap_a (P : Params) : Heap := ⟨⟨[(boot_o_0 P), (boot_o_1 P), (boot_o_2 P), (boot_o_3 P), (boot_o_4 P), (boot_o_5 P), (boot_o_6 P), (boot_o_7 P), (boot_o_8 P), (boot_o_9 P), (boot_o_10 P), (o11 P), (o12 P), (o13 P), (o14 P)]⟩, {}⟩
noncomputable def o2_0 (P : Params) : Obj := ⟨.none, none, (.dict (Array.mk [(en P "type.__subclasses__.Exception.0" 212 (.int 31 0)), (en P "type.__subclasses__.Exception.n" 213 (.int 1 0))]) 2), #[]⟩
noncomputable def o3_0 (P : Params) : Obj := ⟨(.type "dict"), none, (.dict (Array.mk [(en P "__name__" 165 (.str "clausemill.symbols" 194)), (en P "__doc__" 166 .none), (en P "__package__" 167 .none), (en P "__loader__" 168 (.builtin "__main__.__loader__#opaque")), (en P "__spec__" 169 .none), (en P "__annotations__" 170 (.ref 6)), (en P "__builtins__" 171 (.ref 4)), (en P "__file__" 173 (.str "/claim/cut.py" 172)), (en P "__cached__" 174 .none), (en P "_wall" 193 (.ref 21)), (en P "ClausemillError" 215 (.ref 31)), (en P "PrologError" 240 (.ref 51)), (en P "A_NIL" 242 (.int 0 241)), (en P "A_SYSTEM" 244 (.int 25 243)), (en P "F_DOT" 246 (.int 0 245)), (en P "F_ERROR" 248 (.int 16 247)), (en P "fixed_atoms" 254 (.ref 60)), (en P "fixed_functors" 260 (.ref 67))]) 18), #[]⟩
noncomputable def o12_0 (P : Params) : Obj := ⟨.none, none, (.fields #[(.int 1 0), (.int 0 0), (.ref 20), (.int 5 0), (.int 0 0), (.ref 27), (.int 7 0), (.int 0 0), (.ref 40), (.int 15 0), (.int 0 0), (.ref 59), (.int 17 0), (.int 0 0), (.ref 66)]), #[]⟩
noncomputable def o15 (P : Params) : Obj := ⟨(.type "tuple"), none, (.seq #[] 0), #[]⟩
noncomputable def o16 (P : Params) : Obj := ⟨.none, none, (.fields #[]), #[]⟩
noncomputable def o17 (P : Params) : Obj := ⟨(.type "tuple"), none, (.seq #[(.str "k" 190)] 0), #[]⟩
noncomputable def o18 (P : Params) : Obj := ⟨(.type "tuple"), none, (.seq #[] 0), #[]⟩
noncomputable def o19 (P : Params) : Obj := ⟨.none, none, (.func { name := "_wall", qualname := "_wall", params := (argsS (stm 0)), body := (.stmts (bodyS (stm 0))), scope := (scopeS (stm 0)), globals := 0, closure := [], defaults := .none, kwdefaults := .none, doc := .none, pyModule := .none, annotations := none, code := .none, closureTuple := .none, builtins := 0 }), #[]⟩
noncomputable def o20 (P : Params) : Obj := ⟨(.type "code"), none, (.fields #[(.str "_wall" 187), (.str "_wall" 188), (.str "/claim/cut.py" 189), (.int 1 0), (.int 1 0), (.int 0 0), (.int 0 0), (.int 3 0), (.ref 15), (.bool true), (.int 181 0), (.ref 16), .none, (.ref 17), (.ref 18), (.ref 19), (.int 191 0), (.int 1 0), (.str "/claim/cut.py" 192)]), #[]⟩
noncomputable def o21 (P : Params) : Obj := ⟨(.type "function"), none, (.func { name := "_wall", qualname := "_wall", params := (argsS (stm 0)), body := (.stmts (bodyS (stm 0))), scope := (scopeS (stm 0)), globals := 3, closure := [], defaults := .none, kwdefaults := .none, doc := .none, pyModule := (.str "__main__" 164), annotations := none, code := (.ref 20), closureTuple := .none, builtins := 0 }), #[]⟩
noncomputable def o22 (P : Params) : Obj := ⟨(.type "tuple"), none, (.seq #[(.type "Exception")] 0), #[]⟩
noncomputable def o23 (P : Params) : Obj := ⟨(.type "builtin_function_or_method"), none, (.fields #[(.builtin "type.__prepare__"), (.type "type")]), #[]⟩
noncomputable def o24 (P : Params) : Obj := ⟨(.type "dict"), none, (.dict (Array.mk [(en P "__module__" 203 (.str "clausemill.symbols" 194)), (en P "__qualname__" 205 (.str "ClausemillError" 204)), (en P "__firstlineno__" 207 (.int 5 206)), (en P "__static_attributes__" 208 (.ref 29))]) 4), #[]⟩
noncomputable def o25 (P : Params) : Obj := ⟨(.type "tuple"), none, (.seq #[] 0), #[]⟩
noncomputable def o26 (P : Params) : Obj := ⟨.none, none, (.fields #[]), #[]⟩
noncomputable def o27 (P : Params) : Obj := ⟨(.type "code"), none, (.fields #[(.str "ClausemillError" 198), (.str "ClausemillError" 199), (.str "/claim/cut.py" 200), (.int 5 0), (.int 0 0), (.int 0 0), (.int 0 0), (.int 0 0), (.ref 25), (.bool false), (.int 181 0), (.ref 26), .none, .none, .none, .none, (.int 201 0), (.int 5 0), (.str "/claim/cut.py" 202)]), #[]⟩
noncomputable def o28 (P : Params) : Obj := ⟨(.type "frame"), none, .plain, #[some (.ref 27), some (.ref 3), some (.ref 24), none, some (.str "clausemill.symbols" 194), none, some (.ref 0)]⟩
noncomputable def o29 (P : Params) : Obj := ⟨(.type "tuple"), none, (.seq #[] 0), #[]⟩
noncomputable def o30 (P : Params) : Obj := ⟨(.type "dict"), none, (.dict (Array.mk [(en P "__module__" 203 (.str "clausemill.symbols" 194)), (en P "__firstlineno__" 207 (.int 5 206)), (en P "__static_attributes__" 208 (.ref 29)), (en P "__weakref__" 210 (.ref 32)), (en P "__doc__" 211 .none)]) 3), #[]⟩
noncomputable def o31 (P : Params) : Obj := ⟨(.type "type"), none, (.cls { name := "ClausemillError", bases := [(.type "Exception")], mro := [(.ref 31), (.type "Exception"), (.type "BaseException"), (.type "object")], ns := 30, qualname := "ClausemillError", hasDict := true, slotNames := [], subclasses := [(.ref 51)], abstract := false, collection := none, hasDel := false }), #[some (.ref 22), none, some (.str "ClausemillError" 196), some (.str "ClausemillError" 204), some (.builtin "Exception.__new__"), some (.bool true)]⟩
noncomputable def o32 (P : Params) : Obj := ⟨(.type "getset_descriptor"), none, (.fields #[(.str "__weakref__" 209), (.ref 31), (.builtin "ExceptionGroup.__weakref__"), .none]), #[]⟩
noncomputable def o33 (P : Params) : Obj := ⟨(.type "super"), none, (.fields #[(.ref 31), (.ref 31), (.ref 31)]), #[]⟩
noncomputable def o34 (P : Params) : Obj := ⟨(.type "builtin_function_or_method"), none, (.fields #[(.builtin "object.__init_subclass__"), (.ref 31)]), #[]⟩
noncomputable def o35 (P : Params) : Obj := ⟨(.type "tuple"), none, (.seq #[(.ref 31)] 0), #[]⟩
noncomputable def o36 (P : Params) : Obj := ⟨(.type "builtin_function_or_method"), none, (.fields #[(.builtin "type.__prepare__"), (.type "type")]), #[]⟩
noncomputable def o37 (P : Params) : Obj := ⟨(.type "dict"), none, (.dict (Array.mk [(en P "__module__" 223 (.str "clausemill.symbols" 194)), (en P "__qualname__" 225 (.str "PrologError" 224)), (en P "__firstlineno__" 227 (.int 7 226)), (en P "__init__" 235 (.ref 48)), (en P "__static_attributes__" 237 (.ref 49))]) 5), #[]⟩
noncomputable def o38 (P : Params) : Obj := ⟨(.type "tuple"), none, (.seq #[] 0), #[]⟩
noncomputable def o39 (P : Params) : Obj := ⟨.none, none, (.fields #[(.int 9 0), (.int 4 0), (.ref 47)]), #[]⟩
noncomputable def o40 (P : Params) : Obj := ⟨(.type "code"), none, (.fields #[(.str "PrologError" 218), (.str "PrologError" 219), (.str "/claim/cut.py" 220), (.int 7 0), (.int 0 0), (.int 0 0), (.int 0 0), (.int 0 0), (.ref 38), (.bool false), (.int 181 0), (.ref 39), .none, .none, .none, .none, (.int 221 0), (.int 7 0), (.str "/claim/cut.py" 222)]), #[]⟩
noncomputable def o41 (P : Params) : Obj := ⟨(.type "frame"), none, .plain, #[some (.ref 40), some (.ref 3), some (.ref 37), none, some (.str "clausemill.symbols" 194), none, some (.ref 0)]⟩
noncomputable def o42 (P : Params) : Obj := ⟨(.type "tuple"), none, (.seq #[] 0), #[]⟩
noncomputable def o43 (P : Params) : Obj := ⟨.none, none, (.fields #[]), #[]⟩
noncomputable def o44 (P : Params) : Obj := ⟨(.type "tuple"), none, (.seq #[(.str "self" 231), (.str "ball" 232)] 0), #[]⟩
noncomputable def o45 (P : Params) : Obj := ⟨(.type "tuple"), none, (.seq #[] 0), #[]⟩
noncomputable def o46 (P : Params) : Obj := ⟨.none, none, (.func { name := "__init__", qualname := "PrologError.__init__", params := (argsS (nth (bodyS (stm 3)) 0)), body := (.stmts (bodyS (nth (bodyS (stm 3)) 0))), scope := (scopeS (nth (bodyS (stm 3)) 0)), globals := 0, closure := [], defaults := .none, kwdefaults := .none, doc := .none, pyModule := .none, annotations := none, code := .none, closureTuple := .none, builtins := 0 }), #[]⟩
noncomputable def o47 (P : Params) : Obj := ⟨(.type "code"), none, (.fields #[(.str "__init__" 228), (.str "PrologError.__init__" 229), (.str "/claim/cut.py" 230), (.int 9 0), (.int 2 0), (.int 0 0), (.int 0 0), (.int 3 0), (.ref 42), (.bool true), (.int 181 0), (.ref 43), .none, (.ref 44), (.ref 45), (.ref 46), (.int 233 0), (.int 9 0), (.str "/claim/cut.py" 234)]), #[]⟩
noncomputable def o48 (P : Params) : Obj := ⟨(.type "function"), none, (.func { name := "__init__", qualname := "PrologError.__init__", params := (argsS (nth (bodyS (stm 3)) 0)), body := (.stmts (bodyS (nth (bodyS (stm 3)) 0))), scope := (scopeS (nth (bodyS (stm 3)) 0)), globals := 3, closure := [], defaults := .none, kwdefaults := .none, doc := .none, pyModule := (.str "clausemill.symbols" 194), annotations := none, code := (.ref 47), closureTuple := .none, builtins := 0 }), #[]⟩
noncomputable def o49 (P : Params) : Obj := ⟨(.type "tuple"), none, (.seq #[(.str "ball" 236)] 0), #[]⟩
noncomputable def o50 (P : Params) : Obj := ⟨(.type "dict"), none, (.dict (Array.mk [(en P "__module__" 223 (.str "clausemill.symbols" 194)), (en P "__firstlineno__" 227 (.int 7 226)), (en P "__init__" 235 (.ref 48)), (en P "__static_attributes__" 237 (.ref 49)), (en P "__doc__" 238 .none)]) 2), #[]⟩
noncomputable def o51 (P : Params) : Obj := ⟨(.type "type"), none, (.cls { name := "PrologError", bases := [(.ref 31)], mro := [(.ref 51), (.ref 31), (.type "Exception"), (.type "BaseException"), (.type "object")], ns := 50, qualname := "PrologError", hasDict := true, slotNames := [], subclasses := [], abstract := false, collection := none, hasDel := false }), #[some (.ref 35), none, some (.str "PrologError" 216), some (.str "PrologError" 224), some (.builtin "Exception.__new__"), some (.bool true)]⟩
noncomputable def o52 (P : Params) : Obj := ⟨(.type "super"), none, (.fields #[(.ref 51), (.ref 51), (.ref 51)]), #[]⟩
noncomputable def o53 (P : Params) : Obj := ⟨(.type "builtin_function_or_method"), none, (.fields #[(.builtin "object.__init_subclass__"), (.ref 51)]), #[]⟩
noncomputable def o54 (P : Params) : Obj := ⟨(.type "tuple"), none, (.seq #[] 0), #[]⟩
noncomputable def o55 (P : Params) : Obj := ⟨.none, none, (.fields #[]), #[]⟩
noncomputable def o56 (P : Params) : Obj := ⟨(.type "tuple"), none, (.seq #[] 0), #[]⟩
noncomputable def o57 (P : Params) : Obj := ⟨(.type "tuple"), none, (.seq #[] 0), #[]⟩
noncomputable def o58 (P : Params) : Obj := ⟨.none, none, (.func { name := "fixed_atoms", qualname := "fixed_atoms", params := (argsS (stm 8)), body := (.stmts (bodyS (stm 8))), scope := (scopeS (stm 8)), globals := 0, closure := [], defaults := .none, kwdefaults := .none, doc := .none, pyModule := .none, annotations := none, code := .none, closureTuple := .none, builtins := 0 }), #[]⟩
noncomputable def o59 (P : Params) : Obj := ⟨(.type "code"), none, (.fields #[(.str "fixed_atoms" 249), (.str "fixed_atoms" 250), (.str "/claim/cut.py" 251), (.int 15 0), (.int 0 0), (.int 0 0), (.int 0 0), (.int 3 0), (.ref 54), (.bool true), (.int 181 0), (.ref 55), .none, (.ref 56), (.ref 57), (.ref 58), (.int 252 0), (.int 15 0), (.str "/claim/cut.py" 253)]), #[]⟩
noncomputable def o60 (P : Params) : Obj := ⟨(.type "function"), none, (.func { name := "fixed_atoms", qualname := "fixed_atoms", params := (argsS (stm 8)), body := (.stmts (bodyS (stm 8))), scope := (scopeS (stm 8)), globals := 3, closure := [], defaults := .none, kwdefaults := .none, doc := .none, pyModule := (.str "clausemill.symbols" 194), annotations := none, code := (.ref 59), closureTuple := .none, builtins := 0 }), #[]⟩
noncomputable def o61 (P : Params) : Obj := ⟨(.type "tuple"), none, (.seq #[] 0), #[]⟩
noncomputable def o62 (P : Params) : Obj := ⟨.none, none, (.fields #[]), #[]⟩
noncomputable def o63 (P : Params) : Obj := ⟨(.type "tuple"), none, (.seq #[] 0), #[]⟩
noncomputable def o64 (P : Params) : Obj := ⟨(.type "tuple"), none, (.seq #[] 0), #[]⟩
noncomputable def o65 (P : Params) : Obj := ⟨.none, none, (.func { name := "fixed_functors", qualname := "fixed_functors", params := (argsS (stm 9)), body := (.stmts (bodyS (stm 9))), scope := (scopeS (stm 9)), globals := 0, closure := [], defaults := .none, kwdefaults := .none, doc := .none, pyModule := .none, annotations := none, code := .none, closureTuple := .none, builtins := 0 }), #[]⟩
noncomputable def o66 (P : Params) : Obj := ⟨(.type "code"), none, (.fields #[(.str "fixed_functors" 255), (.str "fixed_functors" 256), (.str "/claim/cut.py" 257), (.int 17 0), (.int 0 0), (.int 0 0), (.int 0 0), (.int 3 0), (.ref 61), (.bool true), (.int 181 0), (.ref 62), .none, (.ref 63), (.ref 64), (.ref 65), (.int 258 0), (.int 17 0), (.str "/claim/cut.py" 259)]), #[]⟩
noncomputable def o67 (P : Params) : Obj := ⟨(.type "function"), none, (.func { name := "fixed_functors", qualname := "fixed_functors", params := (argsS (stm 9)), body := (.stmts (bodyS (stm 9))), scope := (scopeS (stm 9)), globals := 3, closure := [], defaults := .none, kwdefaults := .none, doc := .none, pyModule := (.str "clausemill.symbols" 194), annotations := none, code := (.ref 66), closureTuple := .none, builtins := 0 }), #[]⟩
noncomputable def tr_0 (P : Params) : BT := (.node (boot_o_0 P) (.node (boot_o_1 P) (.node (o3_0 P) (.node (boot_o_7 P) (.node (o15 P) (.node (o31 P) (.node (o63 P) .nil .nil) .nil) (.node (o47 P) .nil .nil)) (.node (o23 P) (.node (o39 P) .nil .nil) (.node (o55 P) .nil .nil))) (.node (o11 P) (.node (o19 P) (.node (o35 P) (.node (o67 P) .nil .nil) .nil) (.node (o51 P) .nil .nil)) (.node (o27 P) (.node (o43 P) .nil .nil) (.node (o59 P) .nil .nil)))) (.node (boot_o_5 P) (.node (boot_o_9 P) (.node (o17 P) (.node (o33 P) (.node (o65 P) .nil .nil) .nil) (.node (o49 P) .nil .nil)) (.node (o25 P) (.node (o41 P) .nil .nil) (.node (o57 P) .nil .nil))) (.node (o13 P) (.node (o21 P) (.node (o37 P) .nil .nil) (.node (o53 P) .nil .nil)) (.node (o29 P) (.node (o45 P) .nil .nil) (.node (o61 P) .nil .nil))))) (.node (o2_0 P) (.node (boot_o_4 P) (.node (boot_o_8 P) (.node (o16 P) (.node (o32 P) (.node (o64 P) .nil .nil) .nil) (.node (o48 P) .nil .nil)) (.node (o24 P) (.node (o40 P) .nil .nil) (.node (o56 P) .nil .nil))) (.node (o12_0 P) (.node (o20 P) (.node (o36 P) .nil .nil) (.node (o52 P) .nil .nil)) (.node (o28 P) (.node (o44 P) .nil .nil) (.node (o60 P) .nil .nil)))) (.node (boot_o_6 P) (.node (boot_o_10 P) (.node (o18 P) (.node (o34 P) (.node (o66 P) .nil .nil) .nil) (.node (o50 P) .nil .nil)) (.node (o26 P) (.node (o42 P) .nil .nil) (.node (o58 P) .nil .nil))) (.node (o14 P) (.node (o22 P) (.node (o38 P) .nil .nil) (.node (o54 P) .nil .nil)) (.node (o30 P) (.node (o46 P) .nil .nil) (.node (o62 P) .nil .nil))))))
noncomputable def o3_1 (P : Params) : Obj := ⟨(.type "dict"), none, (.dict (Array.mk [(en P "__name__" 165 (.str "clausemill.symbols" 194)), (en P "__doc__" 166 .none), (en P "__package__" 167 .none), (en P "__loader__" 168 (.builtin "__main__.__loader__#opaque")), (en P "__spec__" 169 .none), (en P "__annotations__" 170 (.ref 6)), (en P "__builtins__" 171 (.ref 4)), (en P "__file__" 173 (.str "/claim/cut.py" 172)), (en P "__cached__" 174 .none), (en P "_wall" 193 (.ref 21)), (en P "ClausemillError" 215 (.ref 31)), (en P "PrologError" 240 (.ref 51)), (en P "A_NIL" 242 (.int 0 241)), (en P "A_SYSTEM" 244 (.int 25 243)), (en P "F_DOT" 246 (.int 0 245)), (en P "F_ERROR" 248 (.int 16 247)), (en P "fixed_atoms" 254 (.ref 60)), (en P "fixed_functors" 260 (.ref 67)), (en P "Symbols" 379 (.ref 154))]) 19), #[]⟩
noncomputable def o12_1 (P : Params) : Obj := ⟨.none, none, (.fields #[(.int 1 0), (.int 0 0), (.ref 20), (.int 5 0), (.int 0 0), (.ref 27), (.int 7 0), (.int 0 0), (.ref 40), (.int 15 0), (.int 0 0), (.ref 59), (.int 17 0), (.int 0 0), (.ref 66), (.int 19 0), (.int 0 0), (.ref 73)]), #[]⟩
noncomputable def o68 (P : Params) : Obj := ⟨(.type "tuple"), none, (.seq #[] 0), #[]⟩
noncomputable def o69 (P : Params) : Obj := ⟨(.type "builtin_function_or_method"), none, (.fields #[(.builtin "type.__prepare__"), (.type "type")]), #[]⟩
noncomputable def o70 (P : Params) : Obj := ⟨(.type "dict"), none, (.dict (Array.mk [(en P "__module__" 268 (.str "clausemill.symbols" 194)), (en P "__qualname__" 270 (.str "Symbols" 269)), (en P "__firstlineno__" 272 (.int 19 271)), (en P "__init__" 281 (.ref 81)), (en P "atom" 291 (.ref 88)), (en P "text" 299 (.ref 95)), (en P "functor" 311 (.ref 102)), (en P "func" 320 (.ref 109)), (en P "name" 328 (.ref 116)), (en P "arity" 336 (.ref 123)), (en P "label" 344 (.ref 130)), (en P "count" 351 (.ref 137)), (en P "functor_count" 358 (.ref 144)), (en P "known" 367 (.ref 151)), (en P "__static_attributes__" 372 (.ref 152))]) 15), #[]⟩
noncomputable def o71 (P : Params) : Obj := ⟨(.type "tuple"), none, (.seq #[] 0), #[]⟩
noncomputable def o72 (P : Params) : Obj := ⟨.none, none, (.fields #[(.int 21 0), (.int 4 0), (.ref 80), (.int 31 0), (.int 4 0), (.ref 87), (.int 40 0), (.int 4 0), (.ref 94), (.int 43 0), (.int 4 0), (.ref 101), (.int 53 0), (.int 4 0), (.ref 108), (.int 56 0), (.int 4 0), (.ref 115), (.int 59 0), (.int 4 0), (.ref 122), (.int 62 0), (.int 4 0), (.ref 129), (.int 65 0), (.int 4 0), (.ref 136), (.int 68 0), (.int 4 0), (.ref 143), (.int 71 0), (.int 4 0), (.ref 150)]), #[]⟩
noncomputable def o73 (P : Params) : Obj := ⟨(.type "code"), none, (.fields #[(.str "Symbols" 263), (.str "Symbols" 264), (.str "/claim/cut.py" 265), (.int 19 0), (.int 0 0), (.int 0 0), (.int 0 0), (.int 0 0), (.ref 71), (.bool false), (.int 181 0), (.ref 72), .none, .none, .none, .none, (.int 266 0), (.int 19 0), (.str "/claim/cut.py" 267)]), #[]⟩
noncomputable def o74 (P : Params) : Obj := ⟨(.type "frame"), none, .plain, #[some (.ref 73), some (.ref 3), some (.ref 70), none, some (.str "clausemill.symbols" 194), none, some (.ref 0)]⟩
noncomputable def o75 (P : Params) : Obj := ⟨(.type "tuple"), none, (.seq #[] 0), #[]⟩
noncomputable def o76 (P : Params) : Obj := ⟨.none, none, (.fields #[]), #[]⟩
noncomputable def o77 (P : Params) : Obj := ⟨(.type "tuple"), none, (.seq #[(.str "self" 276), (.str "text" 277), (.str "row" 278)] 0), #[]⟩
noncomputable def o78 (P : Params) : Obj := ⟨(.type "tuple"), none, (.seq #[] 0), #[]⟩
noncomputable def o79 (P : Params) : Obj := ⟨.none, none, (.func { name := "__init__", qualname := "Symbols.__init__", params := (argsS (nth (bodyS (stm 10)) 0)), body := (.stmts (bodyS (nth (bodyS (stm 10)) 0))), scope := (scopeS (nth (bodyS (stm 10)) 0)), globals := 0, closure := [], defaults := .none, kwdefaults := .none, doc := .none, pyModule := .none, annotations := none, code := .none, closureTuple := .none, builtins := 0 }), #[]⟩
noncomputable def o80 (P : Params) : Obj := ⟨(.type "code"), none, (.fields #[(.str "__init__" 273), (.str "Symbols.__init__" 274), (.str "/claim/cut.py" 275), (.int 21 0), (.int 1 0), (.int 0 0), (.int 0 0), (.int 3 0), (.ref 75), (.bool true), (.int 181 0), (.ref 76), .none, (.ref 77), (.ref 78), (.ref 79), (.int 279 0), (.int 21 0), (.str "/claim/cut.py" 280)]), #[]⟩
noncomputable def o81 (P : Params) : Obj := ⟨(.type "function"), none, (.func { name := "__init__", qualname := "Symbols.__init__", params := (argsS (nth (bodyS (stm 10)) 0)), body := (.stmts (bodyS (nth (bodyS (stm 10)) 0))), scope := (scopeS (nth (bodyS (stm 10)) 0)), globals := 3, closure := [], defaults := .none, kwdefaults := .none, doc := .none, pyModule := (.str "clausemill.symbols" 194), annotations := none, code := (.ref 80), closureTuple := .none, builtins := 0 }), #[]⟩
noncomputable def o82 (P : Params) : Obj := ⟨(.type "tuple"), none, (.seq #[] 0), #[]⟩
noncomputable def o83 (P : Params) : Obj := ⟨.none, none, (.fields #[]), #[]⟩
noncomputable def o84 (P : Params) : Obj := ⟨(.type "tuple"), none, (.seq #[(.str "self" 285), (.str "text" 286), (.str "found" 287), (.str "number" 288)] 0), #[]⟩
noncomputable def o85 (P : Params) : Obj := ⟨(.type "tuple"), none, (.seq #[] 0), #[]⟩
noncomputable def o86 (P : Params) : Obj := ⟨.none, none, (.func { name := "atom", qualname := "Symbols.atom", params := (argsS (nth (bodyS (stm 10)) 1)), body := (.stmts (bodyS (nth (bodyS (stm 10)) 1))), scope := (scopeS (nth (bodyS (stm 10)) 1)), globals := 0, closure := [], defaults := .none, kwdefaults := .none, doc := .none, pyModule := .none, annotations := none, code := .none, closureTuple := .none, builtins := 0 }), #[]⟩
noncomputable def o87 (P : Params) : Obj := ⟨(.type "code"), none, (.fields #[(.str "atom" 282), (.str "Symbols.atom" 283), (.str "/claim/cut.py" 284), (.int 31 0), (.int 2 0), (.int 0 0), (.int 0 0), (.int 3 0), (.ref 82), (.bool true), (.int 181 0), (.ref 83), .none, (.ref 84), (.ref 85), (.ref 86), (.int 289 0), (.int 31 0), (.str "/claim/cut.py" 290)]), #[]⟩
noncomputable def o88 (P : Params) : Obj := ⟨(.type "function"), none, (.func { name := "atom", qualname := "Symbols.atom", params := (argsS (nth (bodyS (stm 10)) 1)), body := (.stmts (bodyS (nth (bodyS (stm 10)) 1))), scope := (scopeS (nth (bodyS (stm 10)) 1)), globals := 3, closure := [], defaults := .none, kwdefaults := .none, doc := .none, pyModule := (.str "clausemill.symbols" 194), annotations := none, code := (.ref 87), closureTuple := .none, builtins := 0 }), #[]⟩
noncomputable def o89 (P : Params) : Obj := ⟨(.type "tuple"), none, (.seq #[] 0), #[]⟩
noncomputable def o90 (P : Params) : Obj := ⟨.none, none, (.fields #[]), #[]⟩
noncomputable def o91 (P : Params) : Obj := ⟨(.type "tuple"), none, (.seq #[(.str "self" 295), (.str "number" 296)] 0), #[]⟩
noncomputable def o92 (P : Params) : Obj := ⟨(.type "tuple"), none, (.seq #[] 0), #[]⟩
noncomputable def o93 (P : Params) : Obj := ⟨.none, none, (.func { name := "text", qualname := "Symbols.text", params := (argsS (nth (bodyS (stm 10)) 2)), body := (.stmts (bodyS (nth (bodyS (stm 10)) 2))), scope := (scopeS (nth (bodyS (stm 10)) 2)), globals := 0, closure := [], defaults := .none, kwdefaults := .none, doc := .none, pyModule := .none, annotations := none, code := .none, closureTuple := .none, builtins := 0 }), #[]⟩
noncomputable def o94 (P : Params) : Obj := ⟨(.type "code"), none, (.fields #[(.str "text" 292), (.str "Symbols.text" 293), (.str "/claim/cut.py" 294), (.int 40 0), (.int 2 0), (.int 0 0), (.int 0 0), (.int 3 0), (.ref 89), (.bool true), (.int 181 0), (.ref 90), .none, (.ref 91), (.ref 92), (.ref 93), (.int 297 0), (.int 40 0), (.str "/claim/cut.py" 298)]), #[]⟩
noncomputable def o95 (P : Params) : Obj := ⟨(.type "function"), none, (.func { name := "text", qualname := "Symbols.text", params := (argsS (nth (bodyS (stm 10)) 2)), body := (.stmts (bodyS (nth (bodyS (stm 10)) 2))), scope := (scopeS (nth (bodyS (stm 10)) 2)), globals := 3, closure := [], defaults := .none, kwdefaults := .none, doc := .none, pyModule := (.str "clausemill.symbols" 194), annotations := none, code := (.ref 94), closureTuple := .none, builtins := 0 }), #[]⟩
noncomputable def o96 (P : Params) : Obj := ⟨(.type "tuple"), none, (.seq #[] 0), #[]⟩
noncomputable def o97 (P : Params) : Obj := ⟨.none, none, (.fields #[]), #[]⟩
noncomputable def o98 (P : Params) : Obj := ⟨(.type "tuple"), none, (.seq #[(.str "self" 303), (.str "atom" 304), (.str "arity" 305), (.str "key" 306), (.str "found" 307), (.str "number" 308)] 0), #[]⟩
noncomputable def o99 (P : Params) : Obj := ⟨(.type "tuple"), none, (.seq #[] 0), #[]⟩
noncomputable def o100 (P : Params) : Obj := ⟨.none, none, (.func { name := "functor", qualname := "Symbols.functor", params := (argsS (nth (bodyS (stm 10)) 3)), body := (.stmts (bodyS (nth (bodyS (stm 10)) 3))), scope := (scopeS (nth (bodyS (stm 10)) 3)), globals := 0, closure := [], defaults := .none, kwdefaults := .none, doc := .none, pyModule := .none, annotations := none, code := .none, closureTuple := .none, builtins := 0 }), #[]⟩
noncomputable def o101 (P : Params) : Obj := ⟨(.type "code"), none, (.fields #[(.str "functor" 300), (.str "Symbols.functor" 301), (.str "/claim/cut.py" 302), (.int 43 0), (.int 3 0), (.int 0 0), (.int 0 0), (.int 3 0), (.ref 96), (.bool true), (.int 181 0), (.ref 97), .none, (.ref 98), (.ref 99), (.ref 100), (.int 309 0), (.int 43 0), (.str "/claim/cut.py" 310)]), #[]⟩
noncomputable def o102 (P : Params) : Obj := ⟨(.type "function"), none, (.func { name := "functor", qualname := "Symbols.functor", params := (argsS (nth (bodyS (stm 10)) 3)), body := (.stmts (bodyS (nth (bodyS (stm 10)) 3))), scope := (scopeS (nth (bodyS (stm 10)) 3)), globals := 3, closure := [], defaults := .none, kwdefaults := .none, doc := .none, pyModule := (.str "clausemill.symbols" 194), annotations := none, code := (.ref 101), closureTuple := .none, builtins := 0 }), #[]⟩
noncomputable def o103 (P : Params) : Obj := ⟨(.type "tuple"), none, (.seq #[] 0), #[]⟩
noncomputable def o104 (P : Params) : Obj := ⟨.none, none, (.fields #[]), #[]⟩
noncomputable def o105 (P : Params) : Obj := ⟨(.type "tuple"), none, (.seq #[(.str "self" 315), (.str "text" 316), (.str "arity" 317)] 0), #[]⟩
noncomputable def o106 (P : Params) : Obj := ⟨(.type "tuple"), none, (.seq #[] 0), #[]⟩
noncomputable def o107 (P : Params) : Obj := ⟨.none, none, (.func { name := "func", qualname := "Symbols.func", params := (argsS (nth (bodyS (stm 10)) 4)), body := (.stmts (bodyS (nth (bodyS (stm 10)) 4))), scope := (scopeS (nth (bodyS (stm 10)) 4)), globals := 0, closure := [], defaults := .none, kwdefaults := .none, doc := .none, pyModule := .none, annotations := none, code := .none, closureTuple := .none, builtins := 0 }), #[]⟩
noncomputable def o108 (P : Params) : Obj := ⟨(.type "code"), none, (.fields #[(.str "func" 312), (.str "Symbols.func" 313), (.str "/claim/cut.py" 314), (.int 53 0), (.int 3 0), (.int 0 0), (.int 0 0), (.int 3 0), (.ref 103), (.bool true), (.int 181 0), (.ref 104), .none, (.ref 105), (.ref 106), (.ref 107), (.int 318 0), (.int 53 0), (.str "/claim/cut.py" 319)]), #[]⟩
noncomputable def o109 (P : Params) : Obj := ⟨(.type "function"), none, (.func { name := "func", qualname := "Symbols.func", params := (argsS (nth (bodyS (stm 10)) 4)), body := (.stmts (bodyS (nth (bodyS (stm 10)) 4))), scope := (scopeS (nth (bodyS (stm 10)) 4)), globals := 3, closure := [], defaults := .none, kwdefaults := .none, doc := .none, pyModule := (.str "clausemill.symbols" 194), annotations := none, code := (.ref 108), closureTuple := .none, builtins := 0 }), #[]⟩
noncomputable def o110 (P : Params) : Obj := ⟨(.type "tuple"), none, (.seq #[] 0), #[]⟩
noncomputable def o111 (P : Params) : Obj := ⟨.none, none, (.fields #[]), #[]⟩
noncomputable def o112 (P : Params) : Obj := ⟨(.type "tuple"), none, (.seq #[(.str "self" 324), (.str "functor" 325)] 0), #[]⟩
noncomputable def o113 (P : Params) : Obj := ⟨(.type "tuple"), none, (.seq #[] 0), #[]⟩
noncomputable def o114 (P : Params) : Obj := ⟨.none, none, (.func { name := "name", qualname := "Symbols.name", params := (argsS (nth (bodyS (stm 10)) 5)), body := (.stmts (bodyS (nth (bodyS (stm 10)) 5))), scope := (scopeS (nth (bodyS (stm 10)) 5)), globals := 0, closure := [], defaults := .none, kwdefaults := .none, doc := .none, pyModule := .none, annotations := none, code := .none, closureTuple := .none, builtins := 0 }), #[]⟩
noncomputable def o115 (P : Params) : Obj := ⟨(.type "code"), none, (.fields #[(.str "name" 321), (.str "Symbols.name" 322), (.str "/claim/cut.py" 323), (.int 56 0), (.int 2 0), (.int 0 0), (.int 0 0), (.int 3 0), (.ref 110), (.bool true), (.int 181 0), (.ref 111), .none, (.ref 112), (.ref 113), (.ref 114), (.int 326 0), (.int 56 0), (.str "/claim/cut.py" 327)]), #[]⟩
noncomputable def o116 (P : Params) : Obj := ⟨(.type "function"), none, (.func { name := "name", qualname := "Symbols.name", params := (argsS (nth (bodyS (stm 10)) 5)), body := (.stmts (bodyS (nth (bodyS (stm 10)) 5))), scope := (scopeS (nth (bodyS (stm 10)) 5)), globals := 3, closure := [], defaults := .none, kwdefaults := .none, doc := .none, pyModule := (.str "clausemill.symbols" 194), annotations := none, code := (.ref 115), closureTuple := .none, builtins := 0 }), #[]⟩
noncomputable def o117 (P : Params) : Obj := ⟨(.type "tuple"), none, (.seq #[] 0), #[]⟩
noncomputable def o118 (P : Params) : Obj := ⟨.none, none, (.fields #[]), #[]⟩
noncomputable def o119 (P : Params) : Obj := ⟨(.type "tuple"), none, (.seq #[(.str "self" 332), (.str "functor" 333)] 0), #[]⟩
noncomputable def o120 (P : Params) : Obj := ⟨(.type "tuple"), none, (.seq #[] 0), #[]⟩
noncomputable def o121 (P : Params) : Obj := ⟨.none, none, (.func { name := "arity", qualname := "Symbols.arity", params := (argsS (nth (bodyS (stm 10)) 6)), body := (.stmts (bodyS (nth (bodyS (stm 10)) 6))), scope := (scopeS (nth (bodyS (stm 10)) 6)), globals := 0, closure := [], defaults := .none, kwdefaults := .none, doc := .none, pyModule := .none, annotations := none, code := .none, closureTuple := .none, builtins := 0 }), #[]⟩
noncomputable def o122 (P : Params) : Obj := ⟨(.type "code"), none, (.fields #[(.str "arity" 329), (.str "Symbols.arity" 330), (.str "/claim/cut.py" 331), (.int 59 0), (.int 2 0), (.int 0 0), (.int 0 0), (.int 3 0), (.ref 117), (.bool true), (.int 181 0), (.ref 118), .none, (.ref 119), (.ref 120), (.ref 121), (.int 334 0), (.int 59 0), (.str "/claim/cut.py" 335)]), #[]⟩
noncomputable def o123 (P : Params) : Obj := ⟨(.type "function"), none, (.func { name := "arity", qualname := "Symbols.arity", params := (argsS (nth (bodyS (stm 10)) 6)), body := (.stmts (bodyS (nth (bodyS (stm 10)) 6))), scope := (scopeS (nth (bodyS (stm 10)) 6)), globals := 3, closure := [], defaults := .none, kwdefaults := .none, doc := .none, pyModule := (.str "clausemill.symbols" 194), annotations := none, code := (.ref 122), closureTuple := .none, builtins := 0 }), #[]⟩
noncomputable def o124 (P : Params) : Obj := ⟨(.type "tuple"), none, (.seq #[] 0), #[]⟩
noncomputable def o125 (P : Params) : Obj := ⟨.none, none, (.fields #[]), #[]⟩
noncomputable def o126 (P : Params) : Obj := ⟨(.type "tuple"), none, (.seq #[(.str "self" 340), (.str "functor" 341)] 0), #[]⟩
noncomputable def o127 (P : Params) : Obj := ⟨(.type "tuple"), none, (.seq #[] 0), #[]⟩
noncomputable def o128 (P : Params) : Obj := ⟨.none, none, (.func { name := "label", qualname := "Symbols.label", params := (argsS (nth (bodyS (stm 10)) 7)), body := (.stmts (bodyS (nth (bodyS (stm 10)) 7))), scope := (scopeS (nth (bodyS (stm 10)) 7)), globals := 0, closure := [], defaults := .none, kwdefaults := .none, doc := .none, pyModule := .none, annotations := none, code := .none, closureTuple := .none, builtins := 0 }), #[]⟩
noncomputable def o129 (P : Params) : Obj := ⟨(.type "code"), none, (.fields #[(.str "label" 337), (.str "Symbols.label" 338), (.str "/claim/cut.py" 339), (.int 62 0), (.int 2 0), (.int 0 0), (.int 0 0), (.int 3 0), (.ref 124), (.bool true), (.int 181 0), (.ref 125), .none, (.ref 126), (.ref 127), (.ref 128), (.int 342 0), (.int 62 0), (.str "/claim/cut.py" 343)]), #[]⟩
noncomputable def o130 (P : Params) : Obj := ⟨(.type "function"), none, (.func { name := "label", qualname := "Symbols.label", params := (argsS (nth (bodyS (stm 10)) 7)), body := (.stmts (bodyS (nth (bodyS (stm 10)) 7))), scope := (scopeS (nth (bodyS (stm 10)) 7)), globals := 3, closure := [], defaults := .none, kwdefaults := .none, doc := .none, pyModule := (.str "clausemill.symbols" 194), annotations := none, code := (.ref 129), closureTuple := .none, builtins := 0 }), #[]⟩
noncomputable def o131 (P : Params) : Obj := ⟨(.type "tuple"), none, (.seq #[] 0), #[]⟩
noncomputable def o132 (P : Params) : Obj := ⟨.none, none, (.fields #[]), #[]⟩
noncomputable def o133 (P : Params) : Obj := ⟨(.type "tuple"), none, (.seq #[(.str "self" 348)] 0), #[]⟩
noncomputable def o134 (P : Params) : Obj := ⟨(.type "tuple"), none, (.seq #[] 0), #[]⟩
noncomputable def o135 (P : Params) : Obj := ⟨.none, none, (.func { name := "count", qualname := "Symbols.count", params := (argsS (nth (bodyS (stm 10)) 8)), body := (.stmts (bodyS (nth (bodyS (stm 10)) 8))), scope := (scopeS (nth (bodyS (stm 10)) 8)), globals := 0, closure := [], defaults := .none, kwdefaults := .none, doc := .none, pyModule := .none, annotations := none, code := .none, closureTuple := .none, builtins := 0 }), #[]⟩
noncomputable def o136 (P : Params) : Obj := ⟨(.type "code"), none, (.fields #[(.str "count" 345), (.str "Symbols.count" 346), (.str "/claim/cut.py" 347), (.int 65 0), (.int 1 0), (.int 0 0), (.int 0 0), (.int 3 0), (.ref 131), (.bool true), (.int 181 0), (.ref 132), .none, (.ref 133), (.ref 134), (.ref 135), (.int 349 0), (.int 65 0), (.str "/claim/cut.py" 350)]), #[]⟩
noncomputable def o137 (P : Params) : Obj := ⟨(.type "function"), none, (.func { name := "count", qualname := "Symbols.count", params := (argsS (nth (bodyS (stm 10)) 8)), body := (.stmts (bodyS (nth (bodyS (stm 10)) 8))), scope := (scopeS (nth (bodyS (stm 10)) 8)), globals := 3, closure := [], defaults := .none, kwdefaults := .none, doc := .none, pyModule := (.str "clausemill.symbols" 194), annotations := none, code := (.ref 136), closureTuple := .none, builtins := 0 }), #[]⟩
noncomputable def o138 (P : Params) : Obj := ⟨(.type "tuple"), none, (.seq #[] 0), #[]⟩
noncomputable def o139 (P : Params) : Obj := ⟨.none, none, (.fields #[]), #[]⟩
noncomputable def o140 (P : Params) : Obj := ⟨(.type "tuple"), none, (.seq #[(.str "self" 355)] 0), #[]⟩
noncomputable def o141 (P : Params) : Obj := ⟨(.type "tuple"), none, (.seq #[] 0), #[]⟩
noncomputable def o142 (P : Params) : Obj := ⟨.none, none, (.func { name := "functor_count", qualname := "Symbols.functor_count", params := (argsS (nth (bodyS (stm 10)) 9)), body := (.stmts (bodyS (nth (bodyS (stm 10)) 9))), scope := (scopeS (nth (bodyS (stm 10)) 9)), globals := 0, closure := [], defaults := .none, kwdefaults := .none, doc := .none, pyModule := .none, annotations := none, code := .none, closureTuple := .none, builtins := 0 }), #[]⟩
noncomputable def o143 (P : Params) : Obj := ⟨(.type "code"), none, (.fields #[(.str "functor_count" 352), (.str "Symbols.functor_count" 353), (.str "/claim/cut.py" 354), (.int 68 0), (.int 1 0), (.int 0 0), (.int 0 0), (.int 3 0), (.ref 138), (.bool true), (.int 181 0), (.ref 139), .none, (.ref 140), (.ref 141), (.ref 142), (.int 356 0), (.int 68 0), (.str "/claim/cut.py" 357)]), #[]⟩
noncomputable def o144 (P : Params) : Obj := ⟨(.type "function"), none, (.func { name := "functor_count", qualname := "Symbols.functor_count", params := (argsS (nth (bodyS (stm 10)) 9)), body := (.stmts (bodyS (nth (bodyS (stm 10)) 9))), scope := (scopeS (nth (bodyS (stm 10)) 9)), globals := 3, closure := [], defaults := .none, kwdefaults := .none, doc := .none, pyModule := (.str "clausemill.symbols" 194), annotations := none, code := (.ref 143), closureTuple := .none, builtins := 0 }), #[]⟩
noncomputable def o145 (P : Params) : Obj := ⟨(.type "tuple"), none, (.seq #[] 0), #[]⟩
noncomputable def o146 (P : Params) : Obj := ⟨.none, none, (.fields #[]), #[]⟩
noncomputable def o147 (P : Params) : Obj := ⟨(.type "tuple"), none, (.seq #[(.str "self" 362), (.str "text" 363), (.str "arity" 364)] 0), #[]⟩
noncomputable def o148 (P : Params) : Obj := ⟨(.type "tuple"), none, (.seq #[] 0), #[]⟩
noncomputable def o149 (P : Params) : Obj := ⟨.none, none, (.func { name := "known", qualname := "Symbols.known", params := (argsS (nth (bodyS (stm 10)) 10)), body := (.stmts (bodyS (nth (bodyS (stm 10)) 10))), scope := (scopeS (nth (bodyS (stm 10)) 10)), globals := 0, closure := [], defaults := .none, kwdefaults := .none, doc := .none, pyModule := .none, annotations := none, code := .none, closureTuple := .none, builtins := 0 }), #[]⟩
noncomputable def o150 (P : Params) : Obj := ⟨(.type "code"), none, (.fields #[(.str "known" 359), (.str "Symbols.known" 360), (.str "/claim/cut.py" 361), (.int 71 0), (.int 3 0), (.int 0 0), (.int 0 0), (.int 3 0), (.ref 145), (.bool true), (.int 181 0), (.ref 146), .none, (.ref 147), (.ref 148), (.ref 149), (.int 365 0), (.int 71 0), (.str "/claim/cut.py" 366)]), #[]⟩
noncomputable def o151 (P : Params) : Obj := ⟨(.type "function"), none, (.func { name := "known", qualname := "Symbols.known", params := (argsS (nth (bodyS (stm 10)) 10)), body := (.stmts (bodyS (nth (bodyS (stm 10)) 10))), scope := (scopeS (nth (bodyS (stm 10)) 10)), globals := 3, closure := [], defaults := .none, kwdefaults := .none, doc := .none, pyModule := (.str "clausemill.symbols" 194), annotations := none, code := (.ref 150), closureTuple := .none, builtins := 0 }), #[]⟩
noncomputable def o152 (P : Params) : Obj := ⟨(.type "tuple"), none, (.seq #[(.str "atom_numbers" 368), (.str "functor_numbers" 369), (.str "functors" 370), (.str "texts" 371)] 0), #[]⟩
noncomputable def o153 (P : Params) : Obj := ⟨(.type "dict"), none, (.dict (Array.mk [(en P "__module__" 268 (.str "clausemill.symbols" 194)), (en P "__firstlineno__" 272 (.int 19 271)), (en P "__init__" 281 (.ref 81)), (en P "atom" 291 (.ref 88)), (en P "text" 299 (.ref 95)), (en P "functor" 311 (.ref 102)), (en P "func" 320 (.ref 109)), (en P "name" 328 (.ref 116)), (en P "arity" 336 (.ref 123)), (en P "label" 344 (.ref 130)), (en P "count" 351 (.ref 137)), (en P "functor_count" 358 (.ref 144)), (en P "known" 367 (.ref 151)), (en P "__static_attributes__" 372 (.ref 152)), (en P "__dict__" 374 (.ref 155)), (en P "__weakref__" 376 (.ref 156)), (en P "__doc__" 377 .none)]) 4), #[]⟩
noncomputable def o154 (P : Params) : Obj := ⟨(.type "type"), none, (.cls { name := "Symbols", bases := [(.type "object")], mro := [(.ref 154), (.type "object")], ns := 153, qualname := "Symbols", hasDict := true, slotNames := [], subclasses := [], abstract := false, collection := none, hasDel := false }), #[none, none, some (.str "Symbols" 261), some (.str "Symbols" 269), some (.builtin "object.__new__"), some (.bool true)]⟩
noncomputable def o155 (P : Params) : Obj := ⟨(.type "getset_descriptor"), none, (.fields #[(.str "__dict__" 373), (.ref 154), (.builtin "function.__dict__"), (.builtin "function.__dict__#set")]), #[]⟩
noncomputable def o156 (P : Params) : Obj := ⟨(.type "getset_descriptor"), none, (.fields #[(.str "__weakref__" 375), (.ref 154), (.builtin "ExceptionGroup.__weakref__"), .none]), #[]⟩
noncomputable def o157 (P : Params) : Obj := ⟨(.type "super"), none, (.fields #[(.ref 154), (.ref 154), (.ref 154)]), #[]⟩
noncomputable def o158 (P : Params) : Obj := ⟨(.type "builtin_function_or_method"), none, (.fields #[(.builtin "object.__init_subclass__"), (.ref 154)]), #[]⟩
noncomputable def tr_1 (P : Params) : BT := (.node (boot_o_0 P) (.node (boot_o_1 P) (.node (o3_1 P) (.node (boot_o_7 P) (.node (o15 P) (.node (o31 P) (.node (o63 P) (.node (o127 P) .nil .nil) .nil) (.node (o95 P) .nil .nil)) (.node (o47 P) (.node (o79 P) (.node (o143 P) .nil .nil) .nil) (.node (o111 P) .nil .nil))) (.node (o23 P) (.node (o39 P) (.node (o71 P) (.node (o135 P) .nil .nil) .nil) (.node (o103 P) .nil .nil)) (.node (o55 P) (.node (o87 P) (.node (o151 P) .nil .nil) .nil) (.node (o119 P) .nil .nil)))) (.node (o11 P) (.node (o19 P) (.node (o35 P) (.node (o67 P) (.node (o131 P) .nil .nil) .nil) (.node (o99 P) .nil .nil)) (.node (o51 P) (.node (o83 P) (.node (o147 P) .nil .nil) .nil) (.node (o115 P) .nil .nil))) (.node (o27 P) (.node (o43 P) (.node (o75 P) (.node (o139 P) .nil .nil) .nil) (.node (o107 P) .nil .nil)) (.node (o59 P) (.node (o91 P) (.node (o155 P) .nil .nil) .nil) (.node (o123 P) .nil .nil))))) (.node (boot_o_5 P) (.node (boot_o_9 P) (.node (o17 P) (.node (o33 P) (.node (o65 P) (.node (o129 P) .nil .nil) .nil) (.node (o97 P) .nil .nil)) (.node (o49 P) (.node (o81 P) (.node (o145 P) .nil .nil) .nil) (.node (o113 P) .nil .nil))) (.node (o25 P) (.node (o41 P) (.node (o73 P) (.node (o137 P) .nil .nil) .nil) (.node (o105 P) .nil .nil)) (.node (o57 P) (.node (o89 P) (.node (o153 P) .nil .nil) .nil) (.node (o121 P) .nil .nil)))) (.node (o13 P) (.node (o21 P) (.node (o37 P) (.node (o69 P) (.node (o133 P) .nil .nil) .nil) (.node (o101 P) .nil .nil)) (.node (o53 P) (.node (o85 P) (.node (o149 P) .nil .nil) .nil) (.node (o117 P) .nil .nil))) (.node (o29 P) (.node (o45 P) (.node (o77 P) (.node (o141 P) .nil .nil) .nil) (.node (o109 P) .nil .nil)) (.node (o61 P) (.node (o93 P) (.node (o157 P) .nil .nil) .nil) (.node (o125 P) .nil .nil)))))) (.node (o2_0 P) (.node (boot_o_4 P) (.node (boot_o_8 P) (.node (o16 P) (.node (o32 P) (.node (o64 P) (.node (o128 P) .nil .nil) .nil) (.node (o96 P) .nil .nil)) (.node (o48 P) (.node (o80 P) (.node (o144 P) .nil .nil) .nil) (.node (o112 P) .nil .nil))) (.node (o24 P) (.node (o40 P) (.node (o72 P) (.node (o136 P) .nil .nil) .nil) (.node (o104 P) .nil .nil)) (.node (o56 P) (.node (o88 P) (.node (o152 P) .nil .nil) .nil) (.node (o120 P) .nil .nil)))) (.node (o12_1 P) (.node (o20 P) (.node (o36 P) (.node (o68 P) (.node (o132 P) .nil .nil) .nil) (.node (o100 P) .nil .nil)) (.node (o52 P) (.node (o84 P) (.node (o148 P) .nil .nil) .nil) (.node (o116 P) .nil .nil))) (.node (o28 P) (.node (o44 P) (.node (o76 P) (.node (o140 P) .nil .nil) .nil) (.node (o108 P) .nil .nil)) (.node (o60 P) (.node (o92 P) (.node (o156 P) .nil .nil) .nil) (.node (o124 P) .nil .nil))))) (.node (boot_o_6 P) (.node (boot_o_10 P) (.node (o18 P) (.node (o34 P) (.node (o66 P) (.node (o130 P) .nil .nil) .nil) (.node (o98 P) .nil .nil)) (.node (o50 P) (.node (o82 P) (.node (o146 P) .nil .nil) .nil) (.node (o114 P) .nil .nil))) (.node (o26 P) (.node (o42 P) (.node (o74 P) (.node (o138 P) .nil .nil) .nil) (.node (o106 P) .nil .nil)) (.node (o58 P) (.node (o90 P) (.node (o154 P) .nil .nil) .nil) (.node (o122 P) .nil .nil)))) (.node (o14 P) (.node (o22 P) (.node (o38 P) (.node (o70 P) (.node (o134 P) .nil .nil) .nil) (.node (o102 P) .nil .nil)) (.node (o54 P) (.node (o86 P) (.node (o150 P) .nil .nil) .nil) (.node (o118 P) .nil .nil))) (.node (o30 P) (.node (o46 P) (.node (o78 P) (.node (o142 P) .nil .nil) .nil) (.node (o110 P) .nil .nil)) (.node (o62 P) (.node (o94 P) (.node (o158 P) .nil .nil) .nil) (.node (o126 P) .nil .nil)))))))
noncomputable def o3_2 (P : Params) : Obj := ⟨(.type "dict"), none, (.dict (Array.mk [(en P "__name__" 165 (.str "clausemill.store" 408)), (en P "__doc__" 166 .none), (en P "__package__" 167 .none), (en P "__loader__" 168 (.builtin "__main__.__loader__#opaque")), (en P "__spec__" 169 .none), (en P "__annotations__" 170 (.ref 6)), (en P "__builtins__" 171 (.ref 4)), (en P "__file__" 173 (.str "/claim/cut.py" 172)), (en P "__cached__" 174 .none), (en P "_wall" 193 (.ref 21)), (en P "ClausemillError" 215 (.ref 31)), (en P "PrologError" 240 (.ref 51)), (en P "A_NIL" 242 (.int 0 241)), (en P "A_SYSTEM" 244 (.int 25 243)), (en P "F_DOT" 246 (.int 0 245)), (en P "F_ERROR" 248 (.int 16 247)), (en P "fixed_atoms" 254 (.ref 60)), (en P "fixed_functors" 260 (.ref 67)), (en P "Symbols" 379 (.ref 154)), (en P "system_error" 388 (.ref 165)), (en P "formal_of" 399 (.ref 172)), (en P "resource_error" 407 (.ref 179)), (en P "REF" 411 (.int 0 410)), (en P "SRF" 413 (.int 1 412)), (en P "STR" 415 (.int 2 414)), (en P "LIS" 417 (.int 3 416)), (en P "CON" 419 (.int 4 418)), (en P "INT" 421 (.int 5 420)), (en P "FUN" 423 (.int 6 422))]) 29), #[]⟩
noncomputable def o12_2 (P : Params) : Obj := ⟨.none, none, (.fields #[(.int 1 0), (.int 0 0), (.ref 20), (.int 5 0), (.int 0 0), (.ref 27), (.int 7 0), (.int 0 0), (.ref 40), (.int 15 0), (.int 0 0), (.ref 59), (.int 17 0), (.int 0 0), (.ref 66), (.int 19 0), (.int 0 0), (.ref 73), (.int 74 0), (.int 0 0), (.ref 164), (.int 76 0), (.int 0 0), (.ref 171), (.int 81 0), (.int 0 0), (.ref 178)]), #[]⟩
noncomputable def o159 (P : Params) : Obj := ⟨(.type "tuple"), none, (.seq #[] 0), #[]⟩
noncomputable def o160 (P : Params) : Obj := ⟨.none, none, (.fields #[]), #[]⟩
noncomputable def o161 (P : Params) : Obj := ⟨(.type "tuple"), none, (.seq #[(.str "formal" 385)] 0), #[]⟩
noncomputable def o162 (P : Params) : Obj := ⟨(.type "tuple"), none, (.seq #[] 0), #[]⟩
noncomputable def o163 (P : Params) : Obj := ⟨.none, none, (.func { name := "system_error", qualname := "system_error", params := (argsS (stm 12)), body := (.stmts (bodyS (stm 12))), scope := (scopeS (stm 12)), globals := 0, closure := [], defaults := .none, kwdefaults := .none, doc := .none, pyModule := .none, annotations := none, code := .none, closureTuple := .none, builtins := 0 }), #[]⟩
noncomputable def o164 (P : Params) : Obj := ⟨(.type "code"), none, (.fields #[(.str "system_error" 382), (.str "system_error" 383), (.str "/claim/cut.py" 384), (.int 74 0), (.int 1 0), (.int 0 0), (.int 0 0), (.int 3 0), (.ref 159), (.bool true), (.int 181 0), (.ref 160), .none, (.ref 161), (.ref 162), (.ref 163), (.int 386 0), (.int 74 0), (.str "/claim/cut.py" 387)]), #[]⟩
noncomputable def o165 (P : Params) : Obj := ⟨(.type "function"), none, (.func { name := "system_error", qualname := "system_error", params := (argsS (stm 12)), body := (.stmts (bodyS (stm 12))), scope := (scopeS (stm 12)), globals := 3, closure := [], defaults := .none, kwdefaults := .none, doc := .none, pyModule := (.str "clausemill.terms" 380), annotations := none, code := (.ref 164), closureTuple := .none, builtins := 0 }), #[]⟩
noncomputable def o166 (P : Params) : Obj := ⟨(.type "tuple"), none, (.seq #[] 0), #[]⟩
noncomputable def o167 (P : Params) : Obj := ⟨.none, none, (.fields #[]), #[]⟩
noncomputable def o168 (P : Params) : Obj := ⟨(.type "tuple"), none, (.seq #[(.str "symbols" 392), (.str "name" 393), (.str "parts" 394), (.str "args" 395), (.str "part" 396)] 0), #[]⟩
noncomputable def o169 (P : Params) : Obj := ⟨(.type "tuple"), none, (.seq #[] 0), #[]⟩
noncomputable def o170 (P : Params) : Obj := ⟨.none, none, (.func { name := "formal_of", qualname := "formal_of", params := (argsS (stm 13)), body := (.stmts (bodyS (stm 13))), scope := (scopeS (stm 13)), globals := 0, closure := [], defaults := .none, kwdefaults := .none, doc := .none, pyModule := .none, annotations := none, code := .none, closureTuple := .none, builtins := 0 }), #[]⟩
noncomputable def o171 (P : Params) : Obj := ⟨(.type "code"), none, (.fields #[(.str "formal_of" 389), (.str "formal_of" 390), (.str "/claim/cut.py" 391), (.int 76 0), (.int 3 0), (.int 0 0), (.int 0 0), (.int 3 0), (.ref 166), (.bool true), (.int 181 0), (.ref 167), .none, (.ref 168), (.ref 169), (.ref 170), (.int 397 0), (.int 76 0), (.str "/claim/cut.py" 398)]), #[]⟩
noncomputable def o172 (P : Params) : Obj := ⟨(.type "function"), none, (.func { name := "formal_of", qualname := "formal_of", params := (argsS (stm 13)), body := (.stmts (bodyS (stm 13))), scope := (scopeS (stm 13)), globals := 3, closure := [], defaults := .none, kwdefaults := .none, doc := .none, pyModule := (.str "clausemill.terms" 380), annotations := none, code := (.ref 171), closureTuple := .none, builtins := 0 }), #[]⟩
noncomputable def o173 (P : Params) : Obj := ⟨(.type "tuple"), none, (.seq #[] 0), #[]⟩
noncomputable def o174 (P : Params) : Obj := ⟨.none, none, (.fields #[]), #[]⟩
noncomputable def o175 (P : Params) : Obj := ⟨(.type "tuple"), none, (.seq #[(.str "symbols" 403), (.str "what" 404)] 0), #[]⟩
noncomputable def o176 (P : Params) : Obj := ⟨(.type "tuple"), none, (.seq #[] 0), #[]⟩
noncomputable def o177 (P : Params) : Obj := ⟨.none, none, (.func { name := "resource_error", qualname := "resource_error", params := (argsS (stm 14)), body := (.stmts (bodyS (stm 14))), scope := (scopeS (stm 14)), globals := 0, closure := [], defaults := .none, kwdefaults := .none, doc := .none, pyModule := .none, annotations := none, code := .none, closureTuple := .none, builtins := 0 }), #[]⟩
noncomputable def o178 (P : Params) : Obj := ⟨(.type "code"), none, (.fields #[(.str "resource_error" 400), (.str "resource_error" 401), (.str "/claim/cut.py" 402), (.int 81 0), (.int 2 0), (.int 0 0), (.int 0 0), (.int 3 0), (.ref 173), (.bool true), (.int 181 0), (.ref 174), .none, (.ref 175), (.ref 176), (.ref 177), (.int 405 0), (.int 81 0), (.str "/claim/cut.py" 406)]), #[]⟩
noncomputable def o179 (P : Params) : Obj := ⟨(.type "function"), none, (.func { name := "resource_error", qualname := "resource_error", params := (argsS (stm 14)), body := (.stmts (bodyS (stm 14))), scope := (scopeS (stm 14)), globals := 3, closure := [], defaults := .none, kwdefaults := .none, doc := .none, pyModule := (.str "clausemill.terms" 380), annotations := none, code := (.ref 178), closureTuple := .none, builtins := 0 }), #[]⟩
noncomputable def tr_2 (P : Params) : BT := (.node (boot_o_0 P) (.node (boot_o_1 P) (.node (o3_2 P) (.node (boot_o_7 P) (.node (o15 P) (.node (o31 P) (.node (o63 P) (.node (o127 P) .nil .nil) .nil) (.node (o95 P) (.node (o159 P) .nil .nil) .nil)) (.node (o47 P) (.node (o79 P) (.node (o143 P) .nil .nil) .nil) (.node (o111 P) (.node (o175 P) .nil .nil) .nil))) (.node (o23 P) (.node (o39 P) (.node (o71 P) (.node (o135 P) .nil .nil) .nil) (.node (o103 P) (.node (o167 P) .nil .nil) .nil)) (.node (o55 P) (.node (o87 P) (.node (o151 P) .nil .nil) .nil) (.node (o119 P) .nil .nil)))) (.node (o11 P) (.node (o19 P) (.node (o35 P) (.node (o67 P) (.node (o131 P) .nil .nil) .nil) (.node (o99 P) (.node (o163 P) .nil .nil) .nil)) (.node (o51 P) (.node (o83 P) (.node (o147 P) .nil .nil) .nil) (.node (o115 P) (.node (o179 P) .nil .nil) .nil))) (.node (o27 P) (.node (o43 P) (.node (o75 P) (.node (o139 P) .nil .nil) .nil) (.node (o107 P) (.node (o171 P) .nil .nil) .nil)) (.node (o59 P) (.node (o91 P) (.node (o155 P) .nil .nil) .nil) (.node (o123 P) .nil .nil))))) (.node (boot_o_5 P) (.node (boot_o_9 P) (.node (o17 P) (.node (o33 P) (.node (o65 P) (.node (o129 P) .nil .nil) .nil) (.node (o97 P) (.node (o161 P) .nil .nil) .nil)) (.node (o49 P) (.node (o81 P) (.node (o145 P) .nil .nil) .nil) (.node (o113 P) (.node (o177 P) .nil .nil) .nil))) (.node (o25 P) (.node (o41 P) (.node (o73 P) (.node (o137 P) .nil .nil) .nil) (.node (o105 P) (.node (o169 P) .nil .nil) .nil)) (.node (o57 P) (.node (o89 P) (.node (o153 P) .nil .nil) .nil) (.node (o121 P) .nil .nil)))) (.node (o13 P) (.node (o21 P) (.node (o37 P) (.node (o69 P) (.node (o133 P) .nil .nil) .nil) (.node (o101 P) (.node (o165 P) .nil .nil) .nil)) (.node (o53 P) (.node (o85 P) (.node (o149 P) .nil .nil) .nil) (.node (o117 P) .nil .nil))) (.node (o29 P) (.node (o45 P) (.node (o77 P) (.node (o141 P) .nil .nil) .nil) (.node (o109 P) (.node (o173 P) .nil .nil) .nil)) (.node (o61 P) (.node (o93 P) (.node (o157 P) .nil .nil) .nil) (.node (o125 P) .nil .nil)))))) (.node (o2_0 P) (.node (boot_o_4 P) (.node (boot_o_8 P) (.node (o16 P) (.node (o32 P) (.node (o64 P) (.node (o128 P) .nil .nil) .nil) (.node (o96 P) (.node (o160 P) .nil .nil) .nil)) (.node (o48 P) (.node (o80 P) (.node (o144 P) .nil .nil) .nil) (.node (o112 P) (.node (o176 P) .nil .nil) .nil))) (.node (o24 P) (.node (o40 P) (.node (o72 P) (.node (o136 P) .nil .nil) .nil) (.node (o104 P) (.node (o168 P) .nil .nil) .nil)) (.node (o56 P) (.node (o88 P) (.node (o152 P) .nil .nil) .nil) (.node (o120 P) .nil .nil)))) (.node (o12_2 P) (.node (o20 P) (.node (o36 P) (.node (o68 P) (.node (o132 P) .nil .nil) .nil) (.node (o100 P) (.node (o164 P) .nil .nil) .nil)) (.node (o52 P) (.node (o84 P) (.node (o148 P) .nil .nil) .nil) (.node (o116 P) .nil .nil))) (.node (o28 P) (.node (o44 P) (.node (o76 P) (.node (o140 P) .nil .nil) .nil) (.node (o108 P) (.node (o172 P) .nil .nil) .nil)) (.node (o60 P) (.node (o92 P) (.node (o156 P) .nil .nil) .nil) (.node (o124 P) .nil .nil))))) (.node (boot_o_6 P) (.node (boot_o_10 P) (.node (o18 P) (.node (o34 P) (.node (o66 P) (.node (o130 P) .nil .nil) .nil) (.node (o98 P) (.node (o162 P) .nil .nil) .nil)) (.node (o50 P) (.node (o82 P) (.node (o146 P) .nil .nil) .nil) (.node (o114 P) (.node (o178 P) .nil .nil) .nil))) (.node (o26 P) (.node (o42 P) (.node (o74 P) (.node (o138 P) .nil .nil) .nil) (.node (o106 P) (.node (o170 P) .nil .nil) .nil)) (.node (o58 P) (.node (o90 P) (.node (o154 P) .nil .nil) .nil) (.node (o122 P) .nil .nil)))) (.node (o14 P) (.node (o22 P) (.node (o38 P) (.node (o70 P) (.node (o134 P) .nil .nil) .nil) (.node (o102 P) (.node (o166 P) .nil .nil) .nil)) (.node (o54 P) (.node (o86 P) (.node (o150 P) .nil .nil) .nil) (.node (o118 P) .nil .nil))) (.node (o30 P) (.node (o46 P) (.node (o78 P) (.node (o142 P) .nil .nil) .nil) (.node (o110 P) (.node (o174 P) .nil .nil) .nil)) (.node (o62 P) (.node (o94 P) (.node (o158 P) .nil .nil) .nil) (.node (o126 P) .nil .nil)))))))
noncomputable def o3_3 (P : Params) : Obj := ⟨(.type "dict"), none, (.dict (Array.mk [(en P "__name__" 165 (.str "clausemill.store" 408)), (en P "__doc__" 166 .none), (en P "__package__" 167 .none), (en P "__loader__" 168 (.builtin "__main__.__loader__#opaque")), (en P "__spec__" 169 .none), (en P "__annotations__" 170 (.ref 6)), (en P "__builtins__" 171 (.ref 4)), (en P "__file__" 173 (.str "/claim/cut.py" 172)), (en P "__cached__" 174 .none), (en P "_wall" 193 (.ref 21)), (en P "ClausemillError" 215 (.ref 31)), (en P "PrologError" 240 (.ref 51)), (en P "A_NIL" 242 (.int 0 241)), (en P "A_SYSTEM" 244 (.int 25 243)), (en P "F_DOT" 246 (.int 0 245)), (en P "F_ERROR" 248 (.int 16 247)), (en P "fixed_atoms" 254 (.ref 60)), (en P "fixed_functors" 260 (.ref 67)), (en P "Symbols" 379 (.ref 154)), (en P "system_error" 388 (.ref 165)), (en P "formal_of" 399 (.ref 172)), (en P "resource_error" 407 (.ref 179)), (en P "REF" 411 (.int 0 410)), (en P "SRF" 413 (.int 1 412)), (en P "STR" 415 (.int 2 414)), (en P "LIS" 417 (.int 3 416)), (en P "CON" 419 (.int 4 418)), (en P "INT" 421 (.int 5 420)), (en P "FUN" 423 (.int 6 422)), (en P "Cells" 617 (.ref 323))]) 30), #[]⟩
noncomputable def o12_3 (P : Params) : Obj := ⟨.none, none, (.fields #[(.int 1 0), (.int 0 0), (.ref 20), (.int 5 0), (.int 0 0), (.ref 27), (.int 7 0), (.int 0 0), (.ref 40), (.int 15 0), (.int 0 0), (.ref 59), (.int 17 0), (.int 0 0), (.ref 66), (.int 19 0), (.int 0 0), (.ref 73), (.int 74 0), (.int 0 0), (.ref 164), (.int 76 0), (.int 0 0), (.ref 171), (.int 81 0), (.int 0 0), (.ref 178), (.int 91 0), (.int 0 0), (.ref 185)]), #[]⟩
noncomputable def o180 (P : Params) : Obj := ⟨(.type "tuple"), none, (.seq #[] 0), #[]⟩
noncomputable def o181 (P : Params) : Obj := ⟨(.type "builtin_function_or_method"), none, (.fields #[(.builtin "type.__prepare__"), (.type "type")]), #[]⟩
noncomputable def o182 (P : Params) : Obj := ⟨(.type "dict"), none, (.dict (Array.mk [(en P "__module__" 431 (.str "clausemill.store" 408)), (en P "__qualname__" 433 (.str "Cells" 432)), (en P "__firstlineno__" 435 (.int 91 434)), (en P "__init__" 445 (.ref 194)), (en P "push" 454 (.ref 201)), (en P "new_var" 462 (.ref 208)), (en P "reserve" 472 (.ref 215)), (en P "trim" 480 (.ref 222)), (en P "deref" 490 (.ref 229)), (en P "is_unbound" 498 (.ref 236)), (en P "bind" 508 (.ref 243)), (en P "bind_pair" 517 (.ref 250)), (en P "globalise" 526 (.ref 257)), (en P "mark" 533 (.ref 264)), (en P "undo_to" 541 (.ref 271)), (en P "stack_put" 550 (.ref 278)), (en P "is_compound" 558 (.ref 285)), (en P "functor_of" 567 (.ref 292)), (en P "width" 576 (.ref 299)), (en P "base" 584 (.ref 306)), (en P "arg" 593 (.ref 313)), (en P "new_block" 602 (.ref 320)), (en P "__static_attributes__" 610 (.ref 321))]) 23), #[]⟩
noncomputable def o183 (P : Params) : Obj := ⟨(.type "tuple"), none, (.seq #[] 0), #[]⟩
noncomputable def o184 (P : Params) : Obj := ⟨.none, none, (.fields #[(.int 93 0), (.int 4 0), (.ref 193), (.int 102 0), (.int 4 0), (.ref 200), (.int 109 0), (.int 4 0), (.ref 207), (.int 114 0), (.int 4 0), (.ref 214), (.int 122 0), (.int 4 0), (.ref 221), (.int 125 0), (.int 4 0), (.ref 228), (.int 138 0), (.int 4 0), (.ref 235), (.int 141 0), (.int 4 0), (.ref 242), (.int 152 0), (.int 4 0), (.ref 249), (.int 155 0), (.int 4 0), (.ref 256), (.int 163 0), (.int 4 0), (.ref 263), (.int 166 0), (.int 4 0), (.ref 270), (.int 169 0), (.int 4 0), (.ref 277), (.int 172 0), (.int 4 0), (.ref 284), (.int 175 0), (.int 4 0), (.ref 291), (.int 185 0), (.int 4 0), (.ref 298), (.int 193 0), (.int 4 0), (.ref 305), (.int 198 0), (.int 4 0), (.ref 312), (.int 201 0), (.int 4 0), (.ref 319)]), #[]⟩
noncomputable def o185 (P : Params) : Obj := ⟨(.type "code"), none, (.fields #[(.str "Cells" 426), (.str "Cells" 427), (.str "/claim/cut.py" 428), (.int 91 0), (.int 0 0), (.int 0 0), (.int 0 0), (.int 0 0), (.ref 183), (.bool false), (.int 181 0), (.ref 184), .none, .none, .none, .none, (.int 429 0), (.int 91 0), (.str "/claim/cut.py" 430)]), #[]⟩
noncomputable def o186 (P : Params) : Obj := ⟨(.type "frame"), none, .plain, #[some (.ref 185), some (.ref 3), some (.ref 182), none, some (.str "clausemill.store" 408), none, some (.ref 0)]⟩
noncomputable def o187 (P : Params) : Obj := ⟨(.type "tuple"), none, (.seq #[(.int 100000 436)] 0), #[]⟩
noncomputable def o188 (P : Params) : Obj := ⟨(.type "tuple"), none, (.seq #[] 0), #[]⟩
noncomputable def o189 (P : Params) : Obj := ⟨.none, none, (.fields #[]), #[]⟩
noncomputable def o190 (P : Params) : Obj := ⟨(.type "tuple"), none, (.seq #[(.str "self" 440), (.str "symbols" 441), (.str "max_heap" 442)] 0), #[]⟩
noncomputable def o191 (P : Params) : Obj := ⟨(.type "tuple"), none, (.seq #[] 0), #[]⟩
noncomputable def o192 (P : Params) : Obj := ⟨.none, none, (.func { name := "__init__", qualname := "Cells.__init__", params := (argsS (nth (bodyS (stm 23)) 0)), body := (.stmts (bodyS (nth (bodyS (stm 23)) 0))), scope := (scopeS (nth (bodyS (stm 23)) 0)), globals := 0, closure := [], defaults := .none, kwdefaults := .none, doc := .none, pyModule := .none, annotations := none, code := .none, closureTuple := .none, builtins := 0 }), #[]⟩
noncomputable def o193 (P : Params) : Obj := ⟨(.type "code"), none, (.fields #[(.str "__init__" 437), (.str "Cells.__init__" 438), (.str "/claim/cut.py" 439), (.int 93 0), (.int 3 0), (.int 0 0), (.int 0 0), (.int 3 0), (.ref 188), (.bool true), (.int 181 0), (.ref 189), .none, (.ref 190), (.ref 191), (.ref 192), (.int 443 0), (.int 93 0), (.str "/claim/cut.py" 444)]), #[]⟩
noncomputable def o194 (P : Params) : Obj := ⟨(.type "function"), none, (.func { name := "__init__", qualname := "Cells.__init__", params := (argsS (nth (bodyS (stm 23)) 0)), body := (.stmts (bodyS (nth (bodyS (stm 23)) 0))), scope := (scopeS (nth (bodyS (stm 23)) 0)), globals := 3, closure := [], defaults := (.ref 187), kwdefaults := .none, doc := .none, pyModule := (.str "clausemill.store" 408), annotations := none, code := (.ref 193), closureTuple := .none, builtins := 0 }), #[]⟩
noncomputable def o195 (P : Params) : Obj := ⟨(.type "tuple"), none, (.seq #[] 0), #[]⟩
noncomputable def o196 (P : Params) : Obj := ⟨.none, none, (.fields #[]), #[]⟩
noncomputable def o197 (P : Params) : Obj := ⟨(.type "tuple"), none, (.seq #[(.str "self" 449), (.str "cell" 450), (.str "address" 451)] 0), #[]⟩
noncomputable def o198 (P : Params) : Obj := ⟨(.type "tuple"), none, (.seq #[] 0), #[]⟩
noncomputable def o199 (P : Params) : Obj := ⟨.none, none, (.func { name := "push", qualname := "Cells.push", params := (argsS (nth (bodyS (stm 23)) 1)), body := (.stmts (bodyS (nth (bodyS (stm 23)) 1))), scope := (scopeS (nth (bodyS (stm 23)) 1)), globals := 0, closure := [], defaults := .none, kwdefaults := .none, doc := .none, pyModule := .none, annotations := none, code := .none, closureTuple := .none, builtins := 0 }), #[]⟩
noncomputable def o200 (P : Params) : Obj := ⟨(.type "code"), none, (.fields #[(.str "push" 446), (.str "Cells.push" 447), (.str "/claim/cut.py" 448), (.int 102 0), (.int 2 0), (.int 0 0), (.int 0 0), (.int 3 0), (.ref 195), (.bool true), (.int 181 0), (.ref 196), .none, (.ref 197), (.ref 198), (.ref 199), (.int 452 0), (.int 102 0), (.str "/claim/cut.py" 453)]), #[]⟩
noncomputable def o201 (P : Params) : Obj := ⟨(.type "function"), none, (.func { name := "push", qualname := "Cells.push", params := (argsS (nth (bodyS (stm 23)) 1)), body := (.stmts (bodyS (nth (bodyS (stm 23)) 1))), scope := (scopeS (nth (bodyS (stm 23)) 1)), globals := 3, closure := [], defaults := .none, kwdefaults := .none, doc := .none, pyModule := (.str "clausemill.store" 408), annotations := none, code := (.ref 200), closureTuple := .none, builtins := 0 }), #[]⟩
noncomputable def o202 (P : Params) : Obj := ⟨(.type "tuple"), none, (.seq #[] 0), #[]⟩
noncomputable def o203 (P : Params) : Obj := ⟨.none, none, (.fields #[]), #[]⟩
noncomputable def o204 (P : Params) : Obj := ⟨(.type "tuple"), none, (.seq #[(.str "self" 458), (.str "cell" 459)] 0), #[]⟩
noncomputable def o205 (P : Params) : Obj := ⟨(.type "tuple"), none, (.seq #[] 0), #[]⟩
noncomputable def o206 (P : Params) : Obj := ⟨.none, none, (.func { name := "new_var", qualname := "Cells.new_var", params := (argsS (nth (bodyS (stm 23)) 2)), body := (.stmts (bodyS (nth (bodyS (stm 23)) 2))), scope := (scopeS (nth (bodyS (stm 23)) 2)), globals := 0, closure := [], defaults := .none, kwdefaults := .none, doc := .none, pyModule := .none, annotations := none, code := .none, closureTuple := .none, builtins := 0 }), #[]⟩
noncomputable def o207 (P : Params) : Obj := ⟨(.type "code"), none, (.fields #[(.str "new_var" 455), (.str "Cells.new_var" 456), (.str "/claim/cut.py" 457), (.int 109 0), (.int 1 0), (.int 0 0), (.int 0 0), (.int 3 0), (.ref 202), (.bool true), (.int 181 0), (.ref 203), .none, (.ref 204), (.ref 205), (.ref 206), (.int 460 0), (.int 109 0), (.str "/claim/cut.py" 461)]), #[]⟩
noncomputable def o208 (P : Params) : Obj := ⟨(.type "function"), none, (.func { name := "new_var", qualname := "Cells.new_var", params := (argsS (nth (bodyS (stm 23)) 2)), body := (.stmts (bodyS (nth (bodyS (stm 23)) 2))), scope := (scopeS (nth (bodyS (stm 23)) 2)), globals := 3, closure := [], defaults := .none, kwdefaults := .none, doc := .none, pyModule := (.str "clausemill.store" 408), annotations := none, code := (.ref 207), closureTuple := .none, builtins := 0 }), #[]⟩
noncomputable def o209 (P : Params) : Obj := ⟨(.type "tuple"), none, (.seq #[] 0), #[]⟩
noncomputable def o210 (P : Params) : Obj := ⟨.none, none, (.fields #[]), #[]⟩
noncomputable def o211 (P : Params) : Obj := ⟨(.type "tuple"), none, (.seq #[(.str "self" 466), (.str "count" 467), (.str "first" 468), (.str "step" 469)] 0), #[]⟩
noncomputable def o212 (P : Params) : Obj := ⟨(.type "tuple"), none, (.seq #[] 0), #[]⟩
noncomputable def o213 (P : Params) : Obj := ⟨.none, none, (.func { name := "reserve", qualname := "Cells.reserve", params := (argsS (nth (bodyS (stm 23)) 3)), body := (.stmts (bodyS (nth (bodyS (stm 23)) 3))), scope := (scopeS (nth (bodyS (stm 23)) 3)), globals := 0, closure := [], defaults := .none, kwdefaults := .none, doc := .none, pyModule := .none, annotations := none, code := .none, closureTuple := .none, builtins := 0 }), #[]⟩
noncomputable def o214 (P : Params) : Obj := ⟨(.type "code"), none, (.fields #[(.str "reserve" 463), (.str "Cells.reserve" 464), (.str "/claim/cut.py" 465), (.int 114 0), (.int 2 0), (.int 0 0), (.int 0 0), (.int 3 0), (.ref 209), (.bool true), (.int 181 0), (.ref 210), .none, (.ref 211), (.ref 212), (.ref 213), (.int 470 0), (.int 114 0), (.str "/claim/cut.py" 471)]), #[]⟩
noncomputable def o215 (P : Params) : Obj := ⟨(.type "function"), none, (.func { name := "reserve", qualname := "Cells.reserve", params := (argsS (nth (bodyS (stm 23)) 3)), body := (.stmts (bodyS (nth (bodyS (stm 23)) 3))), scope := (scopeS (nth (bodyS (stm 23)) 3)), globals := 3, closure := [], defaults := .none, kwdefaults := .none, doc := .none, pyModule := (.str "clausemill.store" 408), annotations := none, code := (.ref 214), closureTuple := .none, builtins := 0 }), #[]⟩
noncomputable def o216 (P : Params) : Obj := ⟨(.type "tuple"), none, (.seq #[] 0), #[]⟩
noncomputable def o217 (P : Params) : Obj := ⟨.none, none, (.fields #[]), #[]⟩
noncomputable def o218 (P : Params) : Obj := ⟨(.type "tuple"), none, (.seq #[(.str "self" 476), (.str "h" 477)] 0), #[]⟩
noncomputable def o219 (P : Params) : Obj := ⟨(.type "tuple"), none, (.seq #[] 0), #[]⟩
noncomputable def o220 (P : Params) : Obj := ⟨.none, none, (.func { name := "trim", qualname := "Cells.trim", params := (argsS (nth (bodyS (stm 23)) 4)), body := (.stmts (bodyS (nth (bodyS (stm 23)) 4))), scope := (scopeS (nth (bodyS (stm 23)) 4)), globals := 0, closure := [], defaults := .none, kwdefaults := .none, doc := .none, pyModule := .none, annotations := none, code := .none, closureTuple := .none, builtins := 0 }), #[]⟩
noncomputable def o221 (P : Params) : Obj := ⟨(.type "code"), none, (.fields #[(.str "trim" 473), (.str "Cells.trim" 474), (.str "/claim/cut.py" 475), (.int 122 0), (.int 2 0), (.int 0 0), (.int 0 0), (.int 3 0), (.ref 216), (.bool true), (.int 181 0), (.ref 217), .none, (.ref 218), (.ref 219), (.ref 220), (.int 478 0), (.int 122 0), (.str "/claim/cut.py" 479)]), #[]⟩
noncomputable def o222 (P : Params) : Obj := ⟨(.type "function"), none, (.func { name := "trim", qualname := "Cells.trim", params := (argsS (nth (bodyS (stm 23)) 4)), body := (.stmts (bodyS (nth (bodyS (stm 23)) 4))), scope := (scopeS (nth (bodyS (stm 23)) 4)), globals := 3, closure := [], defaults := .none, kwdefaults := .none, doc := .none, pyModule := (.str "clausemill.store" 408), annotations := none, code := (.ref 221), closureTuple := .none, builtins := 0 }), #[]⟩
noncomputable def o223 (P : Params) : Obj := ⟨(.type "tuple"), none, (.seq #[] 0), #[]⟩
noncomputable def o224 (P : Params) : Obj := ⟨.none, none, (.fields #[]), #[]⟩
noncomputable def o225 (P : Params) : Obj := ⟨(.type "tuple"), none, (.seq #[(.str "self" 484), (.str "cell" 485), (.str "tag" 486), (.str "found" 487)] 0), #[]⟩
noncomputable def o226 (P : Params) : Obj := ⟨(.type "tuple"), none, (.seq #[] 0), #[]⟩
noncomputable def o227 (P : Params) : Obj := ⟨.none, none, (.func { name := "deref", qualname := "Cells.deref", params := (argsS (nth (bodyS (stm 23)) 5)), body := (.stmts (bodyS (nth (bodyS (stm 23)) 5))), scope := (scopeS (nth (bodyS (stm 23)) 5)), globals := 0, closure := [], defaults := .none, kwdefaults := .none, doc := .none, pyModule := .none, annotations := none, code := .none, closureTuple := .none, builtins := 0 }), #[]⟩
noncomputable def o228 (P : Params) : Obj := ⟨(.type "code"), none, (.fields #[(.str "deref" 481), (.str "Cells.deref" 482), (.str "/claim/cut.py" 483), (.int 125 0), (.int 2 0), (.int 0 0), (.int 0 0), (.int 3 0), (.ref 223), (.bool true), (.int 181 0), (.ref 224), .none, (.ref 225), (.ref 226), (.ref 227), (.int 488 0), (.int 125 0), (.str "/claim/cut.py" 489)]), #[]⟩
noncomputable def o229 (P : Params) : Obj := ⟨(.type "function"), none, (.func { name := "deref", qualname := "Cells.deref", params := (argsS (nth (bodyS (stm 23)) 5)), body := (.stmts (bodyS (nth (bodyS (stm 23)) 5))), scope := (scopeS (nth (bodyS (stm 23)) 5)), globals := 3, closure := [], defaults := .none, kwdefaults := .none, doc := .none, pyModule := (.str "clausemill.store" 408), annotations := none, code := (.ref 228), closureTuple := .none, builtins := 0 }), #[]⟩
noncomputable def o230 (P : Params) : Obj := ⟨(.type "tuple"), none, (.seq #[] 0), #[]⟩
noncomputable def o231 (P : Params) : Obj := ⟨.none, none, (.fields #[]), #[]⟩
noncomputable def o232 (P : Params) : Obj := ⟨(.type "tuple"), none, (.seq #[(.str "self" 494), (.str "cell" 495)] 0), #[]⟩
noncomputable def o233 (P : Params) : Obj := ⟨(.type "tuple"), none, (.seq #[] 0), #[]⟩
noncomputable def o234 (P : Params) : Obj := ⟨.none, none, (.func { name := "is_unbound", qualname := "Cells.is_unbound", params := (argsS (nth (bodyS (stm 23)) 6)), body := (.stmts (bodyS (nth (bodyS (stm 23)) 6))), scope := (scopeS (nth (bodyS (stm 23)) 6)), globals := 0, closure := [], defaults := .none, kwdefaults := .none, doc := .none, pyModule := .none, annotations := none, code := .none, closureTuple := .none, builtins := 0 }), #[]⟩
noncomputable def o235 (P : Params) : Obj := ⟨(.type "code"), none, (.fields #[(.str "is_unbound" 491), (.str "Cells.is_unbound" 492), (.str "/claim/cut.py" 493), (.int 138 0), (.int 2 0), (.int 0 0), (.int 0 0), (.int 3 0), (.ref 230), (.bool true), (.int 181 0), (.ref 231), .none, (.ref 232), (.ref 233), (.ref 234), (.int 496 0), (.int 138 0), (.str "/claim/cut.py" 497)]), #[]⟩
noncomputable def o236 (P : Params) : Obj := ⟨(.type "function"), none, (.func { name := "is_unbound", qualname := "Cells.is_unbound", params := (argsS (nth (bodyS (stm 23)) 6)), body := (.stmts (bodyS (nth (bodyS (stm 23)) 6))), scope := (scopeS (nth (bodyS (stm 23)) 6)), globals := 3, closure := [], defaults := .none, kwdefaults := .none, doc := .none, pyModule := (.str "clausemill.store" 408), annotations := none, code := (.ref 235), closureTuple := .none, builtins := 0 }), #[]⟩
noncomputable def o237 (P : Params) : Obj := ⟨(.type "tuple"), none, (.seq #[] 0), #[]⟩
noncomputable def o238 (P : Params) : Obj := ⟨.none, none, (.fields #[]), #[]⟩
noncomputable def o239 (P : Params) : Obj := ⟨(.type "tuple"), none, (.seq #[(.str "self" 502), (.str "cell" 503), (.str "value" 504), (.str "place" 505)] 0), #[]⟩
noncomputable def o240 (P : Params) : Obj := ⟨(.type "tuple"), none, (.seq #[] 0), #[]⟩
noncomputable def o241 (P : Params) : Obj := ⟨.none, none, (.func { name := "bind", qualname := "Cells.bind", params := (argsS (nth (bodyS (stm 23)) 7)), body := (.stmts (bodyS (nth (bodyS (stm 23)) 7))), scope := (scopeS (nth (bodyS (stm 23)) 7)), globals := 0, closure := [], defaults := .none, kwdefaults := .none, doc := .none, pyModule := .none, annotations := none, code := .none, closureTuple := .none, builtins := 0 }), #[]⟩
noncomputable def o242 (P : Params) : Obj := ⟨(.type "code"), none, (.fields #[(.str "bind" 499), (.str "Cells.bind" 500), (.str "/claim/cut.py" 501), (.int 141 0), (.int 3 0), (.int 0 0), (.int 0 0), (.int 3 0), (.ref 237), (.bool true), (.int 181 0), (.ref 238), .none, (.ref 239), (.ref 240), (.ref 241), (.int 506 0), (.int 141 0), (.str "/claim/cut.py" 507)]), #[]⟩
noncomputable def o243 (P : Params) : Obj := ⟨(.type "function"), none, (.func { name := "bind", qualname := "Cells.bind", params := (argsS (nth (bodyS (stm 23)) 7)), body := (.stmts (bodyS (nth (bodyS (stm 23)) 7))), scope := (scopeS (nth (bodyS (stm 23)) 7)), globals := 3, closure := [], defaults := .none, kwdefaults := .none, doc := .none, pyModule := (.str "clausemill.store" 408), annotations := none, code := (.ref 242), closureTuple := .none, builtins := 0 }), #[]⟩
noncomputable def o244 (P : Params) : Obj := ⟨(.type "tuple"), none, (.seq #[] 0), #[]⟩
noncomputable def o245 (P : Params) : Obj := ⟨.none, none, (.fields #[]), #[]⟩
noncomputable def o246 (P : Params) : Obj := ⟨(.type "tuple"), none, (.seq #[(.str "self" 512), (.str "c1" 513), (.str "c2" 514)] 0), #[]⟩
noncomputable def o247 (P : Params) : Obj := ⟨(.type "tuple"), none, (.seq #[] 0), #[]⟩
noncomputable def o248 (P : Params) : Obj := ⟨.none, none, (.func { name := "bind_pair", qualname := "Cells.bind_pair", params := (argsS (nth (bodyS (stm 23)) 8)), body := (.stmts (bodyS (nth (bodyS (stm 23)) 8))), scope := (scopeS (nth (bodyS (stm 23)) 8)), globals := 0, closure := [], defaults := .none, kwdefaults := .none, doc := .none, pyModule := .none, annotations := none, code := .none, closureTuple := .none, builtins := 0 }), #[]⟩
noncomputable def o249 (P : Params) : Obj := ⟨(.type "code"), none, (.fields #[(.str "bind_pair" 509), (.str "Cells.bind_pair" 510), (.str "/claim/cut.py" 511), (.int 152 0), (.int 3 0), (.int 0 0), (.int 0 0), (.int 3 0), (.ref 244), (.bool true), (.int 181 0), (.ref 245), .none, (.ref 246), (.ref 247), (.ref 248), (.int 515 0), (.int 152 0), (.str "/claim/cut.py" 516)]), #[]⟩
noncomputable def o250 (P : Params) : Obj := ⟨(.type "function"), none, (.func { name := "bind_pair", qualname := "Cells.bind_pair", params := (argsS (nth (bodyS (stm 23)) 8)), body := (.stmts (bodyS (nth (bodyS (stm 23)) 8))), scope := (scopeS (nth (bodyS (stm 23)) 8)), globals := 3, closure := [], defaults := .none, kwdefaults := .none, doc := .none, pyModule := (.str "clausemill.store" 408), annotations := none, code := (.ref 249), closureTuple := .none, builtins := 0 }), #[]⟩
noncomputable def o251 (P : Params) : Obj := ⟨(.type "tuple"), none, (.seq #[] 0), #[]⟩
noncomputable def o252 (P : Params) : Obj := ⟨.none, none, (.fields #[]), #[]⟩
noncomputable def o253 (P : Params) : Obj := ⟨(.type "tuple"), none, (.seq #[(.str "self" 521), (.str "cell" 522), (.str "fresh" 523)] 0), #[]⟩
noncomputable def o254 (P : Params) : Obj := ⟨(.type "tuple"), none, (.seq #[] 0), #[]⟩
noncomputable def o255 (P : Params) : Obj := ⟨.none, none, (.func { name := "globalise", qualname := "Cells.globalise", params := (argsS (nth (bodyS (stm 23)) 9)), body := (.stmts (bodyS (nth (bodyS (stm 23)) 9))), scope := (scopeS (nth (bodyS (stm 23)) 9)), globals := 0, closure := [], defaults := .none, kwdefaults := .none, doc := .none, pyModule := .none, annotations := none, code := .none, closureTuple := .none, builtins := 0 }), #[]⟩
noncomputable def o256 (P : Params) : Obj := ⟨(.type "code"), none, (.fields #[(.str "globalise" 518), (.str "Cells.globalise" 519), (.str "/claim/cut.py" 520), (.int 155 0), (.int 2 0), (.int 0 0), (.int 0 0), (.int 3 0), (.ref 251), (.bool true), (.int 181 0), (.ref 252), .none, (.ref 253), (.ref 254), (.ref 255), (.int 524 0), (.int 155 0), (.str "/claim/cut.py" 525)]), #[]⟩
noncomputable def o257 (P : Params) : Obj := ⟨(.type "function"), none, (.func { name := "globalise", qualname := "Cells.globalise", params := (argsS (nth (bodyS (stm 23)) 9)), body := (.stmts (bodyS (nth (bodyS (stm 23)) 9))), scope := (scopeS (nth (bodyS (stm 23)) 9)), globals := 3, closure := [], defaults := .none, kwdefaults := .none, doc := .none, pyModule := (.str "clausemill.store" 408), annotations := none, code := (.ref 256), closureTuple := .none, builtins := 0 }), #[]⟩
noncomputable def o258 (P : Params) : Obj := ⟨(.type "tuple"), none, (.seq #[] 0), #[]⟩
noncomputable def o259 (P : Params) : Obj := ⟨.none, none, (.fields #[]), #[]⟩
noncomputable def o260 (P : Params) : Obj := ⟨(.type "tuple"), none, (.seq #[(.str "self" 530)] 0), #[]⟩
noncomputable def o261 (P : Params) : Obj := ⟨(.type "tuple"), none, (.seq #[] 0), #[]⟩
noncomputable def o262 (P : Params) : Obj := ⟨.none, none, (.func { name := "mark", qualname := "Cells.mark", params := (argsS (nth (bodyS (stm 23)) 10)), body := (.stmts (bodyS (nth (bodyS (stm 23)) 10))), scope := (scopeS (nth (bodyS (stm 23)) 10)), globals := 0, closure := [], defaults := .none, kwdefaults := .none, doc := .none, pyModule := .none, annotations := none, code := .none, closureTuple := .none, builtins := 0 }), #[]⟩
noncomputable def o263 (P : Params) : Obj := ⟨(.type "code"), none, (.fields #[(.str "mark" 527), (.str "Cells.mark" 528), (.str "/claim/cut.py" 529), (.int 163 0), (.int 1 0), (.int 0 0), (.int 0 0), (.int 3 0), (.ref 258), (.bool true), (.int 181 0), (.ref 259), .none, (.ref 260), (.ref 261), (.ref 262), (.int 531 0), (.int 163 0), (.str "/claim/cut.py" 532)]), #[]⟩
noncomputable def o264 (P : Params) : Obj := ⟨(.type "function"), none, (.func { name := "mark", qualname := "Cells.mark", params := (argsS (nth (bodyS (stm 23)) 10)), body := (.stmts (bodyS (nth (bodyS (stm 23)) 10))), scope := (scopeS (nth (bodyS (stm 23)) 10)), globals := 3, closure := [], defaults := .none, kwdefaults := .none, doc := .none, pyModule := (.str "clausemill.store" 408), annotations := none, code := (.ref 263), closureTuple := .none, builtins := 0 }), #[]⟩
noncomputable def o265 (P : Params) : Obj := ⟨(.type "tuple"), none, (.seq #[] 0), #[]⟩
noncomputable def o266 (P : Params) : Obj := ⟨.none, none, (.fields #[]), #[]⟩
noncomputable def o267 (P : Params) : Obj := ⟨(.type "tuple"), none, (.seq #[(.str "self" 537), (.str "mark" 538)] 0), #[]⟩
noncomputable def o268 (P : Params) : Obj := ⟨(.type "tuple"), none, (.seq #[] 0), #[]⟩
noncomputable def o269 (P : Params) : Obj := ⟨.none, none, (.func { name := "undo_to", qualname := "Cells.undo_to", params := (argsS (nth (bodyS (stm 23)) 11)), body := (.stmts (bodyS (nth (bodyS (stm 23)) 11))), scope := (scopeS (nth (bodyS (stm 23)) 11)), globals := 0, closure := [], defaults := .none, kwdefaults := .none, doc := .none, pyModule := .none, annotations := none, code := .none, closureTuple := .none, builtins := 0 }), #[]⟩
noncomputable def o270 (P : Params) : Obj := ⟨(.type "code"), none, (.fields #[(.str "undo_to" 534), (.str "Cells.undo_to" 535), (.str "/claim/cut.py" 536), (.int 166 0), (.int 2 0), (.int 0 0), (.int 0 0), (.int 3 0), (.ref 265), (.bool true), (.int 181 0), (.ref 266), .none, (.ref 267), (.ref 268), (.ref 269), (.int 539 0), (.int 166 0), (.str "/claim/cut.py" 540)]), #[]⟩
noncomputable def o271 (P : Params) : Obj := ⟨(.type "function"), none, (.func { name := "undo_to", qualname := "Cells.undo_to", params := (argsS (nth (bodyS (stm 23)) 11)), body := (.stmts (bodyS (nth (bodyS (stm 23)) 11))), scope := (scopeS (nth (bodyS (stm 23)) 11)), globals := 3, closure := [], defaults := .none, kwdefaults := .none, doc := .none, pyModule := (.str "clausemill.store" 408), annotations := none, code := (.ref 270), closureTuple := .none, builtins := 0 }), #[]⟩
noncomputable def o272 (P : Params) : Obj := ⟨(.type "tuple"), none, (.seq #[] 0), #[]⟩
noncomputable def o273 (P : Params) : Obj := ⟨.none, none, (.fields #[]), #[]⟩
noncomputable def o274 (P : Params) : Obj := ⟨(.type "tuple"), none, (.seq #[(.str "self" 545), (.str "i" 546), (.str "value" 547)] 0), #[]⟩
noncomputable def o275 (P : Params) : Obj := ⟨(.type "tuple"), none, (.seq #[] 0), #[]⟩
noncomputable def o276 (P : Params) : Obj := ⟨.none, none, (.func { name := "stack_put", qualname := "Cells.stack_put", params := (argsS (nth (bodyS (stm 23)) 12)), body := (.stmts (bodyS (nth (bodyS (stm 23)) 12))), scope := (scopeS (nth (bodyS (stm 23)) 12)), globals := 0, closure := [], defaults := .none, kwdefaults := .none, doc := .none, pyModule := .none, annotations := none, code := .none, closureTuple := .none, builtins := 0 }), #[]⟩
noncomputable def o277 (P : Params) : Obj := ⟨(.type "code"), none, (.fields #[(.str "stack_put" 542), (.str "Cells.stack_put" 543), (.str "/claim/cut.py" 544), (.int 169 0), (.int 3 0), (.int 0 0), (.int 0 0), (.int 3 0), (.ref 272), (.bool true), (.int 181 0), (.ref 273), .none, (.ref 274), (.ref 275), (.ref 276), (.int 548 0), (.int 169 0), (.str "/claim/cut.py" 549)]), #[]⟩
noncomputable def o278 (P : Params) : Obj := ⟨(.type "function"), none, (.func { name := "stack_put", qualname := "Cells.stack_put", params := (argsS (nth (bodyS (stm 23)) 12)), body := (.stmts (bodyS (nth (bodyS (stm 23)) 12))), scope := (scopeS (nth (bodyS (stm 23)) 12)), globals := 3, closure := [], defaults := .none, kwdefaults := .none, doc := .none, pyModule := (.str "clausemill.store" 408), annotations := none, code := (.ref 277), closureTuple := .none, builtins := 0 }), #[]⟩
noncomputable def o279 (P : Params) : Obj := ⟨(.type "tuple"), none, (.seq #[] 0), #[]⟩
noncomputable def o280 (P : Params) : Obj := ⟨.none, none, (.fields #[]), #[]⟩
noncomputable def o281 (P : Params) : Obj := ⟨(.type "tuple"), none, (.seq #[(.str "self" 554), (.str "cell" 555)] 0), #[]⟩
noncomputable def o282 (P : Params) : Obj := ⟨(.type "tuple"), none, (.seq #[] 0), #[]⟩
noncomputable def o283 (P : Params) : Obj := ⟨.none, none, (.func { name := "is_compound", qualname := "Cells.is_compound", params := (argsS (nth (bodyS (stm 23)) 13)), body := (.stmts (bodyS (nth (bodyS (stm 23)) 13))), scope := (scopeS (nth (bodyS (stm 23)) 13)), globals := 0, closure := [], defaults := .none, kwdefaults := .none, doc := .none, pyModule := .none, annotations := none, code := .none, closureTuple := .none, builtins := 0 }), #[]⟩
noncomputable def o284 (P : Params) : Obj := ⟨(.type "code"), none, (.fields #[(.str "is_compound" 551), (.str "Cells.is_compound" 552), (.str "/claim/cut.py" 553), (.int 172 0), (.int 2 0), (.int 0 0), (.int 0 0), (.int 3 0), (.ref 279), (.bool true), (.int 181 0), (.ref 280), .none, (.ref 281), (.ref 282), (.ref 283), (.int 556 0), (.int 172 0), (.str "/claim/cut.py" 557)]), #[]⟩
noncomputable def o285 (P : Params) : Obj := ⟨(.type "function"), none, (.func { name := "is_compound", qualname := "Cells.is_compound", params := (argsS (nth (bodyS (stm 23)) 13)), body := (.stmts (bodyS (nth (bodyS (stm 23)) 13))), scope := (scopeS (nth (bodyS (stm 23)) 13)), globals := 3, closure := [], defaults := .none, kwdefaults := .none, doc := .none, pyModule := (.str "clausemill.store" 408), annotations := none, code := (.ref 284), closureTuple := .none, builtins := 0 }), #[]⟩
noncomputable def o286 (P : Params) : Obj := ⟨(.type "tuple"), none, (.seq #[] 0), #[]⟩
noncomputable def o287 (P : Params) : Obj := ⟨.none, none, (.fields #[]), #[]⟩
noncomputable def o288 (P : Params) : Obj := ⟨(.type "tuple"), none, (.seq #[(.str "self" 562), (.str "cell" 563), (.str "tag" 564)] 0), #[]⟩
noncomputable def o289 (P : Params) : Obj := ⟨(.type "tuple"), none, (.seq #[] 0), #[]⟩
noncomputable def o290 (P : Params) : Obj := ⟨.none, none, (.func { name := "functor_of", qualname := "Cells.functor_of", params := (argsS (nth (bodyS (stm 23)) 14)), body := (.stmts (bodyS (nth (bodyS (stm 23)) 14))), scope := (scopeS (nth (bodyS (stm 23)) 14)), globals := 0, closure := [], defaults := .none, kwdefaults := .none, doc := .none, pyModule := .none, annotations := none, code := .none, closureTuple := .none, builtins := 0 }), #[]⟩
noncomputable def o291 (P : Params) : Obj := ⟨(.type "code"), none, (.fields #[(.str "functor_of" 559), (.str "Cells.functor_of" 560), (.str "/claim/cut.py" 561), (.int 175 0), (.int 2 0), (.int 0 0), (.int 0 0), (.int 3 0), (.ref 286), (.bool true), (.int 181 0), (.ref 287), .none, (.ref 288), (.ref 289), (.ref 290), (.int 565 0), (.int 175 0), (.str "/claim/cut.py" 566)]), #[]⟩
noncomputable def o292 (P : Params) : Obj := ⟨(.type "function"), none, (.func { name := "functor_of", qualname := "Cells.functor_of", params := (argsS (nth (bodyS (stm 23)) 14)), body := (.stmts (bodyS (nth (bodyS (stm 23)) 14))), scope := (scopeS (nth (bodyS (stm 23)) 14)), globals := 3, closure := [], defaults := .none, kwdefaults := .none, doc := .none, pyModule := (.str "clausemill.store" 408), annotations := none, code := (.ref 291), closureTuple := .none, builtins := 0 }), #[]⟩
noncomputable def o293 (P : Params) : Obj := ⟨(.type "tuple"), none, (.seq #[] 0), #[]⟩
noncomputable def o294 (P : Params) : Obj := ⟨.none, none, (.fields #[]), #[]⟩
noncomputable def o295 (P : Params) : Obj := ⟨(.type "tuple"), none, (.seq #[(.str "self" 571), (.str "cell" 572), (.str "tag" 573)] 0), #[]⟩
noncomputable def o296 (P : Params) : Obj := ⟨(.type "tuple"), none, (.seq #[] 0), #[]⟩
noncomputable def o297 (P : Params) : Obj := ⟨.none, none, (.func { name := "width", qualname := "Cells.width", params := (argsS (nth (bodyS (stm 23)) 15)), body := (.stmts (bodyS (nth (bodyS (stm 23)) 15))), scope := (scopeS (nth (bodyS (stm 23)) 15)), globals := 0, closure := [], defaults := .none, kwdefaults := .none, doc := .none, pyModule := .none, annotations := none, code := .none, closureTuple := .none, builtins := 0 }), #[]⟩
noncomputable def o298 (P : Params) : Obj := ⟨(.type "code"), none, (.fields #[(.str "width" 568), (.str "Cells.width" 569), (.str "/claim/cut.py" 570), (.int 185 0), (.int 2 0), (.int 0 0), (.int 0 0), (.int 3 0), (.ref 293), (.bool true), (.int 181 0), (.ref 294), .none, (.ref 295), (.ref 296), (.ref 297), (.int 574 0), (.int 185 0), (.str "/claim/cut.py" 575)]), #[]⟩
noncomputable def o299 (P : Params) : Obj := ⟨(.type "function"), none, (.func { name := "width", qualname := "Cells.width", params := (argsS (nth (bodyS (stm 23)) 15)), body := (.stmts (bodyS (nth (bodyS (stm 23)) 15))), scope := (scopeS (nth (bodyS (stm 23)) 15)), globals := 3, closure := [], defaults := .none, kwdefaults := .none, doc := .none, pyModule := (.str "clausemill.store" 408), annotations := none, code := (.ref 298), closureTuple := .none, builtins := 0 }), #[]⟩
noncomputable def o300 (P : Params) : Obj := ⟨(.type "tuple"), none, (.seq #[] 0), #[]⟩
noncomputable def o301 (P : Params) : Obj := ⟨.none, none, (.fields #[]), #[]⟩
noncomputable def o302 (P : Params) : Obj := ⟨(.type "tuple"), none, (.seq #[(.str "self" 580), (.str "cell" 581)] 0), #[]⟩
noncomputable def o303 (P : Params) : Obj := ⟨(.type "tuple"), none, (.seq #[] 0), #[]⟩
noncomputable def o304 (P : Params) : Obj := ⟨.none, none, (.func { name := "base", qualname := "Cells.base", params := (argsS (nth (bodyS (stm 23)) 16)), body := (.stmts (bodyS (nth (bodyS (stm 23)) 16))), scope := (scopeS (nth (bodyS (stm 23)) 16)), globals := 0, closure := [], defaults := .none, kwdefaults := .none, doc := .none, pyModule := .none, annotations := none, code := .none, closureTuple := .none, builtins := 0 }), #[]⟩
noncomputable def o305 (P : Params) : Obj := ⟨(.type "code"), none, (.fields #[(.str "base" 577), (.str "Cells.base" 578), (.str "/claim/cut.py" 579), (.int 193 0), (.int 2 0), (.int 0 0), (.int 0 0), (.int 3 0), (.ref 300), (.bool true), (.int 181 0), (.ref 301), .none, (.ref 302), (.ref 303), (.ref 304), (.int 582 0), (.int 193 0), (.str "/claim/cut.py" 583)]), #[]⟩
noncomputable def o306 (P : Params) : Obj := ⟨(.type "function"), none, (.func { name := "base", qualname := "Cells.base", params := (argsS (nth (bodyS (stm 23)) 16)), body := (.stmts (bodyS (nth (bodyS (stm 23)) 16))), scope := (scopeS (nth (bodyS (stm 23)) 16)), globals := 3, closure := [], defaults := .none, kwdefaults := .none, doc := .none, pyModule := (.str "clausemill.store" 408), annotations := none, code := (.ref 305), closureTuple := .none, builtins := 0 }), #[]⟩
noncomputable def o307 (P : Params) : Obj := ⟨(.type "tuple"), none, (.seq #[] 0), #[]⟩
noncomputable def o308 (P : Params) : Obj := ⟨.none, none, (.fields #[]), #[]⟩
noncomputable def o309 (P : Params) : Obj := ⟨(.type "tuple"), none, (.seq #[(.str "self" 588), (.str "cell" 589), (.str "i" 590)] 0), #[]⟩
noncomputable def o310 (P : Params) : Obj := ⟨(.type "tuple"), none, (.seq #[] 0), #[]⟩
noncomputable def o311 (P : Params) : Obj := ⟨.none, none, (.func { name := "arg", qualname := "Cells.arg", params := (argsS (nth (bodyS (stm 23)) 17)), body := (.stmts (bodyS (nth (bodyS (stm 23)) 17))), scope := (scopeS (nth (bodyS (stm 23)) 17)), globals := 0, closure := [], defaults := .none, kwdefaults := .none, doc := .none, pyModule := .none, annotations := none, code := .none, closureTuple := .none, builtins := 0 }), #[]⟩
noncomputable def o312 (P : Params) : Obj := ⟨(.type "code"), none, (.fields #[(.str "arg" 585), (.str "Cells.arg" 586), (.str "/claim/cut.py" 587), (.int 198 0), (.int 3 0), (.int 0 0), (.int 0 0), (.int 3 0), (.ref 307), (.bool true), (.int 181 0), (.ref 308), .none, (.ref 309), (.ref 310), (.ref 311), (.int 591 0), (.int 198 0), (.str "/claim/cut.py" 592)]), #[]⟩
noncomputable def o313 (P : Params) : Obj := ⟨(.type "function"), none, (.func { name := "arg", qualname := "Cells.arg", params := (argsS (nth (bodyS (stm 23)) 17)), body := (.stmts (bodyS (nth (bodyS (stm 23)) 17))), scope := (scopeS (nth (bodyS (stm 23)) 17)), globals := 3, closure := [], defaults := .none, kwdefaults := .none, doc := .none, pyModule := (.str "clausemill.store" 408), annotations := none, code := (.ref 312), closureTuple := .none, builtins := 0 }), #[]⟩
noncomputable def o314 (P : Params) : Obj := ⟨(.type "tuple"), none, (.seq #[] 0), #[]⟩
noncomputable def o315 (P : Params) : Obj := ⟨.none, none, (.fields #[]), #[]⟩
noncomputable def o316 (P : Params) : Obj := ⟨(.type "tuple"), none, (.seq #[(.str "self" 597), (.str "f" 598), (.str "start" 599)] 0), #[]⟩
noncomputable def o317 (P : Params) : Obj := ⟨(.type "tuple"), none, (.seq #[] 0), #[]⟩
noncomputable def o318 (P : Params) : Obj := ⟨.none, none, (.func { name := "new_block", qualname := "Cells.new_block", params := (argsS (nth (bodyS (stm 23)) 18)), body := (.stmts (bodyS (nth (bodyS (stm 23)) 18))), scope := (scopeS (nth (bodyS (stm 23)) 18)), globals := 0, closure := [], defaults := .none, kwdefaults := .none, doc := .none, pyModule := .none, annotations := none, code := .none, closureTuple := .none, builtins := 0 }), #[]⟩
noncomputable def o319 (P : Params) : Obj := ⟨(.type "code"), none, (.fields #[(.str "new_block" 594), (.str "Cells.new_block" 595), (.str "/claim/cut.py" 596), (.int 201 0), (.int 2 0), (.int 0 0), (.int 0 0), (.int 3 0), (.ref 314), (.bool true), (.int 181 0), (.ref 315), .none, (.ref 316), (.ref 317), (.ref 318), (.int 600 0), (.int 201 0), (.str "/claim/cut.py" 601)]), #[]⟩
noncomputable def o320 (P : Params) : Obj := ⟨(.type "function"), none, (.func { name := "new_block", qualname := "Cells.new_block", params := (argsS (nth (bodyS (stm 23)) 18)), body := (.stmts (bodyS (nth (bodyS (stm 23)) 18))), scope := (scopeS (nth (bodyS (stm 23)) 18)), globals := 3, closure := [], defaults := .none, kwdefaults := .none, doc := .none, pyModule := (.str "clausemill.store" 408), annotations := none, code := (.ref 319), closureTuple := .none, builtins := 0 }), #[]⟩
noncomputable def o321 (P : Params) : Obj := ⟨(.type "tuple"), none, (.seq #[(.str "bb" 603), (.str "hb" 604), (.str "heap" 605), (.str "max_heap" 606), (.str "stack" 607), (.str "symbols" 608), (.str "trail" 609)] 0), #[]⟩
noncomputable def o322 (P : Params) : Obj := ⟨(.type "dict"), none, (.dict (Array.mk [(en P "__module__" 431 (.str "clausemill.store" 408)), (en P "__firstlineno__" 435 (.int 91 434)), (en P "__init__" 445 (.ref 194)), (en P "push" 454 (.ref 201)), (en P "new_var" 462 (.ref 208)), (en P "reserve" 472 (.ref 215)), (en P "trim" 480 (.ref 222)), (en P "deref" 490 (.ref 229)), (en P "is_unbound" 498 (.ref 236)), (en P "bind" 508 (.ref 243)), (en P "bind_pair" 517 (.ref 250)), (en P "globalise" 526 (.ref 257)), (en P "mark" 533 (.ref 264)), (en P "undo_to" 541 (.ref 271)), (en P "stack_put" 550 (.ref 278)), (en P "is_compound" 558 (.ref 285)), (en P "functor_of" 567 (.ref 292)), (en P "width" 576 (.ref 299)), (en P "base" 584 (.ref 306)), (en P "arg" 593 (.ref 313)), (en P "new_block" 602 (.ref 320)), (en P "__static_attributes__" 610 (.ref 321)), (en P "__dict__" 612 (.ref 324)), (en P "__weakref__" 614 (.ref 325)), (en P "__doc__" 615 .none)]) 4), #[]⟩
noncomputable def o323 (P : Params) : Obj := ⟨(.type "type"), none, (.cls { name := "Cells", bases := [(.type "object")], mro := [(.ref 323), (.type "object")], ns := 322, qualname := "Cells", hasDict := true, slotNames := [], subclasses := [], abstract := false, collection := none, hasDel := false }), #[none, none, some (.str "Cells" 424), some (.str "Cells" 432), some (.builtin "object.__new__"), some (.bool true)]⟩
noncomputable def o324 (P : Params) : Obj := ⟨(.type "getset_descriptor"), none, (.fields #[(.str "__dict__" 611), (.ref 323), (.builtin "function.__dict__"), (.builtin "function.__dict__#set")]), #[]⟩
noncomputable def o325 (P : Params) : Obj := ⟨(.type "getset_descriptor"), none, (.fields #[(.str "__weakref__" 613), (.ref 323), (.builtin "ExceptionGroup.__weakref__"), .none]), #[]⟩
noncomputable def o326 (P : Params) : Obj := ⟨(.type "super"), none, (.fields #[(.ref 323), (.ref 323), (.ref 323)]), #[]⟩
noncomputable def o327 (P : Params) : Obj := ⟨(.type "builtin_function_or_method"), none, (.fields #[(.builtin "object.__init_subclass__"), (.ref 323)]), #[]⟩
noncomputable def tr_3 (P : Params) : BT := (.node (boot_o_0 P) (.node (boot_o_1 P) (.node (o3_3 P) (.node (boot_o_7 P) (.node (o15 P) (.node (o31 P) (.node (o63 P) (.node (o127 P) (.node (o255 P) .nil .nil) .nil) (.node (o191 P) (.node (o319 P) .nil .nil) .nil)) (.node (o95 P) (.node (o159 P) (.node (o287 P) .nil .nil) .nil) (.node (o223 P) .nil .nil))) (.node (o47 P) (.node (o79 P) (.node (o143 P) (.node (o271 P) .nil .nil) .nil) (.node (o207 P) .nil .nil)) (.node (o111 P) (.node (o175 P) (.node (o303 P) .nil .nil) .nil) (.node (o239 P) .nil .nil)))) (.node (o23 P) (.node (o39 P) (.node (o71 P) (.node (o135 P) (.node (o263 P) .nil .nil) .nil) (.node (o199 P) (.node (o327 P) .nil .nil) .nil)) (.node (o103 P) (.node (o167 P) (.node (o295 P) .nil .nil) .nil) (.node (o231 P) .nil .nil))) (.node (o55 P) (.node (o87 P) (.node (o151 P) (.node (o279 P) .nil .nil) .nil) (.node (o215 P) .nil .nil)) (.node (o119 P) (.node (o183 P) (.node (o311 P) .nil .nil) .nil) (.node (o247 P) .nil .nil))))) (.node (o11 P) (.node (o19 P) (.node (o35 P) (.node (o67 P) (.node (o131 P) (.node (o259 P) .nil .nil) .nil) (.node (o195 P) (.node (o323 P) .nil .nil) .nil)) (.node (o99 P) (.node (o163 P) (.node (o291 P) .nil .nil) .nil) (.node (o227 P) .nil .nil))) (.node (o51 P) (.node (o83 P) (.node (o147 P) (.node (o275 P) .nil .nil) .nil) (.node (o211 P) .nil .nil)) (.node (o115 P) (.node (o179 P) (.node (o307 P) .nil .nil) .nil) (.node (o243 P) .nil .nil)))) (.node (o27 P) (.node (o43 P) (.node (o75 P) (.node (o139 P) (.node (o267 P) .nil .nil) .nil) (.node (o203 P) .nil .nil)) (.node (o107 P) (.node (o171 P) (.node (o299 P) .nil .nil) .nil) (.node (o235 P) .nil .nil))) (.node (o59 P) (.node (o91 P) (.node (o155 P) (.node (o283 P) .nil .nil) .nil) (.node (o219 P) .nil .nil)) (.node (o123 P) (.node (o187 P) (.node (o315 P) .nil .nil) .nil) (.node (o251 P) .nil .nil)))))) (.node (boot_o_5 P) (.node (boot_o_9 P) (.node (o17 P) (.node (o33 P) (.node (o65 P) (.node (o129 P) (.node (o257 P) .nil .nil) .nil) (.node (o193 P) (.node (o321 P) .nil .nil) .nil)) (.node (o97 P) (.node (o161 P) (.node (o289 P) .nil .nil) .nil) (.node (o225 P) .nil .nil))) (.node (o49 P) (.node (o81 P) (.node (o145 P) (.node (o273 P) .nil .nil) .nil) (.node (o209 P) .nil .nil)) (.node (o113 P) (.node (o177 P) (.node (o305 P) .nil .nil) .nil) (.node (o241 P) .nil .nil)))) (.node (o25 P) (.node (o41 P) (.node (o73 P) (.node (o137 P) (.node (o265 P) .nil .nil) .nil) (.node (o201 P) .nil .nil)) (.node (o105 P) (.node (o169 P) (.node (o297 P) .nil .nil) .nil) (.node (o233 P) .nil .nil))) (.node (o57 P) (.node (o89 P) (.node (o153 P) (.node (o281 P) .nil .nil) .nil) (.node (o217 P) .nil .nil)) (.node (o121 P) (.node (o185 P) (.node (o313 P) .nil .nil) .nil) (.node (o249 P) .nil .nil))))) (.node (o13 P) (.node (o21 P) (.node (o37 P) (.node (o69 P) (.node (o133 P) (.node (o261 P) .nil .nil) .nil) (.node (o197 P) (.node (o325 P) .nil .nil) .nil)) (.node (o101 P) (.node (o165 P) (.node (o293 P) .nil .nil) .nil) (.node (o229 P) .nil .nil))) (.node (o53 P) (.node (o85 P) (.node (o149 P) (.node (o277 P) .nil .nil) .nil) (.node (o213 P) .nil .nil)) (.node (o117 P) (.node (o181 P) (.node (o309 P) .nil .nil) .nil) (.node (o245 P) .nil .nil)))) (.node (o29 P) (.node (o45 P) (.node (o77 P) (.node (o141 P) (.node (o269 P) .nil .nil) .nil) (.node (o205 P) .nil .nil)) (.node (o109 P) (.node (o173 P) (.node (o301 P) .nil .nil) .nil) (.node (o237 P) .nil .nil))) (.node (o61 P) (.node (o93 P) (.node (o157 P) (.node (o285 P) .nil .nil) .nil) (.node (o221 P) .nil .nil)) (.node (o125 P) (.node (o189 P) (.node (o317 P) .nil .nil) .nil) (.node (o253 P) .nil .nil))))))) (.node (o2_0 P) (.node (boot_o_4 P) (.node (boot_o_8 P) (.node (o16 P) (.node (o32 P) (.node (o64 P) (.node (o128 P) (.node (o256 P) .nil .nil) .nil) (.node (o192 P) (.node (o320 P) .nil .nil) .nil)) (.node (o96 P) (.node (o160 P) (.node (o288 P) .nil .nil) .nil) (.node (o224 P) .nil .nil))) (.node (o48 P) (.node (o80 P) (.node (o144 P) (.node (o272 P) .nil .nil) .nil) (.node (o208 P) .nil .nil)) (.node (o112 P) (.node (o176 P) (.node (o304 P) .nil .nil) .nil) (.node (o240 P) .nil .nil)))) (.node (o24 P) (.node (o40 P) (.node (o72 P) (.node (o136 P) (.node (o264 P) .nil .nil) .nil) (.node (o200 P) .nil .nil)) (.node (o104 P) (.node (o168 P) (.node (o296 P) .nil .nil) .nil) (.node (o232 P) .nil .nil))) (.node (o56 P) (.node (o88 P) (.node (o152 P) (.node (o280 P) .nil .nil) .nil) (.node (o216 P) .nil .nil)) (.node (o120 P) (.node (o184 P) (.node (o312 P) .nil .nil) .nil) (.node (o248 P) .nil .nil))))) (.node (o12_3 P) (.node (o20 P) (.node (o36 P) (.node (o68 P) (.node (o132 P) (.node (o260 P) .nil .nil) .nil) (.node (o196 P) (.node (o324 P) .nil .nil) .nil)) (.node (o100 P) (.node (o164 P) (.node (o292 P) .nil .nil) .nil) (.node (o228 P) .nil .nil))) (.node (o52 P) (.node (o84 P) (.node (o148 P) (.node (o276 P) .nil .nil) .nil) (.node (o212 P) .nil .nil)) (.node (o116 P) (.node (o180 P) (.node (o308 P) .nil .nil) .nil) (.node (o244 P) .nil .nil)))) (.node (o28 P) (.node (o44 P) (.node (o76 P) (.node (o140 P) (.node (o268 P) .nil .nil) .nil) (.node (o204 P) .nil .nil)) (.node (o108 P) (.node (o172 P) (.node (o300 P) .nil .nil) .nil) (.node (o236 P) .nil .nil))) (.node (o60 P) (.node (o92 P) (.node (o156 P) (.node (o284 P) .nil .nil) .nil) (.node (o220 P) .nil .nil)) (.node (o124 P) (.node (o188 P) (.node (o316 P) .nil .nil) .nil) (.node (o252 P) .nil .nil)))))) (.node (boot_o_6 P) (.node (boot_o_10 P) (.node (o18 P) (.node (o34 P) (.node (o66 P) (.node (o130 P) (.node (o258 P) .nil .nil) .nil) (.node (o194 P) (.node (o322 P) .nil .nil) .nil)) (.node (o98 P) (.node (o162 P) (.node (o290 P) .nil .nil) .nil) (.node (o226 P) .nil .nil))) (.node (o50 P) (.node (o82 P) (.node (o146 P) (.node (o274 P) .nil .nil) .nil) (.node (o210 P) .nil .nil)) (.node (o114 P) (.node (o178 P) (.node (o306 P) .nil .nil) .nil) (.node (o242 P) .nil .nil)))) (.node (o26 P) (.node (o42 P) (.node (o74 P) (.node (o138 P) (.node (o266 P) .nil .nil) .nil) (.node (o202 P) .nil .nil)) (.node (o106 P) (.node (o170 P) (.node (o298 P) .nil .nil) .nil) (.node (o234 P) .nil .nil))) (.node (o58 P) (.node (o90 P) (.node (o154 P) (.node (o282 P) .nil .nil) .nil) (.node (o218 P) .nil .nil)) (.node (o122 P) (.node (o186 P) (.node (o314 P) .nil .nil) .nil) (.node (o250 P) .nil .nil))))) (.node (o14 P) (.node (o22 P) (.node (o38 P) (.node (o70 P) (.node (o134 P) (.node (o262 P) .nil .nil) .nil) (.node (o198 P) (.node (o326 P) .nil .nil) .nil)) (.node (o102 P) (.node (o166 P) (.node (o294 P) .nil .nil) .nil) (.node (o230 P) .nil .nil))) (.node (o54 P) (.node (o86 P) (.node (o150 P) (.node (o278 P) .nil .nil) .nil) (.node (o214 P) .nil .nil)) (.node (o118 P) (.node (o182 P) (.node (o310 P) .nil .nil) .nil) (.node (o246 P) .nil .nil)))) (.node (o30 P) (.node (o46 P) (.node (o78 P) (.node (o142 P) (.node (o270 P) .nil .nil) .nil) (.node (o206 P) .nil .nil)) (.node (o110 P) (.node (o174 P) (.node (o302 P) .nil .nil) .nil) (.node (o238 P) .nil .nil))) (.node (o62 P) (.node (o94 P) (.node (o158 P) (.node (o286 P) .nil .nil) .nil) (.node (o222 P) .nil .nil)) (.node (o126 P) (.node (o190 P) (.node (o318 P) .nil .nil) .nil) (.node (o254 P) .nil .nil))))))))
noncomputable def o3_4 (P : Params) : Obj := ⟨(.type "dict"), none, (.dict (Array.mk [(en P "__name__" 165 (.str "clausemill.unify" 687)), (en P "__doc__" 166 .none), (en P "__package__" 167 .none), (en P "__loader__" 168 (.builtin "__main__.__loader__#opaque")), (en P "__spec__" 169 .none), (en P "__annotations__" 170 (.ref 6)), (en P "__builtins__" 171 (.ref 4)), (en P "__file__" 173 (.str "/claim/cut.py" 172)), (en P "__cached__" 174 .none), (en P "_wall" 193 (.ref 21)), (en P "ClausemillError" 215 (.ref 31)), (en P "PrologError" 240 (.ref 51)), (en P "A_NIL" 242 (.int 0 241)), (en P "A_SYSTEM" 244 (.int 25 243)), (en P "F_DOT" 246 (.int 0 245)), (en P "F_ERROR" 248 (.int 16 247)), (en P "fixed_atoms" 254 (.ref 60)), (en P "fixed_functors" 260 (.ref 67)), (en P "Symbols" 379 (.ref 154)), (en P "system_error" 388 (.ref 165)), (en P "formal_of" 399 (.ref 172)), (en P "resource_error" 407 (.ref 179)), (en P "REF" 411 (.int 0 410)), (en P "SRF" 413 (.int 1 412)), (en P "STR" 415 (.int 2 414)), (en P "LIS" 417 (.int 3 416)), (en P "CON" 419 (.int 4 418)), (en P "INT" 421 (.int 5 420)), (en P "FUN" 423 (.int 6 422)), (en P "Cells" 617 (.ref 323)), (en P "Store" 686 (.ref 373))]) 31), #[]⟩
noncomputable def o12_4 (P : Params) : Obj := ⟨.none, none, (.fields #[(.int 1 0), (.int 0 0), (.ref 20), (.int 5 0), (.int 0 0), (.ref 27), (.int 7 0), (.int 0 0), (.ref 40), (.int 15 0), (.int 0 0), (.ref 59), (.int 17 0), (.int 0 0), (.ref 66), (.int 19 0), (.int 0 0), (.ref 73), (.int 74 0), (.int 0 0), (.ref 164), (.int 76 0), (.int 0 0), (.ref 171), (.int 81 0), (.int 0 0), (.ref 178), (.int 91 0), (.int 0 0), (.ref 185), (.int 207 0), (.int 0 0), (.ref 333)]), #[]⟩
noncomputable def o323_4 (P : Params) : Obj := ⟨(.type "type"), none, (.cls { name := "Cells", bases := [(.type "object")], mro := [(.ref 323), (.type "object")], ns := 322, qualname := "Cells", hasDict := true, slotNames := [], subclasses := [(.ref 373)], abstract := false, collection := none, hasDel := false }), #[none, none, some (.str "Cells" 424), some (.str "Cells" 432), some (.builtin "object.__new__"), some (.bool true)]⟩
noncomputable def o328 (P : Params) : Obj := ⟨(.type "tuple"), none, (.seq #[(.ref 323)] 0), #[]⟩
noncomputable def o329 (P : Params) : Obj := ⟨(.type "builtin_function_or_method"), none, (.fields #[(.builtin "type.__prepare__"), (.type "type")]), #[]⟩
noncomputable def o330 (P : Params) : Obj := ⟨(.type "dict"), none, (.dict (Array.mk [(en P "__module__" 625 (.str "clausemill.store" 408)), (en P "__qualname__" 627 (.str "Store" 626)), (en P "__firstlineno__" 629 (.int 207 628)), (en P "new_struct" 638 (.ref 341)), (en P "build_list" 647 (.ref 349)), (en P "list_cells" 655 (.ref 356)), (en P "put_term" 673 (.ref 363)), (en P "take_term" 682 (.ref 370)), (en P "__static_attributes__" 683 (.ref 371))]) 9), #[]⟩
noncomputable def o331 (P : Params) : Obj := ⟨(.type "tuple"), none, (.seq #[] 0), #[]⟩
noncomputable def o332 (P : Params) : Obj := ⟨.none, none, (.fields #[(.int 209 0), (.int 4 0), (.ref 340), (.int 212 0), (.int 4 0), (.ref 348), (.int 215 0), (.int 4 0), (.ref 355), (.int 218 0), (.int 4 0), (.ref 362), (.int 255 0), (.int 4 0), (.ref 369)]), #[]⟩
noncomputable def o333 (P : Params) : Obj := ⟨(.type "code"), none, (.fields #[(.str "Store" 620), (.str "Store" 621), (.str "/claim/cut.py" 622), (.int 207 0), (.int 0 0), (.int 0 0), (.int 0 0), (.int 0 0), (.ref 331), (.bool false), (.int 181 0), (.ref 332), .none, .none, .none, .none, (.int 623 0), (.int 207 0), (.str "/claim/cut.py" 624)]), #[]⟩
noncomputable def o334 (P : Params) : Obj := ⟨(.type "frame"), none, .plain, #[some (.ref 333), some (.ref 3), some (.ref 330), none, some (.str "clausemill.store" 408), none, some (.ref 0)]⟩
noncomputable def o335 (P : Params) : Obj := ⟨(.type "tuple"), none, (.seq #[] 0), #[]⟩
noncomputable def o336 (P : Params) : Obj := ⟨.none, none, (.fields #[]), #[]⟩
noncomputable def o337 (P : Params) : Obj := ⟨(.type "tuple"), none, (.seq #[(.str "self" 633), (.str "f" 634), (.str "cells" 635)] 0), #[]⟩
noncomputable def o338 (P : Params) : Obj := ⟨(.type "tuple"), none, (.seq #[] 0), #[]⟩
noncomputable def o339 (P : Params) : Obj := ⟨.none, none, (.func { name := "new_struct", qualname := "Store.new_struct", params := (argsS (nth (bodyS (stm 24)) 0)), body := (.stmts (bodyS (nth (bodyS (stm 24)) 0))), scope := (scopeS (nth (bodyS (stm 24)) 0)), globals := 0, closure := [], defaults := .none, kwdefaults := .none, doc := .none, pyModule := .none, annotations := none, code := .none, closureTuple := .none, builtins := 0 }), #[]⟩
noncomputable def o340 (P : Params) : Obj := ⟨(.type "code"), none, (.fields #[(.str "new_struct" 630), (.str "Store.new_struct" 631), (.str "/claim/cut.py" 632), (.int 209 0), (.int 3 0), (.int 0 0), (.int 0 0), (.int 3 0), (.ref 335), (.bool true), (.int 181 0), (.ref 336), .none, (.ref 337), (.ref 338), (.ref 339), (.int 636 0), (.int 209 0), (.str "/claim/cut.py" 637)]), #[]⟩
noncomputable def o341 (P : Params) : Obj := ⟨(.type "function"), none, (.func { name := "new_struct", qualname := "Store.new_struct", params := (argsS (nth (bodyS (stm 24)) 0)), body := (.stmts (bodyS (nth (bodyS (stm 24)) 0))), scope := (scopeS (nth (bodyS (stm 24)) 0)), globals := 3, closure := [], defaults := .none, kwdefaults := .none, doc := .none, pyModule := (.str "clausemill.store" 408), annotations := none, code := (.ref 340), closureTuple := .none, builtins := 0 }), #[]⟩
noncomputable def o342 (P : Params) : Obj := ⟨(.type "tuple"), none, (.seq #[.none] 0), #[]⟩
noncomputable def o343 (P : Params) : Obj := ⟨(.type "tuple"), none, (.seq #[] 0), #[]⟩
noncomputable def o344 (P : Params) : Obj := ⟨.none, none, (.fields #[]), #[]⟩
noncomputable def o345 (P : Params) : Obj := ⟨(.type "tuple"), none, (.seq #[(.str "self" 642), (.str "cells" 643), (.str "tail" 644)] 0), #[]⟩
noncomputable def o346 (P : Params) : Obj := ⟨(.type "tuple"), none, (.seq #[] 0), #[]⟩
noncomputable def o347 (P : Params) : Obj := ⟨.none, none, (.func { name := "build_list", qualname := "Store.build_list", params := (argsS (nth (bodyS (stm 24)) 1)), body := (.stmts (bodyS (nth (bodyS (stm 24)) 1))), scope := (scopeS (nth (bodyS (stm 24)) 1)), globals := 0, closure := [], defaults := .none, kwdefaults := .none, doc := .none, pyModule := .none, annotations := none, code := .none, closureTuple := .none, builtins := 0 }), #[]⟩
noncomputable def o348 (P : Params) : Obj := ⟨(.type "code"), none, (.fields #[(.str "build_list" 639), (.str "Store.build_list" 640), (.str "/claim/cut.py" 641), (.int 212 0), (.int 3 0), (.int 0 0), (.int 0 0), (.int 3 0), (.ref 343), (.bool true), (.int 181 0), (.ref 344), .none, (.ref 345), (.ref 346), (.ref 347), (.int 645 0), (.int 212 0), (.str "/claim/cut.py" 646)]), #[]⟩
noncomputable def o349 (P : Params) : Obj := ⟨(.type "function"), none, (.func { name := "build_list", qualname := "Store.build_list", params := (argsS (nth (bodyS (stm 24)) 1)), body := (.stmts (bodyS (nth (bodyS (stm 24)) 1))), scope := (scopeS (nth (bodyS (stm 24)) 1)), globals := 3, closure := [], defaults := (.ref 342), kwdefaults := .none, doc := .none, pyModule := (.str "clausemill.store" 408), annotations := none, code := (.ref 348), closureTuple := .none, builtins := 0 }), #[]⟩
noncomputable def o350 (P : Params) : Obj := ⟨(.type "tuple"), none, (.seq #[] 0), #[]⟩
noncomputable def o351 (P : Params) : Obj := ⟨.none, none, (.fields #[]), #[]⟩
noncomputable def o352 (P : Params) : Obj := ⟨(.type "tuple"), none, (.seq #[(.str "self" 651), (.str "cell" 652)] 0), #[]⟩
noncomputable def o353 (P : Params) : Obj := ⟨(.type "tuple"), none, (.seq #[] 0), #[]⟩
noncomputable def o354 (P : Params) : Obj := ⟨.none, none, (.func { name := "list_cells", qualname := "Store.list_cells", params := (argsS (nth (bodyS (stm 24)) 2)), body := (.stmts (bodyS (nth (bodyS (stm 24)) 2))), scope := (scopeS (nth (bodyS (stm 24)) 2)), globals := 0, closure := [], defaults := .none, kwdefaults := .none, doc := .none, pyModule := .none, annotations := none, code := .none, closureTuple := .none, builtins := 0 }), #[]⟩
noncomputable def o355 (P : Params) : Obj := ⟨(.type "code"), none, (.fields #[(.str "list_cells" 648), (.str "Store.list_cells" 649), (.str "/claim/cut.py" 650), (.int 215 0), (.int 2 0), (.int 0 0), (.int 0 0), (.int 3 0), (.ref 350), (.bool true), (.int 181 0), (.ref 351), .none, (.ref 352), (.ref 353), (.ref 354), (.int 653 0), (.int 215 0), (.str "/claim/cut.py" 654)]), #[]⟩
noncomputable def o356 (P : Params) : Obj := ⟨(.type "function"), none, (.func { name := "list_cells", qualname := "Store.list_cells", params := (argsS (nth (bodyS (stm 24)) 2)), body := (.stmts (bodyS (nth (bodyS (stm 24)) 2))), scope := (scopeS (nth (bodyS (stm 24)) 2)), globals := 3, closure := [], defaults := .none, kwdefaults := .none, doc := .none, pyModule := (.str "clausemill.store" 408), annotations := none, code := (.ref 355), closureTuple := .none, builtins := 0 }), #[]⟩
noncomputable def o357 (P : Params) : Obj := ⟨(.type "tuple"), none, (.seq #[] 0), #[]⟩
noncomputable def o358 (P : Params) : Obj := ⟨.none, none, (.fields #[]), #[]⟩
noncomputable def o359 (P : Params) : Obj := ⟨(.type "tuple"), none, (.seq #[(.str "self" 659), (.str "term" 660), (.str "table" 661), (.str "k" 662), (.str "kind" 663), (.str "made" 664), (.str "waiting" 665), (.str "at" 666), (.str "place" 667), (.str "items" 668), (.str "item" 669), (.str "inner" 670)] 0), #[]⟩
noncomputable def o360 (P : Params) : Obj := ⟨(.type "tuple"), none, (.seq #[] 0), #[]⟩
noncomputable def o361 (P : Params) : Obj := ⟨.none, none, (.func { name := "put_term", qualname := "Store.put_term", params := (argsS (nth (bodyS (stm 24)) 3)), body := (.stmts (bodyS (nth (bodyS (stm 24)) 3))), scope := (scopeS (nth (bodyS (stm 24)) 3)), globals := 0, closure := [], defaults := .none, kwdefaults := .none, doc := .none, pyModule := .none, annotations := none, code := .none, closureTuple := .none, builtins := 0 }), #[]⟩
noncomputable def o362 (P : Params) : Obj := ⟨(.type "code"), none, (.fields #[(.str "put_term" 656), (.str "Store.put_term" 657), (.str "/claim/cut.py" 658), (.int 218 0), (.int 3 0), (.int 0 0), (.int 0 0), (.int 3 0), (.ref 357), (.bool true), (.int 181 0), (.ref 358), .none, (.ref 359), (.ref 360), (.ref 361), (.int 671 0), (.int 218 0), (.str "/claim/cut.py" 672)]), #[]⟩
noncomputable def o363 (P : Params) : Obj := ⟨(.type "function"), none, (.func { name := "put_term", qualname := "Store.put_term", params := (argsS (nth (bodyS (stm 24)) 3)), body := (.stmts (bodyS (nth (bodyS (stm 24)) 3))), scope := (scopeS (nth (bodyS (stm 24)) 3)), globals := 3, closure := [], defaults := .none, kwdefaults := .none, doc := .none, pyModule := (.str "clausemill.store" 408), annotations := none, code := (.ref 362), closureTuple := .none, builtins := 0 }), #[]⟩
noncomputable def o364 (P : Params) : Obj := ⟨(.type "tuple"), none, (.seq #[] 0), #[]⟩
noncomputable def o365 (P : Params) : Obj := ⟨.none, none, (.fields #[]), #[]⟩
noncomputable def o366 (P : Params) : Obj := ⟨(.type "tuple"), none, (.seq #[(.str "self" 677), (.str "cell" 678), (.str "table" 679)] 0), #[]⟩
noncomputable def o367 (P : Params) : Obj := ⟨(.type "tuple"), none, (.seq #[] 0), #[]⟩
noncomputable def o368 (P : Params) : Obj := ⟨.none, none, (.func { name := "take_term", qualname := "Store.take_term", params := (argsS (nth (bodyS (stm 24)) 4)), body := (.stmts (bodyS (nth (bodyS (stm 24)) 4))), scope := (scopeS (nth (bodyS (stm 24)) 4)), globals := 0, closure := [], defaults := .none, kwdefaults := .none, doc := .none, pyModule := .none, annotations := none, code := .none, closureTuple := .none, builtins := 0 }), #[]⟩
noncomputable def o369 (P : Params) : Obj := ⟨(.type "code"), none, (.fields #[(.str "take_term" 674), (.str "Store.take_term" 675), (.str "/claim/cut.py" 676), (.int 255 0), (.int 3 0), (.int 0 0), (.int 0 0), (.int 3 0), (.ref 364), (.bool true), (.int 181 0), (.ref 365), .none, (.ref 366), (.ref 367), (.ref 368), (.int 680 0), (.int 255 0), (.str "/claim/cut.py" 681)]), #[]⟩
noncomputable def o370 (P : Params) : Obj := ⟨(.type "function"), none, (.func { name := "take_term", qualname := "Store.take_term", params := (argsS (nth (bodyS (stm 24)) 4)), body := (.stmts (bodyS (nth (bodyS (stm 24)) 4))), scope := (scopeS (nth (bodyS (stm 24)) 4)), globals := 3, closure := [], defaults := .none, kwdefaults := .none, doc := .none, pyModule := (.str "clausemill.store" 408), annotations := none, code := (.ref 369), closureTuple := .none, builtins := 0 }), #[]⟩
noncomputable def o371 (P : Params) : Obj := ⟨(.type "tuple"), none, (.seq #[] 0), #[]⟩
noncomputable def o372 (P : Params) : Obj := ⟨(.type "dict"), none, (.dict (Array.mk [(en P "__module__" 625 (.str "clausemill.store" 408)), (en P "__firstlineno__" 629 (.int 207 628)), (en P "new_struct" 638 (.ref 341)), (en P "build_list" 647 (.ref 349)), (en P "list_cells" 655 (.ref 356)), (en P "put_term" 673 (.ref 363)), (en P "take_term" 682 (.ref 370)), (en P "__static_attributes__" 683 (.ref 371)), (en P "__doc__" 684 .none)]) 2), #[]⟩
noncomputable def o373 (P : Params) : Obj := ⟨(.type "type"), none, (.cls { name := "Store", bases := [(.ref 323)], mro := [(.ref 373), (.ref 323), (.type "object")], ns := 372, qualname := "Store", hasDict := true, slotNames := [], subclasses := [], abstract := false, collection := none, hasDel := false }), #[some (.ref 328), none, some (.str "Store" 618), some (.str "Store" 626), some (.builtin "object.__new__"), some (.bool true)]⟩
noncomputable def o374 (P : Params) : Obj := ⟨(.type "super"), none, (.fields #[(.ref 373), (.ref 373), (.ref 373)]), #[]⟩
noncomputable def o375 (P : Params) : Obj := ⟨(.type "builtin_function_or_method"), none, (.fields #[(.builtin "object.__init_subclass__"), (.ref 373)]), #[]⟩
noncomputable def tr_4 (P : Params) : BT := (.node (boot_o_0 P) (.node (boot_o_1 P) (.node (o3_4 P) (.node (boot_o_7 P) (.node (o15 P) (.node (o31 P) (.node (o63 P) (.node (o127 P) (.node (o255 P) .nil .nil) .nil) (.node (o191 P) (.node (o319 P) .nil .nil) .nil)) (.node (o95 P) (.node (o159 P) (.node (o287 P) .nil .nil) .nil) (.node (o223 P) (.node (o351 P) .nil .nil) .nil))) (.node (o47 P) (.node (o79 P) (.node (o143 P) (.node (o271 P) .nil .nil) .nil) (.node (o207 P) (.node (o335 P) .nil .nil) .nil)) (.node (o111 P) (.node (o175 P) (.node (o303 P) .nil .nil) .nil) (.node (o239 P) (.node (o367 P) .nil .nil) .nil)))) (.node (o23 P) (.node (o39 P) (.node (o71 P) (.node (o135 P) (.node (o263 P) .nil .nil) .nil) (.node (o199 P) (.node (o327 P) .nil .nil) .nil)) (.node (o103 P) (.node (o167 P) (.node (o295 P) .nil .nil) .nil) (.node (o231 P) (.node (o359 P) .nil .nil) .nil))) (.node (o55 P) (.node (o87 P) (.node (o151 P) (.node (o279 P) .nil .nil) .nil) (.node (o215 P) (.node (o343 P) .nil .nil) .nil)) (.node (o119 P) (.node (o183 P) (.node (o311 P) .nil .nil) .nil) (.node (o247 P) (.node (o375 P) .nil .nil) .nil))))) (.node (o11 P) (.node (o19 P) (.node (o35 P) (.node (o67 P) (.node (o131 P) (.node (o259 P) .nil .nil) .nil) (.node (o195 P) (.node (o323_4 P) .nil .nil) .nil)) (.node (o99 P) (.node (o163 P) (.node (o291 P) .nil .nil) .nil) (.node (o227 P) (.node (o355 P) .nil .nil) .nil))) (.node (o51 P) (.node (o83 P) (.node (o147 P) (.node (o275 P) .nil .nil) .nil) (.node (o211 P) (.node (o339 P) .nil .nil) .nil)) (.node (o115 P) (.node (o179 P) (.node (o307 P) .nil .nil) .nil) (.node (o243 P) (.node (o371 P) .nil .nil) .nil)))) (.node (o27 P) (.node (o43 P) (.node (o75 P) (.node (o139 P) (.node (o267 P) .nil .nil) .nil) (.node (o203 P) (.node (o331 P) .nil .nil) .nil)) (.node (o107 P) (.node (o171 P) (.node (o299 P) .nil .nil) .nil) (.node (o235 P) (.node (o363 P) .nil .nil) .nil))) (.node (o59 P) (.node (o91 P) (.node (o155 P) (.node (o283 P) .nil .nil) .nil) (.node (o219 P) (.node (o347 P) .nil .nil) .nil)) (.node (o123 P) (.node (o187 P) (.node (o315 P) .nil .nil) .nil) (.node (o251 P) .nil .nil)))))) (.node (boot_o_5 P) (.node (boot_o_9 P) (.node (o17 P) (.node (o33 P) (.node (o65 P) (.node (o129 P) (.node (o257 P) .nil .nil) .nil) (.node (o193 P) (.node (o321 P) .nil .nil) .nil)) (.node (o97 P) (.node (o161 P) (.node (o289 P) .nil .nil) .nil) (.node (o225 P) (.node (o353 P) .nil .nil) .nil))) (.node (o49 P) (.node (o81 P) (.node (o145 P) (.node (o273 P) .nil .nil) .nil) (.node (o209 P) (.node (o337 P) .nil .nil) .nil)) (.node (o113 P) (.node (o177 P) (.node (o305 P) .nil .nil) .nil) (.node (o241 P) (.node (o369 P) .nil .nil) .nil)))) (.node (o25 P) (.node (o41 P) (.node (o73 P) (.node (o137 P) (.node (o265 P) .nil .nil) .nil) (.node (o201 P) (.node (o329 P) .nil .nil) .nil)) (.node (o105 P) (.node (o169 P) (.node (o297 P) .nil .nil) .nil) (.node (o233 P) (.node (o361 P) .nil .nil) .nil))) (.node (o57 P) (.node (o89 P) (.node (o153 P) (.node (o281 P) .nil .nil) .nil) (.node (o217 P) (.node (o345 P) .nil .nil) .nil)) (.node (o121 P) (.node (o185 P) (.node (o313 P) .nil .nil) .nil) (.node (o249 P) .nil .nil))))) (.node (o13 P) (.node (o21 P) (.node (o37 P) (.node (o69 P) (.node (o133 P) (.node (o261 P) .nil .nil) .nil) (.node (o197 P) (.node (o325 P) .nil .nil) .nil)) (.node (o101 P) (.node (o165 P) (.node (o293 P) .nil .nil) .nil) (.node (o229 P) (.node (o357 P) .nil .nil) .nil))) (.node (o53 P) (.node (o85 P) (.node (o149 P) (.node (o277 P) .nil .nil) .nil) (.node (o213 P) (.node (o341 P) .nil .nil) .nil)) (.node (o117 P) (.node (o181 P) (.node (o309 P) .nil .nil) .nil) (.node (o245 P) (.node (o373 P) .nil .nil) .nil)))) (.node (o29 P) (.node (o45 P) (.node (o77 P) (.node (o141 P) (.node (o269 P) .nil .nil) .nil) (.node (o205 P) (.node (o333 P) .nil .nil) .nil)) (.node (o109 P) (.node (o173 P) (.node (o301 P) .nil .nil) .nil) (.node (o237 P) (.node (o365 P) .nil .nil) .nil))) (.node (o61 P) (.node (o93 P) (.node (o157 P) (.node (o285 P) .nil .nil) .nil) (.node (o221 P) (.node (o349 P) .nil .nil) .nil)) (.node (o125 P) (.node (o189 P) (.node (o317 P) .nil .nil) .nil) (.node (o253 P) .nil .nil))))))) (.node (o2_0 P) (.node (boot_o_4 P) (.node (boot_o_8 P) (.node (o16 P) (.node (o32 P) (.node (o64 P) (.node (o128 P) (.node (o256 P) .nil .nil) .nil) (.node (o192 P) (.node (o320 P) .nil .nil) .nil)) (.node (o96 P) (.node (o160 P) (.node (o288 P) .nil .nil) .nil) (.node (o224 P) (.node (o352 P) .nil .nil) .nil))) (.node (o48 P) (.node (o80 P) (.node (o144 P) (.node (o272 P) .nil .nil) .nil) (.node (o208 P) (.node (o336 P) .nil .nil) .nil)) (.node (o112 P) (.node (o176 P) (.node (o304 P) .nil .nil) .nil) (.node (o240 P) (.node (o368 P) .nil .nil) .nil)))) (.node (o24 P) (.node (o40 P) (.node (o72 P) (.node (o136 P) (.node (o264 P) .nil .nil) .nil) (.node (o200 P) (.node (o328 P) .nil .nil) .nil)) (.node (o104 P) (.node (o168 P) (.node (o296 P) .nil .nil) .nil) (.node (o232 P) (.node (o360 P) .nil .nil) .nil))) (.node (o56 P) (.node (o88 P) (.node (o152 P) (.node (o280 P) .nil .nil) .nil) (.node (o216 P) (.node (o344 P) .nil .nil) .nil)) (.node (o120 P) (.node (o184 P) (.node (o312 P) .nil .nil) .nil) (.node (o248 P) .nil .nil))))) (.node (o12_4 P) (.node (o20 P) (.node (o36 P) (.node (o68 P) (.node (o132 P) (.node (o260 P) .nil .nil) .nil) (.node (o196 P) (.node (o324 P) .nil .nil) .nil)) (.node (o100 P) (.node (o164 P) (.node (o292 P) .nil .nil) .nil) (.node (o228 P) (.node (o356 P) .nil .nil) .nil))) (.node (o52 P) (.node (o84 P) (.node (o148 P) (.node (o276 P) .nil .nil) .nil) (.node (o212 P) (.node (o340 P) .nil .nil) .nil)) (.node (o116 P) (.node (o180 P) (.node (o308 P) .nil .nil) .nil) (.node (o244 P) (.node (o372 P) .nil .nil) .nil)))) (.node (o28 P) (.node (o44 P) (.node (o76 P) (.node (o140 P) (.node (o268 P) .nil .nil) .nil) (.node (o204 P) (.node (o332 P) .nil .nil) .nil)) (.node (o108 P) (.node (o172 P) (.node (o300 P) .nil .nil) .nil) (.node (o236 P) (.node (o364 P) .nil .nil) .nil))) (.node (o60 P) (.node (o92 P) (.node (o156 P) (.node (o284 P) .nil .nil) .nil) (.node (o220 P) (.node (o348 P) .nil .nil) .nil)) (.node (o124 P) (.node (o188 P) (.node (o316 P) .nil .nil) .nil) (.node (o252 P) .nil .nil)))))) (.node (boot_o_6 P) (.node (boot_o_10 P) (.node (o18 P) (.node (o34 P) (.node (o66 P) (.node (o130 P) (.node (o258 P) .nil .nil) .nil) (.node (o194 P) (.node (o322 P) .nil .nil) .nil)) (.node (o98 P) (.node (o162 P) (.node (o290 P) .nil .nil) .nil) (.node (o226 P) (.node (o354 P) .nil .nil) .nil))) (.node (o50 P) (.node (o82 P) (.node (o146 P) (.node (o274 P) .nil .nil) .nil) (.node (o210 P) (.node (o338 P) .nil .nil) .nil)) (.node (o114 P) (.node (o178 P) (.node (o306 P) .nil .nil) .nil) (.node (o242 P) (.node (o370 P) .nil .nil) .nil)))) (.node (o26 P) (.node (o42 P) (.node (o74 P) (.node (o138 P) (.node (o266 P) .nil .nil) .nil) (.node (o202 P) (.node (o330 P) .nil .nil) .nil)) (.node (o106 P) (.node (o170 P) (.node (o298 P) .nil .nil) .nil) (.node (o234 P) (.node (o362 P) .nil .nil) .nil))) (.node (o58 P) (.node (o90 P) (.node (o154 P) (.node (o282 P) .nil .nil) .nil) (.node (o218 P) (.node (o346 P) .nil .nil) .nil)) (.node (o122 P) (.node (o186 P) (.node (o314 P) .nil .nil) .nil) (.node (o250 P) .nil .nil))))) (.node (o14 P) (.node (o22 P) (.node (o38 P) (.node (o70 P) (.node (o134 P) (.node (o262 P) .nil .nil) .nil) (.node (o198 P) (.node (o326 P) .nil .nil) .nil)) (.node (o102 P) (.node (o166 P) (.node (o294 P) .nil .nil) .nil) (.node (o230 P) (.node (o358 P) .nil .nil) .nil))) (.node (o54 P) (.node (o86 P) (.node (o150 P) (.node (o278 P) .nil .nil) .nil) (.node (o214 P) (.node (o342 P) .nil .nil) .nil)) (.node (o118 P) (.node (o182 P) (.node (o310 P) .nil .nil) .nil) (.node (o246 P) (.node (o374 P) .nil .nil) .nil)))) (.node (o30 P) (.node (o46 P) (.node (o78 P) (.node (o142 P) (.node (o270 P) .nil .nil) .nil) (.node (o206 P) (.node (o334 P) .nil .nil) .nil)) (.node (o110 P) (.node (o174 P) (.node (o302 P) .nil .nil) .nil) (.node (o238 P) (.node (o366 P) .nil .nil) .nil))) (.node (o62 P) (.node (o94 P) (.node (o158 P) (.node (o286 P) .nil .nil) .nil) (.node (o222 P) (.node (o350 P) .nil .nil) .nil)) (.node (o126 P) (.node (o190 P) (.node (o318 P) .nil .nil) .nil) (.node (o254 P) .nil .nil))))))))
noncomputable def o3_5 (P : Params) : Obj := ⟨(.type "dict"), none, (.dict (Array.mk [(en P "__name__" 165 (.str "clausemill.unify" 687)), (en P "__doc__" 166 .none), (en P "__package__" 167 .none), (en P "__loader__" 168 (.builtin "__main__.__loader__#opaque")), (en P "__spec__" 169 .none), (en P "__annotations__" 170 (.ref 6)), (en P "__builtins__" 171 (.ref 4)), (en P "__file__" 173 (.str "/claim/cut.py" 172)), (en P "__cached__" 174 .none), (en P "_wall" 193 (.ref 21)), (en P "ClausemillError" 215 (.ref 31)), (en P "PrologError" 240 (.ref 51)), (en P "A_NIL" 242 (.int 0 241)), (en P "A_SYSTEM" 244 (.int 25 243)), (en P "F_DOT" 246 (.int 0 245)), (en P "F_ERROR" 248 (.int 16 247)), (en P "fixed_atoms" 254 (.ref 60)), (en P "fixed_functors" 260 (.ref 67)), (en P "Symbols" 379 (.ref 154)), (en P "system_error" 388 (.ref 165)), (en P "formal_of" 399 (.ref 172)), (en P "resource_error" 407 (.ref 179)), (en P "REF" 411 (.int 0 410)), (en P "SRF" 413 (.int 1 412)), (en P "STR" 415 (.int 2 414)), (en P "LIS" 417 (.int 3 416)), (en P "CON" 419 (.int 4 418)), (en P "INT" 421 (.int 5 420)), (en P "FUN" 423 (.int 6 422)), (en P "Cells" 617 (.ref 323)), (en P "Store" 686 (.ref 373)), (en P "PairSet" 728 (.ref 399)), (en P "push_arguments" 739 (.ref 410)), (en P "push_pairs" 752 (.ref 417)), (en P "same_shape" 761 (.ref 424)), (en P "is_variable" 768 (.ref 431)), (en P "rank" 776 (.ref 438)), (en P "order" 784 (.ref 445)), (en P "compare_shapes" 797 (.ref 452)), (en P "compare_tops" 808 (.ref 459)), (en P "compare" 822 (.ref 466)), (en P "identical" 831 (.ref 473))]) 42), #[]⟩
noncomputable def o12_5 (P : Params) : Obj := ⟨.none, none, (.fields #[(.int 1 0), (.int 0 0), (.ref 20), (.int 5 0), (.int 0 0), (.ref 27), (.int 7 0), (.int 0 0), (.ref 40), (.int 15 0), (.int 0 0), (.ref 59), (.int 17 0), (.int 0 0), (.ref 66), (.int 19 0), (.int 0 0), (.ref 73), (.int 74 0), (.int 0 0), (.ref 164), (.int 76 0), (.int 0 0), (.ref 171), (.int 81 0), (.int 0 0), (.ref 178), (.int 91 0), (.int 0 0), (.ref 185), (.int 207 0), (.int 0 0), (.ref 333), (.int 258 0), (.int 0 0), (.ref 381), (.int 270 0), (.int 0 0), (.ref 409), (.int 274 0), (.int 0 0), (.ref 416), (.int 279 0), (.int 0 0), (.ref 423), (.int 285 0), (.int 0 0), (.ref 430), (.int 287 0), (.int 0 0), (.ref 437), (.int 296 0), (.int 0 0), (.ref 444), (.int 302 0), (.int 0 0), (.ref 451), (.int 312 0), (.int 0 0), (.ref 458), (.int 324 0), (.int 0 0), (.ref 465), (.int 339 0), (.int 0 0), (.ref 472)]), #[]⟩
noncomputable def o376 (P : Params) : Obj := ⟨(.type "tuple"), none, (.seq #[] 0), #[]⟩
noncomputable def o377 (P : Params) : Obj := ⟨(.type "builtin_function_or_method"), none, (.fields #[(.builtin "type.__prepare__"), (.type "type")]), #[]⟩
noncomputable def o378 (P : Params) : Obj := ⟨(.type "dict"), none, (.dict (Array.mk [(en P "__module__" 696 (.str "clausemill.unify" 687)), (en P "__qualname__" 698 (.str "PairSet" 697)), (en P "__firstlineno__" 700 (.int 258 699)), (en P "__init__" 708 (.ref 389)), (en P "add" 718 (.ref 396)), (en P "__static_attributes__" 721 (.ref 397))]) 6), #[]⟩
noncomputable def o379 (P : Params) : Obj := ⟨(.type "tuple"), none, (.seq #[] 0), #[]⟩
noncomputable def o380 (P : Params) : Obj := ⟨.none, none, (.fields #[(.int 260 0), (.int 4 0), (.ref 388), (.int 264 0), (.int 4 0), (.ref 395)]), #[]⟩
noncomputable def o381 (P : Params) : Obj := ⟨(.type "code"), none, (.fields #[(.str "PairSet" 691), (.str "PairSet" 692), (.str "/claim/cut.py" 693), (.int 258 0), (.int 0 0), (.int 0 0), (.int 0 0), (.int 0 0), (.ref 379), (.bool false), (.int 181 0), (.ref 380), .none, .none, .none, .none, (.int 694 0), (.int 258 0), (.str "/claim/cut.py" 695)]), #[]⟩
noncomputable def o382 (P : Params) : Obj := ⟨(.type "frame"), none, .plain, #[some (.ref 381), some (.ref 3), some (.ref 378), none, some (.str "clausemill.unify" 687), none, some (.ref 0)]⟩
noncomputable def o383 (P : Params) : Obj := ⟨(.type "tuple"), none, (.seq #[] 0), #[]⟩
noncomputable def o384 (P : Params) : Obj := ⟨.none, none, (.fields #[]), #[]⟩
noncomputable def o385 (P : Params) : Obj := ⟨(.type "tuple"), none, (.seq #[(.str "self" 704), (.str "store" 705)] 0), #[]⟩
noncomputable def o386 (P : Params) : Obj := ⟨(.type "tuple"), none, (.seq #[] 0), #[]⟩
noncomputable def o387 (P : Params) : Obj := ⟨.none, none, (.func { name := "__init__", qualname := "PairSet.__init__", params := (argsS (nth (bodyS (stm 26)) 0)), body := (.stmts (bodyS (nth (bodyS (stm 26)) 0))), scope := (scopeS (nth (bodyS (stm 26)) 0)), globals := 0, closure := [], defaults := .none, kwdefaults := .none, doc := .none, pyModule := .none, annotations := none, code := .none, closureTuple := .none, builtins := 0 }), #[]⟩
noncomputable def o388 (P : Params) : Obj := ⟨(.type "code"), none, (.fields #[(.str "__init__" 701), (.str "PairSet.__init__" 702), (.str "/claim/cut.py" 703), (.int 260 0), (.int 2 0), (.int 0 0), (.int 0 0), (.int 3 0), (.ref 383), (.bool true), (.int 181 0), (.ref 384), .none, (.ref 385), (.ref 386), (.ref 387), (.int 706 0), (.int 260 0), (.str "/claim/cut.py" 707)]), #[]⟩
noncomputable def o389 (P : Params) : Obj := ⟨(.type "function"), none, (.func { name := "__init__", qualname := "PairSet.__init__", params := (argsS (nth (bodyS (stm 26)) 0)), body := (.stmts (bodyS (nth (bodyS (stm 26)) 0))), scope := (scopeS (nth (bodyS (stm 26)) 0)), globals := 3, closure := [], defaults := .none, kwdefaults := .none, doc := .none, pyModule := (.str "clausemill.unify" 687), annotations := none, code := (.ref 388), closureTuple := .none, builtins := 0 }), #[]⟩
noncomputable def o390 (P : Params) : Obj := ⟨(.type "tuple"), none, (.seq #[] 0), #[]⟩
noncomputable def o391 (P : Params) : Obj := ⟨.none, none, (.fields #[]), #[]⟩
noncomputable def o392 (P : Params) : Obj := ⟨(.type "tuple"), none, (.seq #[(.str "self" 712), (.str "left" 713), (.str "right" 714), (.str "number" 715)] 0), #[]⟩
noncomputable def o393 (P : Params) : Obj := ⟨(.type "tuple"), none, (.seq #[] 0), #[]⟩
noncomputable def o394 (P : Params) : Obj := ⟨.none, none, (.func { name := "add", qualname := "PairSet.add", params := (argsS (nth (bodyS (stm 26)) 1)), body := (.stmts (bodyS (nth (bodyS (stm 26)) 1))), scope := (scopeS (nth (bodyS (stm 26)) 1)), globals := 0, closure := [], defaults := .none, kwdefaults := .none, doc := .none, pyModule := .none, annotations := none, code := .none, closureTuple := .none, builtins := 0 }), #[]⟩
noncomputable def o395 (P : Params) : Obj := ⟨(.type "code"), none, (.fields #[(.str "add" 709), (.str "PairSet.add" 710), (.str "/claim/cut.py" 711), (.int 264 0), (.int 3 0), (.int 0 0), (.int 0 0), (.int 3 0), (.ref 390), (.bool true), (.int 181 0), (.ref 391), .none, (.ref 392), (.ref 393), (.ref 394), (.int 716 0), (.int 264 0), (.str "/claim/cut.py" 717)]), #[]⟩
noncomputable def o396 (P : Params) : Obj := ⟨(.type "function"), none, (.func { name := "add", qualname := "PairSet.add", params := (argsS (nth (bodyS (stm 26)) 1)), body := (.stmts (bodyS (nth (bodyS (stm 26)) 1))), scope := (scopeS (nth (bodyS (stm 26)) 1)), globals := 3, closure := [], defaults := .none, kwdefaults := .none, doc := .none, pyModule := (.str "clausemill.unify" 687), annotations := none, code := (.ref 395), closureTuple := .none, builtins := 0 }), #[]⟩
noncomputable def o397 (P : Params) : Obj := ⟨(.type "tuple"), none, (.seq #[(.str "met" 719), (.str "span" 720)] 0), #[]⟩
noncomputable def o398 (P : Params) : Obj := ⟨(.type "dict"), none, (.dict (Array.mk [(en P "__module__" 696 (.str "clausemill.unify" 687)), (en P "__firstlineno__" 700 (.int 258 699)), (en P "__init__" 708 (.ref 389)), (en P "add" 718 (.ref 396)), (en P "__static_attributes__" 721 (.ref 397)), (en P "__dict__" 723 (.ref 400)), (en P "__weakref__" 725 (.ref 401)), (en P "__doc__" 726 .none)]) 4), #[]⟩
noncomputable def o399 (P : Params) : Obj := ⟨(.type "type"), none, (.cls { name := "PairSet", bases := [(.type "object")], mro := [(.ref 399), (.type "object")], ns := 398, qualname := "PairSet", hasDict := true, slotNames := [], subclasses := [], abstract := false, collection := none, hasDel := false }), #[none, none, some (.str "PairSet" 689), some (.str "PairSet" 697), some (.builtin "object.__new__"), some (.bool true)]⟩
noncomputable def o400 (P : Params) : Obj := ⟨(.type "getset_descriptor"), none, (.fields #[(.str "__dict__" 722), (.ref 399), (.builtin "function.__dict__"), (.builtin "function.__dict__#set")]), #[]⟩
noncomputable def o401 (P : Params) : Obj := ⟨(.type "getset_descriptor"), none, (.fields #[(.str "__weakref__" 724), (.ref 399), (.builtin "ExceptionGroup.__weakref__"), .none]), #[]⟩
noncomputable def o402 (P : Params) : Obj := ⟨(.type "super"), none, (.fields #[(.ref 399), (.ref 399), (.ref 399)]), #[]⟩
noncomputable def o403 (P : Params) : Obj := ⟨(.type "builtin_function_or_method"), none, (.fields #[(.builtin "object.__init_subclass__"), (.ref 399)]), #[]⟩
noncomputable def o404 (P : Params) : Obj := ⟨(.type "tuple"), none, (.seq #[] 0), #[]⟩
noncomputable def o405 (P : Params) : Obj := ⟨.none, none, (.fields #[]), #[]⟩
noncomputable def o406 (P : Params) : Obj := ⟨(.type "tuple"), none, (.seq #[(.str "store" 732), (.str "cell" 733), (.str "work" 734), (.str "place" 735), (.str "step" 736)] 0), #[]⟩
noncomputable def o407 (P : Params) : Obj := ⟨(.type "tuple"), none, (.seq #[] 0), #[]⟩
noncomputable def o408 (P : Params) : Obj := ⟨.none, none, (.func { name := "push_arguments", qualname := "push_arguments", params := (argsS (stm 27)), body := (.stmts (bodyS (stm 27))), scope := (scopeS (stm 27)), globals := 0, closure := [], defaults := .none, kwdefaults := .none, doc := .none, pyModule := .none, annotations := none, code := .none, closureTuple := .none, builtins := 0 }), #[]⟩
noncomputable def o409 (P : Params) : Obj := ⟨(.type "code"), none, (.fields #[(.str "push_arguments" 729), (.str "push_arguments" 730), (.str "/claim/cut.py" 731), (.int 270 0), (.int 3 0), (.int 0 0), (.int 0 0), (.int 3 0), (.ref 404), (.bool true), (.int 181 0), (.ref 405), .none, (.ref 406), (.ref 407), (.ref 408), (.int 737 0), (.int 270 0), (.str "/claim/cut.py" 738)]), #[]⟩
noncomputable def o410 (P : Params) : Obj := ⟨(.type "function"), none, (.func { name := "push_arguments", qualname := "push_arguments", params := (argsS (stm 27)), body := (.stmts (bodyS (stm 27))), scope := (scopeS (stm 27)), globals := 3, closure := [], defaults := .none, kwdefaults := .none, doc := .none, pyModule := (.str "clausemill.unify" 687), annotations := none, code := (.ref 409), closureTuple := .none, builtins := 0 }), #[]⟩
noncomputable def o411 (P : Params) : Obj := ⟨(.type "tuple"), none, (.seq #[] 0), #[]⟩
noncomputable def o412 (P : Params) : Obj := ⟨.none, none, (.fields #[]), #[]⟩
noncomputable def o413 (P : Params) : Obj := ⟨(.type "tuple"), none, (.seq #[(.str "store" 743), (.str "left" 744), (.str "right" 745), (.str "work" 746), (.str "left_place" 747), (.str "right_place" 748), (.str "step" 749)] 0), #[]⟩
noncomputable def o414 (P : Params) : Obj := ⟨(.type "tuple"), none, (.seq #[] 0), #[]⟩
noncomputable def o415 (P : Params) : Obj := ⟨.none, none, (.func { name := "push_pairs", qualname := "push_pairs", params := (argsS (stm 28)), body := (.stmts (bodyS (stm 28))), scope := (scopeS (stm 28)), globals := 0, closure := [], defaults := .none, kwdefaults := .none, doc := .none, pyModule := .none, annotations := none, code := .none, closureTuple := .none, builtins := 0 }), #[]⟩
noncomputable def o416 (P : Params) : Obj := ⟨(.type "code"), none, (.fields #[(.str "push_pairs" 740), (.str "push_pairs" 741), (.str "/claim/cut.py" 742), (.int 274 0), (.int 4 0), (.int 0 0), (.int 0 0), (.int 3 0), (.ref 411), (.bool true), (.int 181 0), (.ref 412), .none, (.ref 413), (.ref 414), (.ref 415), (.int 750 0), (.int 274 0), (.str "/claim/cut.py" 751)]), #[]⟩
noncomputable def o417 (P : Params) : Obj := ⟨(.type "function"), none, (.func { name := "push_pairs", qualname := "push_pairs", params := (argsS (stm 28)), body := (.stmts (bodyS (stm 28))), scope := (scopeS (stm 28)), globals := 3, closure := [], defaults := .none, kwdefaults := .none, doc := .none, pyModule := (.str "clausemill.unify" 687), annotations := none, code := (.ref 416), closureTuple := .none, builtins := 0 }), #[]⟩
noncomputable def o418 (P : Params) : Obj := ⟨(.type "tuple"), none, (.seq #[] 0), #[]⟩
noncomputable def o419 (P : Params) : Obj := ⟨.none, none, (.fields #[]), #[]⟩
noncomputable def o420 (P : Params) : Obj := ⟨(.type "tuple"), none, (.seq #[(.str "store" 756), (.str "left" 757), (.str "right" 758)] 0), #[]⟩
noncomputable def o421 (P : Params) : Obj := ⟨(.type "tuple"), none, (.seq #[] 0), #[]⟩
noncomputable def o422 (P : Params) : Obj := ⟨.none, none, (.func { name := "same_shape", qualname := "same_shape", params := (argsS (stm 29)), body := (.stmts (bodyS (stm 29))), scope := (scopeS (stm 29)), globals := 0, closure := [], defaults := .none, kwdefaults := .none, doc := .none, pyModule := .none, annotations := none, code := .none, closureTuple := .none, builtins := 0 }), #[]⟩
noncomputable def o423 (P : Params) : Obj := ⟨(.type "code"), none, (.fields #[(.str "same_shape" 753), (.str "same_shape" 754), (.str "/claim/cut.py" 755), (.int 279 0), (.int 3 0), (.int 0 0), (.int 0 0), (.int 3 0), (.ref 418), (.bool true), (.int 181 0), (.ref 419), .none, (.ref 420), (.ref 421), (.ref 422), (.int 759 0), (.int 279 0), (.str "/claim/cut.py" 760)]), #[]⟩
noncomputable def o424 (P : Params) : Obj := ⟨(.type "function"), none, (.func { name := "same_shape", qualname := "same_shape", params := (argsS (stm 29)), body := (.stmts (bodyS (stm 29))), scope := (scopeS (stm 29)), globals := 3, closure := [], defaults := .none, kwdefaults := .none, doc := .none, pyModule := (.str "clausemill.unify" 687), annotations := none, code := (.ref 423), closureTuple := .none, builtins := 0 }), #[]⟩
noncomputable def o425 (P : Params) : Obj := ⟨(.type "tuple"), none, (.seq #[] 0), #[]⟩
noncomputable def o426 (P : Params) : Obj := ⟨.none, none, (.fields #[]), #[]⟩
noncomputable def o427 (P : Params) : Obj := ⟨(.type "tuple"), none, (.seq #[(.str "cell" 765)] 0), #[]⟩
noncomputable def o428 (P : Params) : Obj := ⟨(.type "tuple"), none, (.seq #[] 0), #[]⟩
noncomputable def o429 (P : Params) : Obj := ⟨.none, none, (.func { name := "is_variable", qualname := "is_variable", params := (argsS (stm 30)), body := (.stmts (bodyS (stm 30))), scope := (scopeS (stm 30)), globals := 0, closure := [], defaults := .none, kwdefaults := .none, doc := .none, pyModule := .none, annotations := none, code := .none, closureTuple := .none, builtins := 0 }), #[]⟩
noncomputable def o430 (P : Params) : Obj := ⟨(.type "code"), none, (.fields #[(.str "is_variable" 762), (.str "is_variable" 763), (.str "/claim/cut.py" 764), (.int 285 0), (.int 1 0), (.int 0 0), (.int 0 0), (.int 3 0), (.ref 425), (.bool true), (.int 181 0), (.ref 426), .none, (.ref 427), (.ref 428), (.ref 429), (.int 766 0), (.int 285 0), (.str "/claim/cut.py" 767)]), #[]⟩
noncomputable def o431 (P : Params) : Obj := ⟨(.type "function"), none, (.func { name := "is_variable", qualname := "is_variable", params := (argsS (stm 30)), body := (.stmts (bodyS (stm 30))), scope := (scopeS (stm 30)), globals := 3, closure := [], defaults := .none, kwdefaults := .none, doc := .none, pyModule := (.str "clausemill.unify" 687), annotations := none, code := (.ref 430), closureTuple := .none, builtins := 0 }), #[]⟩
noncomputable def o432 (P : Params) : Obj := ⟨(.type "tuple"), none, (.seq #[] 0), #[]⟩
noncomputable def o433 (P : Params) : Obj := ⟨.none, none, (.fields #[]), #[]⟩
noncomputable def o434 (P : Params) : Obj := ⟨(.type "tuple"), none, (.seq #[(.str "cell" 772), (.str "tag" 773)] 0), #[]⟩
noncomputable def o435 (P : Params) : Obj := ⟨(.type "tuple"), none, (.seq #[] 0), #[]⟩
noncomputable def o436 (P : Params) : Obj := ⟨.none, none, (.func { name := "rank", qualname := "rank", params := (argsS (stm 31)), body := (.stmts (bodyS (stm 31))), scope := (scopeS (stm 31)), globals := 0, closure := [], defaults := .none, kwdefaults := .none, doc := .none, pyModule := .none, annotations := none, code := .none, closureTuple := .none, builtins := 0 }), #[]⟩
noncomputable def o437 (P : Params) : Obj := ⟨(.type "code"), none, (.fields #[(.str "rank" 769), (.str "rank" 770), (.str "/claim/cut.py" 771), (.int 287 0), (.int 1 0), (.int 0 0), (.int 0 0), (.int 3 0), (.ref 432), (.bool true), (.int 181 0), (.ref 433), .none, (.ref 434), (.ref 435), (.ref 436), (.int 774 0), (.int 287 0), (.str "/claim/cut.py" 775)]), #[]⟩
noncomputable def o438 (P : Params) : Obj := ⟨(.type "function"), none, (.func { name := "rank", qualname := "rank", params := (argsS (stm 31)), body := (.stmts (bodyS (stm 31))), scope := (scopeS (stm 31)), globals := 3, closure := [], defaults := .none, kwdefaults := .none, doc := .none, pyModule := (.str "clausemill.unify" 687), annotations := none, code := (.ref 437), closureTuple := .none, builtins := 0 }), #[]⟩
noncomputable def o439 (P : Params) : Obj := ⟨(.type "tuple"), none, (.seq #[] 0), #[]⟩
noncomputable def o440 (P : Params) : Obj := ⟨.none, none, (.fields #[]), #[]⟩
noncomputable def o441 (P : Params) : Obj := ⟨(.type "tuple"), none, (.seq #[(.str "left" 780), (.str "right" 781)] 0), #[]⟩
noncomputable def o442 (P : Params) : Obj := ⟨(.type "tuple"), none, (.seq #[] 0), #[]⟩
noncomputable def o443 (P : Params) : Obj := ⟨.none, none, (.func { name := "order", qualname := "order", params := (argsS (stm 32)), body := (.stmts (bodyS (stm 32))), scope := (scopeS (stm 32)), globals := 0, closure := [], defaults := .none, kwdefaults := .none, doc := .none, pyModule := .none, annotations := none, code := .none, closureTuple := .none, builtins := 0 }), #[]⟩
noncomputable def o444 (P : Params) : Obj := ⟨(.type "code"), none, (.fields #[(.str "order" 777), (.str "order" 778), (.str "/claim/cut.py" 779), (.int 296 0), (.int 2 0), (.int 0 0), (.int 0 0), (.int 3 0), (.ref 439), (.bool true), (.int 181 0), (.ref 440), .none, (.ref 441), (.ref 442), (.ref 443), (.int 782 0), (.int 296 0), (.str "/claim/cut.py" 783)]), #[]⟩
noncomputable def o445 (P : Params) : Obj := ⟨(.type "function"), none, (.func { name := "order", qualname := "order", params := (argsS (stm 32)), body := (.stmts (bodyS (stm 32))), scope := (scopeS (stm 32)), globals := 3, closure := [], defaults := .none, kwdefaults := .none, doc := .none, pyModule := (.str "clausemill.unify" 687), annotations := none, code := (.ref 444), closureTuple := .none, builtins := 0 }), #[]⟩
noncomputable def o446 (P : Params) : Obj := ⟨(.type "tuple"), none, (.seq #[] 0), #[]⟩
noncomputable def o447 (P : Params) : Obj := ⟨.none, none, (.fields #[]), #[]⟩
noncomputable def o448 (P : Params) : Obj := ⟨(.type "tuple"), none, (.seq #[(.str "store" 788), (.str "left" 789), (.str "right" 790), (.str "symbols" 791), (.str "f" 792), (.str "g" 793), (.str "result" 794)] 0), #[]⟩
noncomputable def o449 (P : Params) : Obj := ⟨(.type "tuple"), none, (.seq #[] 0), #[]⟩
noncomputable def o450 (P : Params) : Obj := ⟨.none, none, (.func { name := "compare_shapes", qualname := "compare_shapes", params := (argsS (stm 33)), body := (.stmts (bodyS (stm 33))), scope := (scopeS (stm 33)), globals := 0, closure := [], defaults := .none, kwdefaults := .none, doc := .none, pyModule := .none, annotations := none, code := .none, closureTuple := .none, builtins := 0 }), #[]⟩
noncomputable def o451 (P : Params) : Obj := ⟨(.type "code"), none, (.fields #[(.str "compare_shapes" 785), (.str "compare_shapes" 786), (.str "/claim/cut.py" 787), (.int 302 0), (.int 3 0), (.int 0 0), (.int 0 0), (.int 3 0), (.ref 446), (.bool true), (.int 181 0), (.ref 447), .none, (.ref 448), (.ref 449), (.ref 450), (.int 795 0), (.int 302 0), (.str "/claim/cut.py" 796)]), #[]⟩
noncomputable def o452 (P : Params) : Obj := ⟨(.type "function"), none, (.func { name := "compare_shapes", qualname := "compare_shapes", params := (argsS (stm 33)), body := (.stmts (bodyS (stm 33))), scope := (scopeS (stm 33)), globals := 3, closure := [], defaults := .none, kwdefaults := .none, doc := .none, pyModule := (.str "clausemill.unify" 687), annotations := none, code := (.ref 451), closureTuple := .none, builtins := 0 }), #[]⟩
noncomputable def o453 (P : Params) : Obj := ⟨(.type "tuple"), none, (.seq #[] 0), #[]⟩
noncomputable def o454 (P : Params) : Obj := ⟨.none, none, (.fields #[]), #[]⟩
noncomputable def o455 (P : Params) : Obj := ⟨(.type "tuple"), none, (.seq #[(.str "store" 801), (.str "left" 802), (.str "right" 803), (.str "kind" 804), (.str "result" 805)] 0), #[]⟩
noncomputable def o456 (P : Params) : Obj := ⟨(.type "tuple"), none, (.seq #[] 0), #[]⟩
noncomputable def o457 (P : Params) : Obj := ⟨.none, none, (.func { name := "compare_tops", qualname := "compare_tops", params := (argsS (stm 34)), body := (.stmts (bodyS (stm 34))), scope := (scopeS (stm 34)), globals := 0, closure := [], defaults := .none, kwdefaults := .none, doc := .none, pyModule := .none, annotations := none, code := .none, closureTuple := .none, builtins := 0 }), #[]⟩
noncomputable def o458 (P : Params) : Obj := ⟨(.type "code"), none, (.fields #[(.str "compare_tops" 798), (.str "compare_tops" 799), (.str "/claim/cut.py" 800), (.int 312 0), (.int 3 0), (.int 0 0), (.int 0 0), (.int 3 0), (.ref 453), (.bool true), (.int 181 0), (.ref 454), .none, (.ref 455), (.ref 456), (.ref 457), (.int 806 0), (.int 312 0), (.str "/claim/cut.py" 807)]), #[]⟩
noncomputable def o459 (P : Params) : Obj := ⟨(.type "function"), none, (.func { name := "compare_tops", qualname := "compare_tops", params := (argsS (stm 34)), body := (.stmts (bodyS (stm 34))), scope := (scopeS (stm 34)), globals := 3, closure := [], defaults := .none, kwdefaults := .none, doc := .none, pyModule := (.str "clausemill.unify" 687), annotations := none, code := (.ref 458), closureTuple := .none, builtins := 0 }), #[]⟩
noncomputable def o460 (P : Params) : Obj := ⟨(.type "tuple"), none, (.seq #[] 0), #[]⟩
noncomputable def o461 (P : Params) : Obj := ⟨.none, none, (.fields #[]), #[]⟩
noncomputable def o462 (P : Params) : Obj := ⟨(.type "tuple"), none, (.seq #[(.str "store" 812), (.str "c1" 813), (.str "c2" 814), (.str "met" 815), (.str "work" 816), (.str "left" 817), (.str "right" 818), (.str "result" 819)] 0), #[]⟩
noncomputable def o463 (P : Params) : Obj := ⟨(.type "tuple"), none, (.seq #[] 0), #[]⟩
noncomputable def o464 (P : Params) : Obj := ⟨.none, none, (.func { name := "compare", qualname := "compare", params := (argsS (stm 35)), body := (.stmts (bodyS (stm 35))), scope := (scopeS (stm 35)), globals := 0, closure := [], defaults := .none, kwdefaults := .none, doc := .none, pyModule := .none, annotations := none, code := .none, closureTuple := .none, builtins := 0 }), #[]⟩
noncomputable def o465 (P : Params) : Obj := ⟨(.type "code"), none, (.fields #[(.str "compare" 809), (.str "compare" 810), (.str "/claim/cut.py" 811), (.int 324 0), (.int 3 0), (.int 0 0), (.int 0 0), (.int 3 0), (.ref 460), (.bool true), (.int 181 0), (.ref 461), .none, (.ref 462), (.ref 463), (.ref 464), (.int 820 0), (.int 324 0), (.str "/claim/cut.py" 821)]), #[]⟩
noncomputable def o466 (P : Params) : Obj := ⟨(.type "function"), none, (.func { name := "compare", qualname := "compare", params := (argsS (stm 35)), body := (.stmts (bodyS (stm 35))), scope := (scopeS (stm 35)), globals := 3, closure := [], defaults := .none, kwdefaults := .none, doc := .none, pyModule := (.str "clausemill.unify" 687), annotations := none, code := (.ref 465), closureTuple := .none, builtins := 0 }), #[]⟩
noncomputable def o467 (P : Params) : Obj := ⟨(.type "tuple"), none, (.seq #[] 0), #[]⟩
noncomputable def o468 (P : Params) : Obj := ⟨.none, none, (.fields #[]), #[]⟩
noncomputable def o469 (P : Params) : Obj := ⟨(.type "tuple"), none, (.seq #[(.str "store" 826), (.str "c1" 827), (.str "c2" 828)] 0), #[]⟩
noncomputable def o470 (P : Params) : Obj := ⟨(.type "tuple"), none, (.seq #[] 0), #[]⟩
noncomputable def o471 (P : Params) : Obj := ⟨.none, none, (.func { name := "identical", qualname := "identical", params := (argsS (stm 36)), body := (.stmts (bodyS (stm 36))), scope := (scopeS (stm 36)), globals := 0, closure := [], defaults := .none, kwdefaults := .none, doc := .none, pyModule := .none, annotations := none, code := .none, closureTuple := .none, builtins := 0 }), #[]⟩
noncomputable def o472 (P : Params) : Obj := ⟨(.type "code"), none, (.fields #[(.str "identical" 823), (.str "identical" 824), (.str "/claim/cut.py" 825), (.int 339 0), (.int 3 0), (.int 0 0), (.int 0 0), (.int 3 0), (.ref 467), (.bool true), (.int 181 0), (.ref 468), .none, (.ref 469), (.ref 470), (.ref 471), (.int 829 0), (.int 339 0), (.str "/claim/cut.py" 830)]), #[]⟩
noncomputable def o473 (P : Params) : Obj := ⟨(.type "function"), none, (.func { name := "identical", qualname := "identical", params := (argsS (stm 36)), body := (.stmts (bodyS (stm 36))), scope := (scopeS (stm 36)), globals := 3, closure := [], defaults := .none, kwdefaults := .none, doc := .none, pyModule := (.str "clausemill.unify" 687), annotations := none, code := (.ref 472), closureTuple := .none, builtins := 0 }), #[]⟩
noncomputable def tr_5 (P : Params) : BT := (.node (boot_o_0 P) (.node (boot_o_1 P) (.node (o3_5 P) (.node (boot_o_7 P) (.node (o15 P) (.node (o31 P) (.node (o63 P) (.node (o127 P) (.node (o255 P) .nil .nil) (.node (o383 P) .nil .nil)) (.node (o191 P) (.node (o319 P) .nil .nil) (.node (o447 P) .nil .nil))) (.node (o95 P) (.node (o159 P) (.node (o287 P) .nil .nil) (.node (o415 P) .nil .nil)) (.node (o223 P) (.node (o351 P) .nil .nil) .nil))) (.node (o47 P) (.node (o79 P) (.node (o143 P) (.node (o271 P) .nil .nil) (.node (o399 P) .nil .nil)) (.node (o207 P) (.node (o335 P) .nil .nil) (.node (o463 P) .nil .nil))) (.node (o111 P) (.node (o175 P) (.node (o303 P) .nil .nil) (.node (o431 P) .nil .nil)) (.node (o239 P) (.node (o367 P) .nil .nil) .nil)))) (.node (o23 P) (.node (o39 P) (.node (o71 P) (.node (o135 P) (.node (o263 P) .nil .nil) (.node (o391 P) .nil .nil)) (.node (o199 P) (.node (o327 P) .nil .nil) (.node (o455 P) .nil .nil))) (.node (o103 P) (.node (o167 P) (.node (o295 P) .nil .nil) (.node (o423 P) .nil .nil)) (.node (o231 P) (.node (o359 P) .nil .nil) .nil))) (.node (o55 P) (.node (o87 P) (.node (o151 P) (.node (o279 P) .nil .nil) (.node (o407 P) .nil .nil)) (.node (o215 P) (.node (o343 P) .nil .nil) (.node (o471 P) .nil .nil))) (.node (o119 P) (.node (o183 P) (.node (o311 P) .nil .nil) (.node (o439 P) .nil .nil)) (.node (o247 P) (.node (o375 P) .nil .nil) .nil))))) (.node (o11 P) (.node (o19 P) (.node (o35 P) (.node (o67 P) (.node (o131 P) (.node (o259 P) .nil .nil) (.node (o387 P) .nil .nil)) (.node (o195 P) (.node (o323_4 P) .nil .nil) (.node (o451 P) .nil .nil))) (.node (o99 P) (.node (o163 P) (.node (o291 P) .nil .nil) (.node (o419 P) .nil .nil)) (.node (o227 P) (.node (o355 P) .nil .nil) .nil))) (.node (o51 P) (.node (o83 P) (.node (o147 P) (.node (o275 P) .nil .nil) (.node (o403 P) .nil .nil)) (.node (o211 P) (.node (o339 P) .nil .nil) (.node (o467 P) .nil .nil))) (.node (o115 P) (.node (o179 P) (.node (o307 P) .nil .nil) (.node (o435 P) .nil .nil)) (.node (o243 P) (.node (o371 P) .nil .nil) .nil)))) (.node (o27 P) (.node (o43 P) (.node (o75 P) (.node (o139 P) (.node (o267 P) .nil .nil) (.node (o395 P) .nil .nil)) (.node (o203 P) (.node (o331 P) .nil .nil) (.node (o459 P) .nil .nil))) (.node (o107 P) (.node (o171 P) (.node (o299 P) .nil .nil) (.node (o427 P) .nil .nil)) (.node (o235 P) (.node (o363 P) .nil .nil) .nil))) (.node (o59 P) (.node (o91 P) (.node (o155 P) (.node (o283 P) .nil .nil) (.node (o411 P) .nil .nil)) (.node (o219 P) (.node (o347 P) .nil .nil) .nil)) (.node (o123 P) (.node (o187 P) (.node (o315 P) .nil .nil) (.node (o443 P) .nil .nil)) (.node (o251 P) (.node (o379 P) .nil .nil) .nil)))))) (.node (boot_o_5 P) (.node (boot_o_9 P) (.node (o17 P) (.node (o33 P) (.node (o65 P) (.node (o129 P) (.node (o257 P) .nil .nil) (.node (o385 P) .nil .nil)) (.node (o193 P) (.node (o321 P) .nil .nil) (.node (o449 P) .nil .nil))) (.node (o97 P) (.node (o161 P) (.node (o289 P) .nil .nil) (.node (o417 P) .nil .nil)) (.node (o225 P) (.node (o353 P) .nil .nil) .nil))) (.node (o49 P) (.node (o81 P) (.node (o145 P) (.node (o273 P) .nil .nil) (.node (o401 P) .nil .nil)) (.node (o209 P) (.node (o337 P) .nil .nil) (.node (o465 P) .nil .nil))) (.node (o113 P) (.node (o177 P) (.node (o305 P) .nil .nil) (.node (o433 P) .nil .nil)) (.node (o241 P) (.node (o369 P) .nil .nil) .nil)))) (.node (o25 P) (.node (o41 P) (.node (o73 P) (.node (o137 P) (.node (o265 P) .nil .nil) (.node (o393 P) .nil .nil)) (.node (o201 P) (.node (o329 P) .nil .nil) (.node (o457 P) .nil .nil))) (.node (o105 P) (.node (o169 P) (.node (o297 P) .nil .nil) (.node (o425 P) .nil .nil)) (.node (o233 P) (.node (o361 P) .nil .nil) .nil))) (.node (o57 P) (.node (o89 P) (.node (o153 P) (.node (o281 P) .nil .nil) (.node (o409 P) .nil .nil)) (.node (o217 P) (.node (o345 P) .nil .nil) (.node (o473 P) .nil .nil))) (.node (o121 P) (.node (o185 P) (.node (o313 P) .nil .nil) (.node (o441 P) .nil .nil)) (.node (o249 P) (.node (o377 P) .nil .nil) .nil))))) (.node (o13 P) (.node (o21 P) (.node (o37 P) (.node (o69 P) (.node (o133 P) (.node (o261 P) .nil .nil) (.node (o389 P) .nil .nil)) (.node (o197 P) (.node (o325 P) .nil .nil) (.node (o453 P) .nil .nil))) (.node (o101 P) (.node (o165 P) (.node (o293 P) .nil .nil) (.node (o421 P) .nil .nil)) (.node (o229 P) (.node (o357 P) .nil .nil) .nil))) (.node (o53 P) (.node (o85 P) (.node (o149 P) (.node (o277 P) .nil .nil) (.node (o405 P) .nil .nil)) (.node (o213 P) (.node (o341 P) .nil .nil) (.node (o469 P) .nil .nil))) (.node (o117 P) (.node (o181 P) (.node (o309 P) .nil .nil) (.node (o437 P) .nil .nil)) (.node (o245 P) (.node (o373 P) .nil .nil) .nil)))) (.node (o29 P) (.node (o45 P) (.node (o77 P) (.node (o141 P) (.node (o269 P) .nil .nil) (.node (o397 P) .nil .nil)) (.node (o205 P) (.node (o333 P) .nil .nil) (.node (o461 P) .nil .nil))) (.node (o109 P) (.node (o173 P) (.node (o301 P) .nil .nil) (.node (o429 P) .nil .nil)) (.node (o237 P) (.node (o365 P) .nil .nil) .nil))) (.node (o61 P) (.node (o93 P) (.node (o157 P) (.node (o285 P) .nil .nil) (.node (o413 P) .nil .nil)) (.node (o221 P) (.node (o349 P) .nil .nil) .nil)) (.node (o125 P) (.node (o189 P) (.node (o317 P) .nil .nil) (.node (o445 P) .nil .nil)) (.node (o253 P) (.node (o381 P) .nil .nil) .nil))))))) (.node (o2_0 P) (.node (boot_o_4 P) (.node (boot_o_8 P) (.node (o16 P) (.node (o32 P) (.node (o64 P) (.node (o128 P) (.node (o256 P) .nil .nil) (.node (o384 P) .nil .nil)) (.node (o192 P) (.node (o320 P) .nil .nil) (.node (o448 P) .nil .nil))) (.node (o96 P) (.node (o160 P) (.node (o288 P) .nil .nil) (.node (o416 P) .nil .nil)) (.node (o224 P) (.node (o352 P) .nil .nil) .nil))) (.node (o48 P) (.node (o80 P) (.node (o144 P) (.node (o272 P) .nil .nil) (.node (o400 P) .nil .nil)) (.node (o208 P) (.node (o336 P) .nil .nil) (.node (o464 P) .nil .nil))) (.node (o112 P) (.node (o176 P) (.node (o304 P) .nil .nil) (.node (o432 P) .nil .nil)) (.node (o240 P) (.node (o368 P) .nil .nil) .nil)))) (.node (o24 P) (.node (o40 P) (.node (o72 P) (.node (o136 P) (.node (o264 P) .nil .nil) (.node (o392 P) .nil .nil)) (.node (o200 P) (.node (o328 P) .nil .nil) (.node (o456 P) .nil .nil))) (.node (o104 P) (.node (o168 P) (.node (o296 P) .nil .nil) (.node (o424 P) .nil .nil)) (.node (o232 P) (.node (o360 P) .nil .nil) .nil))) (.node (o56 P) (.node (o88 P) (.node (o152 P) (.node (o280 P) .nil .nil) (.node (o408 P) .nil .nil)) (.node (o216 P) (.node (o344 P) .nil .nil) (.node (o472 P) .nil .nil))) (.node (o120 P) (.node (o184 P) (.node (o312 P) .nil .nil) (.node (o440 P) .nil .nil)) (.node (o248 P) (.node (o376 P) .nil .nil) .nil))))) (.node (o12_5 P) (.node (o20 P) (.node (o36 P) (.node (o68 P) (.node (o132 P) (.node (o260 P) .nil .nil) (.node (o388 P) .nil .nil)) (.node (o196 P) (.node (o324 P) .nil .nil) (.node (o452 P) .nil .nil))) (.node (o100 P) (.node (o164 P) (.node (o292 P) .nil .nil) (.node (o420 P) .nil .nil)) (.node (o228 P) (.node (o356 P) .nil .nil) .nil))) (.node (o52 P) (.node (o84 P) (.node (o148 P) (.node (o276 P) .nil .nil) (.node (o404 P) .nil .nil)) (.node (o212 P) (.node (o340 P) .nil .nil) (.node (o468 P) .nil .nil))) (.node (o116 P) (.node (o180 P) (.node (o308 P) .nil .nil) (.node (o436 P) .nil .nil)) (.node (o244 P) (.node (o372 P) .nil .nil) .nil)))) (.node (o28 P) (.node (o44 P) (.node (o76 P) (.node (o140 P) (.node (o268 P) .nil .nil) (.node (o396 P) .nil .nil)) (.node (o204 P) (.node (o332 P) .nil .nil) (.node (o460 P) .nil .nil))) (.node (o108 P) (.node (o172 P) (.node (o300 P) .nil .nil) (.node (o428 P) .nil .nil)) (.node (o236 P) (.node (o364 P) .nil .nil) .nil))) (.node (o60 P) (.node (o92 P) (.node (o156 P) (.node (o284 P) .nil .nil) (.node (o412 P) .nil .nil)) (.node (o220 P) (.node (o348 P) .nil .nil) .nil)) (.node (o124 P) (.node (o188 P) (.node (o316 P) .nil .nil) (.node (o444 P) .nil .nil)) (.node (o252 P) (.node (o380 P) .nil .nil) .nil)))))) (.node (boot_o_6 P) (.node (boot_o_10 P) (.node (o18 P) (.node (o34 P) (.node (o66 P) (.node (o130 P) (.node (o258 P) .nil .nil) (.node (o386 P) .nil .nil)) (.node (o194 P) (.node (o322 P) .nil .nil) (.node (o450 P) .nil .nil))) (.node (o98 P) (.node (o162 P) (.node (o290 P) .nil .nil) (.node (o418 P) .nil .nil)) (.node (o226 P) (.node (o354 P) .nil .nil) .nil))) (.node (o50 P) (.node (o82 P) (.node (o146 P) (.node (o274 P) .nil .nil) (.node (o402 P) .nil .nil)) (.node (o210 P) (.node (o338 P) .nil .nil) (.node (o466 P) .nil .nil))) (.node (o114 P) (.node (o178 P) (.node (o306 P) .nil .nil) (.node (o434 P) .nil .nil)) (.node (o242 P) (.node (o370 P) .nil .nil) .nil)))) (.node (o26 P) (.node (o42 P) (.node (o74 P) (.node (o138 P) (.node (o266 P) .nil .nil) (.node (o394 P) .nil .nil)) (.node (o202 P) (.node (o330 P) .nil .nil) (.node (o458 P) .nil .nil))) (.node (o106 P) (.node (o170 P) (.node (o298 P) .nil .nil) (.node (o426 P) .nil .nil)) (.node (o234 P) (.node (o362 P) .nil .nil) .nil))) (.node (o58 P) (.node (o90 P) (.node (o154 P) (.node (o282 P) .nil .nil) (.node (o410 P) .nil .nil)) (.node (o218 P) (.node (o346 P) .nil .nil) .nil)) (.node (o122 P) (.node (o186 P) (.node (o314 P) .nil .nil) (.node (o442 P) .nil .nil)) (.node (o250 P) (.node (o378 P) .nil .nil) .nil))))) (.node (o14 P) (.node (o22 P) (.node (o38 P) (.node (o70 P) (.node (o134 P) (.node (o262 P) .nil .nil) (.node (o390 P) .nil .nil)) (.node (o198 P) (.node (o326 P) .nil .nil) (.node (o454 P) .nil .nil))) (.node (o102 P) (.node (o166 P) (.node (o294 P) .nil .nil) (.node (o422 P) .nil .nil)) (.node (o230 P) (.node (o358 P) .nil .nil) .nil))) (.node (o54 P) (.node (o86 P) (.node (o150 P) (.node (o278 P) .nil .nil) (.node (o406 P) .nil .nil)) (.node (o214 P) (.node (o342 P) .nil .nil) (.node (o470 P) .nil .nil))) (.node (o118 P) (.node (o182 P) (.node (o310 P) .nil .nil) (.node (o438 P) .nil .nil)) (.node (o246 P) (.node (o374 P) .nil .nil) .nil)))) (.node (o30 P) (.node (o46 P) (.node (o78 P) (.node (o142 P) (.node (o270 P) .nil .nil) (.node (o398 P) .nil .nil)) (.node (o206 P) (.node (o334 P) .nil .nil) (.node (o462 P) .nil .nil))) (.node (o110 P) (.node (o174 P) (.node (o302 P) .nil .nil) (.node (o430 P) .nil .nil)) (.node (o238 P) (.node (o366 P) .nil .nil) .nil))) (.node (o62 P) (.node (o94 P) (.node (o158 P) (.node (o286 P) .nil .nil) (.node (o414 P) .nil .nil)) (.node (o222 P) (.node (o350 P) .nil .nil) .nil)) (.node (o126 P) (.node (o190 P) (.node (o318 P) .nil .nil) (.node (o446 P) .nil .nil)) (.node (o254 P) (.node (o382 P) .nil .nil) .nil))))))))
noncomputable def o3_6 (P : Params) : Obj := ⟨(.type "dict"), none, (.dict (Array.mk [(en P "__name__" 165 (.str "law_no0183_01" 885)), (en P "__doc__" 166 .none), (en P "__package__" 167 .none), (en P "__loader__" 168 (.builtin "__main__.__loader__#opaque")), (en P "__spec__" 169 .none), (en P "__annotations__" 170 (.ref 6)), (en P "__builtins__" 171 (.ref 4)), (en P "__file__" 173 (.str "/claim/cut.py" 172)), (en P "__cached__" 174 .none), (en P "_wall" 193 (.ref 21)), (en P "ClausemillError" 215 (.ref 31)), (en P "PrologError" 240 (.ref 51)), (en P "A_NIL" 242 (.int 0 241)), (en P "A_SYSTEM" 244 (.int 25 243)), (en P "F_DOT" 246 (.int 0 245)), (en P "F_ERROR" 248 (.int 16 247)), (en P "fixed_atoms" 254 (.ref 60)), (en P "fixed_functors" 260 (.ref 67)), (en P "Symbols" 379 (.ref 154)), (en P "system_error" 388 (.ref 165)), (en P "formal_of" 399 (.ref 172)), (en P "resource_error" 407 (.ref 179)), (en P "REF" 411 (.int 0 410)), (en P "SRF" 413 (.int 1 412)), (en P "STR" 415 (.int 2 414)), (en P "LIS" 417 (.int 3 416)), (en P "CON" 419 (.int 4 418)), (en P "INT" 421 (.int 5 420)), (en P "FUN" 423 (.int 6 422)), (en P "Cells" 617 (.ref 323)), (en P "Store" 686 (.ref 373)), (en P "PairSet" 728 (.ref 399)), (en P "push_arguments" 739 (.ref 410)), (en P "push_pairs" 752 (.ref 417)), (en P "same_shape" 761 (.ref 424)), (en P "is_variable" 768 (.ref 431)), (en P "rank" 776 (.ref 438)), (en P "order" 784 (.ref 445)), (en P "compare_shapes" 797 (.ref 452)), (en P "compare_tops" 808 (.ref 459)), (en P "compare" 822 (.ref 466)), (en P "identical" 831 (.ref 473)), (en P "variables" 843 (.ref 480)), (en P "variable_number" 850 (.ref 487)), (en P "variant" 867 (.ref 494)), (en P "subsumes" 884 (.ref 501)), (en P "_law_pick" 896 (.ref 508)), (en P "_law_tree" 902 (.ref 513)), (en P "_law_put_in" 908 (.ref 518)), (en P "_law_change" 919 (.ref 525)), (en P "_law_free" 928 (.ref 532)), (en P "_law_fits" 939 (.ref 539)), (en P "law" 964 (.ref 546))]) 53), #[]⟩
noncomputable def o12_6 (P : Params) : Obj := ⟨.none, none, (.fields #[(.int 1 0), (.int 0 0), (.ref 20), (.int 5 0), (.int 0 0), (.ref 27), (.int 7 0), (.int 0 0), (.ref 40), (.int 15 0), (.int 0 0), (.ref 59), (.int 17 0), (.int 0 0), (.ref 66), (.int 19 0), (.int 0 0), (.ref 73), (.int 74 0), (.int 0 0), (.ref 164), (.int 76 0), (.int 0 0), (.ref 171), (.int 81 0), (.int 0 0), (.ref 178), (.int 91 0), (.int 0 0), (.ref 185), (.int 207 0), (.int 0 0), (.ref 333), (.int 258 0), (.int 0 0), (.ref 381), (.int 270 0), (.int 0 0), (.ref 409), (.int 274 0), (.int 0 0), (.ref 416), (.int 279 0), (.int 0 0), (.ref 423), (.int 285 0), (.int 0 0), (.ref 430), (.int 287 0), (.int 0 0), (.ref 437), (.int 296 0), (.int 0 0), (.ref 444), (.int 302 0), (.int 0 0), (.ref 451), (.int 312 0), (.int 0 0), (.ref 458), (.int 324 0), (.int 0 0), (.ref 465), (.int 339 0), (.int 0 0), (.ref 472), (.int 341 0), (.int 0 0), (.ref 479), (.int 356 0), (.int 0 0), (.ref 486), (.int 360 0), (.int 0 0), (.ref 493), (.int 387 0), (.int 0 0), (.ref 500), (.int 416 0), (.int 0 0), (.ref 507), (.int 427 0), (.int 0 0), (.ref 512), (.int 438 0), (.int 0 0), (.ref 517), (.int 444 0), (.int 0 0), (.ref 524), (.int 451 0), (.int 0 0), (.ref 531), (.int 459 0), (.int 0 0), (.ref 538), (.int 474 0), (.int 0 0), (.ref 545)]), #[]⟩
noncomputable def o474 (P : Params) : Obj := ⟨(.type "tuple"), none, (.seq #[] 0), #[]⟩
noncomputable def o475 (P : Params) : Obj := ⟨.none, none, (.fields #[]), #[]⟩
noncomputable def o476 (P : Params) : Obj := ⟨(.type "tuple"), none, (.seq #[(.str "store" 835), (.str "cell" 836), (.str "found" 837), (.str "noted" 838), (.str "met" 839), (.str "work" 840)] 0), #[]⟩
noncomputable def o477 (P : Params) : Obj := ⟨(.type "tuple"), none, (.seq #[] 0), #[]⟩
noncomputable def o478 (P : Params) : Obj := ⟨.none, none, (.func { name := "variables", qualname := "variables", params := (argsS (stm 37)), body := (.stmts (bodyS (stm 37))), scope := (scopeS (stm 37)), globals := 0, closure := [], defaults := .none, kwdefaults := .none, doc := .none, pyModule := .none, annotations := none, code := .none, closureTuple := .none, builtins := 0 }), #[]⟩
noncomputable def o479 (P : Params) : Obj := ⟨(.type "code"), none, (.fields #[(.str "variables" 832), (.str "variables" 833), (.str "/claim/cut.py" 834), (.int 341 0), (.int 2 0), (.int 0 0), (.int 0 0), (.int 3 0), (.ref 474), (.bool true), (.int 181 0), (.ref 475), .none, (.ref 476), (.ref 477), (.ref 478), (.int 841 0), (.int 341 0), (.str "/claim/cut.py" 842)]), #[]⟩
noncomputable def o480 (P : Params) : Obj := ⟨(.type "function"), none, (.func { name := "variables", qualname := "variables", params := (argsS (stm 37)), body := (.stmts (bodyS (stm 37))), scope := (scopeS (stm 37)), globals := 3, closure := [], defaults := .none, kwdefaults := .none, doc := .none, pyModule := (.str "clausemill.unify" 687), annotations := none, code := (.ref 479), closureTuple := .none, builtins := 0 }), #[]⟩
noncomputable def o481 (P : Params) : Obj := ⟨(.type "tuple"), none, (.seq #[] 0), #[]⟩
noncomputable def o482 (P : Params) : Obj := ⟨.none, none, (.fields #[]), #[]⟩
noncomputable def o483 (P : Params) : Obj := ⟨(.type "tuple"), none, (.seq #[(.str "cell" 847)] 0), #[]⟩
noncomputable def o484 (P : Params) : Obj := ⟨(.type "tuple"), none, (.seq #[] 0), #[]⟩
noncomputable def o485 (P : Params) : Obj := ⟨.none, none, (.func { name := "variable_number", qualname := "variable_number", params := (argsS (stm 38)), body := (.stmts (bodyS (stm 38))), scope := (scopeS (stm 38)), globals := 0, closure := [], defaults := .none, kwdefaults := .none, doc := .none, pyModule := .none, annotations := none, code := .none, closureTuple := .none, builtins := 0 }), #[]⟩
noncomputable def o486 (P : Params) : Obj := ⟨(.type "code"), none, (.fields #[(.str "variable_number" 844), (.str "variable_number" 845), (.str "/claim/cut.py" 846), (.int 356 0), (.int 1 0), (.int 0 0), (.int 0 0), (.int 3 0), (.ref 481), (.bool true), (.int 181 0), (.ref 482), .none, (.ref 483), (.ref 484), (.ref 485), (.int 848 0), (.int 356 0), (.str "/claim/cut.py" 849)]), #[]⟩
noncomputable def o487 (P : Params) : Obj := ⟨(.type "function"), none, (.func { name := "variable_number", qualname := "variable_number", params := (argsS (stm 38)), body := (.stmts (bodyS (stm 38))), scope := (scopeS (stm 38)), globals := 3, closure := [], defaults := .none, kwdefaults := .none, doc := .none, pyModule := (.str "clausemill.unify" 687), annotations := none, code := (.ref 486), closureTuple := .none, builtins := 0 }), #[]⟩
noncomputable def o488 (P : Params) : Obj := ⟨(.type "tuple"), none, (.seq #[] 0), #[]⟩
noncomputable def o489 (P : Params) : Obj := ⟨.none, none, (.fields #[]), #[]⟩
noncomputable def o490 (P : Params) : Obj := ⟨(.type "tuple"), none, (.seq #[(.str "store" 854), (.str "c1" 855), (.str "c2" 856), (.str "forward" 857), (.str "backward" 858), (.str "met" 859), (.str "work" 860), (.str "left" 861), (.str "right" 862), (.str "a" 863), (.str "b" 864)] 0), #[]⟩
noncomputable def o491 (P : Params) : Obj := ⟨(.type "tuple"), none, (.seq #[] 0), #[]⟩
noncomputable def o492 (P : Params) : Obj := ⟨.none, none, (.func { name := "variant", qualname := "variant", params := (argsS (stm 39)), body := (.stmts (bodyS (stm 39))), scope := (scopeS (stm 39)), globals := 0, closure := [], defaults := .none, kwdefaults := .none, doc := .none, pyModule := .none, annotations := none, code := .none, closureTuple := .none, builtins := 0 }), #[]⟩
noncomputable def o493 (P : Params) : Obj := ⟨(.type "code"), none, (.fields #[(.str "variant" 851), (.str "variant" 852), (.str "/claim/cut.py" 853), (.int 360 0), (.int 3 0), (.int 0 0), (.int 0 0), (.int 3 0), (.ref 488), (.bool true), (.int 181 0), (.ref 489), .none, (.ref 490), (.ref 491), (.ref 492), (.int 865 0), (.int 360 0), (.str "/claim/cut.py" 866)]), #[]⟩
noncomputable def o494 (P : Params) : Obj := ⟨(.type "function"), none, (.func { name := "variant", qualname := "variant", params := (argsS (stm 39)), body := (.stmts (bodyS (stm 39))), scope := (scopeS (stm 39)), globals := 3, closure := [], defaults := .none, kwdefaults := .none, doc := .none, pyModule := (.str "clausemill.unify" 687), annotations := none, code := (.ref 493), closureTuple := .none, builtins := 0 }), #[]⟩
noncomputable def o495 (P : Params) : Obj := ⟨(.type "tuple"), none, (.seq #[] 0), #[]⟩
noncomputable def o496 (P : Params) : Obj := ⟨.none, none, (.fields #[]), #[]⟩
noncomputable def o497 (P : Params) : Obj := ⟨(.type "tuple"), none, (.seq #[(.str "store" 871), (.str "general" 872), (.str "special" 873), (.str "fixed" 874), (.str "cell" 875), (.str "chosen" 876), (.str "met" 877), (.str "work" 878), (.str "left" 879), (.str "right" 880), (.str "number" 881)] 0), #[]⟩
noncomputable def o498 (P : Params) : Obj := ⟨(.type "tuple"), none, (.seq #[] 0), #[]⟩
noncomputable def o499 (P : Params) : Obj := ⟨.none, none, (.func { name := "subsumes", qualname := "subsumes", params := (argsS (stm 40)), body := (.stmts (bodyS (stm 40))), scope := (scopeS (stm 40)), globals := 0, closure := [], defaults := .none, kwdefaults := .none, doc := .none, pyModule := .none, annotations := none, code := .none, closureTuple := .none, builtins := 0 }), #[]⟩
noncomputable def o500 (P : Params) : Obj := ⟨(.type "code"), none, (.fields #[(.str "subsumes" 868), (.str "subsumes" 869), (.str "/claim/cut.py" 870), (.int 387 0), (.int 3 0), (.int 0 0), (.int 0 0), (.int 3 0), (.ref 495), (.bool true), (.int 181 0), (.ref 496), .none, (.ref 497), (.ref 498), (.ref 499), (.int 882 0), (.int 387 0), (.str "/claim/cut.py" 883)]), #[]⟩
noncomputable def o501 (P : Params) : Obj := ⟨(.type "function"), none, (.func { name := "subsumes", qualname := "subsumes", params := (argsS (stm 40)), body := (.stmts (bodyS (stm 40))), scope := (scopeS (stm 40)), globals := 3, closure := [], defaults := .none, kwdefaults := .none, doc := .none, pyModule := (.str "clausemill.unify" 687), annotations := none, code := (.ref 500), closureTuple := .none, builtins := 0 }), #[]⟩
noncomputable def o502 (P : Params) : Obj := ⟨(.type "tuple"), none, (.seq #[] 0), #[]⟩
noncomputable def o503 (P : Params) : Obj := ⟨.none, none, (.fields #[]), #[]⟩
noncomputable def o504 (P : Params) : Obj := ⟨(.type "tuple"), none, (.seq #[(.str "hand" 890), (.str "limit" 891), (.str "number" 892), (.str "digit" 893)] 0), #[]⟩
noncomputable def o505 (P : Params) : Obj := ⟨(.type "tuple"), none, (.seq #[] 0), #[]⟩
noncomputable def o506 (P : Params) : Obj := ⟨.none, none, (.func { name := "_law_pick", qualname := "_law_pick", params := (argsS (stm 42)), body := (.stmts (bodyS (stm 42))), scope := (scopeS (stm 42)), globals := 0, closure := [], defaults := .none, kwdefaults := .none, doc := .none, pyModule := .none, annotations := none, code := .none, closureTuple := .none, builtins := 0 }), #[]⟩
noncomputable def o507 (P : Params) : Obj := ⟨(.type "code"), none, (.fields #[(.str "_law_pick" 887), (.str "_law_pick" 888), (.str "/claim/cut.py" 889), (.int 416 0), (.int 2 0), (.int 0 0), (.int 0 0), (.int 3 0), (.ref 502), (.bool true), (.int 181 0), (.ref 503), .none, (.ref 504), (.ref 505), (.ref 506), (.int 894 0), (.int 416 0), (.str "/claim/cut.py" 895)]), #[]⟩
noncomputable def o508 (P : Params) : Obj := ⟨(.type "function"), none, (.func { name := "_law_pick", qualname := "_law_pick", params := (argsS (stm 42)), body := (.stmts (bodyS (stm 42))), scope := (scopeS (stm 42)), globals := 3, closure := [], defaults := .none, kwdefaults := .none, doc := .none, pyModule := (.str "law_no0183_01" 885), annotations := none, code := (.ref 507), closureTuple := .none, builtins := 0 }), #[]⟩
noncomputable def o509 (P : Params) : Obj := ⟨(.type "tuple"), none, (.seq #[] 0), #[]⟩
noncomputable def o510 (P : Params) : Obj := ⟨.none, none, (.fields #[]), #[]⟩
noncomputable def o511 (P : Params) : Obj := ⟨.none, none, (.func { name := "_law_tree", qualname := "_law_tree", params := (argsS (stm 43)), body := (.stmts (bodyS (stm 43))), scope := (scopeS (stm 43)), globals := 0, closure := [], defaults := .none, kwdefaults := .none, doc := .none, pyModule := .none, annotations := none, code := .none, closureTuple := .none, builtins := 0 }), #[]⟩
noncomputable def o512 (P : Params) : Obj := ⟨(.type "code"), none, (.fields #[(.str "_law_tree" 897), (.str "_law_tree" 898), (.str "/claim/cut.py" 899), (.int 427 0), (.int 3 0), (.int 0 0), (.int 0 0), (.int 3 0), (.ref 509), (.bool true), (.int 181 0), (.ref 510), .none, .none, .none, (.ref 511), (.int 900 0), (.int 427 0), (.str "/claim/cut.py" 901)]), #[]⟩
noncomputable def o513 (P : Params) : Obj := ⟨(.type "function"), none, (.func { name := "_law_tree", qualname := "_law_tree", params := (argsS (stm 43)), body := (.stmts (bodyS (stm 43))), scope := (scopeS (stm 43)), globals := 3, closure := [], defaults := .none, kwdefaults := .none, doc := .none, pyModule := (.str "law_no0183_01" 885), annotations := none, code := (.ref 512), closureTuple := .none, builtins := 0 }), #[]⟩
noncomputable def o514 (P : Params) : Obj := ⟨(.type "tuple"), none, (.seq #[] 0), #[]⟩
noncomputable def o515 (P : Params) : Obj := ⟨.none, none, (.fields #[]), #[]⟩
noncomputable def o516 (P : Params) : Obj := ⟨.none, none, (.func { name := "_law_put_in", qualname := "_law_put_in", params := (argsS (stm 44)), body := (.stmts (bodyS (stm 44))), scope := (scopeS (stm 44)), globals := 0, closure := [], defaults := .none, kwdefaults := .none, doc := .none, pyModule := .none, annotations := none, code := .none, closureTuple := .none, builtins := 0 }), #[]⟩
noncomputable def o517 (P : Params) : Obj := ⟨(.type "code"), none, (.fields #[(.str "_law_put_in" 903), (.str "_law_put_in" 904), (.str "/claim/cut.py" 905), (.int 438 0), (.int 2 0), (.int 0 0), (.int 0 0), (.int 3 0), (.ref 514), (.bool true), (.int 181 0), (.ref 515), .none, .none, .none, (.ref 516), (.int 906 0), (.int 438 0), (.str "/claim/cut.py" 907)]), #[]⟩
noncomputable def o518 (P : Params) : Obj := ⟨(.type "function"), none, (.func { name := "_law_put_in", qualname := "_law_put_in", params := (argsS (stm 44)), body := (.stmts (bodyS (stm 44))), scope := (scopeS (stm 44)), globals := 3, closure := [], defaults := .none, kwdefaults := .none, doc := .none, pyModule := (.str "law_no0183_01" 885), annotations := none, code := (.ref 517), closureTuple := .none, builtins := 0 }), #[]⟩
noncomputable def o519 (P : Params) : Obj := ⟨(.type "tuple"), none, (.seq #[] 0), #[]⟩
noncomputable def o520 (P : Params) : Obj := ⟨.none, none, (.fields #[]), #[]⟩
noncomputable def o521 (P : Params) : Obj := ⟨(.type "tuple"), none, (.seq #[(.str "hand" 912), (.str "tree" 913), (.str "other" 914), (.str "place" 915), (.str "parts" 916)] 0), #[]⟩
noncomputable def o522 (P : Params) : Obj := ⟨(.type "tuple"), none, (.seq #[] 0), #[]⟩
noncomputable def o523 (P : Params) : Obj := ⟨.none, none, (.func { name := "_law_change", qualname := "_law_change", params := (argsS (stm 45)), body := (.stmts (bodyS (stm 45))), scope := (scopeS (stm 45)), globals := 0, closure := [], defaults := .none, kwdefaults := .none, doc := .none, pyModule := .none, annotations := none, code := .none, closureTuple := .none, builtins := 0 }), #[]⟩
noncomputable def o524 (P : Params) : Obj := ⟨(.type "code"), none, (.fields #[(.str "_law_change" 909), (.str "_law_change" 910), (.str "/claim/cut.py" 911), (.int 444 0), (.int 3 0), (.int 0 0), (.int 0 0), (.int 3 0), (.ref 519), (.bool true), (.int 181 0), (.ref 520), .none, (.ref 521), (.ref 522), (.ref 523), (.int 917 0), (.int 444 0), (.str "/claim/cut.py" 918)]), #[]⟩
noncomputable def o525 (P : Params) : Obj := ⟨(.type "function"), none, (.func { name := "_law_change", qualname := "_law_change", params := (argsS (stm 45)), body := (.stmts (bodyS (stm 45))), scope := (scopeS (stm 45)), globals := 3, closure := [], defaults := .none, kwdefaults := .none, doc := .none, pyModule := (.str "law_no0183_01" 885), annotations := none, code := (.ref 524), closureTuple := .none, builtins := 0 }), #[]⟩
noncomputable def o526 (P : Params) : Obj := ⟨(.type "tuple"), none, (.seq #[] 0), #[]⟩
noncomputable def o527 (P : Params) : Obj := ⟨.none, none, (.fields #[]), #[]⟩
noncomputable def o528 (P : Params) : Obj := ⟨(.type "tuple"), none, (.seq #[(.str "tree" 923), (.str "found" 924), (.str "part" 925)] 0), #[]⟩
noncomputable def o529 (P : Params) : Obj := ⟨(.type "tuple"), none, (.seq #[] 0), #[]⟩
noncomputable def o530 (P : Params) : Obj := ⟨.none, none, (.func { name := "_law_free", qualname := "_law_free", params := (argsS (stm 46)), body := (.stmts (bodyS (stm 46))), scope := (scopeS (stm 46)), globals := 0, closure := [], defaults := .none, kwdefaults := .none, doc := .none, pyModule := .none, annotations := none, code := .none, closureTuple := .none, builtins := 0 }), #[]⟩
noncomputable def o531 (P : Params) : Obj := ⟨(.type "code"), none, (.fields #[(.str "_law_free" 920), (.str "_law_free" 921), (.str "/claim/cut.py" 922), (.int 451 0), (.int 1 0), (.int 0 0), (.int 0 0), (.int 3 0), (.ref 526), (.bool true), (.int 181 0), (.ref 527), .none, (.ref 528), (.ref 529), (.ref 530), (.int 926 0), (.int 451 0), (.str "/claim/cut.py" 927)]), #[]⟩
noncomputable def o532 (P : Params) : Obj := ⟨(.type "function"), none, (.func { name := "_law_free", qualname := "_law_free", params := (argsS (stm 46)), body := (.stmts (bodyS (stm 46))), scope := (scopeS (stm 46)), globals := 3, closure := [], defaults := .none, kwdefaults := .none, doc := .none, pyModule := (.str "law_no0183_01" 885), annotations := none, code := (.ref 531), closureTuple := .none, builtins := 0 }), #[]⟩
noncomputable def o533 (P : Params) : Obj := ⟨(.type "tuple"), none, (.seq #[] 0), #[]⟩
noncomputable def o534 (P : Params) : Obj := ⟨.none, none, (.fields #[]), #[]⟩
noncomputable def o535 (P : Params) : Obj := ⟨(.type "tuple"), none, (.seq #[(.str "general" 932), (.str "special" 933), (.str "fixed" 934), (.str "chosen" 935), (.str "place" 936)] 0), #[]⟩
noncomputable def o536 (P : Params) : Obj := ⟨(.type "tuple"), none, (.seq #[] 0), #[]⟩
noncomputable def o537 (P : Params) : Obj := ⟨.none, none, (.func { name := "_law_fits", qualname := "_law_fits", params := (argsS (stm 47)), body := (.stmts (bodyS (stm 47))), scope := (scopeS (stm 47)), globals := 0, closure := [], defaults := .none, kwdefaults := .none, doc := .none, pyModule := .none, annotations := none, code := .none, closureTuple := .none, builtins := 0 }), #[]⟩
noncomputable def o538 (P : Params) : Obj := ⟨(.type "code"), none, (.fields #[(.str "_law_fits" 929), (.str "_law_fits" 930), (.str "/claim/cut.py" 931), (.int 459 0), (.int 4 0), (.int 0 0), (.int 0 0), (.int 3 0), (.ref 533), (.bool true), (.int 181 0), (.ref 534), .none, (.ref 535), (.ref 536), (.ref 537), (.int 937 0), (.int 459 0), (.str "/claim/cut.py" 938)]), #[]⟩
noncomputable def o539 (P : Params) : Obj := ⟨(.type "function"), none, (.func { name := "_law_fits", qualname := "_law_fits", params := (argsS (stm 47)), body := (.stmts (bodyS (stm 47))), scope := (scopeS (stm 47)), globals := 3, closure := [], defaults := .none, kwdefaults := .none, doc := .none, pyModule := (.str "law_no0183_01" 885), annotations := none, code := (.ref 538), closureTuple := .none, builtins := 0 }), #[]⟩
noncomputable def o540 (P : Params) : Obj := ⟨(.type "tuple"), none, (.seq #[] 0), #[]⟩
noncomputable def o541 (P : Params) : Obj := ⟨.none, none, (.fields #[]), #[]⟩
noncomputable def o542 (P : Params) : Obj := ⟨(.type "tuple"), none, (.seq #[(.str "script" 943), (.str "cells" 944), (.str "hand" 945), (.str "names" 946), (.str "shared" 947), (.str "forms" 948), (.str "how" 949), (.str "general" 950), (.str "values" 951), (.str "number" 952), (.str "special" 953), (.str "fixed" 954), (.str "due" 955), (.str "back" 956), (.str "heaped" 957), (.str "table" 958), (.str "one" 959), (.str "two" 960), (.str "before" 961)] 0), #[]⟩
noncomputable def o543 (P : Params) : Obj := ⟨(.type "tuple"), none, (.seq #[] 0), #[]⟩
noncomputable def o544 (P : Params) : Obj := ⟨.none, none, (.func { name := "law", qualname := "law", params := (argsS (stm 48)), body := (.stmts (bodyS (stm 48))), scope := (scopeS (stm 48)), globals := 0, closure := [], defaults := .none, kwdefaults := .none, doc := .none, pyModule := .none, annotations := none, code := .none, closureTuple := .none, builtins := 0 }), #[]⟩
noncomputable def o545 (P : Params) : Obj := ⟨(.type "code"), none, (.fields #[(.str "law" 940), (.str "law" 941), (.str "/claim/cut.py" 942), (.int 474 0), (.int 1 0), (.int 0 0), (.int 0 0), (.int 3 0), (.ref 540), (.bool true), (.int 181 0), (.ref 541), .none, (.ref 542), (.ref 543), (.ref 544), (.int 962 0), (.int 474 0), (.str "/claim/cut.py" 963)]), #[]⟩
noncomputable def o546 (P : Params) : Obj := ⟨(.type "function"), none, (.func { name := "law", qualname := "law", params := (argsS (stm 48)), body := (.stmts (bodyS (stm 48))), scope := (scopeS (stm 48)), globals := 3, closure := [], defaults := .none, kwdefaults := .none, doc := .none, pyModule := (.str "law_no0183_01" 885), annotations := none, code := (.ref 545), closureTuple := .none, builtins := 0 }), #[]⟩
noncomputable def tr_6 (P : Params) : BT := (.node (boot_o_0 P) (.node (boot_o_1 P) (.node (o3_6 P) (.node (boot_o_7 P) (.node (o15 P) (.node (o31 P) (.node (o63 P) (.node (o127 P) (.node (o255 P) (.node (o511 P) .nil .nil) .nil) (.node (o383 P) .nil .nil)) (.node (o191 P) (.node (o319 P) .nil .nil) (.node (o447 P) .nil .nil))) (.node (o95 P) (.node (o159 P) (.node (o287 P) (.node (o543 P) .nil .nil) .nil) (.node (o415 P) .nil .nil)) (.node (o223 P) (.node (o351 P) .nil .nil) (.node (o479 P) .nil .nil)))) (.node (o47 P) (.node (o79 P) (.node (o143 P) (.node (o271 P) (.node (o527 P) .nil .nil) .nil) (.node (o399 P) .nil .nil)) (.node (o207 P) (.node (o335 P) .nil .nil) (.node (o463 P) .nil .nil))) (.node (o111 P) (.node (o175 P) (.node (o303 P) .nil .nil) (.node (o431 P) .nil .nil)) (.node (o239 P) (.node (o367 P) .nil .nil) (.node (o495 P) .nil .nil))))) (.node (o23 P) (.node (o39 P) (.node (o71 P) (.node (o135 P) (.node (o263 P) (.node (o519 P) .nil .nil) .nil) (.node (o391 P) .nil .nil)) (.node (o199 P) (.node (o327 P) .nil .nil) (.node (o455 P) .nil .nil))) (.node (o103 P) (.node (o167 P) (.node (o295 P) .nil .nil) (.node (o423 P) .nil .nil)) (.node (o231 P) (.node (o359 P) .nil .nil) (.node (o487 P) .nil .nil)))) (.node (o55 P) (.node (o87 P) (.node (o151 P) (.node (o279 P) (.node (o535 P) .nil .nil) .nil) (.node (o407 P) .nil .nil)) (.node (o215 P) (.node (o343 P) .nil .nil) (.node (o471 P) .nil .nil))) (.node (o119 P) (.node (o183 P) (.node (o311 P) .nil .nil) (.node (o439 P) .nil .nil)) (.node (o247 P) (.node (o375 P) .nil .nil) (.node (o503 P) .nil .nil)))))) (.node (o11 P) (.node (o19 P) (.node (o35 P) (.node (o67 P) (.node (o131 P) (.node (o259 P) (.node (o515 P) .nil .nil) .nil) (.node (o387 P) .nil .nil)) (.node (o195 P) (.node (o323_4 P) .nil .nil) (.node (o451 P) .nil .nil))) (.node (o99 P) (.node (o163 P) (.node (o291 P) .nil .nil) (.node (o419 P) .nil .nil)) (.node (o227 P) (.node (o355 P) .nil .nil) (.node (o483 P) .nil .nil)))) (.node (o51 P) (.node (o83 P) (.node (o147 P) (.node (o275 P) (.node (o531 P) .nil .nil) .nil) (.node (o403 P) .nil .nil)) (.node (o211 P) (.node (o339 P) .nil .nil) (.node (o467 P) .nil .nil))) (.node (o115 P) (.node (o179 P) (.node (o307 P) .nil .nil) (.node (o435 P) .nil .nil)) (.node (o243 P) (.node (o371 P) .nil .nil) (.node (o499 P) .nil .nil))))) (.node (o27 P) (.node (o43 P) (.node (o75 P) (.node (o139 P) (.node (o267 P) (.node (o523 P) .nil .nil) .nil) (.node (o395 P) .nil .nil)) (.node (o203 P) (.node (o331 P) .nil .nil) (.node (o459 P) .nil .nil))) (.node (o107 P) (.node (o171 P) (.node (o299 P) .nil .nil) (.node (o427 P) .nil .nil)) (.node (o235 P) (.node (o363 P) .nil .nil) (.node (o491 P) .nil .nil)))) (.node (o59 P) (.node (o91 P) (.node (o155 P) (.node (o283 P) (.node (o539 P) .nil .nil) .nil) (.node (o411 P) .nil .nil)) (.node (o219 P) (.node (o347 P) .nil .nil) (.node (o475 P) .nil .nil))) (.node (o123 P) (.node (o187 P) (.node (o315 P) .nil .nil) (.node (o443 P) .nil .nil)) (.node (o251 P) (.node (o379 P) .nil .nil) (.node (o507 P) .nil .nil))))))) (.node (boot_o_5 P) (.node (boot_o_9 P) (.node (o17 P) (.node (o33 P) (.node (o65 P) (.node (o129 P) (.node (o257 P) (.node (o513 P) .nil .nil) .nil) (.node (o385 P) .nil .nil)) (.node (o193 P) (.node (o321 P) .nil .nil) (.node (o449 P) .nil .nil))) (.node (o97 P) (.node (o161 P) (.node (o289 P) (.node (o545 P) .nil .nil) .nil) (.node (o417 P) .nil .nil)) (.node (o225 P) (.node (o353 P) .nil .nil) (.node (o481 P) .nil .nil)))) (.node (o49 P) (.node (o81 P) (.node (o145 P) (.node (o273 P) (.node (o529 P) .nil .nil) .nil) (.node (o401 P) .nil .nil)) (.node (o209 P) (.node (o337 P) .nil .nil) (.node (o465 P) .nil .nil))) (.node (o113 P) (.node (o177 P) (.node (o305 P) .nil .nil) (.node (o433 P) .nil .nil)) (.node (o241 P) (.node (o369 P) .nil .nil) (.node (o497 P) .nil .nil))))) (.node (o25 P) (.node (o41 P) (.node (o73 P) (.node (o137 P) (.node (o265 P) (.node (o521 P) .nil .nil) .nil) (.node (o393 P) .nil .nil)) (.node (o201 P) (.node (o329 P) .nil .nil) (.node (o457 P) .nil .nil))) (.node (o105 P) (.node (o169 P) (.node (o297 P) .nil .nil) (.node (o425 P) .nil .nil)) (.node (o233 P) (.node (o361 P) .nil .nil) (.node (o489 P) .nil .nil)))) (.node (o57 P) (.node (o89 P) (.node (o153 P) (.node (o281 P) (.node (o537 P) .nil .nil) .nil) (.node (o409 P) .nil .nil)) (.node (o217 P) (.node (o345 P) .nil .nil) (.node (o473 P) .nil .nil))) (.node (o121 P) (.node (o185 P) (.node (o313 P) .nil .nil) (.node (o441 P) .nil .nil)) (.node (o249 P) (.node (o377 P) .nil .nil) (.node (o505 P) .nil .nil)))))) (.node (o13 P) (.node (o21 P) (.node (o37 P) (.node (o69 P) (.node (o133 P) (.node (o261 P) (.node (o517 P) .nil .nil) .nil) (.node (o389 P) .nil .nil)) (.node (o197 P) (.node (o325 P) .nil .nil) (.node (o453 P) .nil .nil))) (.node (o101 P) (.node (o165 P) (.node (o293 P) .nil .nil) (.node (o421 P) .nil .nil)) (.node (o229 P) (.node (o357 P) .nil .nil) (.node (o485 P) .nil .nil)))) (.node (o53 P) (.node (o85 P) (.node (o149 P) (.node (o277 P) (.node (o533 P) .nil .nil) .nil) (.node (o405 P) .nil .nil)) (.node (o213 P) (.node (o341 P) .nil .nil) (.node (o469 P) .nil .nil))) (.node (o117 P) (.node (o181 P) (.node (o309 P) .nil .nil) (.node (o437 P) .nil .nil)) (.node (o245 P) (.node (o373 P) .nil .nil) (.node (o501 P) .nil .nil))))) (.node (o29 P) (.node (o45 P) (.node (o77 P) (.node (o141 P) (.node (o269 P) (.node (o525 P) .nil .nil) .nil) (.node (o397 P) .nil .nil)) (.node (o205 P) (.node (o333 P) .nil .nil) (.node (o461 P) .nil .nil))) (.node (o109 P) (.node (o173 P) (.node (o301 P) .nil .nil) (.node (o429 P) .nil .nil)) (.node (o237 P) (.node (o365 P) .nil .nil) (.node (o493 P) .nil .nil)))) (.node (o61 P) (.node (o93 P) (.node (o157 P) (.node (o285 P) (.node (o541 P) .nil .nil) .nil) (.node (o413 P) .nil .nil)) (.node (o221 P) (.node (o349 P) .nil .nil) (.node (o477 P) .nil .nil))) (.node (o125 P) (.node (o189 P) (.node (o317 P) .nil .nil) (.node (o445 P) .nil .nil)) (.node (o253 P) (.node (o381 P) .nil .nil) (.node (o509 P) .nil .nil)))))))) (.node (o2_0 P) (.node (boot_o_4 P) (.node (boot_o_8 P) (.node (o16 P) (.node (o32 P) (.node (o64 P) (.node (o128 P) (.node (o256 P) (.node (o512 P) .nil .nil) .nil) (.node (o384 P) .nil .nil)) (.node (o192 P) (.node (o320 P) .nil .nil) (.node (o448 P) .nil .nil))) (.node (o96 P) (.node (o160 P) (.node (o288 P) (.node (o544 P) .nil .nil) .nil) (.node (o416 P) .nil .nil)) (.node (o224 P) (.node (o352 P) .nil .nil) (.node (o480 P) .nil .nil)))) (.node (o48 P) (.node (o80 P) (.node (o144 P) (.node (o272 P) (.node (o528 P) .nil .nil) .nil) (.node (o400 P) .nil .nil)) (.node (o208 P) (.node (o336 P) .nil .nil) (.node (o464 P) .nil .nil))) (.node (o112 P) (.node (o176 P) (.node (o304 P) .nil .nil) (.node (o432 P) .nil .nil)) (.node (o240 P) (.node (o368 P) .nil .nil) (.node (o496 P) .nil .nil))))) (.node (o24 P) (.node (o40 P) (.node (o72 P) (.node (o136 P) (.node (o264 P) (.node (o520 P) .nil .nil) .nil) (.node (o392 P) .nil .nil)) (.node (o200 P) (.node (o328 P) .nil .nil) (.node (o456 P) .nil .nil))) (.node (o104 P) (.node (o168 P) (.node (o296 P) .nil .nil) (.node (o424 P) .nil .nil)) (.node (o232 P) (.node (o360 P) .nil .nil) (.node (o488 P) .nil .nil)))) (.node (o56 P) (.node (o88 P) (.node (o152 P) (.node (o280 P) (.node (o536 P) .nil .nil) .nil) (.node (o408 P) .nil .nil)) (.node (o216 P) (.node (o344 P) .nil .nil) (.node (o472 P) .nil .nil))) (.node (o120 P) (.node (o184 P) (.node (o312 P) .nil .nil) (.node (o440 P) .nil .nil)) (.node (o248 P) (.node (o376 P) .nil .nil) (.node (o504 P) .nil .nil)))))) (.node (o12_6 P) (.node (o20 P) (.node (o36 P) (.node (o68 P) (.node (o132 P) (.node (o260 P) (.node (o516 P) .nil .nil) .nil) (.node (o388 P) .nil .nil)) (.node (o196 P) (.node (o324 P) .nil .nil) (.node (o452 P) .nil .nil))) (.node (o100 P) (.node (o164 P) (.node (o292 P) .nil .nil) (.node (o420 P) .nil .nil)) (.node (o228 P) (.node (o356 P) .nil .nil) (.node (o484 P) .nil .nil)))) (.node (o52 P) (.node (o84 P) (.node (o148 P) (.node (o276 P) (.node (o532 P) .nil .nil) .nil) (.node (o404 P) .nil .nil)) (.node (o212 P) (.node (o340 P) .nil .nil) (.node (o468 P) .nil .nil))) (.node (o116 P) (.node (o180 P) (.node (o308 P) .nil .nil) (.node (o436 P) .nil .nil)) (.node (o244 P) (.node (o372 P) .nil .nil) (.node (o500 P) .nil .nil))))) (.node (o28 P) (.node (o44 P) (.node (o76 P) (.node (o140 P) (.node (o268 P) (.node (o524 P) .nil .nil) .nil) (.node (o396 P) .nil .nil)) (.node (o204 P) (.node (o332 P) .nil .nil) (.node (o460 P) .nil .nil))) (.node (o108 P) (.node (o172 P) (.node (o300 P) .nil .nil) (.node (o428 P) .nil .nil)) (.node (o236 P) (.node (o364 P) .nil .nil) (.node (o492 P) .nil .nil)))) (.node (o60 P) (.node (o92 P) (.node (o156 P) (.node (o284 P) (.node (o540 P) .nil .nil) .nil) (.node (o412 P) .nil .nil)) (.node (o220 P) (.node (o348 P) .nil .nil) (.node (o476 P) .nil .nil))) (.node (o124 P) (.node (o188 P) (.node (o316 P) .nil .nil) (.node (o444 P) .nil .nil)) (.node (o252 P) (.node (o380 P) .nil .nil) (.node (o508 P) .nil .nil))))))) (.node (boot_o_6 P) (.node (boot_o_10 P) (.node (o18 P) (.node (o34 P) (.node (o66 P) (.node (o130 P) (.node (o258 P) (.node (o514 P) .nil .nil) .nil) (.node (o386 P) .nil .nil)) (.node (o194 P) (.node (o322 P) .nil .nil) (.node (o450 P) .nil .nil))) (.node (o98 P) (.node (o162 P) (.node (o290 P) (.node (o546 P) .nil .nil) .nil) (.node (o418 P) .nil .nil)) (.node (o226 P) (.node (o354 P) .nil .nil) (.node (o482 P) .nil .nil)))) (.node (o50 P) (.node (o82 P) (.node (o146 P) (.node (o274 P) (.node (o530 P) .nil .nil) .nil) (.node (o402 P) .nil .nil)) (.node (o210 P) (.node (o338 P) .nil .nil) (.node (o466 P) .nil .nil))) (.node (o114 P) (.node (o178 P) (.node (o306 P) .nil .nil) (.node (o434 P) .nil .nil)) (.node (o242 P) (.node (o370 P) .nil .nil) (.node (o498 P) .nil .nil))))) (.node (o26 P) (.node (o42 P) (.node (o74 P) (.node (o138 P) (.node (o266 P) (.node (o522 P) .nil .nil) .nil) (.node (o394 P) .nil .nil)) (.node (o202 P) (.node (o330 P) .nil .nil) (.node (o458 P) .nil .nil))) (.node (o106 P) (.node (o170 P) (.node (o298 P) .nil .nil) (.node (o426 P) .nil .nil)) (.node (o234 P) (.node (o362 P) .nil .nil) (.node (o490 P) .nil .nil)))) (.node (o58 P) (.node (o90 P) (.node (o154 P) (.node (o282 P) (.node (o538 P) .nil .nil) .nil) (.node (o410 P) .nil .nil)) (.node (o218 P) (.node (o346 P) .nil .nil) (.node (o474 P) .nil .nil))) (.node (o122 P) (.node (o186 P) (.node (o314 P) .nil .nil) (.node (o442 P) .nil .nil)) (.node (o250 P) (.node (o378 P) .nil .nil) (.node (o506 P) .nil .nil)))))) (.node (o14 P) (.node (o22 P) (.node (o38 P) (.node (o70 P) (.node (o134 P) (.node (o262 P) (.node (o518 P) .nil .nil) .nil) (.node (o390 P) .nil .nil)) (.node (o198 P) (.node (o326 P) .nil .nil) (.node (o454 P) .nil .nil))) (.node (o102 P) (.node (o166 P) (.node (o294 P) .nil .nil) (.node (o422 P) .nil .nil)) (.node (o230 P) (.node (o358 P) .nil .nil) (.node (o486 P) .nil .nil)))) (.node (o54 P) (.node (o86 P) (.node (o150 P) (.node (o278 P) (.node (o534 P) .nil .nil) .nil) (.node (o406 P) .nil .nil)) (.node (o214 P) (.node (o342 P) .nil .nil) (.node (o470 P) .nil .nil))) (.node (o118 P) (.node (o182 P) (.node (o310 P) .nil .nil) (.node (o438 P) .nil .nil)) (.node (o246 P) (.node (o374 P) .nil .nil) (.node (o502 P) .nil .nil))))) (.node (o30 P) (.node (o46 P) (.node (o78 P) (.node (o142 P) (.node (o270 P) (.node (o526 P) .nil .nil) .nil) (.node (o398 P) .nil .nil)) (.node (o206 P) (.node (o334 P) .nil .nil) (.node (o462 P) .nil .nil))) (.node (o110 P) (.node (o174 P) (.node (o302 P) .nil .nil) (.node (o430 P) .nil .nil)) (.node (o238 P) (.node (o366 P) .nil .nil) (.node (o494 P) .nil .nil)))) (.node (o62 P) (.node (o94 P) (.node (o158 P) (.node (o286 P) (.node (o542 P) .nil .nil) .nil) (.node (o414 P) .nil .nil)) (.node (o222 P) (.node (o350 P) .nil .nil) (.node (o478 P) .nil .nil))) (.node (o126 P) (.node (o190 P) (.node (o318 P) .nil .nil) (.node (o446 P) .nil .nil)) (.node (o254 P) (.node (o382 P) .nil .nil) (.node (o510 P) .nil .nil)))))))))
noncomputable def heap_f (P : Params) : Heap := ⟨⟨[(boot_o_0 P), (boot_o_1 P), (o2_0 P), (o3_6 P), (boot_o_4 P), (boot_o_5 P), (boot_o_6 P), (boot_o_7 P), (boot_o_8 P), (boot_o_9 P), (boot_o_10 P), (o11 P), (o12_6 P), (o13 P), (o14 P), (o15 P), (o16 P), (o17 P), (o18 P), (o19 P), (o20 P), (o21 P), (o22 P), (o23 P), (o24 P), (o25 P), (o26 P), (o27 P), (o28 P), (o29 P), (o30 P), (o31 P), (o32 P), (o33 P), (o34 P), (o35 P), (o36 P), (o37 P), (o38 P), (o39 P), (o40 P), (o41 P), (o42 P), (o43 P), (o44 P), (o45 P), (o46 P), (o47 P), (o48 P), (o49 P), (o50 P), (o51 P), (o52 P), (o53 P), (o54 P), (o55 P), (o56 P), (o57 P), (o58 P), (o59 P), (o60 P), (o61 P), (o62 P), (o63 P), (o64 P), (o65 P), (o66 P), (o67 P), (o68 P), (o69 P), (o70 P), (o71 P), (o72 P), (o73 P), (o74 P), (o75 P), (o76 P), (o77 P), (o78 P), (o79 P), (o80 P), (o81 P), (o82 P), (o83 P), (o84 P), (o85 P), (o86 P), (o87 P), (o88 P), (o89 P), (o90 P), (o91 P), (o92 P), (o93 P), (o94 P), (o95 P), (o96 P), (o97 P), (o98 P), (o99 P), (o100 P), (o101 P), (o102 P), (o103 P), (o104 P), (o105 P), (o106 P), (o107 P), (o108 P), (o109 P), (o110 P), (o111 P), (o112 P), (o113 P), (o114 P), (o115 P), (o116 P), (o117 P), (o118 P), (o119 P), (o120 P), (o121 P), (o122 P), (o123 P), (o124 P), (o125 P), (o126 P), (o127 P), (o128 P), (o129 P), (o130 P), (o131 P), (o132 P), (o133 P), (o134 P), (o135 P), (o136 P), (o137 P), (o138 P), (o139 P), (o140 P), (o141 P), (o142 P), (o143 P), (o144 P), (o145 P), (o146 P), (o147 P), (o148 P), (o149 P), (o150 P), (o151 P), (o152 P), (o153 P), (o154 P), (o155 P), (o156 P), (o157 P), (o158 P), (o159 P), (o160 P), (o161 P), (o162 P), (o163 P), (o164 P), (o165 P), (o166 P), (o167 P), (o168 P), (o169 P), (o170 P), (o171 P), (o172 P), (o173 P), (o174 P), (o175 P), (o176 P), (o177 P), (o178 P), (o179 P), (o180 P), (o181 P), (o182 P), (o183 P), (o184 P), (o185 P), (o186 P), (o187 P), (o188 P), (o189 P), (o190 P), (o191 P), (o192 P), (o193 P), (o194 P), (o195 P), (o196 P), (o197 P), (o198 P), (o199 P), (o200 P), (o201 P), (o202 P), (o203 P), (o204 P), (o205 P), (o206 P), (o207 P), (o208 P), (o209 P), (o210 P), (o211 P), (o212 P), (o213 P), (o214 P), (o215 P), (o216 P), (o217 P), (o218 P), (o219 P), (o220 P), (o221 P), (o222 P), (o223 P), (o224 P), (o225 P), (o226 P), (o227 P), (o228 P), (o229 P), (o230 P), (o231 P), (o232 P), (o233 P), (o234 P), (o235 P), (o236 P), (o237 P), (o238 P), (o239 P), (o240 P), (o241 P), (o242 P), (o243 P), (o244 P), (o245 P), (o246 P), (o247 P), (o248 P), (o249 P), (o250 P), (o251 P), (o252 P), (o253 P), (o254 P), (o255 P), (o256 P), (o257 P), (o258 P), (o259 P), (o260 P), (o261 P), (o262 P), (o263 P), (o264 P), (o265 P), (o266 P), (o267 P), (o268 P), (o269 P), (o270 P), (o271 P), (o272 P), (o273 P), (o274 P), (o275 P), (o276 P), (o277 P), (o278 P), (o279 P), (o280 P), (o281 P), (o282 P), (o283 P), (o284 P), (o285 P), (o286 P), (o287 P), (o288 P), (o289 P), (o290 P), (o291 P), (o292 P), (o293 P), (o294 P), (o295 P), (o296 P), (o297 P), (o298 P), (o299 P), (o300 P), (o301 P), (o302 P), (o303 P), (o304 P), (o305 P), (o306 P), (o307 P), (o308 P), (o309 P), (o310 P), (o311 P), (o312 P), (o313 P), (o314 P), (o315 P), (o316 P), (o317 P), (o318 P), (o319 P), (o320 P), (o321 P), (o322 P), (o323_4 P), (o324 P), (o325 P), (o326 P), (o327 P), (o328 P), (o329 P), (o330 P), (o331 P), (o332 P), (o333 P), (o334 P), (o335 P), (o336 P), (o337 P), (o338 P), (o339 P), (o340 P), (o341 P), (o342 P), (o343 P), (o344 P), (o345 P), (o346 P), (o347 P), (o348 P), (o349 P), (o350 P), (o351 P), (o352 P), (o353 P), (o354 P), (o355 P), (o356 P), (o357 P), (o358 P), (o359 P), (o360 P), (o361 P), (o362 P), (o363 P), (o364 P), (o365 P), (o366 P), (o367 P), (o368 P), (o369 P), (o370 P), (o371 P), (o372 P), (o373 P), (o374 P), (o375 P), (o376 P), (o377 P), (o378 P), (o379 P), (o380 P), (o381 P), (o382 P), (o383 P), (o384 P), (o385 P), (o386 P), (o387 P), (o388 P), (o389 P), (o390 P), (o391 P), (o392 P), (o393 P), (o394 P), (o395 P), (o396 P), (o397 P), (o398 P), (o399 P), (o400 P), (o401 P), (o402 P), (o403 P), (o404 P), (o405 P), (o406 P), (o407 P), (o408 P), (o409 P), (o410 P), (o411 P), (o412 P), (o413 P), (o414 P), (o415 P), (o416 P), (o417 P), (o418 P), (o419 P), (o420 P), (o421 P), (o422 P), (o423 P), (o424 P), (o425 P), (o426 P), (o427 P), (o428 P), (o429 P), (o430 P), (o431 P), (o432 P), (o433 P), (o434 P), (o435 P), (o436 P), (o437 P), (o438 P), (o439 P), (o440 P), (o441 P), (o442 P), (o443 P), (o444 P), (o445 P), (o446 P), (o447 P), (o448 P), (o449 P), (o450 P), (o451 P), (o452 P), (o453 P), (o454 P), (o455 P), (o456 P), (o457 P), (o458 P), (o459 P), (o460 P), (o461 P), (o462 P), (o463 P), (o464 P), (o465 P), (o466 P), (o467 P), (o468 P), (o469 P), (o470 P), (o471 P), (o472 P), (o473 P), (o474 P), (o475 P), (o476 P), (o477 P), (o478 P), (o479 P), (o480 P), (o481 P), (o482 P), (o483 P), (o484 P), (o485 P), (o486 P), (o487 P), (o488 P), (o489 P), (o490 P), (o491 P), (o492 P), (o493 P), (o494 P), (o495 P), (o496 P), (o497 P), (o498 P), (o499 P), (o500 P), (o501 P), (o502 P), (o503 P), (o504 P), (o505 P), (o506 P), (o507 P), (o508 P), (o509 P), (o510 P), (o511 P), (o512 P), (o513 P), (o514 P), (o515 P), (o516 P), (o517 P), (o518 P), (o519 P), (o520 P), (o521 P), (o522 P), (o523 P), (o524 P), (o525 P), (o526 P), (o527 P), (o528 P), (o529 P), (o530 P), (o531 P), (o532 P), (o533 P), (o534 P), (o535 P), (o536 P), (o537 P), (o538 P), (o539 P), (o540 P), (o541 P), (o542 P), (o543 P), (o544 P), (o545 P), (o546 P)]⟩, {}⟩
end
end
section
noncomputable def envT : Env := { scope := pw.main.scope, locals := mainNs, globals := mainNs, cells := [], code := .ref 13, frame := some 14 }
noncomputable def codT : Code := .body (behindTheImports pw) envT
noncomputable def frT : List Frame := [topFrame ⟨0, 0, 0, 0⟩]
noncomputable abbrev annT : Option Value := some (.ref 6)
noncomputable abbrev z0 (os : OsState) (P : Params) : Shared := ⟨boot_heap P, Array.mk [], boot_drawn, boot_toks, os⟩
noncomputable abbrev za (os : OsState) (P : Params) : Shared := ⟨heap_a P, Array.mk [], {}, 187, os⟩
noncomputable def ta (os : OsState) (P : Params) : SharedT := ⟨tr_a P, 15, {}, Array.mk [], {}, 187, os⟩
noncomputable def cutL (a n : Nat) (l : List Stmt) : List Stmt := (l.drop a).take n
noncomputable def t0 (os : OsState) (P : Params) : SharedT := ⟨tr_0 P, 68, {}, Array.mk [], {}, 261, os⟩
noncomputable def g0 : List Stmt := cutL 0 10 pw.main.body
noncomputable def t1 (os : OsState) (P : Params) : SharedT := ⟨tr_1 P, 159, {}, Array.mk [], {}, 380, os⟩
noncomputable def g1 : List Stmt := cutL 10 1 pw.main.body
noncomputable def t2 (os : OsState) (P : Params) : SharedT := ⟨tr_2 P, 180, {}, Array.mk [], {}, 424, os⟩
noncomputable def g2 : List Stmt := cutL 11 12 pw.main.body
noncomputable def t3 (os : OsState) (P : Params) : SharedT := ⟨tr_3 P, 328, {}, Array.mk [], {}, 618, os⟩
noncomputable def g3 : List Stmt := cutL 23 1 pw.main.body
noncomputable def t4 (os : OsState) (P : Params) : SharedT := ⟨tr_4 P, 376, {}, Array.mk [], {}, 689, os⟩
noncomputable def g4 : List Stmt := cutL 24 2 pw.main.body
noncomputable def t5 (os : OsState) (P : Params) : SharedT := ⟨tr_5 P, 474, {}, Array.mk [], {}, 832, os⟩
noncomputable def g5 : List Stmt := cutL 26 11 pw.main.body
noncomputable def t6 (os : OsState) (P : Params) : SharedT := ⟨tr_6 P, 547, {}, Array.mk [], {}, 965, os⟩
noncomputable def g6 : List Stmt := cutL 37 12 pw.main.body
theorem h_pre (w : World) : (fun os => topGo treeTable pw w 11 annT 12 (z0 os w.params) (topStub pw)) = fun os => some (za os w.params, ⟨denote treeTable codT, codT, ⟨0, 0, 0, 0⟩, frT⟩) := by kernel_rfl
theorem h_block (w : World) : (fun os => segRun treeTable pw w 11 annT 1 1 (za os w.params) (blockOf (behindTheImports pw) envT codT ⟨0, 0, 0, 0⟩ frT)) = fun os => some (.next, (ta os w.params).abs, codT, ⟨0, 0, 0, 0⟩) := by kernel_rfl
theorem h_0 (w : World) : (fun os => segRunT treeTable pw w 11 annT 1 572 (ta os w.params) (piecesOf g0 envT codT ⟨0, 0, 0, 0⟩ frT)) = fun os => some (.next, t0 os w.params, codT, ⟨17, 0, 18, 389⟩) := by kernel_rfl
theorem h_1 (w : World) : (fun os => segRunT treeTable pw w 11 annT 1 553 (t0 os w.params) (piecesOf g1 envT codT ⟨17, 0, 18, 389⟩ frT)) = fun os => some (.next, t1 os w.params, codT, ⟨19, 0, 72, 16⟩) := by kernel_rfl
theorem h_2 (w : World) : (fun os => segRunT treeTable pw w 11 annT 1 174 (t1 os w.params) (piecesOf g2 envT codT ⟨19, 0, 72, 16⟩ frT)) = fun os => some (.next, t2 os w.params, codT, ⟨90, 0, 90, 3⟩) := by kernel_rfl
theorem h_3 (w : World) : (fun os => segRunT treeTable pw w 11 annT 1 821 (t2 os w.params) (piecesOf g3 envT codT ⟨90, 0, 90, 3⟩ frT)) = fun os => some (.next, t3 os w.params, codT, ⟨91, 0, 206, 27⟩) := by kernel_rfl
theorem h_4 (w : World) : (fun os => segRunT treeTable pw w 11 annT 1 396 (t3 os w.params) (piecesOf g4 envT codT ⟨91, 0, 206, 27⟩ frT)) = fun os => some (.next, t4 os w.params, codT, ⟨257, 0, 257, 8⟩) := by kernel_rfl
theorem h_5 (w : World) : (fun os => segRunT treeTable pw w 11 annT 1 581 (t4 os w.params) (piecesOf g5 envT codT ⟨257, 0, 257, 8⟩ frT)) = fun os => some (.next, t5 os w.params, codT, ⟨339, 0, 340, 38⟩) := by kernel_rfl
theorem h_6 (w : World) : (fun os => segRunT treeTable pw w 11 annT 1 379 (t5 os w.params) (piecesOf g6 envT codT ⟨339, 0, 340, 38⟩ frT)) = fun os => some (.next, t6 os w.params, codT, ⟨474, 0, 505, 86⟩) := by kernel_rfl
noncomputable def zf (os : OsState) (P : Params) : Shared := ⟨heap_f P, Array.mk [], {}, 965, os⟩
theorem h_fin (w : World) : (fun os => topRun treeTable pw w 11 annT 2 ((t6 os w.params).abs) ⟨doneF .next, codT, ⟨474, 0, 505, 86⟩, frT⟩) = fun os => some (zf os w.params) := by kernel_rfl
theorem h_body : behindTheImports pw = g0 ++ (g1 ++ (g2 ++ (g3 ++ (g4 ++ (g5 ++ (g6 ++ [])))))) := by kernel_rfl
theorem h_run (w : World) (os : OsState) : topRun treeTable pw w 11 annT (12 + (1 + (572 + (553 + (174 + (821 + (396 + (581 + (379 + 2))))))))) (z0 os w.params) (topStub pw) = some (zf os w.params) :=
  (go_top (congrFun (h_pre w) os) (piece_block (b := behindTheImports pw) (env := envT) (c := codT) (q := ⟨0, 0, 0, 0⟩) (congrFun (h_block w) os) (by rw [h_body]; exact (piece_app (l := g0) (rest := (g1 ++ (g2 ++ (g3 ++ (g4 ++ (g5 ++ (g6 ++ []))))))) (env := envT) (c := codT) (q := ⟨0, 0, 0, 0⟩) (segRun_of (congrFun (h_0 w) os)) (piece_app (l := g1) (rest := (g2 ++ (g3 ++ (g4 ++ (g5 ++ (g6 ++ [])))))) (env := envT) (c := codT) (q := ⟨0, 0, 0, 0⟩) (segRun_of (congrFun (h_1 w) os)) (piece_app (l := g2) (rest := (g3 ++ (g4 ++ (g5 ++ (g6 ++ []))))) (env := envT) (c := codT) (q := ⟨0, 0, 0, 0⟩) (segRun_of (congrFun (h_2 w) os)) (piece_app (l := g3) (rest := (g4 ++ (g5 ++ (g6 ++ [])))) (env := envT) (c := codT) (q := ⟨0, 0, 0, 0⟩) (segRun_of (congrFun (h_3 w) os)) (piece_app (l := g4) (rest := (g5 ++ (g6 ++ []))) (env := envT) (c := codT) (q := ⟨0, 0, 0, 0⟩) (segRun_of (congrFun (h_4 w) os)) (piece_app (l := g5) (rest := (g6 ++ [])) (env := envT) (c := codT) (q := ⟨0, 0, 0, 0⟩) (segRun_of (congrFun (h_5 w) os)) (piece_app (l := g6) (rest := []) (env := envT) (c := codT) (q := ⟨0, 0, 0, 0⟩) (segRun_of (congrFun (h_6 w) os)) (congrFun (h_fin w) os)))))))))))
end
section
noncomputable def KK (P : Params) : Frag := (nat_lit 2, o2_0 P) :: (nat_lit 3, o3_6 P) :: (nat_lit 15, o15 P) :: (nat_lit 17, o17 P) :: (nat_lit 18, o18 P) :: (nat_lit 20, o20 P) :: (nat_lit 21, o21 P) :: (nat_lit 22, o22 P) :: (nat_lit 29, o29 P) :: (nat_lit 30, o30 P) :: (nat_lit 31, o31 P) :: (nat_lit 32, o32 P) :: (nat_lit 35, o35 P) :: (nat_lit 42, o42 P) :: (nat_lit 44, o44 P) :: (nat_lit 45, o45 P) :: (nat_lit 47, o47 P) :: (nat_lit 48, o48 P) :: (nat_lit 49, o49 P) :: (nat_lit 50, o50 P) :: (nat_lit 51, o51 P) :: (nat_lit 54, o54 P) :: (nat_lit 56, o56 P) :: (nat_lit 57, o57 P) :: (nat_lit 59, o59 P) :: (nat_lit 60, o60 P) :: (nat_lit 61, o61 P) :: (nat_lit 63, o63 P) :: (nat_lit 64, o64 P) :: (nat_lit 66, o66 P) :: (nat_lit 67, o67 P) :: (nat_lit 75, o75 P) :: (nat_lit 77, o77 P) :: (nat_lit 78, o78 P) :: (nat_lit 80, o80 P) :: (nat_lit 81, o81 P) :: (nat_lit 82, o82 P) :: (nat_lit 84, o84 P) :: (nat_lit 85, o85 P) :: (nat_lit 87, o87 P) :: (nat_lit 88, o88 P) :: (nat_lit 89, o89 P) :: (nat_lit 91, o91 P) :: (nat_lit 92, o92 P) :: (nat_lit 94, o94 P) :: (nat_lit 95, o95 P) :: (nat_lit 96, o96 P) :: (nat_lit 98, o98 P) :: (nat_lit 99, o99 P) :: (nat_lit 101, o101 P) :: (nat_lit 102, o102 P) :: (nat_lit 103, o103 P) :: (nat_lit 105, o105 P) :: (nat_lit 106, o106 P) :: (nat_lit 108, o108 P) :: (nat_lit 109, o109 P) :: (nat_lit 110, o110 P) :: (nat_lit 112, o112 P) :: (nat_lit 113, o113 P) :: (nat_lit 115, o115 P) :: (nat_lit 116, o116 P) :: (nat_lit 117, o117 P) :: (nat_lit 119, o119 P) :: (nat_lit 120, o120 P) :: (nat_lit 122, o122 P) :: (nat_lit 123, o123 P) :: (nat_lit 124, o124 P) :: (nat_lit 126, o126 P) :: (nat_lit 127, o127 P) :: (nat_lit 129, o129 P) :: (nat_lit 130, o130 P) :: (nat_lit 131, o131 P) :: (nat_lit 133, o133 P) :: (nat_lit 134, o134 P) :: (nat_lit 136, o136 P) :: (nat_lit 137, o137 P) :: (nat_lit 138, o138 P) :: (nat_lit 140, o140 P) :: (nat_lit 141, o141 P) :: (nat_lit 143, o143 P) :: (nat_lit 144, o144 P) :: (nat_lit 145, o145 P) :: (nat_lit 147, o147 P) :: (nat_lit 148, o148 P) :: (nat_lit 150, o150 P) :: (nat_lit 151, o151 P) :: (nat_lit 152, o152 P) :: (nat_lit 153, o153 P) :: (nat_lit 154, o154 P) :: (nat_lit 155, o155 P) :: (nat_lit 156, o156 P) :: (nat_lit 159, o159 P) :: (nat_lit 161, o161 P) :: (nat_lit 162, o162 P) :: (nat_lit 164, o164 P) :: (nat_lit 165, o165 P) :: (nat_lit 166, o166 P) :: (nat_lit 168, o168 P) :: (nat_lit 169, o169 P) :: (nat_lit 171, o171 P) :: (nat_lit 172, o172 P) :: (nat_lit 173, o173 P) :: (nat_lit 175, o175 P) :: (nat_lit 176, o176 P) :: (nat_lit 178, o178 P) :: (nat_lit 179, o179 P) :: (nat_lit 187, o187 P) :: (nat_lit 188, o188 P) :: (nat_lit 190, o190 P) :: (nat_lit 191, o191 P) :: (nat_lit 193, o193 P) :: (nat_lit 194, o194 P) :: (nat_lit 195, o195 P) :: (nat_lit 197, o197 P) :: (nat_lit 198, o198 P) :: (nat_lit 200, o200 P) :: (nat_lit 201, o201 P) :: (nat_lit 202, o202 P) :: (nat_lit 204, o204 P) :: (nat_lit 205, o205 P) :: (nat_lit 207, o207 P) :: (nat_lit 208, o208 P) :: (nat_lit 209, o209 P) :: (nat_lit 211, o211 P) :: (nat_lit 212, o212 P) :: (nat_lit 214, o214 P) :: (nat_lit 215, o215 P) :: (nat_lit 216, o216 P) :: (nat_lit 218, o218 P) :: (nat_lit 219, o219 P) :: (nat_lit 221, o221 P) :: (nat_lit 222, o222 P) :: (nat_lit 223, o223 P) :: (nat_lit 225, o225 P) :: (nat_lit 226, o226 P) :: (nat_lit 228, o228 P) :: (nat_lit 229, o229 P) :: (nat_lit 230, o230 P) :: (nat_lit 232, o232 P) :: (nat_lit 233, o233 P) :: (nat_lit 235, o235 P) :: (nat_lit 236, o236 P) :: (nat_lit 237, o237 P) :: (nat_lit 239, o239 P) :: (nat_lit 240, o240 P) :: (nat_lit 242, o242 P) :: (nat_lit 243, o243 P) :: (nat_lit 244, o244 P) :: (nat_lit 246, o246 P) :: (nat_lit 247, o247 P) :: (nat_lit 249, o249 P) :: (nat_lit 250, o250 P) :: (nat_lit 251, o251 P) :: (nat_lit 253, o253 P) :: (nat_lit 254, o254 P) :: (nat_lit 256, o256 P) :: (nat_lit 257, o257 P) :: (nat_lit 258, o258 P) :: (nat_lit 260, o260 P) :: (nat_lit 261, o261 P) :: (nat_lit 263, o263 P) :: (nat_lit 264, o264 P) :: (nat_lit 265, o265 P) :: (nat_lit 267, o267 P) :: (nat_lit 268, o268 P) :: (nat_lit 270, o270 P) :: (nat_lit 271, o271 P) :: (nat_lit 272, o272 P) :: (nat_lit 274, o274 P) :: (nat_lit 275, o275 P) :: (nat_lit 277, o277 P) :: (nat_lit 278, o278 P) :: (nat_lit 279, o279 P) :: (nat_lit 281, o281 P) :: (nat_lit 282, o282 P) :: (nat_lit 284, o284 P) :: (nat_lit 285, o285 P) :: (nat_lit 286, o286 P) :: (nat_lit 288, o288 P) :: (nat_lit 289, o289 P) :: (nat_lit 291, o291 P) :: (nat_lit 292, o292 P) :: (nat_lit 293, o293 P) :: (nat_lit 295, o295 P) :: (nat_lit 296, o296 P) :: (nat_lit 298, o298 P) :: (nat_lit 299, o299 P) :: (nat_lit 300, o300 P) :: (nat_lit 302, o302 P) :: (nat_lit 303, o303 P) :: (nat_lit 305, o305 P) :: (nat_lit 306, o306 P) :: (nat_lit 307, o307 P) :: (nat_lit 309, o309 P) :: (nat_lit 310, o310 P) :: (nat_lit 312, o312 P) :: (nat_lit 313, o313 P) :: (nat_lit 314, o314 P) :: (nat_lit 316, o316 P) :: (nat_lit 317, o317 P) :: (nat_lit 319, o319 P) :: (nat_lit 320, o320 P) :: (nat_lit 321, o321 P) :: (nat_lit 322, o322 P) :: (nat_lit 323, o323_4 P) :: (nat_lit 324, o324 P) :: (nat_lit 325, o325 P) :: (nat_lit 328, o328 P) :: (nat_lit 335, o335 P) :: (nat_lit 337, o337 P) :: (nat_lit 338, o338 P) :: (nat_lit 340, o340 P) :: (nat_lit 341, o341 P) :: (nat_lit 342, o342 P) :: (nat_lit 343, o343 P) :: (nat_lit 345, o345 P) :: (nat_lit 346, o346 P) :: (nat_lit 348, o348 P) :: (nat_lit 349, o349 P) :: (nat_lit 350, o350 P) :: (nat_lit 352, o352 P) :: (nat_lit 353, o353 P) :: (nat_lit 355, o355 P) :: (nat_lit 356, o356 P) :: (nat_lit 357, o357 P) :: (nat_lit 359, o359 P) :: (nat_lit 360, o360 P) :: (nat_lit 362, o362 P) :: (nat_lit 363, o363 P) :: (nat_lit 364, o364 P) :: (nat_lit 366, o366 P) :: (nat_lit 367, o367 P) :: (nat_lit 369, o369 P) :: (nat_lit 370, o370 P) :: (nat_lit 371, o371 P) :: (nat_lit 372, o372 P) :: (nat_lit 373, o373 P) :: (nat_lit 383, o383 P) :: (nat_lit 385, o385 P) :: (nat_lit 386, o386 P) :: (nat_lit 388, o388 P) :: (nat_lit 389, o389 P) :: (nat_lit 390, o390 P) :: (nat_lit 392, o392 P) :: (nat_lit 393, o393 P) :: (nat_lit 395, o395 P) :: (nat_lit 396, o396 P) :: (nat_lit 397, o397 P) :: (nat_lit 398, o398 P) :: (nat_lit 399, o399 P) :: (nat_lit 400, o400 P) :: (nat_lit 401, o401 P) :: (nat_lit 404, o404 P) :: (nat_lit 406, o406 P) :: (nat_lit 407, o407 P) :: (nat_lit 409, o409 P) :: (nat_lit 410, o410 P) :: (nat_lit 411, o411 P) :: (nat_lit 413, o413 P) :: (nat_lit 414, o414 P) :: (nat_lit 416, o416 P) :: (nat_lit 417, o417 P) :: (nat_lit 418, o418 P) :: (nat_lit 420, o420 P) :: (nat_lit 421, o421 P) :: (nat_lit 423, o423 P) :: (nat_lit 424, o424 P) :: (nat_lit 425, o425 P) :: (nat_lit 427, o427 P) :: (nat_lit 428, o428 P) :: (nat_lit 430, o430 P) :: (nat_lit 431, o431 P) :: (nat_lit 432, o432 P) :: (nat_lit 434, o434 P) :: (nat_lit 435, o435 P) :: (nat_lit 437, o437 P) :: (nat_lit 438, o438 P) :: (nat_lit 439, o439 P) :: (nat_lit 441, o441 P) :: (nat_lit 442, o442 P) :: (nat_lit 444, o444 P) :: (nat_lit 445, o445 P) :: (nat_lit 446, o446 P) :: (nat_lit 448, o448 P) :: (nat_lit 449, o449 P) :: (nat_lit 451, o451 P) :: (nat_lit 452, o452 P) :: (nat_lit 453, o453 P) :: (nat_lit 455, o455 P) :: (nat_lit 456, o456 P) :: (nat_lit 458, o458 P) :: (nat_lit 459, o459 P) :: (nat_lit 460, o460 P) :: (nat_lit 462, o462 P) :: (nat_lit 463, o463 P) :: (nat_lit 465, o465 P) :: (nat_lit 466, o466 P) :: (nat_lit 467, o467 P) :: (nat_lit 469, o469 P) :: (nat_lit 470, o470 P) :: (nat_lit 472, o472 P) :: (nat_lit 473, o473 P) :: (nat_lit 474, o474 P) :: (nat_lit 476, o476 P) :: (nat_lit 477, o477 P) :: (nat_lit 479, o479 P) :: (nat_lit 480, o480 P) :: (nat_lit 481, o481 P) :: (nat_lit 483, o483 P) :: (nat_lit 484, o484 P) :: (nat_lit 486, o486 P) :: (nat_lit 487, o487 P) :: (nat_lit 488, o488 P) :: (nat_lit 490, o490 P) :: (nat_lit 491, o491 P) :: (nat_lit 493, o493 P) :: (nat_lit 494, o494 P) :: (nat_lit 495, o495 P) :: (nat_lit 497, o497 P) :: (nat_lit 498, o498 P) :: (nat_lit 500, o500 P) :: (nat_lit 501, o501 P) :: (nat_lit 502, o502 P) :: (nat_lit 504, o504 P) :: (nat_lit 505, o505 P) :: (nat_lit 507, o507 P) :: (nat_lit 508, o508 P) :: (nat_lit 509, o509 P) :: (nat_lit 512, o512 P) :: (nat_lit 513, o513 P) :: (nat_lit 514, o514 P) :: (nat_lit 517, o517 P) :: (nat_lit 518, o518 P) :: (nat_lit 519, o519 P) :: (nat_lit 521, o521 P) :: (nat_lit 522, o522 P) :: (nat_lit 524, o524 P) :: (nat_lit 525, o525 P) :: (nat_lit 526, o526 P) :: (nat_lit 528, o528 P) :: (nat_lit 529, o529 P) :: (nat_lit 531, o531 P) :: (nat_lit 532, o532 P) :: (nat_lit 533, o533 P) :: (nat_lit 535, o535 P) :: (nat_lit 536, o536 P) :: (nat_lit 538, o538 P) :: (nat_lit 539, o539 P) :: (nat_lit 540, o540 P) :: (nat_lit 542, o542 P) :: (nat_lit 543, o543 P) :: (nat_lit 545, o545 P) :: (nat_lit 546, o546 P) :: []
noncomputable def asK : List Addr := [2, 3, 15, 17, 18, 20, 21, 22, 29, 30, 31, 32, 35, 42, 44, 45, 47, 48, 49, 50, 51, 54, 56, 57, 59, 60, 61, 63, 64, 66, 67, 75, 77, 78, 80, 81, 82, 84, 85, 87, 88, 89, 91, 92, 94, 95, 96, 98, 99, 101, 102, 103, 105, 106, 108, 109, 110, 112, 113, 115, 116, 117, 119, 120, 122, 123, 124, 126, 127, 129, 130, 131, 133, 134, 136, 137, 138, 140, 141, 143, 144, 145, 147, 148, 150, 151, 152, 153, 154, 155, 156, 159, 161, 162, 164, 165, 166, 168, 169, 171, 172, 173, 175, 176, 178, 179, 187, 188, 190, 191, 193, 194, 195, 197, 198, 200, 201, 202, 204, 205, 207, 208, 209, 211, 212, 214, 215, 216, 218, 219, 221, 222, 223, 225, 226, 228, 229, 230, 232, 233, 235, 236, 237, 239, 240, 242, 243, 244, 246, 247, 249, 250, 251, 253, 254, 256, 257, 258, 260, 261, 263, 264, 265, 267, 268, 270, 271, 272, 274, 275, 277, 278, 279, 281, 282, 284, 285, 286, 288, 289, 291, 292, 293, 295, 296, 298, 299, 300, 302, 303, 305, 306, 307, 309, 310, 312, 313, 314, 316, 317, 319, 320, 321, 322, 323, 324, 325, 328, 335, 337, 338, 340, 341, 342, 343, 345, 346, 348, 349, 350, 352, 353, 355, 356, 357, 359, 360, 362, 363, 364, 366, 367, 369, 370, 371, 372, 373, 383, 385, 386, 388, 389, 390, 392, 393, 395, 396, 397, 398, 399, 400, 401, 404, 406, 407, 409, 410, 411, 413, 414, 416, 417, 418, 420, 421, 423, 424, 425, 427, 428, 430, 431, 432, 434, 435, 437, 438, 439, 441, 442, 444, 445, 446, 448, 449, 451, 452, 453, 455, 456, 458, 459, 460, 462, 463, 465, 466, 467, 469, 470, 472, 473, 474, 476, 477, 479, 480, 481, 483, 484, 486, 487, 488, 490, 491, 493, 494, 495, 497, 498, 500, 501, 502, 504, 505, 507, 508, 509, 512, 513, 514, 517, 518, 519, 521, 522, 524, 525, 526, 528, 529, 531, 532, 533, 535, 536, 538, 539, 540, 542, 543, 545, 546]
noncomputable def theH : Hook := kHook KK asK (fun _ => by kernel_rfl)
noncomputable def theQ : Program := view pw [48]
noncomputable def looseK : List Str := [Str.ofString "_wall", Str.ofString "ClausemillError", Str.ofString "PrologError", Str.ofString "A_NIL", Str.ofString "A_SYSTEM", Str.ofString "F_DOT", Str.ofString "F_ERROR", Str.ofString "fixed_atoms", Str.ofString "fixed_functors", Str.ofString "Symbols", Str.ofString "system_error", Str.ofString "formal_of", Str.ofString "resource_error", Str.ofString "REF", Str.ofString "SRF", Str.ofString "STR", Str.ofString "LIS", Str.ofString "CON", Str.ofString "INT", Str.ofString "FUN", Str.ofString "Cells", Str.ofString "Store", Str.ofString "PairSet", Str.ofString "push_arguments", Str.ofString "push_pairs", Str.ofString "same_shape", Str.ofString "is_variable", Str.ofString "rank", Str.ofString "order", Str.ofString "compare_shapes", Str.ofString "compare_tops", Str.ofString "compare", Str.ofString "identical", Str.ofString "variables", Str.ofString "variable_number", Str.ofString "variant", Str.ofString "subsumes", Str.ofString "_law_pick", Str.ofString "_law_tree", Str.ofString "_law_put_in", Str.ofString "_law_change", Str.ofString "_law_free", Str.ofString "_law_fits"]
noncomputable abbrev XtK (s : Shared) : Bool := xlAt theQ [] s && recOk (RowW.records (OpenRow.toRowW (OpenLaw.row PySem.Challenge.rw_no0183_01))) s
theorem h_open (w : World) : (fencedOpening treeTable pw w 7064).map (fun s => (s.heap, s.gens, s.drawn, s.toks)) = some (boot_heap w.params, Array.mk [], boot_drawn, boot_toks) := boot_open (p := pw) (by kernel_rfl) (by rfl) (fun s => by kernel_rfl) w
theorem h_size (w : World) : ((boot_heap w.params).isNs mainGlobals && (Array.mk [] : Array GenState).size == 0, (boot_heap w.params).objs.size, (boot_heap w.params).nsMap mainGlobals "__annotations__") = (true, 11, annT) := by kernel_rfl
theorem h_l1 (w : World) : (fun os : OsState => (staticsOk (importedModules pw.main.body) (boot_heap w.params) (heap_f w.params) && namesBound pw (heap_f w.params) && gensDone ⟨heap_f w.params, Array.mk [], {}, 965, os⟩ && laidKept (boot_heap w.params) (heap_f w.params))) = fun _ => true := by kernel_rfl
theorem h_l2 (w : World) : (fun os : OsState => openSeen theQ looseK (importedModules pw.main.body) XtK true ⟨heap_f w.params, Array.mk [], {}, 965, os⟩) = fun _ => openGood theQ looseK := by kernel_rfl
theorem h_l3 (w : World) : (fun os : OsState => Hook.obs theH ⟨heap_f w.params, Array.mk [], {}, 965, os⟩) = fun _ => Hook.val theH w := by kernel_rfl
theorem hl : LeftO pw theQ looseK XtK (Hook.obs theH) (Hook.val theH) 7064 true :=
  LeftO.of_pieces h_open h_size h_run (by rfl) fun w => funext fun os => looks_pair (congrFun (h_l1 w) os) (looks_pair (congrFun (h_l2 w) os) (congrFun (h_l3 w) os))
end
section
structure Go (mu : List Addr) (h h' : Heap) : Prop where
  keep : ∀ b o, h.get? b = some o → b ∉ mu → h'.get? b = some o
theorem Go.refl (mu : List Addr) (h : Heap) : Go mu h h := ⟨fun _ _ e _ => e⟩
theorem Go.trans {mu mu' : List Addr} {h₁ h₂ h₃ : Heap} (x : Go mu h₁ h₂) (y : Go mu' h₂ h₃) (hm : ∀ a ∈ mu', a ∈ mu ∨ h₁.get? a = none) : Go mu h₁ h₃ :=
  ⟨fun b o e n => y.keep b o (x.keep b o e n) fun q => (hm b q).elim n fun l => by rw [l] at e; cases e⟩
theorem Go.same {a : Addr} {h h' : Heap} (s : Heap.SameBut a h h') : Go [a] h h' :=
  ⟨fun b o e n => (s.2 b fun q => n (by rw [q]; exact List.mem_singleton.mpr rfl)).trans e⟩
noncomputable def IsTupObj (o : Obj) : Prop := o.cls = .type "tuple" ∧ ∃ vs n, o.data = .seq vs n
theorem reads_tup {h h' : Heap} (hk : ∀ b o, h.get? b = some o → IsTupObj o → h'.get? b = some o) :
    (∀ v d as, Reads h v d as → as = [] → Reads h' v d []) ∧ (∀ vs ds as, ReadsAll h vs ds as → as = [] → ReadsAll h' vs ds []) := by
  refine ⟨fun v d as r => ?_, fun vs ds as r => ?_⟩
  · refine Reads.rec (motive_1 := fun v d as _ => as = [] → Reads h' v d []) (motive_2 := fun vs ds as _ => as = [] → ReadsAll h' vs ds [])
      ?_ ?_ ?_ ?_ ?_ ?_ ?_ ?_ ?_ r
    · exact fun _ => .none
    · exact fun b _ => .bool b
    · exact fun i t _ => .int i t
    · exact fun x t _ => .str x t
    · intro a o vs n xs as _ _ _ _ _ e; cases e
    · intro a o vs n xs as h1 h2 h3 _ ih e; exact .tuple (hk _ _ h1 ⟨h2, _, _, h3⟩) h2 h3 (ih e)
    · intro a o es n kvs as bs _ _ _ _ _ _ _ e; cases e
    · exact fun _ => .nil
    · intro v vs d ds as bs _ _ i1 i2 e
      obtain ⟨e1, e2⟩ := List.append_eq_nil_iff.mp e
      exact ReadsAll.cons (as := []) (bs := []) (i1 e1) (i2 e2)
  · refine ReadsAll.rec (motive_1 := fun v d as _ => as = [] → Reads h' v d []) (motive_2 := fun vs ds as _ => as = [] → ReadsAll h' vs ds [])
      ?_ ?_ ?_ ?_ ?_ ?_ ?_ ?_ ?_ r
    · exact fun _ => .none
    · exact fun b _ => .bool b
    · exact fun i t _ => .int i t
    · exact fun x t _ => .str x t
    · intro a o vs n xs as _ _ _ _ _ e; cases e
    · intro a o vs n xs as h1 h2 h3 _ ih e; exact .tuple (hk _ _ h1 ⟨h2, _, _, h3⟩) h2 h3 (ih e)
    · intro a o es n kvs as bs _ _ _ _ _ _ _ e; cases e
    · exact fun _ => .nil
    · intro v vs d ds as bs _ _ i1 i2 e
      obtain ⟨e1, e2⟩ := List.append_eq_nil_iff.mp e
      exact ReadsAll.cons (as := []) (bs := []) (i1 e1) (i2 e2)
noncomputable def Rd (h : Heap) (v : Value) (d : PyData) : Prop := Reads h v d []
noncomputable def RdAll (h : Heap) (vs : List Value) (ds : List PyData) : Prop := ReadsAll h vs ds []
theorem Rd.go {h h' : Heap} {v : Value} {d : PyData} (x : Rd h v d) (hk : ∀ b o, h.get? b = some o → IsTupObj o → h'.get? b = some o) : Rd h' v d := (reads_tup hk).1 v d [] x rfl
theorem RdAll.go {h h' : Heap} {v : List Value} {d : List PyData} (x : RdAll h v d) (hk : ∀ b o, h.get? b = some o → IsTupObj o → h'.get? b = some o) : RdAll h' v d := (reads_tup hk).2 v d [] x rfl
section
variable (prog : Program) (w : World)
inductive Tr where
  | lst (vs : List Value)
  | ldat (ds : List PyData)
  | ddat (kds : List (Int × PyData))
  | sdat (as : List (Str × PyData))
  | hdat (fs : List (List Int × PyData))
  | set (S : Int → Bool) (n : Nat)
  | is (p : Obj → Prop)
  | att (g : Str → Option Value) (k : Nat)
noncomputable def Tr.At (h : Heap) (a : Addr) : Tr → Prop
  | .lst vs => ∃ n, IsL h a vs.toArray n
  | .ldat ds => ∃ vs n, IsL h a vs.toArray n ∧ RdAll h vs ds
  | .ddat kds => (a == sysModules) = false ∧ ∃ kvs, h.DictOf (intKind prog w) a kvs ∧ kvs.map (·.1) = kds.map (·.1) ∧ RdAll h (kvs.map (·.2)) (kds.map (·.2))
  | .sdat kds => (a == sysModules) = false ∧ ∃ kvs, h.DictOf (strKind prog w) a kvs ∧ kvs.map (·.1) = kds.map (·.1) ∧ RdAll h (kvs.map (·.2)) (kds.map (·.2))
  | .hdat kds => (a == sysModules) = false ∧ ∃ xs, h.DictOfH (tupleKind (intKind prog w)) a xs ∧ xs.map (·.1) = kds.map (·.1) ∧ RdAll h (xs.map (·.2.2)) (kds.map (·.2))
  | .set S n => h.SetOf (intKind prog w) a S n
  | .is p => ∃ o, h.get? a = some o ∧ ¬ IsTupObj o ∧ p o
  | .att g k => ∃ es n, h.get? a = some (dictOf es n) ∧ (∀ x, getL x es = some (g x)) ∧ es.any (·.refKey) = false ∧ es.length ≤ k
end
theorem isList_there {h : Heap} {a : Addr} {vs : Array Value} {n : Nat} (x : IsL h a vs n) : ∃ o, h.get? a = some o ∧ ¬ IsTupObj o :=
  ⟨_, x, fun q => absurd (Value.type.inj q.1) (by decide)⟩
theorem Tr.At.there {prog w} {h : Heap} {a : Addr} {t : Tr} (x : t.At prog w h a) : ∃ o, h.get? a = some o ∧ ¬ IsTupObj o := by
  cases t with
  | lst vs => obtain ⟨n, x⟩ := x; exact isList_there x
  | ldat ds => obtain ⟨vs, n, x, _⟩ := x; exact isList_there x
  | ddat kvs => obtain ⟨_, _, ⟨o, _, _, h1, h2, _⟩, _⟩ := x; exact ⟨o, h1, fun q => absurd (h2.1.symm.trans q.1) (by decide)⟩
  | sdat kvs => obtain ⟨_, _, ⟨o, _, _, h1, h2, _⟩, _⟩ := x; exact ⟨o, h1, fun q => absurd (h2.1.symm.trans q.1) (by decide)⟩
  | hdat kvs => obtain ⟨_, _, ⟨o, _, _, h1, h2, _⟩, _⟩ := x; exact ⟨o, h1, fun q => absurd (h2.1.symm.trans q.1) (by decide)⟩
  | set S n => obtain ⟨o, _, _, _, h1, h2, _⟩ := x; exact ⟨o, h1, fun q => absurd (h2.1.symm.trans q.1) (by decide)⟩
  | is p => obtain ⟨o, x, y, _⟩ := x; exact ⟨o, x, y⟩
  | att g k => obtain ⟨es, n, h1, _⟩ := x; exact ⟨_, h1, fun e => absurd (Value.type.inj e.1) (by decide)⟩
theorem Tr.At.move {prog w} {h h' : Heap} {a : Addr} {t : Tr} (x : t.At prog w h a) (k : ∀ o, h.get? a = some o → h'.get? a = some o) (kt : ∀ b o, h.get? b = some o → IsTupObj o → h'.get? b = some o) : t.At prog w h' a := by
  cases t with
  | lst vs => obtain ⟨n, x⟩ := x; exact ⟨n, k _ x⟩
  | ldat ds => obtain ⟨vs, n, x, y⟩ := x; exact ⟨vs, n, k _ x, y.go kt⟩
  | ddat kds => obtain ⟨f, kvs, ⟨o, es, ep, h1, h2⟩, e, y⟩ := x; exact ⟨f, kvs, ⟨o, es, ep, k _ h1, h2⟩, e, y.go kt⟩
  | sdat kds => obtain ⟨f, kvs, ⟨o, es, ep, h1, h2⟩, e, y⟩ := x; exact ⟨f, kvs, ⟨o, es, ep, k _ h1, h2⟩, e, y.go kt⟩
  | hdat kds =>
    obtain ⟨f, xs, ⟨o, es, ep, h1, h2, h3, h4, h5, h6⟩, e, y⟩ := x
    refine ⟨f, xs, ⟨o, es, ep, k _ h1, h2, h3, h4, fun z hz => ?_, h6⟩, e, y.go kt⟩
    obtain ⟨o', items, n, g1, g2, g3, g4⟩ := h5 z hz
    exact ⟨o', items, n, kt _ _ g1 ⟨g2, _, _, g3⟩, g2, g3, g4⟩
  | set S n => obtain ⟨o, es, ep, t, h1, h2⟩ := x; exact ⟨o, es, ep, t, k _ h1, h2⟩
  | is p => obtain ⟨o, x, y⟩ := x; exact ⟨o, k _ x, y⟩
  | att g kk => obtain ⟨es, n, h1, h2⟩ := x; exact ⟨es, n, k _ h1, h2⟩
theorem tup_keep {mu : List Addr} {h h' : Heap} (hno : ∀ a ∈ mu, ∀ o, h.get? a = some o → ¬ IsTupObj o) (g : Go mu h h') : ∀ b o, h.get? b = some o → IsTupObj o → h'.get? b = some o :=
  fun b o e t => g.keep b o e fun q => hno b q o e t
theorem tup_keep1 {a : Addr} {h h' : Heap} {o' : Obj} (e : h.get? a = some o') (hn : ¬ IsTupObj o') (g : Go [a] h h') : ∀ b o, h.get? b = some o → IsTupObj o → h'.get? b = some o :=
  tup_keep (fun b q o e' t => by rw [List.mem_singleton.mp q, e] at e'; cases e'; exact hn t) g
theorem tup_ns {L : Addr} {m : Str → Option Value} {h h' : Heap} (n : h.Ns L m) (hs : Heap.SameBut L h h') : ∀ b o, h.get? b = some o → IsTupObj o → h'.get? b = some o := by
  obtain ⟨o', es, ep, e', hd, _⟩ := n
  exact tup_keep1 e' (fun ⟨_, vs, k, hd'⟩ => by rw [hd'] at hd; cases hd) (Go.same hs)
structure St (prog : Program) (w : World) (B h₀ : Heap) (mu : List Addr) (L : Addr) (m : Str → Option Value) (P : List (Addr × Bool × Tr)) (D : List (Value × PyData)) (h : Heap) : Prop where
  fr : Fr B L h m
  go : Go mu h₀ h
  new : h₀.get? L = none
  at_ : ∀ p ∈ P, p.2.2.At prog w h p.1
  nd : (L :: P.map (·.1)).Nodup
  own : ∀ p ∈ P, p.2.1 = true → B.get? p.1 = none ∧ (p.1 ∈ mu ∨ h₀.get? p.1 = none)
  rd : ∀ p ∈ D, Rd h p.1 p.2
inductive Put (a : Addr) (b b' : Bool) (t t' : Tr) : List (Addr × Bool × Tr) → List (Addr × Bool × Tr) → Prop
  | head {r} : Put a b b' t t' ((a, b, t) :: r) ((a, b', t') :: r)
  | tail {p r r'} : Put a b b' t t' r r' → Put a b b' t t' (p :: r) (p :: r')
theorem Put.mem {a : Addr} {b b' : Bool} {t t' : Tr} {P P' : List (Addr × Bool × Tr)} (x : Put a b b' t t' P P') : (a, b, t) ∈ P := by
  induction x with
  | head => exact .head _
  | tail _ ih => exact .tail _ ih
theorem Put.keys {a : Addr} {b b' : Bool} {t t' : Tr} {P P' : List (Addr × Bool × Tr)} (x : Put a b b' t t' P P') : P'.map (·.1) = P.map (·.1) := by
  induction x with
  | head => rfl
  | tail _ ih => rw [List.map_cons, List.map_cons, ih]
theorem Put.of_mem {a : Addr} {b b' : Bool} {t t' : Tr} {P P' : List (Addr × Bool × Tr)} (x : Put a b b' t t' P P') (nd : (P.map (·.1)).Nodup) : ∀ p ∈ P', p = (a, b', t') ∨ (p ∈ P ∧ p.1 ≠ a) := by
  induction x with
  | head =>
    intro p hp
    rw [List.map_cons, List.nodup_cons] at nd
    rcases List.mem_cons.mp hp with rfl | hp
    · exact .inl rfl
    · exact .inr ⟨.tail _ hp, fun e => nd.1 (List.mem_map.mpr ⟨p, hp, e⟩)⟩
  | tail y ih =>
    intro p hp
    rw [List.map_cons, List.nodup_cons] at nd
    rcases List.mem_cons.mp hp with rfl | hp
    · exact .inr ⟨.head _, fun e => nd.1 (e ▸ List.mem_map_of_mem y.mem)⟩
    · exact (ih nd.2 p hp).imp id fun q => ⟨.tail _ q.1, q.2⟩
section
variable {prog : Program} {w : World} {B h₀ h h' : Heap} {mu : List Addr} {L : Addr} {m m' : Str → Option Value} {P P' : List (Addr × Bool × Tr)} {D D' : List (Value × PyData)} {a : Addr} {t t' : Tr}
theorem St.get (S : St prog w B h₀ mu L m P D h) {b : Bool} (x : (a, b, t) ∈ P) : t.At prog w h a := S.at_ _ x
theorem St.datum (S : St prog w B h₀ mu L m P D h) {v : Value} {d : PyData} (x : (v, d) ∈ D) : Rd h v d := S.rd _ x
theorem St.alloc (S : St prog w B h₀ mu L m P D h) (o : Obj) : St prog w B h₀ mu L m P D (h.push o) where
  fr := S.fr.push o
  go := ⟨fun b o' e n => Heap.get?_push_of_some _ (S.go.keep b o' e n)⟩
  new := S.new
  at_ := fun p hp => (S.at_ p hp).move (fun o' e => Heap.get?_push_of_some _ e) fun b o' e _ => Heap.get?_push_of_some _ e
  nd := S.nd
  own := S.own
  rd := fun p hp => (S.rd p hp).go fun b o' e _ => Heap.get?_push_of_some _ e
theorem St.know (S : St prog w B h₀ mu L m P D h) {v : Value} {d : PyData} (x : Rd h v d) : St prog w B h₀ mu L m P ((v, d) :: D) h :=
  { S with rd := fun p hp => by rcases List.mem_cons.mp hp with rfl | hp; exact x; exact S.rd p hp }
theorem St.lt (S : St prog w B h₀ mu L m P D h) : L < h.objs.size := by obtain ⟨o, _, _, e, _⟩ := S.fr.ns; exact Heap.lt_size e
theorem St.made (S : St prog w B h₀ mu L m P D h) {o : Obj} (x : t.At prog w (h.push o) h.objs.size) : St prog w B h₀ mu L m ((h.objs.size, true, t) :: P) D (h.push o) :=
  let T := S.alloc o
  { T with
    at_ := fun p hp => by rcases List.mem_cons.mp hp with rfl | hp; exact x; exact T.at_ p hp
    nd := by
      have key : h.objs.size ∉ L :: P.map (·.1) := fun q => by
        rcases List.mem_cons.mp q with q | q
        · exact absurd S.lt (by rw [q]; exact Nat.lt_irrefl _)
        · obtain ⟨p, hp, e⟩ := List.mem_map.mp q
          obtain ⟨o', e', _⟩ := (S.at_ p hp).there
          exact absurd (Heap.lt_size e') (by rw [e]; exact Nat.lt_irrefl _)
      have nd := S.nd
      rw [List.nodup_cons] at nd
      rw [List.map_cons, List.nodup_cons, List.nodup_cons]
      refine ⟨fun q => ?_, fun q => key (.tail _ q), nd.2⟩
      rcases List.mem_cons.mp q with q | q
      · exact key (by rw [show h.objs.size = L from q.symm]; exact .head _)
      · exact nd.1 q
    own := fun p hp hb => by
      rcases List.mem_cons.mp hp with rfl | hp
      · refine ⟨?_, ?_⟩
        · cases q : B.get? h.objs.size with
          | none => rfl
          | some o' => exact absurd (Heap.lt_size (S.fr.keep _ _ q)) (Nat.lt_irrefl _)
        · by_cases hm : h.objs.size ∈ mu
          · exact .inl hm
          · refine .inr ?_
            cases q : h₀.get? h.objs.size with
            | none => rfl
            | some o' => exact absurd (Heap.lt_size (S.go.keep _ _ q hm)) (Nat.lt_irrefl _)
      · exact S.own p hp hb }
theorem St.names (S : St prog w B h₀ mu L m P D h) (hn : h'.Ns L m') (hs : Heap.SameBut L h h') : St prog w B h₀ mu L m' P D h' where
  fr := S.fr.set hn hs
  go := S.go.trans (Go.same hs) fun b q => .inr (by rw [List.mem_singleton.mp q]; exact S.new)
  new := S.new
  at_ := fun p hp => (S.at_ p hp).move (fun o e => (hs.2 p.1 fun q => by
    have nd := S.nd
    rw [List.nodup_cons] at nd
    exact nd.1 (q ▸ List.mem_map_of_mem hp)).trans e) (tup_ns S.fr.ns hs)
  nd := S.nd
  own := S.own
  rd := fun p hp => (S.rd p hp).go (tup_ns S.fr.ns hs)
theorem St.backs {mu' : List Addr} (S : St prog w B h₀ mu L m P D h) (g : Go mu' h h') (hmu : ∀ a ∈ mu', ∃ t, (a, true, t) ∈ P)
    (hP : (P'.map (·.1)).Sublist (P.map (·.1))) (hat : ∀ p ∈ P', (p ∈ P ∧ p.1 ∉ mu') ∨ p.2.2.At prog w h' p.1) (hown : ∀ p ∈ P', p.2.1 = true → ∃ t, (p.1, true, t) ∈ P) : St prog w B h₀ mu L m P' D h' :=
  have nd := List.nodup_cons.mp S.nd
  have kt := tup_keep (fun a ha o e t => by
    obtain ⟨u, hu⟩ := hmu a ha
    obtain ⟨o', e', hn⟩ := (S.at_ _ hu).there
    rw [show h.get? a = some o' from e'] at e
    cases e
    exact hn t) g
  have hB : ∀ a ∈ mu', B.get? a = none ∧ (a ∈ mu ∨ h₀.get? a = none) := fun a ha => let ⟨_, hu⟩ := hmu a ha; S.own _ hu rfl
  { fr := by
      obtain ⟨o, es, ep, e, r⟩ := S.fr.ns
      refine ⟨⟨o, es, ep, g.keep _ _ e fun q => ?_, r⟩, fun b o e => g.keep _ _ (S.fr.keep b o e) fun q => ?_, S.fr.above⟩
      · obtain ⟨u, hu⟩ := hmu L q
        exact nd.1 (List.mem_map.mpr ⟨_, hu, rfl⟩)
      · rw [(hB b q).1] at e; cases e
    go := S.go.trans g fun b q => (hB b q).2
    new := S.new
    at_ := fun p hp => by
      rcases hat p hp with ⟨hp, ne⟩ | x
      · exact (S.at_ p hp).move (fun o e => g.keep _ _ e ne) kt
      · exact x
    nd := List.nodup_cons.mpr ⟨fun q => nd.1 (hP.subset q), nd.2.sublist hP⟩
    own := fun p hp hb => by
      obtain ⟨u, hu⟩ := hown p hp hb
      exact S.own (p.1, true, u) hu rfl
    rd := fun p hp => (S.rd p hp).go kt }
theorem St.back (S : St prog w B h₀ mu L m P D h) (g : Go [] h h') : St prog w B h₀ mu L m P D h' :=
  S.backs g (fun _ q => nomatch q) (List.Sublist.refl _) (fun p hp => .inl ⟨hp, fun q => nomatch q⟩) fun p hp e => ⟨p.2.2, by rw [← e]; exact hp⟩
theorem Put.own {b : Bool} (U : Put a b true t t' P P') (nd : (P.map (·.1)).Nodup) : ∀ p ∈ P', p.2.1 = true → (b = true ∨ p.1 ≠ a) → ∃ t, (p.1, true, t) ∈ P := fun p hp e hb => by
  rcases U.of_mem nd p hp with rfl | ⟨hp, ne⟩
  · rcases hb with rfl | hb
    · exact ⟨_, U.mem⟩
    · exact absurd rfl hb
  · exact ⟨p.2.2, by rw [← e]; exact hp⟩
theorem St.back1 (S : St prog w B h₀ mu L m P D h) (U : Put a true true t t' P P') (g : Go [a] h h') (x : t'.At prog w h' a) : St prog w B h₀ mu L m P' D h' :=
  have nd := (List.nodup_cons.mp S.nd).2
  S.backs g (fun b q => ⟨t, by rw [List.mem_singleton.mp q]; exact U.mem⟩) (by rw [U.keys]; exact List.Sublist.refl _)
    (fun p hp => by
      rcases U.of_mem nd p hp with rfl | ⟨hp, ne⟩
      · exact .inr x
      · exact .inl ⟨hp, fun q => ne (List.mem_singleton.mp q)⟩)
    fun p hp e => U.own nd p hp e (.inl rfl)
theorem St.turn (S : St prog w B h₀ mu L m P D h) (U : Put a true true t t' P P') (x : t'.At prog w h' a) (hs : Heap.SameBut a h h') : St prog w B h₀ mu L m P' D h' := S.back1 U (Go.same hs) x
theorem St.gone (S : St prog w B h₀ mu L m ((a, true, t) :: P) D h) (g : Go [a] h h') : St prog w B h₀ mu L m P D h' :=
  have nd := (List.nodup_cons.mp (List.nodup_cons.mp S.nd).2)
  S.backs g (fun b q => ⟨t, by rw [List.mem_singleton.mp q]; exact .head _⟩) (by rw [List.map_cons]; exact List.sublist_cons_self _ _)
    (fun p hp => .inl ⟨.tail _ hp, fun q => nd.1 (List.mem_map.mpr ⟨p, hp, List.mem_singleton.mp q⟩)⟩)
    fun p hp e => ⟨p.2.2, .tail _ (by rw [← e]; exact hp)⟩
theorem St.sub (S : St prog w B h₀ mu L m P D h) (x : P'.Sublist P) (y : ∀ p ∈ D', p ∈ D) : St prog w B h₀ mu L m P' D' h where
  fr := S.fr
  go := S.go
  new := S.new
  at_ := fun p hp => S.at_ p (x.subset hp)
  nd := by
    have nd := List.nodup_cons.mp S.nd
    exact List.nodup_cons.mpr ⟨fun q => nd.1 ((x.map _).subset q), nd.2.sublist (x.map _)⟩
  own := fun p hp e => S.own p (x.subset hp) e
  rd := fun p hp => S.rd p (y p hp)
end
structure Eqv (s s' : Shared) : Prop where
  gens : s'.gens = s.gens
  drawn : s'.drawn = s.drawn
  os : s'.os = s.os
theorem Eqv.refl (s : Shared) : Eqv s s := ⟨rfl, rfl, rfl⟩
theorem Eqv.trans {a b c : Shared} (x : Eqv a b) (y : Eqv b c) : Eqv a c := ⟨y.gens.trans x.gens, y.drawn.trans x.drawn, y.os.trans x.os⟩
theorem Eqv.mk' {s : Shared} {h : Heap} {tk : Nat} : Eqv s ⟨h, s.gens, s.drawn, tk, s.os⟩ := ⟨rfl, rfl, rfl⟩
structure SS (prog : Program) (w : World) (B : Heap) (s₀ : Shared) (mu : List Addr) (L : Addr) (m : Str → Option Value) (P : List (Addr × Bool × Tr)) (D : List (Value × PyData)) (s : Shared) : Prop where
  st : St prog w B s₀.heap mu L m P D s.heap
  same : Eqv s₀ s
section
variable {prog : Program} {w : World} {B : Heap} {s₀ s s' : Shared} {mu : List Addr} {L a : Addr} {m m' : Str → Option Value} {P P' : List (Addr × Bool × Tr)} {D D' : List (Value × PyData)} {b : Bool} {t t' : Tr}
theorem SS.to (S : SS prog w B s₀ mu L m P D s) {h : Heap} {tk : Nat} (x : St prog w B s₀.heap mu L m' P' D' h) : SS prog w B s₀ mu L m' P' D' ⟨h, s.gens, s.drawn, tk, s.os⟩ := ⟨x, S.same.trans Eqv.mk'⟩
theorem SS.toks (S : SS prog w B s₀ mu L m P D s) {tk : Nat} : SS prog w B s₀ mu L m P D ⟨s.heap, s.gens, s.drawn, tk, s.os⟩ := ⟨S.st, S.same.trans Eqv.mk'⟩
theorem SS.get (S : SS prog w B s₀ mu L m P D s) (x : (a, b, t) ∈ P) : t.At prog w s.heap a := S.st.get x
theorem SS.datum (S : SS prog w B s₀ mu L m P D s) {v : Value} {d : PyData} (x : (v, d) ∈ D) : Rd s.heap v d := S.st.datum x
theorem SS.know (S : SS prog w B s₀ mu L m P D s) {v : Value} {d : PyData} (x : Rd s.heap v d) : SS prog w B s₀ mu L m P ((v, d) :: D) s := ⟨S.st.know x, S.same⟩
theorem SS.fr (S : SS prog w B s₀ mu L m P D s) : Fr B L s.heap m := S.st.fr
theorem SS.sub (S : SS prog w B s₀ mu L m P D s) (x : P'.Sublist P) (y : ∀ p ∈ D', p ∈ D) : SS prog w B s₀ mu L m P' D' s := ⟨S.st.sub x y, S.same⟩
theorem SS.back (S : SS prog w B s₀ mu L m P D s) (g : Go [] s.heap s'.heap) (e : Eqv s s') : SS prog w B s₀ mu L m P D s' := ⟨S.st.back g, S.same.trans e⟩
theorem SS.back1 (S : SS prog w B s₀ mu L m P D s) (U : Put a true true t t' P P') (g : Go [a] s.heap s'.heap) (e : Eqv s s') (x : t'.At prog w s'.heap a) : SS prog w B s₀ mu L m P' D s' := ⟨S.st.back1 U g x, S.same.trans e⟩
end
noncomputable def New (prog : Program) (w : World) (s s' : Shared) (N : List (Addr × Bool × Tr)) : Prop := (∀ p ∈ N, p.2.2.At prog w s'.heap p.1 ∧ s.heap.get? p.1 = none) ∧ (N.map (·.1)).Nodup
section
variable {prog : Program} {w : World} {B : Heap} {s₀ s s' : Shared} {mu : List Addr} {L a : Addr} {m m' : Str → Option Value} {P P' : List (Addr × Bool × Tr)} {D D' : List (Value × PyData)} {b : Bool} {t t' : Tr}
theorem SS.adopt (S : SS prog w B s₀ mu L m P D s) {N : List (Addr × Bool × Tr)} (x : New prog w s s' N) (g : Go [] s.heap s'.heap) (e : Eqv s s') : SS prog w B s₀ mu L m (N ++ P) D s' :=
  have T := S.back g e
  ⟨{ T.st with
    at_ := fun p hp => by
      rcases List.mem_append.mp hp with hp | hp
      · exact (x.1 p hp).1
      · exact T.st.at_ p hp
    nd := by
      have nd := List.nodup_cons.mp S.st.nd
      have off : ∀ p ∈ N, p.1 ≠ L ∧ p.1 ∉ P.map (·.1) := by
        intro p hp
        refine ⟨fun q => ?_, fun q => ?_⟩
        · obtain ⟨o, _, _, e, _⟩ := S.fr.ns
          rw [← q, (x.1 p hp).2] at e; cases e
        · obtain ⟨p', hp', e'⟩ := List.mem_map.mp q
          obtain ⟨o, e, _⟩ := (S.st.at_ p' hp').there
          rw [e', (x.1 p hp).2] at e; cases e
      rw [List.map_append]
      refine List.nodup_cons.mpr ⟨fun q => ?_, List.nodup_append.mpr ⟨x.2, nd.2, ?_⟩⟩
      · rcases List.mem_append.mp q with q | q
        · obtain ⟨p, hp, e⟩ := List.mem_map.mp q
          exact (off p hp).1 e
        · exact nd.1 q
      · intro a ha b hb e
        obtain ⟨p, hp, e'⟩ := List.mem_map.mp ha
        exact (off p hp).2 (by rw [e', e]; exact hb)
    own := fun p hp hb => by
      rcases List.mem_append.mp hp with hp | hp
      · have q := (x.1 p hp).2
        refine ⟨?_, ?_⟩
        · cases z : B.get? p.1 with
          | none => rfl
          | some o => rw [S.fr.keep _ _ z] at q; cases q
        · by_cases hm : p.1 ∈ mu
          · exact .inl hm
          · refine .inr ?_
            cases z : s₀.heap.get? p.1 with
            | none => rfl
            | some o => rw [S.st.go.keep _ _ z hm] at q; cases q
      · exact T.st.own p hp hb }, T.same⟩
noncomputable def restOf (B h : Heap) (L : Addr) (as : List Addr) : List (Addr × Obj) :=
  (List.range h.objs.size).filterMap fun b => match h.get? b with
    | some o => if b = L ∨ b ∈ as ∨ (B.get? b).isSome = true then none else some (b, o)
    | none => none
theorem restOf_mem {B h : Heap} {L : Addr} {as : List Addr} {p : Addr × Obj} : p ∈ restOf B h L as ↔ h.get? p.1 = some p.2 ∧ p.1 ≠ L ∧ p.1 ∉ as ∧ B.get? p.1 = none := by
  unfold restOf
  rw [List.mem_filterMap]
  constructor
  · rintro ⟨b, _, e⟩
    split at e
    · rename_i o ho
      split at e
      · cases e
      · rename_i q
        cases e
        refine ⟨ho, fun z => q (.inl z), fun z => q (.inr (.inl z)), ?_⟩
        cases z : B.get? b with
        | none => rfl
        | some o => exact absurd (.inr (.inr (by rw [z]; rfl))) q
    · cases e
  · rintro ⟨e, n1, n2, n3⟩
    refine ⟨p.1, List.mem_range.mpr (Heap.lt_size e), ?_⟩
    rw [e]
    simp only
    rw [if_neg]
    rintro (z | z | z)
    · exact n1 z
    · exact n2 z
    · rw [n3] at z; cases z
theorem SS.viaK {h' : Heap} {tk : Nat} (S : SS prog w B s₀ mu L m P D s) (U : Put a true true t t' P P') (F' : Fr B L h' m') (k : ∀ p ∈ restOf B s.heap L [a], h'.get? p.1 = some p.2) (x : t'.At prog w h' a) :
    SS prog w B s₀ mu L m' P' D ⟨h', s.gens, s.drawn, tk, s.os⟩ := by
  have nd := List.nodup_cons.mp S.st.nd
  have ow := S.st.own _ U.mem rfl
  have k' : ∀ b o, s.heap.get? b = some o → b ≠ L → b ≠ a → h'.get? b = some o := fun b o e n1 n2 => by
    cases z : B.get? b with
    | none => exact k (b, o) (restOf_mem.mpr ⟨e, n1, fun q => n2 (List.mem_singleton.mp q), z⟩)
    | some o' =>
      have := S.fr.keep b o' z
      rw [e] at this
      cases this
      exact F'.keep b o z
  have kt : ∀ b o, s.heap.get? b = some o → IsTupObj o → h'.get? b = some o := fun b o e ht => k' b o e
    (fun q => by
      obtain ⟨o', es, ep, e', hd, _⟩ := S.fr.ns
      rw [q, e'] at e
      cases e
      obtain ⟨_, vs, n, hd'⟩ := ht
      rw [hd] at hd'; cases hd')
    (fun q => by
      obtain ⟨o', e', hn⟩ := (S.st.get U.mem).there
      rw [q, e'] at e
      cases e
      exact hn ht)
  refine S.to
    { fr := F'
      go := ⟨fun b o e n => k' b o (S.st.go.keep b o e n) (fun q => by rw [q, S.st.new] at e; cases e) (fun q => by
        rcases ow.2 with z | z
        · exact n (q ▸ z)
        · rw [q, z] at e; cases e)⟩
      new := S.st.new
      at_ := fun p hp => by
        rcases U.of_mem nd.2 p hp with rfl | ⟨hp, ne⟩
        · exact x
        · exact (S.st.at_ p hp).move (fun o e => k' _ o e (fun q => nd.1 (q ▸ List.mem_map_of_mem hp)) ne) kt
      nd := by rw [U.keys]; exact S.st.nd
      own := fun p hp e => by
        obtain ⟨u, hu⟩ := U.own nd.2 p hp e (.inl rfl)
        exact S.st.own (p.1, true, u) hu rfl
      rd := fun p hp => (S.st.rd p hp).go kt }
end
end
section
structure Kn (prog : Program) (w : World) (B : Heap) (mu : List Addr) (P : List (Addr × Bool × Tr)) (h : Heap) : Prop where
  keep : ∀ b o, B.get? b = some o → h.get? b = some o
  size : B.objs.size ≤ h.objs.size
  at_ : ∀ p ∈ P, p.2.2.At prog w h p.1
  nd : (P.map (·.1)).Nodup
  own : ∀ p ∈ P, p.2.1 = true → B.get? p.1 = none ∧ p.1 ∈ mu
inductive Sel (mu : List Addr) : List (Addr × Bool × Tr) → List (Addr × Bool × Tr) → Prop
  | nil {P} : Sel mu [] P
  | take {a t P' P} : a ∈ mu → Sel mu P' P → Sel mu ((a, true, t) :: P') ((a, true, t) :: P)
  | look {a b t P' P} : Sel mu P' P → Sel mu ((a, false, t) :: P') ((a, b, t) :: P)
  | skip {p P' P} : Sel mu P' P → Sel mu P' (p :: P)
theorem Sel.mem {mu} {P' P : List (Addr × Bool × Tr)} (x : Sel mu P' P) : ∀ p ∈ P', (∃ b, (p.1, b, p.2.2) ∈ P) ∧ (p.2.1 = true → p ∈ P ∧ p.1 ∈ mu) := by
  induction x with
  | nil => intro p hp; cases hp
  | take ha _ ih =>
    intro p hp
    rcases List.mem_cons.mp hp with rfl | hp
    · exact ⟨⟨true, .head _⟩, fun _ => ⟨.head _, ha⟩⟩
    · obtain ⟨⟨b, i⟩, j⟩ := ih p hp; exact ⟨⟨b, .tail _ i⟩, fun e => ⟨.tail _ (j e).1, (j e).2⟩⟩
  | look _ ih =>
    intro p hp
    rcases List.mem_cons.mp hp with rfl | hp
    · exact ⟨⟨_, .head _⟩, fun e => nomatch e⟩
    · obtain ⟨⟨b, i⟩, j⟩ := ih p hp; exact ⟨⟨b, .tail _ i⟩, fun e => ⟨.tail _ (j e).1, (j e).2⟩⟩
  | skip _ ih =>
    intro p hp
    obtain ⟨⟨b, i⟩, j⟩ := ih p hp; exact ⟨⟨b, .tail _ i⟩, fun e => ⟨.tail _ (j e).1, (j e).2⟩⟩
theorem Sel.sub {mu} {P' P : List (Addr × Bool × Tr)} (x : Sel mu P' P) : (P'.map (·.1)).Sublist (P.map (·.1)) := by
  induction x with
  | nil => exact List.nil_sublist _
  | take _ _ ih => exact ih.cons_cons _
  | look _ ih => exact ih.cons_cons _
  | skip _ ih => exact ih.cons _
section
variable {prog : Program} {w : World} {B h₀ h h' : Heap} {mu mu' : List Addr} {L : Addr} {m m' : Str → Option Value} {P P' : List (Addr × Bool × Tr)} {D D' : List (Value × PyData)} {a : Addr} {t t' : Tr}
theorem St.kn (S : St prog w B h₀ mu L m P D h) (x : Sel mu' P' P) : Kn prog w B mu' P' h where
  keep := S.fr.keep
  size := Nat.le_trans S.fr.above (Nat.le_of_lt S.lt)
  at_ := fun p hp => let ⟨⟨b, i⟩, _⟩ := x.mem p hp; S.at_ (p.1, b, p.2.2) i
  nd := (List.nodup_cons.mp S.nd).2.sublist x.sub
  own := fun p hp e => let ⟨_, j⟩ := x.mem p hp; ⟨(S.own p (j e).1 e).1, (j e).2⟩
theorem SS.kn {s₀ s : Shared} (S : SS prog w B s₀ mu L m P D s) (x : Sel mu' P' P) : Kn prog w B mu' P' s.heap := S.st.kn x
theorem Kn.st (k : Kn prog w B mu P h) (hns : h'.Ns h.objs.size m) (hk : ∀ b o, h.get? b = some o → h'.get? b = some o) (hD : ∀ p ∈ D, Rd h p.1 p.2) :
    St prog w B h mu h.objs.size m P D h' where
  fr := ⟨hns, fun b o e => hk b o (k.keep b o e), k.size⟩
  go := ⟨fun b o e _ => hk b o e⟩
  new := by
    cases q : h.get? h.objs.size with
    | none => rfl
    | some o => exact absurd (Heap.lt_size q) (Nat.lt_irrefl _)
  at_ := fun p hp => (k.at_ p hp).move (fun o e => hk _ o e) fun b o e _ => hk b o e
  nd := List.nodup_cons.mpr ⟨fun q => by
    obtain ⟨p, hp, e⟩ := List.mem_map.mp q
    obtain ⟨o, e', _⟩ := (k.at_ p hp).there
    exact absurd (Heap.lt_size e') (by rw [e]; exact Nat.lt_irrefl _), k.nd⟩
  own := fun p hp e => ⟨(k.own p hp e).1, .inl (k.own p hp e).2⟩
  rd := fun p hp => (hD p hp).go fun b o e _ => hk b o e
end
structure Room (n : Nat) (A : Around) : Prop where
  handled : A.handled = none
  depth : A.depth + n < recursionLimit
  units : A.units + 16 * n + 100 < cLine
theorem Room.deeper {n : Nat} {A : Around} (r : Room (n + 1) A) (env : Env) : Room n (A.deeper env) := by
  refine ⟨r.handled, ?_, ?_⟩
  · have := r.depth; show A.depth + 1 + n < _; walk_at "o"
  · have := r.units; show A.units + 3 + 16 * n + 100 < _; walk_at "o"
theorem Room.less {n k : Nat} {A : Around} (r : Room n A) (h : k ≤ n := by decide) : Room k A := by
  refine ⟨r.handled, ?_, ?_⟩
  · have := r.depth; walk_at "o"
  · have := r.units; walk_at "o"
structure Gr (K : Frag) (B : Heap) : Prop where
  X : K.In B
  lim : B.NoLimit
  glob : ∃ mg, B.Ns mainGlobals mg
  blt : ∃ mb, B.Ns builtinsNs mb ∧ ∀ x : Str, x ≠ "__name__" → mb x = bootBuiltins x
structure EnvAt (env : Env) (L : Addr) : Prop where
  loc : env.locals = L
  glob : env.globals = mainGlobals
  blt : env.builtins = builtinsNs
  kind : env.scope.kind = .function
section
variable {prog : Program} {w : World} {B : Heap} {mu : List Addr} {P : List (Addr × Bool × Tr)} {D : List (Value × PyData)} {A : Around} {E : Value → Shared → Prop} {s : Shared} {K : Frag} {Q : Value → Shared → Prop}
  {name qual : Str} {params : Arguments} {body : List Stmt} {scope : Scope} {dV kV doc pm cdv ct oc : Value} {an od : Option Addr} {osl : Array (Option Value)} {f : Addr} {args : List Value} {binds : List (Str × Value)}
theorem enter {n : Nat} (G : Gr K B) (r : Room (n + 1) A) (k : Kn prog w B mu P s.heap) (D : List (Value × PyData)) (hD : ∀ p ∈ D, Rd s.heap p.1 p.2)
    (ho : K.lookup f = some ⟨oc, od, .func (fnOf name qual params body scope dV kV doc pm an cdv ct), osl⟩) (hcd : codeIn K cdv qual = true)
    (hbind : BindsTo s (fnOf name qual params body scope dV kV doc pm an cdv ct) ⟨args, []⟩ binds) (hloc : ∀ y ∈ binds, scope.names.lookup y.1 = some .local)
    (h : ∀ s₁, SS prog w B s mu s.heap.objs.size (fun y => binds.reverse.lookup y) P D s₁ → Room n (A.deeper (envOf qual scope s.heap.objs.size f cdv)) →
      wpAny (model prog w) (A.deeper (envOf qual scope s.heap.objs.size f cdv)) (execs body (envOf qual scope s.heap.objs.size f cdv))
        (fun fl s' => Q (match fl with | .ret v => v | _ => .none) s') (fun _ _ => False) s₁)
    (hco : scope.isCoroutine = false) (hgen : scope.isGenerator = false) (hk : scope.kind = .function)
    (hcell : ∀ x ∈ scope.names, x.2 ≠ .cell) : wpAny (model prog w) A (call (.ref f) args) Q E s := by
  refine wpAny_call (codeAny_call_def (fd := fnOf name qual params body scope dV kV doc pm an cdv ct) (body := body) (binds := binds) (by have := r.depth; walk_at "o")
    (k.keep _ _ (G.X _ _ ho)) rfl (G.lim.keeps k.keep) ((codeRec_of G.X hcd).keeps k.keep) rfl hbind hcell hloc (fun h₁ hns hk₁ => ?_) hco hgen hk)
  exact wpAny_mono (h _ ⟨k.st hns hk₁ hD, Eqv.mk'⟩ (r.deeper _)) (fun _ _ x => x) fun _ _ x => x.elim
end
end
section
section
variable {h : Heap} {v : Value}
theorem Rd.int (x : Rd h v (.int i)) : ∃ t, v = .int i t := by cases x; exact ⟨_, rfl⟩
theorem Rd.str (x : Rd h v (.str i)) : ∃ t, v = .str i t := by cases x; exact ⟨_, rfl⟩
theorem Rd.bool (x : Rd h v (.bool i)) : v = .bool i := by cases x; rfl
theorem Rd.tuple {ds : List PyData} (x : Rd h v (.tuple ds)) : ∃ a vs, v = .ref a ∧ IsTup h a vs.toArray ∧ RdAll h vs ds := by
  unfold Rd at x
  cases x with
  | tuple h1 h2 h3 h4 => rename_i a o vs n; exact ⟨a, vs.toList, rfl, ⟨o, h1, h2, n, by rw [h3, Array.toArray_toList]⟩, h4⟩
theorem Rd.mkInt (i : Int) (t : Tok) : Rd h (.int i t) (.int i) := Reads.int i t
theorem Rd.mkStr (i : Str) (t : Tok) : Rd h (.str i t) (.str i) := Reads.str i t
theorem RdAll.nil : RdAll h [] [] := ReadsAll.nil
theorem RdAll.cons {vs : List Value} {d : PyData} {ds : List PyData} (x : Rd h v d) (y : RdAll h vs ds) : RdAll h (v :: vs) (d :: ds) := ReadsAll.cons (as := []) (bs := []) x y
theorem RdAll.inv {vs : List Value} {d : PyData} {ds : List PyData} (x : RdAll h vs (d :: ds)) : ∃ v r, vs = v :: r ∧ Rd h v d ∧ RdAll h r ds := by
  unfold RdAll at x
  generalize e : ([] : List Addr) = as at x
  cases x with
  | cons a b => obtain ⟨e1, e2⟩ := List.append_eq_nil_iff.mp e.symm; subst e1 e2; exact ⟨_, _, rfl, a, b⟩
theorem RdAll.inv0 {vs : List Value} (x : RdAll h vs []) : vs = [] := by unfold RdAll at x; cases x; rfl
theorem RdAll.length : ∀ {ds : List PyData} {vs : List Value}, RdAll h vs ds → vs.length = ds.length
  | [], _, x => by rw [x.inv0]; rfl
  | d :: ds, _, x => by obtain ⟨v, r, rfl, _, y⟩ := x.inv; rw [List.length_cons, List.length_cons, y.length]
theorem RdAll.get : ∀ {ds : List PyData} {vs : List Value}, RdAll h vs ds → ∀ {i : Nat} {d : PyData}, ds[i]? = some d → ∃ v, vs[i]? = some v ∧ Rd h v d
  | [], _, x, i, d, e => by cases e
  | d :: ds, _, x, i, d', e => by
    obtain ⟨v, r, rfl, a, y⟩ := x.inv
    cases i with
    | zero => cases e; exact ⟨v, rfl, a⟩
    | succ i => exact y.get e
theorem RdAll.app : ∀ {ds : List PyData} {vs : List Value}, RdAll h vs ds → ∀ {ds' vs'}, RdAll h vs' ds' → RdAll h (vs ++ vs') (ds ++ ds')
  | [], _, x, _, _, y => by rw [x.inv0]; exact y
  | d :: ds, _, x, _, _, y => by obtain ⟨v, r, rfl, a, z⟩ := x.inv; exact .cons a (z.app y)
theorem RdAll.snoc {vs : List Value} {d : PyData} {ds : List PyData} (y : RdAll h vs ds) (x : Rd h v d) : RdAll h (vs ++ [v]) (ds ++ [d]) := y.app (.cons x .nil)
theorem RdAll.unsnoc : ∀ {ds : List PyData} {d : PyData} {vs : List Value}, RdAll h vs (ds ++ [d]) → ∃ r v, vs = r ++ [v] ∧ RdAll h r ds ∧ Rd h v d
  | [], d, vs, x => by obtain ⟨v, r, rfl, a, y⟩ := x.inv; rw [y.inv0]; exact ⟨[], v, rfl, .nil, a⟩
  | e :: ds, d, vs, x => by
    obtain ⟨v, r, rfl, a, y⟩ := x.inv
    obtain ⟨r', v', rfl, b, c⟩ := y.unsnoc
    exact ⟨v :: r', v', rfl, .cons a b, c⟩
theorem RdAll.set : ∀ {ds : List PyData} {vs : List Value}, RdAll h vs ds → ∀ {v d} (i : Nat), Rd h v d → RdAll h (vs.set i v) (ds.set i d)
  | [], _, x, _, _, i, _ => by rw [x.inv0]; exact .nil
  | e :: ds, _, x, v, d, i, y => by
    obtain ⟨u, r, rfl, a, z⟩ := x.inv
    cases i with
    | zero => exact .cons y z
    | succ i => exact .cons a (z.set i y)
theorem Rd.mkTup {a : Addr} {vs : List Value} {ds : List PyData} (x : IsTup h a vs.toArray) (y : RdAll h vs ds) : Rd h (.ref a) (.tuple ds) := by
  obtain ⟨o, h1, h2, n, h3⟩ := x
  exact Reads.tuple h1 h2 h3 (show ReadsAll h vs.toArray.toList ds [] from y)
end
section
variable {prog : Program} {w : World} {A : Around} {E : Value → Shared → Prop} {s₀ s : Shared} {B : Heap} {mu : List Addr} {L a : Addr} {m : Str → Option Value} {P P' : List (Addr × Bool × Tr)} {D : List (Value × PyData)}
  {env : Env}
theorem stS {x : Str} {v : Value} {Q : Unit → Shared → Prop} (S : SS prog w B s₀ mu L m P D s)
    (h : ∀ s', SS prog w B s₀ mu L (fun y => if y = x then some v else m y) P D s' → Q () s')
    (hk : EnvAt env L) (hl : env.kindOf x = some .local) : wpAny (model prog w) A (storeName env x v) Q E s :=
  by
  obtain rfl := hk.loc
  exact wpAny_storeName_local hl S.fr.ns (fun h' hn hs => h _ (S.to (S.st.names hn hs))) (by show (env.scope.kind == .class || (env.scope.kind == .module && env.locals != env.globals)) = false; rw [hk.kind]; rfl)
theorem ldS {x : Str} {v : Value} {Q : Value → Shared → Prop} (S : SS prog w B s₀ mu L m P D s) (hv : m x = some v) (h : Q v s) (hk : EnvAt env L) (hl : env.kindOf x = some .local) : wpAny (model prog w) A (loadName env x) Q E s := by
  obtain rfl := hk.loc
  exact wpAny_loadName_local hk.kind hl S.fr.ns hv h
theorem const_int {i : Int} {k : Nat} {pos : Pos} {env : Env} {Q : Value → Shared → Prop} (S : SS prog w B s₀ mu L m P D s) (h : ∀ t s', SS prog w B s₀ mu L m P D s' → Q (.int i t) s') :
    wpAny (model prog w) A (eval (.Constant (.int i) k pos) env) Q E s := wpAny_Constant_int (h _ _ S.toks)
theorem item_at {value slice : Expr} {v : Value} {ds : List PyData} {k : Nat} {i : Int} {t : Tok} {d : PyData} {Q : Value → Shared → Prop} (x : Rd s.heap v (.tuple ds)) (hi : i = (k : Int)) (hk : ds[k]? = some d)
    (h : ∀ u, Rd s.heap u d → Q u s) (hs : ∀ a, subscripted slice false (.ref a) (.int i t) = operate [.ref a, .int i t] (getItem (.ref a) (.int i t))) (hz : k < 100) :
    wpAny (model prog w) A (subscriptTail value slice v (.int i t)) Q E s := by
  subst hi
  obtain ⟨a, vs, rfl, y, z⟩ := x.tuple
  obtain ⟨u, hu, r⟩ := z.get hk
  have hlt : k < vs.length := (List.getElem?_eq_some_iff.mp hu).1
  exact item_tupleT y (by walk_at "o") (by walk_at "o") (j := k) (by unfold seqIndex?; simp; walk_at "o") hu (h u r) (hs a)
theorem item_rd {value slice : Expr} {v : Value} {ds : List PyData} {i : Int} {t : Tok} {d : PyData} {Q : Value → Shared → Prop} (S : SS prog w B s₀ mu L m P D s) (hm : (v, .tuple ds) ∈ D) (hi : 0 ≤ i ∧ i < 100) (hk : ds[i.toNat]? = some d)
    (h : ∀ u, SS prog w B s₀ mu L m P ((u, d) :: D) s → Q u s) (hs : ∀ a, subscripted slice false (.ref a) (.int i t) = operate [.ref a, .int i t] (getItem (.ref a) (.int i t))) :
    wpAny (model prog w) A (subscriptTail value slice v (.int i t)) Q E s := item_at (S.datum hm) (by walk_at "o") hk (fun u r => h u (S.know r)) hs (by walk_at "o")
theorem len_rd {v : Value} {ds : List PyData} {Q : Value → Shared → Prop} (S : SS prog w B s₀ mu L m P D s) (hm : (v, .tuple ds) ∈ D) (hz : ds.length < 1000) (h : ∀ t s', SS prog w B s₀ mu L m P D s' → Q (.int ds.length t) s') :
    wpAny (model prog w) A (call (.builtin "len") [v]) Q E s := by
  obtain ⟨a, vs, rfl, y, z⟩ := (S.datum hm).tuple
  have e := z.length
  refine len_tuple y (by rw [List.size_toArray]; walk_at "o") ?_
  rw [List.size_toArray, e]
  exact h _ _ S.toks
theorem newTuple_rd {vs : List Value} {ds : List PyData} {Q : Value → Shared → Prop} (S : SS prog w B s₀ mu L m P D s) (x : RdAll s.heap vs ds) (hz : ds.length < 1000)
    (h : ∀ v s', SS prog w B s₀ mu L m P ((v, .tuple ds) :: D) s' → Q v s') : wpAny (model prog w) A (newTuple vs) Q E s := by
  have e := x.length
  refine wpAny_newObj_type (h _ _ (S.to ((S.st.alloc _).know ?_))) (by show vs.toArray.size ≤ sizeLine; rw [List.size_toArray, e]; have : (1000 : Nat) ≤ sizeLine := (by decide); walk_at "o")
  exact Rd.mkTup ⟨_, Heap.get?_push_size _ rfl, rfl, 0, rfl⟩ (x.go fun b o e _ => Heap.get?_push_of_some _ e)
theorem newList_rd {vs : List Value} {ds : List PyData} {Q : Value → Shared → Prop} (S : SS prog w B s₀ mu L m P D s) (x : RdAll s.heap vs ds) (hz : ds.length < 1000)
    (h : ∀ a s', SS prog w B s₀ mu L m ((a, true, .ldat ds) :: P) D s' → Q (.ref a) s') : wpAny (model prog w) A (newList vs) Q E s := by
  have e := x.length
  exact wpAny_newObj_type (h _ _ (S.to (S.st.made ⟨vs, 0, Heap.get?_push_size _ rfl, x.go fun b o e _ => Heap.get?_push_of_some _ e⟩))) (by show vs.toArray.size ≤ sizeLine; rw [List.size_toArray, e]; have : (1000 : Nat) ≤ sizeLine := (by decide); walk_at "o")
theorem newList_any {vs : List Value} {Q : Value → Shared → Prop} (S : SS prog w B s₀ mu L m P D s) (hz : vs.length < 1000)
    (h : ∀ a s', SS prog w B s₀ mu L m ((a, true, .lst vs) :: P) D s' → Q (.ref a) s') : wpAny (model prog w) A (newList vs) Q E s :=
  wpAny_newObj_type (h _ _ (S.to (S.st.made ⟨0, Heap.get?_push_size _ rfl⟩))) (by show vs.toArray.size ≤ sizeLine; rw [List.size_toArray]; have : (1000 : Nat) ≤ sizeLine := (by decide); walk_at "o")
theorem getItem_ld {b : Bool} {ds : List PyData} {k : Int} {t : Tok} {d : PyData} {Q : Value → Shared → Prop} (S : SS prog w B s₀ mu L m P D s) (hm : (a, b, .ldat ds) ∈ P) (h0 : 0 ≤ k) (h1 : k < 2 ^ 63) (hk : ds[k.toNat]? = some d)
    (h : ∀ u, SS prog w B s₀ mu L m P ((u, d) :: D) s → Q u s) : wpAny (model prog w) A (getItem (.ref a) (.int k t)) Q E s := by
  obtain ⟨vs, n, x, z⟩ := S.get hm
  obtain ⟨u, hu, r⟩ := z.get hk
  exact wpAny_getItem_list x.isList h0 h1 (by simpa using hu) (h u (S.know r))
theorem item_ld {b : Bool} {value slice : Expr} {ds : List PyData} {k : Int} {t : Tok} {d : PyData} {Q : Value → Shared → Prop} (S : SS prog w B s₀ mu L m P D s) (hm : (a, b, .ldat ds) ∈ P) (h0 : 0 ≤ k) (h1 : k < 2 ^ 63) (hk : ds[k.toNat]? = some d)
    (h : ∀ u, SS prog w B s₀ mu L m P ((u, d) :: D) s → Q u s) (hs : subscripted slice false (.ref a) (.int k t) = operate [.ref a, .int k t] (getItem (.ref a) (.int k t))) :
    wpAny (model prog w) A (subscriptTail value slice (.ref a) (.int k t)) Q E s := by
  obtain ⟨vs, n, x, z⟩ := S.get hm
  exact tail_any x.isList.typeIs slot_list_getitem.lookup (getItem_ld S hm h0 h1 hk h) hs
theorem item_ls {b : Bool} {value slice : Expr} {vs : List Value} {k : Int} {t : Tok} {v : Value} {Q : Value → Shared → Prop} (S : SS prog w B s₀ mu L m P D s) (hm : (a, b, .lst vs) ∈ P) (h0 : 0 ≤ k) (h1 : k < 2 ^ 63) (hk : vs[k.toNat]? = some v)
    (h : Q v s) (hs : subscripted slice false (.ref a) (.int k t) = operate [.ref a, .int k t] (getItem (.ref a) (.int k t))) :
    wpAny (model prog w) A (subscriptTail value slice (.ref a) (.int k t)) Q E s := by
  obtain ⟨n, x⟩ := S.get hm
  exact tail_any x.isList.typeIs slot_list_getitem.lookup (wpAny_getItem_list x.isList h0 h1 (by simpa using hk) h) hs
theorem set_mapSeq {h : Heap} {vs : List Value} {n k : Nat} {v : Value} (x : IsL h a vs.toArray n) : IsL (h.update a (Obj.mapSeq (·.setIfInBounds k v))) a (vs.set k v).toArray n := by
  have q := x.update (·.setIfInBounds k v)
  have e : vs.toArray.setIfInBounds k v = (vs.set k v).toArray := by apply Array.toList_inj.mp; simp
  rw [e] at q
  simpa using q
theorem setItem_ls {vs : List Value} {k : Int} {t : Tok} {v : Value} {Q : Unit → Shared → Prop} (S : SS prog w B s₀ mu L m P D s) (U : Put a true true (.lst vs) (.lst (vs.set k.toNat v)) P P') (h0 : 0 ≤ k) (h1 : k < 2 ^ 63) (hk : k < vs.length)
    (h : ∀ s', SS prog w B s₀ mu L m P' D s' → Q () s') : wpAny (model prog w) A (setItem (.ref a) (.int k t) v) Q E s := by
  obtain ⟨n, x⟩ := S.get U.mem
  exact ki_setAt x h0 h1 (by rw [List.size_toArray]; exact hk) (h _ (S.to (S.st.turn U ⟨n, set_mapSeq x⟩ (Heap.SameBut.update ..))))
theorem setItem_ld {ds : List PyData} {k : Int} {t : Tok} {v : Value} {d : PyData} {Q : Unit → Shared → Prop} (S : SS prog w B s₀ mu L m P D s) (U : Put a true true (.ldat ds) (.ldat (ds.set k.toNat d)) P P') (r : Rd s.heap v d) (h0 : 0 ≤ k) (h1 : k < 2 ^ 63) (hk : k < ds.length)
    (h : ∀ s', SS prog w B s₀ mu L m P' D s' → Q () s') : wpAny (model prog w) A (setItem (.ref a) (.int k t) v) Q E s := by
  obtain ⟨vs, n, x, z⟩ := S.get U.mem
  have e := z.length
  have kt := tup_keep1 x (fun q => absurd (Value.type.inj q.1) (by decide)) (Go.same (Heap.SameBut.update s.heap a (Obj.mapSeq (·.setIfInBounds k.toNat v))))
  exact ki_setAt x h0 h1 (by rw [List.size_toArray, e]; exact hk) (h _ (S.to (S.st.turn U ⟨_, n, set_mapSeq x, (z.set k.toNat r).go kt⟩ (Heap.SameBut.update ..))))
theorem len_ld {b : Bool} {ds : List PyData} {Q : Value → Shared → Prop} (S : SS prog w B s₀ mu L m P D s) (hm : (a, b, .ldat ds) ∈ P) (hz : ds.length < 2 ^ 30) (h : ∀ t s', SS prog w B s₀ mu L m P D s' → Q (.int ds.length t) s') :
    wpAny (model prog w) A (call (.builtin "len") [.ref a]) Q E s := by
  obtain ⟨vs, n, x, z⟩ := S.get hm
  have e := z.length
  refine call_len_list x.isList (by rw [List.size_toArray]; walk_at "o") ?_
  rw [List.size_toArray, e]
  exact h _ _ S.toks
theorem append_ld {ds : List PyData} {v : Value} {d : PyData} {Q : Value → Shared → Prop} (S : SS prog w B s₀ mu L m P D s) (U : Put a true true (.ldat ds) (.ldat (ds ++ [d])) P P') (r : Rd s.heap v d) (hz : ds.length < 2 ^ 20)
    (h : ∀ s', SS prog w B s₀ mu L m P' D s' → Q .none s') : wpAny (model prog w) A (call (.builtin "list.append") [.ref a, v]) Q E s := by
  obtain ⟨vs, n, x, z⟩ := S.get U.mem
  have e := z.length
  refine append_at x (fun h' hs ho => h _ (S.to (S.st.turn U ⟨vs ++ [v], n + 1, ?_, ?_⟩ hs))) (by rw [List.size_toArray, e]; have : (2 ^ 20 : Nat) ≤ sizeLine := (by decide); walk_at "o")
  · show h'.get? a = _
    rw [ho]; simp
  · exact (z.snoc r).go (tup_keep1 x (fun q => absurd (Value.type.inj q.1) (by decide)) (Go.same hs))
theorem method_ld {b : Bool} {ds : List PyData} {name : Str} {id : String} {pl : Sem Bool} {Q : Value × List Value → Shared → Prop} (S : SS prog w B s₀ mu L m P D s) (hm : (a, b, .ldat ds) ∈ P) (slot : Slot "list" name id) (hty : typeOf (.builtin id) = pure (.type "method_descriptor"))
    (h : Q (.builtin id, [.ref a]) s) : wpAny (model prog w) A (getMethod (.ref a) name pl) Q E s := by
  obtain ⟨vs, n, x, z⟩ := S.get hm
  exact getMethod_builtin ⟨_, x, rfl⟩ PySem.F.plainAttrs_list slot hty (fun a e => by cases e; exact ⟨_, x, rfl⟩) h
theorem pop_ld {ds : List PyData} {d : PyData} {Q : Value → Shared → Prop} (S : SS prog w B s₀ mu L m P D s) (U : Put a true true (.ldat (ds ++ [d])) (.ldat ds) P P') (hz : ds.length < 2 ^ 20)
    (h : ∀ v s', SS prog w B s₀ mu L m P' ((v, d) :: D) s' → Q v s') : wpAny (model prog w) A (call (.builtin "list.pop") [.ref a]) Q E s := by
  obtain ⟨vs, n, x, z⟩ := S.get U.mem
  have e := z.length
  obtain ⟨r, v, rfl, zr, rv⟩ := z.unsnoc
  have hk : (r ++ [v]).toArray.size - 1 = r.length := by simp
  have hy : (r ++ [v]).toArray[(r ++ [v]).toArray.size - 1]? = some v := by rw [hk]; simp
  have hz' : (r ++ [v]).toArray.size ≤ sizeLine := by rw [List.size_toArray, e]; have : (2 ^ 21 : Nat) ≤ sizeLine := (by decide); simp; walk_at "o"
  have hs : Heap.SameBut a s.heap (s.heap.update a (Obj.mapSeq fun xs => xs.eraseIdxIfInBounds ((r ++ [v]).toArray.size - 1))) := Heap.SameBut.update ..
  have kt := tup_keep1 x (fun q => absurd (Value.type.inj q.1) (by decide)) (Go.same hs)
  refine call_meets PySem.F.slot_list_pop ⟨_, x, rfl⟩ PySem.F.entry_list_pop (PySem.F.args_list_pop_1 _) (PySem.MeetsSeq.list_pop_last a _ n v hy hz') ⟨x, h _ _ (S.to ((S.st.turn U ⟨r, n + 1, ?_, zr.go kt⟩ hs).know (rv.go kt)))⟩
  have q := x.update fun xs => xs.eraseIdxIfInBounds ((r ++ [v]).toArray.size - 1)
  have e1 : (r ++ [v]).toArray.eraseIdxIfInBounds ((r ++ [v]).toArray.size - 1) = r.toArray := by
    rw [hk]
    have := kl_erase r [] v
    rwa [List.append_nil] at this
  rw [e1] at q
  rw [if_neg (by simp)] at q
  exact q
end
end
section
noncomputable def adr : Value → Addr | .ref a => a | _ => 0
section
variable {prog : Program} {w : World} {A : Around} {s₀ s : Shared} {B : Heap} {mu : List Addr} {L : Addr} {m : Str → Option Value} {P P' : List (Addr × Bool × Tr)} {D : List (Value × PyData)} {env : Env}
noncomputable def WEnd (I : Nat → Shared → Prop) (n : Nat) (Q : Flow → Shared → Prop) (f : Flow) (s₃ : Shared) : Prop := match f with
  | .next | .cont => ∃ n', n' < n ∧ I n' s₃
  | .brk => Q .next s₃
  | .ret v => Q (.ret v) s₃
theorem While_ {E : Value → Shared → Prop} {test : Expr} {body : List Stmt} {pos : Pos} {Q : Flow → Shared → Prop} (I : Nat → Shared → Prop) {n₀ : Nat} (start : I n₀ s)
    (turn : ∀ n s', I n s' → wpAny (model prog w) A (isTrue test env (eval test env)) (fun b s₂ =>
        if b = true then wpAny (model prog w) A (execs body env) (WEnd I n Q) (fun _ _ => False) s₂ else Q .next s₂) (fun _ _ => False) s') :
    wpAny (model prog w) A (exec (.While test body [] pos) env) Q E s := by
  refine wpAny_While (codeAny_whileLoop I ?_ n₀ start)
  intro n s' hI
  refine wpAny_mono (turn n s' hI) (fun b s₂ h₂ => ?_) fun _ _ x => x.elim
  cases b with
  | false =>
    simp only [Bool.false_eq_true, if_false] at h₂ ⊢
    exact wpAny_execs_nil h₂
  | true =>
    simp only [if_true] at h₂ ⊢
    refine wpAny_mono h₂ (fun f s₃ h₃ => ?_) fun _ _ x => x.elim
    cases f with
    | next => exact h₃
    | cont => exact h₃
    | brk => exact h₃
    | ret v => exact h₃
structure Src (prog : Program) (w : World) (A : Around) (It : Addr) (n : Nat) (dat : Nat → PyData) (isIt : Nat → Obj → Prop) (src : Heap → Prop) : Prop where
  item : ∀ i (s : Shared) (Q : Option Value → Shared → Prop) (E : Value → Shared → Prop), i < n → (Tr.is (isIt i)).At prog w s.heap It → src s.heap →
    (∀ v h' tk, Rd h' v (dat i) → (Tr.is (isIt (i + 1))).At prog w h' It → Go [It] s.heap h' → Q (some v) { s with heap := h', toks := tk }) → wpAny (model prog w) A (pyNext (.ref It)) Q E s
  done : ∀ (s : Shared) (Q : Option Value → Shared → Prop) (E : Value → Shared → Prop), (Tr.is (isIt n)).At prog w s.heap It → src s.heap →
    (∀ h' tk, Go [It] s.heap h' → Q none { s with heap := h', toks := tk }) → wpAny (model prog w) A (pyNext (.ref It)) Q E s
noncomputable def ItTup (t : Addr) (i : Nat) (o : Obj) : Prop := o.cls = .type "tuple_iterator" ∧ o.data = .fields #[.ref t, .int i 0]
noncomputable def ItList (t : Addr) (i : Nat) (o : Obj) : Prop := o.cls = .type "list_iterator" ∧ o.data = .fields #[.ref t, .int i 0]
noncomputable def ItRange (a c : Int) (n : Nat) (i : Nat) (o : Obj) : Prop := o = { cls := .type "range_iterator", dict := none, data := .fields #[rawInt (a + (i : Nat) * c), rawInt ((n : Int) - (i : Nat)), rawInt c], slots := #[] }
theorem isIt_tup {h : Heap} {It t : Addr} {i : Nat} : (Tr.is (ItTup t i)).At prog w h It ↔ h.IsTupleIter It t i :=
  ⟨fun ⟨o, a, _, c, d⟩ => ⟨o, a, c, d⟩, fun ⟨o, a, c, d⟩ => ⟨o, a, fun q => absurd (c.symm.trans q.1) (by decide), c, d⟩⟩
theorem isIt_list {h : Heap} {It t : Addr} {i : Nat} : (Tr.is (ItList t i)).At prog w h It ↔ h.IsListIter It t i :=
  ⟨fun ⟨o, a, _, c, d⟩ => ⟨o, a, c, d⟩, fun ⟨o, a, c, d⟩ => ⟨o, a, fun q => absurd (c.symm.trans q.1) (by decide), c, d⟩⟩
theorem isIt_range {h : Heap} {It : Addr} {a c : Int} {n i : Nat} : (Tr.is (ItRange a c n i)).At prog w h It ↔ IsRangeIter h It (a + (i : Nat) * c) ((n : Int) - (i : Nat)) c :=
  ⟨fun ⟨o, x, _, e⟩ => by rw [ItRange] at e; subst e; exact x, fun x => ⟨_, x, fun q => absurd (Value.type.inj q.1) (by decide), rfl⟩⟩
theorem go_one {wr : List Addr} {It : Addr} {h h' : Heap} (hw : ∀ b ∈ wr, b = It) (k : ∀ b o, b ∉ wr → h.get? b = some o → h'.get? b = some o) : Go [It] h h' :=
  ⟨fun b o e n => k b o (fun q => n (List.mem_singleton.mpr (hw b q))) e⟩
theorem Src.tuple {It t : Addr} {ds : List PyData} (hh : A.handled = none) (hne : t ≠ It) :
    Src prog w A It ds.length (fun i => ds.getD i .none) (ItTup t) (fun h => Rd h (.ref t) (.tuple ds)) where
  item := fun i s Q E hi st hx hQ => by
    obtain ⟨_, vs, e0, ht, hr⟩ := hx.tuple
    cases e0
    have W := Walks.tuple (prog := prog) (w := w) hh It t hne vs.toArray
    have e := hr.length
    refine W.item i s Q E (by rw [List.size_toArray, e]; exact hi) ⟨isIt_tup.mp st, ht⟩ fun v h' tk hP hS hk => ?_
    have g : Go [It] s.heap h' := go_one (fun b q => List.mem_singleton.mp q) hk
    obtain ⟨oi, e1, hn, _⟩ := st
    refine hQ v h' tk ?_ (isIt_tup.mpr hS.1) g
    have hd : ds[i]? = some ds[i] := List.getElem?_eq_getElem hi
    obtain ⟨u, hu, r⟩ := hr.get hd
    have : u = v := by
      have hP' : vs.toArray[i]? = some v := hP
      simp at hP'
      rw [hP'] at hu; cases hu; rfl
    subst this
    show Rd h' u (ds.getD i .none)
    rw [List.getD_eq_getElem?_getD, hd]
    exact r.go (tup_keep1 e1 hn g)
  done := fun s Q E st hx hQ => by
    obtain ⟨_, vs, e0, ht, hr⟩ := hx.tuple
    cases e0
    have W := Walks.tuple (prog := prog) (w := w) hh It t hne vs.toArray
    have e := hr.length
    refine W.done s Q E ⟨by rw [List.size_toArray, e]; exact isIt_tup.mp st, ht⟩ fun h' tk hk => hQ h' tk (go_one (fun b q => List.mem_singleton.mp q) hk)
theorem Src.list {It l : Addr} {ds : List PyData} (hh : A.handled = none) (hne : l ≠ It) :
    Src prog w A It ds.length (fun i => ds.getD i .none) (ItList l) (fun h => (Tr.ldat ds).At prog w h l) where
  item := fun i s Q E hi st hx hQ => by
    obtain ⟨vs, n, ht, hr⟩ := hx
    replace ht := IsL.isList ht
    have W := Walks.list (prog := prog) (w := w) hh It l hne vs.toArray
    have e := hr.length
    refine W.item i s Q E (by rw [List.size_toArray, e]; exact hi) ⟨isIt_list.mp st, ht⟩ fun v h' tk hP hS hk => ?_
    have g : Go [It] s.heap h' := go_one (fun b q => List.mem_singleton.mp q) hk
    obtain ⟨oi, e1, hn, _⟩ := st
    refine hQ v h' tk ?_ (isIt_list.mpr hS.1) g
    have hd : ds[i]? = some ds[i] := List.getElem?_eq_getElem hi
    obtain ⟨u, hu, r⟩ := hr.get hd
    have : u = v := by
      have hP' : vs.toArray[i]? = some v := hP
      simp at hP'
      rw [hP'] at hu; cases hu; rfl
    subst this
    show Rd h' u (ds.getD i .none)
    rw [List.getD_eq_getElem?_getD, hd]
    exact r.go (tup_keep1 e1 hn g)
  done := fun s Q E st hx hQ => by
    obtain ⟨vs, n, ht, hr⟩ := hx
    replace ht := IsL.isList ht
    have W := Walks.list (prog := prog) (w := w) hh It l hne vs.toArray
    have e := hr.length
    refine W.done s Q E ⟨by rw [List.size_toArray, e]; exact isIt_list.mp st, ht⟩ fun h' tk hk => hQ h' tk (go_one (fun b q => List.mem_singleton.mp q) hk)
theorem Src.range {It : Addr} {a c : Int} {n : Nat} (hh : A.handled = none) :
    Src prog w A It n (fun i => .int (a + (i : Nat) * c)) (ItRange a c n) (fun _ => True) where
  item := fun i s Q E hi st _ hQ => by
    have W := Walks.range (prog := prog) (w := w) hh It a c n
    refine W.item i s Q E hi (isIt_range.mp st) fun v h' tk hP hS hk => ?_
    have g : Go [It] s.heap h' := go_one (fun b q => List.mem_singleton.mp q) hk
    obtain ⟨t, rfl⟩ := hP
    exact hQ _ h' tk (Rd.mkInt _ _) (isIt_range.mpr hS) g
  done := fun s Q E st _ hQ => by
    have W := Walks.range (prog := prog) (w := w) hh It a c n
    refine W.done s Q E (isIt_range.mp st) fun h' tk hk => hQ h' tk (go_one (fun b q => List.mem_singleton.mp q) hk)
noncomputable def FEnd (prog : Program) (w : World) (B : Heap) (s₀ : Shared) (mu : List Addr) (L : Addr) (It : Addr) (t : Tr) (J : (Str → Option Value) → List (Addr × Bool × Tr) → List (Value × PyData) → Prop) (Q : Flow → Shared → Prop) (f : Flow) (s₃ : Shared) : Prop := match f with
  | .next | .cont => ∃ m P D, J m P D ∧ SS prog w B s₀ mu L m ((It, true, t) :: P) D s₃
  | .brk => Q .next s₃
  | .ret v => Q (.ret v) s₃
theorem forLoop_ {env : Env} {x : Str} {px : Pos} {body : List Stmt} {R : Result → Shared → Prop} {Q : Flow → Shared → Prop} {It : Addr} {n : Nat} {dat : Nat → PyData} {isIt : Nat → Obj → Prop} {src : Heap → Prop}
    (W : Src prog w A It n dat isIt src) (J : Nat → (Str → Option Value) → List (Addr × Bool × Tr) → List (Value × PyData) → Prop)
    (hsrc : ∀ i m P D s', J i m P D → SS prog w B s₀ mu L m ((It, true, .is (isIt i)) :: P) D s' → src s'.heap)
    (S : SS prog w B s₀ mu L m ((It, true, .is (isIt 0)) :: P) D s) (j0 : J 0 m P D)
    (turn : ∀ i v m P D s', i < n → J i m P D → SS prog w B s₀ mu L (fun y => if y = x then some v else m y) ((It, true, .is (isIt (i + 1))) :: P) ((v, dat i) :: D) s' →
      wpAny (model prog w) A (execs body env) (FEnd prog w B s₀ mu L It (.is (isIt (i + 1))) (J (i + 1)) Q) (fun _ _ => False) s')
    (done : ∀ m P D s', J n m P D → SS prog w B s₀ mu L m P D s' → Q .next s')
    (hR : ∀ f s', Q f s' → R (.ok f) s') (hk : EnvAt env L) (hl : env.kindOf x = some .local)
    (hb : ∀ v s' (Q : Unit → Shared → Prop) (E : Value → Shared → Prop), Q () s' → wpAny (model prog w) A (letOwnedTupleGo (.Name x px) (.ref It) v) Q E s') :
    codeAny (model prog w) A (.forLoop (.Name x px) (.ref It) body [] env) R s := by
  refine codeAny_forLoop_any (fun k s' => ∃ i m P D, k = n - i ∧ i ≤ n ∧ J i m P D ∧ SS prog w B s₀ mu L m ((It, true, .is (isIt i)) :: P) D s') ?_ n
    ⟨0, m, P, D, rfl, Nat.zero_le _, j0, S⟩
  rintro k s' ⟨i, m, P, D, rfl, hi, hJ, S⟩
  have hs := hsrc i m P D s' hJ S
  have st := S.get (.head _)
  by_cases hlt : i < n
  · refine W.item i _ _ _ hlt st hs fun v h' tk' r st' g => ?_
    refine hb _ _ _ _ ?_
    refine wpAny_assign_Name ?_
    have S' := S.to (tk := tk') ((S.st.back1 .head g st').know r)
    refine stS S' (fun s'' S'' => ?_) hk hl
    refine wpAny_mono (turn i v m P D s'' hlt hJ S'') (fun f s₃ q => ?_) fun _ _ x => x.elim
    cases f with
    | next => obtain ⟨m, P, D, j, S⟩ := q; exact ⟨n - (i + 1), by walk_at "o", i + 1, m, P, D, rfl, by walk_at "o", j, S⟩
    | cont => obtain ⟨m, P, D, j, S⟩ := q; exact ⟨n - (i + 1), by walk_at "o", i + 1, m, P, D, rfl, by walk_at "o", j, S⟩
    | brk => exact hR _ _ q
    | ret v => exact hR _ _ q
  · obtain rfl : i = n := by walk_at "o"
    refine W.done _ _ _ st hs fun h' tk' g => ?_
    exact wpAny_execs_nil (hR _ _ (done m P D _ hJ (S.to (S.st.gone g))))
noncomputable abbrev ForR (prog : Program) (w : World) (A : Around) (env : Env) (E : Value → Shared → Prop) (Q : Flow → Shared → Prop) : Result → Shared → Prop := fun r s' => match r with | .ok f => Q f s' | .error e => cameBackBy (model prog w) A env E e s'
theorem SS.iter (S : SS prog w B s₀ mu L m P D s) {o : Obj} {t : Tr} {tk : Nat} (x : t.At prog w (s.heap.push o) s.heap.objs.size) : SS prog w B s₀ mu L m ((s.heap.objs.size, true, t) :: P) D ⟨s.heap.push o, s.gens, s.drawn, tk, s.os⟩ := S.to (S.st.made x)
section
variable {env : Env} {x : Str} {px : Pos} {body : List Stmt} {E E' : Value → Shared → Prop} {Q : Flow → Shared → Prop}
theorem go_name {A : Around} {It : Addr} (v : Value) (s' : Shared) (Q : Unit → Shared → Prop) (E : Value → Shared → Prop) (h : Q () s') : wpAny (model prog w) A (letOwnedTupleGo (.Name x px) (.ref It) v) Q E s' := wpAny_pure h
theorem iter_tuple {v : Value} {ds : List PyData} (hh : A.handled = none) (S : SS prog w B s₀ mu L m P D s) (hv : (v, .tuple ds) ∈ D) (J : Nat → (Str → Option Value) → List (Addr × Bool × Tr) → List (Value × PyData) → Prop)
    (j0 : J 0 m P D) (hJ : ∀ i m P D, J i m P D → (v, .tuple ds) ∈ D)
    (turn : ∀ I i u d m P D s', ds[i]? = some d → J i m P D → SS prog w B s₀ mu L (fun y => if y = x then some u else m y) ((I, true, .is (ItTup (adr v) (i + 1))) :: P) ((u, d) :: D) s' →
      wpAny (model prog w) A (execs body env) (FEnd prog w B s₀ mu L I (.is (ItTup (adr v) (i + 1))) (J (i + 1)) Q) (fun _ _ => False) s')
    (done : ∀ m P D s', J ds.length m P D → SS prog w B s₀ mu L m P D s' → Q .next s')
    (hk : EnvAt env L) (hl : env.kindOf x = some .local) :
    wpAny (model prog w) A (pyIter v) (fun it s₂ => codeAny (model prog w) A (.forLoop (.Name x px) it body [] env) (ForR prog w A env E Q) s₂) E' s := by
  obtain ⟨t, vs, rfl, ht, hr⟩ := (S.datum hv).tuple
  have ht' : s.heap.IsTuple t vs.toArray := ht
  obtain ⟨ot, eo, _⟩ := id ht
  have ne : t ≠ s.heap.objs.size := Nat.ne_of_lt (Heap.lt_size eo)
  refine wpAny_pyIter_tuple ht' ?_
  refine forLoop_ (Src.tuple hh ne) J (fun i m P D h j S => S.datum (hJ i m P D j)) (S.iter (isIt_tup.mpr ⟨_, Heap.get?_push_size _ rfl, rfl, rfl⟩)) j0 ?_ done (fun _ _ q => q) hk hl fun v s' Q E => go_name v s' Q E
  intro i u m P D s' hi j S
  exact turn _ i u _ m P D s' (by rw [List.getD_eq_getElem?_getD, List.getElem?_eq_getElem hi]; rfl) j S
theorem iter_list {a : Addr} {b : Bool} {ds : List PyData} (hh : A.handled = none) (S : SS prog w B s₀ mu L m P D s) (hv : (a, b, .ldat ds) ∈ P) (J : Nat → (Str → Option Value) → List (Addr × Bool × Tr) → List (Value × PyData) → Prop)
    (j0 : J 0 m P D) (hJ : ∀ i m P D, J i m P D → (a, b, .ldat ds) ∈ P)
    (turn : ∀ I i u d m P D s', ds[i]? = some d → J i m P D → SS prog w B s₀ mu L (fun y => if y = x then some u else m y) ((I, true, .is (ItList a (i + 1))) :: P) ((u, d) :: D) s' →
      wpAny (model prog w) A (execs body env) (FEnd prog w B s₀ mu L I (.is (ItList a (i + 1))) (J (i + 1)) Q) (fun _ _ => False) s')
    (done : ∀ m P D s', J ds.length m P D → SS prog w B s₀ mu L m P D s' → Q .next s')
    (hk : EnvAt env L) (hl : env.kindOf x = some .local) :
    wpAny (model prog w) A (pyIter (.ref a)) (fun it s₂ => codeAny (model prog w) A (.forLoop (.Name x px) it body [] env) (ForR prog w A env E Q) s₂) E' s := by
  obtain ⟨vs, n, ht, hr⟩ := S.get hv
  have ne : a ≠ s.heap.objs.size := Nat.ne_of_lt (Heap.lt_size ht)
  refine wpAny_pyIter_list ht.isList ?_
  refine forLoop_ (Src.list hh ne) J (fun i m P D h j S => S.get (.tail _ (hJ i m P D j))) (S.iter (isIt_list.mpr ⟨_, Heap.get?_push_size _ rfl, rfl, rfl⟩)) j0 ?_ done (fun _ _ q => q) hk hl fun v s' Q E => go_name v s' Q E
  intro i u m P D s' hi j S
  exact turn _ i u _ m P D s' (by rw [List.getD_eq_getElem?_getD, List.getElem?_eq_getElem hi]; rfl) j S
end
end
end
section
noncomputable def kget (kds : List (Int × PyData)) (k : Int) : Option PyData := (kds.find? fun kv => kv.1 = k).map (·.2)
noncomputable def kput (kds : List (Int × PyData)) (k : Int) (d : PyData) : List (Int × PyData) := if kds.any (fun kv => kv.1 = k) then kds.map (fun kv => if kv.1 = k then (kv.1, d) else kv) else kds ++ [(k, d)]
section
variable {h : Heap}
theorem kv_cons {kv : Int × Value} {kvs : List (Int × Value)} {kds : List (Int × PyData)} (e : (kv :: kvs).map (·.1) = kds.map (·.1)) (r : RdAll h ((kv :: kvs).map (·.2)) (kds.map (·.2))) :
    ∃ d ds, kds = (kv.1, d) :: ds ∧ Rd h kv.2 d ∧ kvs.map (·.1) = ds.map (·.1) ∧ RdAll h (kvs.map (·.2)) (ds.map (·.2)) := by
  cases kds with
  | nil => cases e
  | cons x ds =>
    obtain ⟨k, d⟩ := x
    simp only [List.map_cons, List.cons.injEq] at e r
    obtain ⟨v, l, e1, r1, r2⟩ := r.inv
    cases e1
    exact ⟨d, ds, by rw [e.1], r1, e.2, r2⟩
theorem kv_get {k : Int} : ∀ {kvs : List (Int × Value)} {kds : List (Int × PyData)}, kvs.map (·.1) = kds.map (·.1) → RdAll h (kvs.map (·.2)) (kds.map (·.2)) →
    (valueAt kvs k = none ∧ kget kds k = none) ∨ ∃ v d, valueAt kvs k = some v ∧ kget kds k = some d ∧ Rd h v d
  | [], kds, e, _ => by cases kds with | nil => exact .inl ⟨rfl, rfl⟩ | cons x l => cases e
  | kv :: kvs, kds, e, r => by
    obtain ⟨d, ds, rfl, r1, e2, r2⟩ := kv_cons e r
    by_cases hk : kv.1 = k
    · exact .inr ⟨kv.2, d, by simp [valueAt, hk], by simp [kget, hk], r1⟩
    · rcases kv_get (k := k) e2 r2 with ⟨a, b⟩ | ⟨v, d, a, b, c⟩
      · exact .inl ⟨by simp only [valueAt, List.find?_cons, hk, decide_false] at a ⊢; exact a, by simp only [kget, List.find?_cons, hk, decide_false] at b ⊢; exact b⟩
      · exact .inr ⟨v, d, by simp only [valueAt, List.find?_cons, hk, decide_false] at a ⊢; exact a, by simp only [kget, List.find?_cons, hk, decide_false] at b ⊢; exact b, c⟩
theorem kv_any {k : Int} : ∀ {kvs : List (Int × Value)} {kds : List (Int × PyData)}, kvs.map (·.1) = kds.map (·.1) → kvs.any (fun kv => kv.1 = k) = kds.any fun kv => kv.1 = k
  | [], [], _ => rfl
  | [], _ :: _, e => by cases e
  | _ :: _, [], e => by cases e
  | a :: l, b :: l', e => by
    simp only [List.map_cons, List.cons.injEq] at e
    simp only [List.any_cons, e.1, kv_any (k := k) e.2]
theorem kv_map {k : Int} {v : Value} {d : PyData} (rv : Rd h v d) : ∀ {kvs : List (Int × Value)} {kds : List (Int × PyData)}, kvs.map (·.1) = kds.map (·.1) → RdAll h (kvs.map (·.2)) (kds.map (·.2)) →
    (kvs.map (fun kv => if kv.1 = k then (kv.1, v) else kv)).map (·.1) = (kds.map (fun kv => if kv.1 = k then (kv.1, d) else kv)).map (·.1) ∧
    RdAll h ((kvs.map (fun kv => if kv.1 = k then (kv.1, v) else kv)).map (·.2)) ((kds.map (fun kv => if kv.1 = k then (kv.1, d) else kv)).map (·.2))
  | [], kds, e, _ => by cases kds with | nil => exact ⟨rfl, .nil⟩ | cons x l => cases e
  | kv :: kvs, kds, e, r => by
    obtain ⟨d', ds, rfl, r1, e2, r2⟩ := kv_cons e r
    obtain ⟨a, b⟩ := kv_map (k := k) rv e2 r2
    by_cases hk : kv.1 = k
    · simp only [List.map_cons, hk, if_true]; exact ⟨by rw [a], .cons rv b⟩
    · simp only [List.map_cons, hk, if_false]; exact ⟨by rw [a], .cons r1 b⟩
theorem kv_put {k : Int} {v : Value} {d : PyData} {kvs : List (Int × Value)} {kds : List (Int × PyData)} (e : kvs.map (·.1) = kds.map (·.1)) (r : RdAll h (kvs.map (·.2)) (kds.map (·.2))) (rv : Rd h v d) :
    (stored kvs k v).map (·.1) = (kput kds k d).map (·.1) ∧ RdAll h ((stored kvs k v).map (·.2)) ((kput kds k d).map (·.2)) := by
  unfold stored kput
  rw [kv_any e]
  split
  · exact kv_map rv e r
  · rw [List.map_append, List.map_append, List.map_append, List.map_append, e]
    exact ⟨rfl, r.snoc rv⟩
end
section
variable {prog : Program} {w : World} {A : Around} {E : Value → Shared → Prop} {s₀ s : Shared} {B : Heap} {mu : List Addr} {L a : Addr} {m : Str → Option Value} {P P' : List (Addr × Bool × Tr)} {D : List (Value × PyData)} {b : Bool}
theorem isKey (i : Int) (t : Tok) : (intKind prog w).is i (.int i t) = true := by show (i == i) = true; exact beq_self_eq_true i
theorem dict_new {env : Env} {pos : Pos} {Q : Value → Shared → Prop} (S : SS prog w B s₀ mu L m P D s) (hB : B.NoLimit)
    (h : ∀ a s', SS prog w B s₀ mu L m ((a, true, .ddat []) :: P) D s' → Q (.ref a) s') : wpAny (model prog w) A (eval (.Dict [] [] pos) env) Q E s :=
  wpAny_Dict_empty (h _ _ (S.to (S.st.made ⟨S.fr.notModules (modules_low hB), [], Heap.DictOf.new s.heap, rfl, .nil⟩)))
theorem dict_in {kds : List (Int × PyData)} {k : Int} {t : Tok} {Q : Value → Shared → Prop} (S : SS prog w B s₀ mu L m P D s) (hm : (a, b, .ddat kds) ∈ P)
    (h : ∀ s', SS prog w B s₀ mu L m P D s' → Q (.bool (kget kds k).isSome) s') : wpAny (model prog w) A (compareOp .In (.int k t) (.ref a)) Q E s := by
  obtain ⟨f, kvs, x, e, r⟩ := S.get hm
  refine wpAny_in_of (isKey k t) f x.mapOf ?_
  rcases kv_get (k := k) e r with ⟨u, v⟩ | ⟨v, d, u, v, _⟩ <;> rw [u] <;> have q := h _ (S.toks (tk := s.toks + 1)) <;> rw [v] at q <;> exact q
theorem dict_notIn {kds : List (Int × PyData)} {k : Int} {t : Tok} {Q : Value → Shared → Prop} (S : SS prog w B s₀ mu L m P D s) (hm : (a, b, .ddat kds) ∈ P)
    (h : ∀ s', SS prog w B s₀ mu L m P D s' → Q (.bool (!(kget kds k).isSome)) s') : wpAny (model prog w) A (compareOp .NotIn (.int k t) (.ref a)) Q E s := by
  obtain ⟨f, kvs, x, e, r⟩ := S.get hm
  refine wpAny_notIn_of (isKey k t) f x.mapOf ?_
  rcases kv_get (k := k) e r with ⟨u, v⟩ | ⟨v, d, u, v, _⟩ <;> rw [u] <;> have q := h _ (S.toks (tk := s.toks + 1)) <;> rw [v] at q <;> exact q
theorem dict_item {value slice : Expr} {kds : List (Int × PyData)} {k : Int} {t : Tok} {d : PyData} {Q : Value → Shared → Prop} (S : SS prog w B s₀ mu L m P D s) (hm : (a, b, .ddat kds) ∈ P) (hk : kget kds k = some d)
    (h : ∀ u s', SS prog w B s₀ mu L m P ((u, d) :: D) s' → Q u s') (hs : subscripted slice false (.ref a) (.int k t) = operate [.ref a, .int k t] (getItem (.ref a) (.int k t))) :
    wpAny (model prog w) A (subscriptTail value slice (.ref a) (.int k t)) Q E s := by
  obtain ⟨f, kvs, x, e, r⟩ := S.get hm
  rcases kv_get (k := k) e r with ⟨u, v⟩ | ⟨v, d', u, u', rv⟩
  · rw [hk] at v; cases v
  · rw [hk] at u'; cases u'
    exact tail_any x.typeIs slot_dict_getitem.lookup (wpAny_getItem_of (isKey k t) x.mapOf u (h v _ (S.know rv).toks)) hs
theorem dict_set {kds : List (Int × PyData)} {k : Int} {t : Tok} {v : Value} {d : PyData} {Q : Unit → Shared → Prop} (S : SS prog w B s₀ mu L m P D s) (U : Put a true true (.ddat kds) (.ddat (kput kds k d)) P P') (rv : Rd s.heap v d) (hz : kds.length < 1000)
    (h : ∀ s', SS prog w B s₀ mu L m P' D s' → Q () s') : wpAny (model prog w) A (setItem (.ref a) (.int k t) v) Q E s := by
  obtain ⟨f, kvs, x, e, r⟩ := S.get U.mem
  have hl : kvs.length = kds.length := by have := congrArg List.length e; simpa using this
  refine wpAny_setItem_pairs (isKey k t) x (fun h' x' hs => h _ (S.to (S.st.turn U ?_ hs))) (by have : (1000 : Nat) ≤ sizeLine := (by decide); walk_at "o")
  obtain ⟨o, es, ep, ho, hx, _⟩ := id x
  have kt := tup_keep1 ho (fun q => absurd (hx.1.symm.trans q.1) (by decide)) (Go.same hs)
  obtain ⟨e', r'⟩ := kv_put (k := k) e r rv
  exact ⟨f, _, x', e', r'.go kt⟩
theorem dict_get2 {kds : List (Int × PyData)} {k : Int} {t : Tok} {v : Value} {d : PyData} {Q : Value → Shared → Prop} (S : SS prog w B s₀ mu L m P D s) (hm : (a, b, .ddat kds) ∈ P) (rv : Rd s.heap v d)
    (h : ∀ u s', SS prog w B s₀ mu L m P ((u, (kget kds k).getD d) :: D) s' → Q u s') : wpAny (model prog w) A (call (.builtin "dict.get") [.ref a, .int k t, v]) Q E s := by
  obtain ⟨f, kvs, x, e, r⟩ := S.get hm
  refine call_meetsIn F.slot_dict_get x.typeIs F.entry_dict_get (F.args_dict_get_3 _ _ _) (meets_dict_get_default (intKind prog w) a (isKey k t) f v) ⟨_, x.mapOf, ?_⟩
  show Q _ _
  rcases kv_get (k := k) e r with ⟨u, u'⟩ | ⟨v', d', u, u', rv'⟩
  · rw [u]; refine h _ _ (S.know ?_).toks; rw [u']; exact rv
  · rw [u]; refine h _ _ (S.know ?_).toks; rw [u']; exact rv'
theorem dict_method {kds : List (Int × PyData)} {name : Str} {id : String} {pl : Sem Bool} {Q : Value × List Value → Shared → Prop} (S : SS prog w B s₀ mu L m P D s) (hm : (a, b, .ddat kds) ∈ P) (slot : Slot "dict" name id) (hty : typeOf (.builtin id) = pure (.type "method_descriptor"))
    (h : Q (.builtin id, [.ref a]) s) : wpAny (model prog w) A (getMethod (.ref a) name pl) Q E s := by
  obtain ⟨f, kvs, x, e, r⟩ := S.get hm
  exact getMethod_builtin x.typeIs PySem.F.plainAttrs_dict slot hty x.mapOf.noDict h
theorem set_new {Q : Value → Shared → Prop} (S : SS prog w B s₀ mu L m P D s)
    (h : ∀ a s', SS prog w B s₀ mu L m ((a, true, .set (fun _ => false) 0) :: P) D s' → Q (.ref a) s') : wpAny (model prog w) A (call (.type "set") []) Q E s :=
  call_set_0 fun led => h _ _ (S.to (S.st.made ((setObjOf_fresh led).setOf (Heap.get?_push_size _ rfl) (by decide))))
theorem set_method {F : Int → Bool} {n : Nat} {pl : Sem Bool} {Q : Value × List Value → Shared → Prop} (S : SS prog w B s₀ mu L m P D s) (hm : (a, b, .set F n) ∈ P)
    (h : Q (.builtin "set.add", [.ref a]) s) : wpAny (model prog w) A (getMethod (.ref a) "add" pl) Q E s := getMethod_set_add (S.get hm : s.heap.SetOf (intKind prog w) a F n) h
theorem set_add {F : Int → Bool} {n : Nat} {k : Int} {t : Tok} {Q : Value → Shared → Prop} (S : SS prog w B s₀ mu L m P D s) (U : Put a true true (.set F n) (.set (fun k' => F k' || decide (k' = k)) (if F k then n else n + 1)) P P') (hn : n < 4000)
    (h : ∀ s', SS prog w B s₀ mu L m P' D s' → Q .none s') : wpAny (model prog w) A (call (.builtin "set.add") [.ref a, .int k t]) Q E s :=
  call_set_add (isKey k t) rfl (S.get U.mem : s.heap.SetOf (intKind prog w) a F n) (by unfold scanBound; walk_at "o") fun h' hs x => h _ (S.to (S.st.turn U x hs))
theorem set_in {F : Int → Bool} {n : Nat} {k : Int} {t : Tok} {Q : Value → Shared → Prop} (S : SS prog w B s₀ mu L m P D s) (hm : (a, b, .set F n) ∈ P) (h : ∀ s', SS prog w B s₀ mu L m P D s' → Q (.bool (F k)) s') :
    wpAny (model prog w) A (compareOp .In (.int k t) (.ref a)) Q E s := wpAny_inSet_of (isKey k t) rfl (S.get hm : s.heap.SetOf (intKind prog w) a F n) (h _ S.toks)
theorem set_notIn {F : Int → Bool} {n : Nat} {k : Int} {t : Tok} {Q : Value → Shared → Prop} (S : SS prog w B s₀ mu L m P D s) (hm : (a, b, .set F n) ∈ P) (h : ∀ s', SS prog w B s₀ mu L m P D s' → Q (.bool (!F k)) s') :
    wpAny (model prog w) A (compareOp .NotIn (.int k t) (.ref a)) Q E s := wpAny_notInSet_of (isKey k t) rfl (S.get hm : s.heap.SetOf (intKind prog w) a F n) (h _ S.toks)
theorem rg_down (n : Nat) (h : n < 2 ^ 20) : Builtin.Range.small ((n : Int) - 1) (-1) (-1) = true ∧ Builtin.Range.rangeSize ((n : Int) - 1) (-1) (-1) = (n : Int) := by
  have e : Builtin.Range.rangeSize ((n : Int) - 1) (-1) (-1) = (n : Int) := by
    unfold Builtin.Range.rangeSize
    rw [if_neg (by decide)]
    split
    · rw [show (-(-1) : Int) = 1 from rfl, Int.ediv_one]; walk_at "o"
    · walk_at "o"
  refine ⟨?_, e⟩
  unfold Builtin.Range.small
  rw [e]
  simp [Builtin.Range.rangeFitsLong]
  walk_at "o"
theorem rg_up (n : Nat) (h : n < 2 ^ 20) : Builtin.Range.small 0 (n : Int) 1 = true ∧ Builtin.Range.rangeSize 0 (n : Int) 1 = (n : Int) := by
  have e : Builtin.Range.rangeSize 0 (n : Int) 1 = (n : Int) := by
    unfold Builtin.Range.rangeSize
    rw [if_pos (by decide)]
    split
    · rw [Int.ediv_one]; walk_at "o"
    · walk_at "o"
  refine ⟨?_, e⟩
  unfold Builtin.Range.small
  rw [e]
  simp [Builtin.Range.rangeFitsLong]
  walk_at "o"
noncomputable def IsRg (a b c : Int) (o : Obj) : Prop := ∃ t u v, o = { cls := .type "range", dict := none, data := .fields #[.int a t, .int b u, .int c v], slots := #[] }
theorem range_1 {n : Int} {t : Tok} {Q : Value → Shared → Prop} (S : SS prog w B s₀ mu L m P D s)
    (h : ∀ a s', SS prog w B s₀ mu L m ((a, true, .is (IsRg 0 n 1)) :: P) D s' → Q (.ref a) s') : wpAny (model prog w) A (call (.type "range") [.int n t]) Q E s :=
  call_range_1 (h _ _ (S.to (S.st.made ⟨_, Heap.get?_push_size _ rfl, fun q => absurd (Value.type.inj q.1) (by decide), _, _, _, rfl⟩)))
theorem range_3 {x y z : Int} {t u v : Tok} {Q : Value → Shared → Prop} (S : SS prog w B s₀ mu L m P D s) (hz : z ≠ 0) (hp : Builtin.divisionGoesByPylong (y - x) z = false)
    (h : ∀ a s', SS prog w B s₀ mu L m ((a, true, .is (IsRg x y z)) :: P) D s' → Q (.ref a) s') : wpAny (model prog w) A (call (.type "range") [.int x t, .int y u, .int z v]) Q E s :=
  call_range_3 hz (h _ _ (S.to (S.st.made ⟨_, Heap.get?_push_size _ rfl, fun q => absurd (Value.type.inj q.1) (by decide), _, _, _, rfl⟩))) (.inl hp)
section
variable {env : Env} {x : Str} {px : Pos} {body : List Stmt} {E' : Value → Shared → Prop} {Q : Flow → Shared → Prop}
theorem iter_range {r : Addr} {p q c : Int} {n : Nat} (hh : A.handled = none) {P₁ : List (Addr × Bool × Tr)} {D₁ : List (Value × PyData)} (S₁ : SS prog w B s₀ mu L m P₁ D₁ s) (hv : (r, b, .is (IsRg p q c)) ∈ P₁) (S : SS prog w B s₀ mu L m P D s) (hsmall : Builtin.Range.small p q c = true) (hn : Builtin.Range.rangeSize p q c = (n : Int))
    (J : Nat → (Str → Option Value) → List (Addr × Bool × Tr) → List (Value × PyData) → Prop) (j0 : J 0 m P D)
    (turn : ∀ I i (k : Int) t m P D s', i < n → k = p + (i : Nat) * c → J i m P D → SS prog w B s₀ mu L (fun y => if y = x then some (.int k t) else m y) ((I, true, .is (ItRange p c n (i + 1))) :: P) D s' →
      wpAny (model prog w) A (execs body env) (FEnd prog w B s₀ mu L I (.is (ItRange p c n (i + 1))) (J (i + 1)) Q) (fun _ _ => False) s')
    (done : ∀ m P D s', J n m P D → SS prog w B s₀ mu L m P D s' → Q .next s')
    (hk : EnvAt env L) (hl : env.kindOf x = some .local) :
    wpAny (model prog w) A (pyIter (.ref r)) (fun it s₂ => codeAny (model prog w) A (.forLoop (.Name x px) it body [] env) (ForR prog w A env E Q) s₂) E' s := by
  obtain ⟨o, ho, _, t, u, v, rfl⟩ := S₁.get hv
  have ir : IsRange s.heap r p q c t u v := ho
  refine wpAny_pyIter_range ir hsmall ?_
  rw [hn]
  refine forLoop_ (Src.range (a := p) (c := c) (n := n) hh) J (fun _ _ _ _ _ _ _ => trivial) (S.iter (isIt_range.mpr ?_)) j0 ?_ done (fun _ _ q => q) hk hl fun v s' Q E => go_name v s' Q E
  · show Heap.get? _ _ = _
    rw [Heap.get?_push_size _ rfl]
    simp
  · intro i u m P D s' hi j S
    obtain ⟨t, rfl⟩ := (S.datum (.head _)).int
    exact turn _ i _ t m P D s' hi rfl j (S.sub (List.Sublist.refl _) fun p hp => .tail _ hp)
end
end
end
section
noncomputable def IsInst (C dx : Addr) (o : Obj) : Prop := o = instObj C dx
section
variable {prog : Program} {w : World} {A : Around} {E : Value → Shared → Prop} {s₀ s : Shared} {B : Heap} {mu : List Addr} {L x C dx : Addr} {m : Str → Option Value} {P P' : List (Addr × Bool × Tr)} {D : List (Value × PyData)} {b b' : Bool} {K : Frag} {g : Str → Option Value} {kk : Nat} {name : Str}
theorem instAt_S (S : SS prog w B s₀ mu L m P D s) (hx : (x, b, .is (IsInst C dx)) ∈ P) (hd : (dx, b', .att g kk) ∈ P) :
    ∃ es n, InstAt s.heap x (instObj C dx) C (some (dictOf es n)) ∧ ∀ y, getL y es = some (g y) := by
  obtain ⟨o, ho, _, rfl⟩ := S.get hx
  obtain ⟨es, n, e, hg, _⟩ := S.get hd
  exact ⟨es, n, ⟨ho, rfl, rfl, e⟩, hg⟩
theorem attr_S {expr : Bool} {v : Value} {attr : Option Value} {Q : Value → Shared → Prop} (S : SS prog w B s₀ mu L m P D s) (X : K.In B) (hx : (x, b, .is (IsInst C dx)) ∈ P) (hd : (dx, b', .att g kk) ∈ P)
    (hg : plainGet K C name = true) (hh : hasDictIn K C = true) (ha : findIn K (.ref C) name = some attr) (hn : noGet K attr = true) (hl : g name = some v) (hv : handedIn v = true)
    (h : ∀ s', SS prog w B s₀ mu L m P D s' → Q v s') : wpAny (model prog w) A (getAttr (.ref x) name expr) Q E s := by
  obtain ⟨es, n, I, e⟩ := instAt_S S hx hd
  exact get_own S.fr X I hg hh ha hn ((e name).trans (by rw [hl])) hv (h _ S.toks)
theorem meth_S {pl : Sem Bool} {f : Addr} {Q : Value × List Value → Shared → Prop} (S : SS prog w B s₀ mu L m P D s) (X : K.In B) (hx : (x, b, .is (IsInst C dx)) ∈ P) (hd : (dx, b', .att g kk) ∈ P)
    (hg : plainGet K C name = true) (hf : findIn K (.ref C) name = some (some (.ref f))) (ht : isFn K (.ref f) = true) (hl : g name = none) (h : Q (.ref f, [.ref x]) s) :
    wpAny (model prog w) A (getMethod (.ref x) name pl) Q E s := by
  obtain ⟨es, n, I, e⟩ := instAt_S S hx hd
  exact method_inst S.fr X I hg hf ht ((e name).trans (by rw [hl])) h
theorem nameG_S {env : Env} {x : Str} {pos : Pos} {v : Value} {Q : Value → Shared → Prop} (S : SS prog w B s₀ mu L m P D s) (G : Gr K B) (e : nsIn K mainGlobals x = some (some v)) (h : Q v s)
    (hk : EnvAt env L) (hx : env.kindOf x = some .globalImplicit) (hd : (x == ("__debug__" : Str)) = false) :
    wpAny (model prog w) A (eval (.Name x pos) env) Q E s := by
  obtain ⟨mg, n⟩ := G.glob
  exact Calls.Name_function_global hk.kind hx (Calls.loadGlobal_global (by rw [hk.glob]; exact n.keeps S.fr.keep) (mg_of G.X n e) h) hd
theorem nameB_S {env : Env} {x : Str} {pos : Pos} {v : Value} {Q : Value → Shared → Prop} (S : SS prog w B s₀ mu L m P D s) (G : Gr K B) (e : nsIn K mainGlobals x = some none) (hv : bootBuiltins x = some v) (hn : x ≠ "__name__") (h : Q v s)
    (hk : EnvAt env L) (hx : env.kindOf x = some .globalImplicit) (hd : (x == ("__debug__" : Str)) = false) :
    wpAny (model prog w) A (eval (.Name x pos) env) Q E s := by
  obtain ⟨mg, n⟩ := G.glob
  obtain ⟨mb, nb, hb⟩ := G.blt
  exact Calls.Name_function_global hk.kind hx (Calls.loadGlobal_builtin (by rw [hk.glob]; exact n.keeps S.fr.keep) (mg_none_of G.X n e) (by rw [hk.blt]; exact nb.keeps S.fr.keep) ((hb x hn).trans hv) h) hd
theorem eq_rd {u v : Value} {d e : PyData} {Q : Value → Shared → Prop} (x : Rd s.heap u d) (y : Rd s.heap v e) (sd : SeqAt.shaped d = true) (se : SeqAt.shaped e = true) (hu : A.units + 64 < cLine)
    (h : Q (.bool (PyData.eqv d e)) s) : wpAny (model prog w) A (compareOp .Eq u v) Q E s := eq_dataH x y sd se hu h
theorem ne_rd {u v : Value} {d e : PyData} {Q : Value → Shared → Prop} (x : Rd s.heap u d) (y : Rd s.heap v e) (sd : SeqAt.shaped d = true) (se : SeqAt.shaped e = true) (hu : A.units + 64 < cLine)
    (h : Q (.bool (!PyData.eqv d e)) s) : wpAny (model prog w) A (compareOp .NotEq u v) Q E s := ne_dataH x y sd se hu h
section
variable {x y : Int} {t u : Tok}
theorem addS (S : SS prog w B s₀ mu L m P D s) {Q : Value → Shared → Prop} (h : ∀ t s', SS prog w B s₀ mu L m P D s' → Q (.int (x + y) t) s') : wpAny (model prog w) A (binaryOp .Add (.int x t) (.int y u)) Q E s := PyProof.Rows.add_int (h _ _ S.toks)
theorem subS (S : SS prog w B s₀ mu L m P D s) {Q : Value → Shared → Prop} (h : ∀ t s', SS prog w B s₀ mu L m P D s' → Q (.int (x - y) t) s') : wpAny (model prog w) A (binaryOp .Sub (.int x t) (.int y u)) Q E s := PyProof.Rows.sub_int (h _ _ S.toks)
theorem mulS (S : SS prog w B s₀ mu L m P D s) (hm : IntMulOk x y) {Q : Value → Shared → Prop} (h : ∀ t s', SS prog w B s₀ mu L m P D s' → Q (.int (x * y) t) s') : wpAny (model prog w) A (binaryOp .Mult (.int x t) (.int y u)) Q E s := PyProof.Rows.mul_int (h _ _ S.toks) hm
theorem modS (S : SS prog w B s₀ mu L m P D s) (hy : y ≠ 0) {Q : Value → Shared → Prop} (h : ∀ t s', SS prog w B s₀ mu L m P D s' → Q (.int (x.fmod y) t) s') : wpAny (model prog w) A (binaryOp .Mod (.int x t) (.int y u)) Q E s := PyProof.Rows.mod_int hy (h _ _ S.toks)
theorem fdivS (S : SS prog w B s₀ mu L m P D s) (hy : y ≠ 0) (hp : Builtin.divisionGoesByPylong x y = false) {Q : Value → Shared → Prop} (h : ∀ t s', SS prog w B s₀ mu L m P D s' → Q (.int (x.fdiv y) t) s') : wpAny (model prog w) A (binaryOp .FloorDiv (.int x t) (.int y u)) Q E s := PyProof.Rows.floordiv_int hy (h _ _ S.toks) (.inl hp)
theorem iaddS (S : SS prog w B s₀ mu L m P D s) {Q : Value → Shared → Prop} (h : ∀ t s', SS prog w B s₀ mu L m P D s' → Q (.int (x + y) t) s') : wpAny (model prog w) A (inplaceOp .Add (.int x t) (.int y u)) Q E s := PyProof.Rows.iadd_int (h _ _ S.toks)
theorem negS (S : SS prog w B s₀ mu L m P D s) {Q : Value → Shared → Prop} (h : ∀ t s', SS prog w B s₀ mu L m P D s' → Q (.int (-x) t) s') : wpAny (model prog w) A (unaryOp .USub (.int x t)) Q E s := PyProof.Rows.neg_int (h _ _ S.toks)
theorem strS {x : Str} {k : Nat} {pos : Pos} {env : Env} {Q : Value → Shared → Prop} (S : SS prog w B s₀ mu L m P D s) (h : ∀ t s', SS prog w B s₀ mu L m P D s' → Q (.str x t) s') : wpAny (model prog w) A (eval (.Constant (.str x) k pos) env) Q E s := Calls.Constant_str (h _ _ S.toks)
end
noncomputable abbrev cd (t a : Int) : PyData := .tuple [.int t, .int a]
theorem cd_shaped (t a : Int) : SeqAt.shaped (cd t a) = true := by simp [SeqAt.shaped, PyData.canLay0, PyData.canLayAll0, PyData.depth, PyData.depthAll]
theorem cd_eqv (t a t' a' : Int) : PyData.eqv (cd t a) (cd t' a') = decide (t = t' ∧ a = a') := by
  simp only [cd, PyData.eqv, PyData.eqvAll]
  by_cases h : t = t' <;> by_cases h' : a = a' <;> simp [h, h']
end
noncomputable def symG (T AN FU FN : Addr) : Str → Option Value := fun n =>
  List.lookup n [(Str.ofString "texts", .ref T), (Str.ofString "atom_numbers", .ref AN), (Str.ofString "functors", .ref FU), (Str.ofString "functor_numbers", .ref FN)]
noncomputable def storeG (sy H K T : Addr) (mh hb bb : Tok) : Str → Option Value := fun n =>
  List.lookup n [(Str.ofString "symbols", .ref sy), (Str.ofString "max_heap", .int 100000 mh), (Str.ofString "heap", .ref H), (Str.ofString "stack", .ref K), (Str.ofString "trail", .ref T), (Str.ofString "hb", .int 0 hb), (Str.ofString "bb", .int 0 bb)]
section
variable {M : Model} {A : Around} {E : Value → Shared → Prop} {s : Shared} {env : Env}
end
theorem Room.eq {n : Nat} {A : Around} (r : Room n A) : A.units + 64 < cLine := by have := r.units; walk_at "o"
end
section
theorem rich_lt {prog : Program} {w : World} {A : Around} {E : Value → Shared → Prop} {s : Shared} {a b : Int} {t u : Tok} {Q : Value → Shared → Prop} (h : Q (.bool (decide (a < b))) s) : wpAny (model prog w) A (richCompare .Lt (.int a t) (.int b u)) Q E s :=
  show wpAny (model prog w) A (compareOp .Lt (.int a t) (.int b u)) Q E s from PyProof.Rows.lt_int h
theorem rich_gt {prog : Program} {w : World} {A : Around} {E : Value → Shared → Prop} {s : Shared} {a b : Int} {t u : Tok} {Q : Value → Shared → Prop} (h : Q (.bool (decide (b < a))) s) : wpAny (model prog w) A (richCompare .Gt (.int a t) (.int b u)) Q E s :=
  show wpAny (model prog w) A (compareOp .Gt (.int a t) (.int b u)) Q E s from PyProof.Rows.gt_int h
theorem tuple_lt2 (l b : Addr) (x y y' : Int) (t1 t2 t3 t4 : Tok) (n n2 : Nat) (dd dd2 : Option Addr) (sl sl2 : Array (Option Value)) :
    Meets (Builtin.«tuple.__lt__» ⟨[.ref l, .ref b], []⟩)
      (fun A R s => s.heap.get? l = some { cls := .type "tuple", dict := dd, data := .seq #[.int x t1, .int y t2] n, slots := sl } ∧ s.heap.get? b = some { cls := .type "tuple", dict := dd2, data := .seq #[.int x t3, .int y' t4] n2, slots := sl2 } ∧
        R (.ok (.ret (.bool (decide (y < y'))))) s) :=
  .of_wp fun prog w A R s h => by
    obtain ⟨hp, g, d, tk, os⟩ := s; obtain ⟨hl, hb, h⟩ := h
    have f2 := AutoSeq1.sub_tuple_tuple
    wp_walk using wpAny_loadPart' hl, wpAny_loadPart' hb, wpAny_eqBool_int
    by_cases hy : y = y'
    · subst hy
      rw [if_neg (by simp)]
      wp_walk
      exact ⟨_, rfl, by simpa [Builtin.Tuple.tupleCompareSizes] using h⟩
    · rw [if_pos (by simp [hy])]
      wp_walk using rich_lt
      exact ⟨_, rfl, h⟩
theorem tuple_gt2 (l b : Addr) (x y y' : Int) (t1 t2 t3 t4 : Tok) (n n2 : Nat) (dd dd2 : Option Addr) (sl sl2 : Array (Option Value)) :
    Meets (Builtin.«tuple.__gt__» ⟨[.ref l, .ref b], []⟩)
      (fun A R s => s.heap.get? l = some { cls := .type "tuple", dict := dd, data := .seq #[.int x t1, .int y t2] n, slots := sl } ∧ s.heap.get? b = some { cls := .type "tuple", dict := dd2, data := .seq #[.int x t3, .int y' t4] n2, slots := sl2 } ∧
        R (.ok (.ret (.bool (decide (y' < y))))) s) :=
  .of_wp fun prog w A R s h => by
    obtain ⟨hp, g, d, tk, os⟩ := s; obtain ⟨hl, hb, h⟩ := h
    have f2 := AutoSeq1.sub_tuple_tuple
    wp_walk using wpAny_loadPart' hl, wpAny_loadPart' hb, wpAny_eqBool_int
    by_cases hy : y = y'
    · subst hy
      rw [if_neg (by simp)]
      wp_walk
      exact ⟨_, rfl, by simpa [Builtin.Tuple.tupleCompareSizes] using h⟩
    · rw [if_pos (by simp [hy])]
      wp_walk using rich_gt
      exact ⟨_, rfl, h⟩
section
variable {prog : Program} {w : World} {A : Around} {E : Value → Shared → Prop} {s₀ s : Shared} {B : Heap} {mu : List Addr} {L : Addr} {m : Str → Option Value} {P : List (Addr × Bool × Tr)} {D : List (Value × PyData)}
theorem cd_open {h : Heap} {v : Value} {t a : Int} (x : Rd h v (cd t a)) : ∃ l o n t1 t2, v = .ref l ∧ h.get? l = some o ∧ o.cls = .type "tuple" ∧ o.data = .seq #[.int t t1, .int a t2] n := by
  obtain ⟨l, vs, rfl, ⟨o, h1, h2, n, h3⟩, z⟩ := x.tuple
  obtain ⟨v1, r1, rfl, a1, z⟩ := z.inv
  obtain ⟨v2, r2, rfl, a2, z⟩ := z.inv
  rw [z.inv0] at h3
  obtain ⟨t1, rfl⟩ := a1.int
  obtain ⟨t2, rfl⟩ := a2.int
  exact ⟨l, o, n, t1, t2, rfl, h1, h2, h3⟩
theorem lt_cd {u v : Value} {t a a' : Int} {Q : Value → Shared → Prop} (S : SS prog w B s₀ mu L m P D s) (x : (u, cd t a) ∈ D) (y : (v, cd t a') ∈ D) (hu : A.units + 64 < cLine)
    (h : Q (.bool (decide (a < a'))) s) : wpAny (model prog w) A (compareOp .Lt u v) Q E s := by
  obtain ⟨l, ⟨c1, d1, e1, s1⟩, n, t1, t2, rfl, ho, h2, h3⟩ := cd_open (S.datum x)
  obtain ⟨b, ⟨c2, d2, e2, s2⟩, n2, t3, t4, rfl, ho2, h4, h5⟩ := cd_open (S.datum y)
  simp only at h2 h3 h4 h5
  subst h2 h3 h4 h5
  exact richCompare_meets_room (op := .Lt) ⟨_, ho, rfl⟩ ⟨_, ho2, rfl⟩ F.slot_tuple_lt F.entry_tuple_lt (F.args_tuple_lt_2 _ _) (tuple_lt2 l b t a a' t1 t2 t3 t4 n n2 d1 d2 s1 s2)
    ⟨ho, ho2, show Value.bool (decide (a < a')) ≠ Value.notImplemented ∧ Q (.bool (decide (a < a'))) s from ⟨(fun x => nomatch x), h⟩⟩ (by walk_at "o")
theorem gt_cd {u v : Value} {t a a' : Int} {Q : Value → Shared → Prop} (S : SS prog w B s₀ mu L m P D s) (x : (u, cd t a) ∈ D) (y : (v, cd t a') ∈ D) (hu : A.units + 64 < cLine)
    (h : Q (.bool (decide (a' < a))) s) : wpAny (model prog w) A (compareOp .Gt u v) Q E s := by
  obtain ⟨l, ⟨c1, d1, e1, s1⟩, n, t1, t2, rfl, ho, h2, h3⟩ := cd_open (S.datum x)
  obtain ⟨b, ⟨c2, d2, e2, s2⟩, n2, t3, t4, rfl, ho2, h4, h5⟩ := cd_open (S.datum y)
  simp only at h2 h3 h4 h5
  subst h2 h3 h4 h5
  exact richCompare_meets_room (op := .Gt) ⟨_, ho, rfl⟩ ⟨_, ho2, rfl⟩ F.slot_tuple_gt F.entry_tuple_gt (F.args_tuple_gt_2 _ _) (tuple_gt2 l b t a a' t1 t2 t3 t4 n n2 d1 d2 s1 s2)
    ⟨ho, ho2, show Value.bool (decide (a' < a)) ≠ Value.notImplemented ∧ Q (.bool (decide (a' < a))) s from ⟨(fun x => nomatch x), h⟩⟩ (by walk_at "o")
end
end
section
theorem find_putL (name y : Str) (hsh : Int) (t : Tok) (v : Value) : ∀ es : List DictEntry,
    (putL name hsh (.str name t) v es).find? (·.key.isStr y) = if y = name then (putL name hsh (.str name t) v es).find? (·.key.isStr name) else es.find? (·.key.isStr y)
  | [] => by
    by_cases h : y = name
    · subst h; simp
    · rw [if_neg h]
      simp only [putL, List.find?_cons, List.find?_nil]
      have : (Value.str name t).isStr y = false := by simp only [Value.isStr]; exact beq_eq_false_iff_ne.mpr fun e => h e.symm
      rw [this]
  | e :: r => by
    have ih := find_putL name y hsh t v r
    by_cases h : y = name
    · subst h; simp
    · rw [if_neg h] at ih ⊢
      unfold putL
      cases q : e.key.isStr name with
      | true =>
        have : e.key.isStr y = false := by
          cases z : e.key.isStr y with
          | false => rfl
          | true => exact absurd (Value.isStr_inj _ _ _ z q) h
        simp only [if_true, List.find?_cons, this]
      | false =>
        simp only [Bool.false_eq_true, if_false, List.find?_cons, ih]
theorem find_putL_same (name : Str) (hsh : Int) (t : Tok) (v : Value) : ∀ es : List DictEntry, ∃ e, (putL name hsh (.str name t) v es).find? (·.key.isStr name) = some e ∧ e.val = v
  | [] => ⟨⟨hsh, .str name t, v⟩, by simp [putL, Value.isStr], rfl⟩
  | e :: r => by
    unfold putL
    cases q : e.key.isStr name with
    | true => exact ⟨⟨e.hash, e.key, v⟩, by simp [q], rfl⟩
    | false =>
      obtain ⟨e', h1, h2⟩ := find_putL_same name hsh t v r
      exact ⟨e', by simp only [Bool.false_eq_true, if_false, List.find?_cons, q]; exact h1, h2⟩
theorem refKey_putL (name : Str) (hsh : Int) (t : Tok) (v : Value) : ∀ es : List DictEntry, es.any (·.refKey) = false → (putL name hsh (.str name t) v es).any (·.refKey) = false
  | [], _ => by simp [putL, DictEntry.refKey]
  | e :: r, h => by
    rw [List.any_cons, Bool.or_eq_false_iff] at h
    unfold putL
    split
    · rw [List.any_cons, h.2, Bool.or_false]; exact h.1
    · rw [List.any_cons, refKey_putL name hsh t v r h.2, Bool.or_false]; exact h.1
theorem length_putL (name : Str) (hsh : Int) (k v : Value) : ∀ es : List DictEntry, (putL name hsh k v es).length ≤ es.length + 1
  | [] => by simp [putL]
  | e :: r => by
    unfold putL
    split
    · simp
    · have := length_putL name hsh k v r; simp only [List.length_cons]; walk_at "o"
theorem getL_of {y : Str} {es : List DictEntry} (h : es.any (·.refKey) = false) : getL y es = some ((es.find? (·.key.isStr y)).map (·.val)) := by
  unfold getL
  cases es.find? (·.key.isStr y) with
  | none => simp only [h]; rfl
  | some e => rfl
theorem getL_putL {name y : Str} {hsh : Int} {t : Tok} {v : Value} {es : List DictEntry} {g : Str → Option Value} (h : es.any (·.refKey) = false) (hg : ∀ x, getL x es = some (g x)) :
    getL y (putL name hsh (.str name t) v es) = some (if y = name then some v else g y) := by
  rw [getL_of (refKey_putL name hsh t v es h), find_putL]
  by_cases q : y = name
  · obtain ⟨e, h1, h2⟩ := find_putL_same name hsh t v es
    rw [if_pos q, if_pos q, h1, Option.map_some, h2]
  · rw [if_neg q, if_neg q, ← hg y, getL_of h]
section
variable {prog : Program} {w : World} {A : Around} {E : Value → Shared → Prop} {s₀ s : Shared} {B : Heap} {mu : List Addr} {L x C dx : Addr} {m : Str → Option Value} {P P' : List (Addr × Bool × Tr)} {D : List (Value × PyData)} {b : Bool} {K : Frag} {g : Str → Option Value} {kk : Nat} {name : Str}
theorem setattr_S {v : Value} {Q : Unit → Shared → Prop} (S : SS prog w B s₀ mu L m P D s) (X : K.In B) (hx : (x, b, .is (IsInst C dx)) ∈ P)
    (U : Put dx true true (.att g kk) (.att (fun y => if y = name then some v else g y) (kk + 1)) P P')
    (hs : findIn K (.ref C) "__setattr__" = some (some (.builtin "object.__setattr__"))) (hp : plainOver K C = true) (ht : takerIn K C name = some none) (hh : hasDictIn K C = true) (hz : kk < 900)
    (h : ∀ s', SS prog w B s₀ mu L m P' D s' → Q () s') : wpAny (model prog w) A (setAttr (.ref x) name v) Q E s := by
  obtain ⟨es, n, e0, hg, hr, hl⟩ := S.get U.mem
  obtain ⟨o, ho, _, rfl⟩ := S.get hx
  have ow := S.st.own _ U.mem rfl
  have nd := List.nodup_cons.mp S.st.nd
  have N : News B L s.heap ((dx, dictOf es n) :: restOf B s.heap L [dx]) := by
    intro p hp
    rcases List.mem_cons.mp hp with rfl | hp
    · exact ⟨e0, fun q => nd.1 (by rw [← q]; exact List.mem_map_of_mem U.mem), ow.1⟩
    · have q := restOf_mem.mp hp; exact ⟨q.1, q.2.1, q.2.2.2⟩
  have I : InstAt s.heap x (instObj C dx) C (some (dictOf es n)) := ⟨ho, rfl, rfl, e0⟩
  refine set_dict S.fr X N I rfl hs hp ht hh (by rw [hg name]; rfl) rfl (.head fun p hp q => (restOf_mem.mp hp).2.2.1 (List.mem_singleton.mpr q)) (Nat.le_trans (length_putL ..) (by walk_at "o")) fun h' F' N' => ?_
  refine h _ (S.viaK U F' (fun p hp => (N' p (.tail _ hp)).1) ⟨_, _, (N' _ (.head _)).1, fun y => getL_putL hr hg, refKey_putL _ _ _ _ _ hr, Nat.le_trans (length_putL ..) (by walk_at "o")⟩)
end
section
variable {prog : Program} {w : World} {B : Heap} {mu : List Addr} {P : List (Addr × Bool × Tr)} {h : Heap} {C : Addr}
theorem Kn.inst (k : Kn prog w B mu P h) : Kn prog w B ((h.objs.size + 1) :: h.objs.size :: mu) ((h.objs.size + 1, true, .is (IsInst C h.objs.size)) :: (h.objs.size, true, .att (fun _ => none) 0) :: P) ((h.push emptyDict).push (instObj C h.objs.size)) := by
  have ks : ∀ b o, h.get? b = some o → ((h.push emptyDict).push (instObj C h.objs.size)).get? b = some o := fun b o e => Heap.get?_push_of_some _ (Heap.get?_push_of_some _ e)
  have sz : (h.push emptyDict).objs.size = h.objs.size + 1 := Heap.size_push ..
  have e1 : ((h.push emptyDict).push (instObj C h.objs.size)).get? (h.objs.size + 1) = some (instObj C h.objs.size) := by rw [← sz]; exact Heap.get?_push_size _ rfl
  have e2 : ((h.push emptyDict).push (instObj C h.objs.size)).get? h.objs.size = some emptyDict := Heap.get?_push_of_some _ (Heap.get?_push_size _ rfl)
  have out : ∀ p ∈ P, p.1 < h.objs.size := fun p hp => let ⟨o, e, _⟩ := (k.at_ p hp).there; Heap.lt_size e
  have nb : ∀ a, h.objs.size ≤ a → B.get? a = none := fun a ha => by
    cases z : B.get? a with
    | none => rfl
    | some o => exact absurd (Heap.lt_size z) (Nat.not_lt.mpr (Nat.le_trans k.size ha))
  refine ⟨fun b o e => ks b o (k.keep b o e), ?_, ?_, ?_, ?_⟩
  · rw [Heap.size_push, sz]; exact Nat.le_trans k.size (by walk_at "o")
  · intro p hp
    rcases List.mem_cons.mp hp with rfl | hp
    · exact ⟨instObj C h.objs.size, e1, (fun (q : IsTupObj (instObj C h.objs.size)) => nomatch (show Value.ref C = Value.type "tuple" from q.1)), rfl⟩
    rcases List.mem_cons.mp hp with rfl | hp
    · exact ⟨[], 0, e2, fun _ => rfl, rfl, Nat.le_refl _⟩
    · exact (k.at_ p hp).move (fun o e => ks _ o e) fun b o e _ => ks b o e
  · rw [List.map_cons, List.map_cons]
    refine List.nodup_cons.mpr ⟨fun q => ?_, List.nodup_cons.mpr ⟨fun q => ?_, k.nd⟩⟩
    · rcases List.mem_cons.mp q with q | q
      · exact absurd q (Nat.succ_ne_self _)
      · obtain ⟨p, hp, e⟩ := List.mem_map.mp q
        have := out p hp
        have e' : p.1 = h.objs.size + 1 := e
        rw [e'] at this; exact absurd this (Nat.not_lt.mpr (Nat.le_succ _))
    · obtain ⟨p, hp, e⟩ := List.mem_map.mp q
      have := out p hp
      have e' : p.1 = h.objs.size := e
      rw [e'] at this; exact absurd this (Nat.lt_irrefl _)
  · intro p hp hb
    rcases List.mem_cons.mp hp with rfl | hp
    · exact ⟨nb _ (Nat.le_succ _), .head _⟩
    rcases List.mem_cons.mp hp with rfl | hp
    · exact ⟨nb _ (Nat.le_refl _), .tail _ (.head _)⟩
    · exact ⟨(k.own p hp hb).1, .tail _ (.tail _ (k.own p hp hb).2)⟩
end
section
variable {prog : Program} {w : World} {B : Heap} {mu : List Addr} {P : List (Addr × Bool × Tr)} {A : Around} {E : Value → Shared → Prop} {s : Shared} {K : Frag} {Q : Value → Shared → Prop}
  {name qual : Str} {params : Arguments} {body : List Stmt} {scope : Scope} {dV kV doc pm cdv ct oc : Value} {an od : Option Addr} {osl : Array (Option Value)} {f C : Addr} {args : List Value} {binds : List (Str × Value)}
theorem create {n : Nat} (G : Gr K B) (r : Room (n + 2) A) (k : Kn prog w B mu P s.heap) (D : List (Value × PyData)) (hD : ∀ p ∈ D, Rd s.heap p.1 p.2) (hm : makesIn K C = true) (hi : findIn K (.ref C) "__init__" = some (some (.ref f))) (hf : isFn K (.ref f) = true)
    (ho : K.lookup f = some ⟨oc, od, .func (fnOf name qual params body scope dV kV doc pm an cdv ct), osl⟩) (hcd : codeIn K cdv qual = true)
    (hbind : ∀ s' : Shared, s'.heap = (s.heap.push emptyDict).push (instObj C s.heap.objs.size) → BindsTo s' (fnOf name qual params body scope dV kV doc pm an cdv ct) ⟨.ref (s.heap.objs.size + 1) :: args, []⟩ (binds)) (hloc : ∀ y ∈ binds, scope.names.lookup y.1 = some .local)
    (h : ∀ s₂ s₁ L, s₂.heap = (s.heap.push emptyDict).push (instObj C s.heap.objs.size) → Eqv s s₂ → SS prog w B s₂ ((s.heap.objs.size + 1) :: s.heap.objs.size :: mu) L (fun y => binds.reverse.lookup y)
        ((s.heap.objs.size + 1, true, .is (IsInst C s.heap.objs.size)) :: (s.heap.objs.size, true, .att (fun _ => none) 0) :: P) D s₁ → Room n ((A.under (.builtin "type.__call__" ⟨.ref C :: args, []⟩)).deeper (envOf qual scope L f cdv)) →
      wpAny (model prog w) ((A.under (.builtin "type.__call__" ⟨.ref C :: args, []⟩)).deeper (envOf qual scope L f cdv)) (execs body (envOf qual scope L f cdv))
        (fun fl s' => (match fl with | .ret v => v | _ => .none) = .none ∧ Q (.ref (s.heap.objs.size + 1)) s') (fun _ _ => False) s₁)
    (hco : scope.isCoroutine = false) (hgen : scope.isGenerator = false) (hk : scope.kind = .function)
    (hcell : ∀ x ∈ scope.names, x.2 ≠ .cell) : wpAny (model prog w) A (call (.ref C) args) Q E s := by
  obtain ⟨hh, gg, dd, tk, os⟩ := s
  have X' : K.In hh := fun a o e => k.keep _ _ (G.X a o e)
  have r1 : Room (n + 1) (A.under (.builtin "type.__call__" ⟨.ref C :: args, []⟩)) := by
    refine ⟨r.handled, ?_, ?_⟩
    · have := r.depth; rw [depth_under_make]; walk_at "o"
    · have := r.units; rw [units_under_make]; walk_at "o"
  have kk := k.inst (C := C)
  refine wpAny_call (make_core (makes_of X' hm) (looks_findIn X' hi) (fun self => bind_fn X' self (beq_iff_eq.mp hf)) (.inl rfl) ?_)
  refine codeAny_call_def (fd := fnOf name qual params body scope dV kV doc pm an cdv ct) (body := body) (binds := binds) (by have := r1.depth; walk_at "o")
    (kk.keep _ _ (G.X _ _ ho)) rfl (G.lim.keeps kk.keep) ((codeRec_of G.X hcd).keeps kk.keep) rfl (hbind _ rfl) hcell hloc (fun h₁ hns hk₁ => ?_) hco hgen hk
  have hD' : ∀ p ∈ D, Rd ((hh.push emptyDict).push (instObj C hh.objs.size)) p.1 p.2 := fun p hp => (hD p hp).go fun b o e _ => Heap.get?_push_of_some _ (Heap.get?_push_of_some _ e)
  refine wpAny_mono (h ⟨(hh.push emptyDict).push (instObj C hh.objs.size), gg, dd, tk, os⟩ _ _ rfl Eqv.mk' ⟨kk.st hns hk₁ hD', Eqv.mk'⟩ (r1.deeper _)) (fun fl s' z => ?_) fun _ _ x => x.elim
  exact z
end
section
variable {prog : Program} {w : World} {B : Heap} {s s₂ s' : Shared} {C L : Addr} {m : Str → Option Value} {P N : List (Addr × Bool × Tr)} {D : List (Value × PyData)}
theorem SS.born (S : SS prog w B s₂ [s.heap.objs.size + 1, s.heap.objs.size] L m P D s') (hh : s₂.heap = (s.heap.push emptyDict).push (instObj C s.heap.objs.size)) (ee : Eqv s s₂) (x : N.Sublist P) (hb : ∀ p ∈ N, p.2.1 = true) :
    Go [] s.heap s'.heap ∧ Eqv s s' ∧ New prog w s s' N := by
  have no : ∀ a, s.heap.objs.size ≤ a → s.heap.get? a = none := fun a ha => by
    cases z : s.heap.get? a with
    | none => rfl
    | some o => exact absurd (Heap.lt_size z) (Nat.not_lt.mpr ha)
  have ks : ∀ b o, s.heap.get? b = some o → s₂.heap.get? b = some o := fun b o e => by rw [hh]; exact Heap.get?_push_of_some _ (Heap.get?_push_of_some _ e)
  have old : ∀ b o, s.heap.get? b = some o → b ∉ [s.heap.objs.size + 1, s.heap.objs.size] := fun b o e q => by
    have := Heap.lt_size e
    rcases List.mem_cons.mp q with q | q
    · rw [q] at this; exact absurd this (Nat.not_lt.mpr (Nat.le_succ _))
    · rw [List.mem_singleton.mp q] at this; exact absurd this (Nat.lt_irrefl _)
  refine ⟨⟨fun b o e _ => S.st.go.keep b o (ks b o e) (old b o e)⟩, ee.trans S.same, fun p hp => ⟨S.st.at_ p (x.subset hp), ?_⟩, (List.nodup_cons.mp S.st.nd).2.sublist (x.map _)⟩
  rcases (S.st.own p (x.subset hp) (hb p hp)).2 with q | q
  · rcases List.mem_cons.mp q with q | q
    · rw [q]; exact no _ (Nat.le_succ _)
    · rw [List.mem_singleton.mp q]; exact no _ (Nat.le_refl _)
  · cases z : s.heap.get? p.1 with
    | none => rfl
    | some o => rw [ks _ _ z] at q; cases q
end
end
section
section
variable {prog : Program} {w : World} {A : Around} {E : Value → Shared → Prop} {s₀ s : Shared} {B : Heap} {mu : List Addr} {L a : Addr} {m : Str → Option Value} {P P' : List (Addr × Bool × Tr)} {D : List (Value × PyData)}
  {env : Env}
theorem unpack2 {x y : Str} {px py tp : Pos} {kk : Nat} {v : Value} {d e : PyData} {Q : Unit → Shared → Prop} (S : SS prog w B s₀ mu L m P D s) (hv : (v, .tuple [d, e]) ∈ D) (hh : A.handled = none)
    (h : ∀ u u' s', SS prog w B s₀ mu L (fun z => if z = y then some u' else if z = x then some u else m z) P ((u, d) :: (u', e) :: D) s' → Q () s')
    (hk : EnvAt env L) (hx : env.kindOf x = some .local) (hy : env.kindOf y = some .local) :
    wpAny (model prog w) A (assign (.Tuple [.Name x px, .Name y py] kk tp) env v) Q E s := by
  obtain ⟨t, vs, rfl, ht, hr⟩ := (S.datum hv).tuple
  obtain ⟨u, r, rfl, r1, hr⟩ := hr.inv
  obtain ⟨u', r, rfl, r2, hr⟩ := hr.inv
  obtain rfl := hr.inv0
  refine assign_Tuple_tuple hh ht rfl rfl fun h' he => ?_
  have g : Go [] s.heap h' := ⟨fun b o e _ => he b o (Nat.ne_of_lt (Heap.lt_size e)) e⟩
  have S1 : SS prog w B s₀ mu L m P ((u, d) :: (u', e) :: D) ⟨h', s.gens, s.drawn, s.toks, s.os⟩ := S.to (((S.st.know r2).know r1).back g)
  show wpAny _ _ (assignInOrder [assign (.Name x px) _, assign (.Name y py) _] [u, u']) _ _ _
  refine assignInOrder_cons (wpAny_assign_Name (stS S1 (fun s₁ S2 => ?_) hk hx))
  refine assignInOrder_cons (wpAny_assign_Name (stS S2 (fun s₁ S3 => ?_) hk hy))
  exact assignInOrder_nil (h _ _ _ S3)
end
end
section
section
variable {prog : Program} {w : World} {A : Around} {E : Value → Shared → Prop} {s₀ s : Shared} {B : Heap} {mu : List Addr} {L a : Addr} {m : Str → Option Value} {P P' : List (Addr × Bool × Tr)} {D : List (Value × PyData)} {b : Bool}
theorem no_size (h : Heap) : h.get? h.objs.size = none := by
  cases q : h.get? h.objs.size with
  | none => rfl
  | some o => exact absurd (Heap.lt_size q) (Nat.lt_irrefl _)
theorem SS.fresh {h' : Heap} {tk : Nat} {t : Tr} (S : SS prog w B s₀ mu L m P D s) (k : ∀ b o, s.heap.get? b = some o → h'.get? b = some o) (x : t.At prog w h' s.heap.objs.size) :
    SS prog w B s₀ mu L m ((s.heap.objs.size, true, t) :: P) D ⟨h', s.gens, s.drawn, tk, s.os⟩ :=
  S.adopt (N := [(s.heap.objs.size, true, t)]) (s' := ⟨h', s.gens, s.drawn, tk, s.os⟩) ⟨fun p hp => by rw [List.mem_singleton.mp hp]; exact ⟨x, no_size _⟩, by simp⟩ ⟨fun b o e _ => k b o e⟩ Eqv.mk'
theorem list_keys {kds : List (Int × PyData)} {Q : Value → Shared → Prop} (S : SS prog w B s₀ mu L m P D s) (hm : (a, b, .ddat kds) ∈ P) (hh : A.handled = none) (hz : kds.length < 1000)
    (h : ∀ a' s', SS prog w B s₀ mu L m ((a', true, .ldat (kds.map fun kd => .int kd.1)) :: P) D s' → Q (.ref a') s') : wpAny (model prog w) A (call (.type "list") [.ref a]) Q E s := by
  obtain ⟨lo, kvs, x, e, r⟩ := S.get hm
  obtain ⟨ep, hat⟩ := x.dictAt
  have hl : kvs.length = kds.length := by have := congrArg List.length e; simpa using this
  refine kdl_call (kdl_dict (knd := intKind prog w) (kvs := kvs) (ep := ep) lo) hh hat (kdl_size (by walk_at "o")) fun h' tk acc' c' k hD hacc => ?_
  refine h _ _ (S.fresh k ⟨acc'.toList, c', by rw [Array.toArray_toList]; exact hD, ?_⟩)
  have key : ∀ (ks : List Int) (vs : List Value), vs.length = ks.length → (∀ (j : Nat) (v : Value), vs[j]? = some v → ∃ k : Int, ks[j]? = some k ∧ ∃ t, v = Value.int k t) → RdAll h' vs (ks.map PyData.int) := by
    intro ks
    induction ks with
    | nil => intro vs hl _; rw [List.length_eq_zero_iff.mp hl]; exact .nil
    | cons k ks ih =>
      intro vs hl hv
      cases vs with
      | nil => cases hl
      | cons v vs =>
        obtain ⟨k', e1, t, rfl⟩ := hv 0 v rfl
        cases e1
        exact .cons (Rd.mkInt _ _) (ih vs (by simpa using hl) fun j v e => hv (j + 1) v e)
  have e2 : kds.map (fun kd => PyData.int kd.1) = (kvs.map (·.1)).map PyData.int := by rw [e, List.map_map]; rfl
  rw [e2]
  refine key _ _ (by rw [Array.length_toList, hacc.1, List.length_map]) fun j v hv => ?_
  obtain ⟨k, y, h1, h2⟩ := hacc.2 j v (by rw [← Array.getElem?_toList]; exact hv)
  obtain ⟨t, rfl⟩ : ∃ t, v = .int k t := by
    cases v with
    | int i t => exact ⟨t, by have h3 : (i == k) = true := h2; rw [beq_iff_eq.mp h3]⟩
    | _ => cases h2
  exact ⟨k, by rw [List.getElem?_map, h1]; rfl, t, rfl⟩
theorem list_copy {ds : List PyData} {Q : Value → Shared → Prop} (S : SS prog w B s₀ mu L m P D s) (hm : (a, b, .ldat ds) ∈ P) (hz : ds.length < 2 ^ 20)
    (h : ∀ a' s', SS prog w B s₀ mu L m ((a', true, .ldat ds) :: P) D s' → Q (.ref a') s') : wpAny (model prog w) A (call (.type "list") [.ref a]) Q E s := by
  obtain ⟨vs, n, x, r⟩ := S.get hm
  have e := r.length
  refine call_list_seq a (.inl rfl) x rfl rfl (fun h' c' k hS => h _ _ (S.fresh k ⟨vs, c', hS, r.go fun b o e _ => k b o e⟩)) ?_
  rw [List.size_toArray, e]; have : (2 ^ 20 : Nat) ≤ sizeLine := (by decide); walk_at "o"
theorem list_tup {v : Value} {ds : List PyData} {Q : Value → Shared → Prop} (S : SS prog w B s₀ mu L m P D s) (hv : (v, .tuple ds) ∈ D) (hz : ds.length < 1000)
    (h : ∀ a' s', SS prog w B s₀ mu L m ((a', true, .ldat ds) :: P) D s' → Q (.ref a') s') : wpAny (model prog w) A (call (.type "list") [v]) Q E s := by
  obtain ⟨t, vs, rfl, x, r⟩ := (S.datum hv).tuple
  obtain ⟨o, h1, h2, n, h3⟩ := x
  have e := r.length
  refine call_list_seq t (.inr rfl) h1 h2 h3 (fun h' c' k hS => h _ _ (S.fresh k ⟨vs, c', hS, r.go fun b o e _ => k b o e⟩)) ?_
  rw [List.size_toArray, e]; have : (2 ^ 20 : Nat) ≤ sizeLine := (by decide); walk_at "o"
end
end
section
section
variable {prog : Program} {w : World} {A : Around} {E : Value → Shared → Prop} {s₀ s : Shared} {B : Heap} {mu : List Addr} {L a : Addr} {m : Str → Option Value} {P P' : List (Addr × Bool × Tr)} {D : List (Value × PyData)}
  {env : Env}
end
end
section
inductive Puts : List (Addr × Tr) → List (Addr × Bool × Tr) → List (Addr × Bool × Tr) → Prop
  | nil {P} : Puts [] P P
  | cons {a t t' l P P₁ P'} : Put a true true t t' P P₁ → Puts l P₁ P' → Puts ((a, t') :: l) P P'
theorem Puts.keys {l P P'} (x : Puts l P P') : P'.map (·.1) = P.map (·.1) := by
  induction x with
  | nil => rfl
  | cons U _ ih => rw [ih, U.keys]
theorem Puts.own {l P P'} (x : Puts l P P') (nd : (P.map (·.1)).Nodup) : ∀ p ∈ P', p.2.1 = true → ∃ t, (p.1, true, t) ∈ P := by
  induction x with
  | nil => exact fun p hp e => ⟨p.2.2, by rw [← e]; exact hp⟩
  | cons U _ ih =>
    intro p hp e
    obtain ⟨t, ht⟩ := ih (by rw [U.keys]; exact nd) p hp e
    exact U.own nd (p.1, true, t) ht rfl (.inl rfl)
theorem Puts.mem {l P P'} (x : Puts l P P') (nd : (P.map (·.1)).Nodup) : ∀ a ∈ l.map (·.1), ∃ t, (a, true, t) ∈ P := by
  induction x with
  | nil => exact fun a ha => nomatch ha
  | cons U _ ih =>
    intro a ha
    rcases List.mem_cons.mp ha with rfl | ha
    · exact ⟨_, U.mem⟩
    · obtain ⟨t, ht⟩ := ih (by rw [U.keys]; exact nd) a ha
      exact U.own nd (a, true, t) ht rfl (.inl rfl)
theorem Puts.of_mem {l P P'} (x : Puts l P P') (nd : (P.map (·.1)).Nodup) : ∀ p ∈ P', (p ∈ P ∧ p.1 ∉ l.map (·.1)) ∨ (p.1, p.2.2) ∈ l := by
  induction x with
  | nil => exact fun p hp => .inl ⟨hp, fun q => nomatch q⟩
  | cons U _ ih =>
    intro p hp
    rcases ih (by rw [U.keys]; exact nd) p hp with ⟨h1, h2⟩ | h
    · rcases U.of_mem nd p h1 with rfl | ⟨h3, h4⟩
      · exact .inr (.head _)
      · refine .inl ⟨h3, fun q => ?_⟩
        rcases List.mem_cons.mp q with q | q
        · exact h4 q
        · exact h2 q
    · exact .inr (.tail _ h)
section
variable {prog : Program} {w : World} {B : Heap} {s₀ s s' : Shared} {mu : List Addr} {L a : Addr} {m m' : Str → Option Value} {P P' P₁ : List (Addr × Bool × Tr)} {D D' : List (Value × PyData)} {b : Bool} {t t' : Tr} {l : List (Addr × Tr)}
theorem SS.backL (S : SS prog w B s₀ mu L m P D s) (V : Puts l P P') (g : Go (l.map (·.1)) s.heap s'.heap) (e : Eqv s s') (x : ∀ q ∈ l, q.2.At prog w s'.heap q.1) : SS prog w B s₀ mu L m P' D s' := by
  have nd := (List.nodup_cons.mp S.st.nd).2
  refine ⟨S.st.backs g (V.mem nd) (by rw [V.keys]; exact List.Sublist.refl _) (fun p hp => ?_) (V.own nd), S.same.trans e⟩
  rcases V.of_mem nd p hp with h | h
  · exact .inl h
  · exact .inr (x _ h)
theorem SS.behead {p : Addr × Bool × Tr} (S : SS prog w B s₀ mu L m (p :: P) D s) : SS prog w B s₀ mu L m P D s := S.sub (List.sublist_cons_self _ _) fun _ h => h
theorem SS.recast (S : SS prog w B s₀ mu L m P D s) (U : Put a true true t t' P P') (x : t.At prog w s.heap a → t'.At prog w s.heap a) : SS prog w B s₀ mu L m P' D s :=
  S.back1 U (Go.refl _ _) (Eqv.refl _) (x (S.get U.mem))
theorem SS.take (S : SS prog w B s₀ mu L m P D s) (S' : SS prog w B s₀ mu L m' P' D' s') (sub : ∀ p ∈ P', p.1 ∈ P.map (·.1)) (hn : s.heap.get? a = none) (x : t.At prog w s'.heap a) :
    SS prog w B s₀ mu L m' ((a, true, t) :: P') D' s' :=
  ⟨{ S'.st with
    at_ := fun p hp => by
      rcases List.mem_cons.mp hp with rfl | hp
      · exact x
      · exact S'.st.at_ p hp
    nd := by
      have nd := List.nodup_cons.mp S'.st.nd
      rw [List.map_cons]
      refine List.nodup_cons.mpr ⟨fun q => ?_, List.nodup_cons.mpr ⟨fun q => ?_, nd.2⟩⟩
      · rcases List.mem_cons.mp q with q | q
        · obtain ⟨o, _, _, e, _⟩ := S.fr.ns
          rw [q, hn] at e; cases e
        · exact nd.1 q
      · obtain ⟨p, hp, e⟩ := List.mem_map.mp q
        obtain ⟨p', hp', e'⟩ := List.mem_map.mp (sub p hp)
        obtain ⟨o, h, _⟩ := (S.st.at_ p' hp').there
        rw [e', show p.1 = a from e, hn] at h; cases h
    own := fun p hp hb => by
      rcases List.mem_cons.mp hp with rfl | hp
      · refine ⟨?_, ?_⟩
        · cases z : B.get? a with
          | none => rfl
          | some o => rw [S.fr.keep _ _ z] at hn; cases hn
        · by_cases hm : a ∈ mu
          · exact .inl hm
          · refine .inr ?_
            cases z : s₀.heap.get? a with
            | none => rfl
            | some o => rw [S.st.go.keep _ _ z hm] at hn; cases hn
      · exact S'.st.own p hp hb }, S'.same⟩
end
section
variable {K : Type} [DecidableEq K]
noncomputable def gget (kds : List (K × PyData)) (k : K) : Option PyData := (kds.find? fun kv => kv.1 = k).map (·.2)
variable {h : Heap}
theorem gv_cons {kv : K × Value} {kvs : List (K × Value)} {kds : List (K × PyData)} (e : (kv :: kvs).map (·.1) = kds.map (·.1)) (r : RdAll h ((kv :: kvs).map (·.2)) (kds.map (·.2))) :
    ∃ d ds, kds = (kv.1, d) :: ds ∧ Rd h kv.2 d ∧ kvs.map (·.1) = ds.map (·.1) ∧ RdAll h (kvs.map (·.2)) (ds.map (·.2)) := by
  cases kds with
  | nil => cases e
  | cons x ds =>
    obtain ⟨k, d⟩ := x
    simp only [List.map_cons, List.cons.injEq] at e r
    obtain ⟨v, l, e1, r1, r2⟩ := r.inv
    cases e1
    exact ⟨d, ds, by rw [e.1], r1, e.2, r2⟩
theorem gv_get {k : K} : ∀ {kvs : List (K × Value)} {kds : List (K × PyData)}, kvs.map (·.1) = kds.map (·.1) → RdAll h (kvs.map (·.2)) (kds.map (·.2)) →
    (valueAt kvs k = none ∧ gget kds k = none) ∨ ∃ v d, valueAt kvs k = some v ∧ gget kds k = some d ∧ Rd h v d
  | [], kds, e, _ => by cases kds with | nil => exact .inl ⟨rfl, rfl⟩ | cons x l => cases e
  | kv :: kvs, kds, e, r => by
    obtain ⟨d, ds, rfl, r1, e2, r2⟩ := gv_cons e r
    by_cases hk : kv.1 = k
    · exact .inr ⟨kv.2, d, by simp [valueAt, hk], by simp [gget, hk], r1⟩
    · rcases gv_get (k := k) e2 r2 with ⟨a, b⟩ | ⟨v, d, a, b, c⟩
      · exact .inl ⟨by simp only [valueAt, List.find?_cons, hk, decide_false] at a ⊢; exact a, by simp only [gget, List.find?_cons, hk, decide_false] at b ⊢; exact b⟩
      · exact .inr ⟨v, d, by simp only [valueAt, List.find?_cons, hk, decide_false] at a ⊢; exact a, by simp only [gget, List.find?_cons, hk, decide_false] at b ⊢; exact b, c⟩
theorem stored_new {kvs : List (K × Value)} {k : K} {v : Value} (h : valueAt kvs k = none) : stored kvs k v = kvs ++ [(k, v)] := by
  unfold stored
  rw [if_neg]
  intro z
  unfold valueAt at h
  simp only [Option.map_eq_none_iff] at h
  rw [List.find?_eq_none] at h
  obtain ⟨e, he, e2⟩ := List.any_eq_true.mp z
  exact h e he e2
theorem atKey_value (xs : List (K × Addr × Value)) (k : K) : (atKey xs k).map (·.2) = valueAt (xs.map fun x => (x.1, x.2.2)) k := by
  unfold atKey valueAt
  induction xs with
  | nil => rfl
  | cons x r ih =>
    simp only [List.map_cons, List.find?_cons]
    by_cases h : x.1 = k
    · simp [h]
    · simp only [h, decide_false]; exact ih
end
section
variable {prog : Program} {w : World} {A : Around} {E : Value → Shared → Prop} {s₀ s : Shared} {B : Heap} {mu : List Addr} {L a : Addr} {m : Str → Option Value} {P P' : List (Addr × Bool × Tr)} {D : List (Value × PyData)} {b : Bool}
theorem isKeyS (i : Str) (t : Tok) : (strKind prog w).is i (.str i t) = true := by show (Value.isStrOf i (.str i t)) = true; unfold Value.isStrOf; simp
theorem sdict_method {kds : List (Str × PyData)} {name : Str} {id : String} {pl : Sem Bool} {Q : Value × List Value → Shared → Prop} (S : SS prog w B s₀ mu L m P D s) (hm : (a, b, .sdat kds) ∈ P) (slot : Slot "dict" name id) (hty : typeOf (.builtin id) = pure (.type "method_descriptor"))
    (h : Q (.builtin id, [.ref a]) s) : wpAny (model prog w) A (getMethod (.ref a) name pl) Q E s := by
  obtain ⟨f, kvs, x, e, r⟩ := S.get hm
  exact getMethod_builtin x.typeIs PySem.F.plainAttrs_dict slot hty x.mapOf.noDict h
theorem sdict_get {kds : List (Str × PyData)} {k : Str} {t u : Tok} {i j : Int} {Q : Value → Shared → Prop} (S : SS prog w B s₀ mu L m P D s) (hm : (a, b, .sdat kds) ∈ P) (hk : (gget kds k).getD (.int j) = .int i)
    (h : ∀ t s', SS prog w B s₀ mu L m P D s' → Q (.int i t) s') : wpAny (model prog w) A (call (.builtin "dict.get") [.ref a, .str k t, .int j u]) Q E s := by
  obtain ⟨f, kvs, x, e, r⟩ := S.get hm
  refine call_meetsIn F.slot_dict_get x.typeIs F.entry_dict_get (F.args_dict_get_3 _ _ _) (meets_dict_get_default (strKind prog w) a (isKeyS k t) f (.int j u)) ⟨_, x.mapOf, ?_⟩
  show Q _ _
  rcases gv_get (k := k) e r with ⟨h1, h2⟩ | ⟨v', d', h1, h2, rv'⟩
  · rw [h1]; rw [h2] at hk; cases hk; exact h _ _ S.toks
  · rw [h1]; rw [h2] at hk
    have hk' : d' = .int i := hk
    rw [hk'] at rv'
    obtain ⟨t', rfl⟩ := rv'.int
    exact h _ _ S.toks
theorem sdict_new {kds : List (Str × PyData)} {k : Str} {t : Tok} {v : Value} {d : PyData} {Q : Unit → Shared → Prop} (S : SS prog w B s₀ mu L m P D s) (U : Put a true true (.sdat kds) (.sdat (kds ++ [(k, d)])) P P') (rv : Rd s.heap v d) (hn : gget kds k = none) (hz : kds.length < 1000)
    (h : ∀ s', SS prog w B s₀ mu L m P' D s' → Q () s') : wpAny (model prog w) A (setItem (.ref a) (.str k t) v) Q E s := by
  obtain ⟨f, kvs, x, e, r⟩ := S.get U.mem
  have hl : kvs.length = kds.length := by have := congrArg List.length e; simpa using this
  refine wpAny_setItem_pairs (isKeyS k t) x (fun h' x' hs => h _ (S.to (S.st.turn U ?_ hs))) (by have : (1000 : Nat) ≤ sizeLine := (by decide); walk_at "o")
  obtain ⟨o, es, ep, ho, hx, _⟩ := id x
  have kt := tup_keep1 ho (fun q => absurd (hx.1.symm.trans q.1) (by decide)) (Go.same hs)
  rcases gv_get (k := k) e r with ⟨h1, h2⟩ | ⟨v', d', h1, h2, rv'⟩
  · rw [stored_new h1] at x'
    refine ⟨f, _, x', by rw [List.map_append, List.map_append, e]; rfl, ?_⟩
    rw [List.map_append, List.map_append]
    exact (r.snoc rv).go kt
  · rw [hn] at h2; cases h2
theorem hdict_method {kds : List (List Int × PyData)} {name : Str} {id : String} {pl : Sem Bool} {Q : Value × List Value → Shared → Prop} (S : SS prog w B s₀ mu L m P D s) (hm : (a, b, .hdat kds) ∈ P) (slot : Slot "dict" name id) (hty : typeOf (.builtin id) = pure (.type "method_descriptor"))
    (h : Q (.builtin id, [.ref a]) s) : wpAny (model prog w) A (getMethod (.ref a) name pl) Q E s := by
  obtain ⟨f, kvs, x, e, r⟩ := S.get hm
  exact getMethod_builtin x.typeIs PySem.F.plainAttrs_dict slot hty (dictOfH_noDict x) h
theorem pairKey {h : Heap} {v : Value} {x y : Int} (r : Rd h v (cd x y)) : ∃ l, v = .ref l ∧ (tupleKind (intKind prog w)).is h [x, y] l := by
  obtain ⟨l, o, n, t1, t2, rfl, h1, h2, h3⟩ := cd_open r
  exact ⟨l, rfl, o, _, n, h1, h2, h3, .cons (isKey x t1) (.cons (isKey y t2) .nil)⟩
theorem hdict_get {kds : List (List Int × PyData)} {v : Value} {x y : Int} {u : Tok} {i j : Int} {Q : Value → Shared → Prop} (S : SS prog w B s₀ mu L m P D s) (hm : (a, b, .hdat kds) ∈ P) (hv : (v, cd x y) ∈ D) (hu : A.units + 64 < cLine) (hk : (gget kds [x, y]).getD (.int j) = .int i)
    (h : ∀ t s', SS prog w B s₀ mu L m P D s' → Q (.int i t) s') : wpAny (model prog w) A (call (.builtin "dict.get") [.ref a, v, .int j u]) Q E s := by
  obtain ⟨f, kvs, z, e, r⟩ := S.get hm
  obtain ⟨l, rfl, hkey⟩ := pairKey (prog := prog) (w := w) (S.datum hv)
  refine call_meetsIn F.slot_dict_get z.typeIs F.entry_dict_get (F.args_dict_get_3 _ _ _) (meetsH_dict_get_default (tupleKind (intKind prog w)) a l f (.int j u)) ⟨?_, _, _, hkey, z, ?_⟩
  · show _ < cLine
    first | omega | (simp only [Around.in1, Around.under] ; walk_at "o")
  show Q _ _
  rw [atKey_value]
  have e' : (kvs.map fun x => (x.1, x.2.2)).map (·.1) = kds.map (·.1) := by rw [← e, List.map_map]; rfl
  have r' : RdAll s.heap ((kvs.map fun x => (x.1, x.2.2)).map (·.2)) (kds.map (·.2)) := by rw [List.map_map]; exact r
  rcases gv_get (k := [x, y]) e' r' with ⟨h1, h2⟩ | ⟨v', d', h1, h2, rv'⟩
  · rw [h1]; rw [h2] at hk; cases hk; exact h _ _ S.toks
  · rw [h1]; rw [h2] at hk
    have hk' : d' = .int i := hk
    rw [hk'] at rv'
    obtain ⟨t', rfl⟩ := rv'.int
    exact h _ _ S.toks
theorem hdict_new {kds : List (List Int × PyData)} {vk v : Value} {x y : Int} {d : PyData} {Q : Unit → Shared → Prop} (S : SS prog w B s₀ mu L m P D s) (U : Put a true true (.hdat kds) (.hdat (kds ++ [([x, y], d)])) P P') (hv : (vk, cd x y) ∈ D) (rv : Rd s.heap v d) (hn : gget kds [x, y] = none) (hz : kds.length < 1000)
    (hu : A.units + 64 < cLine) (h : ∀ s', SS prog w B s₀ mu L m P' D s' → Q () s') : wpAny (model prog w) A (setItem (.ref a) vk v) Q E s := by
  obtain ⟨f, kvs, z, e, r⟩ := S.get U.mem
  obtain ⟨l, rfl, hkey⟩ := pairKey (prog := prog) (w := w) (S.datum hv)
  have hl : kvs.length = kds.length := by have := congrArg List.length e; simpa using this
  refine wpAny_setItem_heap (tupleKind_room_in1 (by walk_at "o")) hkey z (fun h' x' hs => h _ (S.to (S.st.turn U ?_ hs))) (by have : (1000 : Nat) ≤ sizeLine := (by decide); walk_at "o")
  obtain ⟨o, es, ep, ho, hx, _⟩ := id z
  have kt := tup_keep1 ho (fun q => absurd (hx.1.symm.trans q.1) (by decide)) (Go.same hs)
  have e' : (kvs.map fun x => (x.1, x.2.2)).map (·.1) = kds.map (·.1) := by rw [← e, List.map_map]; rfl
  have r' : RdAll s.heap ((kvs.map fun x => (x.1, x.2.2)).map (·.2)) (kds.map (·.2)) := by rw [List.map_map]; exact r
  rcases gv_get (k := [x, y]) e' r' with ⟨h1, h2⟩ | ⟨v', d', h1, h2, rv'⟩
  · have hat : atKey kvs [x, y] = none := by
      have q := atKey_value kvs [x, y]
      rw [h1] at q
      simpa using q
    rw [storedH_new hat] at x'
    refine ⟨f, _, x', by rw [List.map_append, List.map_append, e]; rfl, ?_⟩
    rw [List.map_append, List.map_append]
    exact (r.snoc rv).go kt
  · rw [hn] at h2; cases h2
theorem empty_s {h : Heap} (x : (Tr.ddat []).At prog w h a) : (Tr.sdat []).At prog w h a := by
  obtain ⟨f, kvs, ⟨o, es, ep, h1, h2, h3, h4, h5, h6⟩, e, r⟩ := x
  obtain rfl : kvs = [] := by simpa using e
  have e0 : es = #[] := Array.toList_inj.mp (List.length_eq_zero_iff.mp h5.length)
  subst e0
  exact ⟨f, [], ⟨o, #[], ep, h1, h2, h3, (by intro z hz; simp at hz), .nil, List.nodup_nil⟩, rfl, .nil⟩
theorem empty_h {h : Heap} (x : (Tr.ddat []).At prog w h a) : (Tr.hdat []).At prog w h a := by
  obtain ⟨f, kvs, ⟨o, es, ep, h1, h2, h3, h4, h5, h6⟩, e, r⟩ := x
  obtain rfl : kvs = [] := by simpa using e
  have e0 : es.toList = [] := List.length_eq_zero_iff.mp h5.length
  exact ⟨f, [], ⟨o, es, ep, h1, h2, h3, by rw [e0]; rfl, (fun z hz => nomatch hz), List.nodup_nil⟩, rfl, .nil⟩
end
end
section
noncomputable abbrev rowD (r : Str × Int) : PyData := .tuple [.str r.1, .int r.2]
inductive RowsE : List Expr → List (Str × Int) → Prop
  | nil : RowsE [] []
  | cons {x n k1 p1 k2 p2 k p es rs} : RowsE es rs → RowsE (.Tuple [.Constant (.str x) k1 p1, .Constant (.int n) k2 p2] k p :: es) ((x, n) :: rs)
section
variable {prog : Program} {w : World} {A : Around} {E : Value → Shared → Prop} {s₀ s : Shared} {B : Heap} {mu : List Addr} {L : Addr} {m : Str → Option Value} {P : List (Addr × Bool × Tr)} {D : List (Value × PyData)} {env : Env} {pos : Pos}
theorem eval_rows : ∀ {es : List Expr} {rs : List (Str × Int)}, RowsE es rs → ∀ {s : Shared} {D : List (Value × PyData)} {Q : List Value → Shared → Prop}, SS prog w B s₀ mu L m P D s →
    (∀ vs s', SS prog w B s₀ mu L m P D s' → RdAll s'.heap vs (rs.map rowD) → Q vs s') → wpAny (model prog w) A (spliced (backTo pos (starEach es env))) Q E s
  | _, _, .nil, s, D, Q, S, h => spliced_none (h [] s S .nil)
  | _, _, .cons r, s, D, Q, S, h => by
    refine spliced_more ?_
    refine Tuple_ (spliced_more (strS S fun t1 s1 S1 => spliced_more (const_int S1 fun t2 s2 S2 => spliced_none ?_)))
    refine newTuple_rd S2 (ds := [.str _, .int _]) (.cons (Rd.mkStr _ _) (.cons (Rd.mkInt _ _) .nil)) (Nat.le_of_ble_eq_true rfl) fun v s3 S3 => ?_
    exact eval_rows r S3 fun vs s4 S4 z => h _ _ (S4.sub (List.Sublist.refl _) fun p hp => .tail _ hp) (.cons (S4.datum (.head _)) z)
end
theorem perm_front {α : Type} : ∀ (l : List α) (i : Nat) (h : i < l.length), (l[i] :: l.eraseIdx i).Perm l
  | x :: r, 0, _ => List.Perm.refl _
  | x :: r, i + 1, h => (List.Perm.swap _ _ _).trans ((perm_front r i (by simpa using h)).cons x)
theorem SS.perm {prog : Program} {w : World} {B : Heap} {s₀ s : Shared} {mu : List Addr} {L : Addr} {m : Str → Option Value} {P P' : List (Addr × Bool × Tr)} {D : List (Value × PyData)} (S : SS prog w B s₀ mu L m P D s) (x : P'.Perm P) : SS prog w B s₀ mu L m P' D s :=
  ⟨{ S.st with
    at_ := fun p hp => S.st.at_ p (x.mem_iff.mp hp)
    nd := by
      have nd := List.nodup_cons.mp S.st.nd
      have y := x.map (fun p : Addr × Bool × Tr => p.1)
      exact List.nodup_cons.mpr ⟨fun q => nd.1 (y.mem_iff.mp q), y.nodup_iff.mpr nd.2⟩
    own := fun p hp => S.st.own p (x.mem_iff.mp hp) }, S.same⟩
theorem SS.front {prog : Program} {w : World} {B : Heap} {s₀ s : Shared} {mu : List Addr} {L : Addr} {m : Str → Option Value} {P : List (Addr × Bool × Tr)} {D : List (Value × PyData)} (S : SS prog w B s₀ mu L m P D s) (i : Nat) (h : i < P.length := by exact Nat.le_of_ble_eq_true rfl) : SS prog w B s₀ mu L m (P[i] :: P.eraseIdx i) D s :=
  S.perm (perm_front P i h)
theorem symG_eq (T AN FU FN : Addr) : (fun y => if y = Str.ofString "functor_numbers" then some (Value.ref FN) else if y = Str.ofString "functors" then some (.ref FU) else if y = Str.ofString "atom_numbers" then some (.ref AN) else if y = Str.ofString "texts" then some (.ref T) else none) = symG T AN FU FN := by
  funext y
  unfold symG
  by_cases h1 : y = Str.ofString "functor_numbers"
  · subst h1; rfl
  by_cases h2 : y = Str.ofString "functors"
  · subst h2; rfl
  by_cases h3 : y = Str.ofString "atom_numbers"
  · subst h3; rfl
  by_cases h4 : y = Str.ofString "texts"
  · subst h4; rfl
  rw [if_neg h1, if_neg h2, if_neg h3, if_neg h4]
  simp only [List.lookup_cons, List.lookup_nil, beq_eq_false_iff_ne.mpr h1, beq_eq_false_iff_ne.mpr h2, beq_eq_false_iff_ne.mpr h3, beq_eq_false_iff_ne.mpr h4]
theorem storeG_eq (sy H K T : Addr) (mh hb bb : Tok) : (fun y => if y = Str.ofString "bb" then some (Value.int 0 bb) else if y = Str.ofString "hb" then some (.int 0 hb) else if y = Str.ofString "trail" then some (.ref T) else if y = Str.ofString "stack" then some (.ref K) else
    if y = Str.ofString "heap" then some (.ref H) else if y = Str.ofString "max_heap" then some (.int 100000 mh) else if y = Str.ofString "symbols" then some (.ref sy) else none) = storeG sy H K T mh hb bb := by
  funext y
  unfold storeG
  by_cases h1 : y = Str.ofString "symbols"
  · subst h1; rfl
  by_cases h2 : y = Str.ofString "max_heap"
  · subst h2; rfl
  by_cases h3 : y = Str.ofString "heap"
  · subst h3; rfl
  by_cases h4 : y = Str.ofString "stack"
  · subst h4; rfl
  by_cases h5 : y = Str.ofString "trail"
  · subst h5; rfl
  by_cases h6 : y = Str.ofString "hb"
  · subst h6; rfl
  by_cases h7 : y = Str.ofString "bb"
  · subst h7; rfl
  rw [if_neg h1, if_neg h2, if_neg h3, if_neg h4, if_neg h5, if_neg h6, if_neg h7]
  simp only [List.lookup_cons, List.lookup_nil, beq_eq_false_iff_ne.mpr h1, beq_eq_false_iff_ne.mpr h2, beq_eq_false_iff_ne.mpr h3, beq_eq_false_iff_ne.mpr h4, beq_eq_false_iff_ne.mpr h5, beq_eq_false_iff_ne.mpr h6, beq_eq_false_iff_ne.mpr h7]
end
section
noncomputable def IsCellV (v : Value) (o : Obj) : Prop := o.data = .cell (some v)
theorem cell_notTup {v : Option Value} {o : Obj} (h : o.data = .cell v) : ¬ IsTupObj o := fun ⟨_, vs, n, e⟩ => by rw [h] at e; cases e
section
variable {prog : Program} {w : World} {B : Heap} {mu : List Addr} {P : List (Addr × Bool × Tr)} {D : List (Value × PyData)} {A : Around} {E : Value → Shared → Prop} {s : Shared} {K : Frag} {Q : Value → Shared → Prop}
  {name qual : Str} {params : Arguments} {body : List Stmt} {scope : Scope} {dV kV doc pm cdv ct oc : Value} {an od : Option Addr} {osl : Array (Option Value)} {f : Addr} {args : List Value} {binds : List (Str × Value)}
theorem enterC {n : Nat} {C : List (Str × Addr × Value)} {m : Str → Option Value} (G : Gr K B) (r : Room (n + 1) A) (k : Kn prog w B mu P s.heap) (D : List (Value × PyData)) (hD : ∀ p ∈ D, Rd s.heap p.1 p.2)
    (ho : K.lookup f = some ⟨oc, od, .func (fnOf name qual params body scope dV kV doc pm an cdv ct), osl⟩) (hcd : codeIn K cdv qual = true)
    (hbind : BindsTo s (fnOf name qual params body scope dV kV doc pm an cdv ct) ⟨args, []⟩ binds)
    (hkind : ∀ n, KindsOk scope n binds)
    (hC : cellsFrom (s.heap.objs.size + 1) scope.names [] = C.map fun x => (x.1, x.2.1))
    (hV : ∀ x ∈ C, (cellsFrom (s.heap.objs.size + 1) scope.names []).lookup x.1 = some x.2.1 ∧ bindC (envOfC qual scope s.heap.objs.size f cdv).kindOf binds (fun _ => none) x.1 = some x.2.2)
    (hm : bindL (envOfC qual scope s.heap.objs.size f cdv).kindOf binds (fun _ => none) = m)
    (h : ∀ s₁, SS prog w B s mu s.heap.objs.size m (C.map (fun x => (x.2.1, false, Tr.is (IsCellV x.2.2))) ++ P) D s₁ → Room n (A.deeper (envOfC qual scope s.heap.objs.size f cdv)) →
      wpAny (model prog w) (A.deeper (envOfC qual scope s.heap.objs.size f cdv)) (execs body (envOfC qual scope s.heap.objs.size f cdv))
        (fun fl s' => Q (match fl with | .ret v => v | _ => .none) s') (fun _ _ => False) s₁)
    (hco : scope.isCoroutine = false) (hgen : scope.isGenerator = false) (hk : scope.kind = .function) : wpAny (model prog w) A (call (.ref f) args) Q E s := by
  have hdep : A.depth < recursionLimit := by have := r.depth; walk_at "o"
  have hks := hkind (s.heap.objs.size + 1)
  refine wpAny_call (codeAny_call_function hdep (k.keep _ _ (G.X _ _ ho)) rfl hco hgen rfl ((codeRec_of G.X hcd).keeps k.keep) (hbind _ _ _ _ ?_))
  refine wpAny_newFunctionEnv_cells hk (kinds_of hks) fun env' he s' x => ?_
  subst he
  refine ⟨(G.lim.keeps k.keep).keeps x.toInCall.keep, codeAny_func ?_⟩
  obtain ⟨h₁, tk, rfl, hk₁⟩ := x.done
  have x' : InCallC s s.heap.objs.size m (cellsFrom (s.heap.objs.size + 1) scope.names []) (bindC (envOfC qual scope s.heap.objs.size f cdv).kindOf binds fun _ => none) ⟨h₁, s.gens, s.drawn, tk, s.os⟩ := hm ▸ x
  have big : ∀ p ∈ P, p.1 < s.heap.objs.size := fun p hp => let ⟨o, e, _⟩ := (k.at_ p hp).there; Heap.lt_size e
  have cmem : ∀ y ∈ C, (y.1, y.2.1) ∈ cellsFrom (s.heap.objs.size + 1) scope.names [] := fun y hy => by rw [hC]; exact List.mem_map.mpr ⟨y, hy, rfl⟩
  have S : St prog w B s.heap mu s.heap.objs.size m (C.map (fun x => (x.2.1, false, Tr.is (IsCellV x.2.2))) ++ P) D h₁ :=
    { fr := ⟨x'.toInCall.ns, fun b o e => hk₁ b o (k.keep b o e), k.size⟩
      go := ⟨fun b o e _ => hk₁ b o e⟩
      new := no_size _
      at_ := fun p hp => by
        rcases List.mem_append.mp hp with hp | hp
        · obtain ⟨y, hy, rfl⟩ := List.mem_map.mp hp
          obtain ⟨o, e, hd⟩ := x'.cell y.1 y.2.1 (hV y hy).1
          rw [(hV y hy).2] at hd
          exact ⟨o, e, cell_notTup hd, hd⟩
        · exact (k.at_ p hp).move (fun o e => hk₁ _ o e) fun b o e _ => hk₁ b o e
      nd := by
        rw [List.map_append]
        have e1 : (C.map (fun x => (x.2.1, false, Tr.is (IsCellV x.2.2)))).map (fun p : Addr × Bool × Tr => p.1) = (cellsFrom (s.heap.objs.size + 1) scope.names []).map (·.2) := by rw [hC, List.map_map, List.map_map]; rfl
        rw [e1]
        have ab : ∀ c ∈ (cellsFrom (s.heap.objs.size + 1) scope.names []).map (·.2), s.heap.objs.size < c := fun c hc => by
          obtain ⟨y, hy, rfl⟩ := List.mem_map.mp hc
          exact x'.above y.1 y.2 hy
        refine List.nodup_cons.mpr ⟨fun q => ?_, List.nodup_append.mpr ⟨?_, k.nd, fun a ha b hb e => ?_⟩⟩
        · rcases List.mem_append.mp q with q | q
          · exact absurd (ab _ q) (Nat.lt_irrefl _)
          · obtain ⟨p, hp, e⟩ := List.mem_map.mp q
            exact absurd (big p hp) (by rw [e]; exact Nat.lt_irrefl _)
        · show List.Pairwise _ _
          rw [List.pairwise_map]; exact x'.apart
        · obtain ⟨p, hp, e'⟩ := List.mem_map.mp hb
          have h1 := ab a ha
          have h2 := big p hp
          rw [show p.1 = a from e'.trans e.symm] at h2
          exact absurd h1 (Nat.lt_asymm h2)
      own := fun p hp hb => by
        rcases List.mem_append.mp hp with hp | hp
        · obtain ⟨y, hy, rfl⟩ := List.mem_map.mp hp
          cases hb
        · exact ⟨(k.own p hp hb).1, .inl (k.own p hp hb).2⟩
      rd := fun p hp => (hD p hp).go fun b o e _ => hk₁ b o e }
  exact wpAny_mono (h _ ⟨S, Eqv.mk'⟩ (r.deeper _)) (fun _ _ x => x) fun _ _ x => x.elim
end
section
variable {prog : Program} {w : World} {A : Around} {E : Value → Shared → Prop} {s₀ s : Shared} {B : Heap} {mu : List Addr} {L a c : Addr} {m : Str → Option Value} {P P' : List (Addr × Bool × Tr)} {D : List (Value × PyData)} {K : Frag}
  {cn : Str} {cs : Scope} {ccd : Value} {cl : List (Str × Addr)} {x : Str} {pos : Pos} {v : Value} {b : Bool} {Q : Value → Shared → Prop} {scope : Scope} {C : Addr} {env : Env}
theorem comp_core {elt iter : Expr} {px : Pos} {It : Addr} {nn : Nat} {dat : Nat → PyData} {isIt : Nat → Obj → Prop} {src : Heap → Prop}
    (W : Src prog w A It nn dat isIt src) (hself : ∀ (s' : Shared) (R : Value → Shared → Prop) (E : Value → Shared → Prop), (Tr.is (isIt 0)).At prog w s'.heap It → src s'.heap → R (.ref It) s' → wpAny (model prog w) A (pyIter (.ref It)) R E s')
    (k : Kn prog w B mu ((It, true, .is (isIt 0)) :: P) s.heap) (hD : ∀ p ∈ D, Rd s.heap p.1 p.2)
    (hcell : ∀ y ∈ scope.names, y.2 ≠ .cell) (hkind : scope.kind = .function) (hx : scope.names.lookup x = some .local) (hsz : nn < 1000)
    (J : Nat → List PyData → List (Addr × Bool × Tr) → List (Value × PyData) → Prop) (j0 : J 0 [] P D)
    (hlen : ∀ i ds P D, J i ds P D → ds.length ≤ i)
    (hsrc : ∀ i ds P D C acc s₀ m s', J i ds P D → SS prog w B s₀ (acc :: mu) C m ((acc, true, .ldat ds) :: (It, true, .is (isIt i)) :: P) D s' → src s'.heap)
    (turn : ∀ i ds P D v C acc s₀ m s', i < nn → J i ds P D → m x = some v → SS prog w B s₀ (acc :: mu) C m ((acc, true, .ldat ds) :: (It, true, .is (isIt (i + 1))) :: P) ((v, dat i) :: D) s' →
      wpAny (model prog w) A (eval elt (compEnvC scope cl C env)) (fun y s'' => ∃ d m' P' D', Rd s''.heap y d ∧ J (i + 1) (ds ++ [d]) P' D' ∧ SS prog w B s₀ (acc :: mu) C m' ((acc, true, .ldat ds) :: (It, true, .is (isIt (i + 1))) :: P') D' s'') (fun _ _ => False) s')
    (fin : ∀ acc ds P' D' s'', J nn ds P' D' → s.heap.get? acc = none → Go mu s.heap s''.heap → Eqv s s'' → (∀ p ∈ (acc, true, Tr.ldat ds) :: P', p.2.2.At prog w s''.heap p.1) → Q (.ref acc) s'') :
    wpAny (model prog w) A (newList []) (fun acc s₃ => wpAny (model prog w) A (newFunctionEnv scope env.globals cl [] env.qual none .none (some env)) (fun cenv s₄ =>
      codeAny (model prog w) A (.compStart (.ListComp elt [⟨.Name x px, iter, [], 0⟩] scope pos) 0 (.ref It) acc { cenv with scope := relabel scope env }) (compPost (model prog w) A E none Q acc cenv.locals) s₄) E s₃) E s := by
  refine wpAny_newObj_type (wpAny_newFunctionEnv hcell (by intro y hy; simp at hy) (fun h₁ hns₁ hsb₁ => ?_) hkind)
  dsimp only at hns₁ hsb₁ ⊢
  generalize hH2 : s.heap.push { cls := .type "list", dict := none, data := .seq ([] : List Value).toArray } = H2 at hns₁ hsb₁ ⊢
  have sz2 : H2.objs.size = s.heap.objs.size + 1 := by rw [← hH2, Heap.size_push]
  have k2 : ∀ b o, s.heap.get? b = some o → H2.get? b = some o := fun b o e => by rw [← hH2]; exact Heap.get?_push_of_some _ e
  have acc2 : H2.get? s.heap.objs.size = some { cls := .type "list", dict := none, data := .seq ([] : List Value).toArray } := by rw [← hH2]; exact Heap.get?_push_size _ rfl
  have kn : Kn prog w B (s.heap.objs.size :: mu) ((s.heap.objs.size, true, .ldat []) :: (It, true, .is (isIt 0)) :: P) H2 :=
    { keep := fun b o e => k2 b o (k.keep b o e)
      size := by rw [sz2]; exact Nat.le_succ_of_le k.size
      at_ := fun p hp => by
        rcases List.mem_cons.mp hp with rfl | hp
        · exact ⟨[], 0, acc2, .nil⟩
        · exact (k.at_ p hp).move (fun o e => k2 _ o e) fun b o e _ => k2 b o e
      nd := by
        rw [List.map_cons]
        refine List.nodup_cons.mpr ⟨fun q => ?_, k.nd⟩
        obtain ⟨p, hp, e⟩ := List.mem_map.mp q
        obtain ⟨o, e', _⟩ := (k.at_ p hp).there
        have := Heap.lt_size e'
        rw [e] at this; exact absurd this (Nat.lt_irrefl _)
      own := fun p hp hb => by
        rcases List.mem_cons.mp hp with rfl | hp
        · refine ⟨?_, .head _⟩
          cases z : B.get? s.heap.objs.size with
          | none => rfl
          | some o => exact absurd (Heap.lt_size (k.keep _ _ z)) (Nat.lt_irrefl _)
        · exact ⟨(k.own p hp hb).1, .tail _ (k.own p hp hb).2⟩ }
  have S0 : SS prog w B ⟨H2, s.gens, s.drawn, s.toks, s.os⟩ (s.heap.objs.size :: mu) H2.objs.size (fun y => ([] : List (Str × Value)).reverse.lookup y) ((s.heap.objs.size, true, .ldat []) :: (It, true, .is (isIt 0)) :: P) D ⟨h₁, s.gens, s.drawn, s.toks + 0, s.os⟩ :=
    ⟨kn.st hns₁ (fun b o e => hsb₁.extBut b o (Nat.ne_of_lt (Heap.lt_size e)) (Heap.get?_push_of_some _ e)) (fun p hp => (hD p hp).go fun b o e _ => k2 b o e), Eqv.mk'⟩
  have loop : codeAny (model prog w) A (.compLoop (.ListComp elt [⟨.Name x px, iter, [], 0⟩] scope pos) 0 (.ref It) (.ref s.heap.objs.size) (compEnvC scope cl H2.objs.size env))
      (compPost (model prog w) A E none Q (.ref s.heap.objs.size) H2.objs.size) ⟨h₁, s.gens, s.drawn, s.toks + 0, s.os⟩ := by
    refine codeAny_compLoop_list (fun n s' => ∃ i ds P D m, n = nn - i ∧ i ≤ nn ∧ J i ds P D ∧ SS prog w B ⟨H2, s.gens, s.drawn, s.toks, s.os⟩ (s.heap.objs.size :: mu) H2.objs.size m ((s.heap.objs.size, true, .ldat ds) :: (It, true, .is (isIt i)) :: P) D s') ?_ nn
      ⟨0, [], P, D, _, rfl, Nat.zero_le _, j0, S0⟩
    rintro n s' ⟨i, ds, P, D, m, rfl, hi, hJ, S⟩
    have hs := hsrc i ds P D _ _ _ _ s' hJ S
    have st := S.get (.tail _ (.head _))
    by_cases hlt : i < nn
    · refine W.item i _ _ _ hlt st hs fun v h' tk' r st' g => ?_
      refine wpAny_assign_Name ?_
      have S' := S.to (tk := tk') ((S.st.back1 (.tail .head) g st').know r)
      refine wpAny_storeName_local (lookup_relabel_local hx) S'.fr.ns (fun h'' hn hsb => ?_) (by show (((relabel scope env).kind == .class) || (((relabel scope env).kind == .module) && _)) = false; rw [show (relabel scope env).kind = .function from hkind]; rfl)
      have S'' := S'.to (tk := tk' + 1) (S'.st.names hn hsb)
      refine wpAny_mono (turn i ds P D v _ _ _ _ _ hlt hJ (by simp) S'') (fun y s₃ q => ?_) fun _ _ x => x.elim
      obtain ⟨d, m', P', D', ry, hJ', S3⟩ := q
      refine append_ld S3 .head ry ?_ fun s₄ S4 => ⟨nn - (i + 1), by walk_at "o", i + 1, _, P', D', _, rfl, by walk_at "o", hJ', S4⟩
      have := hlen i ds P D hJ
      walk_at "o"
    · obtain rfl : i = nn := by walk_at "o"
      refine W.done _ _ _ st hs fun h' tk' g => ?_
      have T := (S.front 1).st.gone g
      refine ⟨_, T.fr.ns, fun h'' hsb => ?_⟩
      have nd := List.nodup_cons.mp T.nd
      refine fin _ ds P D _ hJ (no_size _) ⟨fun b o e n => ?_⟩ ⟨S.same.gens, S.same.drawn, S.same.os⟩ fun p hp => ?_
      · have lt := Heap.lt_size e
        have e1 := T.go.keep b o (k2 b o e) fun q => by
          rcases List.mem_cons.mp q with q | q
          · exact absurd lt (by rw [q]; exact Nat.lt_irrefl _)
          · exact n q
        exact (hsb.2 b (Nat.ne_of_lt (by rw [sz2]; exact Nat.lt_succ_of_lt lt))).trans e1
      · exact (T.at_ p hp).move (fun o e => (hsb.2 p.1 fun q => nd.1 (q ▸ List.mem_map_of_mem hp)).trans e) (tup_ns T.fr.ns hsb)
  exact codeAny_compStart_list loop (hself _ _ _ (S0.get (.tail _ (.head _))) (hsrc 0 [] P D _ _ _ _ _ j0 S0) loop)
theorem tuple_ld {ds : List PyData} (S : SS prog w B s₀ mu L m P D s) (hm : (a, b, .ldat ds) ∈ P) (hz : ds.length < 1000) (h : ∀ v s', SS prog w B s₀ mu L m P ((v, .tuple ds) :: D) s' → Q v s') :
    wpAny (model prog w) A (call (.type "tuple") [.ref a]) Q E s := by
  obtain ⟨vs, n, x, z⟩ := S.get hm
  have e := z.length
  refine call_tuple_list x.isList (fun h' hk => ?_) (by rw [List.size_toArray, e]; have : (1000 : Nat) ≤ sizeLine := (by decide); walk_at "o")
  have S1 : SS prog w B s₀ mu L m P D ⟨h', s.gens, s.drawn, s.toks, s.os⟩ := S.back ⟨fun b o e _ => hk b o e⟩ Eqv.mk'
  refine h _ _ (S1.to ((S1.st.alloc _).know (Rd.mkTup ⟨_, Heap.get?_push_size _ rfl, rfl, 0, rfl⟩ ((z.go fun b o e _ => hk b o e).go fun b o e _ => Heap.get?_push_of_some _ e))))
end
end
section
inductive AV where
  | d (x : PyData)
  | r (a : Addr)
noncomputable def AV.In (D : List (Value × PyData)) (v : Value) : AV → Prop
  | .d x => (v, x) ∈ D
  | .r a => v = .ref a
noncomputable def AV.At (h : Heap) (v : Value) : AV → Prop
  | .d x => Rd h v x
  | .r a => v = .ref a
noncomputable abbrev PL := List (Addr × Bool × Tr)
noncomputable abbrev NL := List (Str × AV)
noncomputable abbrev DL := List (Value × PyData)
noncomputable def Sb (D D' : DL) : Prop := ∀ p, p ∈ D → p ∈ D'
structure NA (D₀ : DL) (n : NL) (m : Str → Option Value) (D : DL) : Prop where
  base : Sb D₀ D
  get : ∀ x a, n.lookup x = some a → ∃ v, m x = some v ∧ a.In D v
theorem Sb.refl (D : DL) : Sb D D := fun _ h => h
theorem Sb.trans {a b c : DL} (x : Sb a b) (y : Sb b c) : Sb a c := fun p h => y p (x p h)
theorem Sb.cons {p : Value × PyData} {D : DL} : Sb D (p :: D) := fun _ h => .tail _ h
theorem AV.In.sb {a : AV} {v : Value} {D D' : DL} (x : a.In D v) (h : Sb D D') : a.In D' v := by
  cases a with
  | d x' => exact h _ x
  | r _ => exact x
theorem NA.sb {D₀ : DL} {n : NL} {m : Str → Option Value} {D D' : DL} (x : NA D₀ n m D) (h : Sb D D') : NA D₀ n m D' := ⟨x.base.trans h, fun y a e => let ⟨v, h1, h2⟩ := x.get y a e; ⟨v, h1, h2.sb h⟩⟩
structure Cx (prog : Program) (w : World) (B : Heap) (mu : List Addr) (sc : Scope) (k : Nat) where
  s₀ : Shared
  env : Env
  A : Around
  D₀ : DL
  G : Gr (KK w.params) B
  r : Room k A
  hE : EnvAt env env.locals
  hs : env.scope = sc
noncomputable abbrev Cx.L {prog w B mu sc k} (C : Cx prog w B mu sc k) : Addr := C.env.locals
theorem Cx.kl {prog w B mu sc k} (C : Cx prog w B mu sc k) {x : Str} {y : NameKind} (h : sc.names.lookup x = some y) : C.env.kindOf x = some y := by unfold Env.kindOf; rw [C.hs]; exact h
section
variable {prog : Program} {w : World} {B : Heap} {mu : List Addr} {sc : Scope} {k : Nat} (C : Cx prog w B mu sc k)
noncomputable def Cx.S (n : NL) (P : PL) (D : DL) (s : Shared) : Prop := ∃ m, SS prog w B C.s₀ mu C.L m P D s ∧ NA C.D₀ n m D
noncomputable def Ev (n : NL) (P : PL) (e : Expr) (a : AV) : Prop := ∀ (D : DL) {s E} {Q : Value → Shared → Prop}, C.S n P D s →
  (∀ v D' s', C.S n P D' s' → Sb D D' → a.In D' v → Q v s') → wpAny (model prog w) C.A (eval e C.env) Q E s
noncomputable def EvP (n : NL) (P : PL) (e : Expr) (p : Prop) : Prop := ∀ (D : DL) {s E} {Q : Bool → Shared → Prop}, C.S n P D s →
  (∀ b D' s', C.S n P D' s' → Sb D D' → (b = true ↔ p) → Q b s') → wpAny (model prog w) C.A (isTrue e C.env (eval e C.env)) Q E s
noncomputable def Ef (n : NL) (P : PL) (e : Expr) {ι : Type} (H : ι → Prop) (va : ι → AV) (vP : ι → PL) : Prop := ∀ (D : DL) {s E} {Q : Value → Shared → Prop}, C.S n P D s →
  (∀ i v D' s', H i → C.S n (vP i) D' s' → Sb D D' → (va i).In D' v → Q v s') → wpAny (model prog w) C.A (eval e C.env) Q E s
noncomputable def Wb (n : NL) (P : PL) (ss : List Stmt) (R : Flow → Shared → Prop) : Prop := ∀ (D : DL) {s}, C.S n P D s →
  wpAny (model prog w) C.A (execs ss C.env) R (fun _ _ => False) s
inductive AllIn (D : DL) : List Value → List AV → Prop
  | nil : AllIn D [] []
  | cons {v a vs as} : a.In D v → AllIn D vs as → AllIn D (v :: vs) (a :: as)
variable {C}
variable {n : NL} {P P' : PL} {D D' : DL} {s s' : Shared}
theorem Cx.S.get (S : C.S n P D s) {x : Str} {a : AV} (h : n.lookup x = some a) : ∃ m v, SS prog w B C.s₀ mu C.L m P D s ∧ NA C.D₀ n m D ∧ m x = some v ∧ a.In D v :=
  let ⟨m, S, N⟩ := S; let ⟨v, h1, h2⟩ := N.get x a h; ⟨m, v, S, N, h1, h2⟩
theorem AV.In.at {a : AV} {v : Value} (x : a.In D v) (h : ∀ p ∈ D, Rd s.heap p.1 p.2) : a.At s.heap v := by
  cases a with
  | d y => exact h _ x
  | r _ => exact x
theorem Cx.S.at (S : C.S n P D s) {a : AV} {v : Value} (x : a.In D v) : a.At s.heap v := let ⟨_, S, _⟩ := S; x.at S.st.rd
theorem Cx.S.know (S : C.S n P D s) {v : Value} {d : PyData} (x : Rd s.heap v d) : C.S n P ((v, d) :: D) s :=
  let ⟨m, S, N⟩ := S; ⟨m, SS.know S x, N.sb .cons⟩
theorem Cx.S.rd (S : C.S n P D s) {v : Value} {d : PyData} (x : AV.In D v (.d d)) : Rd s.heap v d := let ⟨_, S, _⟩ := S; S.datum x
theorem Cx.S.int (S : C.S n P D s) {v : Value} {i : Int} (x : AV.In D v (.d (.int i))) : ∃ t, v = .int i t := (S.rd x).int
theorem Cx.S.kint (S : C.S n P D s) (i : Int) (t : Tok) : C.S n P ((.int i t, .int i) :: D) s := S.know (Rd.mkInt i t)
variable {x : Str} {p q pos : Pos} {a b : AV} {e e1 e2 e3 : Expr}
theorem Ev.name (h : n.lookup x = some a) (hl : sc.names.lookup x = some .local) (hd : (x == ("__debug__" : Str)) = false) : Ev C n P (.Name x p) a := fun _ _ _ _ S k => by
  obtain ⟨m, v, S', N, h1, h2⟩ := S.get h
  exact wpAny_Name (ldS S' h1 (k v _ _ S (.refl _) h2) C.hE (C.kl hl)) hd
theorem Ev.glob {i : Int} {t : Tok} (e : nsIn (KK w.params) mainGlobals x = some (some (.int i t))) (hl : sc.names.lookup x = some .globalImplicit) (hd : (x == ("__debug__" : Str)) = false) : Ev C n P (.Name x p) (.d (.int i)) := fun _ _ _ _ S k => by
  have S₀ := S
  obtain ⟨m, S, N⟩ := S
  exact nameG_S S C.G e (k _ _ _ (S₀.kint i t) .cons (.head _)) C.hE (C.kl hl) hd
theorem Ev.int {i : Int} {kk : Nat} : Ev C n P (.Constant (.int i) kk p) (.d (.int i)) := fun _ _ _ _ ⟨m, S, N⟩ k =>
  const_int S fun t s' S' => k _ _ _ (Cx.S.kint ⟨m, S', N⟩ i t) .cons (.head _)
theorem Ev.str {i : Str} {kk : Nat} : Ev C n P (.Constant (.str i) kk p) (.d (.str i)) := fun _ _ _ _ ⟨m, S, N⟩ k =>
  strS S fun t s' S' => k _ _ _ (Cx.S.know ⟨m, S', N⟩ (Rd.mkStr i t)) .cons (.head _)
theorem Ev.bool {b : Bool} {kk : Nat} : Ev C n P (.Constant (.bool b) kk p) (.d (.bool b)) := fun _ _ _ _ S k =>
  wpAny_Constant_bool (k _ _ _ (S.know (Reads.bool b)) .cons (.head _))
variable {i j : Int}
theorem Ev.neg (h : Ev C n P e (.d (.int i))) : Ev C n P (.UnaryOp .USub e p) (.d (.int (-i))) := fun _ _ _ _ S k =>
  UnaryOp_ (h _ S fun v D1 s1 S1 b1 h1 => by
    obtain ⟨t, rfl⟩ := S1.int h1
    obtain ⟨m, S1, N1⟩ := S1
    exact negS S1 fun t s2 S2 => k _ _ _ (Cx.S.kint ⟨m, S2, N1⟩ _ t) (b1.trans .cons) (.head _))
theorem Ev.bin2 {op : Operator} {d1 d2 : PyData} {r : AV} (h1 : Ev C n P e1 (.d d1)) (h2 : Ev C n P e2 (.d d2))
    (h : ∀ {v u D s E} {Q : Value → Shared → Prop}, C.S n P D s → (v, d1) ∈ D → (u, d2) ∈ D → (∀ v D' s', C.S n P D' s' → Sb D D' → r.In D' v → Q v s') → wpAny (model prog w) C.A (binaryOp op v u) Q E s) :
    Ev C n P (.BinOp e1 op e2 p) r := fun _ _ _ _ S k =>
  wpAny_BinOp (h1 _ S fun v D1 s1 S1 b1 i1 => h2 _ S1 fun u D2 s2 S2 b2 i2 => h S2 (b2 _ i1) i2 fun r D3 s3 S3 b3 i3 => k _ _ _ S3 ((b1.trans b2).trans b3) i3)
theorem Ev.add (h1 : Ev C n P e1 (.d (.int i))) (h2 : Ev C n P e2 (.d (.int j))) : Ev C n P (.BinOp e1 .Add e2 p) (.d (.int (i + j))) :=
  Ev.bin2 h1 h2 fun S a b k => by
    obtain ⟨t, rfl⟩ := S.int a; obtain ⟨u, rfl⟩ := S.int b; obtain ⟨m, S, N⟩ := S
    exact addS S fun t s2 S2 => k _ _ _ (Cx.S.kint ⟨m, S2, N⟩ _ t) .cons (.head _)
theorem Ev.sub (h1 : Ev C n P e1 (.d (.int i))) (h2 : Ev C n P e2 (.d (.int j))) : Ev C n P (.BinOp e1 .Sub e2 p) (.d (.int (i - j))) :=
  Ev.bin2 h1 h2 fun S a b k => by
    obtain ⟨t, rfl⟩ := S.int a; obtain ⟨u, rfl⟩ := S.int b; obtain ⟨m, S, N⟩ := S
    exact subS S fun t s2 S2 => k _ _ _ (Cx.S.kint ⟨m, S2, N⟩ _ t) .cons (.head _)
theorem Ev.mul (h1 : Ev C n P e1 (.d (.int i))) (h2 : Ev C n P e2 (.d (.int j))) (hm : IntMulOk i j) : Ev C n P (.BinOp e1 .Mult e2 p) (.d (.int (i * j))) :=
  Ev.bin2 h1 h2 fun S a b k => by
    obtain ⟨t, rfl⟩ := S.int a; obtain ⟨u, rfl⟩ := S.int b; obtain ⟨m, S, N⟩ := S
    exact mulS S hm fun t s2 S2 => k _ _ _ (Cx.S.kint ⟨m, S2, N⟩ _ t) .cons (.head _)
theorem Ev.mod (h1 : Ev C n P e1 (.d (.int i))) (h2 : Ev C n P e2 (.d (.int j))) (hj : j ≠ 0) : Ev C n P (.BinOp e1 .Mod e2 p) (.d (.int (i.fmod j))) :=
  Ev.bin2 h1 h2 fun S a b k => by
    obtain ⟨t, rfl⟩ := S.int a; obtain ⟨u, rfl⟩ := S.int b; obtain ⟨m, S, N⟩ := S
    exact modS S hj fun t s2 S2 => k _ _ _ (Cx.S.kint ⟨m, S2, N⟩ _ t) .cons (.head _)
theorem Ev.fdiv (h1 : Ev C n P e1 (.d (.int i))) (h2 : Ev C n P e2 (.d (.int j))) (hj : j ≠ 0) (hp : Builtin.divisionGoesByPylong i j = false) : Ev C n P (.BinOp e1 .FloorDiv e2 p) (.d (.int (i.fdiv j))) :=
  Ev.bin2 h1 h2 fun S a b k => by
    obtain ⟨t, rfl⟩ := S.int a; obtain ⟨u, rfl⟩ := S.int b; obtain ⟨m, S, N⟩ := S
    exact fdivS S hj hp fun t s2 S2 => k _ _ _ (Cx.S.kint ⟨m, S2, N⟩ _ t) .cons (.head _)
variable {op : CmpOp} {p1 p2 p3 : Prop}
noncomputable def Cm (C : Cx prog w B mu sc k) (n : NL) (P : PL) (op : CmpOp) (a b : AV) (p : Prop) : Prop := ∀ (v : Value) {u D s E} {Q : Value → Shared → Prop}, C.S n P D s → a.In D v → b.In D u →
  (∀ c D' s', C.S n P D' s' → Sb D D' → (c = true ↔ p) → Q (.bool c) s') → wpAny (model prog w) C.A (compareOp op v u) Q E s
theorem EvP.cmp (h1 : Ev C n P e1 a) (h2 : Ev C n P e2 b) (h : Cm C n P op a b p1) (hm : behindInMarks op e2 = false) : EvP C n P (.Compare e1 [op] [e2] p) p1 := fun _ _ _ _ S k =>
  wpAny_isTrue_Compare1 (h1 _ S fun v D1 s1 S1 b1 i1 => h2 _ S1 fun u D2 s2 S2 b2 i2 => h _ S2 (i1.sb b2) i2 fun c D3 s3 S3 b3 hc => wpAny_truthy_bool (k c _ _ S3 ((b1.trans b2).trans b3) hc)) hm
theorem Ev.cmp {c : Bool} (h1 : Ev C n P e1 a) (h2 : Ev C n P e2 b) (h : Cm C n P op a b p1) (hm : behindInMarks op e2 = false) (hc : c = true ↔ p1) : Ev C n P (.Compare e1 [op] [e2] p) (.d (.bool c)) := fun _ _ _ _ S k =>
  wpAny_Compare1 (h1 _ S fun v D1 s1 S1 b1 i1 => h2 _ S1 fun u D2 s2 S2 b2 i2 => h _ S2 (i1.sb b2) i2 fun c' D3 s3 S3 b3 hc' => by
    obtain rfl : c' = c := Bool.eq_iff_iff.mpr (hc'.trans hc.symm)
    exact k _ _ _ (S3.know (Reads.bool _)) (((b1.trans b2).trans b3).trans .cons) (.head _)) hm
theorem EvP.and2 (h1 : EvP C n P e1 p1) (h2 : p1 → EvP C n P e2 p2) : EvP C n P (.BoolOp .And [e1, e2] p) (p1 ∧ p2) := fun _ _ _ _ S k =>
  isTrue_and (h1 _ S fun b D1 s1 S1 b1 hb => by
    cases b with
    | false => exact k _ _ _ S1 b1 ⟨fun q => (nomatch q), fun q => absurd (hb.mpr q.1) Bool.false_ne_true⟩
    | true => exact isTrue_and (h2 (hb.mp rfl) _ S1 fun c D2 s2 S2 b2 hc => by
        cases c with
        | false => exact k _ _ _ S2 (b1.trans b2) ⟨fun q => (nomatch q), fun q => absurd (hc.mpr q.2) Bool.false_ne_true⟩
        | true => exact isTrue_and_nil (k _ _ _ S2 (b1.trans b2) ⟨fun _ => ⟨hb.mp rfl, hc.mp rfl⟩, fun _ => rfl⟩)))
theorem EvP.or2 (h1 : EvP C n P e1 p1) (h2 : ¬ p1 → EvP C n P e2 p2) : EvP C n P (.BoolOp .Or [e1, e2] p) (p1 ∨ p2) := fun _ _ _ _ S k =>
  isTrue_or (h1 _ S fun b D1 s1 S1 b1 hb => by
    cases b with
    | true => exact k _ _ _ S1 b1 ⟨fun _ => .inl (hb.mp rfl), fun _ => rfl⟩
    | false =>
      have np : ¬ p1 := fun q => Bool.false_ne_true (hb.mpr q)
      exact isTrue_or (h2 np _ S1 fun c D2 s2 S2 b2 hc => by
        cases c with
        | true => exact k _ _ _ S2 (b1.trans b2) ⟨fun _ => .inr (hc.mp rfl), fun _ => rfl⟩
        | false => exact isTrue_or_nil (k _ _ _ S2 (b1.trans b2) ⟨fun q => (nomatch q), fun q => q.elim (fun z => absurd z np) hc.mpr⟩)))
theorem EvP.or3 (h1 : EvP C n P e1 p1) (h2 : ¬ p1 → EvP C n P e2 p2) (h3 : ¬ p1 → ¬ p2 → EvP C n P e3 p3) : EvP C n P (.BoolOp .Or [e1, e2, e3] p) (p1 ∨ p2 ∨ p3) := fun _ _ _ _ S k =>
  isTrue_or (h1 _ S fun b D1 s1 S1 b1 hb => by
    cases b with
    | true => exact k _ _ _ S1 b1 ⟨fun _ => .inl (hb.mp rfl), fun _ => rfl⟩
    | false =>
      have np : ¬ p1 := fun q => Bool.false_ne_true (hb.mpr q)
      exact isTrue_or (h2 np _ S1 fun c D2 s2 S2 b2 hc => by
        cases c with
        | true => exact k _ _ _ S2 (b1.trans b2) ⟨fun _ => .inr (.inl (hc.mp rfl)), fun _ => rfl⟩
        | false =>
          have np2 : ¬ p2 := fun q => Bool.false_ne_true (hc.mpr q)
          exact isTrue_or (h3 np np2 _ S2 fun d D3 s3 S3 b3 hd => by
            cases d with
            | true => exact k _ _ _ S3 ((b1.trans b2).trans b3) ⟨fun _ => .inr (.inr (hd.mp rfl)), fun _ => rfl⟩
            | false => exact isTrue_or_nil (k _ _ _ S3 ((b1.trans b2).trans b3) ⟨fun q => (nomatch q), fun q => q.elim (fun z => absurd z np) fun q => q.elim (fun z => absurd z np2) hd.mpr⟩))))
theorem EvP.not (h : EvP C n P e p1) : EvP C n P (.UnaryOp .Not e p) (¬ p1) := fun _ _ _ _ S k =>
  isTrue_not (h _ S fun b D1 s1 S1 b1 hb => k _ _ _ S1 b1 (by rw [← hb]; cases b <;> simp))
theorem EvP.val {b : Bool} (h : Ev C n P e (.d (.bool b))) (he : isTrue e C.env (eval e C.env) = (do let v ← eval e C.env; standAt e.pos; holding [v] (truthy v))) : EvP C n P e (b = true) := fun _ _ _ _ S k =>
  isTrue_plain (h _ S fun v D1 s1 S1 b1 i1 => by
    obtain rfl := (S1.rd i1).bool
    exact wpAny_truthy_bool (k _ _ _ S1 b1 Iff.rfl)) he
theorem EvP.iff (h : EvP C n P e p1) (q : p1 ↔ p2) : EvP C n P e p2 := fun _ _ _ _ S k => h _ S fun b D s S b1 hb => k b D s S b1 (hb.trans q)
theorem Ev.or2 {c d : Bool} (h1 : Ev C n P e1 (.d (.bool c))) (h2 : c = false → Ev C n P e2 (.d (.bool d))) : Ev C n P (.BoolOp .Or [e1, e2] p) (.d (.bool (c || d))) := fun _ _ _ _ S k =>
  BoolOp_or (h1 _ S fun v D1 s1 S1 b1 i1 => by
    obtain rfl := (S1.rd i1).bool
    refine wpAny_truthy_bool ?_
    cases c with
    | true => exact k _ _ _ S1 b1 i1
    | false => exact BoolOp_one (h2 rfl _ S1 fun v D2 s2 S2 b2 i2 => k _ _ _ S2 (b1.trans b2) i2))
theorem Ev.and2 {c d : Bool} (h1 : Ev C n P e1 (.d (.bool c))) (h2 : c = true → Ev C n P e2 (.d (.bool d))) : Ev C n P (.BoolOp .And [e1, e2] p) (.d (.bool (c && d))) := fun _ _ _ _ S k =>
  BoolOp_and (h1 _ S fun v D1 s1 S1 b1 i1 => by
    obtain rfl := (S1.rd i1).bool
    refine wpAny_truthy_bool ?_
    cases c with
    | false => exact k _ _ _ S1 b1 i1
    | true => exact BoolOp_one (h2 rfl _ S1 fun v D2 s2 S2 b2 i2 => k _ _ _ S2 (b1.trans b2) i2))
theorem Ev.ife (hc : EvP C n P e1 p1) (h2 : p1 → Ev C n P e2 a) (h3 : ¬ p1 → Ev C n P e3 a) : Ev C n P (.IfExp e1 e2 e3 p) a := fun _ _ _ _ S k =>
  IfExp_ (hc _ S fun b D1 s1 S1 b1 hb => by
    cases b with
    | true => exact h2 (hb.mp rfl) _ S1 fun v D2 s2 S2 b2 i2 => k _ _ _ S2 (b1.trans b2) i2
    | false => exact h3 (fun q => Bool.false_ne_true (hb.mpr q)) _ S1 fun v D2 s2 S2 b2 i2 => k _ _ _ S2 (b1.trans b2) i2)
theorem Cm.eqI : Cm C n P .Eq (.d (.int i)) (.d (.int j)) (i = j) := fun _ _ _ _ _ _ S a b k => by
  obtain ⟨t, rfl⟩ := S.int a; obtain ⟨u, rfl⟩ := S.int b
  exact PyProof.Rows.eq_int (k _ _ _ S (.refl _) beq_iff_eq)
theorem Cm.neI : Cm C n P .NotEq (.d (.int i)) (.d (.int j)) (i ≠ j) := fun _ _ _ _ _ _ S a b k => by
  obtain ⟨t, rfl⟩ := S.int a; obtain ⟨u, rfl⟩ := S.int b
  exact PyProof.Rows.ne_int (k _ _ _ S (.refl _) bne_iff_ne)
theorem Cm.ltI : Cm C n P .Lt (.d (.int i)) (.d (.int j)) (i < j) := fun _ _ _ _ _ _ S a b k => by
  obtain ⟨t, rfl⟩ := S.int a; obtain ⟨u, rfl⟩ := S.int b
  exact PyProof.Rows.lt_int (k _ _ _ S (.refl _) decide_eq_true_iff)
theorem Cm.gtI : Cm C n P .Gt (.d (.int i)) (.d (.int j)) (j < i) := fun _ _ _ _ _ _ S a b k => by
  obtain ⟨t, rfl⟩ := S.int a; obtain ⟨u, rfl⟩ := S.int b
  exact PyProof.Rows.gt_int (k _ _ _ S (.refl _) decide_eq_true_iff)
theorem Cm.geI : Cm C n P .GtE (.d (.int i)) (.d (.int j)) (j ≤ i) := fun _ _ _ _ _ _ S a b k => by
  obtain ⟨t, rfl⟩ := S.int a; obtain ⟨u, rfl⟩ := S.int b
  exact PyProof.Rows.ge_int (k _ _ _ S (.refl _) decide_eq_true_iff)
theorem Cm.eqC {t u t' u' : Int} : Cm C n P .Eq (.d (cd t u)) (.d (cd t' u')) (t = t' ∧ u = u') := fun _ _ _ _ _ _ S a b k =>
  eq_rd (S.rd a) (S.rd b) (cd_shaped _ _) (cd_shaped _ _) C.r.eq (by rw [cd_eqv]; exact k _ _ _ S (.refl _) decide_eq_true_iff)
theorem Cm.ltC {t u u' : Int} : Cm C n P .Lt (.d (cd t u)) (.d (cd t u')) (u < u') := fun _ _ _ _ _ _ S a b k =>
  let ⟨m, S', N⟩ := S; lt_cd S' a b C.r.eq (k _ _ _ S (.refl _) decide_eq_true_iff)
theorem Cm.gtC {t u u' : Int} : Cm C n P .Gt (.d (cd t u)) (.d (cd t u')) (u' < u) := fun _ _ _ _ _ _ S a b k =>
  let ⟨m, S', N⟩ := S; gt_cd S' a b C.r.eq (k _ _ _ S (.refl _) decide_eq_true_iff)
theorem Cm.neC {t u t' u' : Int} : Cm C n P .NotEq (.d (cd t u)) (.d (cd t' u')) (¬ (t = t' ∧ u = u')) := fun _ _ _ _ _ _ S a b k =>
  ne_rd (S.rd a) (S.rd b) (cd_shaped _ _) (cd_shaped _ _) C.r.eq (by rw [cd_eqv]; exact k _ _ _ S (.refl _) (by rw [Bool.not_eq_true', decide_eq_false_iff_not]))
theorem Cm.eqS {x y : Str} : Cm C n P .Eq (.d (.str x)) (.d (.str y)) (x = y) := fun _ _ _ _ _ _ S a b k => by
  obtain ⟨t, rfl⟩ := (S.rd a).str; obtain ⟨u, rfl⟩ := (S.rd b).str
  exact PyProof.Rows.eq_str (k _ _ _ S (.refl _) beq_iff_eq)
theorem Cm.neS {x y : Str} : Cm C n P .NotEq (.d (.str x)) (.d (.str y)) (x ≠ y) := fun _ _ _ _ _ _ S a b k => by
  obtain ⟨t, rfl⟩ := (S.rd a).str; obtain ⟨u, rfl⟩ := (S.rd b).str
  exact PyProof.Rows.ne_str (k _ _ _ S (.refl _) (by simp))
theorem Cm.neB {x y : Bool} : Cm C n P .NotEq (.d (.bool x)) (.d (.bool y)) (x ≠ y) := fun _ _ _ _ _ _ S a b k => by
  obtain rfl := (S.rd a).bool; obtain rfl := (S.rd b).bool
  exact PyProof.Rows.ne_bool (k _ _ _ S (.refl _) (by simp))
end
end
section
section
variable {prog : Program} {w : World} {B : Heap} {mu : List Addr} {sc : Scope} {k : Nat} {C : Cx prog w B mu sc k}
variable {n : NL} {P P' : PL} {D D' : DL} {s s' : Shared} {x name : Str} {p q pos : Pos} {a b : AV} {e e1 e2 e3 : Expr} {es : List Expr} {i j : Int} {ad dx c : Addr} {bo bo' : Bool} {ds : List PyData} {d : PyData} {ss : List Stmt} {R : Flow → Shared → Prop} {p1 : Prop}
noncomputable def plainE : Expr → Bool
  | .Starred _ _ => false
  | _ => true
theorem star_cons {env : Env} (h : plainE e = true) : starEach (e :: es) env = (false, eval e env) :: starEach es env := by
  cases e <;> first | rfl | cases h
theorem star_plain {env : Env} : ∀ {es : List Expr}, es.all plainE = true → (backTo p (starEach es env)).any (·.1) = false
  | [], _ => rfl
  | e :: es, h => by
    rw [List.all_cons, Bool.and_eq_true] at h
    rw [star_cons h.1]
    show (false || (backTo p (starEach es env)).any (·.1)) = false
    rw [star_plain h.2]; rfl
theorem star_plain' {env : Env} : ∀ {es : List Expr}, es.all plainE = true → (backTo p (starEach es env)).all (fun x => !x.1) = true
  | [], _ => rfl
  | e :: es, h => by
    rw [List.all_cons, Bool.and_eq_true] at h
    rw [star_cons h.1]
    show (true && (backTo p (starEach es env)).all (fun x => !x.1)) = true
    rw [star_plain' h.2]; rfl
noncomputable def baseE : Expr → Bool
  | .Name _ _ | .Attribute _ _ _ | .Subscript _ _ _ => true
  | _ => false
theorem base_eq {env : Env} {whole : Sem Value} (h : baseE e = true) : attributeBase e name env whole = whole := by
  cases e <;> first | rfl | cases h
noncomputable def methE (o : Expr) (apos : Pos) (es : List Expr) (pos : Pos) : Bool := baseE o && es.all plainE && Nat.blt es.length 30 && (apos.endLine == pos.line)
theorem meth_eq {o : Expr} {env : Env} {apos : Pos} (h : methE o apos es pos = true) : eval (.Call (.Attribute o name apos) es [] pos) env = (do
      let ov ← eval o env
      standAt apos.atName
      let (f, first) ← holding [ov] (getMethod ov name (do return (← importBound o env).getD true))
      callWith pos f first (backTo pos (starEach es env)) []) := by
  unfold methE at h
  simp only [Bool.and_eq_true] at h
  obtain ⟨⟨⟨h1, h2⟩, h3⟩, h4⟩ := h
  have hm : methodCallForm (es.length + 0) (backTo pos (starEach es env)) (backToKw pos (keywordEach [] env)) = true := by
    unfold methodCallForm
    rw [star_plain' h2]
    show (true && true && decide (es.length + 0 + 0 < 30)) = true
    rw [decide_eq_true (by have := (Nat.blt_eq.mp h3 : es.length < 30); walk_at "o")]; rfl
  show (do
    let ov ← attributeBase o name env (eval o env)
    standAt apos.atName
    methodCall o name apos pos env ov (es.length + 0) (backTo pos (starEach es env)) (backToKw pos (keywordEach [] env))) = _
  rw [base_eq h1]
  unfold methodCall calleeOf methodCallPos
  rw [hm, h4]
  rfl
noncomputable def callE : Expr → Bool
  | .Name _ _ => true
  | _ => false
theorem call_eq {f : Expr} {env : Env} (h : callE f = true) : eval (.Call f es [] p) env = (do callWith p (← eval f env) [] (backTo p (starEach es env)) (backToKw p (keywordEach [] env))) := by
  cases f <;> first | rfl | cases h
noncomputable def testE : Expr → Bool
  | .Call _ _ _ _ | .Name _ _ | .Attribute _ _ _ | .Subscript _ _ _ | .Constant _ _ _ => true
  | _ => false
theorem test_eq {env : Env} {whole : Sem Value} (h : testE e = true) : isTrue e env whole = (do let v ← whole; standAt e.pos; holding [v] (truthy v)) := by
  cases e <;> first | rfl | cases h
noncomputable def Sub (sl : Expr) : Prop := ∀ (v : Value) i t, subscripted sl false v (.int i t) = operate [v, .int i t] (getItem v (.int i t))
theorem Ev.itT (h1 : Ev C n P e1 (.d (.tuple ds))) (h2 : Ev C n P e2 (.d (.int i))) (hs : Sub e2) (hk : ds[i.toNat]? = some d) (hi : 0 ≤ i ∧ i < 100) : Ev C n P (.Subscript e1 e2 p) (.d d) := fun _ _ _ _ S k =>
  Subscript_ (h1 _ S fun v D1 s1 S1 b1 i1 => h2 _ S1 fun u D2 s2 S2 b2 i2 => by
    obtain ⟨t, rfl⟩ := S2.int i2
    obtain ⟨m, S2, N2⟩ := S2
    exact item_rd S2 (b2 _ i1) hi hk (fun u S3 => k u _ _ ⟨m, S3, N2.sb .cons⟩ ((b1.trans b2).trans .cons) (.head _)) (fun a => hs _ _ _))
theorem Ev.itL (h1 : Ev C n P e1 (.r ad)) (h2 : Ev C n P e2 (.d (.int i))) (hs : Sub e2) (hp : (ad, bo, .ldat ds) ∈ P) (hk : ds[i.toNat]? = some d) (h0 : 0 ≤ i) (hz : i < 2 ^ 63) : Ev C n P (.Subscript e1 e2 p) (.d d) := fun _ _ _ _ S k =>
  Subscript_ (h1 _ S fun v D1 s1 S1 b1 i1 => h2 _ S1 fun u D2 s2 S2 b2 i2 => by
    obtain rfl : v = .ref ad := i1
    obtain ⟨t, rfl⟩ := S2.int i2
    obtain ⟨m, S2, N2⟩ := S2
    exact item_ld S2 hp h0 hz hk (fun u S3 => k u _ _ ⟨m, S3, N2.sb .cons⟩ ((b1.trans b2).trans .cons) (.head _)) (hs _ _ _))
theorem Ev.itD {kds : List (Int × PyData)} (h1 : Ev C n P e1 (.r ad)) (h2 : Ev C n P e2 (.d (.int i))) (hs : Sub e2) (hp : (ad, bo, .ddat kds) ∈ P) (hk : kget kds i = some d) : Ev C n P (.Subscript e1 e2 p) (.d d) := fun _ _ _ _ S k =>
  Subscript_ (h1 _ S fun v D1 s1 S1 b1 i1 => h2 _ S1 fun u D2 s2 S2 b2 i2 => by
    obtain rfl : v = .ref ad := i1
    obtain ⟨t, rfl⟩ := S2.int i2
    obtain ⟨m, S2, N2⟩ := S2
    exact dict_item S2 hp hk (fun u s3 S3 => k u _ _ ⟨m, S3, N2.sb .cons⟩ ((b1.trans b2).trans .cons) (.head _)) (hs _ _ _))
theorem Ev.attr {g : Str → Option Value} {kk : Nat} {CC : Addr} {v : Value} {at_ : Option Value} (h1 : Ev C n P (.Name x q) (.r ad)) (hx : (ad, bo, .is (IsInst CC dx)) ∈ P) (hd : (dx, bo', .att g kk) ∈ P) (hl : g name = some v)
    (ha : a.In [] v ∨ ∃ i t, v = .int i t ∧ a = .d (.int i))
    (hg : plainGet (KK w.params) CC name = true) (hh : hasDictIn (KK w.params) CC = true) (hf : findIn (KK w.params) (.ref CC) name = some at_) (hn : noGet (KK w.params) at_ = true) (hv : handedIn v = true) :
    Ev C n P (.Attribute (.Name x q) name p) a := fun _ _ _ _ S k =>
  Attribute_Name_ (h1 _ S fun u D1 s1 S1 b1 i1 => by
    obtain rfl : u = .ref ad := i1
    have S₀ := S1
    obtain ⟨m, S1, N1⟩ := S1
    refine attr_S S1 C.G.X hx hd hg hh hf hn hl hv fun s2 S2 => ?_
    rcases ha with ha | ⟨i, t, rfl, rfl⟩
    · exact k _ _ _ ⟨m, S2, N1⟩ b1 (ha.sb fun _ h => nomatch h)
    · exact k _ _ _ (Cx.S.kint ⟨m, S2, N1⟩ i t) (b1.trans .cons) (.head _))
theorem Ev.attrR {g : Str → Option Value} {kk : Nat} {CC c : Addr} {at_ : Option Value} (h1 : Ev C n P (.Name x q) (.r ad)) (hx : (ad, bo, .is (IsInst CC dx)) ∈ P) (hd : (dx, bo', .att g kk) ∈ P) (hl : g name = some (.ref c))
    (hg : plainGet (KK w.params) CC name = true) (hh : hasDictIn (KK w.params) CC = true) (hf : findIn (KK w.params) (.ref CC) name = some at_) (hn : noGet (KK w.params) at_ = true) :
    Ev C n P (.Attribute (.Name x q) name p) (.r c) := Ev.attr h1 hx hd hl (.inl rfl) hg hh hf hn rfl
theorem Ev.attrI {g : Str → Option Value} {kk : Nat} {CC : Addr} {i : Int} {t : Tok} {at_ : Option Value} (h1 : Ev C n P (.Name x q) (.r ad)) (hx : (ad, bo, .is (IsInst CC dx)) ∈ P) (hd : (dx, bo', .att g kk) ∈ P) (hl : g name = some (.int i t))
    (hg : plainGet (KK w.params) CC name = true) (hh : hasDictIn (KK w.params) CC = true) (hf : findIn (KK w.params) (.ref CC) name = some at_) (hn : noGet (KK w.params) at_ = true) :
    Ev C n P (.Attribute (.Name x q) name p) (.d (.int i)) := Ev.attr h1 hx hd hl (.inr ⟨i, t, rfl, rfl⟩) hg hh hf hn rfl
theorem Cm.inSet {F : Int → Bool} {kk : Nat} (hp : (ad, bo, .set F kk) ∈ P) : Cm C n P .In (.d (.int i)) (.r ad) (F i = true) := fun v u D s E Q S h1 h2 k => by
  obtain ⟨t, rfl⟩ := S.int h1
  obtain rfl : u = .ref ad := h2
  obtain ⟨m, S, N⟩ := S
  exact set_in S hp fun s2 S2 => k _ _ _ ⟨m, S2, N⟩ (.refl _) Iff.rfl
theorem Cm.niSet {F : Int → Bool} {kk : Nat} (hp : (ad, bo, .set F kk) ∈ P) : Cm C n P .NotIn (.d (.int i)) (.r ad) (F i = false) := fun v u D s E Q S h1 h2 k => by
  obtain ⟨t, rfl⟩ := S.int h1
  obtain rfl : u = .ref ad := h2
  obtain ⟨m, S, N⟩ := S
  exact set_notIn S hp fun s2 S2 => k _ _ _ ⟨m, S2, N⟩ (.refl _) (by simp)
theorem Cm.inDct {kds : List (Int × PyData)} (hp : (ad, bo, .ddat kds) ∈ P) : Cm C n P .In (.d (.int i)) (.r ad) ((kget kds i).isSome = true) := fun v u D s E Q S h1 h2 k => by
  obtain ⟨t, rfl⟩ := S.int h1
  obtain rfl : u = .ref ad := h2
  obtain ⟨m, S, N⟩ := S
  exact dict_in S hp fun s2 S2 => k _ _ _ ⟨m, S2, N⟩ (.refl _) Iff.rfl
theorem Cm.niDct {kds : List (Int × PyData)} (hp : (ad, bo, .ddat kds) ∈ P) : Cm C n P .NotIn (.d (.int i)) (.r ad) (kget kds i = .none) := fun v u D s E Q S h1 h2 k => by
  obtain ⟨t, rfl⟩ := S.int h1
  obtain rfl : u = .ref ad := h2
  obtain ⟨m, S, N⟩ := S
  exact dict_notIn S hp fun s2 S2 => k _ _ _ ⟨m, S2, N⟩ (.refl _) (by simp)
inductive EvL (C : Cx prog w B mu sc k) (n : NL) (P : PL) : List Expr → List AV → Prop
  | nil : EvL C n P [] []
  | cons {e : Expr} {es : List Expr} {a : AV} {as : List AV} (h1 : Ev C n P e a) (h2 : EvL C n P es as) (he : plainE e = true) : EvL C n P (e :: es) (a :: as)
theorem EvL.run {as : List AV} (h : EvL C n P es as) : ∀ {D s E pos} {Q : List Value → Shared → Prop}, C.S n P D s →
    (∀ vs D' s', C.S n P D' s' → Sb D D' → AllIn D' vs as → Q vs s') → wpAny (model prog w) C.A (spliced (backTo pos (starEach es C.env))) Q E s := by
  induction h with
  | nil => exact fun S k => spliced_none (k _ _ _ S (.refl _) .nil)
  | cons h1 _ he ih =>
    exact fun S k => spliced_more (h1 _ S fun v D1 s1 S1 b1 i1 => ih S1 fun vs D2 s2 S2 b2 i2 => k _ _ _ S2 (b1.trans b2) (.cons (i1.sb b2) i2)) (star_cons he)
theorem EvL.plain {as : List AV} (h : EvL C n P es as) : es.all plainE = true := by
  induction h with
  | nil => rfl
  | cons _ _ he ih => rw [List.all_cons, he, ih]; rfl
noncomputable def dats : List PyData → List AV := List.map .d
inductive EvD (C : Cx prog w B mu sc k) (n : NL) (P : PL) : List Expr → List PyData → Prop
  | nil : EvD C n P [] []
  | cons {e : Expr} {es : List Expr} {d : PyData} {ds : List PyData} (h1 : Ev C n P e (.d d)) (h2 : EvD C n P es ds) (he : plainE e = true) : EvD C n P (e :: es) (d :: ds)
theorem EvD.to (h : EvD C n P es ds) : EvL C n P es (dats ds) := by
  induction h with
  | nil => exact .nil
  | cons a _ c ih => exact .cons a ih c
theorem AllIn.rdAll {vs : List Value} (S : C.S n P D s) : ∀ {vs ds}, AllIn D vs (dats ds) → RdAll s.heap vs ds
  | [], [], _ => .nil
  | _ :: _, _ :: _, .cons x y => .cons (S.rd x) (AllIn.rdAll (vs := vs) S y)
theorem Ev.tup {kk : Nat} (h : EvD C n P es ds) (hz : Nat.ble ds.length 999 = true) : Ev C n P (.Tuple es kk p) (.d (.tuple ds)) := fun _ _ _ _ S k =>
  Tuple_ (h.to.run S fun vs D1 s1 S1 b1 i1 => by
    have r := i1.rdAll (vs := vs) S1
    obtain ⟨m, S1, N1⟩ := S1
    exact newTuple_rd S1 r (Nat.lt_succ_of_le (Nat.le_of_ble_eq_true hz)) fun v s2 S2 => k _ _ _ ⟨m, S2, N1.sb .cons⟩ (b1.trans .cons) (.head _))
theorem Ef.lst (h : EvD C n P es ds) (hz : Nat.ble ds.length 999 = true) : Ef C n P (.List es p) (ι := Addr) (fun _ => True) .r (fun a => (a, true, .ldat ds) :: P) := fun _ _ _ _ S k =>
  List_ (h.to.run S fun vs D1 s1 S1 b1 i1 => by
    have r := i1.rdAll (vs := vs) S1
    obtain ⟨m, S1, N1⟩ := S1
    exact newList_rd S1 r (Nat.lt_succ_of_le (Nat.le_of_ble_eq_true hz)) fun a s2 S2 => k a _ _ _ trivial ⟨m, S2, N1⟩ b1 rfl)
theorem Ef.dct : Ef C n P (.Dict [] [] p) (ι := Addr) (fun _ => True) .r (fun a => (a, true, .ddat []) :: P) := fun _ _ _ _ ⟨m, S, N⟩ k =>
  dict_new S C.G.lim fun a s2 S2 => k a _ _ _ trivial ⟨m, S2, N⟩ (.refl _) rfl
noncomputable def PFn (prog : Program) (w : World) (B : Heap) (k : Nat) (P : PL) (f : Addr) (as : List AV) (a : AV) : Prop := ∀ (A : Around) {s : Shared} {vs : List Value} {D : DL} {E Q : Value → Shared → Prop}, Room k A → Kn prog w B [] P s.heap →
  (∀ p ∈ D, Rd s.heap p.1 p.2) → AllIn D vs as → (∀ v s', Go [] s.heap s'.heap → Eqv s s' → a.At s'.heap v → Q v s') → wpAny (model prog w) A (call (.ref f) vs) Q E s
theorem S_back (S : C.S n P D s) (g : Go [] s.heap s'.heap) (ee : Eqv s s') : C.S n P D s' := let ⟨m, S, N⟩ := S; ⟨m, S.back g ee, N⟩
theorem S_back_at {v : Value} (S : C.S n P D s) (g : Go [] s.heap s'.heap) (ee : Eqv s s') (x : a.At s'.heap v) : ∃ D', C.S n P D' s' ∧ Sb D D' ∧ a.In D' v := by
  cases a with
  | d y => exact ⟨_, (S_back S g ee).know x, .cons, .head _⟩
  | r y => exact ⟨_, S_back S g ee, .refl _, x⟩
theorem kn_of (S : C.S n P D s) {mu' : List Addr} (sel : Sel mu' P' P) : Kn prog w B mu' P' s.heap := let ⟨_, S, _⟩ := S; S.kn sel
theorem rd_of (S : C.S n P D s) : ∀ p ∈ D, Rd s.heap p.1 p.2 := let ⟨_, S, _⟩ := S; S.st.rd
theorem X_of (S : C.S n P D s) : (KK w.params).In s.heap := let ⟨_, S, _⟩ := S; C.G.X.keeps S.fr.keep
theorem wp_fn {Q E : Value → Shared → Prop} {v : Value} (S : C.S n P D s) (hf : nsIn (KK w.params) mainGlobals x = some (some v)) (hl : sc.names.lookup x = some .globalImplicit) (hd : (x == ("__debug__" : Str)) = false) (h : Q v s) :
    wpAny (model prog w) C.A (eval (.Name x p) C.env) Q E s := let ⟨_, S, _⟩ := S; nameG_S S C.G hf h C.hE (C.kl hl) hd
theorem callWith_all {Q E : Value → Shared → Prop} {f : Value} {first : List Value} {as : List AV} (S : C.S n P D s) (hk : keepIn (KK w.params) f = true) (h : EvL C n P es as)
    (hq : ∀ vs D' s', C.S n P D' s' → Sb D D' → AllIn D' vs as → wpAny (model prog w) C.A (call f (first ++ vs)) Q E s') : wpAny (model prog w) C.A (callWith pos f first (backTo pos (starEach es C.env)) []) Q E s := by
  have hs := h.plain
  cases h with
  | nil => exact callWith_K0 (X_of S) hk (hq [] D s S (.refl _) .nil)
  | cons h1 h2 he => exact callWith_K C.G.X hk ((EvL.cons h1 h2 he).run S fun vs D1 s1 S1 b1 i1 => ⟨X_of S1, hq _ _ _ S1 b1 i1⟩) (star_cons he) (star_plain h2.plain)
theorem Ev.call {f : Addr} {as : List AV} {k' : Nat} (h : EvL C n P es as) (sp : PFn prog w B k' P' f as a) (sel : Sel [] P' P) (hk' : k' ≤ k)
    (hf : nsIn (KK w.params) mainGlobals x = some (some (.ref f))) (hk : keepIn (KK w.params) (.ref f) = true) (hl : sc.names.lookup x = some .globalImplicit) (hd : (x == ("__debug__" : Str)) = false) :
    Ev C n P (.Call (.Name x q) es [] p) a := fun _ _ _ _ S k =>
  Call_ (wp_fn S hf hl hd (callWith_all S hk h fun vs D1 s1 S1 b1 i1 => sp _ (C.r.less hk') (kn_of S1 sel) (rd_of S1) i1 fun v s2 g ee x => by
    obtain ⟨D2, S2, b2, i2⟩ := S_back_at S1 g ee x
    exact k _ _ _ S2 (b1.trans b2) i2)) (call_eq rfl)
theorem Ev.meth {f CC : Addr} {as : List AV} {k' kk : Nat} {g : Str → Option Value} (h1 : Ev C n P e1 (.r ad)) (h : EvL C n P es as) (sp : PFn prog w B k' P' f (.r ad :: as) a) (sel : Sel [] P' P) (hk' : k' ≤ k)
    (hx : (ad, bo, .is (IsInst CC dx)) ∈ P) (hd : (dx, bo', .att g kk) ∈ P) (hl : g name = .none)
    (hg : plainGet (KK w.params) CC name = true) (hf : findIn (KK w.params) (.ref CC) name = some (some (.ref f))) (ht : isFn (KK w.params) (.ref f) = true) (hk : keepIn (KK w.params) (.ref f) = true)
    (hm : methE e1 pos es p = true) :
    Ev C n P (.Call (.Attribute e1 name pos) es [] p) a := fun _ _ _ _ S k =>
  MethodCall_ (h1 _ S fun u D1 s1 S1 b1 i1 => by
    obtain rfl : u = .ref ad := i1
    have S₀ := S1
    obtain ⟨m, S1, N1⟩ := S1
    refine meth_S S1 C.G.X hx hd hg hf ht hl ?_
    exact callWith_all S₀ hk h fun vs D2 s2 S2 b2 i2 => sp _ (C.r.less hk') (kn_of S2 sel) (rd_of S2) (.cons rfl i2) fun v s3 g ee x => by
      obtain ⟨D3, S3, b3, i3⟩ := S_back_at S2 g ee x
      exact k _ _ _ S3 ((b1.trans b2).trans b3) i3) (meth_eq hm)
end
end
section
section
variable {prog : Program} {w : World} {B : Heap} {mu : List Addr} {sc : Scope} {k : Nat} {C : Cx prog w B mu sc k}
variable {n : NL} {P P' : PL} {D D' : DL} {s s' : Shared} {x y name : Str} {p q pos px py : Pos} {a b : AV} {e e1 e2 e3 : Expr} {es : List Expr} {i j : Int} {ad dx c : Addr} {bo bo' : Bool} {ds : List PyData} {d : PyData} {ss ss1 ss2 : List Stmt} {R : Flow → Shared → Prop} {p1 : Prop}
  {ι : Type} {H : ι → Prop} {va : ι → AV} {vP : ι → PL}
theorem callB {Q E : Value → Shared → Prop} {id : String} {first : List Value} {as : List AV} (S : C.S n P D s) (h : EvL C n P es as)
    (hq : ∀ vs D' s', C.S n P D' s' → Sb D D' → AllIn D' vs as → wpAny (model prog w) C.A (call (.builtin id) (first ++ vs)) Q E s') : wpAny (model prog w) C.A (callWith pos (.builtin id) first (backTo pos (starEach es C.env)) []) Q E s := by
  cases h with
  | nil => exact callWith_method0 (by have := hq [] D s S (.refl _) .nil; rwa [List.append_nil] at this)
  | cons h1 h2 he => exact callWith_method1 ((EvL.cons h1 h2 he).run S fun vs D1 s1 S1 b1 i1 => hq _ _ _ S1 b1 i1) (star_cons he) (star_plain h2.plain)
theorem callT {Q E : Value → Shared → Prop} {T : String} {as : List AV} (S : C.S n P D s) (h : EvL C n P es as)
    (hq : ∀ vs D' s', C.S n P D' s' → Sb D D' → AllIn D' vs as → wpAny (model prog w) C.A (call (.type T) vs) Q E s') : wpAny (model prog w) C.A (callWith pos (.type T) [] (backTo pos (starEach es C.env)) []) Q E s := by
  cases h with
  | nil => exact callWith_type0 (hq [] D s S (.refl _) .nil)
  | cons h1 h2 he => exact PyProof.Rows.callWith_type1 ((EvL.cons h1 h2 he).run S fun vs D1 s1 S1 b1 i1 => hq _ _ _ S1 b1 i1) (star_cons he) (star_plain h2.plain)
noncomputable def Blt (w : World) (sc : Scope) (x : Str) (v : Value) : Prop := nsIn (KK w.params) mainGlobals x = some .none ∧ bootBuiltins x = some v ∧ x ≠ "__name__" ∧ sc.names.lookup x = some .globalImplicit ∧ (x == ("__debug__" : Str)) = false
theorem wp_blt {Q E : Value → Shared → Prop} {v : Value} (S : C.S n P D s) (hb : Blt w sc x v) (h : Q v s) : wpAny (model prog w) C.A (eval (.Name x p) C.env) Q E s :=
  let ⟨_, S, _⟩ := S; nameB_S S C.G hb.1 hb.2.1 hb.2.2.1 h C.hE (C.kl hb.2.2.2.1) hb.2.2.2.2
theorem Ev.lenL (hb : Blt w sc x (.builtin "len")) (h : Ev C n P e (.r ad)) (he : plainE e = true) (hp : (ad, bo, .ldat ds) ∈ P) (hz : ds.length < 2 ^ 30) : Ev C n P (.Call (.Name x q) [e] [] p) (.d (.int ds.length)) := fun _ _ _ _ S k =>
  Call_ (wp_blt S hb (callB S (.cons h .nil he) fun vs D1 s1 S1 b1 i1 => by
    cases i1 with | cons i1 i2 => cases i2; obtain rfl := i1; obtain ⟨m, S1, N1⟩ := S1; exact len_ld S1 hp hz fun t s2 S2 => k _ _ _ (Cx.S.kint ⟨m, S2, N1⟩ _ t) (b1.trans .cons) (.head _))) (call_eq rfl)
theorem Ev.lenT (hb : Blt w sc x (.builtin "len")) (h : Ev C n P e (.d (.tuple ds))) (he : plainE e = true) (hz : ds.length < 1000) : Ev C n P (.Call (.Name x q) [e] [] p) (.d (.int ds.length)) := fun _ _ _ _ S k =>
  Call_ (wp_blt S hb (callB S (.cons h .nil he) fun vs D1 s1 S1 b1 i1 => by
    cases i1 with | cons i1 i2 => cases i2; obtain ⟨m, S1, N1⟩ := S1; exact len_rd S1 i1 hz fun t s2 S2 => k _ _ _ (Cx.S.kint ⟨m, S2, N1⟩ _ t) (b1.trans .cons) (.head _))) (call_eq rfl)
theorem Ef.append {d : PyData} (h1 : Ev C n P e1 (.r ad)) (h2 : Ev C n P e2 (.d d)) (hm : methE e1 pos [e2] p = true) (he : plainE e2 = true) (U : Put ad true true (.ldat ds) (.ldat (ds ++ [d])) P P') (hz : ds.length < 2 ^ 20) :
    Ef C n P (.Call (.Attribute e1 "append" pos) [e2] [] p) (ι := Unit) (fun _ => True) (fun _ => .d .none) (fun _ => P') := fun _ _ _ _ S k =>
  MethodCall_ (h1 _ S fun u D1 s1 S1 b1 i1 => by
    obtain rfl : u = .ref ad := i1
    have S₀ := S1
    obtain ⟨m, S1, N1⟩ := S1
    refine method_ld S1 U.mem slot_list_append PySem.F.type_list_append ?_
    exact callB S₀ (.cons h2 .nil he) fun vs D2 s2 S2 b2 i2 => by
      cases i2 with
      | cons i2 i3 =>
        cases i3
        obtain ⟨m, S2, N2⟩ := S2
        exact append_ld S2 U (S2.datum i2) hz fun s3 S3 => k () _ _ _ trivial (Cx.S.know ⟨m, S3, N2⟩ Reads.none) ((b1.trans b2).trans .cons) (.head _)) (meth_eq hm)
theorem Ef.pop {d : PyData} (h1 : Ev C n P e1 (.r ad)) (hm : methE e1 pos [] p = true) (U : Put ad true true (.ldat (ds ++ [d])) (.ldat ds) P P') (hz : ds.length < 2 ^ 20) :
    Ef C n P (.Call (.Attribute e1 "pop" pos) [] [] p) (ι := Unit) (fun _ => True) (fun _ => .d d) (fun _ => P') := fun _ _ _ _ S k =>
  MethodCall_ (h1 _ S fun u D1 s1 S1 b1 i1 => by
    obtain rfl : u = .ref ad := i1
    have S₀ := S1
    obtain ⟨m, S1, N1⟩ := S1
    refine method_ld S1 U.mem PySem.F.slot_list_pop PySem.F.type_list_pop ?_
    exact callB S₀ .nil fun vs D2 s2 S2 b2 i2 => by
      cases i2
      obtain ⟨m, S2, N2⟩ := S2
      exact pop_ld S2 U hz fun v s3 S3 => k () _ _ _ trivial ⟨m, S3, N2.sb .cons⟩ ((b1.trans b2).trans .cons) (.head _)) (meth_eq hm)
theorem Ef.add {F : Int → Bool} {kk : Nat} (h1 : Ev C n P e1 (.r ad)) (h2 : Ev C n P e2 (.d (.int i))) (hm : methE e1 pos [e2] p = true) (he : plainE e2 = true)
    (U : Put ad true true (.set F kk) (.set (fun k' => F k' || decide (k' = i)) (if F i then kk else kk + 1)) P P') (hn : kk < 4000) :
    Ef C n P (.Call (.Attribute e1 "add" pos) [e2] [] p) (ι := Unit) (fun _ => True) (fun _ => .d .none) (fun _ => P') := fun _ _ _ _ S k =>
  MethodCall_ (h1 _ S fun u D1 s1 S1 b1 i1 => by
    obtain rfl : u = .ref ad := i1
    have S₀ := S1
    obtain ⟨m, S1, N1⟩ := S1
    refine set_method S1 U.mem ?_
    exact callB S₀ (.cons h2 .nil he) fun vs D2 s2 S2 b2 i2 => by
      cases i2 with
      | cons i2 i3 =>
        cases i3
        obtain ⟨t, rfl⟩ := S2.int i2
        obtain ⟨m, S2, N2⟩ := S2
        exact set_add S2 U hn fun s3 S3 => k () _ _ _ trivial (Cx.S.know ⟨m, S3, N2⟩ Reads.none) ((b1.trans b2).trans .cons) (.head _)) (meth_eq hm)
theorem Ef.setNew (hb : Blt w sc x (.type "set")) : Ef C n P (.Call (.Name x q) [] [] p) (ι := Addr) (fun _ => True) .r (fun a => (a, true, .set (fun _ => false) 0) :: P) := fun _ _ _ _ S k =>
  Call_ (wp_blt S hb (callT S .nil fun vs D1 s1 S1 b1 i1 => by
    cases i1
    obtain ⟨m, S1, N1⟩ := S1
    exact set_new S1 fun a s2 S2 => k a _ _ _ trivial ⟨m, S2, N1⟩ b1 rfl)) (call_eq rfl)
theorem Ef.one (h : Ev C n P e a) : Ef C n P e (ι := Unit) (fun _ => True) (fun _ => a) (fun _ => P) := fun _ _ _ _ S k => h _ S fun v D1 s1 S1 b1 i1 => k () v _ _ trivial S1 b1 i1
noncomputable def EFn (prog : Program) (w : World) (B : Heap) (k : Nat) (mu : List Addr) (P : PL) (f : Addr) (as : List AV) {ι : Type} (H : ι → Prop) (va : ι → AV) (l : ι → List (Addr × Tr)) (N : ι → PL) : Prop :=
  ∀ (A : Around) {s : Shared} {vs : List Value} {D : DL} {E Q : Value → Shared → Prop}, Room k A → Kn prog w B mu P s.heap → (∀ p ∈ D, Rd s.heap p.1 p.2) → AllIn D vs as →
  (∀ i v s', H i → Go mu s.heap s'.heap → Eqv s s' → (∀ q ∈ l i, q.2.At prog w s'.heap q.1) → New prog w s s' (N i) → (va i).At s'.heap v → Q v s') → wpAny (model prog w) A (call (.ref f) vs) Q E s
theorem S_puts {l : List (Addr × Tr)} {mu' : List Addr} {N P1 : PL} {v : Value} (S : C.S n P D s) (V : Puts l P P1) (hl : l.map (·.1) = mu') (g : Go mu' s.heap s'.heap) (ee : Eqv s s') (x : ∀ q ∈ l, q.2.At prog w s'.heap q.1) (nw : New prog w s s' N) (hv : a.At s'.heap v) :
    ∃ D', C.S n (N ++ P1) D' s' ∧ Sb D D' ∧ a.In D' v := by
  obtain ⟨m, S, NN⟩ := S
  subst hl
  have T := S.backL V g ee x
  have U : C.S n (N ++ P1) D s' := by
    refine ⟨m, ⟨{ T.st with at_ := ?_, nd := ?_, own := ?_ }, T.same⟩, NN⟩
    · intro p hp
      rcases List.mem_append.mp hp with hp | hp
      · exact (nw.1 p hp).1
      · exact T.st.at_ p hp
    · have nd := List.nodup_cons.mp S.st.nd
      have off : ∀ p ∈ N, p.1 ≠ C.L ∧ p.1 ∉ P.map (·.1) := by
        intro p hp
        refine ⟨fun q => ?_, fun q => ?_⟩
        · obtain ⟨o, _, _, e, _⟩ := S.fr.ns
          rw [← q, (nw.1 p hp).2] at e; cases e
        · obtain ⟨p', hp', e'⟩ := List.mem_map.mp q
          obtain ⟨o, e, _⟩ := (S.st.at_ p' hp').there
          rw [e', (nw.1 p hp).2] at e; cases e
      rw [List.map_append, V.keys]
      refine List.nodup_cons.mpr ⟨fun q => ?_, List.nodup_append.mpr ⟨nw.2, nd.2, ?_⟩⟩
      · rcases List.mem_append.mp q with q | q
        · obtain ⟨p, hp, e⟩ := List.mem_map.mp q
          exact (off p hp).1 e
        · exact nd.1 q
      · intro a ha b hb e
        obtain ⟨p, hp, e'⟩ := List.mem_map.mp ha
        exact (off p hp).2 (by rw [e', e]; exact hb)
    · intro p hp hb
      rcases List.mem_append.mp hp with hp | hp
      · have q := (nw.1 p hp).2
        refine ⟨?_, ?_⟩
        · cases z : B.get? p.1 with
          | none => rfl
          | some o => rw [S.fr.keep _ _ z] at q; cases q
        · by_cases hm : p.1 ∈ mu
          · exact .inl hm
          · refine .inr ?_
            cases z : C.s₀.heap.get? p.1 with
            | none => rfl
            | some o => rw [S.st.go.keep _ _ z hm] at q; cases q
      · exact T.st.own p hp hb
  cases a with
  | d y => exact ⟨_, U.know hv, .cons, .head _⟩
  | r y => exact ⟨_, U, .refl _, hv⟩
variable {l : ι → List (Addr × Tr)} {N P1 : ι → PL}
theorem Ef.call {f : Addr} {as : List AV} {k' : Nat} {mu' : List Addr} (h : EvL C n P es as) (sp : EFn prog w B k' mu' P' f as H va l N) (sel : Sel mu' P' P) (hk' : k' ≤ k) (hl : ∀ i, (l i).map (·.1) = mu') (V : ∀ i, Puts (l i) P (P1 i))
    (hf : nsIn (KK w.params) mainGlobals x = some (some (.ref f))) (hk : keepIn (KK w.params) (.ref f) = true) (hx : sc.names.lookup x = some .globalImplicit) (hd : (x == ("__debug__" : Str)) = false) :
    Ef C n P (.Call (.Name x q) es [] p) H va (fun i => N i ++ P1 i) := fun _ _ _ _ S k =>
  Call_ (wp_fn S hf hx hd (callWith_all S hk h fun vs D1 s1 S1 b1 i1 => sp _ (C.r.less hk') (kn_of S1 sel) (rd_of S1) i1 fun i v s2 hi g ee x nw hv => by
    obtain ⟨D2, S2, b2, i2⟩ := S_puts S1 (V i) (hl i) g ee x nw hv
    exact k i _ _ _ hi S2 (b1.trans b2) i2)) (call_eq rfl)
theorem Ef.meth {f CC : Addr} {as : List AV} {k' kk : Nat} {mu' : List Addr} {g : Str → Option Value} (h1 : Ev C n P e1 (.r ad)) (h : EvL C n P es as) (sp : EFn prog w B k' mu' P' f (.r ad :: as) H va l N) (sel : Sel mu' P' P) (hk' : k' ≤ k) (hl : ∀ i, (l i).map (·.1) = mu') (V : ∀ i, Puts (l i) P (P1 i))
    (hx : (ad, bo, .is (IsInst CC dx)) ∈ P) (hd : (dx, bo', .att g kk) ∈ P) (hgl : g name = .none)
    (hg : plainGet (KK w.params) CC name = true) (hf : findIn (KK w.params) (.ref CC) name = some (some (.ref f))) (ht : isFn (KK w.params) (.ref f) = true) (hk : keepIn (KK w.params) (.ref f) = true)
    (hm : methE e1 pos es p = true) :
    Ef C n P (.Call (.Attribute e1 name pos) es [] p) H va (fun i => N i ++ P1 i) := fun _ _ _ _ S k =>
  MethodCall_ (h1 _ S fun u D1 s1 S1 b1 i1 => by
    obtain rfl : u = .ref ad := i1
    have S₀ := S1
    obtain ⟨m, S1, N1⟩ := S1
    refine meth_S S1 C.G.X hx hd hg hf ht hgl ?_
    exact callWith_all S₀ hk h fun vs D2 s2 S2 b2 i2 => sp _ (C.r.less hk') (kn_of S2 sel) (rd_of S2) (.cons rfl i2) fun i v s3 hi g ee x nw hv => by
      obtain ⟨D3, S3, b3, i3⟩ := S_puts S2 (V i) (hl i) g ee x nw hv
      exact k i _ _ _ hi S3 ((b1.trans b2).trans b3) i3) (meth_eq hm)
end
end
section
section
variable {prog : Program} {w : World} {B : Heap} {mu : List Addr} {sc : Scope} {k : Nat} {C : Cx prog w B mu sc k}
variable {n : NL} {P P' : PL} {D D' : DL} {s s' : Shared} {x y name : Str} {p q pos px py : Pos} {a b : AV} {e e1 e2 e3 : Expr} {es : List Expr} {i j : Int} {ad dx c : Addr} {bo bo' : Bool} {ds : List PyData} {d : PyData} {ss ss1 ss2 : List Stmt} {R : Flow → Shared → Prop} {p1 : Prop}
  {ι : Type} {H : ι → Prop} {va : ι → AV} {vP : ι → PL}
noncomputable def valE : Expr → Bool
  | .ListComp .. | .SetComp .. | .DictComp .. => false
  | _ => true
theorem swaps_eq {t : Option Expr} {line : Nat} {env : Env} (h : valE e = true) : swapsWith e t line env = pure false := by
  cases e <;> first | rfl | cases h
theorem NA.put {D₀ : DL} {m : Str → Option Value} {v : Value} (N : NA D₀ n m D) (h : a.In D v) : NA D₀ ((x, a) :: n) (fun y => if y = x then some v else m y) D := ⟨N.base, fun y b e => by
  rw [List.lookup_cons] at e
  by_cases h' : y = x
  · subst h'
    rw [beq_self_eq_true] at e
    cases e
    exact ⟨v, if_pos rfl, h⟩
  · rw [beq_eq_false_iff_ne.mpr h'] at e
    obtain ⟨u, h1, h2⟩ := N.get y b e
    exact ⟨u, (if_neg h').trans h1, h2⟩⟩
theorem Cx.S.store {v : Value} {Q : Unit → Shared → Prop} {E : Value → Shared → Prop} (S : C.S n P D s) (hv : a.In D v) (hl : sc.names.lookup x = some .local) (h : ∀ s', C.S ((x, a) :: n) P D s' → Q () s') :
    wpAny (model prog w) C.A (storeName C.env x v) Q E s := let ⟨m, S, N⟩ := S; stS S (fun s' S' => h s' ⟨_, S', N.put hv⟩) C.hE (C.kl hl)
noncomputable def Rets (C : Cx prog w B mu sc k) (X : AV → PL → Prop) (R : Flow → Shared → Prop) : Prop := ∀ (n : NL) {P a v D s}, X a P → C.S n P D s → a.In D v → R (.ret v) s
noncomputable def Endz (C : Cx prog w B mu sc k) (X : AV → PL → Prop) (R : Flow → Shared → Prop) : Prop := ∀ (n : NL) {P D s}, X (.d .none) P → C.S n P D s → R .next s
theorem Wb.ret {X : AV → PL → Prop} (hR : Rets C X R) (h : Ev C n P e a) (x : X a P) : Wb C n P (.Return (some e) p :: ss) R := fun _ _ S =>
  wpAny_execs_cons (wpAny_Return_some (h _ S fun v D1 s1 S1 b1 i1 => hR _ x S1 i1))
theorem Wb.retF {X : AV → PL → Prop} (hR : Rets C X R) (h : Ef C n P e H va vP) (x : ∀ i, H i → X (va i) (vP i)) : Wb C n P (.Return (some e) p :: ss) R := fun _ _ S =>
  wpAny_execs_cons (wpAny_Return_some (h _ S fun i v D1 s1 hi S1 b1 i1 => hR _ (x i hi) S1 i1))
theorem Wb.end {X : AV → PL → Prop} (hR : Endz C X R) (x : X (.d .none) P) : Wb C n P [] R := fun _ _ S => wpAny_execs_nil (hR _ x S)
theorem Wb.asg (h : Ev C n P e a) (k : Wb C ((x, a) :: n) P ss R) (hl : sc.names.lookup x = some .local) (he : valE e = true) : Wb C n P (.Assign [.Name x px] e p :: ss) R := fun _ _ S =>
  wpAny_execs_cons (wpAny_Assign_Name (h _ S fun v D1 s1 S1 b1 i1 => S1.store i1 hl fun s2 S2 => k _ S2) (swaps_eq he))
theorem Wb.asgF (h : Ef C n P e H va vP) (k : ∀ i, H i → Wb C ((x, va i) :: n) (vP i) ss R) (hl : sc.names.lookup x = some .local) (he : valE e = true) : Wb C n P (.Assign [.Name x px] e p :: ss) R := fun _ _ S =>
  wpAny_execs_cons (wpAny_Assign_Name (h _ S fun i v D1 s1 hi S1 b1 i1 => S1.store i1 hl fun s2 S2 => k i hi _ S2) (swaps_eq he))
theorem Wb.asg2 {d1 d2 : PyData} {kk : Nat} (h : Ef C n P e (ι := Unit) (fun _ => True) (fun _ => .d (.tuple [d1, d2])) (fun _ => P')) (k : Wb C ((y, .d d2) :: (x, .d d1) :: n) P' ss R) (hx : sc.names.lookup x = some .local) (hy : sc.names.lookup y = some .local)
    (hs : swapsWithSole [.Tuple [.Name x px, .Name y py] kk q] e p.line C.env = pure false) (hw : swappedStores [.Tuple [.Name x px, .Name y py] kk q] e C.env = pure .none) :
    Wb C n P (.Assign [.Tuple [.Name x px, .Name y py] kk q] e p :: ss) R := fun _ _ S =>
  wpAny_execs_cons (Assign_Tuple (h _ S fun i v D1 s1 hi S1 b1 i1 => by
    obtain ⟨m, S1, N1⟩ := S1
    exact unpack2 S1 i1 C.r.handled (fun u u' s2 S2 => k _ ⟨_, S2, NA.put (NA.put (N1.sb fun _ h => .tail _ (.tail _ h)) (show AV.In _ _ (.d d1) from .head _)) (show AV.In _ _ (.d d2) from .tail _ (.head _))⟩) C.hE (C.kl hx) (C.kl hy)) hs hw)
noncomputable def nr : AV → Bool
  | .d .none | .d (.int _) | .d (.bool _) | .d (.str _) => true
  | _ => false
theorem nr_of {v : Value} {h : Heap} (hn : nr a = true) (x : a.At h v) : ∀ y, v ≠ .ref y := by
  cases a with
  | r y => cases hn
  | d y =>
    have x : Reads h v y [] := x
    cases x <;> (intro y e; first | (cases e; done) | cases hn)
theorem Wb.expr (h : Ef C n P e H va vP) (hn : ∀ i, nr (va i) = true) (k : ∀ i, H i → Wb C n (vP i) ss R) (he : valE e = true) : Wb C n P (.Expr e p :: ss) R := fun _ _ S =>
  wpAny_execs_cons (wpAny_Expr (h _ S fun i v D1 s1 hi S1 b1 i1 => by
    have q := nr_of (hn i) (S1.at i1)
    cases v <;> first | exact absurd rfl (q _) | exact k i hi _ S1) (by unfold interactive; rw [C.hE.kind]; rfl) (swaps_eq he))
theorem execs_app (env : Env) (ss : List Stmt) : ∀ l : List Stmt, execs (l ++ ss) env = (do match ← execs l env with | .next => execs ss env | f => pure f)
  | [] => rfl
  | st :: l => by
    rw [List.cons_append, execs_cons, execs_cons, bind_assoc]
    congr 1
    funext f
    cases f with
    | next => exact execs_app env ss l
    | _ => rfl
theorem If_app {M : Model} {A : Around} {env : Env} {s : Shared} {E : Value → Shared → Prop} (h : wpAny M A (isTrue e env (eval e env)) (fun b s₂ => wpAny M A (execs ((if b = true then ss1 else ss2) ++ ss) env) R E s₂) E s) :
    wpAny M A (execs (.If e ss1 ss2 p :: ss) env) R E s := fun Γ p hΓ => by
  rw [execs_cons, Sem.wp_bind']
  simp only [exec_If, Sem.wp_bind', Sem.wp_cmd_standAt]
  refine Sem.wp_mono M Γ _ (fun b p₂ s₂ h₂ => ?_) (fun _ _ _ h' => h') _ _ (h Γ _ hΓ)
  have h3 := h₂ Γ p₂ hΓ
  rw [execs_app, Sem.wp_bind'] at h3
  cases b <;> exact h3
theorem Wb.ite (hc : EvP C n P e p1) (ht : p1 → Wb C n P (ss1 ++ ss) R) (hf : ¬ p1 → Wb C n P (ss2 ++ ss) R) : Wb C n P (.If e ss1 ss2 p :: ss) R := fun _ _ S =>
  If_app (hc _ S fun b D1 s1 S1 b1 hb => by
    cases b with
    | true => rw [if_pos rfl]; exact ht (hb.mp rfl) _ S1
    | false => rw [if_neg Bool.false_ne_true]; exact hf (fun q => Bool.false_ne_true (hb.mpr q)) _ S1)
theorem Wb.ite_t (hc : EvP C n P e p1) (hp : p1) (ht : Wb C n P (ss1 ++ ss) R) : Wb C n P (.If e ss1 ss2 p :: ss) R := Wb.ite hc (fun _ => ht) fun q => absurd hp q
theorem Wb.ite_f (hc : EvP C n P e p1) (hp : ¬ p1) (hf : Wb C n P (ss2 ++ ss) R) : Wb C n P (.If e ss1 ss2 p :: ss) R := Wb.ite hc (fun q => absurd q hp) fun _ => hf
theorem Wb.setL {d : PyData} (hv : Ev C n P e (.d d)) (ho : Ev C n P e1 (.r ad)) (hi : Ev C n P e2 (.d (.int i))) (U : Put ad true true (.ldat ds) (.ldat (ds.set i.toNat d)) P P') (h0 : 0 ≤ i) (h1 : i < 2 ^ 63) (hz : i < ds.length) (k : Wb C n P' ss R) (he : valE e = true) :
    Wb C n P (.Assign [.Subscript e1 e2 q] e p :: ss) R := fun _ _ S =>
  wpAny_execs_cons (wpAny_Assign_Subscript (hv _ S fun v D1 s1 S1 b1 i1 => ho _ S1 fun u D2 s2 S2 b2 i2 => hi _ S2 fun t D3 s3 S3 b3 i3 => by
    obtain rfl : u = .ref ad := i2
    obtain ⟨t, rfl⟩ := S3.int i3
    have i4 := (i1.sb b2).sb b3
    obtain ⟨m, S3, N3⟩ := S3
    exact setItem_ld S3 U (S3.datum i4) h0 h1 hz fun s4 S4 => k _ ⟨m, S4, N3⟩) (swaps_eq he))
theorem Wb.setD {d : PyData} {kds : List (Int × PyData)} (hv : Ev C n P e (.d d)) (ho : Ev C n P e1 (.r ad)) (hi : Ev C n P e2 (.d (.int i))) (U : Put ad true true (.ddat kds) (.ddat (kput kds i d)) P P') (hz : kds.length < 1000) (k : Wb C n P' ss R) (he : valE e = true) :
    Wb C n P (.Assign [.Subscript e1 e2 q] e p :: ss) R := fun _ _ S =>
  wpAny_execs_cons (wpAny_Assign_Subscript (hv _ S fun v D1 s1 S1 b1 i1 => ho _ S1 fun u D2 s2 S2 b2 i2 => hi _ S2 fun t D3 s3 S3 b3 i3 => by
    obtain rfl : u = .ref ad := i2
    obtain ⟨t, rfl⟩ := S3.int i3
    have i4 := (i1.sb b2).sb b3
    obtain ⟨m, S3, N3⟩ := S3
    exact dict_set S3 U (S3.datum i4) hz fun s4 S4 => k _ ⟨m, S4, N3⟩) (swaps_eq he))
theorem Wb.inc (hn : n.lookup x = some (.d (.int i))) (h : Ev C n P e (.d (.int j))) (k : Wb C ((x, .d (.int (i + j))) :: n) P ss R) (hl : sc.names.lookup x = some .local) : Wb C n P (.AugAssign (.Name x px) .Add e p :: ss) R := fun D s S => by
  refine wpAny_execs_cons (wpAny_AugAssign_Name ?_)
  obtain ⟨m, v, S', N, h1, h2⟩ := S.get hn
  refine ldS S' h1 ?_ C.hE (C.kl hl)
  refine h _ S fun u D1 s1 S1 b1 i1 => ?_
  obtain ⟨t, rfl⟩ := S1.int (h2.sb b1)
  obtain ⟨t', rfl⟩ := S1.int i1
  obtain ⟨m1, S1, N1⟩ := S1
  refine iaddS S1 fun t2 s2 S2 => ?_
  exact Cx.S.store (a := .d (.int (i + j))) (Cx.S.kint ⟨m1, S2, N1⟩ _ t2) (.head _) hl fun s3 S3 => k _ S3
noncomputable def NSub : NL → NL → Prop
  | [], _ => True
  | (x, a) :: r, n => n.lookup x = some a ∧ NSub r n
theorem NSub.get : ∀ {n n' : NL}, NSub n n' → ∀ x a, n.lookup x = some a → n'.lookup x = some a
  | [], _, _, x, a, e => by cases e
  | (y, b) :: r, n', h, x, a, e => by
    rw [List.lookup_cons] at e
    by_cases h' : x = y
    · subst h'
      rw [beq_self_eq_true] at e
      cases e
      exact h.1
    · rw [beq_eq_false_iff_ne.mpr h'] at e
      exact h.2.get x a e
theorem Cx.S.sub {n' : NL} (S : C.S n' P' D s) (h : NSub n n') (hp : P.Sublist P') : C.S n P D s :=
  let ⟨m, S, N⟩ := S; ⟨m, SS.sub S hp fun _ h => h, N.base, fun x a e => N.get x a (h.get x a e)⟩
theorem Wb.less {n' : NL} (h : NSub n n') (hp : P.Sublist P') (k : Wb C n P ss R) : Wb C n' P' ss R := fun _ _ S => k _ (S.sub h hp)
noncomputable def LEnds (C : Cx prog w B mu sc k) {ι : Type} (N : ι → NL) (PP : ι → PL) (J : ι → Prop) (R : Flow → Shared → Prop) : Prop := ∀ (j : ι) {D s}, J j → C.S (N j) (PP j) D s → R .next s ∧ R .cont s
theorem Wb.turn {N : ι → NL} {PP : ι → PL} {J : ι → Prop} (hT : LEnds C N PP J R) (j : ι) (hj : J j) (hn : NSub (N j) n) (hP : (PP j).Sublist P) : Wb C n P [] R := fun _ _ S => wpAny_execs_nil (hT _ hj (S.sub hn hP)).1
theorem Wb.whl {X : AV → PL → Prop} {N : ι → NL} {PP : ι → PL} {H : ι → Prop} {μ : ι → Nat} {pp : ι → Prop} (hR : Rets C X R) (i0 : ι) (h0 : H i0) (hn : NSub (N i0) n) (hP : (PP i0).Sublist P)
    (hc : ∀ i, H i → EvP C (N i) (PP i) e (pp i))
    (hb : ∀ (R' : Flow → Shared → Prop) i, Rets C X R' → LEnds C N PP (fun j => H j ∧ μ j < μ i) R' → H i → pp i → Wb C (N i) (PP i) ss1 R')
    (hd : ∀ i, H i → ¬ pp i → Wb C (N i) (PP i) ss R) : Wb C n P (.While e ss1 [] p :: ss) R := fun _ _ S => by
  refine wpAny_execs_cons (While_ (fun m s' => ∃ i D, H i ∧ μ i = m ∧ C.S (N i) (PP i) D s') (n₀ := μ i0) ⟨i0, _, h0, rfl, S.sub hn hP⟩ ?_)
  rintro m s' ⟨i, D, hi, rfl, S⟩
  refine hc i hi _ S fun b D1 s1 S1 b1 hb' => ?_
  by_cases hpb : b = true
  · subst hpb
    rw [if_pos rfl]
    refine hb _ i (fun _ P a v D s x S v => ?_) (fun j D s hj S => ⟨?_, ?_⟩) hi (hb'.mp rfl) _ S1
    · exact hR _ x S v
    · exact ⟨μ j, hj.2, j, _, hj.1, rfl, S⟩
    · exact ⟨μ j, hj.2, j, _, hj.1, rfl, S⟩
  · rw [if_neg hpb]
    exact hd i hi (fun q => hpb (hb'.mpr q)) _ S1
noncomputable def Cx.keep (C : Cx prog w B mu sc k) (D : DL) : Cx prog w B mu sc k := { C with D₀ := D }
theorem Cx.S.out {D₁ : DL} (b : Sb C.D₀ D₁) (S : (C.keep D₁).S n P D s) : C.S n P D s := let ⟨m, S, N⟩ := S; ⟨m, S, b.trans N.base, N.get⟩
noncomputable def FR (C : Cx prog w B mu sc k) (I : Addr) (t : Tr) (J : (Str → Option Value) → PL → DL → Prop) (ss : List Stmt) (R : Flow → Shared → Prop) : Flow → Shared → Prop :=
  FEnd prog w B C.s₀ mu C.L I t J (fun f s' => match f with | .next => wpAny (model prog w) C.A (execs ss C.env) R (fun _ _ => False) s' | f => R f s')
theorem Wb.forT {X : AV → PL → Prop} {N : Nat → ι → NL} {PP : Nat → ι → PL} {H : Nat → ι → Prop} (hR : Rets C X R) (i0 : ι) (h0 : H 0 i0) (hi : Ev C n P e (.d (.tuple ds))) (hn : NSub (N 0 i0) n) (hP : (PP 0 i0).Sublist P)
    (hb : ∀ (C' : Cx prog w B mu sc k) (R' : Flow → Shared → Prop) I i j d (t : Tr), Rets C' X R' → LEnds C' (N (i + 1)) (fun j => (I, true, t) :: PP (i + 1) j) (H (i + 1)) R' → ds[i]? = some d → H i j → Wb C' ((x, .d d) :: N i j) ((I, true, t) :: PP i j) ss1 R')
    (hd : ∀ j, H ds.length j → Wb C (N ds.length j) (PP ds.length j) ss R) (hl : sc.names.lookup x = some .local) (hf : ∀ x, foldedSetIterable e C.env x = pure x) : Wb C n P (.For (.Name x px) e ss1 [] p :: ss) R := fun _ _ S => by
  refine wpAny_execs_cons (wpAny_For (hi _ S fun v D1 s1 S1 b1 i1 => ?_) hf)
  obtain ⟨m, S1, N1⟩ := S1.sub hn hP
  refine iter_tuple C.r.handled S1 i1 (fun i m P D => ∃ j, H i j ∧ P = PP i j ∧ NA D1 (N i j) m D) ⟨i0, h0, rfl, ⟨.refl _, N1.get⟩⟩ (fun i m P D ⟨j, _, _, h⟩ => h.base _ i1) ?_ ?_ C.hE (C.kl hl)
  · rintro I i u d m P D s' hd' ⟨j, hj, rfl, N2⟩ S'
    exact hb (C.keep D1) (FR C I (.is (ItTup (adr v) (i + 1))) (fun m P D => ∃ j, H (i + 1) j ∧ P = PP (i + 1) j ∧ NA D1 (N (i + 1) j) m D) ss R) I i j d _ (fun _ P a v D s x S y => hR _ x (S.out N1.base) y)
      (fun j D s hj ⟨m, S, N⟩ => ⟨⟨m, _, D, ⟨j, hj, rfl, N⟩, S⟩, ⟨m, _, D, ⟨j, hj, rfl, N⟩, S⟩⟩) hd' hj _ ⟨_, S', NA.put (N2.sb .cons) (show AV.In _ _ (.d d) from .head _)⟩
  · rintro m P D s' ⟨j, hj, rfl, N2⟩ S'
    exact hd j hj _ ⟨m, S', N1.base.trans N2.base, N2.get⟩
noncomputable def IterB (C : Cx prog w B mu sc k) (n : NL) (P : PL) (x : Str) (px : Pos) (a : AV) (ss1 ss : List Stmt) (R : Flow → Shared → Prop) : Prop := ∀ (D : DL) (v : Value) (s : Shared), C.S n P D s → a.In D v →
  wpAny (model prog w) C.A (pyIter v) (fun it s₂ => codeAny (model prog w) C.A (.forLoop (.Name x px) it ss1 [] C.env)
    (ForR prog w C.A C.env (fun _ _ => False) (fun f s' => match f with | .next => wpAny (model prog w) C.A (execs ss C.env) R (fun _ _ => False) s' | f => R f s')) s₂) (fun _ _ => False) s
theorem Wb.forF (hi : Ef C n P e H va vP) (k : ∀ i, H i → IterB C n (vP i) x px (va i) ss1 ss R) (hf : ∀ x, foldedSetIterable e C.env x = pure x) : Wb C n P (.For (.Name x px) e ss1 [] p :: ss) R := fun _ _ S =>
  wpAny_execs_cons (wpAny_For (hi _ S fun i v D1 s1 hi S1 b1 i1 => k i hi _ _ _ S1 i1) hf)
theorem IterB.list {X : AV → PL → Prop} {N : Nat → ι → NL} {PP : Nat → ι → PL} {H : Nat → ι → Prop} (hR : Rets C X R) (i0 : ι) (h0 : H 0 i0) (hm : ∀ i j, (ad, bo, .ldat ds) ∈ PP i j) (hn : NSub (N 0 i0) n) (hP : (PP 0 i0).Sublist P)
    (hb : ∀ (R' : Flow → Shared → Prop) I i j d (t : Tr), Rets C X R' → LEnds C (N (i + 1)) (fun j => (I, true, t) :: PP (i + 1) j) (H (i + 1)) R' → ds[i]? = some d → H i j → Wb C ((x, .d d) :: N i j) ((I, true, t) :: PP i j) ss1 R')
    (hd : ∀ j, H ds.length j → Wb C (N ds.length j) (PP ds.length j) ss R) (hl : sc.names.lookup x = some .local) : IterB C n P x px (.r ad) ss1 ss R := fun D1 v s1 S1 i1 => by
  obtain rfl : v = .ref ad := i1
  obtain ⟨m, S1, N1⟩ := S1.sub hn hP
  refine iter_list C.r.handled S1 (hm _ _) (fun i m P D => ∃ j, H i j ∧ P = PP i j ∧ NA C.D₀ (N i j) m D) ⟨i0, h0, rfl, N1⟩ (fun i m P D ⟨j, _, e, _⟩ => e ▸ hm _ _) ?_ ?_ C.hE (C.kl hl)
  · rintro I i u d m P D s' hd' ⟨j, hj, rfl, N2⟩ S'
    exact hb (FR C I (.is (ItList ad (i + 1))) (fun m P D => ∃ j, H (i + 1) j ∧ P = PP (i + 1) j ∧ NA C.D₀ (N (i + 1) j) m D) ss R) I i j d _ (fun _ P a v D s x S y => hR _ x S y)
      (fun j D s hj ⟨m, S, N⟩ => ⟨⟨m, _, D, ⟨j, hj, rfl, N⟩, S⟩, ⟨m, _, D, ⟨j, hj, rfl, N⟩, S⟩⟩) hd' hj _ ⟨_, S', NA.put (N2.sb .cons) (show AV.In _ _ (.d d) from .head _)⟩
  · rintro m P D s' ⟨j, hj, rfl, N2⟩ S'
    exact hd j hj _ ⟨m, S', N2⟩
theorem Cx.S.store' {m : Str → Option Value} {i : Int} {t : Tok} (S : SS prog w B C.s₀ mu C.L (fun y => if y = x then some (.int i t) else m y) P D s) (N : NA C.D₀ n m D) : C.S ((x, .d (.int i)) :: n) P ((.int i t, .int i) :: D) s :=
  ⟨_, SS.know S (Rd.mkInt i t), NA.put (N.sb .cons) (show AV.In _ _ (.d (.int i)) from .head _)⟩
theorem Ef.range1 (hb : Blt w sc x (.type "range")) (h : Ev C n P e (.d (.int i))) (he : plainE e = true) : Ef C n P (.Call (.Name x q) [e] [] p) (ι := Addr) (fun _ => True) .r (fun a => (a, true, .is (IsRg 0 i 1)) :: P) := fun _ _ _ _ S k =>
  Call_ (wp_blt S hb (callT S (.cons h .nil he) fun vs D1 s1 S1 b1 i1 => by
    cases i1 with
    | cons i1 i2 =>
      cases i2
      obtain ⟨t, rfl⟩ := S1.int i1
      obtain ⟨m, S1, N1⟩ := S1
      exact range_1 S1 fun a s2 S2 => k a _ _ _ trivial ⟨m, S2, N1⟩ b1 rfl)) (call_eq rfl)
theorem Ef.range3 {i1 i2 i3 : Int} (hb : Blt w sc x (.type "range")) (h1 : Ev C n P e1 (.d (.int i1))) (h2 : Ev C n P e2 (.d (.int i2))) (h3 : Ev C n P e3 (.d (.int i3))) (hs : [e1, e2, e3].all plainE = true) (hz : i3 ≠ 0) (hp : Builtin.divisionGoesByPylong (i2 - i1) i3 = false) :
    Ef C n P (.Call (.Name x q) [e1, e2, e3] [] p) (ι := Addr) (fun _ => True) .r (fun a => (a, true, .is (IsRg i1 i2 i3)) :: P) := fun _ _ _ _ S k =>
  have hs' : plainE e1 = true ∧ plainE e2 = true ∧ plainE e3 = true := by simpa using hs
  Call_ (wp_blt S hb (callT S (.cons h1 (.cons h2 (.cons h3 .nil hs'.2.2) hs'.2.1) hs'.1) fun vs D1 s1 S1 b1 i1 => by
    cases i1 with
    | cons a1 i1 => cases i1 with
      | cons a2 i1 => cases i1 with
        | cons a3 i1 =>
          cases i1
          obtain ⟨t, rfl⟩ := S1.int a1
          obtain ⟨t, rfl⟩ := S1.int a2
          obtain ⟨t, rfl⟩ := S1.int a3
          obtain ⟨m, S1, N1⟩ := S1
          exact range_3 S1 hz hp fun a s2 S2 => k a _ _ _ trivial ⟨m, S2, N1⟩ b1 rfl)) (call_eq rfl)
theorem Wb.forR {X : AV → PL → Prop} {N : Nat → ι → NL} {PP : Nat → ι → PL} {H : Nat → ι → Prop} {p0 q0 c0 : Int} {nn : Nat} (hR : Rets C X R) (i0 : ι) (h0 : H 0 i0) (hi : Ef C n P e (ι := Addr) (fun _ => True) .r (fun a => (a, true, .is (IsRg p0 q0 c0)) :: P))
    (hs : Builtin.Range.small p0 q0 c0 = true) (hz : Builtin.Range.rangeSize p0 q0 c0 = (nn : Int)) (hn : NSub (N 0 i0) n) (hP : (PP 0 i0).Sublist P)
    (hb : ∀ (R' : Flow → Shared → Prop) I i j (t : Tr), Rets C X R' → LEnds C (N (i + 1)) (fun j => (I, true, t) :: PP (i + 1) j) (H (i + 1)) R' → i < nn → H i j → Wb C ((x, .d (.int (p0 + (i : Nat) * c0))) :: N i j) ((I, true, t) :: PP i j) ss1 R')
    (hd : ∀ j, H nn j → Wb C (N nn j) (PP nn j) ss R) (hl : sc.names.lookup x = some .local) (hf : ∀ x, foldedSetIterable e C.env x = pure x) : Wb C n P (.For (.Name x px) e ss1 [] p :: ss) R := fun _ _ S => by
  refine wpAny_execs_cons (wpAny_For (hi _ S fun r v D1 s1 _ S1 b1 i1 => ?_) hf)
  obtain rfl : v = .ref r := i1
  have S₀ := S1
  obtain ⟨m, S1, N1⟩ := S1
  have S2 := S1.sub ((hP.trans (List.sublist_cons_self _ _))) fun _ h => h
  refine iter_range C.r.handled S1 (.head _) S2 hs hz (fun i m P D => ∃ j, H i j ∧ P = PP i j ∧ NA C.D₀ (N i j) m D) ⟨i0, h0, rfl, N1.base, fun x a e => N1.get x a (hn.get x a e)⟩ ?_ ?_ C.hE (C.kl hl)
  · rintro I i kk t m P D s' hi' rfl ⟨j, hj, rfl, N2⟩ S'
    exact hb (FR C I (.is (ItRange p0 c0 nn (i + 1))) (fun m P D => ∃ j, H (i + 1) j ∧ P = PP (i + 1) j ∧ NA C.D₀ (N (i + 1) j) m D) ss R) I i j _ (fun _ P a v D s x S y => hR _ x S y)
      (fun j D s hj ⟨m, S, N⟩ => ⟨⟨m, _, D, ⟨j, hj, rfl, N⟩, S⟩, ⟨m, _, D, ⟨j, hj, rfl, N⟩, S⟩⟩) hi' hj _ (Cx.S.store' S' N2)
  · rintro m P D s' ⟨j, hj, rfl, N2⟩ S'
    exact hd j hj _ ⟨m, S', N2⟩
end
end
section
section
variable {prog : Program} {w : World} {B : Heap} {mu : List Addr} {sc : Scope} {k : Nat}
variable {P : PL} {f : Addr} {x x1 x2 x3 x4 : Str} {a a1 a2 a3 a4 : AV}
  {name qual : Str} {params : Arguments} {body : List Stmt} {dV kV doc pm cdv ct oc : Value} {an od : Option Addr} {osl : Array (Option Value)}
structure FnI where
  oc : Value
  od : Option Addr
  osl : Array (Option Value)
  name : Str
  qual : Str
  params : Arguments
  dV : Value
  kV : Value
  doc : Value
  pm : Value
  an : Option Addr
  cdv : Value
  ct : Value
structure Is (w : World) (f : Addr) (sc : Scope) (body : List Stmt) (xs : List Str) : Prop where
  get : ∃ i : FnI, (KK w.params).lookup f = some ⟨i.oc, i.od, .func (fnOf i.name i.qual i.params body sc i.dV i.kV i.doc i.pm i.an i.cdv i.ct), i.osl⟩ ∧ codeIn (KK w.params) i.cdv i.qual = true ∧
    ∀ (s : Shared) (vs : List Value), vs.length = xs.length → BindsTo s (fnOf i.name i.qual i.params body sc i.dV i.kV i.doc i.pm i.an i.cdv i.ct) ⟨vs, []⟩ (xs.zip vs)
  loc : ∀ x ∈ xs, sc.names.lookup x = some .local
  co : sc.isCoroutine = false
  gen : sc.isGenerator = false
  kind : sc.kind = .function
  cell : ∀ x ∈ sc.names, x.2 ≠ .cell
theorem Is.of {xs : List Str} (h1 : (KK w.params).lookup f = some ⟨oc, od, .func (fnOf name qual params body sc dV kV doc pm an cdv ct), osl⟩) (h2 : codeIn (KK w.params) cdv qual = true)
    (h3 : ∀ (s : Shared) (vs : List Value), vs.length = xs.length → BindsTo s (fnOf name qual params body sc dV kV doc pm an cdv ct) ⟨vs, []⟩ (xs.zip vs)) (h4 : (xs.all fun x => sc.names.lookup x == some .local) = true)
    (h5 : sc.isCoroutine = false) (h6 : sc.isGenerator = false) (h7 : sc.kind = .function) (h8 : (sc.names.all fun x => !(x.2 == .cell)) = true) : Is w f sc body xs :=
  ⟨⟨⟨oc, od, osl, name, qual, params, dV, kV, doc, pm, an, cdv, ct⟩, h1, h2, h3⟩, fun x hx => beq_iff_eq.mp (List.all_eq_true.mp h4 x hx), h5, h6, h7, fun x hx e => by
    have := List.all_eq_true.mp h8 x hx
    rw [e] at this; exact absurd this (by decide)⟩
inductive AllN (D : DL) : List (Str × Value) → NL → Prop
  | nil : AllN D [] []
  | cons {x v a l n} : a.In D v → AllN D l n → AllN D ((x, v) :: l) ((x, a) :: n)
theorem AllN.na {D : DL} {l : List (Str × Value)} {n : NL} (h : AllN D l n) : NA [] n (fun y => l.lookup y) D := by
  induction h with
  | nil => exact ⟨fun _ h => (nomatch h), fun x a e => by cases e⟩
  | @cons x v a l n h2 t ih =>
    refine ⟨fun _ h => (nomatch h), fun z b e => ?_⟩
    rw [List.lookup_cons] at e
    show ∃ u, ((x, v) :: l).lookup z = some u ∧ _
    rw [List.lookup_cons]
    cases q : z == x with
    | true => rw [q] at e; cases e; exact ⟨v, rfl, h2⟩
    | false => rw [q] at e; exact ih.get z b e
theorem AllN.app {D : DL} {l l' : List (Str × Value)} {n n' : NL} (h : AllN D l n) (h' : AllN D l' n') : AllN D (l ++ l') (n ++ n') := by
  induction h with
  | nil => exact h'
  | cons a _ ih => exact .cons a ih
theorem AllN.rev {D : DL} {l : List (Str × Value)} {n : NL} (h : AllN D l n) : AllN D l.reverse n.reverse := by
  induction h with
  | nil => exact .nil
  | cons a _ ih => rw [List.reverse_cons, List.reverse_cons]; exact ih.app (.cons a .nil)
theorem all_zip {D : DL} {vs : List Value} {as : List AV} (h : AllIn D vs as) : ∀ {xs : List Str}, AllN D (xs.zip vs) (xs.zip as) := by
  induction h with
  | nil => intro xs; cases xs <;> exact .nil
  | cons a _ ih => intro xs; cases xs with
    | nil => exact .nil
    | cons x xs => exact .cons a ih
theorem AllIn.len {D : DL} {vs : List Value} {as : List AV} (h : AllIn D vs as) : vs.length = as.length := by
  induction h with
  | nil => rfl
  | cons _ _ ih => rw [List.length_cons, List.length_cons, ih]
theorem Is.run {A : Around} {s : Shared} {vs : List Value} {D : DL} {E Q : Value → Shared → Prop} {xs : List Str} {as : List AV} {n : NL} (I : Is w f sc body xs) (G : Gr (KK w.params) B) (r : Room (k + 1) A) (kn : Kn prog w B mu P s.heap) (hD : ∀ p ∈ D, Rd s.heap p.1 p.2) (hv : AllIn D vs as) (hl : as.length = xs.length)
    (hn : (xs.zip as).reverse = n) (h : ∀ (C : Cx prog w B mu sc k), C.s₀ = s → Wb C n P body (fun fl s' => Q (match fl with | .ret v => v | _ => .none) s')) : wpAny (model prog w) A (call (.ref f) vs) Q E s := by
  subst hn
  obtain ⟨i, h1, h2, h3⟩ := I.get
  have hlen : vs.length = xs.length := hv.len.trans hl
  refine enter G r kn D hD h1 h2 (h3 s vs hlen) (fun y hy => I.loc _ (List.of_mem_zip hy).1) (fun s₁ S r' => ?_) I.co I.gen I.kind I.cell
  exact h ⟨s, envOf i.qual sc s.heap.objs.size f i.cdv, A.deeper (envOf i.qual sc s.heap.objs.size f i.cdv), [], G, r', ⟨rfl, rfl, rfl, I.kind⟩, rfl⟩ rfl _ ⟨_, S, (all_zip hv).rev.na⟩
theorem PFn.of {xs : List Str} {as : List AV} {n : NL} (G : Gr (KK w.params) B) (I : Is w f sc body xs) (hl : as.length = xs.length) (hn : (xs.zip as).reverse = n)
    (h : ∀ (C : Cx prog w B [] sc k) (R : Flow → Shared → Prop), Rets C (fun a' _ => a' = a) R → Endz C (fun a' _ => a' = a) R → Wb C n P body R) : PFn prog w B (k + 1) P f as a := fun A s vs D E Q r kn hD hv hQ => by
  refine I.run G r kn hD hv hl hn fun C hC => h C _ (fun n P a' v D s' e S hv => ?_) (fun n P D s' e S => ?_)
  · cases e
    obtain ⟨m, S', N⟩ := S
    exact hQ v s' (hC ▸ S'.st.go) (hC ▸ S'.same) (hv.at S'.st.rd)
  · obtain ⟨m, S', N⟩ := S
    refine hQ _ s' (hC ▸ S'.st.go) (hC ▸ S'.same) ?_
    rw [← e]; exact Reads.none
theorem EFn.of {xs : List Str} {as : List AV} {n : NL} {ι : Type} {H : ι → Prop} {va : ι → AV} {l : ι → List (Addr × Tr)} {N : ι → PL} (G : Gr (KK w.params) B) (I : Is w f sc body xs) (hl : as.length = xs.length) (hn : (xs.zip as).reverse = n)
    (h : ∀ (C : Cx prog w B mu sc k) (R : Flow → Shared → Prop) (X : AV → PL → Prop), (∀ i P' a, H i → a = va i → (∀ q ∈ l i, ∃ b, (q.1, b, q.2) ∈ P') → (N i).Sublist P' → (∀ q ∈ N i, q.2.1 = true ∧ q.1 ∉ mu) → X a P') →
      Rets C X R → Endz C X R → Wb C n P body R) : EFn prog w B (k + 1) mu P f as H va l N := fun A s vs D E Q r kn hD hv hQ => by
  refine I.run G r kn hD hv hl hn fun C hC => h C _ (fun a P' => ∃ i, H i ∧ a = va i ∧ (∀ q ∈ l i, ∃ b, (q.1, b, q.2) ∈ P') ∧ (N i).Sublist P' ∧ ∀ q ∈ N i, q.2.1 = true ∧ q.1 ∉ mu) (fun i P' a h1 h2 h3 h4 h5 => ⟨i, h1, h2, h3, h4, h5⟩) (fun n P a' v D s' e S hv => ?_) (fun n P D s' e S => ?_)
  all_goals
    obtain ⟨i, h1, h2, h3, h4, h5⟩ := e
    obtain ⟨m, S', N'⟩ := S
    have nw : New prog w s s' (N i) := ⟨fun q hq => ⟨S'.st.at_ q (h4.subset hq), hC ▸ ((S'.st.own q (h4.subset hq) (h5 q hq).1).2).resolve_left (h5 q hq).2⟩, (List.nodup_cons.mp S'.st.nd).2.sublist (h4.map _)⟩
    have tn : ∀ q ∈ l i, q.2.At prog w s'.heap q.1 := fun q hq => let ⟨b, hb⟩ := h3 q hq; S'.st.at_ _ hb
  · subst h2
    exact hQ i v s' h1 (hC ▸ S'.st.go) (hC ▸ S'.same) tn nw (hv.at S'.st.rd)
  · refine hQ i _ s' h1 (hC ▸ S'.st.go) (hC ▸ S'.same) tn nw ?_
    rw [← h2]; exact Reads.none
end
end
section
section
variable {fd : FuncData} {x1 x2 x3 x4 : Str}
theorem len_cons {vs : List Value} {n : Nat} (h : vs.length = n + 1) : ∃ v r, vs = v :: r ∧ r.length = n := by
  cases vs with
  | nil => cases h
  | cons v r => exact ⟨v, r, rfl, Nat.succ.inj h⟩
theorem bt0 (h : ∀ (s : Shared), BindsTo s fd ⟨[], []⟩ []) : ∀ (s : Shared) (vs : List Value), vs.length = ([] : List Str).length → BindsTo s fd ⟨vs, []⟩ (([] : List Str).zip vs) := fun s vs e => by
  rw [List.length_eq_zero_iff.mp e]; exact h s
theorem bt1 (h : ∀ (s : Shared) v1, BindsTo s fd ⟨[v1], []⟩ [(x1, v1)]) : ∀ (s : Shared) (vs : List Value), vs.length = [x1].length → BindsTo s fd ⟨vs, []⟩ ([x1].zip vs) := fun s vs e => by
  obtain ⟨v, r0, rfl, e0⟩ := len_cons e
  obtain rfl := List.length_eq_zero_iff.mp e0
  exact h s v
theorem bt2 (h : ∀ (s : Shared) v1 v2, BindsTo s fd ⟨[v1, v2], []⟩ [(x1, v1), (x2, v2)]) : ∀ (s : Shared) (vs : List Value), vs.length = [x1, x2].length → BindsTo s fd ⟨vs, []⟩ ([x1, x2].zip vs) := fun s vs e => by
  obtain ⟨v, r0, rfl, e0⟩ := len_cons e
  obtain ⟨u, r1, rfl, e1⟩ := len_cons e0
  obtain rfl := List.length_eq_zero_iff.mp e1
  exact h s v u
theorem bt3 (h : ∀ (s : Shared) v1 v2 v3, BindsTo s fd ⟨[v1, v2, v3], []⟩ [(x1, v1), (x2, v2), (x3, v3)]) : ∀ (s : Shared) (vs : List Value), vs.length = [x1, x2, x3].length → BindsTo s fd ⟨vs, []⟩ ([x1, x2, x3].zip vs) := fun s vs e => by
  obtain ⟨v, r0, rfl, e0⟩ := len_cons e
  obtain ⟨u, r1, rfl, e1⟩ := len_cons e0
  obtain ⟨t, r2, rfl, e2⟩ := len_cons e1
  obtain rfl := List.length_eq_zero_iff.mp e2
  exact h s v u t
theorem bt4 (h : ∀ (s : Shared) v1 v2 v3 v4, BindsTo s fd ⟨[v1, v2, v3, v4], []⟩ [(x1, v1), (x2, v2), (x3, v3), (x4, v4)]) : ∀ (s : Shared) (vs : List Value), vs.length = [x1, x2, x3, x4].length → BindsTo s fd ⟨vs, []⟩ ([x1, x2, x3, x4].zip vs) := fun s vs e => by
  obtain ⟨v, r0, rfl, e0⟩ := len_cons e
  obtain ⟨u, r1, rfl, e1⟩ := len_cons e0
  obtain ⟨t, r2, rfl, e2⟩ := len_cons e1
  obtain ⟨y, r3, rfl, e3⟩ := len_cons e2
  obtain rfl := List.length_eq_zero_iff.mp e3
  exact h s v u t y
end
theorem fillK : PySem.Challenge.rw_no0183_01 = PySem.Challenge.rw_no0183_01 ∧ KK = KK := by k_fill; exact ⟨rfl, rfl⟩
variable {w : World}
theorem is_60 : Is w 60 (scopeS (stm 8)) (bodyS (stm 8)) [] := Is.of (by k_is) (by k_is) (bt0 fun _ => BindsTo.of_eq rfl) rfl rfl rfl rfl rfl
theorem is_67 : Is w 67 (scopeS (stm 9)) (bodyS (stm 9)) [] := Is.of (by k_is) (by k_is) (bt0 fun _ => BindsTo.of_eq rfl) rfl rfl rfl rfl rfl
theorem is_81 : Is w 81 (scopeS (nth (bodyS (stm 10)) 0)) (bodyS (nth (bodyS (stm 10)) 0)) ["self"] := Is.of (by k_is) (by k_is) (bt1 fun _ _ => BindsTo.of_eq rfl) rfl rfl rfl rfl rfl
theorem is_88 : Is w 88 (scopeS (nth (bodyS (stm 10)) 1)) (bodyS (nth (bodyS (stm 10)) 1)) ["self", "text"] := Is.of (by k_is) (by k_is) (bt2 fun _ _ _ => BindsTo.of_eq rfl) rfl rfl rfl rfl rfl
theorem is_102 : Is w 102 (scopeS (nth (bodyS (stm 10)) 3)) (bodyS (nth (bodyS (stm 10)) 3)) ["self", "atom", "arity"] := Is.of (by k_is) (by k_is) (bt3 fun _ _ _ _ => BindsTo.of_eq rfl) rfl rfl rfl rfl rfl
theorem is_109 : Is w 109 (scopeS (nth (bodyS (stm 10)) 4)) (bodyS (nth (bodyS (stm 10)) 4)) ["self", "text", "arity"] := Is.of (by k_is) (by k_is) (bt3 fun _ _ _ _ => BindsTo.of_eq rfl) rfl rfl rfl rfl rfl
theorem is_123 : Is w 123 (scopeS (nth (bodyS (stm 10)) 6)) (bodyS (nth (bodyS (stm 10)) 6)) ["self", "functor"] := Is.of (by k_is) (by k_is) (bt2 fun _ _ _ => BindsTo.of_eq rfl) rfl rfl rfl rfl rfl
theorem is_201 : Is w 201 (scopeS (nth (bodyS (stm 23)) 1)) (bodyS (nth (bodyS (stm 23)) 1)) ["self", "cell"] := Is.of (by k_is) (by k_is) (bt2 fun _ _ _ => BindsTo.of_eq rfl) rfl rfl rfl rfl rfl
theorem is_208 : Is w 208 (scopeS (nth (bodyS (stm 23)) 2)) (bodyS (nth (bodyS (stm 23)) 2)) ["self"] := Is.of (by k_is) (by k_is) (bt1 fun _ _ => BindsTo.of_eq rfl) rfl rfl rfl rfl rfl
theorem is_215 : Is w 215 (scopeS (nth (bodyS (stm 23)) 3)) (bodyS (nth (bodyS (stm 23)) 3)) ["self", "count"] := Is.of (by k_is) (by k_is) (bt2 fun _ _ _ => BindsTo.of_eq rfl) rfl rfl rfl rfl rfl
theorem is_229 : Is w 229 (scopeS (nth (bodyS (stm 23)) 5)) (bodyS (nth (bodyS (stm 23)) 5)) ["self", "cell"] := Is.of (by k_is) (by k_is) (bt2 fun _ _ _ => BindsTo.of_eq rfl) rfl rfl rfl rfl rfl
theorem is_257 : Is w 257 (scopeS (nth (bodyS (stm 23)) 9)) (bodyS (nth (bodyS (stm 23)) 9)) ["self", "cell"] := Is.of (by k_is) (by k_is) (bt2 fun _ _ _ => BindsTo.of_eq rfl) rfl rfl rfl rfl rfl
theorem is_285 : Is w 285 (scopeS (nth (bodyS (stm 23)) 13)) (bodyS (nth (bodyS (stm 23)) 13)) ["self", "cell"] := Is.of (by k_is) (by k_is) (bt2 fun _ _ _ => BindsTo.of_eq rfl) rfl rfl rfl rfl rfl
theorem is_292 : Is w 292 (scopeS (nth (bodyS (stm 23)) 14)) (bodyS (nth (bodyS (stm 23)) 14)) ["self", "cell"] := Is.of (by k_is) (by k_is) (bt2 fun _ _ _ => BindsTo.of_eq rfl) rfl rfl rfl rfl rfl
theorem is_299 : Is w 299 (scopeS (nth (bodyS (stm 23)) 15)) (bodyS (nth (bodyS (stm 23)) 15)) ["self", "cell"] := Is.of (by k_is) (by k_is) (bt2 fun _ _ _ => BindsTo.of_eq rfl) rfl rfl rfl rfl rfl
theorem is_306 : Is w 306 (scopeS (nth (bodyS (stm 23)) 16)) (bodyS (nth (bodyS (stm 23)) 16)) ["self", "cell"] := Is.of (by k_is) (by k_is) (bt2 fun _ _ _ => BindsTo.of_eq rfl) rfl rfl rfl rfl rfl
theorem is_320 : Is w 320 (scopeS (nth (bodyS (stm 23)) 18)) (bodyS (nth (bodyS (stm 23)) 18)) ["self", "f"] := Is.of (by k_is) (by k_is) (bt2 fun _ _ _ => BindsTo.of_eq rfl) rfl rfl rfl rfl rfl
theorem is_363 : Is w 363 (scopeS (nth (bodyS (stm 24)) 3)) (bodyS (nth (bodyS (stm 24)) 3)) ["self", "term", "table"] := Is.of (by k_is) (by k_is) (bt3 fun _ _ _ _ => BindsTo.of_eq rfl) rfl rfl rfl rfl rfl
theorem is_389 : Is w 389 (scopeS (nth (bodyS (stm 26)) 0)) (bodyS (nth (bodyS (stm 26)) 0)) ["self", "store"] := Is.of (by k_is) (by k_is) (bt2 fun _ _ _ => BindsTo.of_eq rfl) rfl rfl rfl rfl rfl
theorem is_396 : Is w 396 (scopeS (nth (bodyS (stm 26)) 1)) (bodyS (nth (bodyS (stm 26)) 1)) ["self", "left", "right"] := Is.of (by k_is) (by k_is) (bt3 fun _ _ _ _ => BindsTo.of_eq rfl) rfl rfl rfl rfl rfl
theorem is_410 : Is w 410 (scopeS (stm 27)) (bodyS (stm 27)) ["store", "cell", "work"] := Is.of (by k_is) (by k_is) (bt3 fun _ _ _ _ => BindsTo.of_eq rfl) rfl rfl rfl rfl rfl
theorem is_417 : Is w 417 (scopeS (stm 28)) (bodyS (stm 28)) ["store", "left", "right", "work"] := Is.of (by k_is) (by k_is) (bt4 fun _ _ _ _ _ => BindsTo.of_eq rfl) rfl rfl rfl rfl rfl
theorem is_424 : Is w 424 (scopeS (stm 29)) (bodyS (stm 29)) ["store", "left", "right"] := Is.of (by k_is) (by k_is) (bt3 fun _ _ _ _ => BindsTo.of_eq rfl) rfl rfl rfl rfl rfl
theorem is_431 : Is w 431 (scopeS (stm 30)) (bodyS (stm 30)) ["cell"] := Is.of (by k_is) (by k_is) (bt1 fun _ _ => BindsTo.of_eq rfl) rfl rfl rfl rfl rfl
theorem is_438 : Is w 438 (scopeS (stm 31)) (bodyS (stm 31)) ["cell"] := Is.of (by k_is) (by k_is) (bt1 fun _ _ => BindsTo.of_eq rfl) rfl rfl rfl rfl rfl
theorem is_445 : Is w 445 (scopeS (stm 32)) (bodyS (stm 32)) ["left", "right"] := Is.of (by k_is) (by k_is) (bt2 fun _ _ _ => BindsTo.of_eq rfl) rfl rfl rfl rfl rfl
theorem is_452 : Is w 452 (scopeS (stm 33)) (bodyS (stm 33)) ["store", "left", "right"] := Is.of (by k_is) (by k_is) (bt3 fun _ _ _ _ => BindsTo.of_eq rfl) rfl rfl rfl rfl rfl
theorem is_459 : Is w 459 (scopeS (stm 34)) (bodyS (stm 34)) ["store", "left", "right"] := Is.of (by k_is) (by k_is) (bt3 fun _ _ _ _ => BindsTo.of_eq rfl) rfl rfl rfl rfl rfl
theorem is_466 : Is w 466 (scopeS (stm 35)) (bodyS (stm 35)) ["store", "c1", "c2"] := Is.of (by k_is) (by k_is) (bt3 fun _ _ _ _ => BindsTo.of_eq rfl) rfl rfl rfl rfl rfl
theorem is_473 : Is w 473 (scopeS (stm 36)) (bodyS (stm 36)) ["store", "c1", "c2"] := Is.of (by k_is) (by k_is) (bt3 fun _ _ _ _ => BindsTo.of_eq rfl) rfl rfl rfl rfl rfl
theorem is_480 : Is w 480 (scopeS (stm 37)) (bodyS (stm 37)) ["store", "cell"] := Is.of (by k_is) (by k_is) (bt2 fun _ _ _ => BindsTo.of_eq rfl) rfl rfl rfl rfl rfl
theorem is_487 : Is w 487 (scopeS (stm 38)) (bodyS (stm 38)) ["cell"] := Is.of (by k_is) (by k_is) (bt1 fun _ _ => BindsTo.of_eq rfl) rfl rfl rfl rfl rfl
theorem is_494 : Is w 494 (scopeS (stm 39)) (bodyS (stm 39)) ["store", "c1", "c2"] := Is.of (by k_is) (by k_is) (bt3 fun _ _ _ _ => BindsTo.of_eq rfl) rfl rfl rfl rfl rfl
theorem is_501 : Is w 501 (scopeS (stm 40)) (bodyS (stm 40)) ["store", "general", "special"] := Is.of (by k_is) (by k_is) (bt3 fun _ _ _ _ => BindsTo.of_eq rfl) rfl rfl rfl rfl rfl
theorem is_508 : Is w 508 (scopeS (stm 42)) (bodyS (stm 42)) ["hand", "limit"] := Is.of (by k_is) (by k_is) (bt2 fun _ _ _ => BindsTo.of_eq rfl) rfl rfl rfl rfl rfl
theorem is_525 : Is w 525 (scopeS (stm 45)) (bodyS (stm 45)) ["hand", "tree", "other"] := Is.of (by k_is) (by k_is) (bt3 fun _ _ _ _ => BindsTo.of_eq rfl) rfl rfl rfl rfl rfl
theorem is_532 : Is w 532 (scopeS (stm 46)) (bodyS (stm 46)) ["tree"] := Is.of (by k_is) (by k_is) (bt1 fun _ _ => BindsTo.of_eq rfl) rfl rfl rfl rfl rfl
theorem is_539 : Is w 539 (scopeS (stm 47)) (bodyS (stm 47)) ["general", "special", "fixed", "chosen"] := Is.of (by k_is) (by k_is) (bt4 fun _ _ _ _ _ => BindsTo.of_eq rfl) rfl rfl rfl rfl rfl
end
section
section
variable {prog : Program} {w : World} {B : Heap} {mu : List Addr} {sc : Scope} {k : Nat} {C : Cx prog w B mu sc k}
variable {n : NL} {P P' : PL} {D D' : DL} {s s' : Shared} {x name : Str} {p q pos px : Pos} {a b : AV} {e e1 : Expr} {i : Int} {ad dx c : Addr} {bo : Bool} {ss : List Stmt} {R : Flow → Shared → Prop}
  {ι : Type} {H : ι → Prop} {va : ι → AV} {vP : ι → PL}
theorem Ev.eqF {c : Bool} {p1 : Prop} {H : Int → Prop} {e2 : Expr} {j : Int} {vP : Int → PL} (h : Ef C n P e (ι := Int) H (fun i => .d (.int i)) vP) (hP : ∀ i, vP i = P) (h2 : Ev C n P e2 (.d (.int j))) (hp : ∀ i, H i → (i = j ↔ p1)) (hm : behindInMarks .Eq e2 = false) (hc : c = true ↔ p1) :
    Ev C n P (.Compare e [.Eq] [e2] p) (.d (.bool c)) := fun _ _ _ _ S k =>
  wpAny_Compare1 (h _ S fun i v D1 s1 hi S1 b1 i1 => h2 _ (hP i ▸ S1) fun u D2 s2 S2 b2 i2 => Cm.eqI _ S2 (i1.sb b2) i2 fun c' D3 s3 S3 b3 hc' => by
    obtain rfl : c' = c := Bool.eq_iff_iff.mpr (hc'.trans ((hp i hi).trans hc.symm))
    exact k _ _ _ (S3.know (Reads.bool _)) (((b1.trans b2).trans b3).trans .cons) (.head _)) hm
variable {ss1 ss2 : List Stmt} {p1 : Prop} {bv : ι → Bool} {e2 : Expr}
theorem Ef.meth1F {f CC : Addr} {as : ι → AV} {k' kk : Nat} {Pf : ι → PL} {g : Str → Option Value} {bo' : Bool} (h1 : Ev C n P e1 (.r ad)) (h : Ef C n P e H va vP) (sp : ∀ i, H i → PFn prog w B k' (Pf i) f [.r ad, va i] (as i)) (sel : ∀ i, Sel [] (Pf i) (vP i)) (hk' : k' ≤ k)
    (hx : (ad, bo, .is (IsInst CC dx)) ∈ P) (hd : (dx, bo', .att g kk) ∈ P) (hgl : g name = .none)
    (hg : plainGet (KK w.params) CC name = true) (hf : findIn (KK w.params) (.ref CC) name = some (some (.ref f))) (ht : isFn (KK w.params) (.ref f) = true) (hk : keepIn (KK w.params) (.ref f) = true)
    (hm : methE e1 pos [e] p = true) (he : plainE e = true) : Ef C n P (.Call (.Attribute e1 name pos) [e] [] p) H as vP := fun _ _ _ _ S k =>
  MethodCall_ (h1 _ S fun u D1 s1 S1 b1 i1 => by
    obtain rfl : u = .ref ad := i1
    have S₀ := S1
    obtain ⟨m, S1, N1⟩ := S1
    refine meth_S S1 C.G.X hx hd hg hf ht hgl ?_
    exact callWith_K C.G.X hk (spliced_more (h _ S₀ fun i v D2 s2 hi S2 b2 i2 => spliced_none ⟨X_of S2, sp i hi _ (C.r.less hk') (kn_of S2 (sel i)) (rd_of S2) (.cons rfl (.cons i2 .nil)) fun v s3 g ee x => by
      obtain ⟨D3, S3, b3, i3⟩ := S_back_at S2 g ee x
      exact k i _ _ _ hi S3 ((b1.trans b2).trans b3) i3⟩) (star_cons he)) (star_cons he) rfl) (meth_eq hm)
theorem Ef.tup2F {kk : Nat} {d1 : PyData} {dv : ι → PyData} (h1 : Ev C n P e (.d d1)) (h : Ef C n P e2 H (fun i => .d (dv i)) vP) (he : [e, e2].all plainE = true) : Ef C n P (.Tuple [e, e2] kk p) H (fun i => .d (.tuple [d1, dv i])) vP := fun _ _ _ _ S k =>
  have hs : plainE e = true ∧ plainE e2 = true := by simpa using he
  Tuple_ (spliced_more (h1 _ S fun v D1 s1 S1 b1 i1 => spliced_more (h _ S1 fun i u D2 s2 hi S2 b2 i2 => spliced_none (by
    have r : RdAll s2.heap [v, u] [d1, dv i] := .cons (S2.rd (i1.sb b2)) (.cons (S2.rd i2) .nil)
    obtain ⟨m, S2, N2⟩ := S2
    exact newTuple_rd S2 r (by decide : (2 : Nat) < 1000) fun v s3 S3 => k i _ _ _ hi ⟨m, S3, N2.sb .cons⟩ ((b1.trans b2).trans .cons) (.head _))) (star_cons hs.2)) (star_cons hs.1))
theorem Wb.setDF {dv : ι → PyData} {kds : List (Int × PyData)} {P1 : ι → PL} (hv : Ef C n P e H (fun i => .d (dv i)) vP) (ho : ∀ i, Ev C n (vP i) e1 (.r ad)) (hi : ∀ j, Ev C n (vP j) e2 (.d (.int i))) (U : ∀ j, Put ad true true (.ddat kds) (.ddat (kput kds i (dv j))) (vP j) (P1 j)) (hz : kds.length < 1000)
    (k : ∀ i, H i → Wb C n (P1 i) ss R) (he : valE e = true) : Wb C n P (.Assign [.Subscript e1 e2 q] e p :: ss) R := fun _ _ S =>
  wpAny_execs_cons (wpAny_Assign_Subscript (hv _ S fun j v D1 s1 hj S1 b1 i1 => ho j _ S1 fun u D2 s2 S2 b2 i2 => hi j _ S2 fun t D3 s3 S3 b3 i3 => by
    obtain rfl : u = .ref ad := i2
    obtain ⟨t, rfl⟩ := S3.int i3
    have i4 := (i1.sb b2).sb b3
    obtain ⟨m, S3, N3⟩ := S3
    exact dict_set S3 (U j) (S3.datum i4) hz fun s4 S4 => k j hj _ ⟨m, S4, N3⟩) (swaps_eq he))
theorem Wb.iteF (h : Ef C n P e H (fun i => .d (.bool (bv i))) vP) (he : testE e = true) (ht : ∀ i, H i → bv i = true → Wb C n (vP i) (ss1 ++ ss) R) (hf : ∀ i, H i → bv i = false → Wb C n (vP i) (ss2 ++ ss) R) : Wb C n P (.If e ss1 ss2 p :: ss) R := fun _ _ S =>
  If_app (isTrue_plain (h _ S fun i v D1 s1 hi S1 b1 i1 => by
    obtain rfl := (S1.rd i1).bool
    refine wpAny_truthy_bool ?_
    cases q : bv i with
    | true => exact ht i hi q _ S1
    | false => exact hf i hi q _ S1) (test_eq he))
theorem Wb.iteA (h1 : EvP C n P e p1) (h : p1 → Ef C n P e2 H (fun i => .d (.bool (bv i))) vP) (he : testE e2 = true) (ht : ∀ i, p1 → H i → bv i = true → Wb C n (vP i) (ss1 ++ ss) R) (hf : ∀ i, p1 → H i → bv i = false → Wb C n (vP i) (ss2 ++ ss) R) (hn : ¬ p1 → Wb C n P (ss2 ++ ss) R) :
    Wb C n P (.If (.BoolOp .And [e, e2] q) ss1 ss2 p :: ss) R := fun _ _ S =>
  If_app (isTrue_and (h1 _ S fun b D0 s0 S0 b0 hb => by
    cases b with
    | false => exact hn (fun q => Bool.false_ne_true (hb.mpr q)) _ S0
    | true =>
      have hp := hb.mp rfl
      exact isTrue_and (isTrue_plain (h hp _ S0 fun i v D1 s1 hi S1 b1 i1 => by
        obtain rfl := (S1.rd i1).bool
        refine wpAny_truthy_bool ?_
        cases q : bv i with
        | true => exact isTrue_and_nil (ht i hp hi q _ S1)
        | false => exact hf i hp hi q _ S1) (test_eq he))))
structure Stores (w : World) (CC : Addr) (name : Str) : Prop where
  hs : findIn (KK w.params) (.ref CC) "__setattr__" = some (some (.builtin "object.__setattr__"))
  hp : plainOver (KK w.params) CC = true
  ht : takerIn (KK w.params) CC name = some .none
  hh : hasDictIn (KK w.params) CC = true
theorem Wb.setAf {g : Str → Option Value} {kk : Nat} {CC : Addr} {af : ι → Addr} {P1 : ι → PL} (hv : Ef C n P e H (fun i => .r (af i)) vP) (ho : ∀ i, Ev C n (vP i) e1 (.r ad)) (st : Stores w CC name) (hx : ∀ i, (ad, bo, .is (IsInst CC dx)) ∈ vP i)
    (U : ∀ i, Put dx true true (.att g kk) (.att (fun y => if y = name then some (.ref (af i)) else g y) (kk + 1)) (vP i) (P1 i)) (hz : Nat.blt kk 900 = true) (k : ∀ i, H i → Wb C n (P1 i) ss R) (he : valE e = true) : Wb C n P (.Assign [.Attribute e1 name q] e p :: ss) R := fun _ _ S =>
  wpAny_execs_cons (plainObj_wpAny_Assign_Attribute (hv _ S fun i v D1 s1 hi S1 b1 i1 => ho i _ S1 fun u D2 s2 S2 b2 i2 => by
    obtain rfl : v = .ref (af i) := i1
    obtain rfl : u = .ref ad := i2
    obtain ⟨m, S2, N2⟩ := S2
    exact setattr_S S2 C.G.X (hx i) (U i) st.hs st.hp st.ht st.hh (Nat.blt_eq.mp hz) fun s3 S3 => k i hi _ ⟨m, S3, N2⟩) (swaps_eq he))
theorem Wb.setAi {g : Str → Option Value} {kk : Nat} {CC : Addr} {P1 : Tok → PL} (hv : Ev C n P e (.d (.int i))) (ho : Ev C n P e1 (.r ad)) (st : Stores w CC name) (hx : (ad, bo, .is (IsInst CC dx)) ∈ P)
    (U : ∀ t, Put dx true true (.att g kk) (.att (fun y => if y = name then some (.int i t) else g y) (kk + 1)) P (P1 t)) (hz : Nat.blt kk 900 = true) (k : ∀ t, Wb C n (P1 t) ss R) (he : valE e = true) : Wb C n P (.Assign [.Attribute e1 name q] e p :: ss) R := fun _ _ S =>
  wpAny_execs_cons (plainObj_wpAny_Assign_Attribute (hv _ S fun v D1 s1 S1 b1 i1 => ho _ S1 fun u D2 s2 S2 b2 i2 => by
    obtain ⟨t, rfl⟩ := S1.int i1
    obtain rfl : u = .ref ad := i2
    obtain ⟨m, S2, N2⟩ := S2
    exact setattr_S S2 C.G.X hx (U t) st.hs st.hp st.ht st.hh (Nat.blt_eq.mp hz) fun s3 S3 => k t _ ⟨m, S3, N2⟩) (swaps_eq he))
theorem Wb.setAr {g : Str → Option Value} {kk : Nat} {CC : Addr} (hv : Ev C n P e (.r c)) (ho : Ev C n P e1 (.r ad)) (st : Stores w CC name) (hx : (ad, bo, .is (IsInst CC dx)) ∈ P)
    (U : Put dx true true (.att g kk) (.att (fun y => if y = name then some (.ref c) else g y) (kk + 1)) P P') (hz : Nat.blt kk 900 = true) (k : Wb C n P' ss R) (he : valE e = true) : Wb C n P (.Assign [.Attribute e1 name q] e p :: ss) R :=
  Wb.setAf (ι := Unit) (af := fun _ => c) (Ef.one hv) (fun _ => ho) st (fun _ => hx) (fun _ => U) hz (fun _ _ => k) he
end
section
variable {prog : Program} {w : World} {B : Heap} {mu : List Addr} {sc : Scope} {k : Nat}
variable {P : PL} {f CC : Addr} {body : List Stmt}
theorem EFn.new {xs : List Str} {as : List AV} {n : Addr → NL} {ι : Type} {H : ι → Prop} {N : ι → Addr → Addr → PL} (G : Gr (KK w.params) B) (I : Is w f sc body xs) (hm : makesIn (KK w.params) CC = true) (hi : findIn (KK w.params) (.ref CC) "__init__" = some (some (.ref f))) (hf : isFn (KK w.params) (.ref f) = true)
    (hl : as.length + 1 = xs.length) (hn : ∀ y, (xs.zip (.r y :: as)).reverse = n y)
    (h : ∀ (y dy : Addr) (C : Cx prog w B [y, dy] sc k) (R : Flow → Shared → Prop) (X : AV → PL → Prop), (∀ i P' a, H i → a = .d .none → (N i y dy).Sublist P' → (∀ q ∈ N i y dy, q.2.1 = true) → X a P') → Rets C X R → Endz C X R →
      Wb C (n y) ((y, true, .is (IsInst CC dy)) :: (dy, true, .att (fun _ => .none) 0) :: P) body R) :
    EFn prog w B (k + 2) [] P CC as (ι := ι × Addr × Addr) (fun i => H i.1) (fun i => .r i.2.1) (fun _ => []) (fun i => N i.1 i.2.1 i.2.2) := fun A s vs D E Q r kn hD hv hQ => by
  obtain ⟨i, h1, h2, h3⟩ := I.get
  have hlen : (Value.ref (s.heap.objs.size + 1) :: vs).length = xs.length := by rw [List.length_cons, hv.len]; exact hl
  refine create G r kn D hD hm hi hf h1 h2 (fun s' _ => h3 s' (.ref (s.heap.objs.size + 1) :: vs) hlen) (fun y hy => I.loc _ (List.of_mem_zip hy).1) (fun s₂ s₁ L hh ee S r' => ?_) I.co I.gen I.kind I.cell
  have hv' : AllIn D (Value.ref (s.heap.objs.size + 1) :: vs) (.r (s.heap.objs.size + 1) :: as) := .cons rfl hv
  have nn := (all_zip hv' (xs := xs)).rev.na
  rw [hn] at nn
  refine h (s.heap.objs.size + 1) s.heap.objs.size ⟨s₂, envOf i.qual sc L f i.cdv, _, [], G, r', ⟨rfl, rfl, rfl, I.kind⟩, rfl⟩ _ (fun a P' => a = .d .none ∧ ∃ i, H i ∧ (N i (s.heap.objs.size + 1) s.heap.objs.size).Sublist P' ∧ ∀ q ∈ N i (s.heap.objs.size + 1) s.heap.objs.size, q.2.1 = true)
    (fun i P' a h1 h2 h3 h4 => ⟨h2, i, h1, h3, h4⟩) (fun n P a' v D s' e S hv => ?_) (fun n P D s' e S => ?_) _ ⟨_, S, nn⟩
  · obtain ⟨rfl, i, e1, e2, e3⟩ := e
    obtain ⟨m, S', N'⟩ := S
    obtain rfl : v = .none := by have r := S'.datum hv; unfold Rd at r; cases r; rfl
    obtain ⟨g, eq, nw⟩ := S'.born hh ee e2 e3
    exact ⟨rfl, hQ (i, _, _) _ s' e1 g eq (fun q hq => nomatch hq) nw rfl⟩
  · obtain ⟨_, i, e1, e2, e3⟩ := e
    obtain ⟨m, S', N'⟩ := S
    obtain ⟨g, eq, nw⟩ := S'.born hh ee e2 e3
    exact ⟨rfl, hQ (i, _, _) _ s' e1 g eq (fun q hq => nomatch hq) nw rfl⟩
end
end
section
section
variable {prog : Program} {w : World} {B : Heap} {mu : List Addr} {sc : Scope} {k : Nat} {C : Cx prog w B mu sc k}
variable {n : NL} {P P' : PL} {D D' : DL} {s s' : Shared} {x name : Str} {p q pos px : Pos} {a b : AV} {e e1 : Expr} {i : Int} {ad dx c : Addr} {bo : Bool} {ss : List Stmt} {R : Flow → Shared → Prop}
  {ι : Type} {H : ι → Prop} {va : ι → AV} {vP : ι → PL} {ds : List PyData}
theorem Ef.listD {kds : List (Int × PyData)} (hb : Blt w sc x (.type "list")) (h : Ev C n P e (.r ad)) (he : plainE e = true) (hp : (ad, bo, .ddat kds) ∈ P) (hz : kds.length < 1000) :
    Ef C n P (.Call (.Name x q) [e] [] p) (ι := Addr) (fun _ => True) .r (fun a => (a, true, .ldat (kds.map fun kd => .int kd.1)) :: P) := fun _ _ _ _ S k =>
  Call_ (wp_blt S hb (callT S (.cons h .nil he) fun vs D1 s1 S1 b1 i1 => by
    cases i1 with | cons i1 i2 => cases i2; obtain rfl := i1; obtain ⟨m, S1, N1⟩ := S1; exact list_keys S1 hp C.r.handled hz fun a s2 S2 => k a _ _ _ trivial ⟨m, S2, N1⟩ b1 rfl)) (call_eq rfl)
theorem Ef.listL (hb : Blt w sc x (.type "list")) (h : Ev C n P e (.r ad)) (he : plainE e = true) (hp : (ad, bo, .ldat ds) ∈ P) (hz : ds.length < 2 ^ 20) :
    Ef C n P (.Call (.Name x q) [e] [] p) (ι := Addr) (fun _ => True) .r (fun a => (a, true, .ldat ds) :: P) := fun _ _ _ _ S k =>
  Call_ (wp_blt S hb (callT S (.cons h .nil he) fun vs D1 s1 S1 b1 i1 => by
    cases i1 with | cons i1 i2 => cases i2; obtain rfl := i1; obtain ⟨m, S1, N1⟩ := S1; exact list_copy S1 hp hz fun a s2 S2 => k a _ _ _ trivial ⟨m, S2, N1⟩ b1 rfl)) (call_eq rfl)
theorem Ef.listT (hb : Blt w sc x (.type "list")) (h : Ev C n P e (.d (.tuple ds))) (he : plainE e = true) (hz : ds.length < 1000) :
    Ef C n P (.Call (.Name x q) [e] [] p) (ι := Addr) (fun _ => True) .r (fun a => (a, true, .ldat ds) :: P) := fun _ _ _ _ S k =>
  Call_ (wp_blt S hb (callT S (.cons h .nil he) fun vs D1 s1 S1 b1 i1 => by
    cases i1 with | cons i1 i2 => cases i2; obtain ⟨m, S1, N1⟩ := S1; exact list_tup S1 i1 hz fun a s2 S2 => k a _ _ _ trivial ⟨m, S2, N1⟩ b1 rfl)) (call_eq rfl)
theorem Ev.sget {kds : List (Str × PyData)} {y : Str} {j : Int} {e2 e3 : Expr} (h1 : Ev C n P e1 (.r ad)) (h2 : Ev C n P e2 (.d (.str y))) (h3 : Ev C n P e3 (.d (.int j))) (hm : methE e1 pos [e2, e3] p = true) (he : [e2, e3].all plainE = true) (hp : (ad, bo, .sdat kds) ∈ P) (hk : (gget kds y).getD (.int j) = .int i) :
    Ev C n P (.Call (.Attribute e1 "get" pos) [e2, e3] [] p) (.d (.int i)) := fun _ _ _ _ S k =>
  have hs : plainE e2 = true ∧ plainE e3 = true := by simpa using he
  MethodCall_ (h1 _ S fun u D1 s1 S1 b1 i1 => by
    obtain rfl : u = .ref ad := i1
    have S₀ := S1
    obtain ⟨m, S1, N1⟩ := S1
    refine sdict_method S1 hp PySem.F.slot_dict_get PySem.F.type_dict_get ?_
    exact callB S₀ (.cons h2 (.cons h3 .nil hs.2) hs.1) fun vs D2 s2 S2 b2 i2 => by
      cases i2 with
      | cons i2 i3 =>
        cases i3 with
        | cons i3 i4 =>
          cases i4
          obtain ⟨t, rfl⟩ := (S2.rd i2).str
          obtain ⟨u, rfl⟩ := S2.int i3
          obtain ⟨m, S2, N2⟩ := S2
          exact sdict_get S2 hp hk fun t s3 S3 => k _ _ _ (Cx.S.kint ⟨m, S3, N2⟩ _ t) ((b1.trans b2).trans .cons) (.head _)) (meth_eq hm)
theorem Ev.hget {kds : List (List Int × PyData)} {y z j : Int} {e2 e3 : Expr} (h1 : Ev C n P e1 (.r ad)) (h2 : Ev C n P e2 (.d (cd y z))) (h3 : Ev C n P e3 (.d (.int j))) (hm : methE e1 pos [e2, e3] p = true) (he : [e2, e3].all plainE = true) (hp : (ad, bo, .hdat kds) ∈ P) (hk : (gget kds [y, z]).getD (.int j) = .int i) :
    Ev C n P (.Call (.Attribute e1 "get" pos) [e2, e3] [] p) (.d (.int i)) := fun _ _ _ _ S k =>
  have hs : plainE e2 = true ∧ plainE e3 = true := by simpa using he
  MethodCall_ (h1 _ S fun u D1 s1 S1 b1 i1 => by
    obtain rfl : u = .ref ad := i1
    have S₀ := S1
    obtain ⟨m, S1, N1⟩ := S1
    refine hdict_method S1 hp PySem.F.slot_dict_get PySem.F.type_dict_get ?_
    exact callB S₀ (.cons h2 (.cons h3 .nil hs.2) hs.1) fun vs D2 s2 S2 b2 i2 => by
      cases i2 with
      | cons i2 i3 =>
        cases i3 with
        | cons i3 i4 =>
          cases i4
          obtain ⟨u, rfl⟩ := S2.int i3
          obtain ⟨m, S2, N2⟩ := S2
          exact hdict_get S2 hp i2 (Room.eq C.r) hk fun t s3 S3 => k _ _ _ (Cx.S.kint ⟨m, S3, N2⟩ _ t) ((b1.trans b2).trans .cons) (.head _)) (meth_eq hm)
theorem Wb.setS {d : PyData} {kds : List (Str × PyData)} {y : Str} {e2 : Expr} (hv : Ev C n P e (.d d)) (ho : Ev C n P e1 (.r ad)) (hi : Ev C n P e2 (.d (.str y))) (U : Put ad true true (.sdat kds) (.sdat (kds ++ [(y, d)])) P P') (hn : gget kds y = .none) (hz : kds.length < 1000) (k : Wb C n P' ss R) (he : valE e = true) :
    Wb C n P (.Assign [.Subscript e1 e2 q] e p :: ss) R := fun _ _ S =>
  wpAny_execs_cons (wpAny_Assign_Subscript (hv _ S fun v D1 s1 S1 b1 i1 => ho _ S1 fun u D2 s2 S2 b2 i2 => hi _ S2 fun t D3 s3 S3 b3 i3 => by
    obtain rfl : u = .ref ad := i2
    obtain ⟨t, rfl⟩ := (S3.rd i3).str
    have i4 := (i1.sb b2).sb b3
    obtain ⟨m, S3, N3⟩ := S3
    exact sdict_new S3 U (S3.datum i4) hn hz fun s4 S4 => k _ ⟨m, S4, N3⟩) (swaps_eq he))
theorem Wb.setH {d : PyData} {kds : List (List Int × PyData)} {y z : Int} {e2 : Expr} (hv : Ev C n P e (.d d)) (ho : Ev C n P e1 (.r ad)) (hi : Ev C n P e2 (.d (cd y z))) (U : Put ad true true (.hdat kds) (.hdat (kds ++ [([y, z], d)])) P P') (hn : gget kds [y, z] = .none) (hz : kds.length < 1000) (k : Wb C n P' ss R) (he : valE e = true) :
    Wb C n P (.Assign [.Subscript e1 e2 q] e p :: ss) R := fun _ _ S =>
  wpAny_execs_cons (wpAny_Assign_Subscript (hv _ S fun v D1 s1 S1 b1 i1 => ho _ S1 fun u D2 s2 S2 b2 i2 => hi _ S2 fun t D3 s3 S3 b3 i3 => by
    obtain rfl : u = .ref ad := i2
    have i4 := (i1.sb b2).sb b3
    obtain ⟨m, S3, N3⟩ := S3
    exact hdict_new S3 U i3 (S3.datum i4) hn hz (Room.eq C.r) fun s4 S4 => k _ ⟨m, S4, N3⟩) (swaps_eq he))
theorem Wb.recast {t t' : Tr} (U : Put ad true true t t' P P') (h : ∀ {hp : Heap}, t.At prog w hp ad → t'.At prog w hp ad) (k : Wb C n P' ss R) : Wb C n P ss R := fun _ _ ⟨m, S, N⟩ => k _ ⟨m, S.recast U h, N⟩
theorem Wb.front (i : Nat) (h : i < P.length) (k : Wb C n (P[i] :: P.eraseIdx i) ss R) : Wb C n P ss R := fun _ _ ⟨m, S, N⟩ => k _ ⟨m, S.front i h, N⟩
theorem Ev.rows {es : List Expr} {rs : List (Str × Int)} {kk : Nat} (r : RowsE es rs) (hz : rs.length < 1000) : Ev C n P (.Tuple es kk p) (.d (.tuple (rs.map rowD))) := fun _ _ _ _ ⟨m, S, N⟩ k =>
  Tuple_ (eval_rows r S fun vs s1 S1 rr => newTuple_rd S1 rr (by rw [List.length_map]; exact hz) fun v s2 S2 => k _ _ _ ⟨m, S2, N.sb .cons⟩ .cons (.head _))
inductive StrsE : List Expr → List Str → Prop
  | nil : StrsE [] []
  | cons {x k p es xs} : StrsE es xs → StrsE (.Constant (.str x) k p :: es) (x :: xs)
theorem StrsE.ev {es : List Expr} {xs : List Str} (h : StrsE es xs) : EvD C n P es (xs.map PyData.str) := by
  induction h with
  | nil => exact .nil
  | cons _ ih => exact .cons Ev.str ih rfl
theorem Ef.meth2F {f CC : Addr} {k' kk : Nat} {mu' : List Addr} {g : Str → Option Value} {e2 e3 : Expr} {Q1 : Unit → PL} {l : ι → List (Addr × Tr)} {N P2 : ι → PL} {bo' : Bool} (h1 : Ev C n P e1 (.r ad)) (h : Ef C n P e2 (ι := Unit) (fun _ => True) (fun _ => a) Q1) (h2 : Ev C n (Q1 ()) e3 b)
    (sp : EFn prog w B k' mu' P' f [.r ad, a, b] H va l N) (sel : Sel mu' P' (Q1 ())) (hk' : k' ≤ k) (hl : ∀ i, (l i).map (·.1) = mu') (V : ∀ i, Puts (l i) (Q1 ()) (P2 i))
    (hx : (ad, bo, .is (IsInst CC dx)) ∈ P) (hd : (dx, bo', .att g kk) ∈ P) (hgl : g name = .none)
    (hg : plainGet (KK w.params) CC name = true) (hf : findIn (KK w.params) (.ref CC) name = some (some (.ref f))) (ht : isFn (KK w.params) (.ref f) = true) (hk : keepIn (KK w.params) (.ref f) = true)
    (hm : methE e1 pos [e2, e3] p = true) (he : [e2, e3].all plainE = true) : Ef C n P (.Call (.Attribute e1 name pos) [e2, e3] [] p) H va (fun i => N i ++ P2 i) := fun _ _ _ _ S k =>
  have hs : plainE e2 = true ∧ plainE e3 = true := by simpa using he
  MethodCall_ (h1 _ S fun u D1 s1 S1 b1 i1 => by
    obtain rfl : u = .ref ad := i1
    have S₀ := S1
    obtain ⟨m, S1, N1⟩ := S1
    refine meth_S S1 C.G.X hx hd hg hf ht hgl ?_
    exact callWith_K C.G.X hk (spliced_more (h _ S₀ fun _ v D2 s2 _ S2 b2 i2 => spliced_more (h2 _ S2 fun u D3 s3 S3 b3 i3 => spliced_none ⟨X_of S3, sp _ (C.r.less hk') (kn_of S3 sel) (rd_of S3) (.cons rfl (.cons (i2.sb b3) (.cons i3 .nil))) fun i v s4 hi g ee x nw hv => by
      obtain ⟨D4, S4, b4, i4⟩ := S_puts S3 (V i) (hl i) g ee x nw hv
      exact k i _ _ _ hi S4 (((b1.trans b2).trans b3).trans b4) i4⟩) (star_cons hs.2)) (star_cons hs.1)) (star_cons hs.1) (star_plain (by simp [hs.2]))) (meth_eq hm)
end
end
local macro_rules | `(tactic| walk_at "mem") => `(tactic| first | exact List.Mem.head _ | (refine List.Mem.tail _ ?_; walk_at "mem") | fail "mem")
local macro_rules | `(tactic| walk_at "put") => `(tactic| first | exact Put.head | (refine' Put.tail ?pt; (case pt => walk_at "put")) | fail "put")
local macro_rules | `(tactic| walk_at "sel") => `(tactic| first | exact Sel.nil | (refine' Sel.take ?sm ?st; (case sm => walk_at "mem"); (case st => walk_at "sel")) | (refine' Sel.look ?st; (case st => walk_at "sel")) | (refine' Sel.skip ?st; (case st => walk_at "sel")) | fail "sel")
local macro_rules | `(tactic| walk_at "sd") => `(tactic| first | assumption | rfl | omega | decide | fail "sd")
local macro_rules | `(tactic| walk_at "blt") => `(tactic| (refine ⟨?b1, ?b2, ?b3, rfl, rfl⟩; (case b1 => k_is); (case b2 => boot_by_name); (case b3 => decide)))
local macro_rules | `(tactic| walk_at "sz") => `(tactic| first | assumption | (simp only [List.length_append, List.length_map, List.length_range, List.length_cons, List.length_nil]; omega))
local macro_rules | `(tactic| walk_at "ev") => `(tactic| with_reducible first
  | (refine' Ev.name ?e1 ?e2 ?e3; (case e1 => k_dflt rfl); (case e2 => k_dflt rfl); (case e3 => k_dflt rfl))
  | exact Ev.int
  | exact Ev.str
  | exact Ev.bool
  | (refine' Ev.glob ?e1 ?e2 ?e3; (case e1 => k_is); (case e2 => k_dflt rfl); (case e3 => k_dflt rfl))
  | (refine' Ev.itT ?e1 ?e2 ?e0 ?e3 ?e4; (case e0 => k_dflt (intro _ _ _; rfl)); (case e1 => walk_at "ev"); (case e2 => walk_at "ev"); (case e3 => k_dflt (walk_at "sd")); (case e4 => k_dflt (walk_at "sd")))
  | (refine' Ev.itL ?e1 ?e2 ?e0 ?e3 ?e4 ?e5 ?e6; (case e0 => k_dflt (intro _ _ _; rfl)); (case e1 => walk_at "ev"); (case e2 => walk_at "ev"); (case e3 => k_dflt (walk_at "mem")); (case e4 => k_dflt (walk_at "sd")); (case e5 => k_dflt (first | with_reducible assumption | omega)); (case e6 => k_dflt (first | with_reducible assumption | omega)))
  | (refine' Ev.itD ?e1 ?e2 ?e0 ?e3 ?e4; (case e0 => k_dflt (intro _ _ _; rfl)); (case e1 => walk_at "ev"); (case e2 => walk_at "ev"); (case e3 => k_dflt (walk_at "mem")); (case e4 => k_dflt (walk_at "sd")))
  | (refine' Ev.attrR ?e1 ?e2 ?e3 ?e4 ?e6 ?e7 ?e8 ?e9; (case e1 => walk_at "ev"); (case e2 => k_dflt (walk_at "mem")); (case e3 => k_dflt (walk_at "mem")); (case e4 => k_dflt rfl); (case e6 => k_is); (case e7 => k_is); (case e8 => k_is); (case e9 => k_is))
  | (refine' Ev.attrI ?e1 ?e2 ?e3 ?e4 ?e6 ?e7 ?e8 ?e9; (case e1 => walk_at "ev"); (case e2 => k_dflt (walk_at "mem")); (case e3 => k_dflt (walk_at "mem")); (case e4 => k_dflt rfl); (case e6 => k_is); (case e7 => k_is); (case e8 => k_is); (case e9 => k_is))
  | (refine' Ev.add ?e1 ?e2; (case e1 => walk_at "ev"); (case e2 => walk_at "ev"))
  | (refine' Ev.sub ?e1 ?e2; (case e1 => walk_at "ev"); (case e2 => walk_at "ev"))
  | (refine' Ev.mul ?e1 ?e2 ?e3; (case e1 => walk_at "ev"); (case e2 => walk_at "ev"); (case e3 => assumption))
  | (refine' Ev.neg ?e1; (case e1 => walk_at "ev"))
  | (refine' Ev.tup ?e1 ?e2; (case e1 => walk_at "evd"); (case e2 => k_dflt rfl))
  | (refine' Ev.cmp ?e1 ?e2 ?e3 ?e4 ?e5; (case e1 => walk_at "ev"); (case e2 => walk_at "ev"); (case e3 => walk_at "cm"); (case e4 => k_dflt rfl); (case e5 => k_dflt (exact decide_eq_true_iff)))
  | (refine' Ev.or2 ?e1 ?e2; (case e1 => walk_at "ev"); (case e2 => intro _; walk_at "ev"))
  | (refine' Ev.and2 ?e1 ?e2; (case e1 => walk_at "ev"); (case e2 => intro _; walk_at "ev"))
  | (refine' Ev.notB ?e1; (case e1 => walk_at "ev"))
  | (refine' Ev.lenL ?e0 ?e1 ?e2 ?e3 ?e4; (case e0 => k_dflt (walk_at "blt")); (case e1 => walk_at "ev"); (case e2 => k_dflt rfl); (case e3 => k_dflt (walk_at "mem")); (case e4 => k_dflt (walk_at "sz")))
  | (refine' Ev.lenT ?e0 ?e1 ?e2 ?e3; (case e0 => k_dflt (walk_at "blt")); (case e1 => walk_at "ev"); (case e2 => k_dflt rfl); (case e3 => k_dflt (walk_at "sz")))
  | walk_at "evc"
  | fail "ev")
local macro_rules | `(tactic| walk_at "evd") => `(tactic| with_reducible first | exact EvD.nil | (refine' EvD.cons ?d1 ?d2 ?d3; (case d3 => k_dflt rfl); (case d1 => walk_at "ev"); (case d2 => walk_at "evd")) | fail "evd")
local macro_rules | `(tactic| walk_at "evl") => `(tactic| with_reducible first | exact EvL.nil | (refine' EvL.cons ?d1 ?d2 ?d3; (case d3 => k_dflt rfl); (case d1 => walk_at "ev"); (case d2 => walk_at "evl")) | fail "evl")
local macro_rules | `(tactic| walk_at "cm") => `(tactic| with_reducible first
  | exact Cm.eqI | exact Cm.neI | exact Cm.ltI | exact Cm.gtI | exact Cm.geI | exact Cm.leI | exact Cm.eqC | exact Cm.neC | exact Cm.ltC | exact Cm.gtC | exact Cm.eqS | exact Cm.neS | exact Cm.neB
  | (refine' Cm.inSet ?c1; (case c1 => k_dflt (walk_at "mem"))) | (refine' Cm.niSet ?c1; (case c1 => k_dflt (walk_at "mem"))) | (refine' Cm.inDct ?c1; (case c1 => k_dflt (walk_at "mem"))) | (refine' Cm.niDct ?c1; (case c1 => k_dflt (walk_at "mem"))) | fail "cm")
local macro_rules | `(tactic| walk_at "evp") => `(tactic| with_reducible first
  | (refine' EvP.cmp ?c1 ?c2 ?c3 ?c4; (case c1 => walk_at "ev"); (case c2 => walk_at "ev"); (case c3 => walk_at "cm"); (case c4 => k_dflt rfl))
  | (refine' EvP.not ?c1; (case c1 => walk_at "evp"))
  | (refine' EvP.and2 ?c1 ?c2; (case c1 => walk_at "evp"); (case c2 => intro _; walk_at "evp"))
  | (refine' EvP.or2 ?c1 ?c2; (case c1 => walk_at "evp"); (case c2 => intro _; walk_at "evp"))
  | (refine' EvP.iff (EvP.val ?c1 (test_eq ?c2)) ?c3; (case c2 => k_dflt rfl); (case c1 => walk_at "ev"); (case c3 => k_dflt (first | exact decide_eq_true_iff | exact Iff.rfl)))
  | fail "evp")
local macro_rules | `(tactic| walk_at "nm") => `(tactic| first | refine' (?wn : Wb _ _ _ (_ :: _) _) | refine' (?wn : Wb _ _ _ [] _) | fail "nm")
local macro_rules | `(tactic| walk_at "puts") => `(tactic| first | exact Puts.nil | (refine' Puts.cons ?pu ?pv; (case pu => walk_at "put"); (case pv => walk_at "puts")) | fail "puts")
local macro_rules | `(tactic| walk_at "spc") => `(tactic| fail "spc")
local macro_rules | `(tactic| walk_at "spe") => `(tactic| fail "spe")
local macro_rules | `(tactic| walk_at "evc") => `(tactic| with_reducible first
  | (refine' Ev.call ?l ?sp ?sel ?kk ?f ?kp ?r1 ?r2; (case r1 => k_dflt rfl); (case r2 => k_dflt rfl); (case f => k_is); (case l => walk_at "evl"); (case' sp => walk_at "spc"); (case sel => k_dflt (walk_at "sel")); (case kk => k_dflt (first | decide | omega)); (case kp => k_is); (all_goals (try (refine (?_ : (_ : Prop)); k_dflt (walk_at "sd")))))
  | (refine' Ev.meth ?o ?l ?sp ?sel ?kk ?x ?d ?r2 ?g ?f ?t ?kp ?r1; (case r1 => k_dflt rfl); (case o => walk_at "ev"); (case l => walk_at "evl"); (case x => k_dflt (walk_at "mem")); (case d => k_dflt (walk_at "mem")); (case r2 => k_dflt rfl); (case f => k_is); (case' sp => walk_at "spc"); (case sel => k_dflt (walk_at "sel")); (case kk => k_dflt (first | decide | omega)); (case g => k_is); (case t => k_is); (case kp => k_is); (all_goals (try (refine (?_ : (_ : Prop)); k_dflt (walk_at "sd")))))
  | fail "evc")
local macro_rules | `(tactic| walk_at "efc") => `(tactic| with_reducible first
  | (refine' Ef.call ?l ?sp ?sel ?kk ?hl ?V ?f ?kp ?r1 ?r2; (case r1 => k_dflt rfl); (case r2 => k_dflt rfl); (case f => k_is); (case l => walk_at "evl"); (case' sp => walk_at "spe"); (case sel => k_dflt (walk_at "sel")); (case kk => k_dflt (first | decide | omega)); (case kp => k_is); (case hl => intro _; k_dflt rfl); (all_goals (try (refine (?_ : (_ : Prop)); k_dflt (walk_at "sd")))); (case V => intro _; k_dflt (walk_at "puts")))
  | (refine' Ef.meth ?o ?l ?sp ?sel ?kk ?hl ?V ?x ?d ?r2 ?g ?f ?t ?kp ?r1; (case r1 => k_dflt rfl); (case o => walk_at "ev"); (case l => walk_at "evl"); (case x => k_dflt (walk_at "mem")); (case d => k_dflt (walk_at "mem")); (case r2 => k_dflt rfl); (case f => k_is); (case' sp => walk_at "spe"); (case sel => k_dflt (walk_at "sel")); (case kk => k_dflt (first | decide | omega)); (case g => k_is); (case t => k_is); (case kp => k_is); (case hl => intro _; k_dflt rfl); (all_goals (try (refine (?_ : (_ : Prop)); k_dflt (walk_at "sd")))); (case V => intro _; k_dflt (walk_at "puts")))
  | fail "efc")
local macro_rules | `(tactic| walk_at "ef") => `(tactic| with_reducible first
  | (refine' Ef.append ?e1 ?e2 ?e3 ?e4 ?e5 ?e6; (case e3 => k_dflt rfl); (case e4 => k_dflt rfl); (case e1 => walk_at "ev"); (case e2 => walk_at "ev"); (case e5 => k_dflt (walk_at "put")); (case e6 => k_dflt (walk_at "sz")))
  | (refine' Ef.pop ?e1 ?e3 ?e5 ?e6; (case e3 => k_dflt rfl); (case e1 => walk_at "ev"); (case e5 => k_dflt (walk_at "put")); (case e6 => k_dflt (walk_at "sz")))
  | (refine' Ef.add ?e1 ?e2 ?e3 ?e4 ?e5 ?e6; (case e3 => k_dflt rfl); (case e4 => k_dflt rfl); (case e1 => walk_at "ev"); (case e2 => walk_at "ev"); (case e5 => k_dflt (walk_at "put")); (case e6 => k_dflt (walk_at "sz")))
  | (refine' Ef.setNew ?e1; (case e1 => k_dflt (walk_at "blt")))
  | (refine' Ef.lst ?e1 ?e2; (case e1 => walk_at "evd"); (case e2 => k_dflt rfl))
  | exact Ef.dct
  | (refine' Ef.listL ?e0 ?e1 ?e2 ?e3 ?e4; (case e0 => k_dflt (walk_at "blt")); (case e1 => walk_at "ev"); (case e2 => k_dflt rfl); (case e3 => k_dflt (walk_at "mem")); (case e4 => k_dflt (walk_at "sz")))
  | (refine' Ef.listD ?e0 ?e1 ?e2 ?e3 ?e4; (case e0 => k_dflt (walk_at "blt")); (case e1 => walk_at "ev"); (case e2 => k_dflt rfl); (case e3 => k_dflt (walk_at "mem")); (case e4 => assumption))
  | (refine' Ef.range1 ?e0 ?e1 ?e2; (case e0 => k_dflt (walk_at "blt")); (case e1 => walk_at "ev"); (case e2 => k_dflt rfl))
  | (refine' Ef.range3 ?e0 ?e1 ?e2 ?e3 ?e4 ?e5 ?e6; (case e0 => k_dflt (walk_at "blt")); (case e1 => walk_at "ev"); (case e2 => walk_at "ev"); (case e3 => walk_at "ev"); (case e4 => k_dflt rfl); (case e5 => k_dflt decide); (case e6 => k_dflt (exact PyProof.noPylong_small (by omega))))
  | walk_at "efc"
  | (refine' Ef.one ?e1; (case e1 => walk_at "ev"))
  | fail "ef")
section
section
variable {prog : Program} {w : World} {B : Heap}
noncomputable abbrev cdp (c : Int × Int) : PyData := cd c.1 c.2
structure WF (cs : List (Int × Int)) : Prop where
  tag : ∀ c ∈ cs, c.1 ≠ 1
  root : ∀ (i : Nat) (j : Int), cs[i]? = some ((0 : Int), j) → 0 ≤ j ∧ cs[j.toNat]? = some (0, j)
noncomputable def derefF (cs : List (Int × Int)) (c : Int × Int) : Int × Int := if c.1 = 0 then cs.getD c.2.toNat c else c
noncomputable abbrev stP (x dx H sy K T : Addr) (mh hb bb : Tok) (f : Bool) (cs : List (Int × Int)) : List (Addr × Bool × Tr) :=
  [(x, false, .is (IsInst 373 dx)), (dx, false, .att (storeG sy H K T mh hb bb) 7), (H, f, .ldat (cs.map cdp))]
noncomputable def CellOk (cs : List (Int × Int)) (c : Int × Int) : Prop := c.1 ≠ 1 ∧ (c.1 = 0 → 0 ≤ c.2 ∧ c.2 < cs.length)
theorem map_get {cs : List (Int × Int)} {i : Nat} {c : Int × Int} (h : cs[i]? = some c) : (cs.map cdp)[i]? = some (cd c.1 c.2) := by rw [List.getElem?_map, h]; rfl
theorem derefF_get {cs : List (Int × Int)} {a : Int} {c : Int × Int} (h : cs[a.toNat]? = some c) : derefF cs (0, a) = c := by
  unfold derefF; rw [if_pos rfl, List.getD_eq_getElem?_getD, h]; rfl
variable {x : Addr} {t a t' a' : Int}
theorem is_variable_fn (G : Gr (KK w.params) B) : PFn prog w B 1 [] 431 [.d (cd t a)] (.d (.bool (decide (t = 0 ∨ t = 1)))) := by
  refine' (PFn.of (n := [("cell", .d (cd t a))]) G is_431 (by rfl) (by rfl) fun C R hR hE => ?_)
  walk_at "nm"
  ((with_reducible refine' Wb.ret (by assumption) ?wcx1 ?wxx1); (case wcx1 => walk_at "ev"))
  rw [Bool.decide_or]
theorem variable_number_fn (G : Gr (KK w.params) B) : PFn prog w B 1 [] 487 [.d (cd 0 a)] (.d (.int a)) := by
  refine' (PFn.of (n := [("cell", .d (cd 0 a))]) G is_487 (by rfl) (by rfl) fun C R hR hE => ?_)
  walk_at "nm"
  ((with_reducible refine' Wb.ite ?wcx2 ?wtx2 ?wfx2); (case wcx2 => walk_at "evp"); (case' wfx2 => intro hbZ; walk_at "nm"); (case' wtx2 => intro hbZ; walk_at "nm"))
  · ((with_reducible refine' Wb.ret (by assumption) ?wcx3 ?wxx3); (case wcx3 => walk_at "ev"))
    first | rfl | (exfalso; simp_all)
  · ((with_reducible refine' Wb.ret (by assumption) ?wcx4 ?wxx4); (case wcx4 => walk_at "ev"))
    first | rfl | (exfalso; simp_all)
noncomputable def rankF (t : Int) : Int := if t = 5 then 1 else if t = 4 then 2 else if t = 2 ∨ t = 3 then 3 else 0
theorem rank_fn (G : Gr (KK w.params) B) : PFn prog w B 1 [] 438 [.d (cd t a)] (.d (.int (rankF t))) := by
  refine' (PFn.of (n := [("cell", .d (cd t a))]) G is_438 (by rfl) (by rfl) fun C R hR hE => ?_)
  walk_at "nm"
  ((with_reducible refine' Wb.asg ?wcx5 ?wkx5 ?wlx5 ?wex5); (case wlx5 => rfl); (case wex5 => rfl); (case wcx5 => walk_at "ev"); (case' wkx5 => walk_at "nm"))
  ((with_reducible refine' Wb.ite ?wcx6 ?wtx6 ?wfx6); (case wcx6 => walk_at "evp"); (case' wfx6 => intro hbZ; walk_at "nm"); (case' wtx6 => intro hbZ; walk_at "nm"))
  · ((with_reducible refine' Wb.ret (by assumption) ?wcx7 ?wxx7); (case wcx7 => walk_at "ev"))
    unfold rankF; simp_all
  · ((with_reducible refine' Wb.ite ?wcx8 ?wtx8 ?wfx8); (case wcx8 => walk_at "evp"); (case' wfx8 => intro hbZ; walk_at "nm"); (case' wtx8 => intro hbZ; walk_at "nm"))
    · ((with_reducible refine' Wb.ret (by assumption) ?wcx9 ?wxx9); (case wcx9 => walk_at "ev"))
      unfold rankF; simp_all
    · ((with_reducible refine' Wb.ite ?wcx10 ?wtx10 ?wfx10); (case wcx10 => walk_at "evp"); (case' wfx10 => intro hbZ; walk_at "nm"); (case' wtx10 => intro hbZ; walk_at "nm"))
      · ((with_reducible refine' Wb.ret (by assumption) ?wcx11 ?wxx11); (case wcx11 => walk_at "ev"))
        unfold rankF; simp_all
      · ((with_reducible refine' Wb.ret (by assumption) ?wcx12 ?wxx12); (case wcx12 => walk_at "ev"))
        unfold rankF; simp_all
noncomputable def orderF (x y : Int) : Int := if x < y then -1 else if y < x then 1 else 0
theorem order_int (G : Gr (KK w.params) B) : PFn prog w B 1 [] 445 [.d (.int a), .d (.int a')] (.d (.int (orderF a a'))) := by
  refine' (PFn.of (n := [("right", .d (.int a')), ("left", .d (.int a))]) G is_445 (by rfl) (by rfl) fun C R hR hE => ?_)
  walk_at "nm"
  ((with_reducible refine' Wb.ite ?wcx13 ?wtx13 ?wfx13); (case wcx13 => walk_at "evp"); (case' wfx13 => intro hbZ; walk_at "nm"); (case' wtx13 => intro hbZ; walk_at "nm"))
  · ((with_reducible refine' Wb.ret (by assumption) ?wcx14 ?wxx14); (case wcx14 => walk_at "ev"))
    unfold orderF; (repeat' split) <;> first | rfl | omega
  · ((with_reducible refine' Wb.ite ?wcx15 ?wtx15 ?wfx15); (case wcx15 => walk_at "evp"); (case' wfx15 => intro hbZ; walk_at "nm"); (case' wtx15 => intro hbZ; walk_at "nm"))
    · ((with_reducible refine' Wb.ret (by assumption) ?wcx16 ?wxx16); (case wcx16 => walk_at "ev"))
      unfold orderF; (repeat' split) <;> first | rfl | omega
    · ((with_reducible refine' Wb.ret (by assumption) ?wcx17 ?wxx17); (case wcx17 => walk_at "ev"))
      unfold orderF; (repeat' split) <;> first | rfl | omega
theorem order_cell (G : Gr (KK w.params) B) : PFn prog w B 1 [] 445 [.d (cd t a), .d (cd t a')] (.d (.int (orderF a a'))) := by
  refine' (PFn.of (n := [("right", .d (cd t a')), ("left", .d (cd t a))]) G is_445 (by rfl) (by rfl) fun C R hR hE => ?_)
  walk_at "nm"
  ((with_reducible refine' Wb.ite ?wcx18 ?wtx18 ?wfx18); (case wcx18 => walk_at "evp"); (case' wfx18 => intro hbZ; walk_at "nm"); (case' wtx18 => intro hbZ; walk_at "nm"))
  · ((with_reducible refine' Wb.ret (by assumption) ?wcx19 ?wxx19); (case wcx19 => walk_at "ev"))
    unfold orderF; (repeat' split) <;> first | rfl | omega
  · ((with_reducible refine' Wb.ite ?wcx20 ?wtx20 ?wfx20); (case wcx20 => walk_at "evp"); (case' wfx20 => intro hbZ; walk_at "nm"); (case' wtx20 => intro hbZ; walk_at "nm"))
    · ((with_reducible refine' Wb.ret (by assumption) ?wcx21 ?wxx21); (case wcx21 => walk_at "ev"))
      unfold orderF; (repeat' split) <;> first | rfl | omega
    · ((with_reducible refine' Wb.ret (by assumption) ?wcx22 ?wxx22); (case wcx22 => walk_at "ev"))
      unfold orderF; (repeat' split) <;> first | rfl | omega
theorem is_compound_fn (G : Gr (KK w.params) B) : PFn prog w B 1 [] 285 [.r x, .d (cd t a)] (.d (.bool (decide (t = 2 ∨ t = 3)))) := by
  refine' (PFn.of (n := [("cell", .d (cd t a)), ("self", .r x)]) G is_285 (by rfl) (by rfl) fun C R hR hE => ?_)
  walk_at "nm"
  ((with_reducible refine' Wb.ret (by assumption) ?wcx23 ?wxx23); (case wcx23 => walk_at "ev"))
  rw [Bool.decide_or]
noncomputable def baseF (c : Int × Int) : Int := if c.1 = 3 then c.2 else c.2 + 1
theorem base_fn (G : Gr (KK w.params) B) : PFn prog w B 1 [] 306 [.r x, .d (cd t a)] (.d (.int (baseF (t, a)))) := by
  refine' (PFn.of (n := [("cell", .d (cd t a)), ("self", .r x)]) G is_306 (by rfl) (by rfl) fun C R hR hE => ?_)
  walk_at "nm"
  ((with_reducible refine' Wb.ite ?wcx24 ?wtx24 ?wfx24); (case wcx24 => walk_at "evp"); (case' wfx24 => intro hbZ; walk_at "nm"); (case' wtx24 => intro hbZ; walk_at "nm"))
  · ((with_reducible refine' Wb.ret (by assumption) ?wcx25 ?wxx25); (case wcx25 => walk_at "ev"))
    unfold baseF; simp_all
  · ((with_reducible refine' Wb.ret (by assumption) ?wcx26 ?wxx26); (case wcx26 => walk_at "ev"))
    unfold baseF; simp_all
variable {dx H sy dsy ST TR TX AN FU FN K T : Addr} {mh hb bb : Tok} {cs fs : List (Int × Int)}
theorem deref_fn (G : Gr (KK w.params) B) (wf : WF cs) (ok : CellOk cs (t, a)) (hz : cs.length < 2 ^ 20) : PFn prog w B 1 (stP x dx H sy K T mh hb bb false cs) 229 [.r x, .d (cd t a)] (.d (cdp (derefF cs (t, a)))) := by
  refine' (PFn.of (n := [("cell", .d (cd t a)), ("self", .r x)]) G is_229 (by rfl) (by rfl) fun C R hR hE => ?_)
  walk_at "nm"
  refine' Wb.whl (N := fun i : Nat × Int × Int => [("cell", .d (cd i.2.1 i.2.2)), ("self", .r x)]) (PP := fun _ => stP x dx H sy K T mh hb bb false cs) (H := fun i => CellOk cs i.2 ∧ derefF cs i.2 = derefF cs (t, a) ∧ (i.1 = 0 → i.2.1 ≠ 0 ∨ cs[i.2.2.toNat]? = some (0, i.2.2)))
    (μ := fun i => i.1) (pp := fun _ => true = true) hR (1, t, a) ⟨ok, rfl, fun e => nomatch e⟩ ⟨rfl, rfl, trivial⟩ (List.Sublist.refl _) (fun i hi => ?c) (fun R' i hR' hT hi _ => ?b) (fun i _ h => absurd rfl h)
  case c => walk_at "evp"
  obtain ⟨m, t', a'⟩ := i
  obtain ⟨ok', eq, hn⟩ := hi
  dsimp only at ok' eq hn hT ⊢
  ((with_reducible refine' Wb.asg ?wcx27 ?wkx27 ?wlx27 ?wex27); (case wlx27 => rfl); (case wex27 => rfl); (case wcx27 => walk_at "ev"); (case' wkx27 => walk_at "nm"))
  ((with_reducible refine' Wb.ite ?wcx28 ?wtx28 ?wfx28); (case wcx28 => walk_at "evp"); (case' wfx28 => intro hbZ; walk_at "nm"); (case' wtx28 => intro hbZ; walk_at "nm"))
  · rename t' = 0 => e
    subst e
    obtain ⟨h0, h1⟩ := ok'.2 rfl
    dsimp only at h0 h1
    obtain ⟨c2, hget⟩ : ∃ c, cs[a'.toNat]? = some c := ⟨_, List.getElem?_eq_getElem (by walk_at "o")⟩
    have hget' := map_get hget
    ((with_reducible refine' Wb.asg ?wcx29 ?wkx29 ?wlx29 ?wex29); (case wlx29 => rfl); (case wex29 => rfl); (case wcx29 => walk_at "ev"); (case' wkx29 => walk_at "nm"))
    ((with_reducible refine' Wb.ite ?wcx30 ?wtx30 ?wfx30); (case wcx30 => walk_at "evp"); (case' wfx30 => intro hbZ; walk_at "nm"); (case' wtx30 => intro hbZ; walk_at "nm"))
    · rename c2.1 = 0 ∧ c2.2 = a' => e
      ((with_reducible refine' Wb.ret (by assumption) ?wcx31 ?wxx31); (case wcx31 => walk_at "ev"))
      rw [← eq, derefF_get hget, ← e.1, ← e.2]
    · rename ¬ (c2.1 = 0 ∧ c2.2 = a') => e
      ((with_reducible refine' Wb.asg ?wcx32 ?wkx32 ?wlx32 ?wex32); (case wlx32 => rfl); (case wex32 => rfl); (case wcx32 => walk_at "ev"); (case' wkx32 => walk_at "nm"))
      have e0 : c2.1 = 0 → cs[c2.2.toNat]? = some (0, c2.2) ∧ 0 ≤ c2.2 := fun q => by
        have := wf.root _ c2.2 (by rw [hget, ← q]); exact ⟨this.2, this.1⟩
      refine Wb.turn hT (0, c2.1, c2.2) ⟨⟨⟨wf.tag _ (List.mem_of_getElem? hget), fun q => ⟨(e0 q).2, ?_⟩⟩, ?_, fun _ => ?_⟩, ?_⟩ ⟨rfl, rfl, trivial⟩ (List.Sublist.refl _)
      · have := (List.getElem?_eq_some_iff.mp (e0 q).1).1
        dsimp only; walk_at "o"
      · rw [← eq, derefF_get hget]
        by_cases q : c2.1 = 0
        · dsimp only; rw [q, derefF_get (e0 q).1, ← q]
        · unfold derefF; rw [if_neg q]
      · by_cases q : c2.1 = 0
        · exact .inr (e0 q).1
        · exact .inl q
      · rcases Nat.eq_zero_or_pos m with z | z
        · rcases hn z with q | q
          · exact absurd rfl q
          · rw [hget] at q; cases q; exact absurd ⟨rfl, rfl⟩ e
        · exact z
  · rename ¬ t' = 0 => e
    have ht1 : ¬ t' = 1 := ok'.1
    ((with_reducible refine' Wb.ite ?wcx33 ?wtx33 ?wfx33); (case wcx33 => walk_at "evp"); (case' wfx33 => intro hbZ; walk_at "nm"); (case' wtx33 => intro hbZ; walk_at "nm"))
    · exact absurd ‹t' = 1› ht1
    · ((with_reducible refine' Wb.ret (by assumption) ?wcx34 ?wxx34); (case wcx34 => walk_at "ev"))
      rw [← eq]; unfold derefF; rw [if_neg e]
end
end
section
section
variable {prog : Program} {w : World} {B : Heap}
variable {x dx H sy dsy ST TR T AN FU FN : Addr} {mh hb bb : Tok} {cs fs : List (Int × Int)} {t a t' a' f : Int}
noncomputable abbrev symP (sy dsy T AN FU FN : Addr) (fs : List (Int × Int)) : List (Addr × Bool × Tr) := [(sy, false, .is (IsInst 154 dsy)), (dsy, false, .att (symG T AN FU FN) 4), (FU, false, .ldat (fs.map cdp))]
theorem arity_fn (G : Gr (KK w.params) B) {c : Int × Int} (hf : 0 ≤ f ∧ f < 1000) (hc : fs[f.toNat]? = some c) : PFn prog w B 1 (symP sy dsy T AN FU FN fs) 123 [.r sy, .d (.int f)] (.d (.int c.2)) := by
  refine' (PFn.of (n := [("functor", .d (.int f)), ("self", .r sy)]) G is_123 (by rfl) (by rfl) fun C R hR hE => ?_)
  have hc' := map_get hc
  walk_at "nm"
  ((with_reducible refine' Wb.ret (by assumption) ?wcx35 ?wxx35); (case wcx35 => walk_at "ev"))
  rfl
local macro_rules | `(tactic| walk_at "spc") => `(tactic| with_reducible first | (refine' arity_fn (by assumption) ?_ ?_) | fail "spc")
noncomputable def widthF (cs fs : List (Int × Int)) (c : Int × Int) : Int := if c.1 = 3 then 2 else if c.1 = 2 then (fs.getD (cs.getD c.2.toNat (0, 0)).2.toNat (0, 0)).2 else 0
noncomputable def HeadOk (cs fs : List (Int × Int)) (c : Int × Int) : Prop := c.1 = 2 → 0 ≤ c.2 ∧ c.2 < 2 ^ 20 ∧ ∃ t f p, cs[c.2.toNat]? = some (t, f) ∧ 0 ≤ f ∧ f < 1000 ∧ fs[f.toNat]? = some p
noncomputable abbrev stSyP (x dx H sy K T : Addr) (mh hb bb : Tok) (f : Bool) (cs : List (Int × Int)) (dsy TX AN FU FN : Addr) (fs : List (Int × Int)) : List (Addr × Bool × Tr) :=
  [(x, false, .is (IsInst 373 dx)), (dx, false, .att (storeG sy H K T mh hb bb) 7), (H, f, .ldat (cs.map cdp)), (sy, false, .is (IsInst 154 dsy)), (dsy, false, .att (symG TX AN FU FN) 4), (FU, false, .ldat (fs.map cdp))]
theorem width_fn (G : Gr (KK w.params) B) (ok : HeadOk cs fs (t, a)) : PFn prog w B 2 (stSyP x dx H sy ST TR mh hb bb false cs dsy T AN FU FN fs) 299 [.r x, .d (cd t a)] (.d (.int (widthF cs fs (t, a)))) := by
  refine' (PFn.of (n := [("cell", .d (cd t a)), ("self", .r x)]) G is_299 (by rfl) (by rfl) fun C R hR hE => ?_)
  walk_at "nm"
  ((with_reducible refine' Wb.asg ?wcx36 ?wkx36 ?wlx36 ?wex36); (case wlx36 => rfl); (case wex36 => rfl); (case wcx36 => walk_at "ev"); (case' wkx36 => walk_at "nm"))
  ((with_reducible refine' Wb.ite ?wcx37 ?wtx37 ?wfx37); (case wcx37 => walk_at "evp"); (case' wfx37 => intro hbZ; walk_at "nm"); (case' wtx37 => intro hbZ; walk_at "nm"))
  · ((with_reducible refine' Wb.ret (by assumption) ?wcx38 ?wxx38); (case wcx38 => walk_at "ev"))
    unfold widthF; rw [if_pos ‹t = 3›]
  · ((with_reducible refine' Wb.ite ?wcx39 ?wtx39 ?wfx39); (case wcx39 => walk_at "evp"); (case' wfx39 => intro hbZ; walk_at "nm"); (case' wtx39 => intro hbZ; walk_at "nm"))
    · rename t = 2 => e
      obtain ⟨h0, h1, t', f, p, e1, h2, h3, e2⟩ := ok e
      dsimp only at h0 h1 e1
      have e1' : (cs.map cdp)[a.toNat]? = some (cd t' f) := map_get e1
      have hf : 0 ≤ f ∧ f < 1000 := ⟨h2, h3⟩
      ((with_reducible refine' Wb.ret (by assumption) ?wcx40 ?wxx40); (case wcx40 => walk_at "ev"))
      simp [widthF, e, List.getD_eq_getElem?_getD, e1, e2]
    · ((with_reducible refine' Wb.ret (by assumption) ?wcx41 ?wxx41); (case wcx41 => walk_at "ev"))
      unfold widthF; rw [if_neg ‹¬ t = 3›, if_neg ‹¬ t = 2›]
noncomputable def headF (cs : List (Int × Int)) (c : Int × Int) : Int := if c.1 = 3 then 0 else (cs.getD c.2.toNat (0, 0)).2
noncomputable def CompOk (cs fs : List (Int × Int)) (c : Int × Int) : Prop := 0 ≤ c.2 ∧ c.2 < 2 ^ 20 ∧ (c.1 = 2 → ∃ f p, cs[c.2.toNat]? = some (6, f) ∧ 0 ≤ f ∧ f < 1000 ∧ fs[f.toNat]? = some p) ∧ (c.1 = 3 → ∃ p, fs[0]? = some p)
theorem head_get {a f : Int} (h : cs[a.toNat]? = some (6, f)) : headF cs (2, a) = f := by simp [headF, List.getD_eq_getElem?_getD, h]
theorem same_shape_fn (G : Gr (KK w.params) B) (ht : (t = 2 ∨ t = 3) ∧ (t' = 2 ∨ t' = 3)) (ok : CompOk cs fs (t, a) ∧ CompOk cs fs (t', a')) :
    PFn prog w B 1 (stP x dx H sy ST TR mh hb bb false cs) 424 [.r x, .d (cd t a), .d (cd t' a')] (.d (.bool (decide (t = t' ∧ headF cs (t, a) = headF cs (t', a'))))) := by
  refine' (PFn.of (n := [("right", .d (cd t' a')), ("left", .d (cd t a)), ("store", .r x)]) G is_424 (by rfl) (by rfl) fun C R hR hE => ?_)
  walk_at "nm"
  ((with_reducible refine' Wb.ite ?wcx42 ?wtx42 ?wfx42); (case wcx42 => walk_at "evp"); (case' wfx42 => intro hbZ; walk_at "nm"); (case' wtx42 => intro hbZ; walk_at "nm"))
  · ((with_reducible refine' Wb.ret (by assumption) ?wcx43 ?wxx43); (case wcx43 => walk_at "ev"))
    rw [decide_eq_false (fun q => ‹t ≠ t'› q.1)]
  · obtain rfl : t = t' := Decidable.not_not.mp ‹¬ t ≠ t'›
    ((with_reducible refine' Wb.ite ?wcx44 ?wtx44 ?wfx44); (case wcx44 => walk_at "evp"); (case' wfx44 => intro hbZ; walk_at "nm"); (case' wtx44 => intro hbZ; walk_at "nm"))
    · ((with_reducible refine' Wb.ret (by assumption) ?wcx45 ?wxx45); (case wcx45 => walk_at "ev"))
      simp [headF, ‹t = 3›]
    · obtain rfl : t = 2 := by walk_at "o"
      obtain ⟨⟨h0, h1, h2, _⟩, ⟨i0, i1, i2, _⟩⟩ := ok
      obtain ⟨f, p, e1, j0, j1, e2⟩ := h2 rfl
      obtain ⟨f', p', e1', j0', j1', e2'⟩ := i2 rfl
      dsimp only at h0 h1 i0 i1 e1 e1'
      have q1 : (cs.map cdp)[a.toNat]? = some (cd 6 f) := map_get e1
      have q2 : (cs.map cdp)[a'.toNat]? = some (cd 6 f') := map_get e1'
      ((with_reducible refine' Wb.ret (by assumption) ?wcx46 ?wxx46); (case wcx46 => walk_at "ev"))
      simp [head_get e1, head_get e1']
theorem functor_of_fn (G : Gr (KK w.params) B) (ht : t = 2 ∨ t = 3) (ok : CompOk cs fs (t, a)) : PFn prog w B 1 (stP x dx H sy ST TR mh hb bb false cs) 292 [.r x, .d (cd t a)] (.d (.int (headF cs (t, a)))) := by
  refine' (PFn.of (n := [("cell", .d (cd t a)), ("self", .r x)]) G is_292 (by rfl) (by rfl) fun C R hR hE => ?_)
  walk_at "nm"
  ((with_reducible refine' Wb.asg ?wcx47 ?wkx47 ?wlx47 ?wex47); (case wlx47 => rfl); (case wex47 => rfl); (case wcx47 => walk_at "ev"); (case' wkx47 => walk_at "nm"))
  ((with_reducible refine' Wb.ite ?wcx48 ?wtx48 ?wfx48); (case wcx48 => walk_at "evp"); (case' wfx48 => intro hbZ; walk_at "nm"); (case' wtx48 => intro hbZ; walk_at "nm"))
  · obtain ⟨h0, h1, h2, _⟩ := ok
    obtain ⟨f, p, e1, j0, j1, e2⟩ := h2 ‹t = 2›
    dsimp only at h0 h1 e1
    have q1 : (cs.map cdp)[a.toNat]? = some (cd 6 f) := map_get e1
    ((with_reducible refine' Wb.ret (by assumption) ?wcx49 ?wxx49); (case wcx49 => walk_at "ev"))
    rw [‹t = 2›, head_get e1]
  · obtain rfl : t = 3 := by walk_at "o"
    ((with_reducible refine' Wb.ite ?wcx50 ?wtx50 ?wfx50); (case wcx50 => walk_at "evp"); (case' wfx50 => intro hbZ; walk_at "nm"); (case' wtx50 => intro hbZ; walk_at "nm"))
    · ((with_reducible refine' Wb.ret (by assumption) ?wcx51 ?wxx51); (case wcx51 => walk_at "ev"))
      rfl
    · exact absurd rfl ‹¬ (3 : Int) = 3›
noncomputable def Apart (fs : List (Int × Int)) (f g : Int) : Prop := f = g ∨ ∃ p q, fs[f.toNat]? = some p ∧ fs[g.toNat]? = some q ∧ p.2 ≠ q.2 ∧ (0 ≤ f ∧ f < 1000) ∧ (0 ≤ g ∧ g < 1000)
local macro_rules | `(tactic| walk_at "spc") => `(tactic| with_reducible first | (exact order_cell (by assumption)) | (exact order_int (by assumption)) | (exact rank_fn (by assumption)) | (refine' functor_of_fn (by assumption) ?_ ?_) | fail "spc")
theorem orderF_zero {x y : Int} : orderF x y = 0 ↔ x = y := by unfold orderF; (repeat' split) <;> walk_at "o"
noncomputable def arF (fs : List (Int × Int)) (f : Int) : Int := (fs.getD f.toNat (0, 0)).2
theorem arF_get {p : Int × Int} (h : fs[f.toNat]? = some p) : arF fs f = p.2 := by simp [arF, List.getD_eq_getElem?_getD, h]
noncomputable def shapesI (cs fs : List (Int × Int)) (c c' : Int × Int) : Int := if headF cs c = headF cs c' then 0 else orderF (arF fs (headF cs c)) (arF fs (headF cs c'))
theorem compare_shapes_fn (G : Gr (KK w.params) B) (ht : t = 2 ∨ t = 3) (ht' : t' = 2 ∨ t' = 3) (ok : CompOk cs fs (t, a)) (ok' : CompOk cs fs (t', a')) (ap : Apart fs (headF cs (t, a)) (headF cs (t', a'))) :
    PFn prog w B 2 (stSyP x dx H sy ST TR mh hb bb false cs dsy T AN FU FN fs) 452 [.r x, .d (cd t a), .d (cd t' a')] (.d (.int (shapesI cs fs (t, a) (t', a')))) := by
  refine' (PFn.of (n := [("right", .d (cd t' a')), ("left", .d (cd t a)), ("store", .r x)]) G is_452 (by rfl) (by rfl) fun C R hR hE => ?_)
  walk_at "nm"
  ((with_reducible refine' Wb.asg ?wcx52 ?wkx52 ?wlx52 ?wex52); (case wlx52 => rfl); (case wex52 => rfl); (case wcx52 => walk_at "ev"); (case' wkx52 => walk_at "nm"))
  ((with_reducible refine' Wb.asg ?wcx53 ?wkx53 ?wlx53 ?wex53); (case wlx53 => rfl); (case wex53 => rfl); (case wcx53 => walk_at "ev"); (case' wkx53 => walk_at "nm"))
  ((with_reducible refine' Wb.asg ?wcx54 ?wkx54 ?wlx54 ?wex54); (case wlx54 => rfl); (case wex54 => rfl); (case wcx54 => walk_at "ev"); (case' wkx54 => walk_at "nm"))
  ((with_reducible refine' Wb.ite ?wcx55 ?wtx55 ?wfx55); (case wcx55 => walk_at "evp"); (case' wfx55 => intro hbZ; walk_at "nm"); (case' wtx55 => intro hbZ; walk_at "nm"))
  · ((with_reducible refine' Wb.ret (by assumption) ?wcx56 ?wxx56); (case wcx56 => walk_at "ev"))
    rw [shapesI, if_pos ‹headF cs (t, a) = headF cs (t', a')›]
  · rcases ap with q | ⟨p, q, e1, e2, ne, b1, b2⟩
    · exact absurd q ‹¬ headF cs (t, a) = headF cs (t', a')›
    · ((with_reducible refine' Wb.asg ?wcx57 ?wkx57 ?wlx57 ?wex57); (case wlx57 => rfl); (case wex57 => rfl); (case wcx57 => walk_at "ev"); (case' wkx57 => walk_at "nm"))
      have ne' : ¬ orderF p.2 q.2 = 0 := fun z => ne (orderF_zero.mp z)
      ((with_reducible refine' Wb.ite ?wcx58 ?wtx58 ?wfx58); (case wcx58 => walk_at "evp"); (case' wfx58 => intro hbZ; walk_at "nm"); (case' wtx58 => intro hbZ; walk_at "nm"))
      · ((with_reducible refine' Wb.ret (by assumption) ?wcx59 ?wxx59); (case wcx59 => walk_at "ev"))
        rw [shapesI, if_neg ‹¬ headF cs (t, a) = headF cs (t', a')›, arF_get e1, arF_get e2]
      · exact absurd ne' ‹¬ (orderF p.2 q.2 ≠ 0)›
noncomputable def isC (t : Int) : Prop := t = 2 ∨ t = 3
noncomputable def topsI (cs fs : List (Int × Int)) (c c' : Int × Int) : Int := if orderF (rankF c.1) (rankF c'.1) ≠ 0 then orderF (rankF c.1) (rankF c'.1) else if rankF c.1 = 0 ∨ rankF c.1 = 1 then orderF c.2 c'.2 else shapesI cs fs c c'
noncomputable def tagL : List Int := [0, 2, 3, 4, 5]
theorem tag_mem {P : Prop} (h : t = 0 ∨ t = 2 ∨ t = 3 ∨ (t = 4 ∧ P) ∨ t = 5) : t ∈ tagL := by
  rcases h with rfl | rfl | rfl | ⟨rfl, _⟩ | rfl <;> decide
theorem tag_four {P : Prop} (h : t = 0 ∨ t = 2 ∨ t = 3 ∨ (t = 4 ∧ P) ∨ t = 5) (e : t = 4) : P := by
  subst e
  rcases h with h | h | h | h | h
  · cases h
  · cases h
  · cases h
  · exact h.2
  · cases h
theorem no_four (ht : t = 0 ∨ t = 2 ∨ t = 3 ∨ (t = 4 ∧ a = 0) ∨ t = 5) (ht' : t' = 0 ∨ t' = 2 ∨ t' = 3 ∨ (t' = 4 ∧ a' = 0) ∨ t' = 5) (ne : ¬ (t = t' ∧ a = a')) (e : t = t') : t ≠ 4 := fun h => ne ⟨e, by rw [tag_four ht h, tag_four ht' (e ▸ h)]⟩
theorem tag_tab : ∀ t ∈ tagL, ∀ t' ∈ tagL, (rankF t = rankF t' → ¬ (t = 2 ∨ t = 3) → t = t') ∧ (rankF t = rankF t' → (t = 2 ∨ t = 3) → (t' = 2 ∨ t' = 3)) ∧ ((t = 2 ∨ t = 3) → (t' = 2 ∨ t' = 3) → rankF t = rankF t') ∧ ((rankF t = 0 ∨ rankF t = 1) ↔ ¬ (t = 2 ∨ t = 3 ∨ t = 4)) ∧ (rankF t = 0 → ¬ (t = 2 ∨ t = 3)) ∧ (rankF t = 2 → t = 4) := by decide
theorem topsI_zero (ht : t = 0 ∨ t = 2 ∨ t = 3 ∨ (t = 4 ∧ a = 0) ∨ t = 5) (ht' : t' = 0 ∨ t' = 2 ∨ t' = 3 ∨ (t' = 4 ∧ a' = 0) ∨ t' = 5) (ne : ¬ (t = t' ∧ a = a')) (ap : isC t → isC t' → Apart fs (headF cs (t, a)) (headF cs (t', a'))) :
    topsI cs fs (t, a) (t', a') = 0 ↔ isC t ∧ isC t' ∧ headF cs (t, a) = headF cs (t', a') := by
  obtain ⟨b1, b2, b3, b4, _, _⟩ := tag_tab t (tag_mem (P := a = 0) ht) t' (tag_mem (P := a' = 0) ht')
  have n4 := no_four ht ht' ne
  clear ht ht'
  unfold topsI
  by_cases e : rankF t = rankF t'
  · rw [if_neg (fun z => z (orderF_zero.mpr e))]
    by_cases c : isC t
    · rw [if_neg (fun z => b4.mp z (c.elim .inl fun z => .inr (.inl z)))]
      have c' := b2 e c
      unfold shapesI
      by_cases h : headF cs (t, a) = headF cs (t', a')
      · rw [if_pos h]; exact ⟨fun _ => ⟨c, c', h⟩, fun _ => rfl⟩
      · rw [if_neg h]
        refine ⟨fun q => ?_, fun q => absurd q.2.2 h⟩
        rcases ap c c' with z | ⟨p, q', e1, e2, ne', _⟩
        · exact absurd z h
        · rw [arF_get e1, arF_get e2] at q; exact absurd (orderF_zero.mp q) ne'
    · rw [if_pos (b4.mpr fun z => z.elim (fun z => c (.inl z)) fun z => z.elim (fun z => c (.inr z)) (n4 (b1 e c)))]
      exact ⟨fun q => absurd ⟨b1 e c, orderF_zero.mp q⟩ ne, fun q => absurd q.1 c⟩
  · have no : orderF (rankF t) (rankF t') ≠ 0 := fun z => e (orderF_zero.mp z)
    rw [if_pos no]
    exact ⟨fun q => absurd q no, fun q => absurd (b3 q.1 q.2.1) e⟩
local macro_rules | `(tactic| walk_at "spc") => `(tactic| with_reducible first | (refine' compare_shapes_fn (by assumption) ?_ ?_ ?_ ?_ ?_) | fail "spc")
theorem compare_tops_fn (G : Gr (KK w.params) B) (ht : t = 0 ∨ t = 2 ∨ t = 3 ∨ (t = 4 ∧ a = 0) ∨ t = 5) (ht' : t' = 0 ∨ t' = 2 ∨ t' = 3 ∨ (t' = 4 ∧ a' = 0) ∨ t' = 5) (ne : ¬ (t = t' ∧ a = a')) (ok : isC t → CompOk cs fs (t, a)) (ok' : isC t' → CompOk cs fs (t', a'))
    (ap : isC t → isC t' → Apart fs (headF cs (t, a)) (headF cs (t', a'))) : PFn prog w B 3 (stSyP x dx H sy ST TR mh hb bb false cs dsy T AN FU FN fs) 459 [.r x, .d (cd t a), .d (cd t' a')] (.d (.int (topsI cs fs (t, a) (t', a')))) := by
  refine' (PFn.of (n := [("right", .d (cd t' a')), ("left", .d (cd t a)), ("store", .r x)]) G is_459 (by rfl) (by rfl) fun C R hR hE => ?_)
  walk_at "nm"
  ((with_reducible refine' Wb.asg ?wcx60 ?wkx60 ?wlx60 ?wex60); (case wlx60 => rfl); (case wex60 => rfl); (case wcx60 => walk_at "ev"); (case' wkx60 => walk_at "nm"))
  ((with_reducible refine' Wb.asg ?wcx61 ?wkx61 ?wlx61 ?wex61); (case wlx61 => rfl); (case wex61 => rfl); (case wcx61 => walk_at "ev"); (case' wkx61 => walk_at "nm"))
  ((with_reducible refine' Wb.ite ?wcx62 ?wtx62 ?wfx62); (case wcx62 => walk_at "evp"); (case' wfx62 => intro hbZ; walk_at "nm"); (case' wtx62 => intro hbZ; walk_at "nm"))
  · rename orderF (rankF t) (rankF t') ≠ 0 => h
    ((with_reducible refine' Wb.ret (by assumption) ?wcx63 ?wxx63); (case wcx63 => walk_at "ev"))
    rw [topsI, if_pos h]
  · rename ¬ orderF (rankF t) (rankF t') ≠ 0 => h
    have e := orderF_zero.mp (Decidable.not_not.mp h)
    obtain ⟨b1, b2, _, b4, b5, b6⟩ := tag_tab t (tag_mem (P := a = 0) ht) t' (tag_mem (P := a' = 0) ht')
    have n4 := no_four ht ht' ne
    clear ht ht' ne
    ((with_reducible refine' Wb.ite ?wcx64 ?wtx64 ?wfx64); (case wcx64 => walk_at "evp"); (case' wfx64 => intro hbZ; walk_at "nm"); (case' wtx64 => intro hbZ; walk_at "nm"))
    · rename rankF t = 0 => h0
      obtain rfl := b1 e (b5 h0)
      ((with_reducible refine' Wb.ret (by assumption) ?wcx65 ?wxx65); (case wcx65 => walk_at "ev"))
      rw [topsI, if_neg h, if_pos (.inl h0)]
    · rename ¬ rankF t = 0 => h0
      ((with_reducible refine' Wb.ite ?wcx66 ?wtx66 ?wfx66); (case wcx66 => walk_at "evp"); (case' wfx66 => intro hbZ; walk_at "nm"); (case' wtx66 => intro hbZ; walk_at "nm"))
      · rename rankF t = 1 => h1
        ((with_reducible refine' Wb.ret (by assumption) ?wcx67 ?wxx67); (case wcx67 => walk_at "ev"))
        rw [topsI, if_neg h, if_pos (.inr h1)]
      · rename ¬ rankF t = 1 => h1
        have c : t = 2 ∨ t = 3 := Decidable.byContradiction fun c => (b4.mpr fun z => z.elim (fun z => c (.inl z)) fun z => z.elim (fun z => c (.inr z)) (n4 (b1 e c))).elim h0 h1
        have c' := b2 e c
        clear b1 b2 b4 b5
        ((with_reducible refine' Wb.ite ?wcx68 ?wtx68 ?wfx68); (case wcx68 => walk_at "evp"); (case' wfx68 => intro hbZ; walk_at "nm"); (case' wtx68 => intro hbZ; walk_at "nm"))
        · rename rankF t = 2 => h2
          exact absurd (b6 h2) (fun z => by rw [z] at c; exact absurd c (by decide))
        · have p := ap c c'
          have o := ok c
          have o' := ok' c'
          ((with_reducible refine' Wb.ret (by assumption) ?wcx69 ?wxx69); (case wcx69 => walk_at "ev"))
          rw [topsI, if_neg h, if_neg (fun q => q.elim h0 h1)]
end
end
section
mutual
inductive T where
  | v (n : Int)
  | k (t a : Int)
  | s (a f : Int) (args : Ts)
inductive Ts where
  | nil
  | cons (t : T) (r : Ts)
end
mutual
noncomputable def T.size : T → Nat
  | .v _ => 1
  | .k _ _ => 1
  | .s _ _ l => l.size + 1
noncomputable def Ts.size : Ts → Nat
  | .nil => 0
  | .cons t r => t.size + r.size
end
noncomputable def Ts.len : Ts → Nat
  | .nil => 0
  | .cons _ r => r.len + 1
theorem T.size_pos : ∀ t : T, 0 < t.size
  | .v _ => Nat.one_pos
  | .k _ _ => Nat.one_pos
  | .s _ _ l => Nat.succ_pos _
noncomputable def tagOf (f : Int) : Int := if f = 0 then 3 else 2
noncomputable def T.cell : T → Int × Int
  | .v a => (0, a)
  | .k t a => (t, a)
  | .s a f _ => (tagOf f, a)
mutual
noncomputable def T.eqv : T → T → Bool
  | .v a, .v b => a = b
  | .k t a, .k u b => t = u ∧ a = b
  | .s _ f l, .s _ g l' => decide (f = g) && l.eqv l'
  | .v _, .k _ _ => false
  | .v _, .s _ _ _ => false
  | .k _ _, .v _ => false
  | .k _ _, .s _ _ _ => false
  | .s _ _ _, .v _ => false
  | .s _ _ _, .k _ _ => false
noncomputable def Ts.eqv : Ts → Ts → Bool
  | .nil, .nil => true
  | .cons t r, .cons u r' => t.eqv u && r.eqv r'
  | .nil, .cons _ _ => false
  | .cons _ _, .nil => false
end
noncomputable def Form (f : Int) (n : Nat) : Prop := (f = 32 ∧ n = 1) ∨ (f = 0 ∧ n = 2) ∨ (f = 33 ∧ n = 3)
structure FsOk (fs : List (Int × Int)) : Prop where
  two : ∃ a, fs[0]? = some (a, 2)
  one : ∃ a, fs[32]? = some (a, 1)
  three : ∃ a, fs[33]? = some (a, 3)
theorem Form.get {fs : List (Int × Int)} {f : Int} {n : Nat} (x : Form f n) (y : FsOk fs) : 0 ≤ f ∧ f < 1000 ∧ ∃ p, fs[f.toNat]? = some p ∧ p.2 = n := by
  obtain ⟨⟨a, e⟩, ⟨b, e'⟩, ⟨c, e''⟩⟩ := y
  rcases x with ⟨rfl, rfl⟩ | ⟨rfl, rfl⟩ | ⟨rfl, rfl⟩
  · exact ⟨by decide, by decide, _, e', rfl⟩
  · exact ⟨by decide, by decide, _, e, rfl⟩
  · exact ⟨by decide, by decide, _, e'', rfl⟩
mutual
noncomputable def T.In (cs : List (Int × Int)) : T → Prop
  | .v a => 0 ≤ a ∧ cs[a.toNat]? = some ((0 : Int), a)
  | .k t a => (t = 4 ∧ a = 0) ∨ t = 5
  | .s a f l => (0 ≤ a ∧ a < cs.length) ∧ Form f l.len ∧ (f ≠ 0 → cs[a.toNat]? = some (6, f)) ∧ l.In cs (if f = 0 then a else a + 1)
noncomputable def Ts.In (cs : List (Int × Int)) : Ts → Int → Prop
  | .nil, _ => True
  | .cons t r, b => (∃ c, cs[b.toNat]? = some c ∧ CellOk cs c ∧ derefF cs c = t.cell) ∧ t.In cs ∧ r.In cs (b + 1)
end
mutual
noncomputable def T.addrs : T → List Int
  | .v _ => []
  | .k _ _ => []
  | .s a _ l => a :: l.addrs
noncomputable def Ts.addrs : Ts → List Int
  | .nil => []
  | .cons t r => t.addrs ++ r.addrs
end
mutual
noncomputable def T.vars : T → List Int
  | .v a => [a]
  | .k _ _ => []
  | .s _ _ l => l.vars
noncomputable def Ts.vars : Ts → List Int
  | .nil => []
  | .cons t r => t.vars ++ r.vars
end
noncomputable def formL : List (Int × Nat) := [(32, 1), (0, 2), (33, 3)]
theorem Form.mem {f : Int} {n : Nat} (x : Form f n) : (f, n) ∈ formL := by
  rcases x with ⟨rfl, rfl⟩ | ⟨rfl, rfl⟩ | ⟨rfl, rfl⟩ <;> decide
theorem form_tab : ∀ p ∈ formL, (0 < p.2 ∧ p.2 < 4) ∧ ∀ q ∈ formL, (p.1 = q.1 ↔ p.2 = q.2) := by decide
theorem Form.uniq {f g : Int} {n m : Nat} (x : Form f n) (y : Form g m) : f = g ↔ n = m := (form_tab _ x.mem).2 _ y.mem
theorem Form.pos {f : Int} {n : Nat} (x : Form f n) : 0 < n ∧ n < 4 := (form_tab _ x.mem).1
mutual
theorem T.det {cs : List (Int × Int)} : ∀ {t t' : T}, t.In cs → t'.In cs → t.cell = t'.cell → t = t'
  | .v a, .v b, _, _, e => by simp only [T.cell, Prod.mk.injEq] at e; rw [e.2]
  | .v a, .k t b, _, h, e => by simp only [T.cell, Prod.mk.injEq] at e; simp only [T.In] at h; walk_at "o"
  | .v a, .s b f l, _, h, e => by simp only [T.cell, Prod.mk.injEq, tagOf] at e; split at e <;> walk_at "o"
  | .k t b, .v a, h, _, e => by simp only [T.cell, Prod.mk.injEq] at e; simp only [T.In] at h; walk_at "o"
  | .k t b, .k u c, _, _, e => by simp only [T.cell, Prod.mk.injEq] at e; rw [e.1, e.2]
  | .k t b, .s a f l, h, _, e => by simp only [T.cell, Prod.mk.injEq, tagOf] at e; simp only [T.In] at h; split at e <;> walk_at "o"
  | .s b f l, .v a, _, h, e => by simp only [T.cell, Prod.mk.injEq, tagOf] at e; split at e <;> walk_at "o"
  | .s a f l, .k t b, _, h, e => by simp only [T.cell, Prod.mk.injEq, tagOf] at e; simp only [T.In] at h; split at e <;> walk_at "o"
  | .s a f l, .s b g l', h, h', e => by
    simp only [T.cell, Prod.mk.injEq] at e
    obtain ⟨e1, rfl⟩ := e
    simp only [T.In] at h h'
    obtain ⟨_, k1, k2, k3⟩ := h
    obtain ⟨_, j1, j2, j3⟩ := h'
    have fg : f = g := by
      unfold tagOf at e1
      by_cases z : f = 0
      · by_cases z' : g = 0
        · rw [z, z']
        · rw [if_pos z, if_neg z'] at e1; walk_at "o"
      · by_cases z' : g = 0
        · rw [if_neg z, if_pos z'] at e1; walk_at "o"
        · have q := k2 z; rw [j2 z'] at q; simp only [Option.some.injEq, Prod.mk.injEq] at q; exact q.2.symm
    subst fg
    rw [Ts.det k3 j3 ((k1.uniq j1).mp rfl)]
theorem Ts.det {cs : List (Int × Int)} : ∀ {l l' : Ts} {b : Int}, l.In cs b → l'.In cs b → l.len = l'.len → l = l'
  | .nil, .nil, _, _, _, _ => rfl
  | .nil, .cons _ _, _, _, _, e => by simp only [Ts.len] at e; walk_at "o"
  | .cons _ _, .nil, _, _, _, e => by simp only [Ts.len] at e; walk_at "o"
  | .cons t r, .cons t' r', b, h, h', e => by
    simp only [Ts.In] at h h'
    obtain ⟨⟨c, h1, _, h2⟩, h3, h4⟩ := h
    obtain ⟨⟨c', i1, _, i2⟩, i3, i4⟩ := h'
    rw [h1] at i1
    cases i1
    rw [T.det h3 i3 (h2.symm.trans i2), Ts.det h4 i4 (by simp only [Ts.len] at e; walk_at "o")]
end
mutual
theorem T.eqv_refl : ∀ t : T, t.eqv t = true
  | .v a => by simp [T.eqv]
  | .k t a => by simp [T.eqv]
  | .s a f l => by simp [T.eqv, Ts.eqv_refl l]
theorem Ts.eqv_refl : ∀ t : Ts, t.eqv t = true
  | .nil => rfl
  | .cons t r => by simp [Ts.eqv, T.eqv_refl t, Ts.eqv_refl r]
end
structure Here (cs : List (Int × Int)) (c : Int × Int) (t : T) : Prop where
  ok : CellOk cs c
  eq : derefF cs c = t.cell
  is : t.In cs
noncomputable abbrev at0 (cs : List (Int × Int)) (b : Int) : Int × Int := cs.getD b.toNat (0, 0)
noncomputable def Ts.kids (cs : List (Int × Int)) : Ts → Int → List ((Int × Int) × T)
  | .nil, _ => []
  | .cons t r, b => (at0 cs b, t) :: r.kids cs (b + 1)
theorem Ts.kids_here {cs : List (Int × Int)} : ∀ {l : Ts} {b : Int}, l.In cs b → ∀ p ∈ l.kids cs b, Here cs p.1 p.2
  | .nil, _, _, p, hp => nomatch hp
  | .cons t r, b, h, p, hp => by
    simp only [Ts.In] at h
    obtain ⟨⟨c, h1, h2, h3⟩, h4, h5⟩ := h
    have e : at0 cs b = c := by rw [at0, List.getD_eq_getElem?_getD, h1]; rfl
    simp only [Ts.kids] at hp
    rcases List.mem_cons.mp hp with rfl | hp
    · exact ⟨by rw [e]; exact h2, by rw [e]; exact h3, h4⟩
    · exact Ts.kids_here h5 p hp
theorem Ts.in_len {cs : List (Int × Int)} : ∀ {l : Ts} {b : Int}, 0 ≤ b → l.In cs b → l.len = 0 ∨ b + l.len ≤ cs.length
  | .nil, _, _, _ => .inl rfl
  | .cons t r, b, h0, h => by
    simp only [Ts.In] at h
    obtain ⟨⟨c, h1, _⟩, _, h5⟩ := h
    have := (List.getElem?_eq_some_iff.mp h1).1
    right
    simp only [Ts.len]
    rcases Ts.in_len (by walk_at "o") h5 with q | q <;> walk_at "o"
noncomputable def Seg (cs : List (Int × Int)) (b : Int) (n : Nat) : Prop := 0 ≤ b ∧ b + n ≤ cs.length
section
variable {cs fs : List (Int × Int)} {t : T} {x y : Int}
theorem T.tags (h : t.In cs) (e : t.cell = (x, y)) : x = 0 ∨ x = 2 ∨ x = 3 ∨ (x = 4 ∧ y = 0) ∨ x = 5 := by
  cases t with
  | v a => cases e; exact .inl rfl
  | k u a =>
    cases e
    simp only [T.In] at h
    exact h.elim (fun h => .inr (.inr (.inr (.inl h)))) fun h => .inr (.inr (.inr (.inr h)))
  | s a f l =>
    cases e
    unfold tagOf
    split
    · exact .inr (.inr (.inl rfl))
    · exact .inr (.inl rfl)
theorem T.comp (h : t.In cs) (e : t.cell = (x, y)) (c : isC x) : ∃ f l, t = .s y f l ∧ x = tagOf f := by
  unfold isC at c
  cases t with
  | v a => simp only [T.cell, Prod.mk.injEq] at e; walk_at "o"
  | k u a => simp only [T.cell, Prod.mk.injEq] at e; simp only [T.In] at h; walk_at "o"
  | s a f l => simp only [T.cell, Prod.mk.injEq] at e; exact ⟨f, l, by rw [e.2], e.1.symm⟩
theorem tag_c (f : Int) : isC (tagOf f) := by
  unfold isC tagOf
  split
  · exact .inr rfl
  · exact .inl rfl
end
section
variable {cs fs : List (Int × Int)} {a f : Int} {l : Ts} (h : (T.s a f l).In cs)
include h
theorem s_lt : 0 ≤ a ∧ a < cs.length := by simp only [T.In] at h; exact h.1
theorem s_form : Form f l.len := by simp only [T.In] at h; exact h.2.1
theorem s_head : headF cs (tagOf f, a) = f := by
  simp only [T.In] at h
  unfold headF tagOf
  by_cases z : f = 0
  · simp [z]
  · simp [z, List.getD_eq_getElem?_getD, h.2.2.1 z]
theorem s_base : baseF (tagOf f, a) = if f = 0 then a else a + 1 := by
  unfold baseF tagOf
  by_cases z : f = 0 <;> simp [z]
theorem s_in : l.In cs (baseF (tagOf f, a)) := by rw [s_base h]; simp only [T.In] at h; exact h.2.2.2
theorem s_seg : Seg cs (baseF (tagOf f, a)) l.len := by
  have b0 : 0 ≤ baseF (tagOf f, a) := by rw [s_base h]; have := s_lt h; split <;> walk_at "o"
  refine ⟨b0, ?_⟩
  rcases Ts.in_len b0 (s_in h) with q | q
  · have := (s_form h).pos; walk_at "o"
  · exact q
variable (y : FsOk fs) (hz : cs.length < 2 ^ 20)
include y hz
theorem s_ok : CompOk cs fs (tagOf f, a) := by
  have h1 := s_lt h
  obtain ⟨k1, k2, p, k3, k4⟩ := (s_form h).get y
  simp only [T.In] at h
  refine ⟨h1.1, by simp only; walk_at "o", fun e => ⟨f, p, h.2.2.1 ?_, k1, k2, k3⟩, fun _ => ?_⟩
  · intro z
    rw [z] at e
    simp [tagOf] at e
  · obtain ⟨a, e⟩ := y.two; exact ⟨_, e⟩
theorem s_hok : HeadOk cs fs (tagOf f, a) := fun e => by
  obtain ⟨h0, h1, h2, _⟩ := s_ok h y hz
  obtain ⟨f, p, e1, e2, e3, e4⟩ := h2 e
  exact ⟨h0, h1, 6, f, p, e1, e2, e3, e4⟩
theorem s_width : widthF cs fs (tagOf f, a) = l.len := by
  obtain ⟨k1, k2, p, k3, k4⟩ := (s_form h).get y
  have fm := s_form h
  simp only [T.In] at h
  unfold widthF
  by_cases z : f = 0
  · have : l.len = 2 := by unfold Form at fm; walk_at "o"
    simp [tagOf, z, this]
  · have e := h.2.2.1 z
    simp [tagOf, z, List.getD_eq_getElem?_getD, e, k3, k4]
theorem s_apart {g b : Int} {l' : Ts} (h' : (T.s b g l').In cs) : Apart fs (headF cs (tagOf f, a)) (headF cs (tagOf g, b)) := by
  rw [s_head h, s_head h']
  obtain ⟨k1, k2, p, k3, k4⟩ := (s_form h).get y
  obtain ⟨j1, j2, q, j3, j4⟩ := (s_form h').get y
  by_cases z : f = g
  · exact .inl z
  · have : ¬ l.len = l'.len := fun e => z (((s_form h).uniq (s_form h')).mpr e)
    exact .inr ⟨p, q, k3, j3, by walk_at "o", ⟨k1, k2⟩, j1, j2⟩
end
end
section
section
variable {prog : Program} {w : World} {B : Heap}
variable {x dx H sy dsy ST TR TX AN FU FN wk : Addr} {mh hb bb : Tok} {cs fs : List (Int × Int)} {t a t' a' : Int}
noncomputable abbrev prd (c d : Int × Int) : PyData := .tuple [cdp c, cdp d]
theorem Seg.get {cs : List (Int × Int)} {b : Int} {n : Nat} (h : Seg cs b n) {k : Int} (h0 : 0 ≤ k) (h1 : k < n) : cs[(b + k).toNat]? = some (at0 cs (b + k)) := by
  obtain ⟨h2, h3⟩ := h
  have : (b + k).toNat < cs.length := by walk_at "o"
  rw [at0, List.getD_eq_getElem?_getD, List.getElem?_eq_getElem this]; rfl
noncomputable abbrev rev0 (cs : List (Int × Int)) (b : Int) (n : Nat) (j : Nat) : Int × Int := at0 cs (b + ((n : Int) - 1 - (j : Int)))
theorem Seg.rev {cs : List (Int × Int)} {b v : Int} {n i : Nat} (h : Seg cs b n) (hv : v = n) (hi : i < n) (hc : cs.length < 2 ^ 20) :
    (cs.map cdp)[(b + (v - 1 + (i : Int) * -1)).toNat]? = some (cdp (rev0 cs b n i)) ∧ 0 ≤ b + (v - 1 + (i : Int) * -1) ∧ b + (v - 1 + (i : Int) * -1) < 2 ^ 63 := by
  have e : b + (v - 1 + (i : Int) * -1) = b + ((n : Int) - 1 - (i : Int)) := by walk_at "o"
  have h1 := h.1
  have h2 := h.2
  rw [e]
  exact ⟨map_get (h.get (by walk_at "o") (by walk_at "o")), by walk_at "o", by walk_at "o"⟩
local macro_rules | `(tactic| walk_at "spc") => `(tactic| with_reducible first | (exact base_fn (by assumption)) | (refine' width_fn (by assumption) ?_) | fail "spc")
theorem push_pairs_fn {n : Nat} {ds : List PyData} (G : Gr (KK w.params) B) (ok : HeadOk cs fs (t, a)) (hw : widthF cs fs (t, a) = n) (sg : Seg cs (baseF (t, a)) n) (sg' : Seg cs (baseF (t', a')) n) (hz : ds.length + n < 2 ^ 20) (hc : cs.length < 2 ^ 20) :
    EFn prog w B 3 [wk] ((wk, true, .ldat ds) :: stSyP x dx H sy ST TR mh hb bb false cs dsy TX AN FU FN fs) 417 [.r x, .d (cd t a), .d (cd t' a'), .r wk] (ι := Unit) (fun _ => True) (fun _ => .d .none)
      (fun _ => [(wk, .ldat (ds ++ (List.range n).map fun (j : Nat) => prd (rev0 cs (baseF (t, a)) n j) (rev0 cs (baseF (t', a')) n j)))]) (fun _ => []) := by
  refine' (EFn.of (n := [("work", .r wk), ("right", .d (cd t' a')), ("left", .d (cd t a)), ("store", .r x)]) G is_417 (by rfl) (by rfl) fun C R X hX hR hE => ?_)
  walk_at "nm"
  ((with_reducible refine' Wb.asg ?wcx70 ?wkx70 ?wlx70 ?wex70); (case wlx70 => rfl); (case wex70 => rfl); (case wcx70 => walk_at "ev"); (case' wkx70 => walk_at "nm"))
  ((with_reducible refine' Wb.asg ?wcx71 ?wkx71 ?wlx71 ?wex71); (case wlx71 => rfl); (case wex71 => rfl); (case wcx71 => walk_at "ev"); (case' wkx71 => walk_at "nm"))
  have rg := rg_down n (by walk_at "o")
  refine' Wb.forR (ι := Unit) (N := fun _ _ => [("right_place", .d (.int (baseF (t', a')))), ("left_place", .d (.int (baseF (t, a)))), ("work", .r wk), ("store", .r x)])
    (PP := fun i _ => (wk, true, .ldat (ds ++ (List.range i).map fun (j : Nat) => prd (rev0 cs (baseF (t, a)) n j) (rev0 cs (baseF (t', a')) n j))) :: stSyP x dx H sy ST TR mh hb bb false cs dsy TX AN FU FN fs)
    (H := fun _ _ => True) (p0 := widthF cs fs (t, a) - 1) (q0 := -1) (c0 := -1) (nn := n) hR () trivial ?qe (by rw [hw]; exact rg.1) (by rw [hw]; exact rg.2) ⟨rfl, rfl, rfl, rfl, trivial⟩ ?qp (fun R' I i j T hR' hT hi _ => ?qb) (fun j _ => ?qd) rfl (fun _ => rfl)
  case qe => walk_at "ef"
  case qp => simp
  case qb =>
    walk_at "nm"
    obtain ⟨g1, g2, g3⟩ := sg.rev hw hi hc
    obtain ⟨k1, k2, k3⟩ := sg'.rev hw hi hc
    ((with_reducible refine' Wb.expr ?wex72 ?wnx72 ?wkx72 ?w1x72); (case w1x72 => k_dflt rfl); (case wex72 => walk_at "ef"); (case wnx72 => intro _; k_dflt rfl); (case' wkx72 => intro _ _; walk_at "nm"))
    refine Wb.turn hT () trivial ⟨rfl, rfl, rfl, rfl, trivial⟩ ?_
    rw [List.range_succ, List.map_append, ← List.append_assoc]
    exact List.Sublist.refl _
  case qd =>
    exact Wb.end hE (hX () _ _ trivial rfl (fun q hq => ⟨true, by rw [List.mem_singleton.mp hq]; exact .head _⟩) (List.nil_sublist _) (fun q hq => nomatch hq))
theorem push_arguments_fn {n : Nat} {ds : List PyData} (G : Gr (KK w.params) B) (ok : HeadOk cs fs (t, a)) (hw : widthF cs fs (t, a) = n) (sg : Seg cs (baseF (t, a)) n) (hz : ds.length + n < 2 ^ 20) (hc : cs.length < 2 ^ 20) :
    EFn prog w B 3 [wk] ((wk, true, .ldat ds) :: stSyP x dx H sy ST TR mh hb bb false cs dsy TX AN FU FN fs) 410 [.r x, .d (cd t a), .r wk] (ι := Unit) (fun _ => True) (fun _ => .d .none)
      (fun _ => [(wk, .ldat (ds ++ (List.range n).map fun (j : Nat) => cdp (rev0 cs (baseF (t, a)) n j)))]) (fun _ => []) := by
  refine' (EFn.of (n := [("work", .r wk), ("cell", .d (cd t a)), ("store", .r x)]) G is_410 (by rfl) (by rfl) fun C R X hX hR hE => ?_)
  walk_at "nm"
  ((with_reducible refine' Wb.asg ?wcx73 ?wkx73 ?wlx73 ?wex73); (case wlx73 => rfl); (case wex73 => rfl); (case wcx73 => walk_at "ev"); (case' wkx73 => walk_at "nm"))
  have rg := rg_down n (by walk_at "o")
  refine' Wb.forR (ι := Unit) (N := fun _ _ => [("place", .d (.int (baseF (t, a)))), ("work", .r wk), ("store", .r x)])
    (PP := fun i _ => (wk, true, .ldat (ds ++ (List.range i).map fun (j : Nat) => cdp (rev0 cs (baseF (t, a)) n j))) :: stSyP x dx H sy ST TR mh hb bb false cs dsy TX AN FU FN fs)
    (H := fun _ _ => True) (p0 := widthF cs fs (t, a) - 1) (q0 := -1) (c0 := -1) (nn := n) hR () trivial ?qe (by rw [hw]; exact rg.1) (by rw [hw]; exact rg.2) ⟨rfl, rfl, rfl, trivial⟩ ?qp (fun R' I i j T hR' hT hi _ => ?qb) (fun j _ => ?qd) rfl (fun _ => rfl)
  case qe => walk_at "ef"
  case qp => simp
  case qb =>
    walk_at "nm"
    obtain ⟨g1, g2, g3⟩ := sg.rev hw hi hc
    ((with_reducible refine' Wb.expr ?wex74 ?wnx74 ?wkx74 ?w1x74); (case w1x74 => k_dflt rfl); (case wex74 => walk_at "ef"); (case wnx74 => intro _; k_dflt rfl); (case' wkx74 => intro _ _; walk_at "nm"))
    refine Wb.turn hT () trivial ⟨rfl, rfl, rfl, trivial⟩ ?_
    rw [List.range_succ, List.map_append, ← List.append_assoc]
    exact List.Sublist.refl _
  case qd =>
    exact Wb.end hE (hX () _ _ trivial rfl (fun q hq => ⟨true, by rw [List.mem_singleton.mp hq]; exact .head _⟩) (List.nil_sublist _) (fun q hq => nomatch hq))
end
end
section
noncomputable abbrev PW := List (((Int × Int) × T) × ((Int × Int) × T))
noncomputable def encP : PW → List PyData
  | [] => []
  | e :: r => encP r ++ [prd e.1.1 e.2.1]
noncomputable def pairsOf (cs : List (Int × Int)) (l l' : Ts) (b b' : Int) : PW := (l.kids cs b).zip (l'.kids cs b')
theorem encP_push (cs : List (Int × Int)) : ∀ (l l' : Ts) (b b' : Int) (W : PW), l.len = l'.len →
    encP (pairsOf cs l l' b b' ++ W) = encP W ++ (List.range l.len).map fun (j : Nat) => prd (at0 cs (b + ((l.len : Int) - 1 - (j : Int)))) (at0 cs (b' + ((l.len : Int) - 1 - (j : Int))))
  | .nil, .nil, _, _, W, _ => by simp [pairsOf, Ts.kids, Ts.len]
  | .nil, .cons _ _, _, _, _, e => by simp only [Ts.len] at e; walk_at "o"
  | .cons _ _, .nil, _, _, _, e => by simp only [Ts.len] at e; walk_at "o"
  | .cons t r, .cons t' r', b, b', W, e => by
    have ih := encP_push cs r r' (b + 1) (b' + 1) W (by simp only [Ts.len] at e; walk_at "o")
    unfold pairsOf at ih ⊢
    simp only [Ts.kids, List.zip_cons_cons, List.cons_append, encP, Ts.len]
    rw [ih, List.range_succ, List.map_append, List.append_assoc]
    congr 1
    congr 1
    · apply List.map_congr_left
      intro j hj
      have e1 : b + 1 + ((r.len : Int) - 1 - (j : Int)) = b + (((r.len + 1 : Nat) : Int) - 1 - (j : Int)) := by walk_at "o"
      have e2 : b' + 1 + ((r.len : Int) - 1 - (j : Int)) = b' + (((r.len + 1 : Nat) : Int) - 1 - (j : Int)) := by walk_at "o"
      rw [e1, e2]
    · have e1 : b + (((r.len + 1 : Nat) : Int) - 1 - (r.len : Int)) = b := by walk_at "o"
      have e2 : b' + (((r.len + 1 : Nat) : Int) - 1 - (r.len : Int)) = b' := by walk_at "o"
      simp only [List.map_cons, List.map_nil, e1, e2]
theorem encP_length : ∀ W : PW, (encP W).length = W.length
  | [] => rfl
  | e :: r => by simp [encP, encP_length r]
noncomputable def sizeP : PW → Nat
  | [] => 0
  | e :: r => e.1.2.size + sizeP r
noncomputable def addrsP : PW → List Int
  | [] => []
  | e :: r => e.1.2.addrs ++ addrsP r
noncomputable def allP (f : T → T → Bool) : PW → Bool
  | [] => true
  | e :: r => f e.1.2 e.2.2 && allP f r
theorem len_sizeP : ∀ W : PW, W.length ≤ sizeP W
  | [] => Nat.le_refl _
  | e :: r => by have := len_sizeP r; have := e.1.2.size_pos; simp only [List.length_cons, sizeP]; walk_at "o"
section
variable (cs : List (Int × Int))
theorem sizeP_push : ∀ (l l' : Ts) (b b' : Int) (W : PW), l.len = l'.len → sizeP (pairsOf cs l l' b b' ++ W) = l.size + sizeP W
  | .nil, .nil, _, _, W, _ => by simp [pairsOf, Ts.kids, Ts.size]
  | .nil, .cons _ _, _, _, _, e => by simp only [Ts.len] at e; walk_at "o"
  | .cons _ _, .nil, _, _, _, e => by simp only [Ts.len] at e; walk_at "o"
  | .cons t r, .cons t' r', b, b', W, e => by
    have ih := sizeP_push r r' (b + 1) (b' + 1) W (by simp only [Ts.len] at e; walk_at "o")
    unfold pairsOf at ih ⊢
    simp only [Ts.kids, List.zip_cons_cons, List.cons_append, sizeP, Ts.size]
    walk_at "o"
theorem addrsP_push : ∀ (l l' : Ts) (b b' : Int) (W : PW), l.len = l'.len → addrsP (pairsOf cs l l' b b' ++ W) = l.addrs ++ addrsP W
  | .nil, .nil, _, _, W, _ => by simp [pairsOf, Ts.kids, Ts.addrs]
  | .nil, .cons _ _, _, _, _, e => by simp only [Ts.len] at e; walk_at "o"
  | .cons _ _, .nil, _, _, _, e => by simp only [Ts.len] at e; walk_at "o"
  | .cons t r, .cons t' r', b, b', W, e => by
    have ih := addrsP_push r r' (b + 1) (b' + 1) W (by simp only [Ts.len] at e; walk_at "o")
    unfold pairsOf at ih ⊢
    simp only [Ts.kids, List.zip_cons_cons, List.cons_append, addrsP, Ts.addrs, ih, List.append_assoc]
theorem allP_push : ∀ (l l' : Ts) (b b' : Int) (W : PW), l.len = l'.len → allP T.eqv (pairsOf cs l l' b b' ++ W) = (l.eqv l' && allP T.eqv W)
  | .nil, .nil, _, _, W, _ => by simp [pairsOf, Ts.kids, Ts.eqv]
  | .nil, .cons _ _, _, _, _, e => by simp only [Ts.len] at e; walk_at "o"
  | .cons _ _, .nil, _, _, _, e => by simp only [Ts.len] at e; walk_at "o"
  | .cons t r, .cons t' r', b, b', W, e => by
    have ih := allP_push r r' (b + 1) (b' + 1) W (by simp only [Ts.len] at e; walk_at "o")
    unfold pairsOf at ih ⊢
    simp only [Ts.kids, List.zip_cons_cons, List.cons_append, allP, Ts.eqv, ih, Bool.and_assoc]
theorem here_push {l l' : Ts} {b b' : Int} {W : PW} (h : l.In cs b) (h' : l'.In cs b') (hW : ∀ e ∈ W, Here cs e.1.1 e.1.2 ∧ Here cs e.2.1 e.2.2) :
    ∀ e ∈ pairsOf cs l l' b b' ++ W, Here cs e.1.1 e.1.2 ∧ Here cs e.2.1 e.2.2 := by
  intro e he
  rcases List.mem_append.mp he with he | he
  · have q := List.of_mem_zip (a := e.1) (b := e.2) he
    exact ⟨Ts.kids_here h _ q.1, Ts.kids_here h' _ q.2⟩
  · exact hW e he
end
theorem key_inj {a a' b b' n : Int} (h : a * n + b = a' * n + b') (h0 : 0 ≤ b) (h1 : b < n) (h2 : 0 ≤ b') (h3 : b' < n) : a = a' := by
  have hn : 0 < n := by walk_at "o"
  have e1 : (a * n + b) / n = a := by
    rw [Int.add_comm, Int.add_mul_ediv_right _ _ (by walk_at "o"), Int.ediv_eq_zero_of_lt h0 h1, Int.zero_add]
  have e2 : (a' * n + b') / n = a' := by
    rw [Int.add_comm, Int.add_mul_ediv_right _ _ (by walk_at "o"), Int.ediv_eq_zero_of_lt h2 h3, Int.zero_add]
  rw [← e1, ← e2, h]
structure Fresh (F : Int → Bool) (span : Int) (l : List Int) : Prop where
  nd : l.Nodup
  no : ∀ a ∈ l, ∀ b, 0 ≤ b → b < span → F (a * span + b) = false
theorem Fresh.start {span : Int} {l : List Int} (nd : l.Nodup) : Fresh (fun _ => false) span l := ⟨nd, fun _ _ _ _ _ => rfl⟩
theorem Fresh.drop {F : Int → Bool} {span : Int} {l l' : List Int} (x : Fresh F span (l ++ l')) : Fresh F span l' := ⟨(List.nodup_append.mp x.nd).2.1, fun a ha => x.no a (List.mem_append.mpr (.inr ha))⟩
theorem Fresh.add {F : Int → Bool} {span a b : Int} {l : List Int} (x : Fresh F span (a :: l)) (h0 : 0 ≤ b) (h1 : b < span) : Fresh (fun k => F k || decide (k = a * span + b)) span l := by
  have nd := List.nodup_cons.mp x.nd
  refine ⟨nd.2, fun a' ha b' h2 h3 => ?_⟩
  rw [x.no a' (.tail _ ha) b' h2 h3, Bool.false_or, decide_eq_false_iff_not]
  intro e
  exact nd.1 (key_inj e h2 h3 h0 h1 ▸ ha)
end
section
section
variable {prog : Program} {w : World} {B : Heap}
variable {x dx H sy dsy ST TR TX AN FU FN wk : Addr} {mh hb bb : Tok} {cs fs : List (Int × Int)} {t a t' a' : Int}
noncomputable def pairG (span : Int) (ts : Tok) (mt : Addr) : Str → Option Value := fun y => if y = Str.ofString "met" then some (.ref mt) else if y = Str.ofString "span" then some (.int span ts) else none
noncomputable abbrev pairP (p dp mt : Addr) (f : Bool) (span : Int) (ts : Tok) (F : Int → Bool) (n : Nat) : List (Addr × Bool × Tr) := [(mt, f, .set F n), (p, f, .is (IsInst 399 dp)), (dp, f, .att (pairG span ts mt) 2)]
theorem pairset_fn (G : Gr (KK w.params) B) (hz : cs.length < 2 ^ 20) : EFn prog w B 2 [] (stP x dx H sy ST TR mh hb bb false cs) 399 [.r x] (ι := (Tok × Addr) × Addr × Addr) (fun _ => True) (fun i => .r i.2.1) (fun _ => [])
    (fun i => pairP i.2.1 i.2.2 i.1.2 true (((cs.map cdp).length : Int) + 1) i.1.1 (fun _ => false) 0) := by
  refine' (EFn.new (ι := Tok × Addr) (H := fun _ => True) (N := fun i y dy => pairP y dy i.2 true (((cs.map cdp).length : Int) + 1) i.1 (fun _ => false) 0) (n := fun y => [("store", .r x), ("self", .r y)]) G is_389 (by k_is) (by k_is) (by k_is) (by rfl) (fun _ => rfl) fun y dy C R X hX hR hE => ?_)
  walk_at "nm"
  ((with_reducible refine' Wb.setAi ?s1x75 ?s2x75 ?s3x75 ?s4x75 ?s5x75 ?s6x75 ?wkx75 ?s8x75); (case s8x75 => k_dflt rfl); (case s1x75 => walk_at "ev"); (case s2x75 => walk_at "ev"); (case s4x75 => k_dflt (walk_at "mem")); (case s3x75 => k_dflt (((constructor <;> k_is)))); (case s5x75 => intro _; k_dflt (walk_at "put")); (case s6x75 => k_dflt rfl); (case' wkx75 => intro tZ; walk_at "nm"))
  ((with_reducible refine' Wb.setAf ?s1x77 ?s2x77 ?s3x77 ?s4x77 ?s5x77 ?s6x77 ?wkx77 ?s8x77); (case s8x77 => k_dflt rfl); (case s1x77 => walk_at "ef"); (case s2x77 => intro _; walk_at "ev"); (case s4x77 => intro _; k_dflt (walk_at "mem")); (case s3x77 => k_dflt (((constructor <;> k_is)))); (case s5x77 => intro _; k_dflt (walk_at "put")); (case s6x77 => k_dflt rfl); (case' wkx77 => intro aZ _; walk_at "nm"))
  rename Tok => ts
  rename Addr => mt
  exact Wb.end hE (hX (_, _) _ _ trivial rfl (.cons_cons _ (.cons_cons _ (.cons_cons _ (List.nil_sublist _)))) (fun p hp => by
    rcases List.mem_cons.mp hp with rfl | hp
    · rfl
    rcases List.mem_cons.mp hp with rfl | hp
    · rfl
    rw [List.mem_singleton.mp hp]))
theorem set_same {F : Int → Bool} {j : Int} (h : F j = true) : (fun k => F k || decide (k = j)) = F := funext fun k => by
  by_cases q : k = j
  · rw [q, h]; rfl
  · simp [q]
theorem pair_add_fn {p dp mt : Addr} {span : Int} {ts : Tok} {F : Int → Bool} {n : Nat} (G : Gr (KK w.params) B) (hm : IntMulOk a span) (hn : n < 4000) :
    EFn prog w B 1 [mt] [(mt, true, .set F n), (p, false, .is (IsInst 399 dp)), (dp, false, .att (pairG span ts mt) 2)] 396 [.r p, .d (cd t a), .d (cd t' a')] (ι := Nat) (fun n' => n' ≤ n + 1) (fun _ => .d (.bool (!F (a * span + a'))))
      (fun n' => [(mt, .set (fun k => F k || decide (k = a * span + a')) n')]) (fun _ => []) := by
  refine' (EFn.of (n := [("right", .d (cd t' a')), ("left", .d (cd t a)), ("self", .r p)]) G is_396 (by rfl) (by rfl) fun C R X hX hR hE => ?_)
  walk_at "nm"
  ((with_reducible refine' Wb.asg ?wcx79 ?wkx79 ?wlx79 ?wex79); (case wlx79 => rfl); (case wex79 => rfl); (case wcx79 => walk_at "ev"); (case' wkx79 => walk_at "nm"))
  ((with_reducible refine' Wb.ite ?wcx80 ?wtx80 ?wfx80); (case wcx80 => walk_at "evp"); (case' wfx80 => intro hbZ; walk_at "nm"); (case' wtx80 => intro hbZ; walk_at "nm"))
  · rename F _ = true => h
    ((with_reducible refine' Wb.ret (by assumption) ?wcx81 ?wxx81); (case wcx81 => walk_at "ev"))
    refine hX n _ _ (by walk_at "o") (by rw [h]; rfl) (fun q hq => ⟨true, ?_⟩) (List.nil_sublist _) (fun q hq => nomatch hq)
    rw [List.mem_singleton.mp hq, set_same h]; exact .head _
  · rename ¬ F _ = true => h
    have h := Bool.eq_false_iff.mpr h
    ((with_reducible refine' Wb.expr ?wex82 ?wnx82 ?wkx82 ?w1x82); (case w1x82 => k_dflt rfl); (case wex82 => walk_at "ef"); (case wnx82 => intro _; k_dflt rfl); (case' wkx82 => intro _ _; walk_at "nm"))
    ((with_reducible refine' Wb.ret (by assumption) ?wcx83 ?wxx83); (case wcx83 => walk_at "ev"))
    refine hX (if F (a * span + a') = true then n else n + 1) _ _ (by rw [h]; exact Nat.le_refl _) (by rw [h]; rfl) (fun q hq => ⟨true, ?_⟩) (List.nil_sublist _) (fun q hq => nomatch hq)
    rw [List.mem_singleton.mp hq]; exact .head _
theorem eqv_no {t t' : T} {lt la rt ra : Int} (h : t.In cs) (h' : t'.In cs) (e : t.cell = (lt, la)) (e' : t'.cell = (rt, ra)) (ne : ¬ (lt = rt ∧ la = ra)) (nc : ¬ (isC lt ∧ isC rt ∧ headF cs (lt, la) = headF cs (rt, ra))) : t.eqv t' = false := by
  cases t with
  | v a =>
    cases t' with
    | v b => simp only [T.cell, Prod.mk.injEq] at e e'; simp only [T.eqv, decide_eq_false_iff_not]; walk_at "o"
    | k u b => rfl
    | s b g l => rfl
  | k u a =>
    cases t' with
    | v b => rfl
    | k u b => simp only [T.cell, Prod.mk.injEq] at e e'; simp only [T.eqv, decide_eq_false_iff_not]; walk_at "o"
    | s b g l => rfl
  | s a f l =>
    cases t' with
    | v b => rfl
    | k u b => rfl
    | s b g l' =>
      simp only [T.cell, Prod.mk.injEq] at e e'
      obtain ⟨rfl, rfl⟩ := e
      obtain ⟨rfl, rfl⟩ := e'
      rw [s_head h, s_head h'] at nc
      have : f ≠ g := fun q => nc ⟨tag_c _, tag_c _, q⟩
      simp [T.eqv, this]
theorem deref_to (G : Gr (KK w.params) B) {lt la : Int} (wf : WF cs) (ok : CellOk cs (t, a)) (hz : cs.length < 2 ^ 20) (hd : derefF cs (t, a) = (lt, la)) : PFn prog w B 1 (stP x dx H sy ST TR mh hb bb false cs) 229 [.r x, .d (cd t a)] (.d (cd lt la)) := by
  have := deref_fn (prog := prog) (x := x) (dx := dx) (H := H) (sy := sy) (K := ST) (T := TR) (mh := mh) (hb := hb) (bb := bb) G wf ok hz
  rw [hd] at this; exact this
end
end
section
section
variable {prog : Program} {w : World} {B : Heap} {mu : List Addr} {sc : Scope} {k : Nat} {C : Cx prog w B mu sc k} {n N : NL} {P : PL} {ss tail : List Stmt} {R R' : Flow → Shared → Prop} {p : Pos}
variable {σ : Type} {Q : σ → PL} {HH : PW → σ → Prop} {wk : Addr} {m : Nat} {W : PW} {st : σ}
noncomputable def PEnds (C : Cx prog w B mu sc k) (N : NL) (wk : Addr) (Q : σ → PL) (HH : PW → σ → Prop) (m : Nat) (R : Flow → Shared → Prop) : Prop := ∀ W st {D s}, HH W st → sizeP W < m → C.S N ((wk, true, .ldat (encP W)) :: Q st) D s → R .next s ∧ R .cont s
theorem PEnds.turn (hT : PEnds C N wk Q HH m R) (h : HH W st) (hm : sizeP W < m) (hn : NSub N n) (hP : ((wk, true, Tr.ldat (encP W)) :: Q st).Sublist P) : Wb C n P [] R := fun _ _ S => wpAny_execs_nil (hT W st h hm (S.sub hn hP)).1
theorem PEnds.cont (hT : PEnds C N wk Q HH m R) (h : HH W st) (hm : sizeP W < m) (hn : NSub N n) (hP : ((wk, true, Tr.ldat (encP W)) :: Q st).Sublist P) : Wb C n P (.Continue p :: ss) R := fun _ _ S => wpAny_execs_cons (wpAny_Continue (hT W st h hm (S.sub hn hP)).2)
structure PNames (w : World) (sc : Scope) (N : NL) (wk x : Addr) : Prop where
  w1 : N.lookup ("work" : Str) = some (.r wk)
  w2 : sc.names.lookup ("work" : Str) = some .local
  s1 : N.lookup ("store" : Str) = some (.r x)
  s2 : sc.names.lookup ("store" : Str) = some .local
  l : sc.names.lookup ("left" : Str) = some .local
  r : sc.names.lookup ("right" : Str) = some .local
  b : Blt w sc "len" (.builtin "len")
variable {x dx H sy ST TR : Addr} {mh hb bb : Tok} {cs : List (Int × Int)} {X : AV → PL → Prop} {p1 p2 p3 p4 p5 p6 p7 p8 p9 p10 p11 p12 p13 p14 p15 p16 p17 p18 p19 p20 p21 p22 p23 p24 p25 : Pos} {k1 k2 : Nat} {bo bo' : Bool}
theorem deref_ev {y : Str} {c : Int × Int} {t : T} {lt la : Int} (G : Gr (KK w.params) B) (wf : WF cs) (hz : cs.length < 2 ^ 20) (h : Here cs c t) (e : t.cell = (lt, la)) (hk : 1 ≤ k)
    (hs : n.lookup ("store" : Str) = some (.r x)) (hs2 : sc.names.lookup ("store" : Str) = some .local) (hy : n.lookup y = some (.d (cdp c))) (hy2 : sc.names.lookup y = some .local) (hd : (y == ("__debug__" : Str)) = false)
    (hx : (x, bo, .is (IsInst 373 dx)) ∈ P) (hdx : (dx, bo', .att (storeG sy H ST TR mh hb bb) 7) ∈ P) (sel : Sel [] (stP x dx H sy ST TR mh hb bb false cs) P)
    (hm : methE (.Name "store" p14) p15 [.Name y p16] p17 = true) : Ev C n P (.Call (.Attribute (.Name "store" p14) "deref" p15) [.Name y p16] [] p17) (.d (cd lt la)) := by
  refine' Ev.meth (Ev.name hs hs2 rfl) (.cons (Ev.name hy hy2 hd) .nil rfl) (deref_to G wf h.ok hz (h.eq.trans e)) sel hk hx hdx rfl ?g ?f ?t ?k hm
  case g => k_is
  case f => k_is
  case t => k_is
  case k => k_is
theorem pairs_loop {W0 : PW} {st0 : σ} (G : Gr (KK w.params) B) (wf : WF cs) (hz : cs.length < 2 ^ 20) (hk : 1 ≤ k) (hR : Rets C X R) (h0 : HH W0 st0) (pn : PNames w sc N wk x)
    (hx : ∀ st, (x, bo, .is (IsInst 373 dx)) ∈ Q st) (hdx : ∀ st, (dx, bo', .att (storeG sy H ST TR mh hb bb) 7) ∈ Q st) (sel : ∀ st, Sel [] (stP x dx H sy ST TR mh hb bb false cs) (Q st))
    (hsm : ∀ W st, HH W st → sizeP W < 4000 ∧ ∀ e ∈ W, Here cs e.1.1 e.1.2 ∧ Here cs e.2.1 e.2.2) (hn : NSub N n) (hP : ((wk, true, Tr.ldat (encP W0)) :: Q st0).Sublist P) (hN : ∀ a b c d, NSub N (("right", a) :: ("left", b) :: ("right", c) :: ("left", d) :: N))
    (hb' : ∀ (R' : Flow → Shared → Prop) W st c c' t1 t2 lt la rt ra, Rets C X R' → PEnds C N wk Q HH (t1.size + sizeP W) R' → HH (((c, t1), (c', t2)) :: W) st → t1.In cs → t1.cell = (lt, la) → t2.In cs → t2.cell = (rt, ra) →
      Wb C (("right", .d (cd rt ra)) :: ("left", .d (cd lt la)) :: N) ((wk, true, .ldat (encP W)) :: Q st) tail R')
    (hd : ∀ st, HH [] st → Wb C N ((wk, true, .ldat []) :: Q st) ss R)
    (m1 : methE (.Name "work" p9) p10 [] p11 = true) (m2 : methE (.Name "store" p14) p15 [.Name "left" p16] p17 = true) (m3 : methE (.Name "store" p20) p21 [.Name "right" p22] p23 = true) :
    Wb C n P (.While (.Compare (.Call (.Name "len" p1) [.Name "work" p2] [] p3) [.Gt] [.Constant (.int 0) k1 p4] p5)
      (.Assign [.Tuple [.Name "left" p6, .Name "right" p7] k2 p8] (.Call (.Attribute (.Name "work" p9) "pop" p10) [] [] p11) p12 :: .Assign [.Name "left" p13] (.Call (.Attribute (.Name "store" p14) "deref" p15) [.Name "left" p16] [] p17) p18 ::
        .Assign [.Name "right" p19] (.Call (.Attribute (.Name "store" p20) "deref" p21) [.Name "right" p22] [] p23) p24 :: tail) [] p25 :: ss) R := by
  refine Wb.whl (ι := PW × σ) (N := fun _ => N) (PP := fun i => (wk, true, Tr.ldat (encP i.1)) :: Q i.2) (H := fun i => HH i.1 i.2) (μ := fun i => sizeP i.1) (pp := fun i => (0 : Int) < ((encP i.1).length : Int)) hR (W0, st0) h0 hn hP (fun i hi => ?_) (fun R' i hR' hT hi hp => ?_) (fun i hi hp => ?_)
  · refine EvP.cmp (Ev.lenL pn.b (Ev.name pn.w1 pn.w2 rfl) rfl (.head _) ?_) Ev.int Cm.gtI rfl
    have := len_sizeP i.1
    have := (hsm _ _ hi).1
    rw [encP_length]; walk_at "o"
  · obtain ⟨W, st⟩ := i
    obtain ⟨h4, hh⟩ := hsm _ _ hi
    have hT : PEnds C N wk Q HH (sizeP W) R' := fun W' st' D s h1 h2 S => hT (W', st') ⟨h1, h2⟩ S
    cases W with
    | nil => exact absurd hp (by simp [encP])
    | cons e W =>
      obtain ⟨⟨c, t1⟩, ⟨c', t2⟩⟩ := e
      obtain ⟨g1, g2⟩ := hh _ (.head _)
      obtain ⟨⟨lt, la⟩, e1⟩ : ∃ y, t1.cell = y := ⟨_, rfl⟩
      obtain ⟨⟨rt, ra⟩, e2⟩ : ∃ y, t2.cell = y := ⟨_, rfl⟩
      have hl : (encP W).length < 2 ^ 20 := by have := len_sizeP W; simp only [sizeP] at h4; rw [encP_length]; walk_at "o"
      refine Wb.asg2 (Ef.pop (Ev.name pn.w1 pn.w2 rfl) m1 Put.head hl) ?_ pn.l pn.r rfl rfl
      refine Wb.asg (deref_ev G wf hz g1 e1 hk (by exact pn.s1) pn.s2 (by rfl) pn.l rfl (.tail _ (hx st)) (.tail _ (hdx st)) (.skip (sel st)) m2) ?_ pn.l rfl
      refine Wb.asg (deref_ev G wf hz g2 e2 hk (by exact pn.s1) pn.s2 (by rfl) pn.r rfl (.tail _ (hx st)) (.tail _ (hdx st)) (.skip (sel st)) m3) ?_ pn.r rfl
      exact Wb.less (n := ("right", .d (cd rt ra)) :: ("left", .d (cd lt la)) :: N) ⟨rfl, rfl, hN _ _ _ _⟩ (List.Sublist.refl _) (hb' R' W st c c' t1 t2 lt la rt ra hR' hT hi g1.is e1 g2.is e2)
  · obtain ⟨W, st⟩ := i
    cases W with
    | cons e W => exact absurd (by simp [encP]) hp
    | nil => exact hd st hi
end
section
variable {prog : Program} {w : World} {B : Heap} {x dx H sy dsy ST TR TX AN FU FN wk : Addr} {mh hb bb : Tok} {cs fs : List (Int × Int)} {lt la rt ra f : Int} {l l' : Ts} {t1 t2 : T} {W : PW}
structure PairS (cs fs : List (Int × Int)) (lt la rt ra : Int) (l l' : Ts) : Prop where
  hok : HeadOk cs fs (lt, la)
  hw : widthF cs fs (lt, la) = (l.len : Int)
  sg : Seg cs (baseF (lt, la)) l.len
  sg' : Seg cs (baseF (rt, ra)) l.len
  ll : l.len = l'.len
  i1 : l.In cs (baseF (lt, la))
  i2 : l'.In cs (baseF (rt, ra))
  l3 : 0 < l.len ∧ l.len < 4
  b1 : 0 ≤ la ∧ la < cs.length
  b2 : 0 ≤ ra ∧ ra < (cs.length : Int) + 1
  im : IntMulOk la ((cs.length : Int) + 1)
theorem pairS (fk : FsOk fs) (hz : cs.length < 2 ^ 19) (h : (T.s la f l).In cs) (h' : (T.s ra f l').In cs) : PairS cs fs (tagOf f) la (tagOf f) ra l l' := by
  have hz' : cs.length < 2 ^ 20 := by walk_at "o"
  have ll : l.len = l'.len := ((s_form h).uniq (s_form h')).mp rfl
  have b1 := s_lt h
  have b2 := s_lt h'
  exact ⟨s_hok h fk hz', s_width h fk hz', s_seg h, ll ▸ s_seg h', ll, s_in h, s_in h', (s_form h).pos, b1, ⟨b2.1, by walk_at "o"⟩, .of_left (intBits_le_64 (by walk_at "o") (by walk_at "o"))⟩
theorem comp_ok (fk : FsOk fs) (hz : cs.length < 2 ^ 19) (h : t1.In cs) (e : t1.cell = (lt, la)) (c : isC lt) : CompOk cs fs (lt, la) := by
  obtain ⟨f, l, rfl, rfl⟩ := T.comp h e c
  exact s_ok h fk (by walk_at "o")
theorem comp_apart (fk : FsOk fs) (hz : cs.length < 2 ^ 19) (h : t1.In cs) (e : t1.cell = (lt, la)) (h' : t2.In cs) (e' : t2.cell = (rt, ra)) (c : isC lt) (c' : isC rt) : Apart fs (headF cs (lt, la)) (headF cs (rt, ra)) := by
  obtain ⟨f, l, rfl, rfl⟩ := T.comp h e c
  obtain ⟨g, l', rfl, rfl⟩ := T.comp h' e' c'
  exact s_apart h fk (by walk_at "o") h'
theorem comp_two (fk : FsOk fs) (hz : cs.length < 2 ^ 19) (h : t1.In cs) (e : t1.cell = (lt, la)) (h' : t2.In cs) (e' : t2.cell = (rt, ra)) (c : isC lt) (c' : isC rt) (q : headF cs (lt, la) = headF cs (rt, ra)) {p : Prop}
    (k : ∀ f l l', t1 = .s la f l → t2 = .s ra f l' → PairS cs fs lt la rt ra l l' → p) : p := by
  obtain ⟨f, l, rfl, rfl⟩ := T.comp h e c
  obtain ⟨g, l', rfl, rfl⟩ := T.comp h' e' c'
  rw [s_head h, s_head h'] at q
  subst q
  exact k f l l' rfl rfl (pairS fk hz h h')
theorem push2_fn (G : Gr (KK w.params) B) (s : PairS cs fs lt la rt ra l l') (hz : cs.length < 2 ^ 19) (hs : sizeP W < 4000) :
    EFn prog w B 3 [wk] ((wk, true, .ldat (encP W)) :: stSyP x dx H sy ST TR mh hb bb false cs dsy TX AN FU FN fs) 417 [.r x, .d (cd lt la), .d (cd rt ra), .r wk] (ι := Unit) (fun _ => True) (fun _ => .d .none)
      (fun _ => [(wk, .ldat (encP (pairsOf cs l l' (baseF (lt, la)) (baseF (rt, ra)) ++ W)))]) (fun _ => []) := by
  have := len_sizeP W
  rw [encP_push cs l l' _ _ W s.ll]
  exact push_pairs_fn G s.hok s.hw s.sg s.sg' (by have := s.l3; rw [encP_length]; walk_at "o") (by walk_at "o")
theorem add2_fn {p dp mt : Addr} {ts : Tok} {F : Int → Bool} {n : Nat} (G : Gr (KK w.params) B) (s : PairS cs fs lt la rt ra l l') (hF : F (la * ((cs.length : Int) + 1) + ra) = false) (hn : n < 4000) :
    EFn prog w B 1 [mt] [(mt, true, .set F n), (p, false, .is (IsInst 399 dp)), (dp, false, .att (pairG ((cs.length : Int) + 1) ts mt) 2)] 396 [.r p, .d (cd lt la), .d (cd rt ra)] (ι := Nat) (fun n' => n' ≤ n + 1) (fun _ => .d (.bool true))
      (fun n' => [(mt, .set (fun k => F k || decide (k = la * ((cs.length : Int) + 1) + ra)) n')]) (fun _ => []) := by
  have := pair_add_fn (prog := prog) (t := lt) (t' := rt) (a' := ra) (p := p) (dp := dp) (mt := mt) (ts := ts) (F := F) (n := n) G s.im hn
  rw [hF] at this
  exact this
theorem pairset2_fn (G : Gr (KK w.params) B) (hz : cs.length < 2 ^ 19) : EFn prog w B 2 [] (stP x dx H sy ST TR mh hb bb false cs) 399 [.r x] (ι := (Tok × Addr) × Addr × Addr) (fun _ => True) (fun i => .r i.2.1) (fun _ => [])
    (fun i => pairP i.2.1 i.2.2 i.1.2 true ((cs.length : Int) + 1) i.1.1 (fun _ => false) 0) := by
  have := pairset_fn (prog := prog) (x := x) (dx := dx) (H := H) (sy := sy) (ST := ST) (TR := TR) (mh := mh) (hb := hb) (bb := bb) (cs := cs) G (by walk_at "o")
  rw [List.length_map] at this
  exact this
end
end
section
noncomputable abbrev SW := List ((Int × Int) × T)
noncomputable def encS : SW → List PyData
  | [] => []
  | e :: r => encS r ++ [cdp e.1]
theorem encS_length : ∀ W : SW, (encS W).length = W.length
  | [] => rfl
  | e :: r => by simp [encS, encS_length r]
noncomputable def sizeS : SW → Nat
  | [] => 0
  | e :: r => e.2.size + sizeS r
noncomputable def addrsS : SW → List Int
  | [] => []
  | e :: r => e.2.addrs ++ addrsS r
noncomputable def varsS : SW → List Int
  | [] => []
  | e :: r => e.2.vars ++ varsS r
theorem len_sizeS : ∀ W : SW, W.length ≤ sizeS W
  | [] => Nat.le_refl _
  | e :: r => by have := len_sizeS r; have := e.2.size_pos; simp only [List.length_cons, sizeS]; walk_at "o"
section
variable (cs : List (Int × Int))
theorem encS_push : ∀ (l : Ts) (b : Int) (W : SW),
    encS (l.kids cs b ++ W) = encS W ++ (List.range l.len).map fun (j : Nat) => cdp (at0 cs (b + ((l.len : Int) - 1 - (j : Int))))
  | .nil, _, W => by simp [Ts.kids, Ts.len]
  | .cons t r, b, W => by
    have ih := encS_push r (b + 1) W
    simp only [Ts.kids, List.cons_append, encS, Ts.len]
    rw [ih, List.range_succ, List.map_append, List.append_assoc]
    congr 1
    congr 1
    · apply List.map_congr_left
      intro j hj
      have e1 : b + 1 + ((r.len : Int) - 1 - (j : Int)) = b + (((r.len + 1 : Nat) : Int) - 1 - (j : Int)) := by walk_at "o"
      rw [e1]
    · have e1 : b + (((r.len + 1 : Nat) : Int) - 1 - (r.len : Int)) = b := by walk_at "o"
      simp only [List.map_cons, List.map_nil, e1]
theorem sizeS_push : ∀ (l : Ts) (b : Int) (W : SW), sizeS (l.kids cs b ++ W) = l.size + sizeS W
  | .nil, _, W => by simp [Ts.kids, Ts.size]
  | .cons t r, b, W => by
    have ih := sizeS_push r (b + 1) W
    simp only [Ts.kids, List.cons_append, sizeS, Ts.size]; walk_at "o"
theorem addrsS_push : ∀ (l : Ts) (b : Int) (W : SW), addrsS (l.kids cs b ++ W) = l.addrs ++ addrsS W
  | .nil, _, W => by simp [Ts.kids, Ts.addrs]
  | .cons t r, b, W => by
    have ih := addrsS_push r (b + 1) W
    simp only [Ts.kids, List.cons_append, addrsS, Ts.addrs, ih, List.append_assoc]
theorem varsS_push : ∀ (l : Ts) (b : Int) (W : SW), varsS (l.kids cs b ++ W) = l.vars ++ varsS W
  | .nil, _, W => by simp [Ts.kids, Ts.vars]
  | .cons t r, b, W => by
    have ih := varsS_push r (b + 1) W
    simp only [Ts.kids, List.cons_append, varsS, Ts.vars, ih, List.append_assoc]
theorem hereS_push {l : Ts} {b : Int} {W : SW} (h : l.In cs b) (hW : ∀ e ∈ W, Here cs e.1 e.2) : ∀ e ∈ l.kids cs b ++ W, Here cs e.1 e.2 := by
  intro e he
  rcases List.mem_append.mp he with he | he
  · exact Ts.kids_here h _ he
  · exact hW e he
end
structure FreshS (F : Int → Bool) (l : List Int) : Prop where
  nd : l.Nodup
  no : ∀ a ∈ l, F a = false
theorem FreshS.drop {F : Int → Bool} {l l' : List Int} (x : FreshS F (l ++ l')) : FreshS F l' := ⟨(List.nodup_append.mp x.nd).2.1, fun a ha => x.no a (List.mem_append.mpr (.inr ha))⟩
theorem FreshS.add {F : Int → Bool} {a : Int} {l : List Int} (x : FreshS F (a :: l)) : FreshS (fun k => F k || decide (k = a)) l := by
  have nd := List.nodup_cons.mp x.nd
  refine ⟨nd.2, fun a' ha => ?_⟩
  rw [x.no a' (.tail _ ha), Bool.false_or, decide_eq_false_iff_not]
  intro e
  exact nd.1 (e ▸ ha)
theorem T.here {cs : List (Int × Int)} {t : T} (h : t.In cs) {x y : Int} (e : t.cell = (x, y)) : Here cs (x, y) t := by
  cases t with
  | v a =>
    simp only [T.cell, Prod.mk.injEq] at e
    obtain ⟨rfl, rfl⟩ := e
    have h' := h
    simp only [T.In] at h'
    have := (List.getElem?_eq_some_iff.mp h'.2).1
    refine ⟨⟨(by show (0 : Int) ≠ 1; decide), fun _ => ⟨h'.1, by simp only; walk_at "o"⟩⟩, ?_, h⟩
    simp [derefF, List.getD_eq_getElem?_getD, h'.2, T.cell]
  | k u a =>
    simp only [T.cell, Prod.mk.injEq] at e
    obtain ⟨rfl, rfl⟩ := e
    have h' := h
    simp only [T.In] at h'
    refine ⟨⟨by simp only; walk_at "o", fun q => by simp only at q; walk_at "o"⟩, ?_, h⟩
    unfold derefF
    rw [if_neg (by simp only; walk_at "o")]; rfl
  | s a f l =>
    simp only [T.cell, Prod.mk.injEq] at e
    obtain ⟨rfl, rfl⟩ := e
    have := tag_c f
    unfold isC at this
    refine ⟨⟨by simp only; walk_at "o", fun q => by simp only at q; walk_at "o"⟩, ?_, h⟩
    unfold derefF
    rw [if_neg (by simp only; walk_at "o")]; rfl
noncomputable abbrev Ch := List (Int × T)
noncomputable def chget (ch : Ch) (n : Int) : Option T := (ch.find? fun e => e.1 = n).map (·.2)
mutual
noncomputable def T.fit (fx : Int → Bool) : T → T → Ch → Option Ch
  | .v n, u, ch => if fx n then (if (T.v n).eqv u then some ch else none) else match chget ch n with
    | none => some (ch ++ [(n, u)])
    | some t => if t.eqv u then some ch else none
  | .k t a, u, ch => if (T.k t a).eqv u then some ch else none
  | .s _ f l, .s _ g l', ch => if f = g then l.fit fx l' ch else none
  | .s _ _ _, .v _, _ => none
  | .s _ _ _, .k _ _, _ => none
noncomputable def Ts.fit (fx : Int → Bool) : Ts → Ts → Ch → Option Ch
  | .nil, .nil, ch => some ch
  | .cons t r, .cons t' r', ch => (t.fit fx t' ch).bind fun ch => r.fit fx r' ch
  | .nil, .cons _ _, _ => none
  | .cons _ _, .nil, _ => none
end
noncomputable def fitP (fx : Int → Bool) : PW → Ch → Option Ch
  | [], ch => some ch
  | e :: r, ch => (e.1.2.fit fx e.2.2 ch).bind fun ch => fitP fx r ch
theorem fitP_push (cs : List (Int × Int)) (fx : Int → Bool) : ∀ (l l' : Ts) (b b' : Int) (W : PW) (ch : Ch), l.len = l'.len → fitP fx (pairsOf cs l l' b b' ++ W) ch = (l.fit fx l' ch).bind fun ch => fitP fx W ch
  | .nil, .nil, _, _, W, _, _ => by simp [pairsOf, Ts.kids, Ts.fit]
  | .nil, .cons _ _, _, _, _, _, e => by simp only [Ts.len] at e; walk_at "o"
  | .cons _ _, .nil, _, _, _, _, e => by simp only [Ts.len] at e; walk_at "o"
  | .cons t r, .cons t' r', b, b', W, ch, e => by
    have ih := fun c => fitP_push cs fx r r' (b + 1) (b' + 1) W c (by simp only [Ts.len] at e; walk_at "o")
    unfold pairsOf at ih ⊢
    simp only [Ts.kids, List.zip_cons_cons, List.cons_append, fitP, Ts.fit, ih, Option.bind_assoc]
noncomputable def chDat (ch : Ch) : List (Int × PyData) := ch.map fun e => (e.1, cdp e.2.cell)
theorem chDat_get (ch : Ch) (n : Int) : kget (chDat ch) n = (chget ch n).map fun t => cdp t.cell := by
  unfold kget chget chDat
  induction ch with
  | nil => rfl
  | cons e r ih =>
    simp only [List.map_cons, List.find?_cons]
    by_cases h : e.1 = n
    · simp [h]
    · simp only [h, decide_false, ih]
theorem chDat_put {ch : Ch} {n : Int} {t : T} (h : chget ch n = none) : kput (chDat ch) n (cdp t.cell) = chDat (ch ++ [(n, t)]) := by
  unfold kput
  rw [if_neg]
  · simp [chDat]
  · have q := chDat_get ch n
    rw [h] at q
    intro z
    unfold kget at q
    simp only [Option.map_none, Option.map_eq_none_iff] at q
    rw [List.find?_eq_none] at q
    obtain ⟨e, he, e2⟩ := List.any_eq_true.mp z
    exact q e he e2
structure Fair (n : Nat) (t : T) : Prop where
  nd : t.addrs.Nodup
  size : t.size ≤ n
theorem Fair.kids {n : Nat} {cs : List (Int × Int)} : ∀ {l : Ts} {b : Int}, l.addrs.Nodup → l.size ≤ n → ∀ p ∈ l.kids cs b, Fair n p.2
  | .nil, _, _, _, p, hp => nomatch hp
  | .cons t r, b, h, hs, p, hp => by
    simp only [Ts.addrs] at h
    simp only [Ts.size] at hs
    have h := List.nodup_append.mp h
    simp only [Ts.kids] at hp
    rcases List.mem_cons.mp hp with rfl | hp
    · exact ⟨h.1, by simp only; walk_at "o"⟩
    · exact Fair.kids h.2.1 (by walk_at "o") p hp
theorem Fair.sub {n : Nat} {a f : Int} {l : Ts} (x : Fair n (.s a f l)) : l.addrs.Nodup ∧ l.size ≤ n := by
  obtain ⟨h, hs⟩ := x
  simp only [T.addrs] at h
  simp only [T.size] at hs
  exact ⟨(List.nodup_cons.mp h).2, by walk_at "o"⟩
theorem Fair.right {n : Nat} {cs : List (Int × Int)} {l l' : Ts} {b b' : Int} {W : PW} (h : l'.addrs.Nodup ∧ l'.size ≤ n) (hW : ∀ e ∈ W, Fair n e.2.2) : ∀ e ∈ pairsOf cs l l' b b' ++ W, Fair n e.2.2 := by
  intro e he
  rcases List.mem_append.mp he with he | he
  · have q := List.of_mem_zip (a := e.1) (b := e.2) he
    exact Fair.kids h.1 h.2 _ q.2
  · exact hW e he
end
section
noncomputable abbrev Mp := List (Int × Int)
noncomputable def mget (ch : Mp) (n : Int) : Option Int := (ch.find? fun e => e.1 = n).map (·.2)
noncomputable def mpDat (ch : Mp) : List (Int × PyData) := ch.map fun e => (e.1, .int e.2)
theorem mpDat_get (ch : Mp) (n : Int) : kget (mpDat ch) n = (mget ch n).map fun t => .int t := by
  unfold kget mget mpDat
  induction ch with
  | nil => rfl
  | cons e r ih =>
    simp only [List.map_cons, List.find?_cons]
    by_cases h : e.1 = n
    · simp [h]
    · simp only [h, decide_false, ih]
theorem mpDat_put {ch : Mp} {n t : Int} (h : mget ch n = none) : kput (mpDat ch) n (.int t) = mpDat (ch ++ [(n, t)]) := by
  unfold kput
  rw [if_neg]
  · simp [mpDat]
  · have q := mpDat_get ch n
    rw [h] at q
    intro z
    unfold kget at q
    simp only [Option.map_none, Option.map_eq_none_iff] at q
    rw [List.find?_eq_none] at q
    obtain ⟨e, he, e2⟩ := List.any_eq_true.mp z
    exact q e he e2
noncomputable def renV (a b : Int) (m : Mp × Mp) : Option (Mp × Mp) :=
  if mget m.1 a = none ∧ mget m.2 b = none then some (m.1 ++ [(a, b)], m.2 ++ [(b, a)]) else if mget m.1 a = some b then some m else none
mutual
noncomputable def T.ren : T → T → Mp × Mp → Option (Mp × Mp)
  | .v a, .v b, m => renV a b m
  | .k t a, .k u b, m => if t = u ∧ a = b then some m else none
  | .s _ f l, .s _ g l', m => if f = g then l.ren l' m else none
  | .v _, .k _ _, _ => none
  | .v _, .s _ _ _, _ => none
  | .k _ _, .v _, _ => none
  | .k _ _, .s _ _ _, _ => none
  | .s _ _ _, .v _, _ => none
  | .s _ _ _, .k _ _, _ => none
noncomputable def Ts.ren : Ts → Ts → Mp × Mp → Option (Mp × Mp)
  | .nil, .nil, m => some m
  | .cons t r, .cons t' r', m => (t.ren t' m).bind fun m => r.ren r' m
  | .nil, .cons _ _, _ => none
  | .cons _ _, .nil, _ => none
end
noncomputable def renP : PW → Mp × Mp → Option (Mp × Mp)
  | [], m => some m
  | e :: r, m => (e.1.2.ren e.2.2 m).bind fun m => renP r m
theorem renP_push (cs : List (Int × Int)) : ∀ (l l' : Ts) (b b' : Int) (W : PW) (m : Mp × Mp), l.len = l'.len → renP (pairsOf cs l l' b b' ++ W) m = (l.ren l' m).bind fun m => renP W m
  | .nil, .nil, _, _, W, _, _ => by simp [pairsOf, Ts.kids, Ts.ren]
  | .nil, .cons _ _, _, _, _, _, e => by simp only [Ts.len] at e; walk_at "o"
  | .cons _ _, .nil, _, _, _, _, e => by simp only [Ts.len] at e; walk_at "o"
  | .cons t r, .cons t' r', b, b', W, m, e => by
    have ih := fun c => renP_push cs r r' (b + 1) (b' + 1) W c (by simp only [Ts.len] at e; walk_at "o")
    unfold pairsOf at ih ⊢
    simp only [Ts.kids, List.zip_cons_cons, List.cons_append, renP, Ts.ren, ih, Option.bind_assoc]
section
variable {a f b g : Int} {l l' : Ts} {m : Mp × Mp}
theorem ren_v : (T.v a).ren (.v b) m = renV a b m := by simp only [T.ren]
theorem ren_s : (T.s a f l).ren (.s b g l') m = if f = g then l.ren l' m else none := by simp only [T.ren]
theorem ren_k : (T.k a f).ren (.k b g) m = if a = b ∧ f = g then some m else none := by simp only [T.ren]
end
end
section
section
variable {prog : Program} {w : World} {B : Heap}
variable {x dx H sy dsy ST TR TX AN FU FN : Addr} {mh hb bb : Tok} {cs fs : List (Int × Int)} {t t' t1 t2 : T} {c c' : Int × Int} {lt la rt ra : Int} {W : PW} {st : (Int → Bool) × Nat}
structure CH (cs : List (Int × Int)) (t t' : T) (W : PW) (st : (Int → Bool) × Nat) : Prop where
  hh : ∀ e ∈ W, Here cs e.1.1 e.1.2 ∧ Here cs e.2.1 e.2.2
  al : allP T.eqv W = t.eqv t'
  fr : Fresh st.1 ((cs.length : Int) + 1) (addrsP W)
  n : st.2 + sizeP W ≤ t.size
theorem CH.same (h : CH cs t t' (((c, t1), (c', t2)) :: W) st) (e : t1 = t2) : CH cs t t' W st :=
  ⟨fun y hy => h.hh y (.tail _ hy), by have := h.al; simp only [allP, e, T.eqv_refl, Bool.true_and] at this; exact this, by have := h.fr; simp only [addrsP] at this; exact this.drop, by have := h.n; simp only [sizeP] at this; walk_at "o"⟩
theorem CH.no (h : CH cs t t' (((c, t1), (c', t2)) :: W) st) (e : t1.eqv t2 = false) : t.eqv t' = false := by have := h.al; simp only [allP, e, Bool.false_and] at this; exact this.symm
theorem CH.small (h : CH cs t t' (((c, t1), (c', t2)) :: W) st) (hs : t.size < 2000) : sizeP W < 4000 ∧ st.2 < 4000 := by have := h.n; simp only [sizeP] at this; walk_at "o"
section
variable {l l' : Ts} {f : Int}
theorem CH.fresh (h : CH cs t t' (((c, t1), (c', t2)) :: W) st) (s : PairS cs fs lt la rt ra l l') (e1 : t1 = .s la f l) : st.1 (la * ((cs.length : Int) + 1) + ra) = false := by
  subst e1
  exact h.fr.no la (List.mem_append.mpr (.inl (by simp only [T.addrs]; exact .head _))) ra s.b2.1 s.b2.2
theorem CH.push {n' : Nat} (h : CH cs t t' (((c, t1), (c', t2)) :: W) st) (s : PairS cs fs lt la rt ra l l') (e1 : t1 = .s la f l) (e2 : t2 = .s ra f l') (hn : n' ≤ st.2 + 1) :
    CH cs t t' (pairsOf cs l l' (baseF (lt, la)) (baseF (rt, ra)) ++ W) ((fun k => st.1 k || decide (k = la * ((cs.length : Int) + 1) + ra)), n') := by
  subst e1 e2
  have h1 := h.al
  have h2 := h.fr
  have h3 := h.n
  simp only [allP, T.eqv, decide_true, Bool.true_and] at h1
  simp only [addrsP, T.addrs, List.cons_append] at h2
  simp only [sizeP, T.size] at h3
  exact ⟨here_push cs s.i1 s.i2 fun e he => h.hh e (.tail _ he), by rw [allP_push cs _ _ _ _ _ s.ll]; exact h1, by rw [addrsP_push cs _ _ _ _ _ s.ll]; exact Fresh.add h2 s.b2.1 s.b2.2, by rw [sizeP_push cs _ _ _ _ _ s.ll]; dsimp only; walk_at "o"⟩
end
theorem push_less {l l' : Ts} {f b b' : Int} (e1 : t1 = .s la f l) (ll : l.len = l'.len) : sizeP (pairsOf cs l l' b b' ++ W) < t1.size + sizeP W := by
  rw [sizeP_push cs _ _ _ _ _ ll, e1, T.size]; walk_at "o"
theorem size_less : sizeP W < t1.size + sizeP W := by have := t1.size_pos; walk_at "o"
theorem tops2_fn (G : Gr (KK w.params) B) (q1 : t1.cell = (lt, la)) (q2 : t2.cell = (rt, ra)) (in1 : t1.In cs) (in2 : t2.In cs) (fk : FsOk fs) (hz : cs.length < 2 ^ 19) (ne : ¬ (lt = rt ∧ la = ra)) :
    PFn prog w B 3 (stSyP x dx H sy ST TR mh hb bb false cs dsy TX AN FU FN fs) 459 [.r x, .d (cd lt la), .d (cd rt ra)] (.d (.int (topsI cs fs (lt, la) (rt, ra)))) :=
  compare_tops_fn G (T.tags in1 q1) (T.tags in2 q2) ne (comp_ok fk hz in1 q1) (comp_ok fk hz in2 q2) (comp_apart fk hz in1 q1 in2 q2)
local macro_rules | `(tactic| walk_at "spc") => `(tactic| with_reducible first | (exact is_compound_fn (by assumption)) | (refine' tops2_fn (by assumption) ?_ ?_ ?_ ?_ ?_ ?_ ?_) | fail "spc")
local macro_rules | `(tactic| walk_at "spe") => `(tactic| with_reducible first | (refine' pairset2_fn (by assumption) ?_) | (refine' add2_fn (by assumption) ?_ ?_ ?_) | (refine' push2_fn (by assumption) ?_ ?_ ?_) | fail "spe")
noncomputable abbrev cmpQ (mt p dp : Addr) (ts : Tok) (cs : List (Int × Int)) (R : PL) (st : (Int → Bool) × Nat) : PL :=
  (mt, true, Tr.set st.1 st.2) :: (p, true, Tr.is (IsInst 399 dp)) :: (dp, true, Tr.att (pairG ((cs.length : Int) + 1) ts mt) 2) :: R
theorem compare_fn {ct ca dt da : Int} (G : Gr (KK w.params) B) (wf : WF cs) (fk : FsOk fs) (h1 : Here cs (ct, ca) t) (h2 : Here cs (dt, da) t') (hz : cs.length < 2 ^ 19) (hs : t.size < 2000) (nd : t.addrs.Nodup) :
    EFn prog w B 4 [] (stSyP x dx H sy ST TR mh hb bb false cs dsy TX AN FU FN fs) 466 [.r x, .d (cd ct ca), .d (cd dt da)] (ι := Int) (fun i => i = 0 ↔ t.eqv t' = true) (fun i => .d (.int i)) (fun _ => []) (fun _ => []) := by
  refine' (EFn.of (n := [("c2", .d (cd dt da)), ("c1", .d (cd ct ca)), ("store", .r x)]) G is_466 (by rfl) (by rfl) fun C R X hX hR hE => ?_)
  replace hX : ∀ {i P'}, (i = 0 ↔ t.eqv t' = true) → X (.d (.int i)) P' := fun h => hX _ _ _ h rfl (fun q hq => nomatch hq) (List.nil_sublist _) (fun q hq => nomatch hq)
  walk_at "nm"
  ((with_reducible refine' Wb.asgF ?wcx84 ?wkx84 ?wlx84 ?wex84); (case wlx84 => k_dflt rfl); (case wex84 => k_dflt rfl); (case wcx84 => walk_at "ef"); (case' wkx84 => intro aZ _; walk_at "nm"))
  rename (Tok × Addr) × Addr × Addr => pi
  generalize pi.1.1 = ts, pi.1.2 = mt, pi.2.1 = p, pi.2.2 = dp
  ((with_reducible refine' Wb.asgF ?wcx85 ?wkx85 ?wlx85 ?wex85); (case wlx85 => k_dflt rfl); (case wex85 => k_dflt rfl); (case wcx85 => walk_at "ef"); (case' wkx85 => intro aZ _; walk_at "nm"))
  rename Addr => wk
  dsimp only [List.append_eq, List.cons_append, List.nil_append]
  refine' pairs_loop (σ := (Int → Bool) × Nat) (HH := CH cs t t') (Q := cmpQ mt p dp ts cs (stSyP x dx H sy ST TR mh hb bb false cs dsy TX AN FU FN fs)) (N := [("work", .r wk), ("met", .r p), ("store", .r x)]) (W0 := [(((ct, ca), t), ((dt, da), t'))]) (st0 := ((fun _ => false), 0)) G wf ?z ?k hR
    ⟨?q1, ?q2, ?q3, ?q4⟩ ⟨rfl, rfl, rfl, rfl, rfl, rfl, ?pb⟩ (fun _ => ?px) (fun _ => ?pd) (fun _ => ?ps) (fun W st h => ⟨?h1, h.hh⟩) ⟨rfl, rfl, rfl, trivial⟩ (List.Sublist.refl _) (fun _ _ _ _ => ⟨rfl, rfl, rfl, trivial⟩) (fun R' W st c c' t1 t2 lt la rt ra hR' hT hi in1 q1 in2 q2 => ?qb) (fun st h => ?qd) rfl rfl rfl
  case z => omega
  case k => decide
  case q1 => intro e he; rw [List.mem_singleton.mp he]; exact ⟨h1, h2⟩
  case q2 => exact Bool.and_true _
  case q3 => simp only [addrsP, List.append_nil]; exact .start nd
  case q4 => simp only [sizeP]; walk_at "o"
  case pb => walk_at "blt"
  case px => walk_at "mem"
  case pd => walk_at "mem"
  case ps => walk_at "sel"
  case h1 => have := h.n; walk_at "o"
  case qd =>
    walk_at "nm"
    ((with_reducible refine' Wb.ret (by assumption) ?wcx86 ?wxx86); (case wcx86 => walk_at "ev"))
    exact hX ⟨fun _ => h.al.symm, fun _ => rfl⟩
  case qb =>
    have hsm := (hi.small hs).1
    have hkk := (hi.small hs).2
    walk_at "nm"
    ((with_reducible refine' Wb.ite ?wcx87 ?wtx87 ?wfx87); (case wcx87 => walk_at "evp"); (case' wfx87 => intro hbZ; walk_at "nm"); (case' wtx87 => intro hbZ; walk_at "nm"))
    · rename lt = rt ∧ la = ra => q
      exact PEnds.cont hT (hi.same (T.det in1 in2 (by rw [q1, q2, q.1, q.2]))) size_less ⟨rfl, rfl, rfl, trivial⟩ (List.Sublist.refl _)
    · rename ¬ (lt = rt ∧ la = ra) => q
      ((with_reducible refine' Wb.asg ?wcx88 ?wkx88 ?wlx88 ?wex88); (case wlx88 => rfl); (case wex88 => rfl); (case wcx88 => walk_at "ev"); (case' wkx88 => walk_at "nm"))
      have tz := topsI_zero (T.tags in1 q1) (T.tags in2 q2) q (comp_apart fk hz in1 q1 in2 q2)
      ((with_reducible refine' Wb.ite ?wcx89 ?wtx89 ?wfx89); (case wcx89 => walk_at "evp"); (case' wfx89 => intro hbZ; walk_at "nm"); (case' wtx89 => intro hbZ; walk_at "nm"))
      · rename _ ≠ _ => y
        ((with_reducible refine' Wb.ret (by assumption) ?wcx90 ?wxx90); (case wcx90 => walk_at "ev"))
        exact hX ⟨fun z => absurd z y, fun z => by rw [hi.no (eqv_no in1 in2 q1 q2 q fun c => y (tz.mpr c))] at z; cases z⟩
      · rename ¬ _ ≠ _ => y
        have hc := tz.mp (Decidable.not_not.mp y)
        refine comp_two fk hz in1 q1 in2 q2 hc.1 hc.2.1 hc.2.2 fun f l l' e1 e2 s => ?_
        have hF := hi.fresh s e1
        ((with_reducible refine' Wb.iteA ?w1x91 ?wcx91 ?wex91 ?wtx91 ?wfx91 ?wnx91); (case wex91 => k_dflt rfl); (case w1x91 => walk_at "evp"); (case wcx91 => intro _; walk_at "ef"); (case' wnx91 => intro hbZ; walk_at "nm"); (case' wfx91 => intro aZ _ _ hbZ; walk_at "nm"); (case' wtx91 => intro aZ _ _ hbZ; walk_at "nm"))
        · rename Nat => n'
          rename n' ≤ _ => hn'
          ((with_reducible refine' Wb.expr ?wex92 ?wnx92 ?wkx92 ?w1x92); (case w1x92 => k_dflt rfl); (case wex92 => walk_at "ef"); (case wnx92 => intro _; k_dflt rfl); (case' wkx92 => intro _ _; walk_at "nm"))
          exact PEnds.turn hT (hi.push s e1 e2 hn') (push_less e1 s.ll) ⟨rfl, rfl, rfl, trivial⟩ (List.Sublist.refl _)
        · rename true = false => z
          cases z
        · exact absurd hc.1 ‹¬ (lt = 2 ∨ lt = 3)›
local macro_rules | `(tactic| walk_at "spe") => `(tactic| with_reducible first | (refine' compare_fn (by assumption) ?_ ?_ ?_ ?_ ?_ ?_ ?_) | fail "spe")
theorem identical_fn {ct ca dt da : Int} {t t' : T} (G : Gr (KK w.params) B) (wf : WF cs) (fk : FsOk fs) (h1 : Here cs (ct, ca) t) (h2 : Here cs (dt, da) t') (hz : cs.length < 2 ^ 19) (hs : t.size < 2000) (nd : t.addrs.Nodup) :
    PFn prog w B 5 (stSyP x dx H sy ST TR mh hb bb false cs dsy TX AN FU FN fs) 473 [.r x, .d (cd ct ca), .d (cd dt da)] (.d (.bool (t.eqv t'))) := by
  refine' (PFn.of (n := [("c2", .d (cd dt da)), ("c1", .d (cd ct ca)), ("store", .r x)]) G is_473 (by rfl) (by rfl) fun C R hR hE => ?_)
  walk_at "nm"
  refine Wb.ret hR ?_ rfl
  refine' Ev.eqF (H := fun i => i = 0 ↔ t.eqv t' = true) (p1 := t.eqv t' = true) ?qe ?qp Ev.int (fun i h => h) rfl Iff.rfl
  case qe => walk_at "ef"
  case qp => exact fun _ => rfl
end
end
section
section
variable {prog : Program} {w : World} {B : Heap}
variable {x dx H sy dsy ST TR TX AN FU FN : Addr} {mh hb bb : Tok} {cs fs : List (Int × Int)} {t t' t1 t2 : T} {c c' : Int × Int} {lt la rt ra a b : Int} {W : PW} {m : Mp × Mp}
theorem T.is_v (h : t.In cs) (e : t.cell = (lt, la)) (v : lt = 0 ∨ lt = 1) : lt = 0 ∧ t = .v la := by
  cases t with
  | v a => cases e; exact ⟨rfl, rfl⟩
  | k u a => cases e; simp only [T.In] at h; walk_at "o"
  | s a f l => cases e; have := tag_c f; unfold isC at this; walk_at "o"
theorem T.is_k (h : t.In cs) (e : t.cell = (lt, la)) (v : ¬ (lt = 0 ∨ lt = 1)) (c : ¬ (lt = 2 ∨ lt = 3)) : t = .k lt la := by
  cases t with
  | v a => cases e; exact absurd (.inl rfl) v
  | k u a => cases e; rfl
  | s a f l => cases e; exact absurd (tag_c f) c
theorem ren_mixed (h : t1.In cs) (e : t1.cell = (lt, la)) (h' : t2.In cs) (e' : t2.cell = (rt, ra)) (n : ¬ ((lt = 0 ∨ lt = 1) ∧ (rt = 0 ∨ rt = 1))) (y : (lt = 0 ∨ lt = 1) ∨ (rt = 0 ∨ rt = 1)) : t1.ren t2 m = none := by
  rcases y with y | y
  · obtain ⟨_, rfl⟩ := T.is_v h e y
    cases t2 with
    | v b => cases e'; exact absurd ⟨y, .inl rfl⟩ n
    | k u b => simp only [T.ren]
    | s b g l => simp only [T.ren]
  · obtain ⟨_, rfl⟩ := T.is_v h' e' y
    cases t1 with
    | v b => cases e; exact absurd ⟨.inl rfl, y⟩ n
    | k u b => simp only [T.ren]
    | s b g l => simp only [T.ren]
theorem ren_shape (h : t1.In cs) (e : t1.cell = (lt, la)) (h' : t2.In cs) (e' : t2.cell = (rt, ra)) (c1 : lt = 2 ∨ lt = 3) (n : ¬ (rt = 2 ∨ rt = 3) ∨ ¬ (lt = rt ∧ headF cs (lt, la) = headF cs (rt, ra))) : t1.ren t2 m = none := by
  obtain ⟨f, l, rfl, rfl⟩ := T.comp h e c1
  cases t2 with
  | v b => simp only [T.ren]
  | k u b => simp only [T.ren]
  | s b g l' =>
    cases e'
    rw [ren_s, if_neg]
    rintro rfl
    exact n.elim (fun n => n (tag_c f)) fun n => n ⟨rfl, by rw [s_head h, s_head h']⟩
theorem ren_cell (h : t1.In cs) (e : t1.cell = (lt, la)) (e' : t2.cell = (rt, ra)) (v : ¬ ((lt = 0 ∨ lt = 1) ∨ (rt = 0 ∨ rt = 1))) (c1 : ¬ (lt = 2 ∨ lt = 3)) : t1.ren t2 m = if lt = rt ∧ la = ra then some m else none := by
  obtain rfl := T.is_k h e (fun z => v (.inl z)) c1
  cases t2 with
  | v b => cases e'; exact absurd (.inr (.inl rfl)) v
  | k u b => cases e'; exact ren_k
  | s b g l => cases e'; rw [if_neg (fun z : lt = tagOf g ∧ la = ra => c1 (z.1 ▸ tag_c g))]; simp only [T.ren]
theorem mp_none {m : Mp} : kget (mpDat m) a = none ↔ mget m a = none := by rw [mpDat_get, Option.map_eq_none_iff]
theorem mp_some {m : Mp} (h : ¬ kget (mpDat m) a = none) : kget (mpDat m) a = some (.int ((mget m a).getD 0)) := by
  rw [mp_none] at h
  rw [mpDat_get]
  cases q : mget m a with
  | none => exact absurd q h
  | some y => rfl
theorem mp_not {m : Mp} (h : kget (mpDat m) a = none ∨ (mget m a).getD 0 ≠ b) : mget m a ≠ some b := by
  rw [mp_none] at h
  intro e
  rw [e] at h
  exact h.elim (fun h => nomatch h) fun h => h rfl
theorem mp_is {m : Mp} (h : ¬ (kget (mpDat m) a = none ∨ (mget m a).getD 0 ≠ b)) : mget m a = some b := by
  rw [mp_none] at h
  cases q : mget m a with
  | none => exact absurd (.inl q) h
  | some y => rw [q] at h; exact congrArg some (Decidable.not_not.mp fun z => h (.inr z))
theorem mp_len {m : Mp} (h : m.length < 1000) : (mpDat m).length < 1000 := by unfold mpDat; rw [List.length_map]; exact h
structure VS where
  F : Int → Bool
  k : Nat
  fd : Mp
  bd : Mp
structure VH (cs : List (Int × Int)) (t t' : T) (W : PW) (st : VS) : Prop where
  hh : ∀ e ∈ W, Here cs e.1.1 e.1.2 ∧ Here cs e.2.1 e.2.2
  eq : renP W (st.fd, st.bd) = t.ren t' ([], [])
  fr : Fresh st.F ((cs.length : Int) + 1) (addrsP W)
  n : st.k + sizeP W ≤ t.size
  nf : st.fd.length + sizeP W ≤ t.size
  nb : st.bd.length + sizeP W ≤ t.size
variable {st : VS}
theorem VH.eq' (h : VH cs t t' (((c, t1), (c', t2)) :: W) st) : (t1.ren t2 (st.fd, st.bd)).bind (fun m => renP W m) = t.ren t' ([], []) := h.eq
theorem VH.no (h : VH cs t t' (((c, t1), (c', t2)) :: W) st) (e : t1.ren t2 (st.fd, st.bd) = none) : (t.ren t' ([], [])).isSome = false := by rw [← h.eq', e]; rfl
theorem VH.to (h : VH cs t t' (((c, t1), (c', t2)) :: W) st) {fd bd : Mp} (e : t1.ren t2 (st.fd, st.bd) = some (fd, bd)) (l1 : fd.length ≤ st.fd.length + 1) (l2 : bd.length ≤ st.bd.length + 1) : VH cs t t' W ⟨st.F, st.k, fd, bd⟩ := by
  have h1 := h.eq'
  rw [e] at h1
  have h2 := h.fr
  simp only [addrsP] at h2
  have h3 := h.n
  have h4 := h.nf
  have h5 := h.nb
  simp only [sizeP] at h3 h4 h5
  have h6 := t1.size_pos
  exact ⟨fun y hy => h.hh y (.tail _ hy), h1, h2.drop, by dsimp only; walk_at "o", by dsimp only; walk_at "o", by dsimp only; walk_at "o"⟩
theorem VH.small (h : VH cs t t' (((c, t1), (c', t2)) :: W) st) (hs : t.size ≤ 900) : (sizeP W < 4000 ∧ st.k < 4000) ∧ (mpDat st.fd).length < 1000 ∧ (mpDat st.bd).length < 1000 := by
  have h1 := h.n
  have h2 := h.nf
  have h3 := h.nb
  simp only [sizeP] at h1
  exact ⟨by walk_at "o", mp_len (by walk_at "o"), mp_len (by walk_at "o")⟩
theorem VH.new (h : VH cs t t' (((c, t1), (c', t2)) :: W) st) (e1 : t1 = .v la) (e2 : t2 = .v ra) (z1 : mget st.fd la = none) (z2 : mget st.bd ra = none) : VH cs t t' W ⟨st.F, st.k, st.fd ++ [(la, ra)], st.bd ++ [(ra, la)]⟩ :=
  h.to (by rw [e1, e2, ren_v]; exact if_pos ⟨z1, z2⟩) (by rw [List.length_append]; exact Nat.le_refl _) (by rw [List.length_append]; exact Nat.le_refl _)
theorem VH.same (h : VH cs t t' (((c, t1), (c', t2)) :: W) st) (e : t1.ren t2 (st.fd, st.bd) = some (st.fd, st.bd)) : VH cs t t' W st := h.to e (Nat.le_succ _) (Nat.le_succ _)
theorem VH.old (h : VH cs t t' (((c, t1), (c', t2)) :: W) st) (e1 : t1 = .v la) (e2 : t2 = .v ra) (z : mget st.fd la = some ra) : VH cs t t' W st :=
  h.same (by rw [e1, e2, ren_v]; unfold renV; rw [if_neg (fun y => by rw [z] at y; exact nomatch y.1)]; exact if_pos z)
theorem VH.bad (h : VH cs t t' (((c, t1), (c', t2)) :: W) st) (e1 : t1 = .v la) (e2 : t2 = .v ra) (z : ¬ (mget st.fd la = none ∧ mget st.bd ra = none)) (y : mget st.fd la ≠ some ra) : (t.ren t' ([], [])).isSome = false :=
  h.no (by rw [e1, e2, ren_v]; unfold renV; rw [if_neg z]; exact if_neg y)
section
variable {l l' : Ts} {f : Int}
theorem VH.fresh (h : VH cs t t' (((c, t1), (c', t2)) :: W) st) (s : PairS cs fs lt la rt ra l l') (e1 : t1 = .s la f l) : st.F (la * ((cs.length : Int) + 1) + ra) = false := by
  subst e1
  exact h.fr.no la (List.mem_append.mpr (.inl (by simp only [T.addrs]; exact .head _))) ra s.b2.1 s.b2.2
theorem VH.push {n' : Nat} (h : VH cs t t' (((c, t1), (c', t2)) :: W) st) (s : PairS cs fs lt la rt ra l l') (e1 : t1 = .s la f l) (e2 : t2 = .s ra f l') (hn : n' ≤ st.k + 1) :
    VH cs t t' (pairsOf cs l l' (baseF (lt, la)) (baseF (rt, ra)) ++ W) ⟨(fun k => st.F k || decide (k = la * ((cs.length : Int) + 1) + ra)), n', st.fd, st.bd⟩ := by
  subst e1 e2
  have h1 := h.eq'
  have h2 := h.fr
  have h3 := h.n
  have h4 := h.nf
  have h5 := h.nb
  rw [ren_s, if_pos rfl] at h1
  simp only [addrsP, T.addrs, List.cons_append] at h2
  simp only [sizeP, T.size] at h3 h4 h5
  have h6 := sizeP_push cs l l' (baseF (lt, la)) (baseF (rt, ra)) W s.ll
  exact ⟨here_push cs s.i1 s.i2 fun e he => h.hh e (.tail _ he), by rw [renP_push cs _ _ _ _ _ _ s.ll]; exact h1, by rw [addrsP_push cs _ _ _ _ _ s.ll]; exact Fresh.add h2 s.b2.1 s.b2.2, by rw [h6]; dsimp only; walk_at "o", by rw [h6]; dsimp only; walk_at "o", by rw [h6]; dsimp only; walk_at "o"⟩
end
theorem vnum_fn (G : Gr (KK w.params) B) (e : lt = 0) : PFn prog w B 1 [] 487 [.d (cd lt la)] (.d (.int la)) := e ▸ variable_number_fn G
theorem shape2_fn (G : Gr (KK w.params) B) (q1 : t1.cell = (lt, la)) (q2 : t2.cell = (rt, ra)) (in1 : t1.In cs) (in2 : t2.In cs) (c1 : lt = 2 ∨ lt = 3) (c2 : rt = 2 ∨ rt = 3) (fk : FsOk fs) (hz : cs.length < 2 ^ 19) :
    PFn prog w B 1 (stP x dx H sy ST TR mh hb bb false cs) 424 [.r x, .d (cd lt la), .d (cd rt ra)] (.d (.bool (decide (lt = rt ∧ headF cs (lt, la) = headF cs (rt, ra))))) :=
  same_shape_fn (fs := fs) G ⟨c1, c2⟩ ⟨comp_ok fk hz in1 q1 c1, comp_ok fk hz in2 q2 c2⟩
local macro_rules | `(tactic| walk_at "spc") => `(tactic| with_reducible first | (exact is_compound_fn (by assumption)) | (exact is_variable_fn (by assumption)) | (refine' vnum_fn (by assumption) ?_) | (refine' shape2_fn (by assumption) ?_ ?_ ?_ ?_ ?_ ?_ ?_ ?_) | fail "spc")
local macro_rules | `(tactic| walk_at "spe") => `(tactic| with_reducible first | (refine' pairset2_fn (by assumption) ?_) | (refine' add2_fn (by assumption) ?_ ?_ ?_) | (refine' push2_fn (by assumption) ?_ ?_ ?_) | fail "spe")
noncomputable abbrev varQ (mt p dp bw fw : Addr) (ts : Tok) (cs : List (Int × Int)) (R : PL) (st : VS) : PL :=
  (mt, true, Tr.set st.F st.k) :: (p, true, Tr.is (IsInst 399 dp)) :: (dp, true, Tr.att (pairG ((cs.length : Int) + 1) ts mt) 2) :: (bw, true, Tr.ddat (mpDat st.bd)) :: (fw, true, Tr.ddat (mpDat st.fd)) :: R
set_option maxHeartbeats 4000000 in
theorem variant_fn {ct ca dt da : Int} (G : Gr (KK w.params) B) (wf : WF cs) (fk : FsOk fs) (h1 : Here cs (ct, ca) t) (h2 : Here cs (dt, da) t') (hz : cs.length < 2 ^ 19) (f1 : Fair 900 t) :
    PFn prog w B 6 (stSyP x dx H sy ST TR mh hb bb false cs dsy TX AN FU FN fs) 494 [.r x, .d (cd ct ca), .d (cd dt da)] (.d (.bool (t.ren t' ([], [])).isSome)) := by
  refine' (PFn.of (n := [("c2", .d (cd dt da)), ("c1", .d (cd ct ca)), ("store", .r x)]) G is_494 (by rfl) (by rfl) fun C R hR hE => ?_)
  walk_at "nm"
  ((with_reducible refine' Wb.asgF ?wcx93 ?wkx93 ?wlx93 ?wex93); (case wlx93 => k_dflt rfl); (case wex93 => k_dflt rfl); (case wcx93 => walk_at "ef"); (case' wkx93 => intro aZ _; walk_at "nm"))
  rename Addr => fw
  ((with_reducible refine' Wb.asgF ?wcx94 ?wkx94 ?wlx94 ?wex94); (case wlx94 => k_dflt rfl); (case wex94 => k_dflt rfl); (case wcx94 => walk_at "ef"); (case' wkx94 => intro aZ _; walk_at "nm"))
  rename Addr => bw
  ((with_reducible refine' Wb.asgF ?wcx95 ?wkx95 ?wlx95 ?wex95); (case wlx95 => k_dflt rfl); (case wex95 => k_dflt rfl); (case wcx95 => walk_at "ef"); (case' wkx95 => intro aZ _; walk_at "nm"))
  rename (Tok × Addr) × Addr × Addr => pi
  generalize pi.1.1 = ts, pi.1.2 = mt, pi.2.1 = p, pi.2.2 = dp
  ((with_reducible refine' Wb.asgF ?wcx96 ?wkx96 ?wlx96 ?wex96); (case wlx96 => k_dflt rfl); (case wex96 => k_dflt rfl); (case wcx96 => walk_at "ef"); (case' wkx96 => intro aZ _; walk_at "nm"))
  rename Addr => wk
  dsimp only [List.append_eq, List.cons_append, List.nil_append]
  refine' pairs_loop (σ := VS) (HH := VH cs t t') (Q := varQ mt p dp bw fw ts cs (stSyP x dx H sy ST TR mh hb bb false cs dsy TX AN FU FN fs)) (N := [("work", .r wk), ("met", .r p), ("backward", .r bw), ("forward", .r fw), ("store", .r x)]) (W0 := [(((ct, ca), t), ((dt, da), t'))]) (st0 := ⟨(fun _ => false), 0, [], []⟩) G wf ?z ?k hR
    ⟨?q1, ?q2, ?q3, ?q4, ?q5, ?q6⟩ ⟨rfl, rfl, rfl, rfl, rfl, rfl, ?pb⟩ (fun _ => ?px) (fun _ => ?pd) (fun _ => ?ps) (fun W st h => ⟨?h1, h.hh⟩) ⟨rfl, rfl, rfl, rfl, rfl, trivial⟩ (List.Sublist.refl _) (fun _ _ _ _ => ⟨rfl, rfl, rfl, rfl, rfl, trivial⟩) (fun R' W st c c' t1 t2 lt la rt ra hR' hT hi in1 q1 in2 q2 => ?qb) (fun st h => ?qd) rfl rfl rfl
  case z => omega
  case k => decide
  case q1 => intro e he; rw [List.mem_singleton.mp he]; exact ⟨h1, h2⟩
  case q2 => simp [renP]
  case q3 => simp only [addrsP, List.append_nil]; exact .start f1.nd
  case q4 => exact Nat.le_of_eq (Nat.zero_add _)
  case q5 => exact Nat.le_of_eq (Nat.zero_add _)
  case q6 => exact Nat.le_of_eq (Nat.zero_add _)
  case pb => walk_at "blt"
  case px => walk_at "mem"
  case pd => walk_at "mem"
  case ps => walk_at "sel"
  case h1 => have := h.n; have := f1.size; walk_at "o"
  case qd =>
    walk_at "nm"
    ((with_reducible refine' Wb.ret (by assumption) ?wcx97 ?wxx97); (case wcx97 => walk_at "ev"))
    rw [← h.eq]; rfl
  case qb =>
    have hsm := (hi.small f1.size).1.1
    have hkk := (hi.small f1.size).1.2
    have hfl := (hi.small f1.size).2.1
    have hbl := (hi.small f1.size).2.2
    walk_at "nm"
    ((with_reducible refine' Wb.ite ?wcx98 ?wtx98 ?wfx98); (case wcx98 => walk_at "evp"); (case' wfx98 => intro hbZ; walk_at "nm"); (case' wtx98 => intro hbZ; walk_at "nm"))
    · rename (lt = 0 ∨ lt = 1) ∧ (rt = 0 ∨ rt = 1) => hv
      have v1 := T.is_v in1 q1 hv.1
      have v2 := T.is_v in2 q2 hv.2
      have o1 := v1.1
      have o2 := v2.1
      ((with_reducible refine' Wb.asg ?wcx99 ?wkx99 ?wlx99 ?wex99); (case wlx99 => rfl); (case wex99 => rfl); (case wcx99 => walk_at "ev"); (case' wkx99 => walk_at "nm"))
      ((with_reducible refine' Wb.asg ?wcx100 ?wkx100 ?wlx100 ?wex100); (case wlx100 => rfl); (case wex100 => rfl); (case wcx100 => walk_at "ev"); (case' wkx100 => walk_at "nm"))
      ((with_reducible refine' Wb.ite ?wcx101 ?wtx101 ?wfx101); (case wcx101 => walk_at "evp"); (case' wfx101 => intro hbZ; walk_at "nm"); (case' wtx101 => intro hbZ; walk_at "nm"))
      · rename kget (mpDat st.fd) la = none ∧ kget (mpDat st.bd) ra = none => z
        have z1 := mp_none.mp z.1
        have z2 := mp_none.mp z.2
        ((with_reducible refine' Wb.setD ?s1x102 ?s2x102 ?s3x102 ?s4x102 ?s5x102 ?wkx102 ?s6x102); (case s6x102 => k_dflt rfl); (case s1x102 => walk_at "ev"); (case s2x102 => walk_at "ev"); (case s3x102 => walk_at "ev"); (case s4x102 => k_dflt (walk_at "put")); (case s5x102 => assumption); (case' wkx102 => walk_at "nm"))
        ((with_reducible refine' Wb.setD ?s1x103 ?s2x103 ?s3x103 ?s4x103 ?s5x103 ?wkx103 ?s6x103); (case s6x103 => k_dflt rfl); (case s1x103 => walk_at "ev"); (case s2x103 => walk_at "ev"); (case s3x103 => walk_at "ev"); (case s4x103 => k_dflt (walk_at "put")); (case s5x103 => assumption); (case' wkx103 => walk_at "nm"))
        rw [mpDat_put z1, mpDat_put z2]
        exact PEnds.turn hT (hi.new v1.2 v2.2 z1 z2) size_less ⟨rfl, rfl, rfl, rfl, rfl, trivial⟩ (List.Sublist.refl _)
      · rename ¬ (kget (mpDat st.fd) la = none ∧ kget (mpDat st.bd) ra = none) => z
        (with_reducible refine' Wb.ite (EvP.or2 ?c1 (fun y => EvP.cmp (Ev.itD ?c2 ?c3 ?c4 ?c5 (mp_some y)) ?c6 Cm.neI rfl)) (fun y => ?c7) (fun y => ?c8))
        case c4 => intro _ _ _; rfl
        case c1 => walk_at "evp"
        case c2 => walk_at "ev"
        case c3 => walk_at "ev"
        case c5 => walk_at "mem"
        case c6 => walk_at "ev"
        case c7 =>
          walk_at "nm"
          ((with_reducible refine' Wb.ret (by assumption) ?wcx104 ?wxx104); (case wcx104 => walk_at "ev"))
          rw [hi.bad v1.2 v2.2 (fun q => z ⟨mp_none.mpr q.1, mp_none.mpr q.2⟩) (mp_not y)]
        exact PEnds.turn hT (hi.old v1.2 v2.2 (mp_is y)) size_less ⟨rfl, rfl, rfl, rfl, rfl, trivial⟩ (List.Sublist.refl _)
    · rename ¬ ((lt = 0 ∨ lt = 1) ∧ (rt = 0 ∨ rt = 1)) => hv
      ((with_reducible refine' Wb.ite ?wcx105 ?wtx105 ?wfx105); (case wcx105 => walk_at "evp"); (case' wfx105 => intro hbZ; walk_at "nm"); (case' wtx105 => intro hbZ; walk_at "nm"))
      · rename (lt = 0 ∨ lt = 1) ∨ (rt = 0 ∨ rt = 1) => hu
        ((with_reducible refine' Wb.ret (by assumption) ?wcx106 ?wxx106); (case wcx106 => walk_at "ev"))
        rw [hi.no (ren_mixed in1 q1 in2 q2 hv hu)]
      · rename ¬ ((lt = 0 ∨ lt = 1) ∨ (rt = 0 ∨ rt = 1)) => hu
        ((with_reducible refine' Wb.ite ?wcx107 ?wtx107 ?wfx107); (case wcx107 => walk_at "evp"); (case' wfx107 => intro hbZ; walk_at "nm"); (case' wtx107 => intro hbZ; walk_at "nm"))
        · rename lt = 2 ∨ lt = 3 => hlc
          (with_reducible refine' Wb.ite (EvP.or2 ?d1 (fun y => ?d2)) (fun y => ?d3) (fun y => ?d4))
          case d1 => walk_at "evp"
          case d2 =>
            have hrc := Decidable.not_not.mp y
            walk_at "evp"
          case d3 =>
            walk_at "nm"
            ((with_reducible refine' Wb.ret (by assumption) ?wcx108 ?wxx108); (case wcx108 => walk_at "ev"))
            rw [hi.no (ren_shape in1 q1 in2 q2 hlc y)]
          have y1 := Decidable.not_not.mp fun z => y (.inl z)
          have y2 := Decidable.not_not.mp fun z => y (.inr z)
          refine comp_two fk hz in1 q1 in2 q2 hlc y1 y2.2 fun f l l' e1 e2 s => ?_
          have hF := hi.fresh s e1
          walk_at "nm"
          ((with_reducible refine' Wb.iteF ?wcx109 ?wex109 ?wtx109 ?wfx109); (case wex109 => k_dflt rfl); (case wcx109 => walk_at "ef"); (case' wfx109 => intro aZ _ hbZ; walk_at "nm"); (case' wtx109 => intro aZ _ hbZ; walk_at "nm"))
          · rename Nat => n'
            rename n' ≤ _ => hn'
            ((with_reducible refine' Wb.expr ?wex110 ?wnx110 ?wkx110 ?w1x110); (case w1x110 => k_dflt rfl); (case wex110 => walk_at "ef"); (case wnx110 => intro _; k_dflt rfl); (case' wkx110 => intro _ _; walk_at "nm"))
            exact PEnds.turn hT (hi.push s e1 e2 hn') (push_less e1 s.ll) ⟨rfl, rfl, rfl, rfl, rfl, trivial⟩ (List.Sublist.refl _)
          · rename true = false => z
            cases z
        · rename ¬ (lt = 2 ∨ lt = 3) => hlc
          have e := ren_cell (m := (st.fd, st.bd)) in1 q1 q2 hu hlc
          ((with_reducible refine' Wb.ite ?wcx111 ?wtx111 ?wfx111); (case wcx111 => walk_at "evp"); (case' wfx111 => intro hbZ; walk_at "nm"); (case' wtx111 => intro hbZ; walk_at "nm"))
          · rename ¬ (lt = rt ∧ la = ra) => q
            ((with_reducible refine' Wb.ret (by assumption) ?wcx112 ?wxx112); (case wcx112 => walk_at "ev"))
            rw [hi.no (e.trans (if_neg q))]
          · rename ¬ ¬ (lt = rt ∧ la = ra) => q
            exact PEnds.turn hT (hi.same (e.trans (if_pos (Decidable.not_not.mp q)))) size_less ⟨rfl, rfl, rfl, rfl, rfl, trivial⟩ (List.Sublist.refl _)
end
end
section
section
variable {prog : Program} {w : World} {B : Heap} {mu : List Addr} {sc : Scope} {k : Nat} {C : Cx prog w B mu sc k} {n N : NL} {P : PL} {ss body : List Stmt} {R R' : Flow → Shared → Prop} {p1 p2 p3 p4 p5 p6 : Pos} {k1 : Nat}
variable {σ : Type} {Q : σ → PL} {HH : SW → σ → Prop} {wk : Addr} {m : Nat} {W : SW} {st : σ} {X : AV → PL → Prop}
noncomputable def SEnds (C : Cx prog w B mu sc k) (N : NL) (wk : Addr) (Q : σ → PL) (HH : SW → σ → Prop) (m : Nat) (R : Flow → Shared → Prop) : Prop := ∀ W st {D s}, HH W st → sizeS W < m → C.S N ((wk, true, .ldat (encS W)) :: Q st) D s → R .next s ∧ R .cont s
theorem SEnds.turn (hT : SEnds C N wk Q HH m R) (h : HH W st) (hm : sizeS W < m) (hn : NSub N n) (hP : ((wk, true, Tr.ldat (encS W)) :: Q st).Sublist P) : Wb C n P [] R := fun _ _ S => wpAny_execs_nil (hT W st h hm (S.sub hn hP)).1
theorem single_loop {W0 : SW} {st0 : σ} (hR : Rets C X R) (h0 : HH W0 st0) (w1 : N.lookup (Str.ofString "work") = some (.r wk)) (w2 : sc.names.lookup (Str.ofString "work") = some .local) (b : Blt w sc "len" (.builtin "len"))
    (hsm : ∀ W st, HH W st → sizeS W < 4000) (hn : NSub N n) (hP : ((wk, true, Tr.ldat (encS W0)) :: Q st0).Sublist P)
    (hb : ∀ (R' : Flow → Shared → Prop) W st c t1, Rets C X R' → SEnds C N wk Q HH (t1.size + sizeS W) R' → HH ((c, t1) :: W) st → Wb C N ((wk, true, .ldat (encS W ++ [cdp c])) :: Q st) body R')
    (hd : ∀ st, HH [] st → Wb C N ((wk, true, .ldat []) :: Q st) ss R) :
    Wb C n P (.While (.Compare (.Call (.Name "len" p1) [.Name "work" p2] [] p3) [.Gt] [.Constant (.int 0) k1 p4] p5) body [] p6 :: ss) R := by
  refine Wb.whl (ι := SW × σ) (N := fun _ => N) (PP := fun i => (wk, true, Tr.ldat (encS i.1)) :: Q i.2) (H := fun i => HH i.1 i.2) (μ := fun i => sizeS i.1) (pp := fun i => (0 : Int) < ((encS i.1).length : Int)) hR (W0, st0) h0 hn hP (fun i hi => ?_) (fun R' i hR' hT hi hp => ?_) (fun i hi hp => ?_)
  · refine EvP.cmp (Ev.lenL b (Ev.name w1 w2 rfl) rfl (.head _) ?_) Ev.int Cm.gtI rfl
    have := len_sizeS i.1
    have := hsm _ _ hi
    rw [encS_length]; walk_at "o"
  · obtain ⟨W, st⟩ := i
    have hT : SEnds C N wk Q HH (sizeS W) R' := fun W' st' D s h1 h2 S => hT (W', st') ⟨h1, h2⟩ S
    cases W with
    | nil => exact absurd hp (by simp [encS])
    | cons e W => exact hb R' W st e.1 e.2 hR' hT hi
  · obtain ⟨W, st⟩ := i
    cases W with
    | cons e W => exact absurd (by simp [encS]) hp
    | nil => exact hd st hi
end
section
variable {prog : Program} {w : World} {B : Heap}
variable {x dx H sy dsy ST TR TX AN FU FN wk : Addr} {mh hb bb : Tok} {cs fs : List (Int × Int)} {t t1 : T} {c : Int × Int} {W : SW} {lt la : Int}
local macro_rules | `(tactic| walk_at "spc") => `(tactic| with_reducible first | (refine' deref_to (by assumption) ?_ ?_ ?_ ?_) | fail "spc")
theorem globalise_fn {t a lt la : Int} (G : Gr (KK w.params) B) (wf : WF cs) (ok : CellOk cs (t, a)) (hz : cs.length < 2 ^ 20) (hd : derefF cs (t, a) = (lt, la)) (n1 : lt ≠ 1) :
    PFn prog w B 2 (stP x dx H sy ST TR mh hb bb false cs) 257 [.r x, .d (cd t a)] (.d (cd lt la)) := by
  refine' (PFn.of (n := [("cell", .d (cd t a)), ("self", .r x)]) G is_257 (by rfl) (by rfl) fun C R hR hE => ?_)
  walk_at "nm"
  ((with_reducible refine' Wb.asg ?wcx113 ?wkx113 ?wlx113 ?wex113); (case wlx113 => rfl); (case wex113 => rfl); (case wcx113 => walk_at "ev"); (case' wkx113 => walk_at "nm"))
  ((with_reducible refine' Wb.ite ?wcx114 ?wtx114 ?wfx114); (case wcx114 => walk_at "evp"); (case' wfx114 => intro hbZ; walk_at "nm"); (case' wtx114 => intro hbZ; walk_at "nm"))
  · exact absurd ‹lt = 1› n1
  · ((with_reducible refine' Wb.ret (by assumption) ?wcx115 ?wxx115); (case wcx115 => walk_at "ev"))
    rfl
theorem glob2_fn {ct ca : Int} (G : Gr (KK w.params) B) (h : Here cs (ct, ca) t) (wf : WF cs) (hz : cs.length < 2 ^ 19) : PFn prog w B 2 (stP x dx H sy ST TR mh hb bb false cs) 257 [.r x, .d (cd ct ca)] (.d (cdp t.cell)) :=
  globalise_fn G wf h.ok (by walk_at "o") h.eq (by have := T.tags (x := t.cell.1) (y := t.cell.2) h.is rfl; walk_at "o")
structure NS where
  F : Int → Bool
  k : Nat
  N : Int → Bool
  nn : Nat
  vs : List Int
structure NH (cs : List (Int × Int)) (t : T) (W : SW) (st : NS) : Prop where
  hh : ∀ e ∈ W, Here cs e.1 e.2
  va : ∀ k, (k ∈ st.vs ∨ k ∈ varsS W) ↔ k ∈ t.vars
  hN : ∀ k, st.N k = true ↔ k ∈ st.vs
  fr : FreshS st.F (addrsS W)
  n : st.k + sizeS W ≤ t.size
  n2 : st.nn + sizeS W ≤ t.size
  n3 : st.vs.length + sizeS W ≤ t.size
variable {st : NS}
theorem NH.small (h : NH cs t ((c, t1) :: W) st) (hs : t.size ≤ 900) : (sizeS W < 4000 ∧ (encS W).length < 2 ^ 20) ∧ (st.k < 4000 ∧ st.nn < 4000) ∧ (st.vs.map (cd 0)).length < 2 ^ 20 := by
  have h1 := h.n
  have h2 := h.n2
  have h3 := h.n3
  have := len_sizeS W
  simp only [sizeS] at h1 h2 h3
  rw [encS_length, List.length_map]
  walk_at "o"
theorem NH.to {N : Int → Bool} {nn : Nat} {vs : List Int} (h : NH cs t ((c, t1) :: W) st) (hv : ∀ k, (k ∈ vs ∨ k ∈ varsS W) ↔ (k ∈ st.vs ∨ k ∈ t1.vars ++ varsS W)) (hN : ∀ k, N k = true ↔ k ∈ vs) (l1 : nn ≤ st.nn + 1) (l2 : vs.length ≤ st.vs.length + 1) : NH cs t W ⟨st.F, st.k, N, nn, vs⟩ := by
  have h1 := h.n
  have h2 := h.n2
  have h3 := h.n3
  have h4 := h.fr
  simp only [sizeS] at h1 h2 h3
  simp only [addrsS] at h4
  have h6 := t1.size_pos
  exact ⟨fun e he => h.hh e (.tail _ he), fun k => (hv k).trans (h.va k), hN, h4.drop, by dsimp only; walk_at "o", by dsimp only; walk_at "o", by dsimp only; walk_at "o"⟩
theorem NH.same (h : NH cs t ((c, t1) :: W) st) (e : ∀ k ∈ t1.vars, k ∈ st.vs) : NH cs t W st :=
  h.to (fun k => ⟨fun z => z.imp id fun z => List.mem_append.mpr (.inr z), fun z => z.elim .inl fun z => (List.mem_append.mp z).elim (fun z => .inl (e k z)) .inr⟩) h.hN (Nat.le_succ _) (Nat.le_succ _)
theorem NH.new (h : NH cs t ((c, t1) :: W) st) (e : t1 = .v la) (q : st.N la = false) : NH cs t W ⟨st.F, st.k, (fun k' => st.N k' || decide (k' = la)), (if st.N la = true then st.nn else st.nn + 1), st.vs ++ [la]⟩ :=
  h.to (fun k => by rw [e]; simp only [T.vars, List.mem_append, List.mem_singleton, or_assoc]) (fun k => by simp only [Bool.or_eq_true, h.hN, decide_eq_true_eq, List.mem_append, List.mem_singleton]) (by rw [q]; exact Nat.le_refl _) (by rw [List.length_append]; exact Nat.le_refl _)
structure OneS (cs fs : List (Int × Int)) (lt la : Int) (l : Ts) : Prop where
  hok : HeadOk cs fs (lt, la)
  hw : widthF cs fs (lt, la) = (l.len : Int)
  sg : Seg cs (baseF (lt, la)) l.len
  i1 : l.In cs (baseF (lt, la))
  l3 : 0 < l.len ∧ l.len < 4
theorem one_of (fk : FsOk fs) (hz : cs.length < 2 ^ 19) (h : t1.In cs) (e : t1.cell = (lt, la)) (c : lt = 2 ∨ lt = 3) {p : Prop} (k : ∀ f l, t1 = .s la f l → OneS cs fs lt la l → p) : p := by
  obtain ⟨f, l, rfl, rfl⟩ := T.comp h e c
  have hz' : cs.length < 2 ^ 20 := by walk_at "o"
  exact k f l rfl ⟨s_hok h fk hz', s_width h fk hz', s_seg h, s_in h, (s_form h).pos⟩
theorem NH.push {l : Ts} {f : Int} (h : NH cs t ((c, t1) :: W) st) (s : OneS cs fs lt la l) (e : t1 = .s la f l) : NH cs t (l.kids cs (baseF (lt, la)) ++ W) ⟨(fun k' => st.F k' || decide (k' = la)), (if st.F la = true then st.k else st.k + 1), st.N, st.nn, st.vs⟩ := by
  subst e
  have h1 := h.n
  have h2 := h.n2
  have h3 := h.n3
  have h4 := h.fr
  simp only [sizeS, T.size] at h1 h2 h3
  simp only [addrsS, T.addrs, List.cons_append] at h4
  have h6 := sizeS_push cs l (baseF (lt, la)) W
  exact ⟨hereS_push cs s.i1 fun e he => h.hh e (.tail _ he), fun k => by rw [← h.va k, varsS_push]; simp only [varsS, T.vars], h.hN, by rw [addrsS_push]; exact FreshS.add h4, by rw [h6]; dsimp only; split <;> walk_at "o", by rw [h6]; dsimp only; walk_at "o", by rw [h6]; dsimp only; walk_at "o"⟩
theorem kids_less {l : Ts} {f b : Int} (e : t1 = .s la f l) : sizeS (l.kids cs b ++ W) < t1.size + sizeS W := by rw [sizeS_push, e, T.size]; walk_at "o"
theorem sizeS_less : sizeS W < t1.size + sizeS W := by have := t1.size_pos; walk_at "o"
theorem vars_none (h : t1.In cs) (e : t1.cell = (lt, la)) (v : ¬ lt = 0) (c : ¬ (lt = 2 ∨ lt = 3)) : t1.vars = [] := by
  cases t1 with
  | k u a => rfl
  | v a => cases e; exact absurd rfl v
  | s a f l => cases e; exact absurd (tag_c f) c
theorem NH.once (h : NH cs t ((c, t1) :: W) st) (e : t1.cell = (lt, la)) (v : ¬ lt = 0) (y : ¬ ((lt = 2 ∨ lt = 3) ∧ st.F la = false)) : ∀ k ∈ t1.vars, k ∈ st.vs := by
  by_cases c2 : lt = 2 ∨ lt = 3
  · obtain ⟨f, l, rfl, rfl⟩ := T.comp (h.hh _ (.head _)).is e c2
    exact absurd ⟨c2, h.fr.no la (List.mem_append.mpr (.inl (by simp only [T.addrs]; exact .head _)))⟩ y
  · rw [vars_none (h.hh _ (.head _)).is e v c2]; exact fun k hk => nomatch hk
theorem pushS_fn {l : Ts} (G : Gr (KK w.params) B) (s : OneS cs fs lt la l) (hz : cs.length < 2 ^ 19) (hs : sizeS W < 4000) :
    EFn prog w B 3 [wk] ((wk, true, .ldat (encS W)) :: stSyP x dx H sy ST TR mh hb bb false cs dsy TX AN FU FN fs) 410 [.r x, .d (cd lt la), .r wk] (ι := Unit) (fun _ => True) (fun _ => .d .none) (fun _ => [(wk, .ldat (encS (l.kids cs (baseF (lt, la)) ++ W)))]) (fun _ => []) := by
  rw [encS_push cs l _ W]
  exact push_arguments_fn G s.hok s.hw s.sg (by have := s.l3; have := len_sizeS W; rw [encS_length]; walk_at "o") (by walk_at "o")
local macro_rules | `(tactic| walk_at "spc") => `(tactic| with_reducible first | (exact is_compound_fn (by assumption)) | (refine' glob2_fn (by assumption) ?_ ?_ ?_) | fail "spc")
local macro_rules | `(tactic| walk_at "spe") => `(tactic| with_reducible first | (refine' pushS_fn (by assumption) ?_ ?_ ?_) | fail "spe")
noncomputable abbrev nodP (mt nt fo : Addr) (R : PL) (st : NS) : PL := (mt, true, Tr.set st.F st.k) :: (nt, true, Tr.set st.N st.nn) :: (fo, true, Tr.ldat (st.vs.map (cd 0))) :: R
set_option maxHeartbeats 4000000 in
theorem variables_fn {ct ca : Int} (G : Gr (KK w.params) B) (wf : WF cs) (fk : FsOk fs) (h1 : Here cs (ct, ca) t) (hz : cs.length < 2 ^ 19) (ff : Fair 900 t) :
    EFn prog w B 4 [] (stSyP x dx H sy ST TR mh hb bb false cs dsy TX AN FU FN fs) 480 [.r x, .d (cd ct ca)] (ι := Addr × List Int) (fun i => (∀ k, k ∈ i.2 ↔ k ∈ t.vars) ∧ i.2.length ≤ 900) (fun i => .r i.1) (fun _ => []) (fun i => [(i.1, true, .ldat (i.2.map (cd 0)))]) := by
  refine' (EFn.of (n := [("cell", .d (cd ct ca)), ("store", .r x)]) G is_480 (by rfl) (by rfl) fun C R X hX hR hE => ?_)
  walk_at "nm"
  ((with_reducible refine' Wb.asgF ?wcx116 ?wkx116 ?wlx116 ?wex116); (case wlx116 => k_dflt rfl); (case wex116 => k_dflt rfl); (case wcx116 => walk_at "ef"); (case' wkx116 => intro aZ _; walk_at "nm"))
  rename Addr => fo
  ((with_reducible refine' Wb.asgF ?wcx117 ?wkx117 ?wlx117 ?wex117); (case wlx117 => k_dflt rfl); (case wex117 => k_dflt rfl); (case wcx117 => walk_at "ef"); (case' wkx117 => intro aZ _; walk_at "nm"))
  rename Addr => nt
  ((with_reducible refine' Wb.asgF ?wcx118 ?wkx118 ?wlx118 ?wex118); (case wlx118 => k_dflt rfl); (case wex118 => k_dflt rfl); (case wcx118 => walk_at "ef"); (case' wkx118 => intro aZ _; walk_at "nm"))
  rename Addr => mt
  ((with_reducible refine' Wb.asgF ?wcx119 ?wkx119 ?wlx119 ?wex119); (case wlx119 => k_dflt rfl); (case wex119 => k_dflt rfl); (case wcx119 => walk_at "ef"); (case' wkx119 => intro aZ _; walk_at "nm"))
  rename Addr => wk
  refine' single_loop (σ := NS) (HH := NH cs t) (Q := nodP mt nt fo (stSyP x dx H sy ST TR mh hb bb false cs dsy TX AN FU FN fs)) (N := [("work", .r wk), ("met", .r mt), ("noted", .r nt), ("found", .r fo), ("store", .r x)]) (W0 := [(t.cell, t)]) (st0 := ⟨(fun _ => false), 0, (fun _ => false), 0, []⟩) hR
    ⟨?q1, ?q2, ?q3, ?q4, ?q5, ?q6, ?q7⟩ rfl rfl ?pb (fun W st h => ?h1) ⟨rfl, rfl, rfl, rfl, rfl, trivial⟩ (List.Sublist.refl _) (fun R' W st c t1 hR' hT hi => ?qb) (fun st h => ?qd)
  case q1 => intro e he; rw [List.mem_singleton.mp he]; exact T.here h1.is rfl
  case q2 => simp [varsS]
  case q3 => simp
  case q4 => simp only [addrsS, List.append_nil]; exact ⟨ff.nd, fun _ _ => rfl⟩
  case q5 => exact Nat.le_of_eq (Nat.zero_add _)
  case q6 => exact Nat.le_of_eq (Nat.zero_add _)
  case q7 => exact Nat.le_of_eq (Nat.zero_add _)
  case pb => walk_at "blt"
  case h1 => have := h.n; have := ff.size; walk_at "o"
  case qd =>
    have h3 := h.n3
    have h4 := ff.size
    walk_at "nm"
    ((with_reducible refine' Wb.ret (by assumption) ?wcx120 ?wxx120); (case wcx120 => walk_at "ev"))
    exact hX (fo, st.vs) _ _ ⟨fun k => by rw [← h.va]; simp [varsS], by dsimp only; walk_at "o"⟩ rfl (fun q hq => nomatch hq) (.cons _ (.cons _ (.cons _ ((List.nil_sublist _).cons_cons _)))) (fun q hq => by rw [List.mem_singleton.mp hq]; exact ⟨rfl, fun z => nomatch z⟩)
  case qb =>
    have hsm := hi.small ff.size
    have hl := hsm.1.2
    have hss := hsm.1.1
    have hkk := hsm.2.1.1
    have hnn := hsm.2.1.2
    have hvl := hsm.2.2
    clear hsm
    have hz' : cs.length < 2 ^ 20 := by walk_at "o"
    have hh : Here cs c t1 := hi.hh _ (.head _)
    obtain ⟨⟨lt, la⟩, q1⟩ : ∃ y, t1.cell = y := ⟨_, rfl⟩
    walk_at "nm"
    with_reducible refine' Wb.asgF (Ef.meth1F ?o ?ef ?sp ?sel ?kk ?x ?d ?r2 ?g ?f ?t ?kp ?r1 ?r3) (fun _ _ => ?qk) ?wl ?we
    case sp => exact fun _ _ => deref_to (x := x) (dx := dx) (H := H) (sy := sy) (ST := ST) (TR := TR) (mh := mh) (hb := hb) (bb := bb) G wf hh.ok hz' (hh.eq.trans q1)
    case o => walk_at "ev"
    case ef => walk_at "ef"
    case sel => exact fun _ => by walk_at "sel"
    case kk => decide
    case x => walk_at "mem"
    case d => walk_at "mem"
    case r2 => rfl
    case g => k_is
    case f => k_is
    case t => k_is
    case kp => k_is
    case r1 => rfl
    case r3 => rfl
    case wl => rfl
    case we => rfl
    walk_at "nm"
    ((with_reducible refine' Wb.ite ?wcx121 ?wtx121 ?wfx121); (case wcx121 => walk_at "evp"); (case' wfx121 => intro hbZ; walk_at "nm"); (case' wtx121 => intro hbZ; walk_at "nm"))
    · rename lt = 0 => e0
      have v1 := T.is_v hh.is q1 (.inl e0)
      ((with_reducible refine' Wb.ite ?wcx122 ?wtx122 ?wfx122); (case wcx122 => walk_at "evp"); (case' wfx122 => intro hbZ; walk_at "nm"); (case' wtx122 => intro hbZ; walk_at "nm"))
      · rename st.N la = false => q
        ((with_reducible refine' Wb.expr ?wex123 ?wnx123 ?wkx123 ?w1x123); (case w1x123 => k_dflt rfl); (case wex123 => walk_at "ef"); (case wnx123 => intro _; k_dflt rfl); (case' wkx123 => intro _ _; walk_at "nm"))
        ((with_reducible refine' Wb.expr ?wex124 ?wnx124 ?wkx124 ?w1x124); (case w1x124 => k_dflt rfl); (case wex124 => walk_at "ef"); (case wnx124 => intro _; k_dflt rfl); (case' wkx124 => intro _ _; walk_at "nm"))
        refine SEnds.turn hT (hi.new v1.2 q) sizeS_less ⟨rfl, rfl, rfl, rfl, rfl, trivial⟩ ?_
        dsimp only [nodP]; rw [List.map_append, e0]; exact List.Sublist.refl _
      · rename ¬ st.N la = false => q
        exact SEnds.turn hT (hi.same fun k hk => by rw [v1.2] at hk; rw [List.mem_singleton.mp hk]; exact (hi.hN la).mp (Bool.not_eq_false _ ▸ q)) sizeS_less ⟨rfl, rfl, rfl, rfl, rfl, trivial⟩ (List.Sublist.refl _)
    · rename ¬ lt = 0 => e0
      ((with_reducible refine' Wb.ite ?wcx125 ?wtx125 ?wfx125); (case wcx125 => walk_at "evp"); (case' wfx125 => intro hbZ; walk_at "nm"); (case' wtx125 => intro hbZ; walk_at "nm"))
      · rename (lt = 2 ∨ lt = 3) ∧ _ => c
        refine one_of fk hz hh.is q1 c.1 fun f l e1 s => ?_
        ((with_reducible refine' Wb.expr ?wex126 ?wnx126 ?wkx126 ?w1x126); (case w1x126 => k_dflt rfl); (case wex126 => walk_at "ef"); (case wnx126 => intro _; k_dflt rfl); (case' wkx126 => intro _ _; walk_at "nm"))
        ((with_reducible refine' Wb.expr ?wex127 ?wnx127 ?wkx127 ?w1x127); (case w1x127 => k_dflt rfl); (case wex127 => walk_at "ef"); (case wnx127 => intro _; k_dflt rfl); (case' wkx127 => intro _ _; walk_at "nm"))
        exact SEnds.turn hT (hi.push s e1) (kids_less e1) ⟨rfl, rfl, rfl, rfl, rfl, trivial⟩ (List.Sublist.refl _)
      · rename ¬ ((lt = 2 ∨ lt = 3) ∧ _) => c
        exact SEnds.turn hT (hi.same (hi.once q1 e0 c)) sizeS_less ⟨rfl, rfl, rfl, rfl, rfl, trivial⟩ (List.Sublist.refl _)
end
end
section
section
variable {prog : Program} {w : World} {B : Heap}
variable {x dx H sy dsy ST TR TX AN FU FN : Addr} {mh hb bb : Tok} {cs fs : List (Int × Int)}
theorem take_more {vs : List Int} {i : Nat} {a : Int} (h : vs[i]? = some a) (k : Int) : k ∈ vs.take (i + 1) ↔ k ∈ vs.take i ∨ k = a := by
  rw [List.take_add_one, h]; simp
theorem cell_eqv {t t' : T} {cs : List (Int × Int)} {lt la rt ra : Int} (h : t.In cs) (h' : t'.In cs) (e : t.cell = (lt, la)) (e' : t'.cell = (rt, ra)) (nc : ¬ isC lt) : t.eqv t' = decide (lt = rt ∧ la = ra) := by
  by_cases q : lt = rt ∧ la = ra
  · have : t = t' := T.det h h' (by rw [e, e', q.1, q.2])
    rw [this, T.eqv_refl]; simp [q]
  · rw [eqv_no h h' e e' q (fun z => nc z.1)]; simp [q]
section
variable {fx : Int → Bool} {a f b g : Int} {u y : T} {l l' : Ts} {ch : Ch}
theorem fit_fx (h : fx a = true) : (T.v a).fit fx u ch = if (T.v a).eqv u then some ch else none := by simp only [T.fit]; rw [if_pos h]
theorem fit_new (h : fx a = false) (g : chget ch a = none) : (T.v a).fit fx u ch = some (ch ++ [(a, u)]) := by simp only [T.fit]; rw [if_neg (by rw [h]; exact Bool.false_ne_true), g]
theorem fit_old (h : fx a = false) (g : chget ch a = some y) : (T.v a).fit fx u ch = if y.eqv u then some ch else none := by simp only [T.fit]; rw [if_neg (by rw [h]; exact Bool.false_ne_true), g]
theorem fit_k : (T.k b a).fit fx u ch = if (T.k b a).eqv u then some ch else none := by simp only [T.fit]
theorem fit_s : (T.s a f l).fit fx (.s b g l') ch = if f = g then l.fit fx l' ch else none := by simp only [T.fit]
end
theorem chget_add {ch : Ch} {a c : Int} {u y : T} (h : chget (ch ++ [(a, u)]) c = some y) : chget ch c = some y ∨ y = u := by
  unfold chget at h ⊢
  rw [List.find?_append] at h
  cases q : ch.find? (fun e => e.1 = c) with
  | some z => rw [q] at h; left; exact h
  | none =>
    rw [q] at h
    simp only [Option.none_or, List.find?_cons, List.find?_nil] at h
    by_cases z : a = c
    · simp only [z, decide_true, Option.map_some, Option.some.injEq] at h; exact .inr h.symm
    · simp only [z, decide_false, Option.map_none] at h; cases h
structure US where
  F : Int → Bool
  k : Nat
  ch : Ch
structure UH (cs : List (Int × Int)) (t t' : T) (W : PW) (st : US) : Prop where
  hh : ∀ e ∈ W, Here cs e.1.1 e.1.2 ∧ Here cs e.2.1 e.2.2
  ff : ∀ e ∈ W, Fair 900 e.2.2
  cc : ∀ n y, chget st.ch n = some y → y.In cs ∧ Fair 900 y
  eq : fitP (fun k => decide (k ∈ t'.vars)) W st.ch = t.fit (fun k => decide (k ∈ t'.vars)) t' []
  fr : Fresh st.F ((cs.length : Int) + 1) (addrsP W)
  n : st.k + sizeP W ≤ t.size
  nc : st.ch.length + sizeP W ≤ t.size
section
variable {t t' t1 t2 y : T} {c c' : Int × Int} {lt la rt ra a : Int} {W : PW} {st : US} {ch : Ch}
theorem ch_none : kget (chDat ch) a = none ↔ chget ch a = none := by rw [chDat_get, Option.map_eq_none_iff]
theorem ch_some (h : ¬ kget (chDat ch) a = none) : chget ch a = some ((chget ch a).getD (.v 0)) := by
  rw [ch_none] at h
  cases q : chget ch a with
  | none => exact absurd q h
  | some y => rfl
theorem ch_dat (h : chget ch a = some y) : kget (chDat ch) a = some (cdp y.cell) := by rw [chDat_get, h]; rfl
theorem ch_len (h : ch.length < 1000) : (chDat ch).length < 1000 := by unfold chDat; rw [List.length_map]; exact h
theorem UH.eq' (h : UH cs t t' (((c, t1), (c', t2)) :: W) st) : (t1.fit (fun k => decide (k ∈ t'.vars)) t2 st.ch).bind (fun m => fitP (fun k => decide (k ∈ t'.vars)) W m) = t.fit (fun k => decide (k ∈ t'.vars)) t' [] := h.eq
theorem UH.no (h : UH cs t t' (((c, t1), (c', t2)) :: W) st) (e : t1.fit (fun k => decide (k ∈ t'.vars)) t2 st.ch = none) : (t.fit (fun k => decide (k ∈ t'.vars)) t' []).isSome = false := by rw [← h.eq', e]; rfl
theorem UH.to (h : UH cs t t' (((c, t1), (c', t2)) :: W) st) (e : t1.fit (fun k => decide (k ∈ t'.vars)) t2 st.ch = some ch) (hc : ∀ n y, chget ch n = some y → y.In cs ∧ Fair 900 y) (l1 : ch.length ≤ st.ch.length + 1) : UH cs t t' W ⟨st.F, st.k, ch⟩ := by
  have h1 := h.eq'
  rw [e] at h1
  have h2 := h.fr
  simp only [addrsP] at h2
  have h3 := h.n
  have h4 := h.nc
  simp only [sizeP] at h3 h4
  have h6 := t1.size_pos
  exact ⟨fun y hy => h.hh y (.tail _ hy), fun y hy => h.ff y (.tail _ hy), hc, h1, h2.drop, by dsimp only; walk_at "o", by dsimp only; walk_at "o"⟩
theorem UH.same (h : UH cs t t' (((c, t1), (c', t2)) :: W) st) (e : t1.fit (fun k => decide (k ∈ t'.vars)) t2 st.ch = some st.ch) : UH cs t t' W st := h.to e h.cc (Nat.le_succ _)
theorem UH.new (h : UH cs t t' (((c, t1), (c', t2)) :: W) st) (in2 : t2.In cs) (e1 : t1 = .v la) (hf : ¬ decide (la ∈ t'.vars) = true) (z : chget st.ch la = none) : UH cs t t' W ⟨st.F, st.k, st.ch ++ [(la, t2)]⟩ :=
  h.to (by rw [e1, fit_new (Bool.eq_false_iff.mpr hf) z]) (fun n y q => (chget_add q).elim (h.cc n y) fun q => q ▸ ⟨in2, h.ff _ (.head _)⟩) (by rw [List.length_append]; exact Nat.le_refl _)
theorem UH.small (h : UH cs t t' (((c, t1), (c', t2)) :: W) st) (hs : t.size ≤ 900) : (sizeP W < 4000 ∧ st.k < 4000) ∧ (chDat st.ch).length < 1000 := by
  have h1 := h.n
  have h2 := h.nc
  simp only [sizeP] at h1
  exact ⟨by walk_at "o", ch_len (by walk_at "o")⟩
theorem fit_fixed (in1 : t1.In cs) (q1 : t1.cell = (lt, la)) (in2 : t2.In cs) (q2 : t2.cell = (rt, ra)) (e1 : t1 = .v la) (o : lt = 0) {fx : Int → Bool} (hf : fx la = true) : t1.fit fx t2 ch = if lt = rt ∧ la = ra then some ch else none := by
  have ce := cell_eqv in1 in2 q1 q2 (by rw [o]; unfold isC; decide)
  rw [e1] at ce ⊢
  rw [fit_fx hf, ce]
  by_cases q : lt = rt ∧ la = ra
  · rw [decide_eq_true q, if_pos rfl, if_pos q]
  · rw [decide_eq_false q, if_neg Bool.false_ne_true, if_neg q]
theorem fit_cell (in1 : t1.In cs) (q1 : t1.cell = (lt, la)) (in2 : t2.In cs) (q2 : t2.cell = (rt, ra)) (v : ¬ (lt = 0 ∨ lt = 1)) (c1 : ¬ (lt = 2 ∨ lt = 3)) {fx : Int → Bool} : t1.fit fx t2 ch = if lt = rt ∧ la = ra then some ch else none := by
  have ce := cell_eqv in1 in2 q1 q2 c1
  rw [T.is_k in1 q1 v c1] at ce ⊢
  rw [fit_k, ce]
  by_cases q : lt = rt ∧ la = ra
  · rw [decide_eq_true q, if_pos rfl, if_pos q]
  · rw [decide_eq_false q, if_neg Bool.false_ne_true, if_neg q]
theorem fit_shape {fx : Int → Bool} (h : t1.In cs) (e : t1.cell = (lt, la)) (h' : t2.In cs) (e' : t2.cell = (rt, ra)) (c1 : lt = 2 ∨ lt = 3) (n : ¬ (rt = 2 ∨ rt = 3) ∨ ¬ (lt = rt ∧ headF cs (lt, la) = headF cs (rt, ra))) : t1.fit fx t2 ch = none := by
  obtain ⟨f, l, rfl, rfl⟩ := T.comp h e c1
  cases t2 with
  | v b => simp only [T.fit]
  | k u b => simp only [T.fit]
  | s b g l' =>
    cases e'
    rw [fit_s, if_neg]
    rintro rfl
    exact n.elim (fun n => n (tag_c f)) fun n => n ⟨rfl, by rw [s_head h, s_head h']⟩
section
variable {l l' : Ts} {f : Int}
theorem UH.fresh (h : UH cs t t' (((c, t1), (c', t2)) :: W) st) (s : PairS cs fs lt la rt ra l l') (e1 : t1 = .s la f l) : st.F (la * ((cs.length : Int) + 1) + ra) = false := by
  subst e1
  exact h.fr.no la (List.mem_append.mpr (.inl (by simp only [T.addrs]; exact .head _))) ra s.b2.1 s.b2.2
theorem UH.push {n' : Nat} (h : UH cs t t' (((c, t1), (c', t2)) :: W) st) (s : PairS cs fs lt la rt ra l l') (e1 : t1 = .s la f l) (e2 : t2 = .s ra f l') (hn : n' ≤ st.k + 1) :
    UH cs t t' (pairsOf cs l l' (baseF (lt, la)) (baseF (rt, ra)) ++ W) ⟨(fun k => st.F k || decide (k = la * ((cs.length : Int) + 1) + ra)), n', st.ch⟩ := by
  subst e1 e2
  have h1 := h.eq'
  have h2 := h.fr
  have h3 := h.n
  have h4 := h.nc
  rw [fit_s, if_pos rfl] at h1
  simp only [addrsP, T.addrs, List.cons_append] at h2
  simp only [sizeP, T.size] at h3 h4
  have h6 := sizeP_push cs l l' (baseF (lt, la)) (baseF (rt, ra)) W s.ll
  exact ⟨here_push cs s.i1 s.i2 fun e he => h.hh e (.tail _ he), Fair.right (h.ff _ (.head _)).sub fun e he => h.ff e (.tail _ he), h.cc, by rw [fitP_push cs _ _ _ _ _ _ _ s.ll]; exact h1, by rw [addrsP_push cs _ _ _ _ _ s.ll]; exact Fresh.add h2 s.b2.1 s.b2.2, by rw [h6]; dsimp only; walk_at "o", by rw [h6]; dsimp only; walk_at "o"⟩
end
theorem ident2_fn (G : Gr (KK w.params) B) (q2 : t2.cell = (rt, ra)) (wf : WF cs) (fk : FsOk fs) (iy : y.In cs ∧ Fair 900 y) (in2 : t2.In cs) (hz : cs.length < 2 ^ 19) :
    PFn prog w B 5 (stSyP x dx H sy ST TR mh hb bb false cs dsy TX AN FU FN fs) 473 [.r x, .d (cdp y.cell), .d (cd rt ra)] (.d (.bool (y.eqv t2))) :=
  identical_fn G wf fk (T.here iy.1 rfl) (T.here in2 q2) hz (by have := iy.2.size; walk_at "o") iy.2.nd
end
local macro_rules | `(tactic| walk_at "spc") => `(tactic| with_reducible first | (exact is_compound_fn (by assumption)) | (exact is_variable_fn (by assumption)) | (exact variable_number_fn (by assumption)) | (refine' vnum_fn (by assumption) ?_) | (refine' shape2_fn (by assumption) ?_ ?_ ?_ ?_ ?_ ?_ ?_ ?_) | (refine' ident2_fn (by assumption) ?_ ?_ ?_ ?_ ?_ ?_) | fail "spc")
local macro_rules | `(tactic| walk_at "spe") => `(tactic| with_reducible first | (refine' pairset2_fn (by assumption) ?_) | (refine' add2_fn (by assumption) ?_ ?_ ?_) | (refine' push2_fn (by assumption) ?_ ?_ ?_) | (refine' variables_fn (by assumption) ?_ ?_ ?_ ?_ ?_) | fail "spe")
noncomputable abbrev subQ (mt p dp co fx : Addr) (ts : Tok) (cs : List (Int × Int)) (N : Int → Bool) (nn : Nat) (R : PL) (st : US) : PL :=
  (mt, true, Tr.set st.F st.k) :: (p, true, Tr.is (IsInst 399 dp)) :: (dp, true, Tr.att (pairG ((cs.length : Int) + 1) ts mt) 2) :: (co, true, Tr.ddat (chDat st.ch)) :: (fx, true, Tr.set N nn) :: R
section
variable {t t' : T}
theorem subs_set {k : Nat} {sc : Scope} {C : Cx prog w B [] sc k} {R : Flow → Shared → Prop} {X : AV → PL → Prop} {fx x : Addr} {n : NL} {P P0 : PL} {px p1 p2 p3 p4 p5 p6 p7 : Pos} {ss : List Stmt} {a1 a2 : AV} {vs : List Int} {al : Addr} (G : Gr (KK w.params) B) (hk : 1 ≤ k) (hR : Rets C X R) (vl : vs.length ≤ 900)
    (hn : NSub [("general", a1), ("special", a2), ("fixed", .r fx), ("store", .r x)] n) (hP : ((al, true, Tr.ldat (vs.map (cd 0))) :: (fx, true, Tr.set (fun _ => false) 0) :: P0).Sublist P)
    (l1 : sc.names.lookup (Str.ofString "cell") = some .local) (l2 : sc.names.lookup (Str.ofString "fixed") = some .local) (l3 : sc.names.lookup (Str.ofString "variable_number") = some .globalImplicit) (hm : methE (.Name "fixed" p1) p2 [.Call (.Name "variable_number" p3) [.Name "cell" p4] [] p5] p6 = true)
    (kk : ∀ nn, Wb C [("general", a1), ("special", a2), ("fixed", .r fx), ("store", .r x)] ((fx, true, .set (fun k => decide (k ∈ vs)) nn) :: P0) ss R) :
    IterB C n P "cell" px (.r al) [.Expr (.Call (.Attribute (.Name "fixed" p1) "add" p2) [.Call (.Name "variable_number" p3) [.Name "cell" p4] [] p5] [] p6) p7] ss R := by
  refine IterB.list (ι := (Int → Bool) × Nat) (ds := vs.map (cd 0)) (N := fun _ _ => [("general", a1), ("special", a2), ("fixed", .r fx), ("store", .r x)]) (PP := fun i j => (al, true, Tr.ldat (vs.map (cd 0))) :: (fx, true, Tr.set j.1 j.2) :: P0)
    (H := fun i j => (∀ k, j.1 k = true ↔ k ∈ vs.take i) ∧ j.2 ≤ i) hR ((fun _ => false), 0) ⟨by simp, Nat.le_refl _⟩ (fun _ _ => .head _) hn hP (fun R' I i j d T hR' hT hd hj => ?_) (fun j hj => ?_) l1
  · rw [List.getElem?_map] at hd
    obtain ⟨a, ha, rfl⟩ := Option.map_eq_some_iff.mp hd
    have hi := (List.getElem?_eq_some_iff.mp ha).1
    have hj2 := hj.2
    refine' Wb.expr (Ef.add (Ev.name (by exact rfl) l2 rfl) (Ev.call (.cons (Ev.name (by exact rfl) l1 rfl) .nil rfl) (variable_number_fn G) ?sel hk ?f ?kp l3 rfl) hm rfl (.tail (.tail .head)) (by walk_at "o")) (fun _ => rfl) (fun _ _ => ?_) rfl
    case sel => walk_at "sel"
    case f => k_is
    case kp => k_is
    refine Wb.turn hT ((fun k' => j.1 k' || decide (k' = a)), (if j.1 a = true then j.2 else j.2 + 1)) ⟨fun k => ?_, ?_⟩ ⟨rfl, rfl, rfl, rfl, trivial⟩ (List.Sublist.refl _)
    · rw [take_more ha, ← hj.1]; simp
    · dsimp only; split <;> walk_at "o"
  · have e : j.1 = fun k => decide (k ∈ vs) := funext fun k => Bool.eq_iff_iff.mpr (by rw [hj.1, List.length_map, List.take_length]; simp)
    rw [e]
    exact Wb.less (n := [("general", a1), ("special", a2), ("fixed", .r fx), ("store", .r x)]) ⟨rfl, rfl, rfl, rfl, trivial⟩ (List.sublist_cons_self _ _) (kk j.2)
set_option maxHeartbeats 4000000 in
theorem subsumes_fn {ct ca dt da : Int} (G : Gr (KK w.params) B) (wf : WF cs) (fk : FsOk fs) (h1 : Here cs (ct, ca) t) (h2 : Here cs (dt, da) t') (hz : cs.length < 2 ^ 19) (f1 : Fair 900 t) (f2 : Fair 900 t') :
    PFn prog w B 6 (stSyP x dx H sy ST TR mh hb bb false cs dsy TX AN FU FN fs) 501 [.r x, .d (cd ct ca), .d (cd dt da)] (.d (.bool (t.fit (fun k => decide (k ∈ t'.vars)) t' []).isSome)) := by
  refine' (PFn.of (n := [("special", .d (cd dt da)), ("general", .d (cd ct ca)), ("store", .r x)]) G is_501 (by rfl) (by rfl) fun C R hR hE => ?_)
  walk_at "nm"
  ((with_reducible refine' Wb.asgF ?wcx128 ?wkx128 ?wlx128 ?wex128); (case wlx128 => k_dflt rfl); (case wex128 => k_dflt rfl); (case wcx128 => walk_at "ef"); (case' wkx128 => intro aZ _; walk_at "nm"))
  rename Addr => fx
  refine' Wb.forF (va := fun i : Addr × List Int => .r i.1) (H := fun i => (∀ k, k ∈ i.2 ↔ k ∈ t'.vars) ∧ i.2.length ≤ 900) ?qf (fun i hi => ?qi) (fun _ => rfl)
  case qf => walk_at "ef"
  have hvs := hi.1
  have hvl := hi.2
  clear hi
  generalize i.1 = al, i.2 = vs at *
  dsimp only [List.append_eq, List.cons_append, List.nil_append]
  refine subs_set G (by decide) hR hvl ⟨rfl, rfl, rfl, rfl, trivial⟩ (List.Sublist.refl _) rfl rfl rfl rfl fun nn => ?_
  have eN : (fun k => decide (k ∈ vs)) = fun k => decide (k ∈ t'.vars) := funext fun k => decide_eq_decide.mpr (hvs k)
  rw [eN]
  clear eN hvs hvl vs
  walk_at "nm"
  ((with_reducible refine' Wb.asgF ?wcx129 ?wkx129 ?wlx129 ?wex129); (case wlx129 => k_dflt rfl); (case wex129 => k_dflt rfl); (case wcx129 => walk_at "ef"); (case' wkx129 => intro aZ _; walk_at "nm"))
  rename Addr => co
  ((with_reducible refine' Wb.asgF ?wcx130 ?wkx130 ?wlx130 ?wex130); (case wlx130 => k_dflt rfl); (case wex130 => k_dflt rfl); (case wcx130 => walk_at "ef"); (case' wkx130 => intro aZ _; walk_at "nm"))
  rename (Tok × Addr) × Addr × Addr => pi
  generalize pi.1.1 = ts, pi.1.2 = mt, pi.2.1 = p, pi.2.2 = dp
  ((with_reducible refine' Wb.asgF ?wcx131 ?wkx131 ?wlx131 ?wex131); (case wlx131 => k_dflt rfl); (case wex131 => k_dflt rfl); (case wcx131 => walk_at "ef"); (case' wkx131 => intro aZ _; walk_at "nm"))
  rename Addr => wk
  dsimp only [List.append_eq, List.cons_append, List.nil_append]
  refine' pairs_loop (σ := US) (HH := UH cs t t') (Q := subQ mt p dp co fx ts cs (fun k => decide (k ∈ t'.vars)) nn (stSyP x dx H sy ST TR mh hb bb false cs dsy TX AN FU FN fs)) (N := [("work", .r wk), ("met", .r p), ("chosen", .r co), ("fixed", .r fx), ("store", .r x)]) (W0 := [(((ct, ca), t), ((dt, da), t'))]) (st0 := ⟨(fun _ => false), 0, []⟩) G wf ?z ?k hR
    ⟨?q1, ?q2, ?q3, ?q4, ?q5, ?q6, ?q7⟩ ⟨rfl, rfl, rfl, rfl, rfl, rfl, ?pb⟩ (fun _ => ?px) (fun _ => ?pd) (fun _ => ?ps) (fun W st h => ⟨?h1, h.hh⟩) ⟨rfl, rfl, rfl, rfl, rfl, trivial⟩ ?pp (fun _ _ _ _ => ⟨rfl, rfl, rfl, rfl, rfl, trivial⟩) (fun R' W st c c' t1 t2 lt la rt ra hR' hT hi in1 q1 in2 q2 => ?qb) (fun st h => ?qd) rfl rfl rfl
  case z => omega
  case k => decide
  case pp => exact List.Sublist.refl _
  case q1 => intro e he; rw [List.mem_singleton.mp he]; exact ⟨h1, h2⟩
  case q2 => intro e he; rw [List.mem_singleton.mp he]; exact f2
  case q3 => intro c y hc; cases hc
  case q4 => simp [fitP]
  case q5 => simp only [addrsP, List.append_nil]; exact .start f1.nd
  case q6 => exact Nat.le_of_eq (Nat.zero_add _)
  case q7 => exact Nat.le_of_eq (Nat.zero_add _)
  case pb => walk_at "blt"
  case px => walk_at "mem"
  case pd => walk_at "mem"
  case ps => walk_at "sel"
  case h1 => have := h.n; have := f1.size; walk_at "o"
  case qd =>
    walk_at "nm"
    ((with_reducible refine' Wb.ret (by assumption) ?wcx132 ?wxx132); (case wcx132 => walk_at "ev"))
    rw [← h.eq]; rfl
  case qb =>
    have hsm := (hi.small f1.size).1.1
    have hkk := (hi.small f1.size).1.2
    have hcl := (hi.small f1.size).2
    walk_at "nm"
    ((with_reducible refine' Wb.ite ?wcx133 ?wtx133 ?wfx133); (case wcx133 => walk_at "evp"); (case' wfx133 => intro hbZ; walk_at "nm"); (case' wtx133 => intro hbZ; walk_at "nm"))
    · rename lt = 0 ∨ lt = 1 => hv
      have v1 := T.is_v in1 q1 hv
      have o1 := v1.1
      ((with_reducible refine' Wb.asg ?wcx134 ?wkx134 ?wlx134 ?wex134); (case wlx134 => rfl); (case wex134 => rfl); (case wcx134 => walk_at "ev"); (case' wkx134 => walk_at "nm"))
      ((with_reducible refine' Wb.ite ?wcx135 ?wtx135 ?wfx135); (case wcx135 => walk_at "evp"); (case' wfx135 => intro hbZ; walk_at "nm"); (case' wtx135 => intro hbZ; walk_at "nm"))
      · rename decide (la ∈ t'.vars) = true => hf
        have e := fit_fixed (ch := st.ch) (fx := fun k => decide (k ∈ t'.vars)) in1 q1 in2 q2 v1.2 o1 hf
        ((with_reducible refine' Wb.ite ?wcx136 ?wtx136 ?wfx136); (case wcx136 => walk_at "evp"); (case' wfx136 => intro hbZ; walk_at "nm"); (case' wtx136 => intro hbZ; walk_at "nm"))
        · rename ¬ (lt = rt ∧ la = ra) => q
          ((with_reducible refine' Wb.ret (by assumption) ?wcx137 ?wxx137); (case wcx137 => walk_at "ev"))
          rw [hi.no (e.trans (if_neg q))]
        · rename ¬ ¬ (lt = rt ∧ la = ra) => q
          exact PEnds.turn hT (hi.same (e.trans (if_pos (Decidable.not_not.mp q)))) size_less ⟨rfl, rfl, rfl, rfl, rfl, trivial⟩ (List.Sublist.refl _)
      · rename ¬ decide (la ∈ t'.vars) = true => hf
        ((with_reducible refine' Wb.ite ?wcx138 ?wtx138 ?wfx138); (case wcx138 => walk_at "evp"); (case' wfx138 => intro hbZ; walk_at "nm"); (case' wtx138 => intro hbZ; walk_at "nm"))
        · rename kget (chDat st.ch) la = none => z
          have z := ch_none.mp z
          ((with_reducible refine' Wb.setD ?s1x139 ?s2x139 ?s3x139 ?s4x139 ?s5x139 ?wkx139 ?s6x139); (case s6x139 => k_dflt rfl); (case s1x139 => walk_at "ev"); (case s2x139 => walk_at "ev"); (case s3x139 => walk_at "ev"); (case s4x139 => k_dflt (walk_at "put")); (case s5x139 => assumption); (case' wkx139 => walk_at "nm"))
          have ec := chDat_put (t := t2) z
          rw [q2] at ec
          rw [ec]
          exact PEnds.turn hT (hi.new in2 v1.2 hf z) size_less ⟨rfl, rfl, rfl, rfl, rfl, trivial⟩ (List.Sublist.refl _)
        · rename ¬ kget (chDat st.ch) la = none => z
          have z := ch_some z
          have iy := hi.cc _ _ z
          have hk := ch_dat z
          generalize (chget st.ch la).getD (.v 0) = y at z iy hk
          ((with_reducible refine' Wb.ite ?wcx140 ?wtx140 ?wfx140); (case wcx140 => walk_at "evp"); (case' wfx140 => intro hbZ; walk_at "nm"); (case' wtx140 => intro hbZ; walk_at "nm"))
          · rename ¬ y.eqv t2 = true => q
            ((with_reducible refine' Wb.ret (by assumption) ?wcx141 ?wxx141); (case wcx141 => walk_at "ev"))
            rw [hi.no (by rw [v1.2, fit_old (Bool.eq_false_iff.mpr hf) z]; exact if_neg q)]
          · rename ¬ ¬ y.eqv t2 = true => q
            exact PEnds.turn hT (hi.same (by rw [v1.2, fit_old (Bool.eq_false_iff.mpr hf) z]; exact if_pos (Decidable.not_not.mp q))) size_less ⟨rfl, rfl, rfl, rfl, rfl, trivial⟩ (List.Sublist.refl _)
    · rename ¬ (lt = 0 ∨ lt = 1) => hu
      ((with_reducible refine' Wb.ite ?wcx142 ?wtx142 ?wfx142); (case wcx142 => walk_at "evp"); (case' wfx142 => intro hbZ; walk_at "nm"); (case' wtx142 => intro hbZ; walk_at "nm"))
      · rename lt = 2 ∨ lt = 3 => hlc
        (with_reducible refine' Wb.ite (EvP.or2 ?d1 (fun y => ?d2)) (fun y => ?d3) (fun y => ?d4))
        case d1 => walk_at "evp"
        case d2 =>
          have hrc := Decidable.not_not.mp y
          walk_at "evp"
        case d3 =>
          walk_at "nm"
          ((with_reducible refine' Wb.ret (by assumption) ?wcx143 ?wxx143); (case wcx143 => walk_at "ev"))
          rw [hi.no (fit_shape in1 q1 in2 q2 hlc y)]
        have y1 := Decidable.not_not.mp fun z => y (.inl z)
        have y2 := Decidable.not_not.mp fun z => y (.inr z)
        refine comp_two fk hz in1 q1 in2 q2 hlc y1 y2.2 fun f l l' e1 e2 s => ?_
        have hF := hi.fresh s e1
        walk_at "nm"
        ((with_reducible refine' Wb.iteF ?wcx144 ?wex144 ?wtx144 ?wfx144); (case wex144 => k_dflt rfl); (case wcx144 => walk_at "ef"); (case' wfx144 => intro aZ _ hbZ; walk_at "nm"); (case' wtx144 => intro aZ _ hbZ; walk_at "nm"))
        · rename Nat => n'
          rename n' ≤ _ => hn'
          ((with_reducible refine' Wb.expr ?wex145 ?wnx145 ?wkx145 ?w1x145); (case w1x145 => k_dflt rfl); (case wex145 => walk_at "ef"); (case wnx145 => intro _; k_dflt rfl); (case' wkx145 => intro _ _; walk_at "nm"))
          exact PEnds.turn hT (hi.push s e1 e2 hn') (push_less e1 s.ll) ⟨rfl, rfl, rfl, rfl, rfl, trivial⟩ (List.Sublist.refl _)
        · rename true = false => z
          cases z
      · rename ¬ (lt = 2 ∨ lt = 3) => hlc
        have e := fit_cell (ch := st.ch) (fx := fun k => decide (k ∈ t'.vars)) in1 q1 in2 q2 hu hlc
        ((with_reducible refine' Wb.ite ?wcx146 ?wtx146 ?wfx146); (case wcx146 => walk_at "evp"); (case' wfx146 => intro hbZ; walk_at "nm"); (case' wtx146 => intro hbZ; walk_at "nm"))
        · rename ¬ (lt = rt ∧ la = ra) => q
          ((with_reducible refine' Wb.ret (by assumption) ?wcx147 ?wxx147); (case wcx147 => walk_at "ev"))
          rw [hi.no (e.trans (if_neg q))]
        · rename ¬ ¬ (lt = rt ∧ la = ra) => q
          exact PEnds.turn hT (hi.same (e.trans (if_pos (Decidable.not_not.mp q)))) size_less ⟨rfl, rfl, rfl, rfl, rfl, trivial⟩ (List.Sublist.refl _)
end
end
end
section
section
variable {prog : Program} {w : World} {B : Heap}
variable {x dx H sy dsy ST TR TX AN FU FN : Addr} {mh hb bb : Tok} {cs fs : List (Int × Int)}
theorem out1 {C : Cx prog w B [H] sc k} {X : AV → PL → Prop} {l : List (Int × Int)} {a : AV} {P' : PL} (hX : ∀ (i : Unit) P' a', True → a' = a → (∀ q ∈ [(H, Tr.ldat (l.map cdp))], ∃ b, (q.1, b, q.2) ∈ P') → [].Sublist P' → (∀ q ∈ ([] : PL), q.2.1 = true ∧ q.1 ∉ [H]) → X a' P')
    {a' : AV} (e : a' = a) (m : (H, true, Tr.ldat (l.map cdp)) ∈ P') : X a' P' := hX () P' a' trivial e (fun q hq => ⟨true, by rw [List.mem_singleton.mp hq]; exact m⟩) (List.nil_sublist _) (fun q hq => nomatch hq)
theorem push_fn {t a : Int} (G : Gr (KK w.params) B) (hz : cs.length < 100000) : EFn prog w B 1 [H] (stP x dx H sy ST TR mh hb bb true cs) 201 [.r x, .d (cd t a)] (ι := Unit) (fun _ => True) (fun _ => .d (.int cs.length)) (fun _ => [(H, .ldat ((cs ++ [(t, a)]).map cdp))]) (fun _ => []) := by
  refine' (EFn.of (n := [("cell", .d (cd t a)), ("self", .r x)]) G is_201 (by rfl) (by rfl) fun C R X hX hR hE => ?_)
  have hl : (cs.map cdp).length = cs.length := List.length_map ..
  walk_at "nm"
  ((with_reducible refine' Wb.asg ?wcx148 ?wkx148 ?wlx148 ?wex148); (case wlx148 => rfl); (case wex148 => rfl); (case wcx148 => walk_at "ev"); (case' wkx148 => walk_at "nm"))
  ((with_reducible refine' Wb.ite ?wcx149 ?wtx149 ?wfx149); (case wcx149 => walk_at "evp"); (case' wfx149 => intro hbZ; walk_at "nm"); (case' wtx149 => intro hbZ; walk_at "nm"))
  · exfalso; rename (100000 : Int) ≤ _ => h; walk_at "o"
  · ((with_reducible refine' Wb.expr ?wex150 ?wnx150 ?wkx150 ?w1x150); (case w1x150 => k_dflt rfl); (case wex150 => walk_at "ef"); (case wnx150 => intro _; k_dflt rfl); (case' wkx150 => intro _ _; walk_at "nm"))
    ((with_reducible refine' Wb.ret (by assumption) ?wcx151 ?wxx151); (case wcx151 => walk_at "ev"))
    exact out1 (C := C) hX (by rw [hl]) (by rw [List.map_append]; walk_at "mem")
local macro_rules | `(tactic| walk_at "spe") => `(tactic| with_reducible first | (refine' push_fn (by assumption) ?_) | fail "spe")
theorem new_var_fn (G : Gr (KK w.params) B) (hz : cs.length < 100000) : EFn prog w B 2 [H] (stP x dx H sy ST TR mh hb bb true cs) 208 [.r x] (ι := Unit) (fun _ => True) (fun _ => .d (cd 0 cs.length)) (fun _ => [(H, .ldat ((cs ++ [(0, (cs.length : Int))]).map cdp))]) (fun _ => []) := by
  refine' (EFn.of (n := [("self", .r x)]) G is_208 (by rfl) (by rfl) fun C R X hX hR hE => ?_)
  have hl : (cs.map cdp).length = cs.length := List.length_map ..
  walk_at "nm"
  ((with_reducible refine' Wb.asg ?wcx152 ?wkx152 ?wlx152 ?wex152); (case wlx152 => rfl); (case wex152 => rfl); (case wcx152 => walk_at "ev"); (case' wkx152 => walk_at "nm"))
  ((with_reducible refine' Wb.expr ?wex153 ?wnx153 ?wkx153 ?w1x153); (case w1x153 => k_dflt rfl); (case wex153 => walk_at "ef"); (case wnx153 => intro _; k_dflt rfl); (case' wkx153 => intro _ _; walk_at "nm"))
  ((with_reducible refine' Wb.ret (by assumption) ?wcx154 ?wxx154); (case wcx154 => walk_at "ev"))
  exact out1 (C := C) hX (by rw [hl]) (by rw [hl]; walk_at "mem")
noncomputable abbrev unb (L n : Nat) : List (Int × Int) := (List.range n).map fun (j : Nat) => ((0 : Int), (L : Int) + (j : Int))
theorem unb_more (L n : Nat) : unb L (n + 1) = unb L n ++ [(0, (L : Int) + n)] := by simp only [unb, List.range_succ, List.map_append, List.map_cons, List.map_nil]
theorem reserve_fn {n : Nat} (G : Gr (KK w.params) B) (hz : cs.length + n < 100000) : EFn prog w B 1 [H] (stP x dx H sy ST TR mh hb bb true cs) 215 [.r x, .d (.int n)] (ι := Unit) (fun _ => True) (fun _ => .d (.int cs.length)) (fun _ => [(H, .ldat ((cs ++ unb cs.length n).map cdp))]) (fun _ => []) := by
  refine' (EFn.of (n := [("count", .d (.int n)), ("self", .r x)]) G is_215 (by rfl) (by rfl) fun C R X hX hR hE => ?_)
  have hl : (cs.map cdp).length = cs.length := List.length_map ..
  walk_at "nm"
  ((with_reducible refine' Wb.asg ?wcx155 ?wkx155 ?wlx155 ?wex155); (case wlx155 => rfl); (case wex155 => rfl); (case wcx155 => walk_at "ev"); (case' wkx155 => walk_at "nm"))
  rw [hl]
  ((with_reducible refine' Wb.ite ?wcx156 ?wtx156 ?wfx156); (case wcx156 => walk_at "evp"); (case' wfx156 => intro hbZ; walk_at "nm"); (case' wtx156 => intro hbZ; walk_at "nm"))
  · exfalso; rename (100000 : Int) < _ => h; walk_at "o"
  have rg := rg_up n (by walk_at "o")
  refine' Wb.forR (ι := Unit) (N := fun _ _ => [("first", .d (.int cs.length)), ("self", .r x)]) (PP := fun i _ => stP x dx H sy ST TR mh hb bb true (cs ++ unb cs.length i)) (H := fun _ _ => True) (p0 := 0) (q0 := n) (c0 := 1) (nn := n) hR () trivial ?qe rg.1 rg.2 ⟨rfl, rfl, trivial⟩ ?qp (fun R' I i j T hR' hT hi _ => ?qb) (fun j _ => ?qd) rfl (fun _ => rfl)
  case qe => walk_at "ef"
  case qp => simp
  case qb =>
    walk_at "nm"
    have hl2 : ((cs ++ unb cs.length i).map cdp).length < 2 ^ 20 := by simp; walk_at "o"
    ((with_reducible refine' Wb.expr ?wex157 ?wnx157 ?wkx157 ?w1x157); (case w1x157 => k_dflt rfl); (case wex157 => walk_at "ef"); (case wnx157 => intro _; k_dflt rfl); (case' wkx157 => intro _ _; walk_at "nm"))
    refine Wb.turn hT () trivial ⟨rfl, rfl, trivial⟩ ?_
    have e : (cs.length : Int) + (0 + (i : Int) * 1) = cs.length + i := by walk_at "o"
    show List.Sublist (_ :: _ :: _ :: (H, true, Tr.ldat ((cs ++ unb cs.length (i + 1)).map cdp)) :: []) _
    have e2 : (cs ++ unb cs.length (i + 1)).map cdp = (cs ++ unb cs.length i).map cdp ++ [.tuple [.int 0, .int (cs.length + (0 + (i : Int) * 1))]] := by rw [e, unb_more, ← List.append_assoc, List.map_append]; rfl
    rw [e2]
    exact List.Sublist.refl _
  case qd =>
    walk_at "nm"
    ((with_reducible refine' Wb.ret (by assumption) ?wcx158 ?wxx158); (case wcx158 => walk_at "ev"))
    exact out1 (C := C) hX rfl (by walk_at "mem")
noncomputable def blk (L f : Int) (n : Nat) : List (Int × Int) := if f = 0 then (List.range n).map (fun (j : Nat) => ((0 : Int), L + (j : Int))) else (6, f) :: (List.range n).map (fun (j : Nat) => ((0 : Int), L + 1 + (j : Int)))
theorem blk_length (L f : Int) (n : Nat) : (blk L f n).length = if f = 0 then n else n + 1 := by unfold blk; split <;> simp
theorem set_blk (cs : List (Int × Int)) {f : Int} (f0 : ¬ f = 0) (n : Nat) :
    ((cs ++ unb cs.length (n + 1)).map cdp).set ((cs.length : Int)).toNat (cd 6 f) = (cs ++ blk cs.length f n).map cdp := by
  rw [Int.toNat_natCast, List.map_append, List.map_append, List.set_append_right _ _ (by rw [List.length_map]; exact Nat.le_refl _), List.length_map, Nat.sub_self]
  congr 1
  unfold blk
  rw [if_neg f0, unb, List.range_succ_eq_map]
  simp only [List.map_cons, List.set_cons_zero, List.map_map]
  congr 1
  apply List.map_congr_left
  intro j _
  have : (cs.length : Int) + ((j + 1 : Nat) : Int) = (cs.length : Int) + 1 + (j : Int) := by walk_at "o"
  simp only [Function.comp, cdp, this]
theorem reserve_to {i : Int} {n : Nat} (G : Gr (KK w.params) B) (hi : i = (n : Int)) (hz : cs.length + n < 100000) : EFn prog w B 1 [H] (stP x dx H sy ST TR mh hb bb true cs) 215 [.r x, .d (.int i)] (ι := Unit) (fun _ => True) (fun _ => .d (.int cs.length)) (fun _ => [(H, .ldat ((cs ++ unb cs.length n).map cdp))]) (fun _ => []) := hi ▸ reserve_fn G hz
local macro_rules | `(tactic| walk_at "spc") => `(tactic| with_reducible first | (refine' arity_fn (by assumption) ?_ ?_) | fail "spc")
local macro_rules | `(tactic| walk_at "spe") => `(tactic| with_reducible first | (refine' reserve_to (by assumption) ?_ ?_) | fail "spe")
theorem new_block_fn {f : Int} {n : Nat} (G : Gr (KK w.params) B) (hz : cs.length + n + 1 < 100000) (fm : Form f n) (fk : FsOk fs) :
    EFn prog w B 2 [H] (stSyP x dx H sy ST TR mh hb bb true cs dsy TX AN FU FN fs) 320 [.r x, .d (.int f)] (ι := Unit) (fun _ => True) (fun _ => .d (cd (tagOf f) cs.length)) (fun _ => [(H, .ldat ((cs ++ blk cs.length f n).map cdp))]) (fun _ => []) := by
  refine' (EFn.of (n := [("f", .d (.int f)), ("self", .r x)]) G is_320 (by rfl) (by rfl) fun C R X hX hR hE => ?_)
  walk_at "nm"
  ((with_reducible refine' Wb.ite ?wcx159 ?wtx159 ?wfx159); (case wcx159 => walk_at "evp"); (case' wfx159 => intro hbZ; walk_at "nm"); (case' wtx159 => intro hbZ; walk_at "nm"))
  · rename f = 0 => f0
    subst f0
    obtain rfl : n = 2 := by unfold Form at fm; walk_at "o"
    have hz2 : cs.length + 2 < 100000 := by walk_at "o"
    refine' Wb.retF hR (Ef.tup2F (dv := fun _ => .int cs.length) ?w1 ?w2 rfl) (fun i _ => ?w3)
    case w1 => walk_at "ev"
    case w2 =>
      have e2 : (2 : Int) = ((2 : Nat) : Int) := rfl
      walk_at "ef"
    case w3 => exact out1 (C := C) hX rfl (by walk_at "mem")
  · rename ¬ f = 0 => f0
    obtain ⟨f1, f2, p, f3, f4⟩ := fm.get fk
    have hf : 0 ≤ f ∧ f < 1000 := ⟨f1, f2⟩
    have ep : (1 : Int) + p.2 = ((n + 1 : Nat) : Int) := by walk_at "o"
    have hz2 : cs.length + (n + 1) < 100000 := by walk_at "o"
    ((with_reducible refine' Wb.asgF ?wcx160 ?wkx160 ?wlx160 ?wex160); (case wlx160 => k_dflt rfl); (case wex160 => k_dflt rfl); (case wcx160 => walk_at "ef"); (case' wkx160 => intro aZ _; walk_at "nm"))
    have hz3 : (cs.length : Int) < (((cs ++ unb cs.length (n + 1)).map cdp).length : Int) := by simp; walk_at "o"
    ((with_reducible refine' Wb.setL ?s1x161 ?s2x161 ?s3x161 ?s4x161 ?s5x161 ?s7x161 ?s8x161 ?wkx161 ?s6x161); (case s6x161 => k_dflt rfl); (case s1x161 => walk_at "ev"); (case s2x161 => walk_at "ev"); (case s3x161 => walk_at "ev"); (case s4x161 => k_dflt (walk_at "put")); (case s5x161 => k_dflt (first | with_reducible assumption | omega)); (case s7x161 => k_dflt (first | with_reducible assumption | omega)); (case s8x161 => k_dflt (walk_at "sz")); (case' wkx161 => walk_at "nm"))
    ((with_reducible refine' Wb.ret (by assumption) ?wcx162 ?wxx162); (case wcx162 => walk_at "ev"))
    exact out1 (C := C) hX (by unfold tagOf; rw [if_neg f0]) (by rw [← set_blk cs f0 n]; walk_at "mem")
end
end
section
mutual
noncomputable def T.Im (tb : Mp) : T → T → Prop
  | .v n, .v a => mget tb n = some a
  | .k t a, .k u b => t = u ∧ a = b
  | .s _ f l, .s _ g l' => f = g ∧ l.Im tb l'
  | .v _, .k _ _ => False
  | .v _, .s _ _ _ => False
  | .k _ _, .v _ => False
  | .k _ _, .s _ _ _ => False
  | .s _ _ _, .v _ => False
  | .s _ _ _, .k _ _ => False
noncomputable def Ts.Im (tb : Mp) : Ts → Ts → Prop
  | .nil, .nil => True
  | .cons t r, .cons t' r' => t.Im tb t' ∧ r.Im tb r'
  | .nil, .cons _ _ => False
  | .cons _ _, .nil => False
end
mutual
noncomputable def T.Law : T → Prop
  | .v _ => True
  | .k t a => (t = 4 ∧ a = 0) ∨ t = 5
  | .s _ f l => Form f l.len ∧ l.Law
noncomputable def Ts.Law : Ts → Prop
  | .nil => True
  | .cons t r => t.Law ∧ r.Law
end
theorem Ts.Im.len {tb : Mp} : ∀ {l l' : Ts}, l.Im tb l' → l.len = l'.len
  | .nil, .nil, _ => rfl
  | .cons _ r, .cons _ r', h => by simp only [Ts.Im] at h; simp only [Ts.len, h.2.len]
  | .nil, .cons _ _, h => by simp only [Ts.Im] at h
  | .cons _ _, .nil, h => by simp only [Ts.Im] at h
mutual
theorem T.Im.size {tb : Mp} : ∀ {t t' : T}, t.Im tb t' → t'.size = t.size
  | .v _, .v _, _ => rfl
  | .k _ _, .k _ _, _ => rfl
  | .s _ _ l, .s _ _ l', h => by simp only [T.Im] at h; simp only [T.size, h.2.size]
  | .v _, .k _ _, h => by simp only [T.Im] at h
  | .v _, .s _ _ _, h => by simp only [T.Im] at h
  | .k _ _, .v _, h => by simp only [T.Im] at h
  | .k _ _, .s _ _ _, h => by simp only [T.Im] at h
  | .s _ _ _, .v _, h => by simp only [T.Im] at h
  | .s _ _ _, .k _ _, h => by simp only [T.Im] at h
theorem Ts.Im.size {tb : Mp} : ∀ {l l' : Ts}, l.Im tb l' → l'.size = l.size
  | .nil, .nil, _ => rfl
  | .cons _ r, .cons _ r', h => by simp only [Ts.Im] at h; simp only [Ts.size, h.1.size, h.2.size]
  | .nil, .cons _ _, h => by simp only [Ts.Im] at h
  | .cons _ _, .nil, h => by simp only [Ts.Im] at h
end
noncomputable abbrev Pend := List (Int × Ts)
noncomputable def places : Pend → List Int
  | [] => []
  | e :: r => (List.range e.2.len).map (fun (j : Nat) => e.1 + (j : Int)) ++ places r
structure Later (cs : List (Int × Int)) (ps : List Int) (tb : Mp) (cs' : List (Int × Int)) (tb' : Mp) : Prop where
  len : cs.length ≤ cs'.length
  keep : ∀ i : Nat, i < cs.length → (i : Int) ∉ ps → cs'[i]? = cs[i]?
  tbs : ∀ n a, mget tb n = some a → mget tb' n = some a
  tok : ∀ n a, mget tb' n = some a → 0 ≤ a ∧ cs'[a.toNat]? = some (0, a)
inductive Filled (cs' : List (Int × Int)) (tb' : Mp) : Pend → List Ts → Prop
  | nil : Filled cs' tb' [] []
  | cons {b l l' r rs} : l.Im tb' l' → l'.In cs' b → Filled cs' tb' r rs → Filled cs' tb' ((b, l) :: r) (l' :: rs)
theorem Filled.split {cs' : List (Int × Int)} {tb' : Mp} : ∀ {q : Pend} {r : Pend} {ls : List Ts}, Filled cs' tb' (q ++ r) ls → ∃ l1 l2, ls = l1 ++ l2 ∧ Filled cs' tb' q l1 ∧ Filled cs' tb' r l2
  | [], r, ls, h => ⟨[], ls, rfl, .nil, h⟩
  | e :: q, r, ls, h => by
    cases h with
    | cons h1 h2 h3 =>
      obtain ⟨l1, l2, rfl, h4, h5⟩ := h3.split
      exact ⟨_ :: l1, l2, rfl, .cons h1 h2 h4, h5⟩
noncomputable def addrsL : List Ts → List Int
  | [] => []
  | l :: r => l.addrs ++ addrsL r
theorem addrsL_app : ∀ a b : List Ts, addrsL (a ++ b) = addrsL a ++ addrsL b
  | [], b => rfl
  | l :: r, b => by simp [addrsL, addrsL_app r b]
noncomputable def Promise (cs : List (Int × Int)) (tb : Mp) (pend : Pend) (A0 : List Int) (t : T) (c : Int × Int) : Prop :=
  ∀ cs' tb', Later cs (places pend) tb cs' tb' → ∀ ls, Filled cs' tb' pend ls → ∃ t', t.Im tb' t' ∧ t'.In cs' ∧ t'.cell = c ∧ t'.addrs.Perm (A0 ++ addrsL ls)
theorem Promise.step {cs cs1 : List (Int × Int)} {tb tb1 : Mp} {p : Int} {t0 t : T} {r : Ts} {Q new : Pend} {A0 X : List Int} {c : Int × Int} (P : Promise cs tb ((p, .cons t0 r) :: Q) A0 t c)
    (hl : ∀ cs' tb', Later cs1 (places ((p + 1, r) :: (Q ++ new))) tb1 cs' tb' → Later cs (places ((p, .cons t0 r) :: Q)) tb cs' tb')
    (hi : ∀ cs' tb', Later cs1 (places ((p + 1, r) :: (Q ++ new))) tb1 cs' tb' → ∀ ns, Filled cs' tb' new ns →
      ∃ t1, t0.Im tb' t1 ∧ (∃ c, cs'[p.toNat]? = some c ∧ CellOk cs' c ∧ derefF cs' c = t1.cell) ∧ t1.In cs' ∧ t1.addrs.Perm (X ++ addrsL ns)) :
    Promise cs1 tb1 ((p + 1, r) :: (Q ++ new)) (A0 ++ X) t c := by
  intro cs' tb' L ls F
  cases F with
  | cons h1 h2 h3 =>
    rename_i r' rs
    obtain ⟨lq, ns, rfl, h4, h5⟩ := h3.split
    obtain ⟨t1, i1, i2, i3, i4⟩ := hi cs' tb' L ns h5
    obtain ⟨t', j1, j2, j3, j4⟩ := P cs' tb' (hl cs' tb' L) ((.cons t1 r') :: lq) (.cons (by simp only [Ts.Im]; exact ⟨i1, h1⟩) (by simp only [Ts.In]; exact ⟨i2, i3, h2⟩) h4)
    refine ⟨t', j1, j2, j3, j4.trans ?_⟩
    simp only [addrsL, Ts.addrs, addrsL_app]
    refine (List.perm_append_left_iff _).mpr ?_ |>.trans (by rw [List.append_assoc])
    refine (((i4.append_right _).append_right _).trans ?_)
    simp only [List.append_assoc]
    refine (List.perm_append_left_iff _).mpr ?_
    refine List.perm_append_comm.trans ?_
    simp only [List.append_assoc]
    exact List.Perm.refl _
structure Pd (cs : List (Int × Int)) (tb : Mp) (pend : Pend) : Prop where
  nd : (places pend).Nodup
  lt : ∀ p ∈ places pend, 0 ≤ p ∧ p < cs.length ∧ cs[p.toNat]? = some (0, p)
  root : ∀ (i : Nat) (j : Int), cs[i]? = some (0, j) → 0 ≤ j ∧ cs[j.toNat]? = some (0, j) ∧ (j ∈ places pend → j = i)
  tag : ∀ c ∈ cs, c.1 ≠ 1
  tbk : ∀ n a, mget tb n = some a → 0 ≤ a ∧ cs[a.toNat]? = some (0, a) ∧ a ∉ places pend
  inj : ∀ n m a, mget tb n = some a → mget tb m = some a → n = m
theorem Pd.wf {cs : List (Int × Int)} {tb : Mp} (x : Pd cs tb []) : WF cs := ⟨x.tag, fun i j h => ⟨(x.root i j h).1, (x.root i j h).2.1⟩⟩
theorem places_app : ∀ a b : Pend, places (a ++ b) = places a ++ places b
  | [], b => rfl
  | e :: r, b => by simp [places, places_app r b]
theorem places_cons (p : Int) (t : T) (r : Ts) (Q : Pend) : places ((p, .cons t r) :: Q) = p :: places ((p + 1, r) :: Q) := by
  simp only [places, Ts.len, List.range_succ_eq_map, List.map_cons, List.map_map, List.cons_append]
  have e : p + ((0 : Nat) : Int) = p := by walk_at "o"
  rw [e]
  congr 2
  apply List.map_congr_left
  intro j _
  simp only [Function.comp]
  walk_at "o"
end
section
section
variable {cs : List (Int × Int)} {tb : Mp} {p : Int} {t0 t : T} {r : Ts} {Q : Pend} {A0 : List Int} {c c0 : Int × Int}
theorem set_ne {cs : List (Int × Int)} {p q : Int} {c : Int × Int} (h0 : 0 ≤ p) (h1 : 0 ≤ q) (h : q ≠ p) : (cs.set p.toNat c)[q.toNat]? = cs[q.toNat]? := by
  rw [List.getElem?_set_ne (by walk_at "o")]
theorem Pd.done {b : Int} (x : Pd cs tb ((b, .nil) :: Q)) : Pd cs tb Q := by
  have e : places ((b, Ts.nil) :: Q) = places Q := by simp [places, Ts.len]
  obtain ⟨h1, h2, h3, h4, h5, h6⟩ := x
  rw [e] at h1 h2 h3 h5
  exact ⟨h1, h2, h3, h4, h5, h6⟩
theorem Promise.done {b : Int} (x : Promise cs tb ((b, .nil) :: Q) A0 t c) : Promise cs tb Q A0 t c := by
  have e : places ((b, Ts.nil) :: Q) = places Q := by simp [places, Ts.len]
  intro cs' tb' L ls F
  have q := x cs' tb' (by rw [e]; exact L) (.nil :: ls) (.cons (by simp only [Ts.Im]) (by simp only [Ts.In]) F)
  simpa [addrsL, Ts.addrs] using q
theorem Pd.set (x : Pd cs tb ((p, .cons t0 r) :: Q)) (h1 : c.1 ≠ 1) (h0 : c.1 = 0 → ∃ n, mget tb n = some c.2) : Pd (cs.set p.toNat c) tb ((p + 1, r) :: Q) := by
  obtain ⟨nd, lt, root, tag, tbk, inj⟩ := x
  rw [places_cons] at nd lt root tbk
  have nd' := List.nodup_cons.mp nd
  obtain ⟨p0, p1, p2⟩ := lt p (.head _)
  refine ⟨nd'.2, fun q hq => ?_, fun i j h => ?_, fun d hd => ?_, fun n a h => ?_, inj⟩
  · obtain ⟨q0, q1, q2⟩ := lt q (.tail _ hq)
    have ne : q ≠ p := fun e => nd'.1 (e ▸ hq)
    exact ⟨q0, by rw [List.length_set]; exact q1, by rw [set_ne p0 q0 ne]; exact q2⟩
  · by_cases hi : i = p.toNat
    · subst hi
      rw [List.getElem?_set_self (by walk_at "o")] at h
      simp only [Option.some.injEq] at h
      subst h
      obtain ⟨n, hn⟩ := h0 rfl
      obtain ⟨a0, a1, a2⟩ := tbk n _ hn
      have ne : j ≠ p := fun e => a2 (e ▸ .head _)
      exact ⟨a0, by rw [set_ne p0 a0 ne]; exact a1, fun z => absurd (.tail _ z) a2⟩
    · rw [List.getElem?_set_ne (Ne.symm hi)] at h
      obtain ⟨j0, j1, j2⟩ := root i j h
      have ne : j ≠ p := fun e => by
        have := j2 (e ▸ .head _)
        walk_at "o"
      exact ⟨j0, by rw [set_ne p0 j0 ne]; exact j1, fun z => j2 (.tail _ z)⟩
  · rcases List.mem_or_eq_of_mem_set hd with z | rfl
    · exact tag d z
    · exact h1
  · obtain ⟨a0, a1, a2⟩ := tbk n a h
    have ne : a ≠ p := fun e => a2 (e ▸ .head _)
    exact ⟨a0, by rw [set_ne p0 a0 ne]; exact a1, fun z => a2 (.tail _ z)⟩
theorem Later.back {cs1 cs' : List (Int × Int)} {tb' : Mp} (x : Pd cs tb ((p, .cons t0 r) :: Q)) (L : Later (cs.set p.toNat c0) (places ((p + 1, r) :: Q)) tb cs' tb') :
    Later cs (places ((p, .cons t0 r) :: Q)) tb cs' tb' ∧ cs'[p.toNat]? = some c0 := by
  obtain ⟨p0, p1, p2⟩ := x.lt p (by rw [places_cons]; exact .head _)
  have nd := x.nd
  rw [places_cons] at nd
  have nd' := List.nodup_cons.mp nd
  refine ⟨⟨by have := L.len; rw [List.length_set] at this; exact this, fun i hi hn => ?_, L.tbs, L.tok⟩, ?_⟩
  · rw [places_cons] at hn
    rw [L.keep i (by rw [List.length_set]; exact hi) (fun z => hn (.tail _ z)), List.getElem?_set_ne]
    intro e
    apply hn
    have : (i : Int) = p := by walk_at "o"
    rw [this]; exact .head _
  · have ep : ((p.toNat : Nat) : Int) = p := by walk_at "o"
    rw [L.keep p.toNat (by rw [List.length_set]; walk_at "o") (by rw [ep]; exact nd'.1), List.getElem?_set_self (by walk_at "o")]
theorem Promise.k {u a : Int} (x : Pd cs tb ((p, .cons (.k u a) r) :: Q)) (P : Promise cs tb ((p, .cons (.k u a) r) :: Q) A0 t c) (h : (u = 4 ∧ a = 0) ∨ u = 5) : Promise (cs.set p.toNat (u, a)) tb ((p + 1, r) :: Q) A0 t c := by
  have q := P.step (cs1 := cs.set p.toNat (u, a)) (tb1 := tb) (new := []) (X := [])
    (fun cs' tb' L => by rw [List.append_nil] at L; exact (Later.back (cs1 := cs) x L).1)
    (fun cs' tb' L ns F => by
      rw [List.append_nil] at L
      cases F
      refine ⟨.k u a, by simp [T.Im], ⟨(u, a), (Later.back (cs1 := cs) x L).2, ⟨by simp only; walk_at "o", fun e => by simp only at e; walk_at "o"⟩, ?_⟩, by simp only [T.In]; exact h, by simp [T.addrs, addrsL]⟩
      unfold derefF
      rw [if_neg (by simp only; walk_at "o")]; rfl)
  rw [List.append_nil, List.append_nil] at q
  exact q
theorem var_in {cs' : List (Int × Int)} {a : Int} (h0 : 0 ≤ a) (h : cs'[a.toNat]? = some (0, a)) {p : Int} (hp : cs'[p.toNat]? = some (0, a)) : (∃ c, cs'[p.toNat]? = some c ∧ CellOk cs' c ∧ derefF cs' c = (T.v a).cell) ∧ (T.v a).In cs' := by
  have := (List.getElem?_eq_some_iff.mp h).1
  refine ⟨⟨(0, a), hp, ⟨by show (0 : Int) ≠ 1; decide, fun _ => ⟨h0, by simp only; walk_at "o"⟩⟩, ?_⟩, by simp only [T.In]; exact ⟨h0, h⟩⟩
  simp [derefF, List.getD_eq_getElem?_getD, h, T.cell]
theorem Promise.v {n a : Int} (x : Pd cs tb ((p, .cons (.v n) r) :: Q)) (P : Promise cs tb ((p, .cons (.v n) r) :: Q) A0 t c) (h : mget tb n = some a) : Promise (cs.set p.toNat (0, a)) tb ((p + 1, r) :: Q) A0 t c := by
  have q := P.step (cs1 := cs.set p.toNat (0, a)) (tb1 := tb) (new := []) (X := [])
    (fun cs' tb' L => by rw [List.append_nil] at L; exact (Later.back (cs1 := cs) x L).1)
    (fun cs' tb' L ns F => by
      rw [List.append_nil] at L
      cases F
      obtain ⟨a0, a1⟩ := L.tok n a (L.tbs n a h)
      obtain ⟨z1, z2⟩ := var_in a0 a1 (Later.back (cs1 := cs) x L).2
      exact ⟨.v a, by simp only [T.Im]; exact L.tbs n a h, z1, z2, by simp [T.addrs, addrsL]⟩)
  rw [List.append_nil, List.append_nil] at q
  exact q
theorem mget_add {tb : Mp} {n p m a : Int} (h : mget tb n = none) : mget (tb ++ [(n, p)]) m = some a ↔ mget tb m = some a ∨ (m = n ∧ a = p) := by
  unfold mget at h ⊢
  rw [List.find?_append]
  cases q : tb.find? (fun e => e.1 = m) with
  | some z =>
    simp only [Option.some_or, Option.map_some]
    constructor
    · exact .inl
    · rintro (z | ⟨rfl, _⟩)
      · exact z
      · rw [q] at h; cases h
  | none =>
    simp only [Option.none_or, Option.map_none, List.find?_cons, List.find?_nil]
    by_cases z : n = m
    · subst z
      simp [eq_comm]
    · simp only [z, decide_false, Option.map_none]
      constructor
      · intro w; cases w
      · rintro (w | ⟨rfl, _⟩)
        · cases w
        · exact absurd rfl z
theorem Pd.new {n : Int} (x : Pd cs tb ((p, .cons t0 r) :: Q)) (h : mget tb n = none) : Pd cs (tb ++ [(n, p)]) ((p + 1, r) :: Q) := by
  obtain ⟨nd, lt, root, tag, tbk, inj⟩ := x
  rw [places_cons] at nd lt root tbk
  have nd' := List.nodup_cons.mp nd
  obtain ⟨p0, p1, p2⟩ := lt p (.head _)
  refine ⟨nd'.2, fun q hq => lt q (.tail _ hq), fun i j h => ?_, tag, fun m a h' => ?_, fun m m' a h1 h2 => ?_⟩
  · obtain ⟨j0, j1, j2⟩ := root i j h
    exact ⟨j0, j1, fun z => j2 (.tail _ z)⟩
  · rcases (mget_add h).mp h' with z | ⟨rfl, rfl⟩
    · obtain ⟨a0, a1, a2⟩ := tbk m a z
      exact ⟨a0, a1, fun z => a2 (.tail _ z)⟩
    · exact ⟨p0, p2, nd'.1⟩
  · rcases (mget_add h).mp h1 with z | ⟨rfl, rfl⟩ <;> rcases (mget_add h).mp h2 with z' | ⟨rfl, z''⟩
    · exact inj _ _ _ z z'
    · exact absurd (z'' ▸ .head _) (tbk _ _ z).2.2
    · exact absurd (.head _) (tbk _ _ z').2.2
    · rfl
theorem Promise.new {n : Int} (x : Pd cs tb ((p, .cons (.v n) r) :: Q)) (P : Promise cs tb ((p, .cons (.v n) r) :: Q) A0 t c) (h : mget tb n = none) : Promise cs (tb ++ [(n, p)]) ((p + 1, r) :: Q) A0 t c := by
  have nd := x.nd
  rw [places_cons] at nd
  have nd' := List.nodup_cons.mp nd
  have q := P.step (cs1 := cs) (tb1 := tb ++ [(n, p)]) (new := []) (X := [])
    (fun cs' tb' L => by
      rw [List.append_nil] at L
      refine ⟨L.len, fun i hi hn => L.keep i hi fun z => hn ?_, fun m a h' => L.tbs m a ((mget_add h).mpr (.inl h')), L.tok⟩
      rw [places_cons]; exact .tail _ z)
    (fun cs' tb' L ns F => by
      rw [List.append_nil] at L
      cases F
      have hp := L.tbs n p ((mget_add h).mpr (.inr ⟨rfl, rfl⟩))
      obtain ⟨a0, a1⟩ := L.tok n p hp
      obtain ⟨z1, z2⟩ := var_in a0 a1 a1
      exact ⟨.v p, by simp only [T.Im]; exact hp, z1, z2, by simp [T.addrs, addrsL]⟩)
  rw [List.append_nil, List.append_nil] at q
  exact q
end
end
section
noncomputable abbrev baseB (L f : Int) : Int := if f = 0 then L else L + 1
section
variable {cs : List (Int × Int)} {tb : Mp} {p : Int} {t0 t : T} {r l : Ts} {Q pend : Pend} {A0 : List Int} {c c0 : Int × Int} {f a : Int} {n : Nat}
theorem blk_get (f : Int) {n j : Nat} (h : j < n) : (cs ++ blk cs.length f n)[(baseB cs.length f + (j : Int)).toNat]? = some (0, baseB cs.length f + (j : Int)) := by
  unfold blk baseB
  by_cases z : f = 0
  · have e : ((cs.length : Int) + (j : Int)).toNat = cs.length + j := by walk_at "o"
    simp only [z, if_true, e]
    rw [List.getElem?_append_right (by walk_at "o"), List.getElem?_map, List.getElem?_range (by walk_at "o")]
    simp
  · have e : ((cs.length : Int) + 1 + (j : Int)).toNat = cs.length + 1 + j := by walk_at "o"
    simp only [z, if_false, e]
    rw [List.getElem?_append_right (by walk_at "o"), show cs.length + 1 + j - cs.length = j + 1 by walk_at "o", List.getElem?_cons_succ, List.getElem?_map, List.getElem?_range (by walk_at "o")]
    rfl
theorem blk_head {f : Int} (n : Nat) (h : f ≠ 0) : (cs ++ blk cs.length f n)[cs.length]? = some (6, f) := by
  unfold blk
  rw [if_neg h, List.getElem?_append_right (Nat.le_refl _), Nat.sub_self]; rfl
theorem blk_inv {f : Int} {n i : Nat} {j : Int} (hi : cs.length ≤ i) (h : (cs ++ blk cs.length f n)[i]? = some (0, j)) : j = i := by
  rw [List.getElem?_append_right hi] at h
  unfold blk at h
  split at h
  · rw [List.getElem?_map] at h
    obtain ⟨k, hk, e⟩ := Option.map_eq_some_iff.mp h
    have hlt := (List.getElem?_eq_some_iff.mp hk).1
    rw [List.length_range] at hlt
    rw [List.getElem?_range hlt] at hk
    simp only [Option.some.injEq] at hk
    simp only [Prod.mk.injEq] at e
    walk_at "o"
  · cases q : i - cs.length with
    | zero => rw [q] at h; simp at h
    | succ m =>
      rw [q, List.getElem?_cons_succ, List.getElem?_map] at h
      obtain ⟨k, hk, e⟩ := Option.map_eq_some_iff.mp h
      have hlt := (List.getElem?_eq_some_iff.mp hk).1
      rw [List.length_range] at hlt
      rw [List.getElem?_range hlt] at hk
      simp only [Option.some.injEq] at hk
      simp only [Prod.mk.injEq] at e
      walk_at "o"
theorem blk_tag {L f : Int} {n : Nat} : ∀ c ∈ blk L f n, c.1 ≠ 1 := by
  intro c hc
  unfold blk at hc
  split at hc
  · obtain ⟨j, _, rfl⟩ := List.mem_map.mp hc; show (0 : Int) ≠ 1; decide
  · rcases List.mem_cons.mp hc with rfl | hc
    · show (6 : Int) ≠ 1; decide
    · obtain ⟨j, _, rfl⟩ := List.mem_map.mp hc; show (0 : Int) ≠ 1; decide
theorem get_app {cs ds : List (Int × Int)} {i : Nat} {c : Int × Int} (h : cs[i]? = some c) : (cs ++ ds)[i]? = some c := by
  rw [List.getElem?_append_left (List.getElem?_eq_some_iff.mp h).1]; exact h
theorem baseB_le (L f : Int) : L ≤ baseB L f := by unfold baseB; split <;> walk_at "o"
theorem Pd.alloc (x : Pd cs tb pend) (f : Int) (l : Ts) : Pd (cs ++ blk cs.length f l.len) tb (pend ++ [(baseB cs.length f, l)]) := by
  obtain ⟨nd, lt, root, tag, tbk, inj⟩ := x
  have ep : places (pend ++ [(baseB cs.length f, l)]) = places pend ++ (List.range l.len).map (fun (j : Nat) => baseB cs.length f + (j : Int)) := by rw [places_app]; simp [places]
  have hb := baseB_le cs.length f
  have nw : ∀ q ∈ (List.range l.len).map (fun (j : Nat) => baseB cs.length f + (j : Int)), (cs.length : Int) ≤ q ∧ (cs ++ blk cs.length f l.len)[q.toNat]? = some (0, q) := by
    intro q hq
    obtain ⟨j, hj, rfl⟩ := List.mem_map.mp hq
    exact ⟨by walk_at "o", blk_get f (List.mem_range.mp hj)⟩
  refine ⟨?_, fun q hq => ?_, fun i j h => ?_, fun d hd => ?_, fun n a h => ?_, inj⟩
  · rw [ep]
    refine List.nodup_append.mpr ⟨nd, ?_, fun q hq q' hq' e => ?_⟩
    · show List.Pairwise _ _
      rw [List.pairwise_map]
      exact List.Pairwise.imp (fun {a b : Nat} (h : a ≠ b) (e : baseB (cs.length : Int) f + (a : Int) = baseB (cs.length : Int) f + (b : Int)) => h (by walk_at "o")) (show List.Pairwise (fun (a b : Nat) => a ≠ b) (List.range l.len) from List.nodup_range)
    · have h1 := (lt q hq).2.1
      have h2 := (nw q' hq').1
      walk_at "o"
  · rw [ep] at hq
    rcases List.mem_append.mp hq with hq | hq
    · obtain ⟨q0, q1, q2⟩ := lt q hq
      exact ⟨q0, by rw [List.length_append]; walk_at "o", get_app q2⟩
    · obtain ⟨h1, h2⟩ := nw q hq
      have := (List.getElem?_eq_some_iff.mp h2).1
      exact ⟨by walk_at "o", by walk_at "o", h2⟩
  · by_cases hi : i < cs.length
    · rw [List.getElem?_append_left hi] at h
      obtain ⟨j0, j1, j2⟩ := root i j h
      refine ⟨j0, get_app j1, fun z => ?_⟩
      rw [ep] at z
      rcases List.mem_append.mp z with z | z
      · exact j2 z
      · have h1 := (nw j z).1
        have h2 := (List.getElem?_eq_some_iff.mp j1).1
        walk_at "o"
    · have e := blk_inv (by walk_at "o") h
      subst e
      refine ⟨by walk_at "o", ?_, fun _ => rfl⟩
      rw [Int.toNat_natCast]; exact h
  · rcases List.mem_append.mp hd with z | z
    · exact tag d z
    · exact blk_tag d z
  · obtain ⟨a0, a1, a2⟩ := tbk n a h
    refine ⟨a0, get_app a1, fun z => ?_⟩
    rw [ep] at z
    rcases List.mem_append.mp z with z | z
    · exact a2 z
    · have h1 := (nw a z).1
      have h2 := (List.getElem?_eq_some_iff.mp a1).1
      walk_at "o"
theorem Later.backA {cs' : List (Int × Int)} {tb' : Mp} (L : Later (cs ++ blk cs.length f l.len) (places (pend ++ [(baseB cs.length f, l)])) tb cs' tb') : Later cs (places pend) tb cs' tb' := by
  refine ⟨by have := L.len; rw [List.length_append] at this; walk_at "o", fun i hi hn => ?_, L.tbs, L.tok⟩
  rw [L.keep i (by rw [List.length_append]; walk_at "o") (fun z => ?_), List.getElem?_append_left hi]
  rw [places_app] at z
  rcases List.mem_append.mp z with z | z
  · exact hn z
  · simp only [places, List.append_nil] at z
    obtain ⟨j, _, e⟩ := List.mem_map.mp z
    have := baseB_le cs.length f
    walk_at "o"
theorem made_in {cs' : List (Int × Int)} {tb' : Mp} {l' : Ts} (x : Pd cs tb pend) (L : Later (cs ++ blk cs.length f l.len) (places (pend ++ [(baseB cs.length f, l)])) tb cs' tb') (fm : Form f l.len) (im : l.Im tb' l') (h : l'.In cs' (baseB cs.length f)) :
    (T.s a f l).Im tb' (.s cs.length f l') ∧ (T.s cs.length f l').In cs' := by
  have e := im.len
  have b := L.len
  have bl := blk_length cs.length f l.len
  have fp := fm.pos
  refine ⟨by simp only [T.Im]; exact ⟨trivial, im⟩, ?_⟩
  simp only [T.In]
  refine ⟨⟨by walk_at "o", ?_⟩, by rw [← e]; exact fm, fun f0 => ?_, h⟩
  · rw [List.length_append, bl] at b
    split at b <;> walk_at "o"
  · rw [Int.toNat_natCast]
    rw [L.keep cs.length (by rw [List.length_append, bl]; split <;> walk_at "o") (fun z => ?_)]
    · exact blk_head _ f0
    · rw [places_app] at z
      rcases List.mem_append.mp z with z | z
      · have := (x.lt _ z).2.1; walk_at "o"
      · simp only [places, List.append_nil] at z
        obtain ⟨j, _, e'⟩ := List.mem_map.mp z
        rw [baseB, if_neg f0] at e'
        walk_at "o"
theorem Promise.start (x : Pd cs tb []) (fm : Form f l.len) : Promise (cs ++ blk cs.length f l.len) tb [(baseB cs.length f, l)] [(cs.length : Int)] (.s a f l) (tagOf f, cs.length) := by
  intro cs' tb' L ls F
  cases F with
  | cons h1 h2 h3 =>
    cases h3
    rename_i l'
    obtain ⟨i1, i2⟩ := made_in (a := a) (pend := []) x L fm h1 h2
    exact ⟨_, i1, i2, rfl, by simp [T.addrs, addrsL]⟩
theorem Promise.s (x : Pd cs tb ((p, .cons (.s a f l) r) :: Q)) (P : Promise cs tb ((p, .cons (.s a f l) r) :: Q) A0 t c) (fm : Form f l.len) :
    Promise ((cs ++ blk cs.length f l.len).set p.toNat (tagOf f, cs.length)) tb ((p + 1, r) :: (Q ++ [(baseB cs.length f, l)])) (A0 ++ [(cs.length : Int)]) t c := by
  have x2 : Pd (cs ++ blk cs.length f l.len) tb ((p, .cons (.s a f l) r) :: (Q ++ [(baseB cs.length f, l)])) := x.alloc f l
  refine P.step (fun cs' tb' L => Later.backA (f := f) (l := l) (Later.back (cs1 := cs) x2 L).1) fun cs' tb' L ns F => ?_
  obtain ⟨L1, hp⟩ := Later.back (cs1 := cs) x2 L
  cases F with
  | cons h1 h2 h3 =>
    cases h3
    rename_i l'
    obtain ⟨i1, i2⟩ := made_in (a := a) x L1 fm h1 h2
    have tg := tag_c f
    unfold isC at tg
    refine ⟨_, i1, ⟨_, hp, ⟨by simp only; walk_at "o", fun e => by simp only at e; walk_at "o"⟩, ?_⟩, i2, by simp [T.addrs, addrsL]⟩
    unfold derefF
    rw [if_neg (by simp only; walk_at "o")]; rfl
end
end
section
mutual
noncomputable def T.dat : T → PyData
  | .v n => .tuple [.str (Str.ofString "v"), .int n]
  | .k t a => .tuple [.str (if t = 4 then Str.ofString "a" else Str.ofString "i"), .int a]
  | .s _ f l => .tuple [.str (Str.ofString "s"), .int f, .tuple l.dats]
noncomputable def Ts.dats : Ts → List PyData
  | .nil => []
  | .cons t r => t.dat :: r.dats
end
theorem Ts.dats_length : ∀ l : Ts, l.dats.length = l.len
  | .nil => rfl
  | .cons t r => by simp only [Ts.dats, Ts.len, List.length_cons, r.dats_length]
noncomputable def tbDat (tb : Mp) : List (Int × PyData) := tb.map fun e => (e.1, cd 0 e.2)
theorem tbDat_get (ch : Mp) (n : Int) : kget (tbDat ch) n = (mget ch n).map fun t => cd 0 t := by
  unfold kget mget tbDat
  induction ch with
  | nil => rfl
  | cons e r ih =>
    simp only [List.map_cons, List.find?_cons]
    by_cases h : e.1 = n
    · simp [h]
    · simp only [h, decide_false, ih]
theorem tbDat_put {ch : Mp} {n t : Int} (h : mget ch n = none) : kput (tbDat ch) n (cd 0 t) = tbDat (ch ++ [(n, t)]) := by
  unfold kput
  rw [if_neg]
  · simp [tbDat]
  · have q := tbDat_get ch n
    rw [h] at q
    intro z
    unfold kget at q
    simp only [Option.map_none, Option.map_eq_none_iff] at q
    rw [List.find?_eq_none] at q
    obtain ⟨e, he, e2⟩ := List.any_eq_true.mp z
    exact q e he e2
theorem mget_key {tb : Mp} {e : Int × Int} (h : e ∈ tb) : ∃ a, mget tb e.1 = some a := by
  unfold mget
  cases q : tb.find? (fun x => x.1 = e.1) with
  | some z => exact ⟨_, rfl⟩
  | none =>
    rw [List.find?_eq_none] at q
    exact absurd (by simp) (q e h)
noncomputable def wdat (e : Int × Ts) : PyData := .tuple [.int e.1, .tuple e.2.dats]
noncomputable def szP : Pend → Nat
  | [] => 0
  | e :: r => e.2.size + szP r
theorem szP_app : ∀ a b : Pend, szP (a ++ b) = szP a + szP b
  | [], b => by simp [szP]
  | e :: r, b => by simp only [List.cons_append, szP, szP_app r b]; walk_at "o"
structure Grew (cs : List (Int × Int)) (tb : Mp) (cs' : List (Int × Int)) (tb' : Mp) : Prop where
  len : cs.length ≤ cs'.length
  keep : ∀ i : Nat, i < cs.length → cs'[i]? = cs[i]?
  tbs : ∀ n a, mget tb n = some a → mget tb' n = some a
  new : ∀ n a, mget tb' n = some a → mget tb n = some a ∨ (cs.length : Int) ≤ a
theorem Grew.refl (cs : List (Int × Int)) (tb : Mp) : Grew cs tb cs tb := ⟨Nat.le_refl _, fun _ _ => rfl, fun _ _ h => h, fun _ _ h => .inl h⟩
theorem Grew.set {cs cs' : List (Int × Int)} {tb tb' : Mp} (x : Grew cs tb cs' tb') {p : Int} (c : Int × Int) (h : (cs.length : Int) ≤ p) : Grew cs tb (cs'.set p.toNat c) tb' :=
  ⟨by rw [List.length_set]; exact x.len, fun i hi => by rw [List.getElem?_set_ne (by walk_at "o")]; exact x.keep i hi, x.tbs, x.new⟩
theorem Grew.app {cs cs' : List (Int × Int)} {tb tb' : Mp} (x : Grew cs tb cs' tb') (ds : List (Int × Int)) : Grew cs tb (cs' ++ ds) tb' :=
  ⟨by rw [List.length_append]; have := x.len; walk_at "o", fun i hi => by rw [List.getElem?_append_left (by have := x.len; walk_at "o")]; exact x.keep i hi, x.tbs, x.new⟩
theorem Grew.var {cs cs' : List (Int × Int)} {tb tb' : Mp} (x : Grew cs tb cs' tb') {n p : Int} (h : mget tb' n = none) (hp : (cs.length : Int) ≤ p) : Grew cs tb cs' (tb' ++ [(n, p)]) :=
  ⟨x.len, x.keep, fun m a q => (mget_add h).mpr (.inl (x.tbs m a q)), fun m a q => by
    rcases (mget_add h).mp q with q | ⟨_, rfl⟩
    · exact x.new m a q
    · exact .inr hp⟩
theorem Grew.deref {cs cs' : List (Int × Int)} {tb tb' : Mp} (x : Grew cs tb cs' tb') {c : Int × Int} (ok : CellOk cs c) : CellOk cs' c ∧ derefF cs' c = derefF cs c := by
  refine ⟨⟨ok.1, fun e => ?_⟩, ?_⟩
  · have := ok.2 e; have := x.len; walk_at "o"
  · unfold derefF
    by_cases e : c.1 = 0
    · rw [if_pos e, if_pos e, List.getD_eq_getElem?_getD, List.getD_eq_getElem?_getD, x.keep _ (by have := ok.2 e; walk_at "o")]
    · rw [if_neg e, if_neg e]
mutual
theorem Grew.tin {cs cs' : List (Int × Int)} {tb tb' : Mp} (x : Grew cs tb cs' tb') : ∀ {t : T}, t.In cs → t.In cs'
  | .v a, h => by
    simp only [T.In] at h ⊢
    exact ⟨h.1, by rw [x.keep _ (List.getElem?_eq_some_iff.mp h.2).1]; exact h.2⟩
  | .k t a, h => by simp only [T.In] at h ⊢; exact h
  | .s a f l, h => by
    simp only [T.In] at h ⊢
    have := x.len
    exact ⟨⟨h.1.1, by walk_at "o"⟩, h.2.1, fun z => by rw [x.keep _ (by walk_at "o")]; exact h.2.2.1 z, Grew.tsin x h.2.2.2⟩
theorem Grew.tsin {cs cs' : List (Int × Int)} {tb tb' : Mp} (x : Grew cs tb cs' tb') : ∀ {l : Ts} {b : Int}, l.In cs b → l.In cs' b
  | .nil, _, _ => by simp only [Ts.In]
  | .cons t r, b, h => by
    simp only [Ts.In] at h ⊢
    obtain ⟨⟨c, h1, h2, h3⟩, h4, h5⟩ := h
    obtain ⟨k1, k2⟩ := x.deref h2
    exact ⟨⟨c, by rw [x.keep _ (List.getElem?_eq_some_iff.mp h1).1]; exact h1, k1, k2.trans h3⟩, Grew.tin x h4, Grew.tsin x h5⟩
end
mutual
theorem T.Im.mono {tb tb' : Mp} (h : ∀ n a, mget tb n = some a → mget tb' n = some a) : ∀ {t t' : T}, t.Im tb t' → t.Im tb' t'
  | .v _, .v _, x => by simp only [T.Im] at x ⊢; exact h _ _ x
  | .k _ _, .k _ _, x => by simp only [T.Im] at x ⊢; exact x
  | .s _ _ l, .s _ _ l', x => by simp only [T.Im] at x ⊢; exact ⟨x.1, Ts.Im.mono h x.2⟩
  | .v _, .k _ _, x => by simp only [T.Im] at x
  | .v _, .s _ _ _, x => by simp only [T.Im] at x
  | .k _ _, .v _, x => by simp only [T.Im] at x
  | .k _ _, .s _ _ _, x => by simp only [T.Im] at x
  | .s _ _ _, .v _, x => by simp only [T.Im] at x
  | .s _ _ _, .k _ _, x => by simp only [T.Im] at x
theorem Ts.Im.mono {tb tb' : Mp} (h : ∀ n a, mget tb n = some a → mget tb' n = some a) : ∀ {l l' : Ts}, l.Im tb l' → l.Im tb' l'
  | .nil, .nil, _ => by simp only [Ts.Im]
  | .cons _ r, .cons _ r', x => by simp only [Ts.Im] at x ⊢; exact ⟨T.Im.mono h x.1, Ts.Im.mono h x.2⟩
  | .nil, .cons _ _, x => by simp only [Ts.Im] at x
  | .cons _ _, .nil, x => by simp only [Ts.Im] at x
end
end
section
section
variable {prog : Program} {w : World} {B : Heap}
variable {x dx H sy dsy ST TR TX AN FU FN tl : Addr} {mh hb bb : Tok} {cs fs : List (Int × Int)} {tb : Mp}
structure Built (cs : List (Int × Int)) (tb : Mp) (t : T) (cs' : List (Int × Int)) (tb' : Mp) (t' : T) : Prop where
  grew : Grew cs tb cs' tb'
  pd : Pd cs' tb' []
  im : t.Im tb' t'
  is : t'.In cs'
  nd : t'.addrs.Nodup
  len : cs'.length ≤ cs.length + 4 * t.size
  tl : tb'.length ≤ tb.length + t.size
noncomputable abbrev tabP (tl : Addr) (tb : Mp) (x dx H sy ST TR : Addr) (mh hb bb : Tok) (cs : List (Int × Int)) (dsy TX AN FU FN : Addr) (fs : List (Int × Int)) : List (Addr × Bool × Tr) :=
  (tl, true, .ddat (tbDat tb)) :: stSyP x dx H sy ST TR mh hb bb true cs dsy TX AN FU FN fs
theorem map_set2 (cs : List (Int × Int)) (n : Nat) (u a : Int) : (cs.map cdp).set n (cd u a) = (cs.set n (u, a)).map cdp := by rw [List.map_set]
structure Core (cs : List (Int × Int)) (tb : Mp) (t : T) (c : Int × Int) (cs' : List (Int × Int)) (tb' : Mp) (L : Pend) (A : List Int) : Prop where
  D : Pd cs' tb' L
  P : Promise cs' tb' L A t c
  hL : ∀ e ∈ L, e.2.Law
  lo : ∀ q ∈ places L, (cs.length : Int) ≤ q
  gr : Grew cs tb cs' tb'
  an : A.Nodup
  al : ∀ q ∈ A, q < (cs'.length : Int)
  s1 : cs'.length + 4 * szP L ≤ cs.length + 4 * t.size
  s2 : tb'.length + szP L ≤ tb.length + t.size
structure PS where
  cs : List (Int × Int)
  tb : Mp
  Wt : Pend
  A : List Int
structure PO (cs : List (Int × Int)) (tb : Mp) (t : T) (c : Int × Int) (s : PS) (k : Nat) : Prop where
  co : Core cs tb t c s.cs s.tb (s.Wt.drop k) s.A
  kl : k ≤ s.Wt.length
  w : s.Wt.length + szP (s.Wt.drop k) ≤ t.size
structure PT (cs : List (Int × Int)) (tb : Mp) (t : T) (c : Int × Int) (k m : Nat) (p : Int) (s : PS) (r : Ts) : Prop where
  co : Core cs tb t c s.cs s.tb ((p, r) :: s.Wt.drop (k + 1)) s.A
  kl : k + 1 ≤ s.Wt.length
  w : s.Wt.length + (r.size + szP (s.Wt.drop (k + 1))) ≤ t.size
  lt : 2 * (r.size + szP (s.Wt.drop (k + 1))) + (s.Wt.length - (k + 1)) < m
section
variable {t t0 : T} {c : Int × Int} {k m : Nat} {p : Int} {s : PS} {r l : Ts} {n a u f : Int} {L : Pend} {A : List Int} {cs' : List (Int × Int)} {tb' : Mp}
theorem Core.law (h : Core cs tb t c cs' tb' ((p, .cons t0 r) :: L) A) : t0.Law ∧ ∀ e ∈ (p + 1, r) :: L, e.2.Law := by
  have q := h.hL _ (.head _)
  simp only [Ts.Law] at q
  exact ⟨q.1, fun e he => (List.mem_cons.mp he).elim (fun he => he ▸ q.2) fun he => h.hL e (.tail _ he)⟩
theorem Core.place (h : Core cs tb t c cs' tb' ((p, .cons t0 r) :: L) A) : (cs.length : Int) ≤ p ∧ 0 ≤ p ∧ p < cs'.length := by
  have hm : p ∈ places ((p, Ts.cons t0 r) :: L) := by rw [places_cons]; exact .head _
  exact ⟨h.lo p hm, (h.D.lt p hm).1, (h.D.lt p hm).2.1⟩
theorem Core.lo' (h : Core cs tb t c cs' tb' ((p, .cons t0 r) :: L) A) : ∀ q ∈ places ((p + 1, r) :: L), (cs.length : Int) ≤ q := fun q hq => h.lo q (by rw [places_cons]; exact .tail _ hq)
theorem Core.sizes (h : Core cs tb t c cs' tb' ((p, .cons t0 r) :: L) A) : cs'.length + 4 * (t0.size + (r.size + szP L)) ≤ cs.length + 4 * t.size ∧ tb'.length + (t0.size + (r.size + szP L)) ≤ tb.length + t.size := by
  have h1 := h.s1
  have h2 := h.s2
  simp only [szP, Ts.size] at h1 h2
  walk_at "o"
theorem PT.sizes (h : PT cs tb t c k m p s (.cons t0 r)) : s.Wt.length + (t0.size + (r.size + szP (s.Wt.drop (k + 1)))) ≤ t.size ∧ 2 * (t0.size + (r.size + szP (s.Wt.drop (k + 1)))) + (s.Wt.length - (k + 1)) < m := by
  have h1 := h.w
  have h2 := h.lt
  simp only [Ts.size] at h1 h2
  walk_at "o"
theorem PT.cell {d : Int × Int} (h : PT cs tb t c k m p s (.cons t0 r)) (D : Pd (s.cs.set p.toNat d) s.tb ((p + 1, r) :: s.Wt.drop (k + 1))) (P : Promise (s.cs.set p.toNat d) s.tb ((p + 1, r) :: s.Wt.drop (k + 1)) s.A t c) : PT cs tb t c k m (p + 1) ⟨s.cs.set p.toNat d, s.tb, s.Wt, s.A⟩ r := by
  have z := h.co.sizes
  have z2 := h.sizes
  have z0 := t0.size_pos
  have e : (s.cs.set p.toNat d).length = s.cs.length := List.length_set
  exact ⟨⟨D, P, h.co.law.2, h.co.lo', h.co.gr.set _ h.co.place.1, h.co.an, by rw [e]; exact h.co.al, by rw [e]; simp only [szP]; walk_at "o", by simp only [szP]; walk_at "o"⟩, h.kl, by dsimp only; walk_at "o", by dsimp only; walk_at "o"⟩
theorem PT.v1 (h : PT cs tb t c k m p s (.cons (.v n) r)) (hg : mget s.tb n = some a) : PT cs tb t c k m (p + 1) ⟨s.cs.set p.toNat (0, a), s.tb, s.Wt, s.A⟩ r :=
  h.cell (h.co.D.set (c := (0, a)) (by show (0 : Int) ≠ 1; decide) (fun _ => ⟨n, hg⟩)) (h.co.P.v h.co.D hg)
theorem PT.v2 (h : PT cs tb t c k m p s (.cons (.v n) r)) (hg : mget s.tb n = none) : PT cs tb t c k m (p + 1) ⟨s.cs, s.tb ++ [(n, p)], s.Wt, s.A⟩ r := by
  have z := h.co.sizes
  have z2 := h.sizes
  simp only [T.size] at z z2
  exact ⟨⟨h.co.D.new hg, h.co.P.new h.co.D hg, h.co.law.2, h.co.lo', h.co.gr.var hg h.co.place.1, h.co.an, h.co.al, by simp only [szP]; walk_at "o", by simp only [szP, List.length_append, List.length_singleton]; walk_at "o"⟩, h.kl, by dsimp only; walk_at "o", by dsimp only; walk_at "o"⟩
theorem PT.cst (h : PT cs tb t c k m p s (.cons (.k u a) r)) : PT cs tb t c k m (p + 1) ⟨s.cs.set p.toNat (u, a), s.tb, s.Wt, s.A⟩ r := by
  have l := h.co.law.1
  simp only [T.Law] at l
  exact h.cell (h.co.D.set (c := (u, a)) (by dsimp only; walk_at "o") (fun e => by dsimp only at e; walk_at "o")) (h.co.P.k h.co.D l)
theorem PT.cmp (h : PT cs tb t c k m p s (.cons (.s a f l) r)) : PT cs tb t c k m (p + 1) ⟨(s.cs ++ blk s.cs.length f l.len).set p.toNat (tagOf f, (s.cs.length : Int)), s.tb, s.Wt ++ [(baseB s.cs.length f, l)], s.A ++ [(s.cs.length : Int)]⟩ r := by
  have z := h.co.sizes
  have z2 := h.sizes
  simp only [T.size] at z z2
  have l0 := h.co.law.1
  simp only [T.Law] at l0
  have tg := tag_c f
  unfold isC at tg
  have bl := blk_length s.cs.length f l.len
  have b4 : (blk s.cs.length f l.len).length ≤ 4 ∧ 0 < (blk s.cs.length f l.len).length := by have := l0.1.pos; rw [bl]; split <;> walk_at "o"
  have edr : (s.Wt ++ [(baseB s.cs.length f, l)]).drop (k + 1) = s.Wt.drop (k + 1) ++ [(baseB s.cs.length f, l)] := List.drop_append_of_le_length h.kl
  have D2 := (show Pd (s.cs ++ blk s.cs.length f l.len) s.tb ((p, Ts.cons (T.s a f l) r) :: (s.Wt.drop (k + 1) ++ [(baseB s.cs.length f, l)])) from h.co.D.alloc f l).set (c := (tagOf f, (s.cs.length : Int))) (by dsimp only; walk_at "o") (fun e => by dsimp only at e; walk_at "o")
  have P2 := h.co.P.s h.co.D l0.1
  have e1 : ((s.cs ++ blk s.cs.length f l.len).set p.toNat (tagOf f, (s.cs.length : Int))).length = s.cs.length + (blk s.cs.length f l.len).length := by rw [List.length_set, List.length_append]
  have e2 : szP (s.Wt.drop (k + 1) ++ [(baseB s.cs.length f, l)]) = szP (s.Wt.drop (k + 1)) + l.size := by rw [szP_app]; simp [szP]
  refine ⟨⟨?_, ?_, ?_, ?_, (h.co.gr.app _).set _ h.co.place.1, ?_, ?_, ?_, ?_⟩, ?_, ?_, ?_⟩ <;> dsimp only
  · rw [edr]; exact D2
  · rw [edr]; exact P2
  · rw [edr, ← List.cons_append]
    exact fun e he => (List.mem_append.mp he).elim (h.co.law.2 e) fun he => by rw [List.mem_singleton.mp he]; exact l0.2
  · rw [edr, ← List.cons_append, places_app]
    refine fun q hq => (List.mem_append.mp hq).elim (h.co.lo' q) fun hq => ?_
    simp only [places, List.append_nil] at hq
    obtain ⟨j, _, rfl⟩ := List.mem_map.mp hq
    have := baseB_le s.cs.length f
    have := h.co.gr.len
    walk_at "o"
  · refine List.nodup_append.mpr ⟨h.co.an, by simp, fun q hq q' hq' e => ?_⟩
    have := h.co.al q hq
    rw [List.mem_singleton.mp hq'] at e
    walk_at "o"
  · rw [e1]
    refine fun q hq => (List.mem_append.mp hq).elim (fun hq => ?_) fun hq => ?_
    · have := h.co.al q hq; walk_at "o"
    · rw [List.mem_singleton.mp hq]; walk_at "o"
  · rw [e1, edr]
    show _ + 4 * (r.size + szP _) ≤ _
    rw [e2]; walk_at "o"
  · rw [edr]
    show _ + (r.size + szP _) ≤ _
    rw [e2]; walk_at "o"
  · rw [List.length_append]; exact Nat.le_add_right_of_le h.kl
  · rw [edr, e2, List.length_append, List.length_singleton]; walk_at "o"
  · rw [edr, e2, List.length_append, List.length_singleton]; walk_at "o"
theorem PT.item {b : Int} {i : Nat} {ds : List PyData} {d : PyData} {r0 : Ts} (h : PT cs tb t c k m (b + (i : Int)) s r0) (hr : r0.dats = ds.drop i) (hd : ds[i]? = some d) (hs : t.size ≤ 400) (ht : tb.length ≤ 400) (hz : cs.length ≤ 4000) {q : PyData → Prop}
    (kk : 0 ≤ b + (i : Int) → b + (i : Int) < s.cs.length → s.cs.length < 8000 ∧ s.tb.length < 1000 ∧ s.Wt.length < 1000 → b + (i : Int) + 1 = b + ((i + 1 : Nat) : Int) →
      (∀ n a r, mget s.tb n = some a → PT cs tb t c k m (b + ((i + 1 : Nat) : Int)) ⟨s.cs.set (b + (i : Int)).toNat (0, a), s.tb, s.Wt, s.A⟩ r → r.dats = ds.drop (i + 1) → q (T.v n).dat) ∧
      (∀ n r, mget s.tb n = none → PT cs tb t c k m (b + ((i + 1 : Nat) : Int)) ⟨s.cs, s.tb ++ [(n, b + (i : Int))], s.Wt, s.A⟩ r → r.dats = ds.drop (i + 1) → q (T.v n).dat) ∧
      (∀ a r, PT cs tb t c k m (b + ((i + 1 : Nat) : Int)) ⟨s.cs.set (b + (i : Int)).toNat (4, a), s.tb, s.Wt, s.A⟩ r → r.dats = ds.drop (i + 1) → q (T.k 4 a).dat) ∧
      (∀ a r, PT cs tb t c k m (b + ((i + 1 : Nat) : Int)) ⟨s.cs.set (b + (i : Int)).toNat (5, a), s.tb, s.Wt, s.A⟩ r → r.dats = ds.drop (i + 1) → q (T.k 5 a).dat) ∧
      (∀ a f l r, Form f l.len → s.cs.length + l.len + 1 < 100000 → PT cs tb t c k m (b + ((i + 1 : Nat) : Int)) ⟨(s.cs ++ blk s.cs.length f l.len).set (b + (i : Int)).toNat (tagOf f, (s.cs.length : Int)), s.tb, s.Wt ++ [(baseB s.cs.length f, l)], s.A ++ [(s.cs.length : Int)]⟩ r → r.dats = ds.drop (i + 1) → q (T.s a f l).dat)) : q d := by
  have hdr2 : ds.drop i = d :: ds.drop (i + 1) := by
    rw [List.drop_eq_getElem_cons (List.getElem?_eq_some_iff.mp hd).1]; congr 1; exact (List.getElem?_eq_some_iff.mp hd).2
  rw [hdr2] at hr
  have ep : b + (i : Int) + 1 = b + ((i + 1 : Nat) : Int) := by walk_at "o"
  cases r0 with
  | nil => simp [Ts.dats] at hr
  | cons t0 r =>
    simp only [Ts.dats, List.cons.injEq] at hr
    obtain ⟨rfl, hr⟩ := hr
    have z := h.co.sizes
    have z2 := h.sizes
    have z0 := t0.size_pos
    obtain ⟨k1, k2, k3, k4, k5⟩ := kk h.co.place.2.1 h.co.place.2.2 ⟨by walk_at "o", by walk_at "o", by walk_at "o"⟩ ep
    rw [← ep] at k1 k2 k3 k4 k5
    cases t0 with
    | v n =>
      cases hg : mget s.tb n with
      | some a => exact k1 n a r hg (h.v1 hg) hr
      | none => exact k2 n r hg (h.v2 hg) hr
    | k u a =>
      have l := h.co.law.1
      simp only [T.Law] at l
      rcases l with ⟨rfl, _⟩ | rfl
      · exact k3 a r h.cst hr
      · exact k4 a r h.cst hr
    | s a f l =>
      have l0 := h.co.law.1
      simp only [T.Law] at l0
      exact k5 a f l r l0.1 (by have := l0.1.pos; walk_at "o") h.cmp hr
theorem PT.out {ds : List PyData} (h : PT cs tb t c k m p s r) (hr : r.dats = ds.drop ds.length) : PO cs tb t c s (k + 1) ∧ 2 * szP (s.Wt.drop (k + 1)) + (s.Wt.length - (k + 1)) < m := by
  rw [List.drop_length] at hr
  obtain rfl : r = .nil := by cases r with | nil => rfl | cons t r => simp [Ts.dats] at hr
  obtain ⟨⟨D, P, hL, lo, gr, an, al, s1, s2⟩, kl, w, lt⟩ := h
  simp only [szP, Ts.size, Nat.zero_add] at s1 s2 w lt
  exact ⟨⟨⟨D.done, P.done, fun e he => hL e (.tail _ he), fun q hq => lo q (by simpa [places, Ts.len] using hq), gr, an, al, s1, s2⟩, kl, w⟩, lt⟩
theorem PO.go (h : PO cs tb t c s k) (hk : (k : Int) < ((s.Wt.map wdat).length : Int)) (hs : t.size ≤ 400) {q : Prop} (kk : ∀ b lb, (s.Wt.map wdat)[((k : Nat) : Int).toNat]? = some (.tuple [.int b, .tuple lb.dats]) → 0 ≤ (k : Int) ∧ (k : Int) < 2 ^ 63 → PT cs tb t c k (2 * szP (s.Wt.drop k) + (s.Wt.length - k)) (b + ((0 : Nat) : Int)) s lb → q) : q := by
  have hk' : k < s.Wt.length := by rw [List.length_map] at hk; walk_at "o"
  obtain ⟨⟨b, lb⟩, he⟩ : ∃ e, s.Wt[k]? = some e := ⟨_, List.getElem?_eq_getElem hk'⟩
  have hdr : s.Wt.drop k = (b, lb) :: s.Wt.drop (k + 1) := by
    rw [List.drop_eq_getElem_cons hk']; congr 1; exact Option.some.inj ((List.getElem?_eq_getElem hk').symm.trans he)
  have eb0 : b + ((0 : Nat) : Int) = b := by walk_at "o"
  have w := h.w
  refine kk b lb (by rw [Int.toNat_natCast, List.getElem?_map, he]; rfl) ⟨by walk_at "o", by walk_at "o"⟩ ?_
  have co := h.co
  rw [hdr] at co w ⊢
  rw [eb0]
  simp only [szP] at w ⊢
  exact ⟨co, hk', w, by walk_at "o"⟩
theorem PO.start {cs : List (Int × Int)} {tb : Mp} (pd : Pd cs tb []) (law : (T.s a f l).Law) : PO cs tb (.s a f l) (tagOf f, cs.length) ⟨cs ++ blk cs.length f l.len, tb, [(baseB cs.length f, l)], [(cs.length : Int)]⟩ 0 := by
  simp only [T.Law] at law
  have D0 := pd.alloc f l
  rw [List.nil_append] at D0
  have bl := blk_length cs.length f l.len
  have b4 : (blk cs.length f l.len).length ≤ 4 ∧ 0 < (blk cs.length f l.len).length := by have := law.1.pos; rw [bl]; split <;> walk_at "o"
  have z0 : (T.s a f l).size = l.size + 1 := by simp only [T.size]
  refine ⟨⟨D0, Promise.start (a := a) pd law.1, ?_, ?_, (Grew.refl cs tb).app _, by simp, ?_, ?_, ?_⟩, Nat.zero_le _, ?_⟩ <;> dsimp only
  · intro e he; rw [List.drop_zero, List.mem_singleton] at he; rw [he]; exact law.2
  · intro q hq
    simp only [List.drop_zero, places, List.append_nil] at hq
    obtain ⟨j, _, rfl⟩ := List.mem_map.mp hq
    have := baseB_le cs.length f; walk_at "o"
  · intro q hq; rw [List.mem_singleton.mp hq, List.length_append]; walk_at "o"
  · simp only [List.drop_zero, szP, List.length_append]; walk_at "o"
  · simp only [List.drop_zero, szP]; walk_at "o"
  · simp only [List.drop_zero, szP, List.length_singleton]; walk_at "o"
theorem PO.fin (h : PO cs tb t c s k) (hk : ¬ (k : Int) < ((s.Wt.map wdat).length : Int)) : ∃ t', Built cs tb t s.cs s.tb t' ∧ t'.cell = c := by
  rw [List.length_map] at hk
  have dn : s.Wt.drop k = [] := List.drop_eq_nil_of_le (by walk_at "o")
  have co := h.co
  rw [dn] at co
  have q1 := co.s1
  have q2 := co.s2
  simp only [szP] at q1 q2
  obtain ⟨t', i1, i2, i3, i4⟩ := co.P s.cs s.tb ⟨Nat.le_refl _, fun _ _ _ => rfl, fun _ _ h => h, fun n a h => ⟨(co.D.tbk n a h).1, (co.D.tbk n a h).2.1⟩⟩ [] .nil
  simp only [addrsL, List.append_nil] at i4
  exact ⟨t', ⟨co.gr, co.D, i1, i2, i4.nodup_iff.mpr co.an, by walk_at "o", by walk_at "o"⟩, i3⟩
end
theorem base_tag {f : Int} {L : Nat} : baseF (tagOf f, (L : Int)) = baseB L f := by unfold baseF tagOf baseB; by_cases z : f = 0 <;> simp [z]
theorem wdat_app {W : Pend} {b : Int} {l : Ts} : W.map wdat ++ [.tuple [.int b, .tuple l.dats]] = (W ++ [(b, l)]).map wdat := by rw [List.map_append]; rfl
theorem five_four : ¬ (5 : Int) = 4 := by decide
noncomputable abbrev pendN (wl tl x : Addr) (cs : List (Int × Int)) (f : Int) (k : Nat) : NL := [("at", .d (.int (k : Nat))), ("waiting", .r wl), ("made", .d (cd (tagOf f) cs.length)), ("table", .r tl), ("self", .r x)]
noncomputable abbrev pendN1 (wl tl x : Addr) (cs : List (Int × Int)) (f : Int) (k : Nat) : NL := [("at", .d (.int ((k : Nat) + 1))), ("waiting", .r wl), ("made", .d (cd (tagOf f) cs.length)), ("table", .r tl), ("self", .r x)]
noncomputable abbrev pendP (wl tl x dx H sy ST TR : Addr) (mh hb bb : Tok) (dsy TX AN FU FN : Addr) (fs : List (Int × Int)) (s : PS) : PL := (wl, true, Tr.ldat (s.Wt.map wdat)) :: tabP tl s.tb x dx H sy ST TR mh hb bb s.cs dsy TX AN FU FN fs
local macro_rules | `(tactic| walk_at "spc") => `(tactic| with_reducible first | (exact base_fn (by assumption)) | fail "spc")
local macro_rules | `(tactic| walk_at "spe") => `(tactic| with_reducible first | (refine' new_var_fn (by assumption) ?_) | (refine' new_block_fn (by assumption) ?_ ?_ ?_) | fail "spe")
set_option maxHeartbeats 8000000 in
theorem put_term_fn {t : T} (G : Gr (KK w.params) B) (law : t.Law) (fk : FsOk fs) (pd : Pd cs tb []) (hs : t.size ≤ 400) (ht : tb.length ≤ 400) (hz : cs.length ≤ 4000) :
    EFn prog w B 4 [H, tl] (tabP tl tb x dx H sy ST TR mh hb bb cs dsy TX AN FU FN fs) 363 [.r x, .d t.dat, .r tl] (ι := List (Int × Int) × Mp × T) (fun i => Built cs tb t i.1 i.2.1 i.2.2) (fun i => .d (cdp i.2.2.cell)) (fun i => [(H, .ldat (i.1.map cdp)), (tl, .ddat (tbDat i.2.1))]) (fun _ => []) := by
  refine' (EFn.of (n := [("table", .r tl), ("term", .d t.dat), ("self", .r x)]) G is_363 (by rfl) (by rfl) fun C R X hX hR hE => ?_)
  replace hX : ∀ cs' tb' t' lt la P', Built cs tb t cs' tb' t' → t'.cell = (lt, la) → (H, true, Tr.ldat (cs'.map cdp)) ∈ P' → (tl, true, Tr.ddat (tbDat tb')) ∈ P' → X (.d (cd lt la)) P' := fun cs' tb' t' lt la P' b e m1 m2 =>
    hX (cs', tb', t') P' _ b (by rw [e]) (fun q hq => by
      rcases List.mem_cons.mp hq with rfl | hq
      · exact ⟨_, m1⟩
      · rw [List.mem_singleton.mp hq]; exact ⟨_, m2⟩) (List.nil_sublist _) (fun q hq => nomatch hq)
  have htl : (tbDat tb).length < 1000 := by unfold tbDat; rw [List.length_map]; walk_at "o"
  have hzv : cs.length < 100000 := by walk_at "o"
  walk_at "nm"
  refine' Wb.forF ?qf (fun kl _ => ?qi) (fun _ => rfl)
  case qf => walk_at "ef"
  refine' IterB.list (ι := Unit) (ds := (tbDat tb).map fun kd => PyData.int kd.1) (N := fun _ _ => [("table", .r tl), ("term", .d t.dat), ("self", .r x)]) (PP := fun _ _ => (kl, true, Tr.ldat ((tbDat tb).map fun kd => PyData.int kd.1)) :: tabP tl tb x dx H sy ST TR mh hb bb cs dsy TX AN FU FN fs)
    (H := fun _ _ => True) hR () trivial (fun _ _ => .head _) ⟨rfl, rfl, rfl, trivial⟩ (List.Sublist.refl _) (fun R' I i j d T hR' hT hd _ => ?qb) (fun j _ => ?qd) rfl
  case qb =>
    rw [List.getElem?_map] at hd
    obtain ⟨kd, ha, rfl⟩ := Option.map_eq_some_iff.mp hd
    unfold tbDat at ha
    rw [List.getElem?_map] at ha
    obtain ⟨en, ha2, rfl⟩ := Option.map_eq_some_iff.mp ha
    obtain ⟨a, hg⟩ := mget_key (List.mem_of_getElem? ha2)
    have hk : kget (tbDat tb) en.1 = some (cd 0 a) := by rw [tbDat_get, hg]; rfl
    walk_at "nm"
    ((with_reducible refine' Wb.ite_f ?wcx163 ?wpx163 ?wfx163); (case wcx163 => walk_at "evp"); (case wpx163 => first | assumption | decide); (case' wfx163 => walk_at "nm"))
    exact Wb.turn hT () trivial ⟨rfl, rfl, rfl, trivial⟩ (List.Sublist.refl _)
  refine Wb.less (n := [("table", .r tl), ("term", .d t.dat), ("self", .r x)]) ⟨rfl, rfl, rfl, trivial⟩ (List.sublist_cons_self _ _) ?_
  cases t with
  | v n =>
    simp only [T.dat]
    cases hg : mget tb n with
    | some a =>
      have hk : ¬ kget (tbDat tb) n = none := by rw [tbDat_get, hg]; exact fun q => nomatch q
      have hk2 : kget (tbDat tb) n = some (cd 0 a) := by rw [tbDat_get, hg]; rfl
      obtain ⟨a0, a1, a2⟩ := pd.tbk n a hg
      walk_at "nm"
      ((with_reducible refine' Wb.asg ?wcx164 ?wkx164 ?wlx164 ?wex164); (case wlx164 => rfl); (case wex164 => rfl); (case wcx164 => walk_at "ev"); (case' wkx164 => walk_at "nm"))
      ((with_reducible refine' Wb.ite_t ?wcx165 ?wpx165 ?wtx165); (case wcx165 => walk_at "evp"); (case wpx165 => first | exact rfl | assumption | decide); (case' wtx165 => walk_at "nm"))
      ((with_reducible refine' Wb.ite_f ?wcx166 ?wpx166 ?wfx166); (case wcx166 => walk_at "evp"); (case wpx166 => first | assumption | decide); (case' wfx166 => walk_at "nm"))
      ((with_reducible refine' Wb.ret (by assumption) ?wcx167 ?wxx167); (case wcx167 => walk_at "ev"))
      exact hX cs tb (.v a) 0 a _ ⟨Grew.refl cs tb, pd, by simp only [T.Im]; exact hg, by simp only [T.In]; exact ⟨a0, a1⟩, by simp [T.addrs], by walk_at "o", by walk_at "o"⟩ rfl (by walk_at "mem") (by walk_at "mem")
    | none =>
      have hk : kget (tbDat tb) n = none := by rw [tbDat_get, hg]; rfl
      have hk3 : kget (kput (tbDat tb) n (cd 0 cs.length)) n = some (cd 0 cs.length) := by rw [tbDat_put hg, tbDat_get, (mget_add hg).mpr (.inr ⟨rfl, rfl⟩)]; rfl
      have p1 := pd.alloc 0 (.cons (.v n) .nil)
      have eb : cs ++ blk cs.length 0 1 = cs ++ [((0 : Int), (cs.length : Int))] := by simp [blk]
      simp only [Ts.len, eb, baseB, if_true, List.nil_append] at p1
      have p2 := (p1.new (n := n) hg).done
      have hm := (mget_add (p := (cs.length : Int)) hg).mpr (.inr ⟨rfl, rfl⟩)
      obtain ⟨a0, a1, a2⟩ := p2.tbk n _ hm
      walk_at "nm"
      ((with_reducible refine' Wb.asg ?wcx168 ?wkx168 ?wlx168 ?wex168); (case wlx168 => rfl); (case wex168 => rfl); (case wcx168 => walk_at "ev"); (case' wkx168 => walk_at "nm"))
      ((with_reducible refine' Wb.ite_t ?wcx169 ?wpx169 ?wtx169); (case wcx169 => walk_at "evp"); (case wpx169 => first | exact rfl | assumption | decide); (case' wtx169 => walk_at "nm"))
      ((with_reducible refine' Wb.ite_t ?wcx170 ?wpx170 ?wtx170); (case wcx170 => walk_at "evp"); (case wpx170 => first | exact rfl | assumption | decide); (case' wtx170 => walk_at "nm"))
      ((with_reducible refine' Wb.setDF ?s1x171 ?s2x171 ?s3x171 ?s4x171 ?s5x171 ?wkx171 ?s6x171); (case s6x171 => k_dflt rfl); (case s1x171 => walk_at "ef"); (case s2x171 => intro _; walk_at "ev"); (case s3x171 => intro _; walk_at "ev"); (case s4x171 => intro _; k_dflt (walk_at "put")); (case s5x171 => assumption); (case' wkx171 => intro _ _; walk_at "nm"))
      ((with_reducible refine' Wb.ret (by assumption) ?wcx172 ?wxx172); (case wcx172 => walk_at "ev"))
      exact hX (cs ++ [(0, (cs.length : Int))]) (tb ++ [(n, (cs.length : Int))]) (.v cs.length) 0 cs.length _
        ⟨(Grew.refl cs tb).app _ |>.var hg (Int.le_refl _), p2, by simp only [T.Im]; exact hm, by simp only [T.In]; exact ⟨a0, a1⟩, by simp [T.addrs], by simp [T.size], by simp [T.size]⟩ rfl (by walk_at "mem") (by rw [← tbDat_put hg]; walk_at "mem")
  | k u a =>
    have law' := law
    simp only [T.Law] at law'
    by_cases h4 : u = 4
    · subst h4
      simp only [T.dat, if_true]
      walk_at "nm"
      ((with_reducible refine' Wb.asg ?wcx173 ?wkx173 ?wlx173 ?wex173); (case wlx173 => rfl); (case wex173 => rfl); (case wcx173 => walk_at "ev"); (case' wkx173 => walk_at "nm"))
      ((with_reducible refine' Wb.ite_f ?wcx174 ?wpx174 ?wfx174); (case wcx174 => walk_at "evp"); (case wpx174 => first | assumption | decide); (case' wfx174 => walk_at "nm"))
      ((with_reducible refine' Wb.ite_t ?wcx175 ?wpx175 ?wtx175); (case wcx175 => walk_at "evp"); (case wpx175 => first | exact rfl | assumption | decide); (case' wtx175 => walk_at "nm"))
      ((with_reducible refine' Wb.ret (by assumption) ?wcx176 ?wxx176); (case wcx176 => walk_at "ev"))
      exact hX cs tb (.k 4 a) 4 a _ ⟨Grew.refl cs tb, pd, by simp [T.Im], by unfold T.In; exact law', by simp [T.addrs], by walk_at "o", by walk_at "o"⟩ rfl (by walk_at "mem") (by walk_at "mem")
    · obtain rfl : u = 5 := by walk_at "o"
      simp only [T.dat, if_neg h4]
      walk_at "nm"
      ((with_reducible refine' Wb.asg ?wcx177 ?wkx177 ?wlx177 ?wex177); (case wlx177 => rfl); (case wex177 => rfl); (case wcx177 => walk_at "ev"); (case' wkx177 => walk_at "nm"))
      ((with_reducible refine' Wb.ite_f ?wcx178 ?wpx178 ?wfx178); (case wcx178 => walk_at "evp"); (case wpx178 => first | assumption | decide); (case' wfx178 => walk_at "nm"))
      ((with_reducible refine' Wb.ite_f ?wcx179 ?wpx179 ?wfx179); (case wcx179 => walk_at "evp"); (case wpx179 => first | assumption | decide); (case' wfx179 => walk_at "nm"))
      ((with_reducible refine' Wb.ite_t ?wcx180 ?wpx180 ?wtx180); (case wcx180 => walk_at "evp"); (case wpx180 => first | exact rfl | assumption | decide); (case' wtx180 => walk_at "nm"))
      ((with_reducible refine' Wb.ret (by assumption) ?wcx181 ?wxx181); (case wcx181 => walk_at "ev"))
      exact hX cs tb (.k 5 a) 5 a _ ⟨Grew.refl cs tb, pd, by simp [T.Im], by unfold T.In; exact law', by simp [T.addrs], by walk_at "o", by walk_at "o"⟩ rfl (by walk_at "mem") (by walk_at "mem")
  | s a f l =>
    have law' := law
    simp only [T.Law] at law'
    have fm := law'.1
    have hz2 : cs.length + l.len + 1 < 100000 := by have := fm.pos; walk_at "o"
    have o0 := PO.start (cs := cs) (tb := tb) pd law
    clear pd law' htl hzv
    simp only [T.dat]
    walk_at "nm"
    ((with_reducible refine' Wb.asg ?wcx182 ?wkx182 ?wlx182 ?wex182); (case wlx182 => rfl); (case wex182 => rfl); (case wcx182 => walk_at "ev"); (case' wkx182 => walk_at "nm"))
    ((with_reducible refine' Wb.ite_f ?wcx183 ?wpx183 ?wfx183); (case wcx183 => walk_at "evp"); (case wpx183 => first | assumption | decide); (case' wfx183 => walk_at "nm"))
    ((with_reducible refine' Wb.ite_f ?wcx184 ?wpx184 ?wfx184); (case wcx184 => walk_at "evp"); (case wpx184 => first | assumption | decide); (case' wfx184 => walk_at "nm"))
    ((with_reducible refine' Wb.ite_f ?wcx185 ?wpx185 ?wfx185); (case wcx185 => walk_at "evp"); (case wpx185 => first | assumption | decide); (case' wfx185 => walk_at "nm"))
    ((with_reducible refine' Wb.asgF ?wcx186 ?wkx186 ?wlx186 ?wex186); (case wlx186 => k_dflt rfl); (case wex186 => k_dflt rfl); (case wcx186 => walk_at "ef"); (case' wkx186 => intro aZ _; walk_at "nm"))
    ((with_reducible refine' Wb.asgF ?wcx187 ?wkx187 ?wlx187 ?wex187); (case wlx187 => k_dflt rfl); (case wex187 => k_dflt rfl); (case wcx187 => walk_at "ef"); (case' wkx187 => intro aZ _; walk_at "nm"))
    rename Addr => wl
    rw [base_tag]
    ((with_reducible refine' Wb.asg ?wcx188 ?wkx188 ?wlx188 ?wex188); (case wlx188 => rfl); (case wex188 => rfl); (case wcx188 => walk_at "ev"); (case' wkx188 => walk_at "nm"))
    refine' Wb.whl (ι := PS × Nat) (N := fun i => pendN wl tl x cs f i.2) (PP := fun i => pendP wl tl x dx H sy ST TR mh hb bb dsy TX AN FU FN fs i.1)
      (H := fun i => PO cs tb (.s a f l) (tagOf f, cs.length) i.1 i.2) (μ := fun i => 2 * szP (i.1.Wt.drop i.2) + (i.1.Wt.length - i.2)) (pp := fun i => ((i.2 : Nat) : Int) < ((i.1.Wt.map wdat).length : Int))
      hR (_, 0) o0 ⟨rfl, rfl, rfl, rfl, rfl, trivial⟩ (List.Sublist.refl _) (fun i hi => ?wc) (fun R' i hR' hT hi hp => ?wb) (fun i hi hp => ?wd)
    case wc =>
      have hw30 : (i.1.Wt.map wdat).length < 2 ^ 30 := by have := hi.w; rw [List.length_map]; walk_at "o"
      walk_at "evp"
    case wd =>
      obtain ⟨t', b1, e1⟩ := hi.fin hp
      walk_at "nm"
      ((with_reducible refine' Wb.ret (by assumption) ?wcx189 ?wxx189); (case wcx189 => walk_at "ev"))
      exact hX _ _ t' _ _ _ b1 e1 (by walk_at "mem") (by walk_at "mem")
    case wb =>
      refine hi.go hp hs fun b lb hget hk0 h0 => ?_
      have hk1 := hk0.1
      have hk2 := hk0.2
      clear hi hp hk0 hR o0
      walk_at "nm"
      ((with_reducible refine' Wb.asg2 ?wex190 ?wkx190 ?w1x190 ?w2x190 ?w3x190 ?w4x190); (case w1x190 => k_dflt rfl); (case w2x190 => k_dflt rfl); (case w3x190 => k_dflt rfl); (case w4x190 => k_dflt rfl); (case wex190 => walk_at "ef"); (case' wkx190 => walk_at "nm"))
      ((with_reducible refine' Wb.inc ?w0x191 ?w1x191 ?wkx191 ?w2x191); (case w0x191 => k_dflt rfl); (case w2x191 => k_dflt rfl); (case w1x191 => walk_at "ev"); (case' wkx191 => walk_at "nm"))
      refine' Wb.forT (ι := PS × Ts) (ds := lb.dats) (N := fun j _ => ("place", .d (.int (b + (j : Nat)))) :: pendN1 wl tl x cs f i.2) (PP := fun _ j => pendP wl tl x dx H sy ST TR mh hb bb dsy TX AN FU FN fs j.1)
        (H := fun n j => j.2.dats = lb.dats.drop n ∧ PT cs tb (.s a f l) (tagOf f, cs.length) i.2 (2 * szP (i.1.Wt.drop i.2) + (i.1.Wt.length - i.2)) (b + (n : Int)) j.1 j.2)
        hR' (i.1, lb) ⟨by simp, h0⟩ ?pe ⟨by rw [Int.add_zero b |> (fun e => (show b + ((0 : Nat) : Int) = b from e))]; rfl, rfl, rfl, rfl, rfl, rfl, trivial⟩ (List.Sublist.refl _)
        (fun C' R'' I n j d T2 hR2 hT2 hdi hj => ?pb) (fun j hj => ?pd) rfl (fun _ => rfl)
      case pe => walk_at "ev"
      case pd =>
        have q := hj.2.out hj.1
        exact Wb.turn hT (j.1, i.2 + 1) ⟨q.1, q.2⟩ ⟨rfl, rfl, rfl, rfl, rfl, trivial⟩ (List.Sublist.refl _)
      case pb =>
        have hr := hj.1
        have h1 := hj.2
        clear hj hT hR' h0 hget
        refine PT.item h1 hr hdi hs ht hz (q := fun d => Wb C' (("item", .d d) :: ("place", .d (.int (b + (n : Nat)))) :: pendN1 wl tl x cs f i.2) ((I, true, T2) :: pendP wl tl x dx H sy ST TR mh hb bb dsy TX AN FU FN fs j.1) _ R'') fun c0 c1 c2 ep => ?_
        clear h1 hr hdi hs ht hz hR2
        have htl2 : (tbDat j.1.tb).length < 1000 := by unfold tbDat; rw [List.length_map]; exact c2.2.1
        have hsz : b + (n : Int) < ((j.1.cs.map cdp).length : Int) := by rw [List.length_map]; exact c1
        have hcs := c2.1
        refine ⟨fun m a r hg h2 hr2 => ?_, fun m r hg h2 hr2 => ?_, fun a r h2 hr2 => ?_, fun a r h2 hr2 => ?_, fun a1 f1 l1 r fm1 hz3 h2 hr2 => ?_⟩
        · have hk1 : (kget (tbDat j.1.tb) m).isSome = true := by rw [tbDat_get, hg]; rfl
          have hk2 : kget (tbDat j.1.tb) m = some (cd 0 a) := by rw [tbDat_get, hg]; rfl
          simp only [T.dat]
          walk_at "nm"
          ((with_reducible refine' Wb.asg ?wcx192 ?wkx192 ?wlx192 ?wex192); (case wlx192 => rfl); (case wex192 => rfl); (case wcx192 => walk_at "ev"); (case' wkx192 => walk_at "nm"))
          ((with_reducible refine' Wb.ite_t ?wcx193 ?wpx193 ?wtx193); (case wcx193 => walk_at "evp"); (case wpx193 => first | exact rfl | assumption | decide); (case' wtx193 => walk_at "nm"))
          ((with_reducible refine' Wb.ite_t ?wcx194 ?wpx194 ?wtx194); (case wcx194 => walk_at "evp"); (case wpx194 => first | exact rfl | assumption | decide); (case' wtx194 => walk_at "nm"))
          ((with_reducible refine' Wb.setL ?s1x195 ?s2x195 ?s3x195 ?s4x195 ?s5x195 ?s7x195 ?s8x195 ?wkx195 ?s6x195); (case s6x195 => k_dflt rfl); (case s1x195 => walk_at "ev"); (case s2x195 => walk_at "ev"); (case s3x195 => walk_at "ev"); (case s4x195 => k_dflt (walk_at "put")); (case s5x195 => k_dflt (first | with_reducible assumption | omega)); (case s7x195 => k_dflt (first | with_reducible assumption | omega)); (case s8x195 => k_dflt (walk_at "sz")); (case' wkx195 => walk_at "nm"))
          ((with_reducible refine' Wb.inc ?w0x196 ?w1x196 ?wkx196 ?w2x196); (case w0x196 => k_dflt rfl); (case w2x196 => k_dflt rfl); (case w1x196 => walk_at "ev"); (case' wkx196 => walk_at "nm"))
          rw [map_set2, ep]
          exact Wb.turn hT2 (_, r) ⟨hr2, h2⟩ ⟨rfl, rfl, rfl, rfl, rfl, rfl, trivial⟩ (List.Sublist.refl _)
        · have hk1 : ¬ (kget (tbDat j.1.tb) m).isSome = true := by rw [tbDat_get, hg]; exact Bool.false_ne_true
          simp only [T.dat]
          walk_at "nm"
          ((with_reducible refine' Wb.asg ?wcx197 ?wkx197 ?wlx197 ?wex197); (case wlx197 => rfl); (case wex197 => rfl); (case wcx197 => walk_at "ev"); (case' wkx197 => walk_at "nm"))
          ((with_reducible refine' Wb.ite_t ?wcx198 ?wpx198 ?wtx198); (case wcx198 => walk_at "evp"); (case wpx198 => first | exact rfl | assumption | decide); (case' wtx198 => walk_at "nm"))
          ((with_reducible refine' Wb.ite_f ?wcx199 ?wpx199 ?wfx199); (case wcx199 => walk_at "evp"); (case wpx199 => first | assumption | decide); (case' wfx199 => walk_at "nm"))
          ((with_reducible refine' Wb.setD ?s1x200 ?s2x200 ?s3x200 ?s4x200 ?s5x200 ?wkx200 ?s6x200); (case s6x200 => k_dflt rfl); (case s1x200 => walk_at "ev"); (case s2x200 => walk_at "ev"); (case s3x200 => walk_at "ev"); (case s4x200 => k_dflt (walk_at "put")); (case s5x200 => assumption); (case' wkx200 => walk_at "nm"))
          ((with_reducible refine' Wb.inc ?w0x201 ?w1x201 ?wkx201 ?w2x201); (case w0x201 => k_dflt rfl); (case w2x201 => k_dflt rfl); (case w1x201 => walk_at "ev"); (case' wkx201 => walk_at "nm"))
          rw [tbDat_put hg, ep]
          exact Wb.turn hT2 (_, r) ⟨hr2, h2⟩ ⟨rfl, rfl, rfl, rfl, rfl, rfl, trivial⟩ (List.Sublist.refl _)
        · simp only [T.dat, if_true]
          walk_at "nm"
          ((with_reducible refine' Wb.asg ?wcx202 ?wkx202 ?wlx202 ?wex202); (case wlx202 => rfl); (case wex202 => rfl); (case wcx202 => walk_at "ev"); (case' wkx202 => walk_at "nm"))
          ((with_reducible refine' Wb.ite_f ?wcx203 ?wpx203 ?wfx203); (case wcx203 => walk_at "evp"); (case wpx203 => first | assumption | decide); (case' wfx203 => walk_at "nm"))
          ((with_reducible refine' Wb.ite_t ?wcx204 ?wpx204 ?wtx204); (case wcx204 => walk_at "evp"); (case wpx204 => first | exact rfl | assumption | decide); (case' wtx204 => walk_at "nm"))
          ((with_reducible refine' Wb.setL ?s1x205 ?s2x205 ?s3x205 ?s4x205 ?s5x205 ?s7x205 ?s8x205 ?wkx205 ?s6x205); (case s6x205 => k_dflt rfl); (case s1x205 => walk_at "ev"); (case s2x205 => walk_at "ev"); (case s3x205 => walk_at "ev"); (case s4x205 => k_dflt (walk_at "put")); (case s5x205 => k_dflt (first | with_reducible assumption | omega)); (case s7x205 => k_dflt (first | with_reducible assumption | omega)); (case s8x205 => k_dflt (walk_at "sz")); (case' wkx205 => walk_at "nm"))
          ((with_reducible refine' Wb.inc ?w0x206 ?w1x206 ?wkx206 ?w2x206); (case w0x206 => k_dflt rfl); (case w2x206 => k_dflt rfl); (case w1x206 => walk_at "ev"); (case' wkx206 => walk_at "nm"))
          rw [map_set2, ep]
          exact Wb.turn hT2 (_, r) ⟨hr2, h2⟩ ⟨rfl, rfl, rfl, rfl, rfl, rfl, trivial⟩ (List.Sublist.refl _)
        · simp only [T.dat, if_neg five_four]
          walk_at "nm"
          ((with_reducible refine' Wb.asg ?wcx207 ?wkx207 ?wlx207 ?wex207); (case wlx207 => rfl); (case wex207 => rfl); (case wcx207 => walk_at "ev"); (case' wkx207 => walk_at "nm"))
          ((with_reducible refine' Wb.ite_f ?wcx208 ?wpx208 ?wfx208); (case wcx208 => walk_at "evp"); (case wpx208 => first | assumption | decide); (case' wfx208 => walk_at "nm"))
          ((with_reducible refine' Wb.ite_f ?wcx209 ?wpx209 ?wfx209); (case wcx209 => walk_at "evp"); (case wpx209 => first | assumption | decide); (case' wfx209 => walk_at "nm"))
          ((with_reducible refine' Wb.ite_t ?wcx210 ?wpx210 ?wtx210); (case wcx210 => walk_at "evp"); (case wpx210 => first | exact rfl | assumption | decide); (case' wtx210 => walk_at "nm"))
          ((with_reducible refine' Wb.setL ?s1x211 ?s2x211 ?s3x211 ?s4x211 ?s5x211 ?s7x211 ?s8x211 ?wkx211 ?s6x211); (case s6x211 => k_dflt rfl); (case s1x211 => walk_at "ev"); (case s2x211 => walk_at "ev"); (case s3x211 => walk_at "ev"); (case s4x211 => k_dflt (walk_at "put")); (case s5x211 => k_dflt (first | with_reducible assumption | omega)); (case s7x211 => k_dflt (first | with_reducible assumption | omega)); (case s8x211 => k_dflt (walk_at "sz")); (case' wkx211 => walk_at "nm"))
          ((with_reducible refine' Wb.inc ?w0x212 ?w1x212 ?wkx212 ?w2x212); (case w0x212 => k_dflt rfl); (case w2x212 => k_dflt rfl); (case w1x212 => walk_at "ev"); (case' wkx212 => walk_at "nm"))
          rw [map_set2, ep]
          exact Wb.turn hT2 (_, r) ⟨hr2, h2⟩ ⟨rfl, rfl, rfl, rfl, rfl, rfl, trivial⟩ (List.Sublist.refl _)
        · have hsz2 : b + (n : Int) < (((j.1.cs ++ blk j.1.cs.length f1 l1.len).map cdp).length : Int) := by rw [List.length_map, List.length_append]; walk_at "o"
          have hwl2 : (j.1.Wt.map wdat).length < 2 ^ 20 := by rw [List.length_map]; walk_at "o"
          simp only [T.dat]
          walk_at "nm"
          ((with_reducible refine' Wb.asg ?wcx213 ?wkx213 ?wlx213 ?wex213); (case wlx213 => rfl); (case wex213 => rfl); (case wcx213 => walk_at "ev"); (case' wkx213 => walk_at "nm"))
          ((with_reducible refine' Wb.ite_f ?wcx214 ?wpx214 ?wfx214); (case wcx214 => walk_at "evp"); (case wpx214 => first | assumption | decide); (case' wfx214 => walk_at "nm"))
          ((with_reducible refine' Wb.ite_f ?wcx215 ?wpx215 ?wfx215); (case wcx215 => walk_at "evp"); (case wpx215 => first | assumption | decide); (case' wfx215 => walk_at "nm"))
          ((with_reducible refine' Wb.ite_f ?wcx216 ?wpx216 ?wfx216); (case wcx216 => walk_at "evp"); (case wpx216 => first | assumption | decide); (case' wfx216 => walk_at "nm"))
          ((with_reducible refine' Wb.asgF ?wcx217 ?wkx217 ?wlx217 ?wex217); (case wlx217 => k_dflt rfl); (case wex217 => k_dflt rfl); (case wcx217 => walk_at "ef"); (case' wkx217 => intro aZ _; walk_at "nm"))
          ((with_reducible refine' Wb.setL ?s1x218 ?s2x218 ?s3x218 ?s4x218 ?s5x218 ?s7x218 ?s8x218 ?wkx218 ?s6x218); (case s6x218 => k_dflt rfl); (case s1x218 => walk_at "ev"); (case s2x218 => walk_at "ev"); (case s3x218 => walk_at "ev"); (case s4x218 => k_dflt (walk_at "put")); (case s5x218 => k_dflt (first | with_reducible assumption | omega)); (case s7x218 => k_dflt (first | with_reducible assumption | omega)); (case s8x218 => k_dflt (walk_at "sz")); (case' wkx218 => walk_at "nm"))
          ((with_reducible refine' Wb.expr ?wex219 ?wnx219 ?wkx219 ?w1x219); (case w1x219 => k_dflt rfl); (case wex219 => walk_at "ef"); (case wnx219 => intro _; k_dflt rfl); (case' wkx219 => intro _ _; walk_at "nm"))
          ((with_reducible refine' Wb.inc ?w0x220 ?w1x220 ?wkx220 ?w2x220); (case w0x220 => k_dflt rfl); (case w2x220 => k_dflt rfl); (case w1x220 => walk_at "ev"); (case' wkx220 => walk_at "nm"))
          rw [map_set2, base_tag, ep, wdat_app]
          exact Wb.turn hT2 (_, r) ⟨hr2, h2⟩ ⟨rfl, rfl, rfl, rfl, rfl, rfl, trivial⟩ (List.Sublist.refl _)
end
end
section
local macro_rules | `(tactic| walk_at "sget") => `(tactic| ((with_reducible refine' Ev.sget ?e1 ?e2 ?e3 ?e4 ?e5 ?e6 ?e7); (case e4 => k_dflt rfl); (case e5 => k_dflt rfl); (case e1 => walk_at "ev"); (case e2 => walk_at "ev"); (case e3 => walk_at "ev"); (case e6 => k_dflt (walk_at "mem")); (case e7 => k_dflt assumption)))
local macro_rules | `(tactic| walk_at "hget") => `(tactic| ((with_reducible refine' Ev.hget ?e1 ?e2 ?e3 ?e4 ?e5 ?e6 ?e7); (case e4 => k_dflt rfl); (case e5 => k_dflt rfl); (case e1 => walk_at "ev"); (case e2 => walk_at "ev"); (case e3 => walk_at "ev"); (case e6 => k_dflt (walk_at "mem")); (case e7 => k_dflt assumption)))
local macro_rules | `(tactic| walk_at "evc") => `(tactic| first | walk_at "sget" | walk_at "hget")
local macro_rules | `(tactic| walk_at "setS") => `(tactic| ((with_reducible refine' Wb.setS ?s1 ?s2 ?s3 ?s4 ?s5 ?s6 ?wk ?s7); (case s7 => k_dflt rfl); (case s1 => walk_at "ev"); (case s2 => walk_at "ev"); (case s3 => walk_at "ev"); (case s4 => k_dflt (walk_at "put")); (case s5 => assumption); (case s6 => assumption); (case' wk => walk_at "nm")))
local macro_rules | `(tactic| walk_at "setH") => `(tactic| ((with_reducible refine' Wb.setH ?s1 ?s2 ?s3 ?s4 ?s5 ?s6 ?wk ?s7); (case s7 => k_dflt rfl); (case s1 => walk_at "ev"); (case s2 => walk_at "ev"); (case s3 => walk_at "ev"); (case s4 => k_dflt (walk_at "put")); (case s5 => assumption); (case s6 => assumption); (case' wk => walk_at "nm")))
section
variable {α K : Type} [DecidableEq K] (f : α → K)
noncomputable def ndat : List α → Nat → List (K × PyData)
  | [], _ => []
  | x :: r, n => (f x, .int (n : Nat)) :: ndat r (n + 1)
noncomputable def nidx : List α → Nat → K → Option Nat
  | [], _, _ => none
  | x :: r, n, k => if f x = k then some n else nidx r (n + 1) k
noncomputable def putN (l : List α) (x : α) : Int × List α := match nidx f l 0 (f x) with
  | some i => (((i : Nat) : Int), l)
  | none => ((l.length : Nat), l ++ [x])
theorem ndat_get : ∀ (l : List α) (n : Nat) (k : K), gget (ndat f l n) k = (nidx f l n k).map fun i => .int (i : Nat)
  | [], _, _ => rfl
  | x :: r, n, k => by
    have ih := ndat_get r (n + 1) k
    unfold gget at ih ⊢
    simp only [ndat, nidx, List.find?_cons]
    by_cases h : f x = k
    · simp [h]
    · simp only [h, decide_false, if_false]; exact ih
theorem ndat_add : ∀ (l : List α) (n : Nat) (x : α), ndat f (l ++ [x]) n = ndat f l n ++ [(f x, .int ((n + l.length : Nat) : Int))]
  | [], n, x => by simp [ndat]
  | y :: r, n, x => by
    simp only [List.cons_append, ndat, ndat_add r (n + 1) x, List.length_cons]
    rw [show n + 1 + r.length = n + (r.length + 1) by walk_at "o"]
theorem ndat_length : ∀ (l : List α) (n : Nat), (ndat f l n).length = l.length
  | [], _ => rfl
  | _ :: r, n => by simp only [ndat, List.length_cons, ndat_length r (n + 1)]
theorem putN_length (l : List α) (x : α) : (putN f l x).2.length ≤ l.length + 1 := by unfold putN; split <;> simp
end
section
variable {prog : Program} {w : World} {B : Heap}
variable {sy dsy T AN FU FN : Addr} {tx : List Str} {fs : List (Int × Int)}
noncomputable abbrev pk (c : Int × Int) : List Int := [c.1, c.2]
noncomputable abbrev txD (tx : List Str) : Tr := .ldat (tx.map PyData.str)
noncomputable abbrev anD (tx : List Str) : Tr := .sdat (ndat id tx 0)
noncomputable abbrev fuD (fs : List (Int × Int)) : Tr := .ldat (fs.map cdp)
noncomputable abbrev fnD (fs : List (Int × Int)) : Tr := .hdat (ndat pk fs 0)
noncomputable abbrev smP (sy dsy T AN FU FN : Addr) (b : Bool) (R : PL) : PL := (sy, b, .is (IsInst 154 dsy)) :: (dsy, b, .att (symG T AN FU FN) 4) :: R
noncomputable abbrev atP (T AN : Addr) (tx : List Str) (R : PL) : PL := (T, true, txD tx) :: (AN, true, anD tx) :: R
noncomputable abbrev fnP (FU FN : Addr) (fs : List (Int × Int)) (R : PL) : PL := (FU, true, fuD fs) :: (FN, true, fnD fs) :: R
theorem out2 {X : AV → PL → Prop} {a1 a2 : Addr} {t1 t2 : Tr} {mu : List Addr} {a : AV} {P' : PL} (hX : ∀ (i : Unit) P' a', True → a' = a → (∀ q ∈ [(a1, t1), (a2, t2)], ∃ b, (q.1, b, q.2) ∈ P') → [].Sublist P' → (∀ q ∈ ([] : PL), q.2.1 = true ∧ q.1 ∉ mu) → X a' P')
    {a' : AV} (e : a' = a) (m1 : (a1, true, t1) ∈ P') (m2 : (a2, true, t2) ∈ P') : X a' P' := hX () P' a' trivial e (fun q hq => by
  rcases List.mem_cons.mp hq with rfl | hq
  · exact ⟨_, m1⟩
  · rw [List.mem_singleton.mp hq]; exact ⟨_, m2⟩) (List.nil_sublist _) (fun q hq => nomatch hq)
theorem atom_fn {x : Str} (G : Gr (KK w.params) B) (hz : tx.length < 900) : EFn prog w B 1 [T, AN] (smP sy dsy T AN FU FN false (atP T AN tx [])) 88 [.r sy, .d (.str x)] (ι := Unit) (fun _ => True) (fun _ => .d (.int (putN id tx x).1)) (fun _ => [(T, txD (putN id tx x).2), (AN, anD (putN id tx x).2)]) (fun _ => []) := by
  refine' (EFn.of (n := [("text", .d (.str x)), ("self", .r sy)]) G is_88 (by rfl) (by rfl) fun C R X hX hR hE => ?_)
  have e0 := ndat_get id tx 0 x
  have hl : (tx.map PyData.str).length = tx.length := List.length_map ..
  have hl3 : (ndat id tx 0).length < 1000 := by rw [ndat_length]; walk_at "o"
  walk_at "nm"
  cases q : nidx id tx 0 x with
  | some i =>
    rw [q] at e0
    have ek : (gget (ndat id tx 0) x).getD (.int (-1)) = .int ((i : Nat) : Int) := by rw [e0]; rfl
    have hp : putN id tx x = (((i : Nat) : Int), tx) := by unfold putN; simp only [id] at q ⊢; rw [q]
    rw [hp] at hX
    ((with_reducible refine' Wb.asg ?wcx221 ?wkx221 ?wlx221 ?wex221); (case wlx221 => rfl); (case wex221 => rfl); (case wcx221 => walk_at "ev"); (case' wkx221 => walk_at "nm"))
    ((with_reducible refine' Wb.ite ?wcx222 ?wtx222 ?wfx222); (case wcx222 => walk_at "evp"); (case' wfx222 => intro hbZ; walk_at "nm"); (case' wtx222 => intro hbZ; walk_at "nm"))
    · ((with_reducible refine' Wb.ret (by assumption) ?wcx223 ?wxx223); (case wcx223 => walk_at "ev"))
      exact out2 hX rfl (by walk_at "mem") (by walk_at "mem")
    · exfalso; rename ¬ _ => h; walk_at "o"
  | none =>
    rw [q] at e0
    have ek : (gget (ndat id tx 0) x).getD (.int (-1)) = .int (-1) := by rw [e0]; rfl
    have en : gget (ndat id tx 0) x = none := e0
    have hp : putN id tx x = (((tx.length : Nat) : Int), tx ++ [x]) := by unfold putN; simp only [id] at q ⊢; rw [q]
    rw [hp] at hX
    ((with_reducible refine' Wb.asg ?wcx224 ?wkx224 ?wlx224 ?wex224); (case wlx224 => rfl); (case wex224 => rfl); (case wcx224 => walk_at "ev"); (case' wkx224 => walk_at "nm"))
    ((with_reducible refine' Wb.ite ?wcx225 ?wtx225 ?wfx225); (case wcx225 => walk_at "evp"); (case' wfx225 => intro hbZ; walk_at "nm"); (case' wtx225 => intro hbZ; walk_at "nm"))
    · exfalso; rename (0 : Int) ≤ _ => h; walk_at "o"
    ((with_reducible refine' Wb.asg ?wcx226 ?wkx226 ?wlx226 ?wex226); (case wlx226 => rfl); (case wex226 => rfl); (case wcx226 => walk_at "ev"); (case' wkx226 => walk_at "nm"))
    ((with_reducible refine' Wb.expr ?wex227 ?wnx227 ?wkx227 ?w1x227); (case w1x227 => k_dflt rfl); (case wex227 => walk_at "ef"); (case wnx227 => intro _; k_dflt rfl); (case' wkx227 => intro _ _; walk_at "nm"))
    walk_at "setS"
    ((with_reducible refine' Wb.ret (by assumption) ?wcx228 ?wxx228); (case wcx228 => walk_at "ev"))
    have ea := ndat_add id tx 0 x
    rw [Nat.zero_add] at ea
    rw [hl]
    refine out2 hX rfl ?_ ?_
    · rw [txD, List.map_append]; walk_at "mem"
    · rw [anD, ea]; walk_at "mem"
theorem functor_fn {a n : Int} (G : Gr (KK w.params) B) (hz : fs.length < 900) : EFn prog w B 1 [FU, FN] (smP sy dsy T AN FU FN false (fnP FU FN fs [])) 102 [.r sy, .d (.int a), .d (.int n)] (ι := Unit) (fun _ => True) (fun _ => .d (.int (putN pk fs (a, n)).1)) (fun _ => [(FU, fuD (putN pk fs (a, n)).2), (FN, fnD (putN pk fs (a, n)).2)]) (fun _ => []) := by
  refine' (EFn.of (n := [("arity", .d (.int n)), ("atom", .d (.int a)), ("self", .r sy)]) G is_102 (by rfl) (by rfl) fun C R X hX hR hE => ?_)
  have e0 := ndat_get pk fs 0 [a, n]
  have hl : (fs.map cdp).length = fs.length := List.length_map ..
  have hl3 : (ndat pk fs 0).length < 1000 := by rw [ndat_length]; walk_at "o"
  walk_at "nm"
  ((with_reducible refine' Wb.asg ?wcx229 ?wkx229 ?wlx229 ?wex229); (case wlx229 => rfl); (case wex229 => rfl); (case wcx229 => walk_at "ev"); (case' wkx229 => walk_at "nm"))
  cases q : nidx pk fs 0 [a, n] with
  | some i =>
    rw [q] at e0
    have ek : (gget (ndat pk fs 0) [a, n]).getD (.int (-1)) = .int ((i : Nat) : Int) := by rw [e0]; rfl
    have hp : putN pk fs (a, n) = (((i : Nat) : Int), fs) := by unfold putN; rw [show pk (a, n) = [a, n] from rfl, q]
    rw [hp] at hX
    ((with_reducible refine' Wb.asg ?wcx230 ?wkx230 ?wlx230 ?wex230); (case wlx230 => rfl); (case wex230 => rfl); (case wcx230 => walk_at "ev"); (case' wkx230 => walk_at "nm"))
    ((with_reducible refine' Wb.ite ?wcx231 ?wtx231 ?wfx231); (case wcx231 => walk_at "evp"); (case' wfx231 => intro hbZ; walk_at "nm"); (case' wtx231 => intro hbZ; walk_at "nm"))
    · ((with_reducible refine' Wb.ret (by assumption) ?wcx232 ?wxx232); (case wcx232 => walk_at "ev"))
      exact out2 hX rfl (by walk_at "mem") (by walk_at "mem")
    · exfalso; rename ¬ _ => h; walk_at "o"
  | none =>
    rw [q] at e0
    have ek : (gget (ndat pk fs 0) [a, n]).getD (.int (-1)) = .int (-1) := by rw [e0]; rfl
    have en : gget (ndat pk fs 0) [a, n] = none := e0
    have hp : putN pk fs (a, n) = (((fs.length : Nat) : Int), fs ++ [(a, n)]) := by unfold putN; rw [show pk (a, n) = [a, n] from rfl, q]
    rw [hp] at hX
    ((with_reducible refine' Wb.asg ?wcx233 ?wkx233 ?wlx233 ?wex233); (case wlx233 => rfl); (case wex233 => rfl); (case wcx233 => walk_at "ev"); (case' wkx233 => walk_at "nm"))
    ((with_reducible refine' Wb.ite ?wcx234 ?wtx234 ?wfx234); (case wcx234 => walk_at "evp"); (case' wfx234 => intro hbZ; walk_at "nm"); (case' wtx234 => intro hbZ; walk_at "nm"))
    · exfalso; rename (0 : Int) ≤ _ => h; walk_at "o"
    ((with_reducible refine' Wb.asg ?wcx235 ?wkx235 ?wlx235 ?wex235); (case wlx235 => rfl); (case wex235 => rfl); (case wcx235 => walk_at "ev"); (case' wkx235 => walk_at "nm"))
    ((with_reducible refine' Wb.expr ?wex236 ?wnx236 ?wkx236 ?w1x236); (case w1x236 => k_dflt rfl); (case wex236 => walk_at "ef"); (case wnx236 => intro _; k_dflt rfl); (case' wkx236 => intro _ _; walk_at "nm"))
    walk_at "setH"
    ((with_reducible refine' Wb.ret (by assumption) ?wcx237 ?wxx237); (case wcx237 => walk_at "ev"))
    have ea := ndat_add pk fs 0 (a, n)
    rw [Nat.zero_add] at ea
    rw [hl]
    refine out2 hX rfl ?_ ?_
    · rw [fuD, List.map_append]; walk_at "mem"
    · rw [fnD, ea]; walk_at "mem"
noncomputable def fnF (S : List Str × List (Int × Int)) (x : Str) (n : Int) : Int × List Str × List (Int × Int) :=
  ((putN pk S.2 ((putN id S.1 x).1, n)).1, (putN id S.1 x).2, (putN pk S.2 ((putN id S.1 x).1, n)).2)
local macro_rules | `(tactic| walk_at "spe") => `(tactic| with_reducible first | (refine' atom_fn (by assumption) ?_) | fail "spe")
theorem func_fn {x : Str} {n : Int} (G : Gr (KK w.params) B) (hz : tx.length < 900) (hz2 : fs.length < 900) : EFn prog w B 2 [T, AN, FU, FN] (smP sy dsy T AN FU FN false (atP T AN tx (fnP FU FN fs []))) 109 [.r sy, .d (.str x), .d (.int n)] (ι := Unit) (fun _ => True) (fun _ => .d (.int (fnF (tx, fs) x n).1))
    (fun _ => [(T, txD (fnF (tx, fs) x n).2.1), (AN, anD (fnF (tx, fs) x n).2.1), (FU, fuD (fnF (tx, fs) x n).2.2), (FN, fnD (fnF (tx, fs) x n).2.2)]) (fun _ => []) := by
  refine' (EFn.of (n := [("arity", .d (.int n)), ("text", .d (.str x)), ("self", .r sy)]) G is_109 (by rfl) (by rfl) fun C R X hX hR hE => ?_)
  walk_at "nm"
  (with_reducible refine' Wb.retF hR (Ef.meth2F (P2 := fun _ => smP sy dsy T AN FU FN false (atP T AN (putN id tx x).2 (fnP FU FN (putN pk fs ((putN id tx x).1, n)).2 []))) (b := .d (.int n)) ?o ?l1 ?l2 (functor_fn (a := (putN id tx x).1) (n := n) G hz2) ?sel ?kk ?hl ?V ?x ?d ?gl ?g ?f ?t ?kp ?r3 ?r4) (fun i _ => ?w3))
  case o => walk_at "ev"
  case l1 => walk_at "ef"
  case l2 => dsimp only [List.nil_append]; walk_at "ev"
  case sel => dsimp only [List.nil_append]; walk_at "sel"
  case kk => decide
  case hl => intro _; rfl
  case V => intro _; dsimp only [List.nil_append]; walk_at "puts"
  case x => walk_at "mem"
  case d => walk_at "mem"
  case gl => rfl
  case r3 => rfl
  case r4 => rfl
  case g => k_is
  case f => k_is
  case t => k_is
  case kp => k_is
  case w3 =>
    show X _ (smP sy dsy T AN FU FN false (atP T AN (putN id tx x).2 (fnP FU FN (putN pk fs ((putN id tx x).1, n)).2 [])))
    refine hX () _ _ trivial rfl (fun q hq => ⟨true, ?_⟩) (List.nil_sublist _) (fun q hq => nomatch hq)
    rcases List.mem_cons.mp hq with rfl | hq
    · walk_at "mem"
    rcases List.mem_cons.mp hq with rfl | hq
    · walk_at "mem"
    rcases List.mem_cons.mp hq with rfl | hq
    · walk_at "mem"
    rw [List.mem_singleton.mp hq]; walk_at "mem"
noncomputable def atoms : List Str := [Str.ofString "[]", Str.ofString ".", Str.ofString "{}", Str.ofString "-", Str.ofString "+", Str.ofString "*", Str.ofString "/", Str.ofString ",", Str.ofString "|", Str.ofString ";", Str.ofString "->", Str.ofString "\\+", Str.ofString ":-", Str.ofString "?-", Str.ofString "-->", Str.ofString "!", Str.ofString "true", Str.ofString "fail", Str.ofString "false", Str.ofString "call", Str.ofString "=", Str.ofString "^", Str.ofString "error", Str.ofString "", Str.ofString "end_of_file", Str.ofString "system", Str.ofString "$VAR", Str.ofString "catch", Str.ofString "throw"]
noncomputable def rows : List (Str × Int) := [(Str.ofString ".", 2), (Str.ofString ",", 2), (Str.ofString ";", 2), (Str.ofString "->", 2), (Str.ofString "\\+", 1), (Str.ofString ":-", 2), (Str.ofString ":-", 1), (Str.ofString "?-", 1), (Str.ofString "-->", 2), (Str.ofString "{}", 1), (Str.ofString "=", 2), (Str.ofString "^", 2), (Str.ofString "-", 1), (Str.ofString "-", 2), (Str.ofString "+", 2), (Str.ofString "/", 2), (Str.ofString "error", 2), (Str.ofString "$VAR", 1), (Str.ofString "catch", 3), (Str.ofString "throw", 1), (Str.ofString "!", 0), (Str.ofString "true", 0), (Str.ofString "fail", 0), (Str.ofString "false", 0), (Str.ofString "call", 1), (Str.ofString "call", 2), (Str.ofString "call", 3), (Str.ofString "call", 4), (Str.ofString "call", 5), (Str.ofString "call", 6), (Str.ofString "call", 7), (Str.ofString "call", 8)]
theorem atoms_len : Nat.ble (List.map PyData.str atoms).length 999 = true := by decide
theorem rows_len : rows.length < 1000 := by decide
set_option maxHeartbeats 2000000 in
theorem fixed_atoms_fn (G : Gr (KK w.params) B) : PFn prog w B 1 [] 60 [] (.d (.tuple (atoms.map PyData.str))) := by
  refine' (PFn.of (n := []) G is_60 (by rfl) (by rfl) fun C R hR hE => ?_)
  walk_at "nm"
  (with_reducible refine' Wb.ret hR ?wc ?wx)
  case wx => exact Eq.refl (AV.d (PyData.tuple (atoms.map PyData.str)))
  (with_reducible refine' Ev.tup ?h ?z)
  case z => exact atoms_len
  (with_reducible refine' StrsE.ev ?r)
  unfold atoms
  repeat' (first | exact StrsE.nil | with_reducible refine StrsE.cons ?_)
set_option maxHeartbeats 2000000 in
theorem fixed_functors_fn (G : Gr (KK w.params) B) : PFn prog w B 1 [] 67 [] (.d (.tuple (rows.map rowD))) := by
  refine' (PFn.of (n := []) G is_67 (by rfl) (by rfl) fun C R hR hE => ?_)
  walk_at "nm"
  (with_reducible refine' Wb.ret hR ?wc ?wx)
  case wx => exact Eq.refl (AV.d (PyData.tuple (rows.map rowD)))
  (with_reducible refine' Ev.rows ?r ?z)
  case z => exact rows_len
  unfold rows
  repeat' (first | exact RowsE.nil | with_reducible refine RowsE.cons ?_)
noncomputable def st1 (n : Nat) : List Str := (atoms.take n).foldl (fun tx x => (putN id tx x).2) []
noncomputable def st2 (n : Nat) : List Str × List (Int × Int) := (rows.take n).foldl (fun S r => (fnF S r.1 r.2).2) (st1 29, [])
theorem foldl_take {α β : Type} (f : β → α → β) (b : β) (l : List α) (i : Nat) (x : α) (h : l[i]? = some x) : (l.take (i + 1)).foldl f b = f ((l.take i).foldl f b) x := by
  rw [List.take_add_one, h, List.foldl_append]; rfl
theorem st1_next {i : Nat} {x : Str} (h : atoms[i]? = some x) : (putN id (st1 i) x).2 = st1 (i + 1) := (foldl_take (fun tx x => (putN id tx x).2) [] atoms i x h).symm
theorem st2_next {i : Nat} {x : Str × Int} (h : rows[i]? = some x) : (fnF (st2 i) x.1 x.2).2 = st2 (i + 1) := (foldl_take (fun (S : List Str × List (Int × Int)) (r : Str × Int) => (fnF S r.1 r.2).2) (st1 29, []) rows i x h).symm
theorem st1_len : ∀ i : Nat, (st1 i).length ≤ i
  | 0 => Nat.le_refl _
  | i + 1 => by
    cases h : atoms[i]? with
    | some x =>
      rw [← st1_next h]
      have := putN_length id (st1 i) x
      have := st1_len i
      walk_at "o"
    | none =>
      have e : st1 (i + 1) = st1 i := by
        unfold st1
        rw [List.take_add_one, h]; simp
      rw [e]; have := st1_len i; walk_at "o"
theorem fnF_len (S : List Str × List (Int × Int)) (x : Str) (n : Int) : (fnF S x n).2.1.length ≤ S.1.length + 1 ∧ (fnF S x n).2.2.length ≤ S.2.length + 1 := ⟨putN_length _ _ _, putN_length _ _ _⟩
theorem st2_len : ∀ i : Nat, (st2 i).1.length ≤ 29 + i ∧ (st2 i).2.length ≤ i
  | 0 => ⟨st1_len 29, Nat.le_refl _⟩
  | i + 1 => by
    cases h : rows[i]? with
    | some x =>
      rw [← st2_next h]
      have := fnF_len (st2 i) x.1 x.2
      have := st2_len i
      walk_at "o"
    | none =>
      have e : st2 (i + 1) = st2 i := by
        unfold st2
        rw [List.take_add_one, h]; simp
      rw [e]; have := st2_len i; walk_at "o"
end
end
section
section
variable {prog : Program} {w : World} {B : Heap}
noncomputable abbrev symsP (sy dsy T AN FU FN : Addr) (tx : List Str) (fs : List (Int × Int)) : PL := [(sy, true, .is (IsInst 154 dsy)), (dsy, true, .att (symG T AN FU FN) 4), (T, true, txD tx), (AN, true, anD tx), (FU, true, fuD fs), (FN, true, fnD fs)]
local macro_rules | `(tactic| walk_at "spc") => `(tactic| with_reducible first | (exact fixed_atoms_fn (by assumption)) | (exact fixed_functors_fn (by assumption)) | fail "spc")
local macro_rules | `(tactic| walk_at "spe") => `(tactic| with_reducible first | (refine' atom_fn (by assumption) ?_) | (refine' func_fn (by assumption) ?_ ?_) | fail "spe")
set_option maxHeartbeats 4000000 in
theorem symbols_fn (G : Gr (KK w.params) B) : EFn prog w B 4 [] [] 154 [] (ι := (Addr × Addr × Addr × Addr) × Addr × Addr) (fun _ => True) (fun i => .r i.2.1) (fun _ => []) (fun i => symsP i.2.1 i.2.2 i.1.1 i.1.2.1 i.1.2.2.1 i.1.2.2.2 (st2 32).1 (st2 32).2) := by
  refine' (EFn.new (ι := Addr × Addr × Addr × Addr) (H := fun _ => True) (N := fun i sy dsy => symsP sy dsy i.1 i.2.1 i.2.2.1 i.2.2.2 (st2 32).1 (st2 32).2) (n := fun y => [("self", .r y)]) G is_81 (by k_is) (by k_is) (by k_is) (by rfl) (fun _ => rfl) fun sy dsy C R X hX hR hE => ?_)
  walk_at "nm"
  ((with_reducible refine' Wb.setAf ?s1x238 ?s2x238 ?s3x238 ?s4x238 ?s5x238 ?s6x238 ?wkx238 ?s8x238); (case s8x238 => k_dflt rfl); (case s1x238 => walk_at "ef"); (case s2x238 => intro _; walk_at "ev"); (case s4x238 => intro _; k_dflt (walk_at "mem")); (case s3x238 => k_dflt (((constructor <;> k_is)))); (case s5x238 => intro _; k_dflt (walk_at "put")); (case s6x238 => k_dflt rfl); (case' wkx238 => intro aZ _; walk_at "nm"))
  rename Addr => T
  ((with_reducible refine' Wb.setAf ?s1x240 ?s2x240 ?s3x240 ?s4x240 ?s5x240 ?s6x240 ?wkx240 ?s8x240); (case s8x240 => k_dflt rfl); (case s1x240 => walk_at "ef"); (case s2x240 => intro _; walk_at "ev"); (case s4x240 => intro _; k_dflt (walk_at "mem")); (case s3x240 => k_dflt (((constructor <;> k_is)))); (case s5x240 => intro _; k_dflt (walk_at "put")); (case s6x240 => k_dflt rfl); (case' wkx240 => intro aZ _; walk_at "nm"))
  rename Addr => AN
  ((with_reducible refine' Wb.setAf ?s1x242 ?s2x242 ?s3x242 ?s4x242 ?s5x242 ?s6x242 ?wkx242 ?s8x242); (case s8x242 => k_dflt rfl); (case s1x242 => walk_at "ef"); (case s2x242 => intro _; walk_at "ev"); (case s4x242 => intro _; k_dflt (walk_at "mem")); (case s3x242 => k_dflt (((constructor <;> k_is)))); (case s5x242 => intro _; k_dflt (walk_at "put")); (case s6x242 => k_dflt rfl); (case' wkx242 => intro aZ _; walk_at "nm"))
  rename Addr => FU
  ((with_reducible refine' Wb.setAf ?s1x244 ?s2x244 ?s3x244 ?s4x244 ?s5x244 ?s6x244 ?wkx244 ?s8x244); (case s8x244 => k_dflt rfl); (case s1x244 => walk_at "ef"); (case s2x244 => intro _; walk_at "ev"); (case s4x244 => intro _; k_dflt (walk_at "mem")); (case s3x244 => k_dflt (((constructor <;> k_is)))); (case s5x244 => intro _; k_dflt (walk_at "put")); (case s6x244 => k_dflt rfl); (case' wkx244 => intro aZ _; walk_at "nm"))
  rename Addr => FN
  rw [symG_eq]
  refine Wb.recast (t' := .hdat []) .head empty_h ?_
  refine Wb.recast (t' := .sdat []) (.tail (.tail .head)) empty_s ?_
  refine Wb.front 1 (Nat.le_of_ble_eq_true rfl) (Wb.front 2 (Nat.le_of_ble_eq_true rfl) (Wb.front 3 (Nat.le_of_ble_eq_true rfl) (Wb.front 5 (Nat.le_of_ble_eq_true rfl) (Wb.front 5 (Nat.le_of_ble_eq_true rfl) (?_ : Wb C _ (symsP sy dsy T AN FU FN [] []) _ _)))))
  refine' Wb.forT (ι := Unit) (ds := atoms.map PyData.str) (N := fun _ _ => [("self", .r sy)]) (PP := fun i _ => symsP sy dsy T AN FU FN (st1 i) []) (H := fun _ _ => True) hR () trivial ?qe ⟨rfl, trivial⟩ ?qp (fun C' R' I i j d t hR' hT hd _ => ?qb) (fun j _ => ?qd) rfl (fun _ => rfl)
  case qe => walk_at "ev"
  case qp => exact List.Sublist.refl _
  case qb =>
    rw [List.getElem?_map] at hd
    obtain ⟨x, hx, rfl⟩ := Option.map_eq_some_iff.mp hd
    have hl : (st1 i).length < 900 := by
      have := st1_len i
      have := (List.getElem?_eq_some_iff.mp hx).1
      have : atoms.length = 29 := rfl
      walk_at "o"
    walk_at "nm"
    ((with_reducible refine' Wb.expr ?wex246 ?wnx246 ?wkx246 ?w1x246); (case w1x246 => k_dflt rfl); (case wex246 => walk_at "ef"); (case wnx246 => intro _; k_dflt rfl); (case' wkx246 => intro _ _; walk_at "nm"))
    rw [st1_next hx]
    exact Wb.turn hT () trivial ⟨rfl, trivial⟩ (List.Sublist.refl _)
  rw [List.length_map]
  refine' Wb.forT (ι := Unit) (ds := rows.map rowD) (N := fun _ _ => [("self", .r sy)]) (PP := fun i _ => symsP sy dsy T AN FU FN (st2 i).1 (st2 i).2) (H := fun _ _ => True) hR () trivial ?qe2 ⟨rfl, trivial⟩ ?qp2 (fun C' R' I i j d t hR' hT hd _ => ?qb2) (fun j _ => ?qd2) rfl (fun _ => rfl)
  case qe2 => walk_at "ev"
  case qp2 => exact List.Sublist.refl _
  case qb2 =>
    rw [List.getElem?_map] at hd
    obtain ⟨x, hx, rfl⟩ := Option.map_eq_some_iff.mp hd
    have hi : i < 32 := (List.getElem?_eq_some_iff.mp hx).1
    have hl : (st2 i).1.length < 900 := by have := st2_len i; walk_at "o"
    have hl2 : (st2 i).2.length < 900 := by have := st2_len i; walk_at "o"
    walk_at "nm"
    ((with_reducible refine' Wb.expr ?wex247 ?wnx247 ?wkx247 ?w1x247); (case w1x247 => k_dflt rfl); (case wex247 => walk_at "ef"); (case wnx247 => intro _; k_dflt rfl); (case' wkx247 => intro _ _; walk_at "nm"))
    have en := st2_next hx
    have en1 := congrArg (·.1) en
    have en2 := congrArg (·.2) en
    rw [en1, en2]
    exact Wb.turn hT () trivial ⟨rfl, trivial⟩ (List.Sublist.refl _)
  rw [List.length_map]
  exact Wb.end hE (hX (T, AN, FU, FN) _ _ trivial rfl (List.Sublist.refl _) (by
    intro p hp
    simp only [symsP, List.mem_cons, List.not_mem_nil, or_false] at hp
    rcases hp with rfl | rfl | rfl | rfl | rfl | rfl <;> rfl))
noncomputable abbrev newP (x dx H TR sy ST : Addr) (mh hb bb : Tok) : PL := [(TR, true, .ldat []), (H, true, .ldat []), (x, true, .is (IsInst 373 dx)), (dx, true, .att (storeG sy H ST TR mh hb bb) 7)]
theorem store_init {sy x dx : Addr} (C : Cx prog w B [x, dx] (scopeS (nth (bodyS (stm 23)) 0)) 2) (R : Flow → Shared → Prop) (X : AV → PL → Prop)
    (hX : ∀ (i : (Tok × Tok × Tok) × Addr × Addr × Addr) P' a, a = AV.d .none → (newP x dx i.2.1 i.2.2.1 sy i.2.2.2 i.1.1 i.1.2.1 i.1.2.2).Sublist P' → X a P') (hR : Rets C X R) (hE : Endz C X R) :
    Wb C [("max_heap", .d (.int 100000)), ("symbols", .r sy), ("self", .r x)] [(x, true, .is (IsInst 373 dx)), (dx, true, .att (fun _ => .none) 0)] (bodyS (nth (bodyS (stm 23)) 0)) R := by
  walk_at "nm"
  ((with_reducible refine' Wb.setAr ?s1x248 ?s2x248 ?s3x248 ?s4x248 ?s5x248 ?s6x248 ?wkx248 ?s8x248); (case s8x248 => k_dflt rfl); (case s1x248 => walk_at "ev"); (case s2x248 => walk_at "ev"); (case s4x248 => k_dflt (walk_at "mem")); (case s3x248 => k_dflt (((constructor <;> k_is)))); (case s5x248 => k_dflt (walk_at "put")); (case s6x248 => k_dflt rfl); (case' wkx248 => walk_at "nm"))
  ((with_reducible refine' Wb.setAi ?s1x250 ?s2x250 ?s3x250 ?s4x250 ?s5x250 ?s6x250 ?wkx250 ?s8x250); (case s8x250 => k_dflt rfl); (case s1x250 => walk_at "ev"); (case s2x250 => walk_at "ev"); (case s4x250 => k_dflt (walk_at "mem")); (case s3x250 => k_dflt (((constructor <;> k_is)))); (case s5x250 => intro _; k_dflt (walk_at "put")); (case s6x250 => k_dflt rfl); (case' wkx250 => intro tZ; walk_at "nm"))
  rename Tok => mh
  ((with_reducible refine' Wb.setAf ?s1x252 ?s2x252 ?s3x252 ?s4x252 ?s5x252 ?s6x252 ?wkx252 ?s8x252); (case s8x252 => k_dflt rfl); (case s1x252 => walk_at "ef"); (case s2x252 => intro _; walk_at "ev"); (case s4x252 => intro _; k_dflt (walk_at "mem")); (case s3x252 => k_dflt (((constructor <;> k_is)))); (case s5x252 => intro _; k_dflt (walk_at "put")); (case s6x252 => k_dflt rfl); (case' wkx252 => intro aZ _; walk_at "nm"))
  rename Addr => H
  ((with_reducible refine' Wb.setAf ?s1x254 ?s2x254 ?s3x254 ?s4x254 ?s5x254 ?s6x254 ?wkx254 ?s8x254); (case s8x254 => k_dflt rfl); (case s1x254 => walk_at "ef"); (case s2x254 => intro _; walk_at "ev"); (case s4x254 => intro _; k_dflt (walk_at "mem")); (case s3x254 => k_dflt (((constructor <;> k_is)))); (case s5x254 => intro _; k_dflt (walk_at "put")); (case s6x254 => k_dflt rfl); (case' wkx254 => intro aZ _; walk_at "nm"))
  rename Addr => ST
  ((with_reducible refine' Wb.setAf ?s1x256 ?s2x256 ?s3x256 ?s4x256 ?s5x256 ?s6x256 ?wkx256 ?s8x256); (case s8x256 => k_dflt rfl); (case s1x256 => walk_at "ef"); (case s2x256 => intro _; walk_at "ev"); (case s4x256 => intro _; k_dflt (walk_at "mem")); (case s3x256 => k_dflt (((constructor <;> k_is)))); (case s5x256 => intro _; k_dflt (walk_at "put")); (case s6x256 => k_dflt rfl); (case' wkx256 => intro aZ _; walk_at "nm"))
  rename Addr => TR
  ((with_reducible refine' Wb.setAi ?s1x258 ?s2x258 ?s3x258 ?s4x258 ?s5x258 ?s6x258 ?wkx258 ?s8x258); (case s8x258 => k_dflt rfl); (case s1x258 => walk_at "ev"); (case s2x258 => walk_at "ev"); (case s4x258 => k_dflt (walk_at "mem")); (case s3x258 => k_dflt (((constructor <;> k_is)))); (case s5x258 => intro _; k_dflt (walk_at "put")); (case s6x258 => k_dflt rfl); (case' wkx258 => intro tZ; walk_at "nm"))
  rename Tok => hb
  ((with_reducible refine' Wb.setAi ?s1x260 ?s2x260 ?s3x260 ?s4x260 ?s5x260 ?s6x260 ?wkx260 ?s8x260); (case s8x260 => k_dflt rfl); (case s1x260 => walk_at "ev"); (case s2x260 => walk_at "ev"); (case s4x260 => k_dflt (walk_at "mem")); (case s3x260 => k_dflt (((constructor <;> k_is)))); (case s5x260 => intro _; k_dflt (walk_at "put")); (case s6x260 => k_dflt rfl); (case' wkx260 => intro tZ; walk_at "nm"))
  rename Tok => bb
  rw [storeG_eq]
  exact Wb.end hE (hX ((mh, hb, bb), H, TR, ST) _ _ rfl (.cons_cons _ (.cons _ (List.Sublist.refl _))))
theorem store_fn {sy : Addr} (G : Gr (KK w.params) B) : EFn prog w B 4 [] [] 373 [.r sy] (ι := ((Tok × Tok × Tok) × Addr × Addr × Addr) × Addr × Addr) (fun _ => True) (fun i => .r i.2.1) (fun _ => []) (fun i => newP i.2.1 i.2.2 i.1.2.1 i.1.2.2.1 sy i.1.2.2.2 i.1.1.1 i.1.1.2.1 i.1.1.2.2) := fun A s vs D E Q r kn hD hv hQ => by
  cases hv with
  | cons a1 hv =>
  cases hv
  cases a1
  have KX : ∀ s' : Shared, s'.heap = (s.heap.push emptyDict).push (instObj 373 s.heap.objs.size) → (KK w.params).In s'.heap := fun s' e a o q => by
    rw [e]; exact Heap.get?_push_of_some _ (Heap.get?_push_of_some _ (kn.keep _ _ (G.X a o q)))
  refine create (binds := [(Str.ofString "self", .ref (s.heap.objs.size + 1)), (Str.ofString "symbols", .ref sy), (Str.ofString "max_heap", .int 100000 _)]) G r kn D hD (by k_is) (by k_is) (by k_is) (by k_is) (by k_is) (fun s' e => binds_K (KX s' e) rfl (by k_is) rfl rfl rfl) (locs rfl) (fun s₂ s₁ L hh ee S r' => ?_) rfl rfl rfl (by decide)
  refine store_init (sy := sy) ⟨s₂, _, _, [], G, r', ⟨rfl, rfl, rfl, rfl⟩, rfl⟩ _ (fun a P' => a = .d .none ∧ ∃ i : (Tok × Tok × Tok) × Addr × Addr × Addr, (newP (s.heap.objs.size + 1) s.heap.objs.size i.2.1 i.2.2.1 sy i.2.2.2 i.1.1 i.1.2.1 i.1.2.2).Sublist P')
    (fun i P' a h1 h2 => ⟨h1, i, h2⟩) (fun n P a' v D s' e S hv => ?_) (fun n P D s' e S => ?_) _ ⟨_, SS.know S (Rd.mkInt 100000 _), AllN.na (.cons (.head _) (.cons rfl (.cons rfl .nil)))⟩
  all_goals
    obtain ⟨e0, i, e1⟩ := e
    obtain ⟨m, S', N'⟩ := S
    obtain ⟨g, eq, nw⟩ := S'.born hh ee e1 (fun p hp => by
      simp only [newP, List.mem_cons, List.not_mem_nil, or_false] at hp
      rcases hp with rfl | rfl | rfl | rfl <;> rfl)
  · subst e0
    obtain rfl : v = .none := by have r := S'.datum hv; unfold Rd at r; cases r; rfl
    exact ⟨rfl, hQ (i, _, _) _ s' trivial g eq (fun q hq => nomatch hq) nw rfl⟩
  · exact ⟨rfl, hQ (i, _, _) _ s' trivial g eq (fun q hq => nomatch hq) nw rfl⟩
noncomputable def fS : Str := Str.ofString "f"
noncomputable def gS : Str := Str.ofString "g"
noncomputable def S3 : List Str × List (Int × Int) := (fnF (st2 32) fS 1).2
noncomputable def S4 : List Str × List (Int × Int) := (fnF S3 gS 3).2
theorem f_is : (fnF (st2 32) fS 1).1 = 32 := by decide +kernel
theorem g_is : (fnF S3 gS 3).1 = 33 := by decide +kernel
theorem S4_ok : FsOk S4.2 := ⟨⟨1, by decide +kernel⟩, ⟨29, by decide +kernel⟩, ⟨30, by decide +kernel⟩⟩
theorem S3_len : S3.1.length < 900 ∧ S3.2.length < 900 := by decide +kernel
theorem S2_len : (st2 32).1.length < 900 ∧ (st2 32).2.length < 900 := by decide +kernel
end
end
section
theorem bool_iff {b c : Bool} (h : b = true ↔ c = true) : b = c := Bool.eq_iff_iff.mpr h
theorem rd_ints {h : Heap} : ∀ {ns : List Int} {vs : List Value}, RdAll h vs (ns.map PyData.int) → IntsAre vs ns
  | [], _, x => by rw [x.inv0]; exact .nil
  | n :: ns, _, x => by
    obtain ⟨v, r, rfl, a, y⟩ := x.inv
    obtain ⟨t, rfl⟩ := a.int
    exact .cons n t (rd_ints y)
theorem ints_rd {h : Heap} {ns : List Int} {vs : List Value} (x : IntsAre vs ns) : RdAll h vs (ns.map PyData.int) := by
  induction x with
  | nil => exact .nil
  | cons n t _ ih => exact .cons (Rd.mkInt _ _) ih
theorem ints_pick {vs : List Value} {ns : List Int} (x : IntsAre vs ns) : ∀ l : List Value, (∀ v ∈ l, v ∈ vs) → ∃ ms, IntsAre l ms ∧ ms.length = l.length
  | [], _ => ⟨[], .nil, rfl⟩
  | v :: r, h => by
    obtain ⟨ms, h1, h2⟩ := ints_pick x r fun v hv => h v (.tail _ hv)
    have key : ∀ {vs : List Value} {ns : List Int}, IntsAre vs ns → v ∈ vs → ∃ n t, v = .int n t := by
      intro vs ns x
      induction x with
      | nil => intro q; cases q
      | cons n t _ ih =>
        intro q
        rcases List.mem_cons.mp q with rfl | q
        · exact ⟨n, t, rfl⟩
        · exact ih q
    obtain ⟨n, t, rfl⟩ := key x (h v (.head _))
    exact ⟨n :: ms, .cons n t h1, by simp [h2]⟩
theorem ints_toks {vs : List Value} {ns : List Int} (x : IntsAre vs ns) : ∃ xs : List (Int × Tok), vs = xs.map fun p => Value.int p.1 p.2 := by
  induction x with
  | nil => exact ⟨[], rfl⟩
  | cons n t _ ih => obtain ⟨xs, e⟩ := ih; exact ⟨(n, t) :: xs, by simp [e]⟩
theorem slice_of {items : Array Value} {lo hi st : Option Int} : ∀ v ∈ (slicePick items lo hi st).toList, v ∈ items.toList := by
  intro v hv
  unfold slicePick at hv
  obtain ⟨i, _, e⟩ := List.mem_filterMap.mp hv
  exact Array.mem_toList_iff.mpr (Array.mem_of_getElem? e)
mutual
noncomputable def T.dep : T → Nat
  | .v _ => 0
  | .k _ _ => 0
  | .s _ _ l => l.dep + 1
noncomputable def Ts.dep : Ts → Nat
  | .nil => 0
  | .cons t r => max t.dep r.dep
end
mutual
theorem T.depth_dat : ∀ t : T, t.dat.depth ≤ 2 * t.dep + 1
  | .v n => by simp [T.dat, PyData.depth, PyData.depthAll]
  | .k t a => by simp [T.dat, PyData.depth, PyData.depthAll]
  | .s _ f l => by
    have := Ts.depth_dats l
    simp only [T.dat, PyData.depth, PyData.depthAll, T.dep]; walk_at "o"
theorem Ts.depth_dats : ∀ l : Ts, PyData.depthAll l.dats ≤ 2 * l.dep + 1
  | .nil => by simp [Ts.dats, PyData.depthAll]
  | .cons t r => by
    have := T.depth_dat t
    have := Ts.depth_dats r
    simp only [Ts.dats, PyData.depthAll, Ts.dep]; walk_at "o"
end
mutual
theorem T.canLay : ∀ t : T, t.dat.canLay0 = true
  | .v n => by simp only [T.dat, PyData.canLay0, PyData.canLayAll0]; decide +kernel
  | .k t a => by
    simp only [T.dat, PyData.canLay0, PyData.canLayAll0]
    by_cases h : t = 4
    · simp only [h, if_true]; decide +kernel
    · simp only [h, if_false]; decide +kernel
  | .s _ f l => by
    simp only [T.dat, PyData.canLay0, PyData.canLayAll0, Ts.canLays l]; decide +kernel
theorem Ts.canLays : ∀ l : Ts, PyData.canLayAll0 l.dats = true
  | .nil => rfl
  | .cons t r => by simp only [Ts.dats, PyData.canLayAll0, T.canLay t, Ts.canLays r]; rfl
end
theorem T.shaped {t : T} (h : t.dep ≤ 30) : SeqAt.shaped t.dat = true := by
  unfold SeqAt.shaped
  rw [T.canLay, Bool.true_and, decide_eq_true_eq]
  have := T.depth_dat t
  walk_at "o"
theorem sv : (Str.ofString "v" == Str.ofString "s") = false ∧ (Str.ofString "v" == Str.ofString "a") = false ∧ (Str.ofString "v" == Str.ofString "i") = false ∧ (Str.ofString "a" == Str.ofString "v") = false ∧ (Str.ofString "i" == Str.ofString "v") = false ∧ (Str.ofString "s" == Str.ofString "v") = false ∧
    (Str.ofString "a" == Str.ofString "i") = false ∧ (Str.ofString "i" == Str.ofString "a") = false ∧ (Str.ofString "a" == Str.ofString "s") = false ∧ (Str.ofString "i" == Str.ofString "s") = false ∧ (Str.ofString "s" == Str.ofString "a") = false ∧ (Str.ofString "s" == Str.ofString "i") = false := by decide
mutual
theorem T.eqv_dat : ∀ {t u : T}, t.Law → u.Law → PyData.eqv t.dat u.dat = t.eqv u
  | .v a, .v b, _, _ => by
    simp only [T.dat, PyData.eqv, PyData.eqvAll, T.eqv, beq_self_eq_true, Bool.true_and, Bool.and_true]
    by_cases h : a = b <;> simp [h]
  | .v a, .k t b, _, _ => by
    simp only [T.dat, PyData.eqv, PyData.eqvAll, T.eqv]
    by_cases h : t = 4
    · simp only [h, if_true, sv]; rfl
    · simp only [h, if_false, sv]; rfl
  | .v a, .s _ f l, _, _ => by simp only [T.dat, PyData.eqv, PyData.eqvAll, T.eqv, sv]; rfl
  | .k t a, .v b, _, _ => by
    simp only [T.dat, PyData.eqv, PyData.eqvAll, T.eqv]
    by_cases h : t = 4
    · simp only [h, if_true, sv]; rfl
    · simp only [h, if_false, sv]; rfl
  | .k t a, .k u b, h1, h2 => by
    simp only [T.Law] at h1 h2
    simp only [T.dat, PyData.eqv, PyData.eqvAll, T.eqv, Bool.and_true]
    by_cases h : t = 4 <;> by_cases h' : u = 4
    · simp only [h, h', if_true, beq_self_eq_true, Bool.true_and, true_and]
      by_cases e : a = b <;> simp [e]
    · have : ¬ (4 : Int) = u := fun q => h' q.symm
      simp only [h, h', if_true, if_false, sv, this, false_and]; rfl
    · simp only [h, h', if_true, if_false, sv, false_and]; rfl
    · obtain rfl : t = 5 := by walk_at "o"
      obtain rfl : u = 5 := by walk_at "o"
      simp only [h, if_false, beq_self_eq_true, Bool.true_and, true_and]
      by_cases e : a = b <;> simp [e]
  | .k t a, .s _ f l, _, _ => by
    simp only [T.dat, PyData.eqv, PyData.eqvAll, T.eqv]
    by_cases h : t = 4
    · simp only [h, if_true, sv]; rfl
    · simp only [h, if_false, sv]; rfl
  | .s _ f l, .v b, _, _ => by simp only [T.dat, PyData.eqv, PyData.eqvAll, T.eqv, sv]; rfl
  | .s _ f l, .k t b, _, _ => by
    simp only [T.dat, PyData.eqv, PyData.eqvAll, T.eqv]
    by_cases h : t = 4
    · simp only [h, if_true, sv]; rfl
    · simp only [h, if_false, sv]; rfl
  | .s _ f l, .s _ g l', h1, h2 => by
    simp only [T.Law] at h1 h2
    simp only [T.dat, PyData.eqv, PyData.eqvAll, T.eqv, beq_self_eq_true, Bool.true_and, Bool.and_true, Ts.eqv_dats h1.2 h2.2]
    by_cases e : f = g <;> simp [e]
theorem Ts.eqv_dats : ∀ {l r : Ts}, l.Law → r.Law → PyData.eqvAll l.dats r.dats = l.eqv r
  | .nil, .nil, _, _ => rfl
  | .nil, .cons _ _, _, _ => rfl
  | .cons _ _, .nil, _, _ => rfl
  | .cons t r, .cons t' r', h1, h2 => by
    simp only [Ts.Law] at h1 h2
    simp only [Ts.dats, PyData.eqvAll, Ts.eqv, T.eqv_dat h1.1 h2.1, Ts.eqv_dats h1.2 h2.2]
end
theorem reads_ld {h : Heap} {a : Addr} {vs : List Value} {n : Nat} {ds : List PyData} (x : IsL h a vs.toArray n) (z : RdAll h vs ds) : Reads h (.ref a) (.list ds) [a] :=
  Reads.list (show h.get? a = some _ from x) rfl rfl (show ReadsAll h vs.toArray.toList ds [] from z)
section
variable {prog : Program} {w : World} {A : Around} {E : Value → Shared → Prop} {s₀ s : Shared} {B : Heap} {mu : List Addr} {L a c : Addr} {m : Str → Option Value} {P P' : List (Addr × Bool × Tr)} {D : List (Value × PyData)} {b : Bool} {Q : Value → Shared → Prop}
theorem in_ldi {ns : List Int} {k : Int} {t : Tok} (S : SS prog w B s₀ mu L m P D s) (hm : (a, b, .ldat (ns.map PyData.int)) ∈ P) (h : Q (.bool (decide (k ∈ ns))) s) : wpAny (model prog w) A (compareOp .In (.int k t) (.ref a)) Q E s := by
  obtain ⟨vs, n, x, z⟩ := S.get hm
  refine in_list_ints x.isList (rd_ints z) ?_
  have e : ns.any (· == k) = decide (k ∈ ns) := bool_iff (by simp)
  rw [e]; exact h
theorem sum_ldi {ns : List Int} (hh : A.handled = none) (S : SS prog w B s₀ mu L m P D s) (hm : (a, b, .ldat (ns.map PyData.int)) ∈ P) (h : ∀ i t s', SS prog w B s₀ mu L m P D s' → Q (.int i t) s') : wpAny (model prog w) A (call (.builtin "sum") [.ref a]) Q E s := by
  obtain ⟨vs, n, x, z⟩ := S.get hm
  have hi := rd_ints z
  obtain ⟨xs, hxs⟩ := ints_toks hi
  have hl : s.heap.IsList a (intItems xs.toArray) := by
    have e : intItems xs.toArray = vs.toArray := by unfold intItems; rw [hxs]; simp
    rw [e]; exact x.isList
  exact sum_intListG hh hl fun h' tk t' hk => h _ _ _ (S.back (s' := ⟨h', s.gens, s.drawn, tk, s.os⟩) ⟨fun b o e _ => hk b o e⟩ Eqv.mk')
theorem eq_tm {u v : Value} {t t' : T} (S : SS prog w B s₀ mu L m P D s) (x : (u, t.dat) ∈ D) (y : (v, t'.dat) ∈ D) (hu : A.units + 64 < cLine) (l : t.Law) (l' : t'.Law) (d : t.dep ≤ 30) (d' : t'.dep ≤ 30) (h : Q (.bool (t.eqv t')) s) :
    wpAny (model prog w) A (compareOp .Eq u v) Q E s := eq_rd (S.datum x) (S.datum y) (T.shaped d) (T.shaped d') hu (by rw [T.eqv_dat l l']; exact h)
theorem eq_ld {a' : Addr} {b' : Bool} {ds ds' : List PyData} (S : SS prog w B s₀ mu L m P D s) (x : (a, b, .ldat ds) ∈ P) (y : (a', b', .ldat ds') ∈ P) (hu : A.units + 64 < cLine) (d : SeqAt.shaped (.list ds) = true) (d' : SeqAt.shaped (.list ds') = true)
    (h : Q (.bool (PyData.eqv (.list ds) (.list ds'))) s) : wpAny (model prog w) A (compareOp .Eq (.ref a) (.ref a')) Q E s := by
  obtain ⟨vs, n, h1, h2⟩ := S.get x
  obtain ⟨vs', n', h3, h4⟩ := S.get y
  exact eq_dataH (reads_ld h1 h2) (reads_ld h3 h4) d d' hu h
theorem iadd_slot : fillsInplaceSlot (.type "list") "add" (Operator.Add == .Add) = pure false := by
  unfold fillsInplaceSlot
  show (typeLookup (.type "list") (dunderI "add") >>= fun fi => pure (fi.isSome && !isSeqSlot fi)) = pure false
  rw [F.slot_list_iadd.lookup]
  show (pure ((some (Value.builtin "list.__iadd__")).isSome && !isSeqSlot (some (.builtin "list.__iadd__"))) : Sem Bool) = pure false
  rw [show ((some (Value.builtin "list.__iadd__")).isSome && !isSeqSlot (some (.builtin "list.__iadd__"))) = false by decide +kernel]
theorem iadd_ld {c : Addr} {b' : Bool} {ds ds' : List PyData} (S : SS prog w B s₀ mu L m P D s) (U : Put a true true (.ldat ds) (.ldat (ds ++ ds')) P P') (hm : (c, b', .ldat ds') ∈ P) (hz : ds.length + ds'.length < 2 ^ 20) (h : ∀ s', SS prog w B s₀ mu L m P' D s' → Q (.ref a) s') :
    wpAny (model prog w) A (inplaceOp .Add (.ref a) (.ref c)) Q E s := by
  obtain ⟨vs, n, x, z⟩ := S.get U.mem
  obtain ⟨vs', n', x', z'⟩ := S.get hm
  have e1 := z.length
  have e2 := z'.length
  have ta : s.TypeIs (.ref a) "list" := ⟨_, x, rfl⟩
  have tc : s.TypeIs (.ref c) "list" := ⟨_, x', rfl⟩
  have sz : (2 ^ 21 : Nat) ≤ sizeLine := by decide
  have hd : vs.toArray.size + vs'.toArray.size ≤ sizeLine := by rw [List.size_toArray, List.size_toArray]; walk_at "o"
  unfold inplaceOp
  refine wpAny_holding ?_
  refine wpAny_bind (wpAny_typeOf ta (wpAny_bind (wpAny_of_eq iadd_slot ?_)))
  show wpAny _ A (if false = true then _ else _) Q E s
  rw [if_neg Bool.false_ne_true]
  refine wpAny_bind (wpAny_binaryOp1_none (nm := "add") ta tc noFill_list_add ?_)
  refine wpAny_bind (wpAny_of_eq (PySem.seqSlot_of F.slot_list_iadd.lookup (by decide +kernel)) ?_)
  refine wpAny_bind (wpAny_rule ?_)
  refine call_meets PySem.F.slot_list_iadd ta PySem.F.entry_list_iadd (PySem.F.args_list_iadd_2 _ _) (AutoSeq1.list___iadd___list_list_0 a vs.toArray n c vs'.toArray n' (extend_door hd) (by walk_at "o") (by walk_at "o")) ⟨x, x', ?_⟩
  have e : vs.toArray ++ vs'.toArray = (vs ++ vs').toArray := by simp
  have q : IsL (s.heap.update a (Obj.mapSeq fun y => y ++ vs'.toArray)) a (vs ++ vs').toArray (if (vs.toArray ++ vs'.toArray).size == vs.toArray.size then n else n + 1) := by
    show Heap.get? _ _ = _
    rw [Heap.get?_update_self _ x (by rw [mapSeq_app]; rfl), mapSeq_app, e]
  have hs : Heap.SameBut a s.heap (s.heap.update a (Obj.mapSeq fun y => y ++ vs'.toArray)) := Heap.SameBut.update ..
  have kt := tup_keep1 x (fun q => absurd (Value.type.inj q.1) (by decide)) (Go.same hs)
  exact h _ (S.to (S.st.turn U ⟨_, _, q, (z.app z').go kt⟩ hs))
end
end
section
section
variable {prog : Program} {w : World} {A : Around} {E : Value → Shared → Prop} {s₀ s : Shared} {B : Heap} {mu : List Addr} {L a c : Addr} {m : Str → Option Value} {P P' : List (Addr × Bool × Tr)} {D : List (Value × PyData)} {b : Bool} {Q : Value → Shared → Prop}
  {env : Env} {scope : Scope} {cl : List (Str × Addr)}
noncomputable abbrev CompGoal (prog : Program) (w : World) (A : Around) (E : Value → Shared → Prop) (Q : Value → Shared → Prop) (env : Env) (scope : Scope) (cl : List (Str × Addr)) (elt iter : Expr) (x : Str) (px pos : Pos) (it : Value) (s₂ : Shared) : Prop :=
  wpAny (model prog w) A (newList []) (fun acc s₃ => wpAny (model prog w) A (newFunctionEnv scope env.globals cl [] env.qual none .none (some env)) (fun cenv s₄ =>
    codeAny (model prog w) A (.compStart (.ListComp elt [⟨.Name x px, iter, [], 0⟩] scope pos) 0 it acc { cenv with scope := relabel scope env }) (compPost (model prog w) A E none Q acc cenv.locals) s₄) E s₃) E s₂
theorem ListComp_ {elt iter : Expr} {x : Str} {px pos : Pos} (hclos : closureFor scope env = pure cl) (hkind : scope.kind = .function) (hnames : ∀ x ∈ scope.names, x.2 = .local → scope.names.lookup x.1 = some .local)
    (h : wpAny (model prog w) A (eval iter env) (fun xv s₁ => wpAny (model prog w) A (pyIter xv) (fun it s₂ => CompGoal prog w A E Q env scope cl elt iter x px pos it s₂) E s₁) E s) (hs : ∀ x, foldedSetIterable iter env x = pure x) :
    wpAny (model prog w) A (eval (.ListComp elt [⟨.Name x px, iter, [], 0⟩] scope pos) env) Q E s := by
  rw [eval_ListComp]
  exact wpAny_comprehension_free (use := none) rfl hs hclos hkind hnames h
theorem comp_out {s₂ s'' : Shared} {It acc : Addr} {t0 : Tr} {ds : List PyData} {l : List (Addr × Tr)} {Pf : List (Addr × Bool × Tr)} (S₂ : SS prog w B s₀ mu L m ((It, true, t0) :: P) D s₂) (V : Puts l P Pf) (hn : s₂.heap.get? acc = none)
    (g : Go (It :: l.map (·.1)) s₂.heap s''.heap) (e : Eqv s₂ s'') (hacc : (Tr.ldat ds).At prog w s''.heap acc) (hl : ∀ q ∈ l, q.2.At prog w s''.heap q.1) : SS prog w B s₀ mu L m ((acc, true, .ldat ds) :: Pf) D s'' := by
  have nd := List.nodup_cons.mp (List.nodup_cons.mp S₂.st.nd).2
  have S' : SS prog w B s₀ mu L m Pf D s'' := by
    refine ⟨S₂.st.backs g (fun b q => ?_) (by rw [V.keys, List.map_cons]; exact List.sublist_cons_self _ _) (fun p hp => ?_) fun p hp hb => ?_, S₂.same.trans e⟩
    · rcases List.mem_cons.mp q with rfl | q
      · exact ⟨_, .head _⟩
      · obtain ⟨t, ht⟩ := V.mem nd.2 b q
        exact ⟨t, .tail _ ht⟩
    · rcases V.of_mem nd.2 p hp with ⟨h1, h2⟩ | h
      · refine .inl ⟨.tail _ h1, fun q => ?_⟩
        rcases List.mem_cons.mp q with q | q
        · exact nd.1 (List.mem_map.mpr ⟨p, h1, q⟩)
        · exact h2 q
      · exact .inr (hl _ h)
    · obtain ⟨t, ht⟩ := V.own nd.2 p hp hb
      exact ⟨t, .tail _ ht⟩
  refine S₂.take S' (fun p hp => ?_) hn hacc
  rw [List.map_cons]
  have : p.1 ∈ Pf.map (·.1) := List.mem_map_of_mem hp
  rw [V.keys] at this
  exact .tail _ this
theorem Sel.mono {mu mu' : List Addr} {P' P : List (Addr × Bool × Tr)} (h : ∀ a ∈ mu, a ∈ mu') (x : Sel mu P' P) : Sel mu' P' P := by
  induction x with
  | nil => exact .nil
  | take ha _ ih => exact .take (h _ ha) ih
  | look _ ih => exact .look ih
  | skip _ ih => exact .skip ih
theorem comp_range {elt iter : Expr} {x : Str} {px pos : Pos} {r : Addr} {p q : Int} {nn : Nat} {P₁ Pi : List (Addr × Bool × Tr)} {D₁ Di : List (Value × PyData)} (hh : A.handled = none)
    (S₁ : SS prog w B s₀ mu L m P₁ D₁ s) (hv : (r, b, .is (IsRg p q 1)) ∈ P₁) (S : SS prog w B s₀ mu L m P D s) (hsmall : Builtin.Range.small p q 1 = true) (hn : Builtin.Range.rangeSize p q 1 = (nn : Int)) (hsz : nn < 1000)
    (mu' : List Addr) (sel : Sel mu' Pi P) (hD : ∀ p ∈ Di, Rd s.heap p.1 p.2)
    (hcell : ∀ y ∈ scope.names, y.2 ≠ .cell) (hkind : scope.kind = .function) (hx : scope.names.lookup x = some .local)
    (J : Nat → List PyData → List (Addr × Bool × Tr) → List (Value × PyData) → Prop) (j0 : J 0 [] Pi Di) (hlen : ∀ i ds P D, J i ds P D → ds.length ≤ i)
    (turn : ∀ It i ds P D v C acc s₀ m s', i < nn → J i ds P D → m x = some v → SS prog w B s₀ (acc :: It :: mu') C m ((acc, true, .ldat ds) :: (It, true, .is (ItRange p 1 nn (i + 1))) :: P) D s' →
      wpAny (model prog w) A (eval elt (compEnvC scope cl C env)) (fun y s'' => ∃ d m' P' D', Rd s''.heap y d ∧ J (i + 1) (ds ++ [d]) P' D' ∧ SS prog w B s₀ (acc :: It :: mu') C m' ((acc, true, .ldat ds) :: (It, true, .is (ItRange p 1 nn (i + 1))) :: P') D' s'') (fun _ _ => False) s')
    (fin : ∀ It acc ds P' D' s₂ s'', J nn ds P' D' → SS prog w B s₀ mu L m ((It, true, .is (ItRange p 1 nn 0)) :: P) D s₂ → s₂.heap.get? acc = none → Go (It :: mu') s₂.heap s''.heap → Eqv s₂ s'' → (∀ p ∈ (acc, true, Tr.ldat ds) :: P', p.2.2.At prog w s''.heap p.1) → Q (.ref acc) s'') :
    wpAny (model prog w) A (pyIter (.ref r)) (fun it s₂ => CompGoal prog w A E Q env scope cl elt iter x px pos it s₂) E s := by
  obtain ⟨o, ho, _, t, u, v, rfl⟩ := S₁.get hv
  have ir : IsRange s.heap r p q 1 t u v := ho
  refine wpAny_pyIter_range ir hsmall ?_
  rw [hn]
  have S2 := S.iter (tk := s.toks) (o := { cls := .type "range_iterator", dict := none, data := .fields #[rawInt p, rawInt (nn : Int), rawInt 1], slots := #[] }) (t := .is (ItRange p 1 nn 0)) (isIt_range.mpr (by
    show Heap.get? _ _ = _
    rw [Heap.get?_push_size _ rfl]
    simp))
  refine comp_core (W := Src.range (a := p) (c := 1) (n := nn) hh) (fun s' R E st _ hR => ?_) (S2.kn (.take (.head _) (sel.mono fun a ha => .tail _ ha))) (fun p hp => (hD p hp).go fun b o e _ => Heap.get?_push_of_some _ e) hcell hkind hx hsz J j0 hlen (fun _ _ _ _ _ _ _ _ _ _ _ => trivial) ?_ ?_
  · exact (Walks.range (prog := prog) (w := w) hh _ p 1 nn).self 0 s' R E (isIt_range.mp st) hR
  · intro i ds P D v C acc s₀ m s' hi hJ hm S'
    exact turn _ i ds P D v C acc s₀ m s' hi hJ hm (S'.sub (List.Sublist.refl _) fun p hp => .tail _ hp)
  · intro acc ds P' D' s'' hJ hn' g e hat
    exact fin _ acc ds P' D' _ s'' hJ S2 hn' g e hat
theorem comp_tuple {elt iter : Expr} {x : Str} {px pos : Pos} {v : Value} {es : List PyData} {Pi : List (Addr × Bool × Tr)} {Di : List (Value × PyData)} (hh : A.handled = none)
    (S : SS prog w B s₀ mu L m P D s) (hv : (v, .tuple es) ∈ D) (hsz : es.length < 1000)
    (mu' : List Addr) (sel : Sel mu' Pi P) (hD : ∀ p ∈ Di, Rd s.heap p.1 p.2) (hvi : (v, .tuple es) ∈ Di)
    (hcell : ∀ y ∈ scope.names, y.2 ≠ .cell) (hkind : scope.kind = .function) (hx : scope.names.lookup x = some .local)
    (J : Nat → List PyData → List (Addr × Bool × Tr) → List (Value × PyData) → Prop) (j0 : J 0 [] Pi Di) (hlen : ∀ i ds P D, J i ds P D → ds.length ≤ i) (hJ : ∀ i ds P D, J i ds P D → (v, .tuple es) ∈ D)
    (turn : ∀ It i ds P D u d C acc s₀ m s', es[i]? = some d → J i ds P D → m x = some u → SS prog w B s₀ (acc :: It :: mu') C m ((acc, true, .ldat ds) :: (It, true, .is (ItTup (adr v) (i + 1))) :: P) ((u, d) :: D) s' →
      wpAny (model prog w) A (eval elt (compEnvC scope cl C env)) (fun y s'' => ∃ d m' P' D', Rd s''.heap y d ∧ J (i + 1) (ds ++ [d]) P' D' ∧ SS prog w B s₀ (acc :: It :: mu') C m' ((acc, true, .ldat ds) :: (It, true, .is (ItTup (adr v) (i + 1))) :: P') D' s'') (fun _ _ => False) s')
    (fin : ∀ It acc ds P' D' s₂ s'', J es.length ds P' D' → SS prog w B s₀ mu L m ((It, true, .is (ItTup (adr v) 0)) :: P) D s₂ → s₂.heap.get? acc = none → Go (It :: mu') s₂.heap s''.heap → Eqv s₂ s'' → (∀ p ∈ (acc, true, Tr.ldat ds) :: P', p.2.2.At prog w s''.heap p.1) → Q (.ref acc) s'') :
    wpAny (model prog w) A (pyIter v) (fun it s₂ => CompGoal prog w A E Q env scope cl elt iter x px pos it s₂) E s := by
  obtain ⟨t, vs, rfl, ht, hr⟩ := (S.datum hv).tuple
  have ht' : s.heap.IsTuple t vs.toArray := ht
  obtain ⟨ot, eo, _⟩ := id ht
  have ne : t ≠ s.heap.objs.size := Nat.ne_of_lt (Heap.lt_size eo)
  refine wpAny_pyIter_tuple ht' ?_
  have S2 := S.iter (tk := s.toks) (o := { cls := .type "tuple_iterator", dict := none, data := .fields #[.ref t, .int 0 0], slots := #[] }) (t := .is (ItTup t 0)) (isIt_tup.mpr ⟨_, Heap.get?_push_size _ rfl, rfl, rfl⟩)
  refine comp_core (W := Src.tuple (ds := es) hh ne) (fun s' R E st hsr hR => ?_) (S2.kn (.take (.head _) (sel.mono fun a ha => .tail _ ha))) (fun p hp => (hD p hp).go fun b o e _ => Heap.get?_push_of_some _ e) hcell hkind hx hsz J j0 hlen (fun i ds P D C acc s₀ m s' hj S' => S'.datum (hJ i ds P D hj)) ?_ ?_
  · obtain ⟨_, vs', e0, ht2, hr2⟩ := Rd.tuple hsr
    cases e0
    exact (Walks.tuple (prog := prog) (w := w) hh _ t ne vs'.toArray).self 0 s' R E ⟨isIt_tup.mp st, ht2⟩ hR
  · intro i ds P D u C acc s₀ m s' hi hJ' hm S'
    exact turn _ i ds P D u _ C acc s₀ m s' (by rw [List.getD_eq_getElem?_getD, List.getElem?_eq_getElem hi]; rfl) hJ' hm S'
  · intro acc ds P' D' s'' hJ' hn' g e hat
    exact fin _ acc ds P' D' _ s'' hJ' S2 hn' g e hat
end
section
variable {M : Model} {A : Around} {E : Value → Shared → Prop} {s : Shared} {e : Expr} {scope : Scope} {cl : List (Str × Addr)} {C : Addr} {env : Env} {Q : Value → Shared → Prop} {x : Str} {p : Pos} {cn : Str} {cs : Scope} {L a : Addr} {ccd v : Value} {Q1 : Unit → Shared → Prop}
end
noncomputable def Ts.snoc : Ts → T → Ts
  | .nil, t => .cons t .nil
  | .cons u r, t => .cons u (r.snoc t)
theorem Ts.snoc_dats : ∀ (l : Ts) (t : T), (l.snoc t).dats = l.dats ++ [t.dat]
  | .nil, t => rfl
  | .cons u r, t => by simp only [Ts.snoc, Ts.dats, r.snoc_dats t, List.cons_append]
theorem Ts.snoc_len : ∀ (l : Ts) (t : T), (l.snoc t).len = l.len + 1
  | .nil, t => rfl
  | .cons u r, t => by simp only [Ts.snoc, Ts.len, r.snoc_len t]
theorem Ts.snoc_law : ∀ {l : Ts} {t : T}, l.Law → t.Law → (l.snoc t).Law
  | .nil, t, _, h => by simp only [Ts.snoc, Ts.Law]; exact ⟨h, trivial⟩
  | .cons u r, t, h, k => by simp only [Ts.Law] at h; simp only [Ts.snoc, Ts.Law]; exact ⟨h.1, Ts.snoc_law h.2 k⟩
theorem Ts.snoc_dep {n : Nat} : ∀ {l : Ts} {t : T}, l.dep ≤ n → t.dep ≤ n → (l.snoc t).dep ≤ n
  | .nil, t, _, h => by simp only [Ts.snoc, Ts.dep]; walk_at "o"
  | .cons u r, t, h, k => by
    simp only [Ts.dep] at h
    have := Ts.snoc_dep (l := r) (n := n) (by walk_at "o") k
    simp only [Ts.snoc, Ts.dep]; walk_at "o"
end
section
section
variable {prog : Program} {w : World} {B : Heap} {mu : List Addr} {sc : Scope} {k : Nat} {C : Cx prog w B mu sc k}
variable {n : NL} {P P' : PL} {D D' : DL} {s s' : Shared} {x name : Str} {p q pos px : Pos} {a b : AV} {e e1 e2 : Expr} {i j : Int} {ad dx c : Addr} {bo : Bool} {ss : List Stmt} {R : Flow → Shared → Prop}
  {ι : Type} {H : ι → Prop} {va : ι → AV} {vP : ι → PL} {ds : List PyData} {vs : List Value}
theorem Ev.itVi {t : Tok} (h1 : Ev C n P e1 (.r ad)) (h2 : Ev C n P e2 (.d (.int i))) (hs : Sub e2) (hp : (ad, bo, .lst vs) ∈ P) (hk : vs[i.toNat]? = some (.int j t)) (h0 : 0 ≤ i) (hz : i < 2 ^ 63) : Ev C n P (.Subscript e1 e2 p) (.d (.int j)) := fun _ _ _ _ S k =>
  Subscript_ (h1 _ S fun v D1 s1 S1 b1 i1 => h2 _ S1 fun u D2 s2 S2 b2 i2 => by
    obtain rfl : v = .ref ad := i1
    obtain ⟨t, rfl⟩ := S2.int i2
    have S₀ := S2
    obtain ⟨m, S2, N2⟩ := S2
    exact item_ls S2 hp h0 hz hk (k _ _ _ (S₀.kint j _) ((b1.trans b2).trans .cons) (.head _)) (hs _ _ _))
theorem Ev.itVr (h1 : Ev C n P e1 (.r ad)) (h2 : Ev C n P e2 (.d (.int i))) (hs : Sub e2) (hp : (ad, bo, .lst vs) ∈ P) (hk : vs[i.toNat]? = some (.ref c)) (h0 : 0 ≤ i) (hz : i < 2 ^ 63) : Ev C n P (.Subscript e1 e2 p) (.r c) := fun _ _ _ _ S k =>
  Subscript_ (h1 _ S fun v D1 s1 S1 b1 i1 => h2 _ S1 fun u D2 s2 S2 b2 i2 => by
    obtain rfl : v = .ref ad := i1
    obtain ⟨t, rfl⟩ := S2.int i2
    have S₀ := S2
    obtain ⟨m, S2, N2⟩ := S2
    exact item_ls S2 hp h0 hz hk (k _ _ _ S₀ (b1.trans b2) rfl) (hs _ _ _))
inductive At1 : Nat → Value → List Value → List Value → Prop
  | head {v x l} : At1 0 v (x :: l) (v :: l)
  | tail {i v x l l'} : At1 i v l l' → At1 (i + 1) v (x :: l) (x :: l')
theorem At1.eq {i : Nat} {v : Value} {l l' : List Value} (h : At1 i v l l') : l.set i v = l' ∧ i < l.length := by
  induction h with
  | head => exact ⟨rfl, Nat.zero_lt_succ _⟩
  | tail _ ih => exact ⟨by rw [List.set_cons_succ, ih.1], Nat.succ_lt_succ ih.2⟩
theorem Wb.setV {i : Nat} {i' : Int} {vs' : Tok → List Value} {P1 : Tok → PL} (hv : Ev C n P e (.d (.int j))) (ho : Ev C n P e1 (.r ad)) (hi : Ev C n P e2 (.d (.int i'))) (hi' : i' = (i : Int)) (h1 : i < 1000) (hm : (ad, true, .lst vs) ∈ P) (ha : ∀ t, At1 i (.int j t) vs (vs' t)) (U : ∀ t, Put ad true true (.lst vs) (.lst (vs' t)) P (P1 t))
    (k : ∀ t, Wb C n (P1 t) ss R) (he : valE e = true) : Wb C n P (.Assign [.Subscript e1 e2 q] e p :: ss) R := fun _ _ S =>
  wpAny_execs_cons (wpAny_Assign_Subscript (hv _ S fun v D1 s1 S1 b1 i1 => ho _ S1 fun u D2 s2 S2 b2 i2 => hi _ S2 fun t D3 s3 S3 b3 i3 => by
    obtain rfl : u = .ref ad := i2
    obtain ⟨t0, rfl⟩ := S1.int i1
    obtain ⟨t, rfl⟩ := S3.int i3
    obtain ⟨m, S3, N3⟩ := S3
    subst hi'
    have e := (ha t0).eq
    refine setItem_ls S3 (vs := vs) (P' := P1 t0) ?_ (Int.natCast_nonneg _) (by walk_at "o") (by walk_at "o") fun s4 S4 => k t0 _ ⟨m, S4, N3⟩
    rw [Int.toNat_natCast, e.1]; exact U t0) (swaps_eq he))
variable {ss1 ss2 : List Stmt} {p1 : Prop} {iv : ι → Int} {e3 : Expr}
theorem Wb.iteC (h : Ef C n P e H (fun i => .d (.int (iv i))) vP) (h2 : ∀ i, Ev C n (vP i) e2 (.d (.int j))) (hm : behindInMarks .Eq e2 = false) (ht : ∀ i, H i → iv i = j → Wb C n (vP i) (ss1 ++ ss) R) (hf : ∀ i, H i → iv i ≠ j → Wb C n (vP i) (ss2 ++ ss) R) :
    Wb C n P (.If (.Compare e [.Eq] [e2] q) ss1 ss2 p :: ss) R := fun _ _ S =>
  If_app (wpAny_isTrue_Compare1 (h _ S fun i v D1 s1 hi S1 b1 i1 => h2 i _ S1 fun u D2 s2 S2 b2 i2 => Cm.eqI _ S2 (i1.sb b2) i2 fun c D3 s3 S3 b3 hc => wpAny_truthy_bool (by
    cases c with
    | true => exact ht i hi (hc.mp rfl) _ S3
    | false => exact hf i hi (fun q => Bool.false_ne_true (hc.mpr q)) _ S3)) hm)
theorem Wb.iteO (h1 : EvP C n P e1 p1) (h : ¬ p1 → Ef C n P e H (fun i => .d (.int (iv i))) vP) (h2 : ∀ i, Ev C n (vP i) e2 (.d (.int j))) (hm : behindInMarks .Eq e2 = false) (hp : p1 → Wb C n P (ss1 ++ ss) R) (ht : ∀ i, ¬ p1 → H i → iv i = j → Wb C n (vP i) (ss1 ++ ss) R) (hf : ∀ i, ¬ p1 → H i → iv i ≠ j → Wb C n (vP i) (ss2 ++ ss) R) :
    Wb C n P (.If (.BoolOp .Or [e1, .Compare e [.Eq] [e2] q] px) ss1 ss2 p :: ss) R := fun _ _ S =>
  If_app (isTrue_or (h1 _ S fun b D0 s0 S0 b0 hb => by
    cases b with
    | true => exact hp (hb.mp rfl) _ S0
    | false =>
      have np : ¬ p1 := fun q => Bool.false_ne_true (hb.mpr q)
      exact isTrue_or (wpAny_isTrue_Compare1 (h np _ S0 fun i v D1 s1 hi S1 b1 i1 => h2 i _ S1 fun u D2 s2 S2 b2 i2 => Cm.eqI _ S2 (i1.sb b2) i2 fun c D3 s3 S3 b3 hc => wpAny_truthy_bool (by
        cases c with
        | true => exact ht i np hi (hc.mp rfl) _ S3
        | false => exact isTrue_or_nil (hf i np hi (fun q => Bool.false_ne_true (hc.mpr q)) _ S3))) hm)))
theorem Ef.eqC (h : Ef C n P e H (fun i => .d (.int (iv i))) vP) (h2 : ∀ i, Ev C n (vP i) e2 (.d (.int j))) (hm : behindInMarks .Eq e2 = false) : Ef C n P (.Compare e [.Eq] [e2] p) H (fun i => .d (.bool (decide (iv i = j)))) vP := fun _ _ _ _ S k =>
  wpAny_Compare1 (h _ S fun i v D1 s1 hi S1 b1 i1 => h2 i _ S1 fun u D2 s2 S2 b2 i2 => Cm.eqI _ S2 (i1.sb b2) i2 fun c D3 s3 S3 b3 hc => by
    obtain rfl : c = decide (iv i = j) := Bool.eq_iff_iff.mpr (hc.trans decide_eq_true_iff.symm)
    exact k i _ _ _ hi (S3.know (Reads.bool _)) (((b1.trans b2).trans b3).trans .cons) (.head _)) hm
theorem Ev.tupL (hb : Blt w sc x (.type "tuple")) (h : Ev C n P e (.r ad)) (he : plainE e = true) (hp : (ad, bo, .ldat ds) ∈ P) (hz : ds.length < 1000) : Ev C n P (.Call (.Name x q) [e] [] p) (.d (.tuple ds)) := fun _ _ _ _ S k =>
  Call_ (wp_blt S hb (callT S (.cons h .nil he) fun vs D1 s1 S1 b1 i1 => by
    cases i1 with | cons i1 i2 => cases i2; obtain rfl := i1; obtain ⟨m, S1, N1⟩ := S1; exact tuple_ld S1 hp hz fun v s2 S2 => k v _ _ ⟨m, S2, N1.sb .cons⟩ (b1.trans .cons) (.head _))) (call_eq rfl)
theorem Wb.setLF {dv : ι → PyData} {P1 : ι → PL} (hv : Ef C n P e H (fun i => .d (dv i)) vP) (ho : ∀ i, Ev C n (vP i) e1 (.r ad)) (hi : ∀ j, Ev C n (vP j) e2 (.d (.int i))) (U : ∀ j, Put ad true true (.ldat ds) (.ldat (ds.set i.toNat (dv j))) (vP j) (P1 j)) (h0 : 0 ≤ i) (h1 : i < 2 ^ 63) (hz : i < ds.length)
    (k : ∀ i, H i → Wb C n (P1 i) ss R) (he : valE e = true) : Wb C n P (.Assign [.Subscript e1 e2 q] e p :: ss) R := fun _ _ S =>
  wpAny_execs_cons (wpAny_Assign_Subscript (hv _ S fun j v D1 s1 hj S1 b1 i1 => ho j _ S1 fun u D2 s2 S2 b2 i2 => hi j _ S2 fun t D3 s3 S3 b3 i3 => by
    obtain rfl : u = .ref ad := i2
    obtain ⟨t, rfl⟩ := S3.int i3
    have i4 := (i1.sb b2).sb b3
    obtain ⟨m, S3, N3⟩ := S3
    exact setItem_ld S3 (U j) (S3.datum i4) h0 h1 hz fun s4 S4 => k j hj _ ⟨m, S4, N3⟩) (swaps_eq he))
theorem Wb.or_t (h1 : EvP C n P e1 p1) (hp : p1) (ht : Wb C n P (ss1 ++ ss) R) : Wb C n P (.If (.BoolOp .Or [e1, e] px) ss1 ss2 p :: ss) R := fun _ _ S =>
  If_app (isTrue_or (h1 _ S fun b D0 s0 S0 b0 hb => by
    obtain rfl : b = true := hb.mpr hp
    exact ht _ S0))
theorem Wb.iaddL {af : ι → Addr} {ds' : List PyData} {P1 : ι → PL} (hn : n.lookup x = some (.r ad)) (h : Ef C n P e H (fun i => .r (af i)) vP) (U : ∀ i, Put ad true true (.ldat ds) (.ldat (ds ++ ds')) (vP i) (P1 i)) (hm : ∀ i, (af i, true, .ldat ds') ∈ vP i) (hz : ds.length + ds'.length < 2 ^ 20)
    (k : ∀ i, H i → Wb C ((x, .r ad) :: n) (P1 i) ss R) (hl : sc.names.lookup x = some .local) : Wb C n P (.AugAssign (.Name x px) .Add e p :: ss) R := fun D s S => by
  refine wpAny_execs_cons (wpAny_AugAssign_Name ?_)
  obtain ⟨m, v, S', N, h1, h2⟩ := S.get hn
  obtain rfl : v = .ref ad := h2
  refine ldS S' h1 ?_ C.hE (C.kl hl)
  refine h _ S fun i u D1 s1 hi S1 b1 i1 => ?_
  obtain rfl : u = .ref (af i) := i1
  obtain ⟨m1, S1, N1⟩ := S1
  refine iadd_ld S1 (U i) (hm i) hz fun s2 S2 => ?_
  exact Cx.S.store (a := .r ad) ⟨m1, S2, N1⟩ rfl hl fun s3 S3 => k i hi _ S3
theorem Cm.inLst {ns : List Int} (hp : (ad, bo, .ldat (ns.map PyData.int)) ∈ P) : Cm C n P .In (.d (.int i)) (.r ad) (i ∈ ns) := fun v u D s E Q S h1 h2 k => by
  obtain ⟨t, rfl⟩ := S.int h1
  obtain rfl : u = .ref ad := h2
  have S₀ := S
  obtain ⟨m, S, N⟩ := S
  exact in_ldi S hp (k _ _ _ S₀ (.refl _) decide_eq_true_iff)
theorem Cm.eqT {t t' : T} (l : t.Law) (l' : t'.Law) (d : t.dep ≤ 30) (d' : t'.dep ≤ 30) : Cm C n P .Eq (.d t.dat) (.d t'.dat) (t.eqv t' = true) := fun v u D s E Q S h1 h2 k => by
  have S₀ := S
  obtain ⟨m, S, N⟩ := S
  exact eq_tm S h1 h2 (Room.eq C.r) l l' d d' (k _ _ _ S₀ (.refl _) Iff.rfl)
variable {bv : ι → Bool}
theorem Wb.iteN (h : Ef C n P e H (fun i => .d (.bool (bv i))) vP) (he : testE e = true) (ht : ∀ i, H i → bv i = false → Wb C n (vP i) (ss1 ++ ss) R) (hf : ∀ i, H i → bv i = true → Wb C n (vP i) (ss2 ++ ss) R) : Wb C n P (.If (.UnaryOp .Not e q) ss1 ss2 p :: ss) R := fun _ _ S =>
  If_app (isTrue_not (isTrue_plain (h _ S fun i v D1 s1 hi S1 b1 i1 => by
    obtain rfl := (S1.rd i1).bool
    refine wpAny_truthy_bool ?_
    cases q : bv i with
    | true => exact hf i hi q _ S1
    | false => exact ht i hi q _ S1) (test_eq he)))
end
end
section
local macro_rules | `(tactic| walk_at "evc") => `(tactic| first
  | (refine' Ev.itVi ?e1 ?e2 ?e0 ?e3 ?e4 ?e5 ?e6; (case e0 => k_dflt (intro _ _ _; rfl)); (case e1 => walk_at "ev"); (case e2 => walk_at "ev"); (case e3 => k_dflt (walk_at "mem")); (case e4 => k_dflt (exact rfl)); (case e5 => k_dflt decide); (case e6 => k_dflt decide))
  | (refine' Ev.itVr ?e1 ?e2 ?e0 ?e3 ?e4 ?e5 ?e6; (case e0 => k_dflt (intro _ _ _; rfl)); (case e1 => walk_at "ev"); (case e2 => walk_at "ev"); (case e3 => k_dflt (walk_at "mem")); (case e4 => k_dflt (exact rfl)); (case e5 => k_dflt decide); (case e6 => k_dflt decide))
  | (refine' Ev.mod ?e1 ?e2 ?e3; (case e1 => walk_at "ev"); (case e2 => walk_at "ev"); (case e3 => k_dflt (first | with_reducible assumption | decide)))
  | (refine' Ev.fdiv ?e1 ?e2 ?e3 ?e4; (case e1 => walk_at "ev"); (case e2 => walk_at "ev"); (case e3 => k_dflt (first | with_reducible assumption | decide)); (case e4 => k_dflt (exact PyProof.noPylong_small (by walk_at "o"))))
  | fail "evc")
local macro_rules | `(tactic| walk_at "a1") => `(tactic| first | exact At1.head | (refine' At1.tail ?at1; (case at1 => walk_at "a1")))
section
variable {prog : Program} {w : World} {B : Heap}
inductive Hand (c : Addr) (ns : List Int) : List Value → Prop
  | mk (i1 i2 i3 i4 : Int) (t1 t2 t3 t4 : Tok) : 0 ≤ i1 → i1 ≤ ns.length → 0 ≤ i2 → 0 ≤ i3 → i3 < 2 ^ 40 → Hand c ns [.ref c, .int i1 t1, .int i2 t2, .int i3 t3, .int i4 t4]
noncomputable abbrev handP (ha c : Addr) (b : Bool) (vs : List Value) (ns : List Int) (R : PL) : PL := (ha, b, .lst vs) :: (c, false, .ldat (ns.map PyData.int)) :: R
theorem outV {X : AV → PL → Prop} {ha c : Addr} {ns : List Int} {lim : Int} (hX : ∀ (i : Int × List Value) P' a', (Hand c ns i.2 ∧ 0 ≤ i.1 ∧ i.1 < lim) → a' = .d (.int i.1) → (∀ q ∈ [(ha, Tr.lst i.2)], ∃ b, (q.1, b, q.2) ∈ P') → [].Sublist P' → (∀ q ∈ ([] : PL), q.2.1 = true ∧ q.1 ∉ [ha]) → X a' P')
    {d : Int} {vs : List Value} {P' : PL} (m : (ha, true, Tr.lst vs) ∈ P') (h : Hand c ns vs) (h0 : 0 ≤ d) (h1 : d < lim) : X (.d (.int d)) P' :=
  hX (d, vs) P' _ ⟨h, h0, h1⟩ rfl (fun q hq => ⟨true, by rw [List.mem_singleton.mp hq]; exact m⟩) (List.nil_sublist _) (fun q hq => nomatch hq)
set_option maxHeartbeats 1600000 in
theorem pick_fn {ha c : Addr} {vs : List Value} {ns : List Int} {lim : Int} (G : Gr (KK w.params) B) (hl : 0 < lim ∧ lim < 100) (hn : ns.length < 1000) (hh : Hand c ns vs) :
    EFn prog w B 1 [ha] (handP ha c true vs ns []) 508 [.r ha, .d (.int lim)] (ι := Int × List Value) (fun i => Hand c ns i.2 ∧ 0 ≤ i.1 ∧ i.1 < lim) (fun i => .d (.int i.1)) (fun i => [(ha, .lst i.2)]) (fun _ => []) := by
  cases hh with
  | mk i1 i2 i3 i4 t1 t2 t3 t4 h1 h2 h3 h4 h5 =>
  refine' (EFn.of (n := [("limit", .d (.int lim)), ("hand", .r ha)]) G is_508 (by rfl) (by rfl) fun C R X hX hR hE => ?_)
  have hlen : (ns.map PyData.int).length < 2 ^ 30 := by rw [List.length_map]; walk_at "o"
  have hl0 : lim ≠ 0 := by walk_at "o"
  have im : IntMulOk i3 48271 := .of_left (intBits_le_64 (by walk_at "o") (by walk_at "o"))
  walk_at "nm"
  ((with_reducible refine' Wb.ite ?wcx262 ?wtx262 ?wfx262); (case wcx262 => walk_at "evp"); (case' wfx262 => intro hbZ; walk_at "nm"); (case' wtx262 => intro hbZ; walk_at "nm"))
  · ((with_reducible refine' Wb.ite ?wcx263 ?wtx263 ?wfx263); (case wcx263 => walk_at "evp"); (case' wfx263 => intro hbZ; walk_at "nm"); (case' wtx263 => intro hbZ; walk_at "nm"))
    · have f1 := fmod_hi (i3 * 48271) (n := 2147483647) (by decide)
      have f0 := fmod_lo (i3 * 48271) (n := 2147483647) (by decide)
      ((with_reducible refine' Wb.setV ?s1x264 ?s2x264 ?s3x264 ?s4x264 ?s5x264 ?s9x264 ?s6x264 ?s7x264 ?wkx264 ?s8x264); (case s8x264 => k_dflt rfl); (case s1x264 => walk_at "ev"); (case s2x264 => walk_at "ev"); (case s3x264 => walk_at "ev"); (case s4x264 => k_dflt (exact rfl)); (case s5x264 => k_dflt decide); (case s9x264 => k_dflt (walk_at "mem")); (case s6x264 => intro tZ; k_dflt (walk_at "a1")); (case s7x264 => intro tZ; k_dflt (walk_at "put")); (case' wkx264 => intro tZ; walk_at "nm"))
      ((with_reducible refine' Wb.ret (by assumption) ?wcx265 ?wxx265); (case wcx265 => walk_at "ev"))
      exact outV hX (by walk_at "mem") (.mk _ _ _ _ _ _ _ _ h1 h2 h3 f0 (Int.lt_of_lt_of_le f1 (by decide))) (fmod_lo _ hl.1) (fmod_hi _ hl.1)
    · rename ¬ i1 = _ => z1
      rw [List.length_map] at z1
      obtain ⟨x, hx⟩ : ∃ x, ns[i1.toNat]? = some x := ⟨_, List.getElem?_eq_getElem (by walk_at "o")⟩
      have hx' : (ns.map PyData.int)[i1.toNat]? = some (.int x) := by rw [List.getElem?_map, hx]; rfl
      have out : ∀ (z : Int) (t1' t2' : Tok), 0 ≤ z → ∀ t3', X (.d (.int (z.fmod lim))) (handP ha c true [.ref c, .int (i1 + 1) t1', .int (z.fdiv lim) t3', .int i3 t3, .int i4 t4] ns []) := fun z t1' t2' hz t3' =>
        outV hX (by walk_at "mem") (.mk _ _ _ _ _ _ _ _ (by walk_at "o") (by walk_at "o") (Int.fdiv_nonneg (by walk_at "o") (by walk_at "o")) h4 h5) (fmod_lo _ hl.1) (fmod_hi _ hl.1)
      ((with_reducible refine' Wb.asg ?wcx266 ?wkx266 ?wlx266 ?wex266); (case wlx266 => rfl); (case wex266 => rfl); (case wcx266 => walk_at "ev"); (case' wkx266 => walk_at "nm"))
      ((with_reducible refine' Wb.setV ?s1x267 ?s2x267 ?s3x267 ?s4x267 ?s5x267 ?s9x267 ?s6x267 ?s7x267 ?wkx267 ?s8x267); (case s8x267 => k_dflt rfl); (case s1x267 => walk_at "ev"); (case s2x267 => walk_at "ev"); (case s3x267 => walk_at "ev"); (case s4x267 => k_dflt (exact rfl)); (case s5x267 => k_dflt decide); (case s9x267 => k_dflt (walk_at "mem")); (case s6x267 => intro tZ; k_dflt (walk_at "a1")); (case s7x267 => intro tZ; k_dflt (walk_at "put")); (case' wkx267 => intro tZ; walk_at "nm"))
      by_cases hx0 : 0 ≤ x
      · refine' Wb.setV (j := x) (Ev.ife ?q1 (fun _ => ?q2) (fun h => absurd hx0 h)) ?q3 ?q4 (i := 2) ?q9 (by decide) ?q8 (fun t' => ?q5) (fun t' => ?q6) (fun t2' => ?q7) rfl
        case q1 => walk_at "evp"
        case q2 => walk_at "ev"
        case q3 => walk_at "ev"
        case q4 => walk_at "ev"
        case q9 => rfl
        case q8 => walk_at "mem"
        case q5 => walk_at "a1"
        case q6 => walk_at "put"
        walk_at "nm"
        ((with_reducible refine' Wb.asg ?wcx268 ?wkx268 ?wlx268 ?wex268); (case wlx268 => rfl); (case wex268 => rfl); (case wcx268 => walk_at "ev"); (case' wkx268 => walk_at "nm"))
        ((with_reducible refine' Wb.setV ?s1x269 ?s2x269 ?s3x269 ?s4x269 ?s5x269 ?s9x269 ?s6x269 ?s7x269 ?wkx269 ?s8x269); (case s8x269 => k_dflt rfl); (case s1x269 => walk_at "ev"); (case s2x269 => walk_at "ev"); (case s3x269 => walk_at "ev"); (case s4x269 => k_dflt (exact rfl)); (case s5x269 => k_dflt decide); (case s9x269 => k_dflt (walk_at "mem")); (case s6x269 => intro tZ; k_dflt (walk_at "a1")); (case s7x269 => intro tZ; k_dflt (walk_at "put")); (case' wkx269 => intro tZ; walk_at "nm"))
        ((with_reducible refine' Wb.ret (by assumption) ?wcx270 ?wxx270); (case wcx270 => walk_at "ev"))
        exact out x _ t2' hx0 _
      · refine' Wb.setV (j := -x) (Ev.ife ?p1 (fun h => absurd h hx0) (fun _ => ?p2)) ?p3 ?p4 (i := 2) ?p9 (by decide) ?p8 (fun t' => ?p5) (fun t' => ?p6) (fun t2' => ?p7) rfl
        case p1 => walk_at "evp"
        case p2 => walk_at "ev"
        case p3 => walk_at "ev"
        case p4 => walk_at "ev"
        case p9 => rfl
        case p8 => walk_at "mem"
        case p5 => walk_at "a1"
        case p6 => walk_at "put"
        walk_at "nm"
        ((with_reducible refine' Wb.asg ?wcx271 ?wkx271 ?wlx271 ?wex271); (case wlx271 => rfl); (case wex271 => rfl); (case wcx271 => walk_at "ev"); (case' wkx271 => walk_at "nm"))
        ((with_reducible refine' Wb.setV ?s1x272 ?s2x272 ?s3x272 ?s4x272 ?s5x272 ?s9x272 ?s6x272 ?s7x272 ?wkx272 ?s8x272); (case s8x272 => k_dflt rfl); (case s1x272 => walk_at "ev"); (case s2x272 => walk_at "ev"); (case s3x272 => walk_at "ev"); (case s4x272 => k_dflt (exact rfl)); (case s5x272 => k_dflt decide); (case s9x272 => k_dflt (walk_at "mem")); (case s6x272 => intro tZ; k_dflt (walk_at "a1")); (case s7x272 => intro tZ; k_dflt (walk_at "put")); (case' wkx272 => intro tZ; walk_at "nm"))
        ((with_reducible refine' Wb.ret (by assumption) ?wcx273 ?wxx273); (case wcx273 => walk_at "ev"))
        exact out (-x) _ t2' (by walk_at "o") _
  · ((with_reducible refine' Wb.asg ?wcx274 ?wkx274 ?wlx274 ?wex274); (case wlx274 => rfl); (case wex274 => rfl); (case wcx274 => walk_at "ev"); (case' wkx274 => walk_at "nm"))
    ((with_reducible refine' Wb.setV ?s1x275 ?s2x275 ?s3x275 ?s4x275 ?s5x275 ?s9x275 ?s6x275 ?s7x275 ?wkx275 ?s8x275); (case s8x275 => k_dflt rfl); (case s1x275 => walk_at "ev"); (case s2x275 => walk_at "ev"); (case s3x275 => walk_at "ev"); (case s4x275 => k_dflt (exact rfl)); (case s5x275 => k_dflt decide); (case s9x275 => k_dflt (walk_at "mem")); (case s6x275 => intro tZ; k_dflt (walk_at "a1")); (case s7x275 => intro tZ; k_dflt (walk_at "put")); (case' wkx275 => intro tZ; walk_at "nm"))
    ((with_reducible refine' Wb.ret (by assumption) ?wcx276 ?wxx276); (case wcx276 => walk_at "ev"))
    exact outV hX (by walk_at "mem") (.mk _ _ _ _ _ _ _ _ h1 h2 (Int.fdiv_nonneg h3 (by walk_at "o")) h4 h5) (fmod_lo _ hl.1) (fmod_hi _ hl.1)
end
end
section
local macro_rules | `(tactic| walk_at "evc") => `(tactic| (refine' Ev.tupL ?e0 ?e1 ?e2 ?e3 ?e4; (case e0 => k_dflt (walk_at "blt")); (case e1 => walk_at "ev"); (case e2 => k_dflt rfl); (case e3 => k_dflt (walk_at "mem")); (case e4 => assumption)))
local macro_rules | `(tactic| walk_at "ef") => `(tactic| with_reducible (refine' Ef.listT ?e0 ?e1 ?e2 ?e4; (case e0 => k_dflt (walk_at "blt")); (case e1 => walk_at "ev"); (case e2 => k_dflt rfl); (case e4 => assumption)))
section
variable {prog : Program} {w : World} {B : Heap}
theorem Ts.get_of : ∀ {l : Ts} {i : Nat} {d : PyData}, l.Law → l.dats[i]? = some d → ∃ t : T, d = t.dat ∧ t.Law ∧ t.dep ≤ l.dep
  | .nil, i, d, _, h => by cases i <;> cases h
  | .cons t r, 0, d, hl, h => by
    simp only [Ts.Law] at hl
    cases h
    exact ⟨t, rfl, hl.1, by simp only [Ts.dep]; walk_at "o"⟩
  | .cons t r, i + 1, d, hl, h => by
    simp only [Ts.Law] at hl
    obtain ⟨u, h1, h2, h3⟩ := Ts.get_of (l := r) (i := i) hl.2 (by simpa [Ts.dats] using h)
    exact ⟨u, h1, h2, by simp only [Ts.dep]; walk_at "o"⟩
theorem partOf {l : Ts} {d : Int} (h1 : d < ((l.dats.length : Nat) : Int)) (h0 : 0 ≤ d) (ll : l.Law) : ∃ (k : Nat) (t : T), l.dats[((k : Nat) : Int).toNat]? = some t.dat ∧ t.Law ∧ t.dep ≤ l.dep ∧ d = ((k : Nat) : Int) := by
  have e : l.dats[d.toNat]? = some (l.dats[d.toNat]'(by walk_at "o")) := List.getElem?_eq_getElem (by walk_at "o")
  obtain ⟨t, e1, e2, e3⟩ := Ts.get_of ll e
  refine ⟨d.toNat, t, ?_, e2, e3, by walk_at "o"⟩
  rw [Int.toNat_natCast, e, e1]
theorem Ts.set_of {n : Nat} {t : T} (ht : t.Law) (hd : t.dep ≤ n) : ∀ {l : Ts} (k : Nat), l.Law → l.dep ≤ n → ∃ l' : Ts, l.dats.set k t.dat = l'.dats ∧ l'.Law ∧ l'.dep ≤ n ∧ l'.len = l.len
  | .nil, k, hl, hn => ⟨.nil, by cases k <;> rfl, hl, hn, rfl⟩
  | .cons u r, 0, hl, hn => by
    simp only [Ts.Law] at hl
    simp only [Ts.dep] at hn
    exact ⟨.cons t r, rfl, by simp only [Ts.Law]; exact ⟨ht, hl.2⟩, by simp only [Ts.dep]; walk_at "o", rfl⟩
  | .cons u r, k + 1, hl, hn => by
    simp only [Ts.Law] at hl
    simp only [Ts.dep] at hn
    obtain ⟨l', h1, h2, h3, h4⟩ := Ts.set_of ht hd (l := r) k hl.2 (by walk_at "o")
    exact ⟨.cons u l', by simp only [Ts.dats, List.set_cons_succ, h1], by simp only [Ts.Law]; exact ⟨hl.1, h2⟩, by simp only [Ts.dep]; walk_at "o", by simp only [Ts.len, h4]⟩
local macro_rules | `(tactic| walk_at "spe") => `(tactic| with_reducible first | (refine' pick_fn (by assumption) ?_ ?_ ?_) | fail "spe")
set_option maxHeartbeats 1600000 in
theorem change_fn {ha c : Addr} {ns : List Int} (G : Gr (KK w.params) B) (hn : ns.length < 1000) {o : T} (lo : o.Law) (do' : o.dep ≤ 1) (n : Nat) : ∀ {vs : List Value} {t : T} (hh : Hand c ns vs) (law : t.Law) (dep : t.dep ≤ n),
    EFn prog w B (n + 2) [ha] (handP ha c true vs ns []) 525 [.r ha, .d t.dat, .d o.dat] (ι := T × List Value) (fun i => Hand c ns i.2 ∧ i.1.Law ∧ i.1.dep ≤ n + 1) (fun i => .d i.1.dat) (fun i => [(ha, .lst i.2)]) (fun _ => []) := by
  induction n using Nat.strongRecOn with
  | ind n ih =>
    intro vs t hh law dep
    refine' (EFn.of (n := [("other", .d o.dat), ("tree", .d t.dat), ("hand", .r ha)]) G is_525 (by rfl) (by rfl) fun C R X hX hR hE => ?_)
    replace hX : ∀ (t' : T) vs' P', (ha, true, Tr.lst vs') ∈ P' → Hand c ns vs' → t'.Law → t'.dep ≤ n + 1 → X (.d t'.dat) P' := fun t' vs' P' m h1 h2 h3 =>
      hX (t', vs') P' _ ⟨h1, h2, h3⟩ rfl (fun q hq => ⟨true, by rw [List.mem_singleton.mp hq]; exact m⟩) (List.nil_sublist _) (fun q hq => nomatch hq)
    have l3 : (0 : Int) < 3 ∧ (3 : Int) < 100 := by decide
    cases t with
    | v a =>
      simp only [T.dat]
      walk_at "nm"
      (with_reducible refine' Wb.or_t ?w1 ?w2 ?w3)
      case w1 => walk_at "evp"
      case w2 => decide
      walk_at "nm"
      ((with_reducible refine' Wb.ret (by assumption) ?wcx277 ?wxx277); (case wcx277 => walk_at "ev"))
      exact hX o vs _ (by walk_at "mem") hh lo (by walk_at "o")
    | k b a =>
      by_cases h4 : b = 4
      · subst h4
        simp only [T.dat, if_true]
        walk_at "nm"
        (with_reducible refine' Wb.or_t ?w4 ?w5 ?w6)
        case w4 => walk_at "evp"
        case w5 => decide
        walk_at "nm"
        ((with_reducible refine' Wb.ret (by assumption) ?wcx278 ?wxx278); (case wcx278 => walk_at "ev"))
        exact hX o vs _ (by walk_at "mem") hh lo (by walk_at "o")
      · simp only [T.dat, if_neg h4]
        walk_at "nm"
        (with_reducible refine' Wb.or_t ?w7 ?w8 ?w9)
        case w7 => walk_at "evp"
        case w8 => decide
        walk_at "nm"
        ((with_reducible refine' Wb.ret (by assumption) ?wcx279 ?wxx279); (case wcx279 => walk_at "ev"))
        exact hX o vs _ (by walk_at "mem") hh lo (by walk_at "o")
    | s a f l =>
      simp only [T.Law] at law
      simp only [T.dep] at dep
      obtain ⟨fm, ll⟩ := law
      have fp := fm.pos
      have el := Ts.dats_length l
      have hlen : 0 < ((l.dats.length : Nat) : Int) ∧ ((l.dats.length : Nat) : Int) < 100 := by walk_at "o"
      have hz : l.dats.length < 1000 := by walk_at "o"
      have hk0 : (0 : Int) < 3 ∧ (3 : Int) < 100 := by decide
      simp only [T.dat]
      walk_at "nm"
      (with_reducible refine' Wb.iteO ?v1 ?v2 ?v3 ?v4 ?v5 ?v6 ?v7)
      case v1 => walk_at "evp"
      case v5 => intro h; exact absurd rfl h
      case v2 => intro _; walk_at "efc"
      case v4 => rfl
      case v3 => intro i; walk_at "ev"
      case v6 =>
        intro i _ hi _
        walk_at "nm"
        ((with_reducible refine' Wb.ret (by assumption) ?wcx280 ?wxx280); (case wcx280 => walk_at "ev"))
        exact hX o i.2 _ (by walk_at "mem") hi.1 lo (by walk_at "o")
      intro i _ hi _
      walk_at "nm"
      have hH := hi.1
      ((with_reducible refine' Wb.asgF ?wcx281 ?wkx281 ?wlx281 ?wex281); (case wlx281 => k_dflt rfl); (case wex281 => k_dflt rfl); (case wcx281 => walk_at "ef"); (case' wkx281 => intro aZ _; walk_at "nm"))
      rename Int × List Value => j
      rename Hand c ns j.2 ∧ _ => hj
      obtain ⟨d, vs2⟩ := j
      obtain ⟨hH2, d0, dl⟩ := hj
      dsimp only at hH2 d0 dl ⊢
      obtain ⟨k, t0, e0, law0, dep0, rfl⟩ := partOf dl d0 ll
      ((with_reducible refine' Wb.asgF ?wcx282 ?wkx282 ?wlx282 ?wex282); (case wlx282 => k_dflt rfl); (case wex282 => k_dflt rfl); (case wcx282 => walk_at "ef"); (case' wkx282 => intro aZ _; walk_at "nm"))
      rename Addr => pa
      have hz1 : ((k : Nat) : Int) < (l.dats.length : Int) := dl
      (with_reducible refine' Wb.setLF ?u1 ?u2 ?u3 ?u4 ?u5 ?u6 ?u7 ?u8 ?u9)
      case u9 => rfl
      case u1 =>
        (with_reducible refine' Ef.call ?l (ih (n - 1) (by walk_at "o") (t := t0) hH2 law0 (by walk_at "o")) ?sel ?kk ?hl ?V ?f ?kp ?r1 ?r2)
        case l => walk_at "evl"
        case sel => walk_at "sel"
        case kk => omega
        case hl => intro _; rfl
        case V => intro _; walk_at "puts"
        case f => k_is
        case kp => k_is
        case r1 => rfl
        case r2 => rfl
      case u2 => intro _; dsimp only [List.nil_append]; walk_at "ev"
      case u3 => intro _; dsimp only [List.nil_append]; walk_at "ev"
      case u4 => intro _; dsimp only [List.nil_append]; walk_at "put"
      case u5 => omega
      case u6 => omega
      case u7 => omega
      intro q hq
      obtain ⟨t', vs3⟩ := q
      obtain ⟨hH3, law', dep'⟩ := hq
      dsimp only at hH3 law' dep' ⊢
      obtain ⟨l', h1, h2, h3, h4⟩ := Ts.set_of (n := n) law' (by walk_at "o") (l := l) ((k : Nat) : Int).toNat ll (by walk_at "o")
      have hz2 : (l.dats.set ((k : Nat) : Int).toNat t'.dat).length < 1000 := by rw [List.length_set]; exact hz
      walk_at "nm"
      ((with_reducible refine' Wb.ret (by assumption) ?wcx283 ?wxx283); (case wcx283 => walk_at "ev"))
      rw [h1]
      exact hX (.s 0 f l') vs3 _ (by walk_at "mem") hH3 (by simp only [T.Law]; exact ⟨by rw [h4]; exact fm, h2⟩) (by simp only [T.dep]; walk_at "o")
end
end
section
section
variable {prog : Program} {w : World} {B : Heap}
mutual
theorem T.vars_size : ∀ t : T, t.vars.length ≤ t.size
  | .v _ => Nat.le_refl _
  | .k _ _ => Nat.zero_le _
  | .s _ _ l => by
    have := Ts.vars_size l
    simp only [T.vars, T.size]; walk_at "o"
theorem Ts.vars_size : ∀ l : Ts, l.vars.length ≤ l.size
  | .nil => Nat.le_refl _
  | .cons t r => by
    have := T.vars_size t
    have := Ts.vars_size r
    simp only [Ts.vars, Ts.size, List.length_append]; walk_at "o"
end
set_option maxHeartbeats 1600000 in
theorem free_fn (G : Gr (KK w.params) B) (n : Nat) : ∀ {t : T} (law : t.Law) (dep : t.dep ≤ n) (hs : t.size ≤ 900),
    EFn prog w B (n + 1) [] [] 532 [.d t.dat] (ι := Addr) (fun _ => True) .r (fun _ => []) (fun a => [(a, true, .ldat (t.vars.map PyData.int))]) := by
  induction n using Nat.strongRecOn with
  | ind n ih =>
    intro t law dep hs
    refine' (EFn.of (n := [("tree", .d t.dat)]) G is_532 (by rfl) (by rfl) fun C R X hX hR hE => ?_)
    replace hX : ∀ a P', ((a, true, Tr.ldat (t.vars.map PyData.int)) :: P') = ((a, true, Tr.ldat (t.vars.map PyData.int)) :: P') → X (.r a) ((a, true, Tr.ldat (t.vars.map PyData.int)) :: P') := fun a P' _ =>
      hX a _ _ trivial rfl (fun q hq => nomatch hq) (.cons_cons _ (List.nil_sublist _)) (fun q hq => by rw [List.mem_singleton.mp hq]; exact ⟨rfl, fun h => nomatch h⟩)
    cases t with
    | v a =>
      simp only [T.dat]
      walk_at "nm"
      ((with_reducible refine' Wb.ite_t ?wcx284 ?wpx284 ?wtx284); (case wcx284 => walk_at "evp"); (case wpx284 => first | exact rfl | assumption | decide); (case' wtx284 => walk_at "nm"))
      refine' Wb.retF hR ?r0 (fun i _ => ?rx)
      case r0 => walk_at "ef"
      case rx => exact hX i _ rfl
    | k b a =>
      by_cases h4 : b = 4
      · subst h4
        simp only [T.dat, if_true]
        walk_at "nm"
        ((with_reducible refine' Wb.ite_f ?wcx285 ?wpx285 ?wfx285); (case wcx285 => walk_at "evp"); (case wpx285 => first | assumption | decide); (case' wfx285 => walk_at "nm"))
        ((with_reducible refine' Wb.asgF ?wcx286 ?wkx286 ?wlx286 ?wex286); (case wlx286 => k_dflt rfl); (case wex286 => k_dflt rfl); (case wcx286 => walk_at "ef"); (case' wkx286 => intro aZ _; walk_at "nm"))
        ((with_reducible refine' Wb.ite_f ?wcx287 ?wpx287 ?wfx287); (case wcx287 => walk_at "evp"); (case wpx287 => first | assumption | decide); (case' wfx287 => walk_at "nm"))
        ((with_reducible refine' Wb.ret (by assumption) ?wcx288 ?wxx288); (case wcx288 => walk_at "ev"))
        exact hX _ _ rfl
      · simp only [T.dat, if_neg h4]
        walk_at "nm"
        ((with_reducible refine' Wb.ite_f ?wcx289 ?wpx289 ?wfx289); (case wcx289 => walk_at "evp"); (case wpx289 => first | assumption | decide); (case' wfx289 => walk_at "nm"))
        ((with_reducible refine' Wb.asgF ?wcx290 ?wkx290 ?wlx290 ?wex290); (case wlx290 => k_dflt rfl); (case wex290 => k_dflt rfl); (case wcx290 => walk_at "ef"); (case' wkx290 => intro aZ _; walk_at "nm"))
        ((with_reducible refine' Wb.ite_f ?wcx291 ?wpx291 ?wfx291); (case wcx291 => walk_at "evp"); (case wpx291 => first | assumption | decide); (case' wfx291 => walk_at "nm"))
        ((with_reducible refine' Wb.ret (by assumption) ?wcx292 ?wxx292); (case wcx292 => walk_at "ev"))
        exact hX _ _ rfl
    | s a f l =>
      simp only [T.Law] at law
      simp only [T.dep] at dep
      simp only [T.size] at hs
      obtain ⟨fm, ll⟩ := law
      simp only [T.dat]
      walk_at "nm"
      ((with_reducible refine' Wb.ite_f ?wcx293 ?wpx293 ?wfx293); (case wcx293 => walk_at "evp"); (case wpx293 => first | assumption | decide); (case' wfx293 => walk_at "nm"))
      ((with_reducible refine' Wb.asgF ?wcx294 ?wkx294 ?wlx294 ?wex294); (case wlx294 => k_dflt rfl); (case wex294 => k_dflt rfl); (case wcx294 => walk_at "ef"); (case' wkx294 => intro aZ _; walk_at "nm"))
      rename Addr => fo
      ((with_reducible refine' Wb.ite_t ?wcx295 ?wpx295 ?wtx295); (case wcx295 => walk_at "evp"); (case wpx295 => first | exact rfl | assumption | decide); (case' wtx295 => walk_at "nm"))
      refine' Wb.forT (ι := List Int × Ts) (ds := l.dats) (N := fun _ _ => [("found", .r fo)]) (PP := fun _ j => [(fo, true, .ldat (j.1.map PyData.int))]) (H := fun i j => Ts.dats j.2 = l.dats.drop i ∧ j.1 ++ j.2.vars = l.vars ∧ j.2.Law ∧ j.2.dep ≤ l.dep ∧ j.2.size ≤ l.size ∧ j.1.length + j.2.size ≤ l.size)
        hR ([], l) ⟨rfl, rfl, ll, Nat.le_refl _, Nat.le_refl _, by simp⟩ ?qe ⟨rfl, trivial⟩ (List.Sublist.refl _) (fun C' R' I i j d T2 hR' hT hdi hj => ?qb) (fun j hj => ?qd) rfl (fun _ => rfl)
      case qe => walk_at "ev"
      case qd =>
        obtain ⟨us, r⟩ := j
        obtain ⟨hr, hu, hl, hdp, hsz, hus⟩ := hj
        dsimp only at hr hu ⊢
        rw [List.drop_length] at hr
        obtain rfl : r = .nil := by cases r with | nil => rfl | cons t r => simp [Ts.dats] at hr
        simp only [Ts.vars, List.append_nil] at hu
        subst hu
        walk_at "nm"
        ((with_reducible refine' Wb.ret (by assumption) ?wcx296 ?wxx296); (case wcx296 => walk_at "ev"))
        exact hX _ _ rfl
      case qb =>
        obtain ⟨us, r⟩ := j
        obtain ⟨hr, hu, hl, hdp, hsz, hus⟩ := hj
        dsimp only at hr hu hl hdp hsz hus ⊢
        have hdr2 : l.dats.drop i = d :: l.dats.drop (i + 1) := by
          rw [List.drop_eq_getElem_cons (List.getElem?_eq_some_iff.mp hdi).1]; congr 1; exact (List.getElem?_eq_some_iff.mp hdi).2
        rw [hdr2] at hr
        cases r with
        | nil => simp [Ts.dats] at hr
        | cons t0 r =>
        simp only [Ts.dats, List.cons.injEq] at hr
        obtain ⟨rfl, hr⟩ := hr
        simp only [Ts.Law] at hl
        simp only [Ts.dep] at hdp
        simp only [Ts.size] at hsz hus
        simp only [Ts.vars] at hu
        have s0 := t0.size_pos
        have v0 := t0.vars_size
        have hz : (us.map PyData.int).length + (t0.vars.map PyData.int).length < 2 ^ 20 := by rw [List.length_map, List.length_map]; walk_at "o"
        walk_at "nm"
        (with_reducible refine' Wb.iaddL ?u1 ?u2 ?u3 ?u4 ?u5 ?u6 ?u7)
        case u1 => rfl
        case u7 => rfl
        case u2 =>
          (with_reducible refine' Ef.call ?l (ih (n - 1) (by walk_at "o") (t := t0) hl.1 (by walk_at "o") (by walk_at "o")) ?sel ?kk ?hl ?V ?f ?kp ?r1 ?r2)
          case l => walk_at "evl"
          case sel => walk_at "sel"
          case kk => omega
          case hl => intro _; rfl
          case V => intro _; walk_at "puts"
          case f => k_is
          case kp => k_is
          case r1 => rfl
          case r2 => rfl
        case u4 => intro i; dsimp only [List.cons_append, List.nil_append]; walk_at "mem"
        case u3 => intro _; dsimp only [List.cons_append, List.nil_append]; walk_at "put"
        case u5 => exact hz
        intro a _
        walk_at "nm"
        rw [← List.map_append]
        exact Wb.turn hT (us ++ t0.vars, r) ⟨hr, by dsimp only; rw [List.append_assoc]; exact hu, hl.2, by dsimp only; walk_at "o", by dsimp only; walk_at "o", by dsimp only; rw [List.length_append]; walk_at "o"⟩ ⟨rfl, trivial⟩ ((List.Sublist.refl _).cons _)
end
end
section
local macro_rules | `(tactic| walk_at "cm") => `(tactic| first | (refine' Cm.inLst ?c1; (case c1 => k_dflt (walk_at "mem"))) | exact Cm.eqI | exact Cm.neI | exact Cm.eqS | exact Cm.neS | (refine' Cm.inDct ?c1; (case c1 => k_dflt (walk_at "mem"))) | (refine' Cm.niDct ?c1; (case c1 => k_dflt (walk_at "mem"))))
section
variable {prog : Program} {w : World} {B : Heap}
noncomputable def tmDat (ch : Ch) : List (Int × PyData) := ch.map fun e => (e.1, e.2.dat)
theorem tmDat_get (ch : Ch) (n : Int) : kget (tmDat ch) n = (chget ch n).map T.dat := by
  unfold kget chget tmDat
  induction ch with
  | nil => rfl
  | cons e r ih =>
    simp only [List.map_cons, List.find?_cons]
    by_cases h : e.1 = n
    · simp [h]
    · simp only [h, decide_false, ih]
noncomputable def Vals (vm : Ch) : Prop := ∀ n y, chget vm n = some y → y.Law ∧ y.dep ≤ 1
mutual
theorem T.eqv_symm : ∀ t u : T, t.eqv u = u.eqv t
  | .v a, .v b => by simp only [T.eqv, decide_eq_decide]; exact eq_comm
  | .k t a, .k u b => by simp only [T.eqv, decide_eq_decide]; exact and_congr eq_comm eq_comm
  | .s _ f l, .s _ g l' => by
    simp only [T.eqv, Ts.eqv_symm l l']
    congr 1
    exact decide_eq_decide.mpr eq_comm
  | .v _, .k _ _ => by simp only [T.eqv]
  | .v _, .s _ _ _ => by simp only [T.eqv]
  | .k _ _, .v _ => by simp only [T.eqv]
  | .k _ _, .s _ _ _ => by simp only [T.eqv]
  | .s _ _ _, .v _ => by simp only [T.eqv]
  | .s _ _ _, .k _ _ => by simp only [T.eqv]
theorem Ts.eqv_symm : ∀ t u : Ts, t.eqv u = u.eqv t
  | .nil, .nil => rfl
  | .nil, .cons _ _ => rfl
  | .cons _ _, .nil => rfl
  | .cons t r, .cons t' r' => by simp only [Ts.eqv, T.eqv_symm t t', Ts.eqv_symm r r']
end
theorem tmDat_put {ch : Ch} {n : Int} {t : T} (h : chget ch n = none) : kput (tmDat ch) n t.dat = tmDat (ch ++ [(n, t)]) := by
  unfold kput
  rw [if_neg]
  · simp [tmDat]
  · have q := tmDat_get ch n
    rw [h] at q
    intro z
    unfold kget at q
    simp only [Option.map_none, Option.map_eq_none_iff] at q
    rw [List.find?_eq_none] at q
    obtain ⟨e, he, e2⟩ := List.any_eq_true.mp z
    exact q e he e2
theorem chget_new {ch : Ch} {a : Int} {u : T} (h : chget ch a = none) : chget (ch ++ [(a, u)]) a = some u := by
  unfold chget at h ⊢
  rw [List.find?_append]
  simp only [Option.map_eq_none_iff] at h
  rw [h]
  simp
noncomputable def ChOk (ch : Ch) : Prop := ∀ n y, chget ch n = some y → y.Law ∧ y.dep ≤ 30
theorem ChOk.add {ch : Ch} (x : ChOk ch) {n : Int} {u : T} (h : u.Law) (d : u.dep ≤ 30) : ChOk (ch ++ [(n, u)]) := fun m y hy => by
  rcases chget_add hy with q | rfl
  · exact x m y q
  · exact ⟨h, d⟩
theorem fitIf {b : Bool} {o : Option Ch} {ch : Ch} (e : o = if b = true then some ch else none) : if b = true then o = some ch else o = none := by
  cases b
  · exact e
  · exact e
structure FH (fx : Int → Bool) (l l' : Ts) (ch : Ch) (i : Nat) (j : Ch × Ts × Ts) : Prop where
  hr : j.2.1.dats = l.dats.drop i
  hr' : j.2.2.dats = l'.dats.drop i
  lr : j.2.1.Law ∧ j.2.2.Law
  dr : j.2.1.dep ≤ l.dep ∧ j.2.2.dep ≤ l'.dep
  co : ChOk j.1
  cl : j.1.length + j.2.1.size ≤ ch.length + l.size
  ft : l.fit fx l' ch = j.2.1.fit fx j.2.2 j.1
theorem FH.item {fx : Int → Bool} {l l' : Ts} {ch : Ch} {i : Nat} {j : Ch × Ts × Ts} (h : FH fx l l' ch i j) (hi : i < l.dats.length) (el : l.dats.length = l'.dats.length) {q : Prop}
    (k : ∀ t0 t0' : T, l.dats[((i : Nat) : Int).toNat]? = some t0.dat → l'.dats[((i : Nat) : Int).toNat]? = some t0'.dat → t0.Law → t0'.Law → t0.dep ≤ l.dep → t0'.dep ≤ l'.dep → j.1.length + t0.size ≤ ch.length + l.size →
      (∀ (b : Bool) (ch2 : Ch), ChOk ch2 → ch2.length ≤ j.1.length + t0.size → (if b = true then t0.fit fx t0' j.1 = some ch2 else t0.fit fx t0' j.1 = none) → if b = true then ∃ r r', FH fx l l' ch (i + 1) (ch2, r, r') else l.fit fx l' ch = none ∧ ch2.length ≤ ch.length + l.size) → q) : q := by
  obtain ⟨ch', r, r'⟩ := j
  obtain ⟨hr, hr', ⟨lr, lr'⟩, ⟨dr, dr'⟩, cok, hcl, hfit⟩ := h
  dsimp only at hr hr' lr lr' dr dr' cok hcl hfit k
  have hi' : i < l'.dats.length := el ▸ hi
  rw [List.drop_eq_getElem_cons hi] at hr
  rw [List.drop_eq_getElem_cons hi'] at hr'
  cases r with
  | nil => simp only [Ts.dats] at hr; cases hr
  | cons t0 r =>
  cases r' with
  | nil => simp only [Ts.dats] at hr'; cases hr'
  | cons t0' r' =>
  simp only [Ts.dats, List.cons.injEq] at hr hr'
  simp only [Ts.Law] at lr lr'
  simp only [Ts.dep] at dr dr'
  simp only [Ts.size] at hcl
  simp only [Ts.fit] at hfit
  refine k t0 t0' (by rw [Int.toNat_natCast, List.getElem?_eq_getElem hi, hr.1]) (by rw [Int.toNat_natCast, List.getElem?_eq_getElem hi', hr'.1]) lr.1 lr'.1 (by walk_at "o") (by walk_at "o") (by walk_at "o") fun b ch2 c2 l2 e => ?_
  cases b with
  | true =>
    rw [if_pos rfl] at e ⊢
    refine ⟨r, r', hr.2, hr'.2, ⟨lr.2, lr'.2⟩, ⟨?_, ?_⟩, c2, ?_, ?_⟩ <;> dsimp only
    · walk_at "o"
    · walk_at "o"
    · walk_at "o"
    · rw [hfit, e]; rfl
  | false =>
    rw [if_neg Bool.false_ne_true] at e ⊢
    exact ⟨by rw [hfit, e]; rfl, by walk_at "o"⟩
theorem FH.fin {fx : Int → Bool} {l l' : Ts} {ch : Ch} {j : Ch × Ts × Ts} (h : FH fx l l' ch l.dats.length j) (el : l.dats.length = l'.dats.length) : l.fit fx l' ch = some j.1 ∧ ChOk j.1 ∧ j.1.length ≤ ch.length + l.size := by
  obtain ⟨ch', r, r'⟩ := j
  obtain ⟨hr, hr', _, _, cok, hcl, hfit⟩ := h
  dsimp only at hr hr' cok hcl hfit ⊢
  rw [List.drop_length] at hr
  rw [el, List.drop_length] at hr'
  obtain rfl : r = .nil := by cases r with | nil => rfl | cons t r => simp [Ts.dats] at hr
  obtain rfl : r' = .nil := by cases r' with | nil => rfl | cons t r => simp [Ts.dats] at hr'
  simp only [Ts.fit] at hfit
  exact ⟨hfit, cok, Nat.le_of_add_right_le hcl⟩
set_option maxHeartbeats 3200000 in
theorem fits_fn {fx : Addr} {fl : List Int} (G : Gr (KK w.params) B) (n : Nat) : ∀ {co : Addr} {g t : T} {ch : Ch} (law : g.Law) (law' : t.Law) (dep : g.dep ≤ n) (d1' : g.dep ≤ 30) (d2' : t.dep ≤ 30) (co' : ChOk ch) (hs : ch.length + g.size ≤ 900),
    EFn prog w B (n + 1) [co] [(co, true, .ddat (tmDat ch)), (fx, false, .ldat (fl.map PyData.int))] 539 [.d g.dat, .d t.dat, .r fx, .r co] (ι := Bool × Ch) (fun i => ChOk i.2 ∧ i.2.length ≤ ch.length + g.size ∧ (if i.1 = true then g.fit (fun k => decide (k ∈ fl)) t ch = some i.2 else g.fit (fun k => decide (k ∈ fl)) t ch = none)) (fun i => .d (.bool i.1)) (fun i => [(co, .ddat (tmDat i.2))]) (fun _ => []) := by
  induction n using Nat.strongRecOn with
  | ind n ih =>
    intro co g t ch law law' dep d1' d2' co' hs
    refine' (EFn.of (n := [("chosen", .r co), ("fixed", .r fx), ("special", .d t.dat), ("general", .d g.dat)]) G is_539 (by rfl) (by rfl) fun C R X hX hR hE => ?_)
    replace hX : ∀ (b : Bool) ch' P', (co, true, Tr.ddat (tmDat ch')) ∈ P' → ChOk ch' → ch'.length ≤ ch.length + g.size → (if b = true then g.fit (fun k => decide (k ∈ fl)) t ch = some ch' else g.fit (fun k => decide (k ∈ fl)) t ch = none) → X (.d (.bool b)) P' := fun b ch' P' m h1 h2 h3 =>
      hX (b, ch') P' _ ⟨h1, h2, h3⟩ rfl (fun q hq => ⟨true, by rw [List.mem_singleton.mp hq]; exact m⟩) (List.nil_sublist _) (fun q hq => nomatch hq)
    have cl : (tmDat ch).length < 1000 := by unfold tmDat; rw [List.length_map]; walk_at "o"
    cases g with
    | v a =>
      simp only [T.dat]
      walk_at "nm"
      ((with_reducible refine' Wb.ite_t ?wcx297 ?wpx297 ?wtx297); (case wcx297 => walk_at "evp"); (case wpx297 => first | exact rfl | assumption | decide); (case' wtx297 => walk_at "nm"))
      by_cases hf : a ∈ fl
      · have hfx : decide (a ∈ fl) = true := decide_eq_true hf
        ((with_reducible refine' Wb.ite_t ?wcx298 ?wpx298 ?wtx298); (case wcx298 => walk_at "evp"); (case wpx298 => first | exact rfl | assumption | decide); (case' wtx298 => walk_at "nm"))
        (with_reducible refine' Wb.ret hR (Ev.cmp ?a1 ?a2 ?a3 ?a4 ?a5) ?a6)
        case a3 => exact Cm.eqT (t := t) (t' := .v a) law' law d2' d1'
        case a1 => walk_at "ev"
        case a2 => walk_at "ev"
        case a4 => rfl
        case a5 => exact Iff.rfl
        refine hX _ ch _ (by walk_at "mem") co' (Nat.le_add_right _ _) (fitIf ?_)
        rw [fit_fx (fx := fun k => decide (k ∈ fl)) hfx, T.eqv_symm]
      · have hfx : decide (a ∈ fl) = false := decide_eq_false hf
        cases hg : chget ch a with
        | none =>
          have hk : kget (tmDat ch) a = none := by rw [tmDat_get, hg]; rfl
          have hk3 : kget (kput (tmDat ch) a t.dat) a = some t.dat := by rw [tmDat_put hg, tmDat_get, chget_new hg]; rfl
          ((with_reducible refine' Wb.ite_f ?wcx299 ?wpx299 ?wfx299); (case wcx299 => walk_at "evp"); (case wpx299 => first | assumption | decide); (case' wfx299 => walk_at "nm"))
          ((with_reducible refine' Wb.ite_t ?wcx300 ?wpx300 ?wtx300); (case wcx300 => walk_at "evp"); (case wpx300 => first | exact rfl | assumption | decide); (case' wtx300 => walk_at "nm"))
          ((with_reducible refine' Wb.setD ?s1x301 ?s2x301 ?s3x301 ?s4x301 ?s5x301 ?wkx301 ?s6x301); (case s6x301 => k_dflt rfl); (case s1x301 => walk_at "ev"); (case s2x301 => walk_at "ev"); (case s3x301 => walk_at "ev"); (case s4x301 => k_dflt (walk_at "put")); (case s5x301 => assumption); (case' wkx301 => walk_at "nm"))
          (with_reducible refine' Wb.ret hR (Ev.cmp ?a1x11 ?a2x11 ?a3x11 ?a4x11 ?a5x11) ?a6x11)
          case a3x11 => exact Cm.eqT (t := t) (t' := t) law' law' d2' d2'
          case a1x11 => walk_at "ev"
          case a2x11 => walk_at "ev"
          case a4x11 => rfl
          case a5x11 => exact Iff.rfl
          refine hX _ (ch ++ [(a, t)]) _ (by rw [← tmDat_put hg]; walk_at "mem") (co'.add law' d2') (by rw [List.length_append]; simp [T.size]) ?_
          rw [T.eqv_refl, if_pos rfl, fit_new (fx := fun k => decide (k ∈ fl)) hfx hg]
        | some y =>
          obtain ⟨ly, dy⟩ := co' _ _ hg
          have hk : ¬ kget (tmDat ch) a = none := by rw [tmDat_get, hg]; exact fun q => nomatch q
          have hk2 : kget (tmDat ch) a = some y.dat := by rw [tmDat_get, hg]; rfl
          ((with_reducible refine' Wb.ite_f ?wcx302 ?wpx302 ?wfx302); (case wcx302 => walk_at "evp"); (case wpx302 => first | assumption | decide); (case' wfx302 => walk_at "nm"))
          ((with_reducible refine' Wb.ite_f ?wcx303 ?wpx303 ?wfx303); (case wcx303 => walk_at "evp"); (case wpx303 => first | assumption | decide); (case' wfx303 => walk_at "nm"))
          (with_reducible refine' Wb.ret hR (Ev.cmp ?a1x12 ?a2x12 ?a3x12 ?a4x12 ?a5x12) ?a6x12)
          case a3x12 => exact Cm.eqT (t := y) (t' := t) ly law' dy d2'
          case a1x12 => walk_at "ev"
          case a2x12 => walk_at "ev"
          case a4x12 => rfl
          case a5x12 => exact Iff.rfl
          refine hX _ ch _ (by walk_at "mem") co' (Nat.le_add_right _ _) (fitIf ?_)
          rw [fit_old (fx := fun k => decide (k ∈ fl)) hfx hg]
    | k b a =>
      have hb := law
      simp only [T.Law] at hb
      by_cases h4 : b = 4
      · subst h4
        simp only [T.dat, if_true]
        walk_at "nm"
        ((with_reducible refine' Wb.ite_f ?wcx304 ?wpx304 ?wfx304); (case wcx304 => walk_at "evp"); (case wpx304 => first | assumption | decide); (case' wfx304 => walk_at "nm"))
        (with_reducible refine' Wb.or_t ?b1x31 ?b2x31 ?b3x31)
        case b1x31 => walk_at "evp"
        case b2x31 => decide
        walk_at "nm"
        (with_reducible refine' Wb.ret hR (Ev.cmp ?a1x32 ?a2x32 ?a3x32 ?a4x32 ?a5x32) ?a6x32)
        case a3x32 => exact Cm.eqT (t := (.k 4 a)) (t' := t) law law' d1' d2'
        case a1x32 => walk_at "ev"
        case a2x32 => walk_at "ev"
        case a4x32 => rfl
        case a5x32 => exact Iff.rfl
        refine hX _ ch _ (by walk_at "mem") co' (Nat.le_add_right _ _) (fitIf ?_)
        rw [fit_k]
      · obtain rfl : b = 5 := by walk_at "o"
        simp only [T.dat, if_neg h4]
        walk_at "nm"
        ((with_reducible refine' Wb.ite_f ?wcx305 ?wpx305 ?wfx305); (case wcx305 => walk_at "evp"); (case wpx305 => first | assumption | decide); (case' wfx305 => walk_at "nm"))
        (with_reducible refine' Wb.or_t ?b1x33 ?b2x33 ?b3x33)
        case b1x33 => walk_at "evp"
        case b2x33 => decide
        walk_at "nm"
        (with_reducible refine' Wb.ret hR (Ev.cmp ?a1x34 ?a2x34 ?a3x34 ?a4x34 ?a5x34) ?a6x34)
        case a3x34 => exact Cm.eqT (t := (.k 5 a)) (t' := t) law law' d1' d2'
        case a1x34 => walk_at "ev"
        case a2x34 => walk_at "ev"
        case a4x34 => rfl
        case a5x34 => exact Iff.rfl
        refine hX _ ch _ (by walk_at "mem") co' (Nat.le_add_right _ _) (fitIf ?_)
        rw [fit_k]
    | s a f l =>
      cases t with
      | v b =>
        simp only [T.dat]
        walk_at "nm"
        ((with_reducible refine' Wb.ite_f ?wcx306 ?wpx306 ?wfx306); (case wcx306 => walk_at "evp"); (case wpx306 => first | assumption | decide); (case' wfx306 => walk_at "nm"))
        ((with_reducible refine' Wb.ite_t ?wcx307 ?wpx307 ?wtx307); (case wcx307 => walk_at "evp"); (case wpx307 => exact .inr (by decide)); (case' wtx307 => walk_at "nm"))
        (with_reducible refine' Wb.ret hR (Ev.cmp ?a1x51 ?a2x51 ?a3x51 ?a4x51 ?a5x51) ?a6x51)
        case a3x51 => exact Cm.eqT (t := (.s a f l)) (t' := (.v b)) law law' d1' d2'
        case a1x51 => walk_at "ev"
        case a2x51 => walk_at "ev"
        case a4x51 => rfl
        case a5x51 => exact Iff.rfl
        refine hX _ ch _ (by walk_at "mem") co' (Nat.le_add_right _ _) (fitIf ?_)
        simp only [T.fit, T.eqv]; rfl
      | k c b =>
        have hb := law'
        simp only [T.Law] at hb
        by_cases h4 : c = 4
        · subst h4
          simp only [T.dat, if_true]
          walk_at "nm"
          ((with_reducible refine' Wb.ite_f ?wcx308 ?wpx308 ?wfx308); (case wcx308 => walk_at "evp"); (case wpx308 => first | assumption | decide); (case' wfx308 => walk_at "nm"))
          ((with_reducible refine' Wb.ite_t ?wcx309 ?wpx309 ?wtx309); (case wcx309 => walk_at "evp"); (case wpx309 => exact .inr (by decide)); (case' wtx309 => walk_at "nm"))
          (with_reducible refine' Wb.ret hR (Ev.cmp ?a1x52 ?a2x52 ?a3x52 ?a4x52 ?a5x52) ?a6x52)
          case a3x52 => exact Cm.eqT (t := (.s a f l)) (t' := (.k 4 b)) law law' d1' d2'
          case a1x52 => walk_at "ev"
          case a2x52 => walk_at "ev"
          case a4x52 => rfl
          case a5x52 => exact Iff.rfl
          refine hX _ ch _ (by walk_at "mem") co' (Nat.le_add_right _ _) (fitIf ?_)
          simp only [T.fit, T.eqv]; rfl
        · obtain rfl : c = 5 := by walk_at "o"
          simp only [T.dat, if_neg h4]
          walk_at "nm"
          ((with_reducible refine' Wb.ite_f ?wcx310 ?wpx310 ?wfx310); (case wcx310 => walk_at "evp"); (case wpx310 => first | assumption | decide); (case' wfx310 => walk_at "nm"))
          ((with_reducible refine' Wb.ite_t ?wcx311 ?wpx311 ?wtx311); (case wcx311 => walk_at "evp"); (case wpx311 => exact .inr (by decide)); (case' wtx311 => walk_at "nm"))
          (with_reducible refine' Wb.ret hR (Ev.cmp ?a1x53 ?a2x53 ?a3x53 ?a4x53 ?a5x53) ?a6x53)
          case a3x53 => exact Cm.eqT (t := (.s a f l)) (t' := (.k 5 b)) law law' d1' d2'
          case a1x53 => walk_at "ev"
          case a2x53 => walk_at "ev"
          case a4x53 => rfl
          case a5x53 => exact Iff.rfl
          refine hX _ ch _ (by walk_at "mem") co' (Nat.le_add_right _ _) (fitIf ?_)
          simp only [T.fit, T.eqv]; rfl
      | s b g l' =>
        simp only [T.Law] at law law'
        simp only [T.dep] at dep d1' d2'
        simp only [T.size] at hs hX
        have fp := law.1.pos
        have e1 := Ts.dats_length l
        have hlz : l.dats.length < 1000 := by walk_at "o"
        simp only [T.dat]
        walk_at "nm"
        ((with_reducible refine' Wb.ite_f ?wcx312 ?wpx312 ?wfx312); (case wcx312 => walk_at "evp"); (case wpx312 => first | assumption | decide); (case' wfx312 => walk_at "nm"))
        (with_reducible refine' Wb.ite_f ?y1 ?y2 ?y3)
        case y1 => walk_at "evp"
        case y2 => decide
        walk_at "nm"
        by_cases fg : f = g
        · have ef : (T.s a f l).fit (fun k => decide (k ∈ fl)) (.s b g l') ch = l.fit (fun k => decide (k ∈ fl)) l' ch := by rw [fit_s, if_pos fg]
          have el : l.dats.length = l'.dats.length := by rw [e1, Ts.dats_length]; exact (law.1.uniq law'.1).mp fg
          have rg := rg_up l.dats.length (by walk_at "o")
          have h0 : FH (fun k => decide (k ∈ fl)) l l' ch 0 (ch, l, l') := ⟨rfl, rfl, ⟨law.2, law'.2⟩, ⟨Nat.le_refl _, Nat.le_refl _⟩, co', Nat.le_refl _, rfl⟩
          clear law law' co'
          rw [ef] at hX
          clear ef
          (with_reducible refine' Wb.ite_f ?x1 ?x2 ?x3)
          case x1 => walk_at "evp"
          case x2 => exact fun h => h fg
          walk_at "nm"
          refine' Wb.forR (ι := Ch × Ts × Ts) (N := fun _ _ => [("chosen", .r co), ("fixed", .r fx), ("special", .d (.tuple [.str "s", .int g, .tuple l'.dats])), ("general", .d (.tuple [.str "s", .int f, .tuple l.dats]))]) (PP := fun _ j => [(co, true, .ddat (tmDat j.1)), (fx, false, .ldat (fl.map PyData.int))])
            (H := FH (fun k => decide (k ∈ fl)) l l' ch) (p0 := 0) (q0 := l.dats.length) (c0 := 1) (nn := l.dats.length) hR (ch, l, l') h0 ?qe rg.1 rg.2 ⟨rfl, rfl, rfl, rfl, trivial⟩ (List.Sublist.refl _) (fun R' I i j T2 hR' hT hi hj => ?qb) (fun j hj => ?qd) rfl (fun _ => rfl)
          case qe => walk_at "ef"
          case qd =>
            have q := hj.fin el
            walk_at "nm"
            ((with_reducible refine' Wb.ret (by assumption) ?wcx313 ?wxx313); (case wcx313 => walk_at "ev"))
            exact hX true j.1 _ (by walk_at "mem") q.2.1 (Nat.le_trans q.2.2 (Nat.add_le_add_left (Nat.le_succ _) _)) (by rw [if_pos rfl]; exact q.1)
          case qb =>
            clear hR h0 rg hlz
            have ei : (0 : Int) + (i : Nat) * 1 = ((i : Nat) : Int) := by walk_at "o"
            rw [ei]
            have hi100 : 0 ≤ ((i : Nat) : Int) ∧ (i : Int) < 100 := by walk_at "o"
            refine hj.item hi el fun t0 t0' g1 g2 l1 l2 dp1 dp2 hs2 nx => ?_
            walk_at "nm"
            (with_reducible refine' Wb.iteN (ι := Bool × Ch) (bv := fun i => i.1) ?n1 ?n2 ?n3 ?n4)
            case n2 => rfl
            case n1 =>
              (with_reducible refine' Ef.call ?l (ih (n - 1) (by walk_at "o") (g := t0) (t := t0') l1 l2 (by walk_at "o") (by walk_at "o") (by walk_at "o") hj.co (by walk_at "o")) ?sel ?kk ?hl ?V ?f ?kp ?r1 ?r2)
              case l => walk_at "evl"
              case sel => walk_at "sel"
              case kk => omega
              case hl => intro _; rfl
              case V => intro _; walk_at "puts"
              case f => k_is
              case kp => k_is
              case r1 => rfl
              case r2 => rfl
            case n3 =>
              intro q hq hb
              have y := nx q.1 q.2 hq.1 hq.2.1 hq.2.2
              rw [hb, if_neg Bool.false_ne_true] at y
              walk_at "nm"
              ((with_reducible refine' Wb.ret (by assumption) ?wcx314 ?wxx314); (case wcx314 => walk_at "ev"))
              exact hX false q.2 _ (by walk_at "mem") hq.1 (Nat.le_trans y.2 (Nat.add_le_add_left (Nat.le_succ _) _)) (by rw [if_neg Bool.false_ne_true]; exact y.1)
            intro q hq hb
            have y := nx q.1 q.2 hq.1 hq.2.1 hq.2.2
            rw [hb, if_pos rfl] at y
            obtain ⟨r, r', y⟩ := y
            walk_at "nm"
            exact Wb.turn hT (q.2, r, r') y ⟨rfl, rfl, rfl, rfl, trivial⟩ (List.Sublist.refl _)
        · (with_reducible refine' Wb.ite_t ?z1 ?z2 ?z3)
          case z1 => walk_at "evp"
          case z2 => exact fg
          walk_at "nm"
          ((with_reducible refine' Wb.ret (by assumption) ?wcx315 ?wxx315); (case wcx315 => walk_at "ev"))
          refine hX false ch _ (by walk_at "mem") co' (Nat.le_add_right _ _) ?_
          rw [if_neg (by decide), fit_s, if_neg fg]
end
end
section
noncomputable def relabS (scope sc : Scope) : Scope :=
  { scope with names := scope.names.map fun (n, k) => if (k == .free && sc.kind == .function && sc.names.lookup n == some .cell) then (n, .cell) else (n, k) }
section
variable {prog : Program} {w : World} {B : Heap} {mu : List Addr} {sc : Scope} {k : Nat} {C : Cx prog w B mu sc k}
variable {n : NL} {P P' : PL} {D D' : DL} {s s' : Shared} {x name : Str} {p q pos px : Pos} {a b : AV} {e e1 e2 e3 : Expr} {i j : Int} {ad dx c : Addr} {bo : Bool} {ss : List Stmt} {R : Flow → Shared → Prop}
  {ι : Type} {H : ι → Prop} {va : ι → AV} {vP : ι → PL} {ds : List PyData} {cl : List (Str × Addr)}
theorem Ev.cellR (hc : C.env.cells = cl) (h1 : cl.lookup x = some c) (hm : (c, bo, .is (IsCellV (.ref ad))) ∈ P) (hl : sc.names.lookup x = some .cell) (hd : (x == ("__debug__" : Str)) = false) : Ev C n P (.Name x p) (.r ad) := fun _ _ _ _ S k => by
  obtain ⟨m, S', N⟩ := S
  obtain ⟨o, e, _, hv⟩ := S'.get hm
  exact wpAny_Name (wpAny_loadName_cell C.hE.kind (C.kl hl) (by rw [hc]; exact h1) ⟨o, e, hv⟩ (k _ _ _ ⟨m, S', N⟩ (.refl _) rfl)) hd
theorem Ev.cellI {t : Tok} (hc : C.env.cells = cl) (h1 : cl.lookup x = some c) (hm : (c, bo, .is (IsCellV (.int i t))) ∈ P) (hl : sc.names.lookup x = some .cell) (hd : (x == ("__debug__" : Str)) = false) : Ev C n P (.Name x p) (.d (.int i)) := fun _ _ _ _ S k => by
  obtain ⟨m, S', N⟩ := S
  obtain ⟨o, e, _, hv⟩ := S'.get hm
  exact wpAny_Name (wpAny_loadName_cell C.hE.kind (C.kl hl) (by rw [hc]; exact h1) ⟨o, e, hv⟩ (k _ _ _ (Cx.S.kint ⟨m, S', N⟩ i t) .cons (.head _))) hd
theorem Ef.to {κ : Type} {H' : κ → Prop} {va' : κ → AV} {vP' : κ → PL} (h : Ef C n P e H va vP) (f : ∀ i, H i → ∃ j, H' j ∧ va i = va' j ∧ vP i = vP' j) : Ef C n P e H' va' vP' := fun _ _ _ _ S k =>
  h _ S fun i v D1 s1 hi S1 b1 i1 => by
    obtain ⟨j, h1, h2, h3⟩ := f i hi
    exact k j v D1 s1 h1 (h3 ▸ S1) b1 (h2 ▸ i1)
noncomputable def Cx.comp (C : Cx prog w B mu sc k) (scope : Scope) (cl : List (Str × Addr)) (L : Addr) (s₀ : Shared) (mu' : List Addr) (D : DL) (hk : scope.kind = .function) : Cx prog w B mu' (relabS scope sc) k :=
  ⟨s₀, compEnvC scope cl L C.env, C.A, D, C.G, C.r, ⟨rfl, C.hE.glob, C.hE.blt, hk⟩, congrArg (relabS scope) C.hs⟩
variable {elt iter : Expr} {scope : Scope} {κ : Type} {dsf : κ → List PyData} {PP : Nat → κ → PL} {HH : Nat → κ → Prop} {dl : κ → PyData} {nn : Nat} {mu' : List Addr} {l : κ → List (Addr × Tr)} {Pf : κ → PL}
theorem Ef.compR {p0 q0 : Int} (j0 : κ) (hclos : closureFor scope C.env = pure cl) (hkind : scope.kind = .function) (hnames : ∀ x ∈ scope.names, x.2 = .local → scope.names.lookup x.1 = some .local) (hcell : ∀ y ∈ scope.names, y.2 ≠ .cell) (hx : scope.names.lookup x = some .local)
    (hi : Ef C n P iter (ι := Addr) (fun _ => True) .r (fun a => (a, true, .is (IsRg p0 q0 1)) :: P)) (hs : Builtin.Range.small p0 q0 1 = true) (hz : Builtin.Range.rangeSize p0 q0 1 = (nn : Int)) (hn : nn < 1000)
    (h0 : HH 0 j0) (hds : dsf j0 = []) (hlen : ∀ i j, HH i j → (dsf j).length ≤ i) (sel : Sel mu' (PP 0 j0) P)
    (turn : ∀ acc It (C' : Cx prog w B (acc :: It :: mu') (relabS scope sc) k) i j t, C'.env.cells = cl → i < nn → HH i j → Ef C' [] ((acc, true, .ldat (dsf j)) :: (It, true, t) :: PP i j) elt (fun j' => HH (i + 1) j' ∧ dsf j' = dsf j ++ [dl j']) (fun j' => .d (dl j')) (fun j' => (acc, true, .ldat (dsf j)) :: (It, true, t) :: PP (i + 1) j'))
    (V : ∀ j, Puts (l j) P (Pf j)) (hl : ∀ j, (l j).map (·.1) = mu') (hm : ∀ j, ∀ q ∈ l j, ∃ b, (q.1, b, q.2) ∈ PP nn j) (hf : ∀ x, foldedSetIterable iter C.env x = pure x) :
    Ef C n P (.ListComp elt [⟨.Name x px, iter, [], 0⟩] scope pos) (ι := κ × Addr) (fun i => HH nn i.1) (fun i => .r i.2) (fun i => (i.2, true, .ldat (dsf i.1)) :: Pf i.1) := fun _ _ _ _ S kk => by
  refine ListComp_ hclos hkind hnames (hi _ S fun r v D1 s1 _ S1 b1 i1 => ?_) hf
  obtain rfl : v = .ref r := i1
  obtain ⟨m, S1, N1⟩ := S1
  refine comp_range (nn := nn) C.r.handled S1 (.head _) S1.behead hs hz hn mu' sel (Di := []) (fun p hp => nomatch hp) hcell hkind hx (fun i ds P D => ∃ j, ds = dsf j ∧ HH i j ∧ P = PP i j) ⟨j0, hds.symm, h0, rfl⟩ (fun i ds P D ⟨j, e, h, _⟩ => e ▸ hlen i j h) ?_ ?_
  · rintro It i ds P D v L acc s₀ m s' hi ⟨j, rfl, hj, rfl⟩ hm S
    exact turn acc It (C.comp scope cl L s₀ (acc :: It :: mu') [] hkind) i j _ rfl hi hj D ⟨m, S, ⟨fun _ h => (nomatch h), fun x a e => by cases e⟩⟩ fun j' v' D' s'' ⟨h1, h2⟩ S' _ i' => by
      obtain ⟨m', S', N'⟩ := S'
      exact ⟨dl j', m', PP (i + 1) j', D', S'.datum i', ⟨j', h2.symm, h1, rfl⟩, S'⟩
  · rintro It acc ds P' D' s₂ s'' ⟨j, rfl, hj, rfl⟩ S2 hn' g e hat
    obtain rfl := hl j
    have S3 := comp_out S2 (V j) hn' g e (hat _ (.head _)) (fun q hq => let ⟨b, h⟩ := hm j q hq; hat (q.1, b, q.2) (.tail _ h))
    exact kk (j, acc) _ _ _ hj ⟨m, S3, N1⟩ b1 rfl
theorem Ef.compT {es : List PyData} (j0 : κ) (hclos : closureFor scope C.env = pure cl) (hkind : scope.kind = .function) (hnames : ∀ x ∈ scope.names, x.2 = .local → scope.names.lookup x.1 = some .local) (hcell : ∀ y ∈ scope.names, y.2 ≠ .cell) (hx : scope.names.lookup x = some .local)
    (hi : Ev C n P iter (.d (.tuple es))) (hn : es.length < 1000)
    (h0 : HH 0 j0) (hds : dsf j0 = []) (hlen : ∀ i j, HH i j → (dsf j).length ≤ i) (sel : Sel mu' (PP 0 j0) P)
    (turn : ∀ acc It (C' : Cx prog w B (acc :: It :: mu') (relabS scope sc) k) i j d t, C'.env.cells = cl → es[i]? = some d → HH i j → Ef C' [(x, .d d)] ((acc, true, .ldat (dsf j)) :: (It, true, t) :: PP i j) elt (fun j' => HH (i + 1) j' ∧ dsf j' = dsf j ++ [dl j']) (fun j' => .d (dl j')) (fun j' => (acc, true, .ldat (dsf j)) :: (It, true, t) :: PP (i + 1) j'))
    (V : ∀ j, Puts (l j) P (Pf j)) (hl : ∀ j, (l j).map (·.1) = mu') (hm : ∀ j, ∀ q ∈ l j, ∃ b, (q.1, b, q.2) ∈ PP es.length j) (hf : ∀ x, foldedSetIterable iter C.env x = pure x) :
    Ef C n P (.ListComp elt [⟨.Name x px, iter, [], 0⟩] scope pos) (ι := κ × Addr) (fun i => HH es.length i.1) (fun i => .r i.2) (fun i => (i.2, true, .ldat (dsf i.1)) :: Pf i.1) := fun _ _ _ _ S kk => by
  refine ListComp_ hclos hkind hnames (hi _ S fun v D1 s1 S1 b1 i1 => ?_) hf
  obtain ⟨m, S1, N1⟩ := S1
  refine comp_tuple C.r.handled S1 i1 hn mu' sel (Di := [(v, .tuple es)]) (fun p hp => by rw [List.mem_singleton.mp hp]; exact S1.datum i1) (.head _) hcell hkind hx (fun i ds P D => ∃ j, ds = dsf j ∧ HH i j ∧ P = PP i j ∧ Sb [(v, .tuple es)] D) ⟨j0, hds.symm, h0, rfl, .refl _⟩ (fun i ds P D ⟨j, e, h, _⟩ => e ▸ hlen i j h) (fun i ds P D ⟨j, _, _, _, h⟩ => h _ (.head _)) ?_ ?_
  · rintro It i ds P D u d L acc s₀ m s' hd ⟨j, rfl, hj, rfl, hb⟩ hm S
    exact turn acc It (C.comp scope cl L s₀ (acc :: It :: mu') [(v, .tuple es)] hkind) i j d _ rfl hd hj ((u, d) :: D) ⟨m, S, ⟨fun p h => .tail _ (hb p h), fun z a e => by
      rw [List.lookup_cons] at e
      by_cases q : z = x
      · subst q; rw [beq_self_eq_true] at e; cases e; exact ⟨u, hm, .head _⟩
      · rw [beq_eq_false_iff_ne.mpr q] at e; cases e⟩⟩ fun j' v' D' s'' ⟨h1, h2⟩ S' b' i' => by
      obtain ⟨m', S', N'⟩ := S'
      exact ⟨dl j', m', PP (i + 1) j', D', S'.datum i', ⟨j', h2.symm, h1, rfl, N'.base⟩, S'⟩
  · rintro It acc ds P' D' s₂ s'' ⟨j, rfl, hj, rfl, _⟩ S2 hn' g e hat
    obtain rfl := hl j
    have S3 := comp_out S2 (V j) hn' g e (hat _ (.head _)) (fun q hq => let ⟨b, h⟩ := hm j q hq; hat (q.1, b, q.2) (.tail _ h))
    exact kk (j, acc) _ _ _ hj ⟨m, S3, N1⟩ b1 rfl
theorem clos_of {env : Env} {cs : List (Str × Addr)} {scope : Scope} {l : List (Str × Addr)} (hc : env.cells = cs) (h : closureFor scope { envOf "" scope 0 0 .none with cells := cs } = pure l) : closureFor scope env = pure l := by
  rw [← h]
  unfold closureFor cellOf
  rw [hc]
theorem Ef.tup2 {kk : Nat} {d1 : PyData} {df : ι → PyData} (h1 : Ev C n P e1 (.d d1)) (h3 : Ef C n P e3 H (fun i => .d (df i)) vP) (he : [e1, e3].all plainE = true) : Ef C n P (.Tuple [e1, e3] kk p) H (fun i => .d (.tuple [d1, df i])) vP := fun _ _ _ _ S k =>
  have hs : plainE e1 = true ∧ plainE e3 = true := by simpa using he
  Tuple_ (spliced_more (h1 _ S fun v1 D1 s1 S1 b1 i1 => spliced_more (h3 _ S1 fun i v3 D3 s3 hi S3 b3 i3 => spliced_none (by
    have r : RdAll s3.heap [v1, v3] [d1, df i] := .cons (S3.rd (i1.sb b3)) (.cons (S3.rd i3) .nil)
    obtain ⟨m, S3, N3⟩ := S3
    exact newTuple_rd S3 r (show (2 : Nat) < 1000 by decide) fun v s4 S4 => k i v _ _ hi ⟨m, S4, N3.sb .cons⟩ ((b1.trans b3).trans .cons) (.head _))) (star_cons hs.2)) (star_cons hs.1))
theorem Ef.tupF {af : ι → Addr} {df : ι → List PyData} (hb : Blt w sc x (.type "tuple")) (h : Ef C n P e H (fun i => .r (af i)) vP) (he : plainE e = true) (hp : ∀ i, (af i, true, .ldat (df i)) ∈ vP i) (hz : ∀ i, H i → (df i).length < 1000) : Ef C n P (.Call (.Name x q) [e] [] p) H (fun i => .d (.tuple (df i))) vP := fun _ _ _ _ S k =>
  Call_ (wp_blt S hb (PyProof.Rows.callWith_type1 (spliced_more (h _ S fun i v D1 s1 hi S1 b1 i1 => spliced_none (by
    obtain rfl := i1
    obtain ⟨m, S1, N1⟩ := S1
    exact tuple_ld S1 (hp i) (hz i hi) fun v s2 S2 => k i v _ _ hi ⟨m, S2, N1.sb .cons⟩ (b1.trans .cons) (.head _))) (star_cons he)) (star_cons he) (star_plain rfl))) (call_eq rfl)
theorem Ef.tup3 {kk : Nat} {d1 d2 : PyData} {df : ι → PyData} (h1 : Ev C n P e1 (.d d1)) (h2 : Ev C n P e2 (.d d2)) (h3 : Ef C n P e3 H (fun i => .d (df i)) vP) (he : [e1, e2, e3].all plainE = true) : Ef C n P (.Tuple [e1, e2, e3] kk p) H (fun i => .d (.tuple [d1, d2, df i])) vP := fun _ _ _ _ S k =>
  have hs : plainE e1 = true ∧ plainE e2 = true ∧ plainE e3 = true := by simpa using he
  Tuple_ (spliced_more (h1 _ S fun v1 D1 s1 S1 b1 i1 => spliced_more (h2 _ S1 fun v2 D2 s2 S2 b2 i2 => spliced_more (h3 _ S2 fun i v3 D3 s3 hi S3 b3 i3 => spliced_none (by
    have r : RdAll s3.heap [v1, v2, v3] [d1, d2, df i] := .cons (S3.rd ((i1.sb b2).sb b3)) (.cons (S3.rd (i2.sb b3)) (.cons (S3.rd i3) .nil))
    obtain ⟨m, S3, N3⟩ := S3
    exact newTuple_rd S3 r (show (3 : Nat) < 1000 by decide) fun v s4 S4 => k i v _ _ hi ⟨m, S4, N3.sb .cons⟩ (((b1.trans b2).trans b3).trans .cons) (.head _))) (star_cons hs.2.2)) (star_cons hs.2.1)) (star_cons hs.1))
end
section
variable {prog : Program} {w : World} {B : Heap} {mu : List Addr} {k : Nat} {P : PL} {ι : Type} {H : ι → Prop} {va : ι → AV} {l : ι → List (Addr × Tr)} {N : ι → PL}
theorem Wb.efn {sc : Scope} {C : Cx prog w B mu sc k} {s : Shared} {n : NL} {body : List Stmt} {Q : Value → Shared → Prop} (hC : C.s₀ = s)
    (hQ : ∀ i v s', H i → Go mu s.heap s'.heap → Eqv s s' → (∀ q ∈ l i, q.2.At prog w s'.heap q.1) → New prog w s s' (N i) → (va i).At s'.heap v → Q v s')
    (h : ∀ (R : Flow → Shared → Prop) (X : AV → PL → Prop), (∀ i P' a, H i → a = va i → (∀ q ∈ l i, ∃ b, (q.1, b, q.2) ∈ P') → (N i).Sublist P' → (∀ q ∈ N i, q.2.1 = true ∧ q.1 ∉ mu) → X a P') → Rets C X R → Endz C X R → Wb C n P body R) :
    Wb C n P body (fun fl s' => Q (match fl with | .ret v => v | _ => .none) s') := by
  refine h _ (fun a P' => ∃ i, H i ∧ a = va i ∧ (∀ q ∈ l i, ∃ b, (q.1, b, q.2) ∈ P') ∧ (N i).Sublist P' ∧ ∀ q ∈ N i, q.2.1 = true ∧ q.1 ∉ mu) (fun i P' a h1 h2 h3 h4 h5 => ⟨i, h1, h2, h3, h4, h5⟩) (fun n P a' v D s' e S hv => ?_) (fun n P D s' e S => ?_)
  all_goals
    obtain ⟨i, h1, h2, h3, h4, h5⟩ := e
    obtain ⟨m, S', N'⟩ := S
    have nw : New prog w s s' (N i) := ⟨fun q hq => ⟨S'.st.at_ q (h4.subset hq), hC ▸ ((S'.st.own q (h4.subset hq) (h5 q hq).1).2).resolve_left (h5 q hq).2⟩, (List.nodup_cons.mp S'.st.nd).2.sublist (h4.map _)⟩
    have tn : ∀ q ∈ l i, q.2.At prog w s'.heap q.1 := fun q hq => let ⟨b, hb⟩ := h3 q hq; S'.st.at_ _ hb
  · subst h2
    exact hQ i v s' h1 (hC ▸ S'.st.go) (hC ▸ S'.same) tn nw (hv.at S'.st.rd)
  · refine hQ i _ s' h1 (hC ▸ S'.st.go) (hC ▸ S'.same) tn nw ?_
    rw [← h2]; exact Reads.none
theorem tree_in {ha fo : Addr} {dp : Int} (G : Gr (KK w.params) B)
    (h : ∀ (C : Cx prog w B mu (scopeS (stm 43)) k) (R : Flow → Shared → Prop) (X : AV → PL → Prop) (c1 c2 c3 : Addr) (t : Tok), C.env.cells = [(("forms" : Str), c3), (("depth" : Str), c2), (("hand" : Str), c1)] →
      (∀ i P' a, H i → a = va i → (∀ q ∈ l i, ∃ b, (q.1, b, q.2) ∈ P') → (N i).Sublist P' → (∀ q ∈ N i, q.2.1 = true ∧ q.1 ∉ mu) → X a P') → Rets C X R → Endz C X R →
      Wb C [] ((c3, false, .is (IsCellV (.ref fo))) :: (c2, false, .is (IsCellV (.int dp t))) :: (c1, false, .is (IsCellV (.ref ha))) :: P) (bodyS (stm 43)) R) :
    EFn prog w B (k + 1) mu P 513 [.r ha, .d (.int dp), .r fo] H va l N := fun A s vs D E Q r kn hD hv hQ => by
  cases hv with | cons a1 hv => cases hv with | cons a2 hv => cases hv with | cons a3 hv =>
  cases hv
  obtain rfl := a1
  obtain rfl := a3
  obtain ⟨t, rfl⟩ := (show Rd s.heap _ (.int dp) from hD _ a2).int
  refine enterC (C := [("forms", s.heap.objs.size + 1 + 1 + 1, .ref fo), ("depth", s.heap.objs.size + 1 + 1, .int dp t), ("hand", s.heap.objs.size + 1, .ref ha)]) (m := fun _ => none) (binds := [("hand", .ref ha), ("depth", .int dp t), ("forms", .ref fo)])
    G r kn D hD (by k_is) (by k_is) (BindsTo.of_eq rfl) ?_ rfl ?_ rfl (fun s₁ S r' => ?_) rfl rfl rfl
  · intro n; exact ⟨.inr ⟨rfl, rfl⟩, .inr ⟨rfl, rfl⟩, .inr ⟨rfl, rfl⟩, trivial⟩
  · intro x hx
    simp only [List.mem_cons, List.not_mem_nil, or_false] at hx
    rcases hx with rfl | rfl | rfl <;> exact ⟨rfl, rfl⟩
  · exact Wb.efn (C := ⟨s, _, _, [], G, r', ⟨rfl, rfl, rfl, rfl⟩, rfl⟩) (sc := scopeS (stm 43)) rfl hQ (fun R X hX hR hE => h _ R X _ _ _ t rfl hX hR hE) D ⟨_, S, ⟨fun _ h => (nomatch h), fun x a e => by cases e⟩⟩
theorem put_in {vd : Addr} {d : PyData} (G : Gr (KK w.params) B)
    (h : ∀ (C : Cx prog w B mu (scopeS (stm 44)) k) (R : Flow → Shared → Prop) (X : AV → PL → Prop) (c1 : Addr), C.env.cells = [(("values" : Str), c1)] →
      (∀ i P' a, H i → a = va i → (∀ q ∈ l i, ∃ b, (q.1, b, q.2) ∈ P') → (N i).Sublist P' → (∀ q ∈ N i, q.2.1 = true ∧ q.1 ∉ mu) → X a P') → Rets C X R → Endz C X R →
      Wb C [("tree", .d d)] ((c1, false, .is (IsCellV (.ref vd))) :: P) (bodyS (stm 44)) R) :
    EFn prog w B (k + 1) mu P 518 [.d d, .r vd] H va l N := fun A s vs D E Q r kn hD hv hQ => by
  cases hv with | cons a1 hv => cases hv with | @cons v2 _ _ _ a2 hv =>
  cases hv
  obtain rfl := a2
  rename Value => v
  refine enterC (C := [("values", s.heap.objs.size + 1, .ref vd)]) (m := fun y => if y = "tree" then some v else none) (binds := [("tree", v), ("values", .ref vd)])
    G r kn D hD (by k_is) (by k_is) (BindsTo.of_eq rfl) ?_ rfl ?_ rfl (fun s₁ S r' => ?_) rfl rfl rfl
  · intro n; exact ⟨.inl rfl, .inr ⟨rfl, rfl⟩, trivial⟩
  · intro x hx
    rw [List.mem_singleton.mp hx]
    exact ⟨rfl, rfl⟩
  · refine Wb.efn (C := ⟨s, _, _, [], G, r', ⟨rfl, rfl, rfl, rfl⟩, rfl⟩) (sc := scopeS (stm 44)) rfl hQ (fun R X hX hR hE => h _ R X _ rfl hX hR hE) D ⟨_, S, ⟨fun _ h => (nomatch h), fun x a e => ?_⟩⟩
    rw [List.lookup_cons] at e
    by_cases q : x = "tree"
    · subst q; rw [beq_self_eq_true] at e; cases e; exact ⟨v, if_pos rfl, a1⟩
    · rw [beq_eq_false_iff_ne.mpr q] at e; cases e
end
end
section
local macro_rules | `(tactic| walk_at "evc") => `(tactic| first
  | (refine' Ev.itVi ?e1 ?e2 ?e0 ?e3 ?e4 ?e5 ?e6; (case e0 => k_dflt (intro _ _ _; rfl)); (case e1 => walk_at "ev"); (case e2 => walk_at "ev"); (case e3 => k_dflt (walk_at "mem")); (case e4 => k_dflt (exact rfl)); (case e5 => k_dflt decide); (case e6 => k_dflt decide))
  | fail "evc")
local macro_rules | `(tactic| walk_at "a1") => `(tactic| first | exact At1.head | (refine' At1.tail ?at1; (case at1 => walk_at "a1")))
local macro_rules | `(tactic| walk_at "evc") => `(tactic| first
  | (refine' Ev.cellR ?e0 ?e1 ?e2 ?e3 ?e4; (case e3 => k_dflt (exact rfl)); (case e0 => assumption); (case e1 => k_dflt (exact rfl)); (case e2 => k_dflt (walk_at "mem")); (case e4 => k_dflt (exact rfl)))
  | (refine' Ev.cellI ?e0 ?e1 ?e2 ?e3 ?e4; (case e3 => k_dflt (exact rfl)); (case e0 => assumption); (case e1 => k_dflt (exact rfl)); (case e2 => k_dflt (walk_at "mem")); (case e4 => k_dflt (exact rfl))))
local macro_rules | `(tactic| walk_at "evp") => `(tactic| (refine' EvP.or3 ?c1 ?c2 ?c3; (case c1 => walk_at "evp"); (case c2 => intro _; walk_at "evp"); (case c3 => intro _ _; walk_at "evp")))
section
variable {prog : Program} {w : World} {B : Heap}
noncomputable def forms : List Int := [0, 32, 0, 33]
theorem formOf {d : Int} (h1 : d < 4) (h0 : 0 ≤ d) (hn : ¬ d = 0) : ∃ f n, (forms.map PyData.int)[d.toNat]? = some (.int f) ∧ Form f n ∧ d = ((n : Nat) : Int) := by
  have : d = 1 ∨ d = 2 ∨ d = 3 := by walk_at "o"
  rcases this with rfl | rfl | rfl
  · exact ⟨32, 1, rfl, .inl ⟨rfl, rfl⟩, rfl⟩
  · exact ⟨0, 2, rfl, .inr (.inl ⟨rfl, rfl⟩), rfl⟩
  · exact ⟨33, 3, rfl, .inr (.inr ⟨rfl, rfl⟩), rfl⟩
noncomputable abbrev foP (fo : Addr) : PL := [(fo, false, .ldat (forms.map PyData.int))]
local macro_rules | `(tactic| walk_at "spe") => `(tactic| with_reducible first | (refine' pick_fn (by assumption) ?_ ?_ ?_) | fail "spe")
set_option maxHeartbeats 1600000 in
theorem tree_fn {ha c fo : Addr} {ns : List Int} (G : Gr (KK w.params) B) (hn : ns.length < 1000) (n : Nat) : ∀ {vs : List Value} (hh : Hand c ns vs),
    EFn prog w B (n + 2) [ha] (handP ha c true vs ns (foP fo)) 513 [.r ha, .d (.int n), .r fo] (ι := T × List Value) (fun i => Hand c ns i.2 ∧ i.1.Law ∧ i.1.dep ≤ n) (fun i => .d i.1.dat) (fun i => [(ha, .lst i.2)]) (fun _ => []) := by
  induction n using Nat.strongRecOn with
  | ind n ih =>
    intro vs hh
    refine' (tree_in G fun C R X c1 c2 c3 t hc hX hR hE => ?_)
    replace hX : ∀ (t' : T) vs' P', (ha, true, Tr.lst vs') ∈ P' → Hand c ns vs' → t'.Law → t'.dep ≤ n → X (.d t'.dat) P' := fun t' vs' P' m h1 h2 h3 =>
      hX (t', vs') P' _ ⟨h1, h2, h3⟩ rfl (fun q hq => ⟨true, by rw [List.mem_singleton.mp hq]; exact m⟩) (List.nil_sublist _) (fun q hq => nomatch hq)
    have l4 : (0 : Int) < 4 ∧ (4 : Int) < 100 := by decide
    have l6 : (0 : Int) < 6 ∧ (6 : Int) < 100 := by decide
    have l3 : (0 : Int) < 3 ∧ (3 : Int) < 100 := by decide
    walk_at "nm"
    ((with_reducible refine' Wb.asgF ?wcx316 ?wkx316 ?wlx316 ?wex316); (case wlx316 => k_dflt rfl); (case wex316 => k_dflt rfl); (case wcx316 => walk_at "ef"); (case' wkx316 => intro aZ _; walk_at "nm"))
    rename Int × List Value => j
    rename Hand c ns j.2 ∧ _ => hj
    obtain ⟨d, vs2⟩ := j
    obtain ⟨hH2, d0, dl⟩ := hj
    dsimp only at hH2 d0 dl ⊢
    cases hH2 with
    | mk i1 i2 i3 i4 t1 t2 t3 t4 h1 h2 h3 h4 h5 =>
    have hH2 : Hand c ns [.ref c, .int i1 t1, .int i2 t2, .int i3 t3, .int i4 t4] := .mk _ _ _ _ _ _ _ _ h1 h2 h3 h4 h5
    ((with_reducible refine' Wb.ite ?wcx317 ?wtx317 ?wfx317); (case wcx317 => walk_at "evp"); (case' wfx317 => intro hbZ; walk_at "nm"); (case' wtx317 => intro hbZ; walk_at "nm"))
    · clear ih
      ((with_reducible refine' Wb.asgF ?wcx318 ?wkx318 ?wlx318 ?wex318); (case wlx318 => k_dflt rfl); (case wex318 => k_dflt rfl); (case wcx318 => walk_at "ef"); (case' wkx318 => intro aZ _; walk_at "nm"))
      rename Int × List Value => j
      rename Hand c ns j.2 ∧ _ => hj
      obtain ⟨kd, vs3⟩ := j
      obtain ⟨hH3, k0, kl⟩ := hj
      dsimp only at hH3 k0 kl ⊢
      clear hH2
      ((with_reducible refine' Wb.ite ?wcx319 ?wtx319 ?wfx319); (case wcx319 => walk_at "evp"); (case' wfx319 => intro hbZ; walk_at "nm"); (case' wtx319 => intro hbZ; walk_at "nm"))
      · ((with_reducible refine' Wb.ret (by assumption) ?wcx320 ?wxx320); (case wcx320 => walk_at "ev"))
        exact hX (.k 4 0) vs3 _ (by walk_at "mem") hH3 (by simp [T.Law]) (Nat.zero_le _)
      · ((with_reducible refine' Wb.ite ?wcx321 ?wtx321 ?wfx321); (case wcx321 => walk_at "evp"); (case' wfx321 => intro hbZ; walk_at "nm"); (case' wtx321 => intro hbZ; walk_at "nm"))
        · refine' Wb.retF hR (Ef.tup2 Ev.str ?r0 ?r1) (fun i hi => ?rx)
          case r1 => rfl
          case r0 => walk_at "efc"
          exact hX (.k 5 i.1) i.2 _ (by walk_at "mem") hi.1 (by simp [T.Law]) (Nat.zero_le _)
        · refine' Wb.retF hR (Ef.tup2 Ev.str ?r2 ?r3) (fun i hi => ?ry)
          case r3 => rfl
          case r2 => walk_at "efc"
          exact hX (.v i.1) i.2 _ (by walk_at "mem") hi.1 (by simp [T.Law]) (Nat.zero_le _)
    · rename ¬ _ => hb
      clear hH2
      obtain ⟨f, m, hf, fm, rfl⟩ := formOf dl d0 fun h => hb (.inl h)
      have fp := fm.pos
      obtain ⟨dq, rfl⟩ : ∃ dq, n = dq + 1 := ⟨n - 1, by walk_at "o"⟩
      have ei : ((dq + 1 : Nat) : Int) - 1 = (dq : Int) := by walk_at "o"
      have rg := rg_up m (by walk_at "o")
      ((with_reducible refine' Wb.setV ?s1x322 ?s2x322 ?s3x322 ?s4x322 ?s5x322 ?s9x322 ?s6x322 ?s7x322 ?wkx322 ?s8x322); (case s8x322 => k_dflt rfl); (case s1x322 => walk_at "ev"); (case s2x322 => walk_at "ev"); (case s3x322 => walk_at "ev"); (case s4x322 => k_dflt (exact rfl)); (case s5x322 => k_dflt decide); (case s9x322 => k_dflt (walk_at "mem")); (case s6x322 => intro tZ; k_dflt (walk_at "a1")); (case s7x322 => intro tZ; k_dflt (walk_at "put")); (case' wkx322 => intro tZ; walk_at "nm"))
      rename Tok => t4'
      refine' Wb.retF hR (Ef.tup3 Ev.str ?r4 (Ef.tupF ?r5 (Ef.compR (κ := Ts × List Value × PyData) (dsf := fun j => Ts.dats j.1) (PP := fun _ j => (c3, false, .is (IsCellV (.ref fo))) :: (c2, false, .is (IsCellV (.int ((dq + 1 : Nat) : Int) t))) :: (c1, false, .is (IsCellV (.ref ha))) :: handP ha c true j.2.1 ns (foP fo))
        (HH := fun i j => j.1.Law ∧ j.1.dep ≤ dq ∧ j.1.len = i ∧ Hand c ns j.2.1) (dl := fun j => j.2.2) (nn := m) (mu' := [ha]) (l := fun j => [(ha, .lst j.2.1)]) (.nil, _, .none) (clos_of hc (by with_unfolding_all rfl)) rfl (by decide) (by decide) rfl ?r6 rg.1 rg.2 (by walk_at "o") ⟨trivial, Nat.zero_le _, rfl, .mk _ _ _ _ _ _ _ _ h1 h2 h3 h4 h5⟩ rfl (fun i j h => by rw [Ts.dats_length, h.2.2.1]; exact Nat.le_refl _) ?r7 (fun acc It C' i j t0 hc' hi hj => ?r8) (fun j => ?r9) (fun _ => rfl) (fun j q hq => ⟨true, by rw [List.mem_singleton.mp hq]; walk_at "mem"⟩) (fun _ => rfl)) rfl (fun i => ?ra) (fun i hi => by rw [Ts.dats_length, hi.2.2.1]; walk_at "o")) rfl) (fun i hi => ?rb)
      case r4 => walk_at "ev"
      case r5 => walk_at "blt"
      case r6 => walk_at "ef"
      case r7 => walk_at "sel"
      case r9 => walk_at "puts"
      case ra => walk_at "mem"
      case r8 =>
        obtain ⟨l, vs3, dd⟩ := j
        obtain ⟨hl, hdp, hlen, hH⟩ := hj
        dsimp only at hl hdp hlen hH ⊢
        have sp := ih dq (by walk_at "o") hH
        rw [← ei] at sp
        refine' Ef.to (Ef.call ?l sp ?sel ?kk ?hl ?V ?f ?kp ?r1 ?r2) (fun q hq => ?rc)
        case l => walk_at "evl"
        case sel => walk_at "sel"
        case kk => omega
        case hl => intro _; rfl
        case V => intro _; walk_at "puts"
        case f => k_is
        case kp => k_is
        case r1 => rfl
        case r2 => rfl
        exact ⟨(l.snoc q.1, q.2, q.1.dat), ⟨⟨Ts.snoc_law hl hq.2.1, Ts.snoc_dep hdp hq.2.2, by rw [Ts.snoc_len, hlen], hq.1⟩, Ts.snoc_dats l q.1⟩, rfl, rfl⟩
      case rb =>
        obtain ⟨⟨l, vs3, dd⟩, acc⟩ := i
        obtain ⟨hl, hdp, hlen, hH⟩ := hi
        dsimp only at hl hdp hlen hH ⊢
        exact hX (.s 0 f l) vs3 _ (by walk_at "mem") hH (by simp only [T.Law]; exact ⟨by rw [hlen]; exact fm, hl⟩) (by simp only [T.dep]; walk_at "o")
end
end
section
local macro_rules | `(tactic| walk_at "evc") => `(tactic| first
  | (refine' Ev.cellR ?e0 ?e1 ?e2 ?e3 ?e4; (case e3 => k_dflt (exact rfl)); (case e0 => assumption); (case e1 => k_dflt (exact rfl)); (case e2 => k_dflt (walk_at "mem")); (case e4 => k_dflt (exact rfl)))
  | (refine' Ev.cellI ?e0 ?e1 ?e2 ?e3 ?e4; (case e3 => k_dflt (exact rfl)); (case e0 => assumption); (case e1 => k_dflt (exact rfl)); (case e2 => k_dflt (walk_at "mem")); (case e4 => k_dflt (exact rfl))))
section
variable {prog : Program} {w : World} {B : Heap}
section
variable {mu : List Addr} {sc : Scope} {k : Nat} {C : Cx prog w B mu sc k} {n : NL} {P : PL} {e1 e2 e3 : Expr} {ad : Addr} {bo : Bool} {i : Int} {p pos : Pos}
theorem Ev.dget {kds : List (Int × PyData)} {d d' : PyData} (h1 : Ev C n P e1 (.r ad)) (h2 : Ev C n P e2 (.d (.int i))) (h3 : Ev C n P e3 (.d d)) (hm : methE e1 pos [e2, e3] p = true) (he : [e2, e3].all plainE = true) (hp : (ad, bo, .ddat kds) ∈ P) (hk : (kget kds i).getD d = d') :
    Ev C n P (.Call (.Attribute e1 "get" pos) [e2, e3] [] p) (.d d') := fun _ _ _ _ S k =>
  have hs : plainE e2 = true ∧ plainE e3 = true := by simpa using he
  MethodCall_ (h1 _ S fun u D1 s1 S1 b1 i1 => by
    obtain rfl : u = .ref ad := i1
    have S₀ := S1
    obtain ⟨m, S1, N1⟩ := S1
    refine dict_method S1 hp PySem.F.slot_dict_get PySem.F.type_dict_get ?_
    exact callB S₀ (.cons h2 (.cons h3 .nil hs.2) hs.1) fun vs D2 s2 S2 b2 i2 => by
      cases i2 with
      | cons i2 i3 =>
        cases i3 with
        | cons i3 i4 =>
          cases i4
          obtain ⟨t, rfl⟩ := S2.int i2
          subst hk
          obtain ⟨m, S2, N2⟩ := S2
          exact dict_get2 S2 hp (S2.datum i3) fun u s3 S3 => k u _ _ ⟨m, S3, N2.sb .cons⟩ ((b1.trans b2).trans .cons) (.head _)) (meth_eq hm)
end
set_option maxHeartbeats 1600000 in
theorem put_fn {va : Addr} {vm : Ch} (G : Gr (KK w.params) B) (hvm : Vals vm) (n : Nat) : ∀ {t : T} (law : t.Law) (dep : t.dep ≤ n),
    EFn prog w B (n + 2) [] [(va, false, .ddat (tmDat vm))] 518 [.d t.dat, .r va] (ι := T) (fun t' => t'.Law ∧ t'.dep ≤ n + 1) (fun t' => .d t'.dat) (fun _ => []) (fun _ => []) := by
  induction n using Nat.strongRecOn with
  | ind n ih =>
    intro t law dep
    refine' (put_in G fun C R X c1 hc hX hR hE => ?_)
    replace hX : ∀ (t' : T) P', t'.Law → t'.dep ≤ n + 1 → X (.d t'.dat) P' := fun t' P' h2 h3 =>
      hX t' P' _ ⟨h2, h3⟩ rfl (fun q hq => nomatch hq) (List.nil_sublist _) (fun q hq => nomatch hq)
    cases t with
    | v a =>
      have e := tmDat_get vm a
      simp only [T.dat]
      walk_at "nm"
      ((with_reducible refine' Wb.ite_t ?wcx323 ?wpx323 ?wtx323); (case wcx323 => walk_at "evp"); (case wpx323 => first | exact rfl | assumption | decide); (case' wtx323 => walk_at "nm"))
      have h : ∃ y : T, (kget (tmDat vm) a).getD (T.v a).dat = y.dat ∧ y.Law ∧ y.dep ≤ n + 1 := by
        rw [e]
        cases q : chget vm a with
        | none => exact ⟨.v a, rfl, trivial, Nat.zero_le _⟩
        | some y => exact ⟨y, rfl, (hvm a y q).1, by have := (hvm a y q).2; walk_at "o"⟩
      obtain ⟨y, hy, l1, l2⟩ := h
      refine' Wb.ret hR (Ev.dget ?q1 ?q2 ?q3 ?q4 ?q5 ?q6 hy) (hX y _ l1 l2)
      case q4 => rfl
      case q5 => rfl
      case q1 => walk_at "ev"
      case q2 => walk_at "ev"
      case q3 => walk_at "ev"
      case q6 => walk_at "mem"
    | k b a =>
      by_cases h4 : b = 4
      · subst h4
        simp only [T.dat, if_true]
        walk_at "nm"
        ((with_reducible refine' Wb.ite_f ?wcx324 ?wpx324 ?wfx324); (case wcx324 => walk_at "evp"); (case wpx324 => first | assumption | decide); (case' wfx324 => walk_at "nm"))
        ((with_reducible refine' Wb.ite_f ?wcx325 ?wpx325 ?wfx325); (case wcx325 => walk_at "evp"); (case wpx325 => first | assumption | decide); (case' wfx325 => walk_at "nm"))
        ((with_reducible refine' Wb.ret (by assumption) ?wcx326 ?wxx326); (case wcx326 => walk_at "ev"))
        exact hX (.k 4 a) _ law (Nat.zero_le _)
      · obtain rfl : b = 5 := by simp only [T.Law] at law; walk_at "o"
        simp only [T.dat, if_neg h4]
        walk_at "nm"
        ((with_reducible refine' Wb.ite_f ?wcx327 ?wpx327 ?wfx327); (case wcx327 => walk_at "evp"); (case wpx327 => first | assumption | decide); (case' wfx327 => walk_at "nm"))
        ((with_reducible refine' Wb.ite_f ?wcx328 ?wpx328 ?wfx328); (case wcx328 => walk_at "evp"); (case wpx328 => first | assumption | decide); (case' wfx328 => walk_at "nm"))
        ((with_reducible refine' Wb.ret (by assumption) ?wcx329 ?wxx329); (case wcx329 => walk_at "ev"))
        exact hX (.k 5 a) _ law (Nat.zero_le _)
    | s a f l =>
      simp only [T.Law] at law
      simp only [T.dep] at dep
      obtain ⟨fm, ll⟩ := law
      have fp := fm.pos
      have el := Ts.dats_length l
      simp only [T.dat]
      walk_at "nm"
      ((with_reducible refine' Wb.ite_f ?wcx330 ?wpx330 ?wfx330); (case wcx330 => walk_at "evp"); (case wpx330 => first | assumption | decide); (case' wfx330 => walk_at "nm"))
      ((with_reducible refine' Wb.ite_t ?wcx331 ?wpx331 ?wtx331); (case wcx331 => walk_at "evp"); (case wpx331 => first | exact rfl | assumption | decide); (case' wtx331 => walk_at "nm"))
      refine' Wb.retF hR (Ef.tup3 Ev.str ?r4 (Ef.tupF ?r5 (Ef.compT (es := l.dats) (κ := Ts × PyData) (dsf := fun j => Ts.dats j.1) (PP := fun _ _ => [(c1, false, .is (IsCellV (.ref va))), (va, false, .ddat (tmDat vm))])
        (HH := fun i j => j.1.Law ∧ j.1.dep ≤ n ∧ j.1.len = i) (dl := fun j => j.2) (mu' := []) (l := fun _ => []) (Pf := fun _ => [(c1, false, .is (IsCellV (.ref va))), (va, false, .ddat (tmDat vm))]) (.nil, .none) (clos_of hc (by with_unfolding_all rfl)) rfl (by decide) (by decide) rfl ?r6 (by walk_at "o") ⟨trivial, Nat.zero_le _, rfl⟩ rfl (fun i j h => by rw [Ts.dats_length, h.2.2]; exact Nat.le_refl _) ?r7 (fun acc It C' i j d t0 hc' hd hj => ?r8) (fun j => .nil) (fun _ => rfl) (fun j q hq => nomatch hq) (fun _ => rfl)) rfl (fun i => ?ra) (fun i hi => by rw [Ts.dats_length, hi.2.2]; walk_at "o")) rfl) (fun i hi => ?rb)
      case r4 => walk_at "ev"
      case r5 => walk_at "blt"
      case r6 => walk_at "ev"
      case r7 => walk_at "sel"
      case ra => walk_at "mem"
      case r8 =>
        obtain ⟨l', dd⟩ := j
        obtain ⟨hl, hdp, hlen⟩ := hj
        dsimp only at hl hdp hlen ⊢
        obtain ⟨t1, rfl, law1, dep1⟩ := Ts.get_of ll hd
        refine' Ef.to (Ef.call ?l (ih (n - 1) (by walk_at "o") (t := t1) law1 (by walk_at "o")) ?sel ?kk ?hl ?V ?f ?kp ?r1 ?r2) (fun q hq => ?rc)
        case l => walk_at "evl"
        case sel => walk_at "sel"
        case kk => omega
        case hl => intro _; rfl
        case V => intro _; walk_at "puts"
        case f => k_is
        case kp => k_is
        case r1 => rfl
        case r2 => rfl
        exact ⟨(l'.snoc q, q.dat), ⟨⟨Ts.snoc_law hl hq.1, Ts.snoc_dep hdp (by have := hq.2; walk_at "o"), by rw [Ts.snoc_len, hlen]⟩, Ts.snoc_dats l' q⟩, rfl, rfl⟩
      case rb =>
        obtain ⟨⟨l', dd⟩, acc⟩ := i
        obtain ⟨hl, hdp, hlen⟩ := hi
        dsimp only at hl hdp hlen ⊢
        exact hX (.s 0 f l') _ (by simp only [T.Law]; exact ⟨by rw [hlen, el]; exact fm, hl⟩) (by simp only [T.dep]; walk_at "o")
end
end
section
noncomputable def Inj (tb : Mp) : Prop := ∀ n m a, mget tb n = some a → mget tb m = some a → n = m
theorem T.Im.v' {tb : Mp} {n : Int} {t' : T} (h : (T.v n).Im tb t') : ∃ a, t' = .v a ∧ mget tb n = some a := by
  cases t' <;> simp only [T.Im] at h
  exact ⟨_, rfl, h⟩
theorem T.Im.k' {tb : Mp} {b a : Int} {t' : T} (h : (T.k b a).Im tb t') : t' = .k b a := by
  cases t' <;> simp only [T.Im] at h
  rw [h.1, h.2]
theorem T.Im.s' {tb : Mp} {a f : Int} {l : Ts} {t' : T} (h : (T.s a f l).Im tb t') : ∃ a' l', t' = .s a' f l' ∧ l.Im tb l' := by
  cases t' <;> simp only [T.Im] at h
  exact ⟨_, _, by rw [h.1], h.2⟩
theorem Ts.Im.nil' {tb : Mp} {l : Ts} (h : Ts.nil.Im tb l) : l = .nil := by
  cases l with
  | nil => rfl
  | cons t r => simp only [Ts.Im] at h
theorem Ts.Im.cons' {tb : Mp} {t : T} {r l : Ts} (h : (Ts.cons t r).Im tb l) : ∃ t' r', l = .cons t' r' ∧ t.Im tb t' ∧ r.Im tb r' := by
  cases l with
  | nil => simp only [Ts.Im] at h
  | cons t' r' => simp only [Ts.Im] at h; exact ⟨t', r', rfl, h⟩
mutual
theorem T.Im.eqv {tb : Mp} (inj : Inj tb) : ∀ (t : T) {t' u u' : T}, t.Im tb t' → u.Im tb u' → t'.eqv u' = t.eqv u
  | .v n, t', u, u', h, k => by
    obtain ⟨a, rfl, h1⟩ := h.v'
    cases u with
    | v m =>
      obtain ⟨b, rfl, k1⟩ := k.v'
      simp only [T.eqv, decide_eq_decide]
      constructor
      · rintro rfl; exact inj _ _ _ h1 k1
      · rintro rfl; rw [h1] at k1; exact Option.some.inj k1
    | k c b => rw [k.k']; rfl
    | s c f l => obtain ⟨_, _, rfl, _⟩ := k.s'; rfl
  | .k b a, t', u, u', h, k => by
    rw [h.k']
    cases u with
    | v m => obtain ⟨b, rfl, k1⟩ := k.v'; rfl
    | k c b => rw [k.k']
    | s c f l => obtain ⟨_, _, rfl, _⟩ := k.s'; rfl
  | .s a f l, t', u, u', h, k => by
    obtain ⟨a', l', rfl, h1⟩ := h.s'
    cases u with
    | v m => obtain ⟨b, rfl, k1⟩ := k.v'; rfl
    | k c b => rw [k.k']; rfl
    | s c g r => obtain ⟨c', r', rfl, k1⟩ := k.s'; simp only [T.eqv, Ts.Im.eqv inj l h1 k1]
  termination_by structural t => t
theorem Ts.Im.eqv {tb : Mp} (inj : Inj tb) : ∀ (t : Ts) {t' u u' : Ts}, t.Im tb t' → u.Im tb u' → t'.eqv u' = t.eqv u
  | .nil, t', u, u', h, k => by
    rw [h.nil']
    cases u with
    | nil => rw [k.nil']
    | cons c r => obtain ⟨_, _, rfl, _⟩ := k.cons'; rfl
  | .cons t r, t', u, u', h, k => by
    obtain ⟨t1, r1, rfl, h1, h2⟩ := h.cons'
    cases u with
    | nil => rw [k.nil']; rfl
    | cons c q => obtain ⟨_, _, rfl, k1, k2⟩ := k.cons'; simp only [Ts.eqv, T.Im.eqv inj t h1 k1, Ts.Im.eqv inj r h2 k2]
  termination_by structural t => t
end
inductive ChIm (tb ub : Mp) : Ch → Ch → Prop
  | nil : ChIm tb ub [] []
  | cons {n a t t' c c'} : mget tb n = some a → t.Im ub t' → ChIm tb ub c c' → ChIm tb ub ((n, t) :: c) ((a, t') :: c')
theorem ChIm.add {tb ub : Mp} {n a : Int} {t t' : T} {c c' : Ch} (x : ChIm tb ub c c') (h : mget tb n = some a) (k : t.Im ub t') : ChIm tb ub (c ++ [(n, t)]) (c' ++ [(a, t')]) := by
  induction x with
  | nil => exact .cons h k .nil
  | cons h1 h2 _ ih => exact .cons h1 h2 ih
theorem ChIm.get {tb ub : Mp} (inj : Inj tb) {n a : Int} {c c' : Ch} (x : ChIm tb ub c c') (h : mget tb n = some a) :
    (chget c n = none ∧ chget c' a = none) ∨ ∃ t t', chget c n = some t ∧ chget c' a = some t' ∧ t.Im ub t' := by
  induction x with
  | nil => exact .inl ⟨rfl, rfl⟩
  | @cons m b t t' c c' h1 h2 _ ih =>
    unfold chget at ih ⊢
    simp only [List.find?_cons]
    by_cases e : m = n
    · subst e
      rw [h1] at h
      obtain rfl := Option.some.inj h
      exact .inr ⟨t, t', by simp, by simp, h2⟩
    · have e' : ¬ b = a := fun q => e (inj _ _ _ (q ▸ h1) h)
      simp only [e, e', decide_false]
      exact ih
inductive Both (tb ub : Mp) : Option Ch → Option Ch → Prop
  | none : Both tb ub none none
  | some {c c'} : ChIm tb ub c c' → Both tb ub (some c) (some c')
theorem Both.same {tb ub : Mp} {a b : Option Ch} (x : Both tb ub a b) : a.isSome = b.isSome := by cases x <;> rfl
section
variable {tb ub : Mp} {fx fx' : Int → Bool} (inj : Inj tb) (inju : Inj ub) (hf : ∀ n a, mget tb n = some a → fx' a = fx n) (hu : ∀ n a, fx n = true → mget tb n = some a → mget ub n = some a)
include inj inju hf hu
mutual
theorem T.Im.fit : ∀ (t : T) {t' u u' : T} {c c' : Ch}, t.Im tb t' → u.Im ub u' → ChIm tb ub c c' → Both tb ub (t.fit fx u c) (t'.fit fx' u' c')
  | .v n, t', u, u', c, c', h, k, x => by
    obtain ⟨a, rfl, h1⟩ := h.v'
    cases q : fx n with
    | true =>
      rw [fit_fx q, fit_fx (by rw [hf _ _ h1]; exact q), T.Im.eqv inju (.v n) (t' := .v a) (by simp only [T.Im]; exact hu _ _ q h1) k]
      split
      · exact .some x
      · exact .none
    | false =>
      have q' : fx' a = false := by rw [hf _ _ h1]; exact q
      rcases x.get inj h1 with ⟨e1, e2⟩ | ⟨y, y', e1, e2, e3⟩
      · rw [fit_new q e1, fit_new q' e2]; exact .some (x.add h1 k)
      · rw [fit_old q e1, fit_old q' e2, T.Im.eqv inju y e3 k]
        split
        · exact .some x
        · exact .none
  | .k b a, t', u, u', c, c', h, k, x => by
    rw [h.k', fit_k, fit_k, T.Im.eqv inju (.k b a) (t' := .k b a) (by simp only [T.Im]; exact ⟨trivial, trivial⟩) k]
    split
    · exact .some x
    · exact .none
  | .s a f l, t', u, u', c, c', h, k, x => by
    obtain ⟨a', l', rfl, h1⟩ := h.s'
    cases u with
    | v m => obtain ⟨b, rfl, k1⟩ := k.v'; simp only [T.fit]; exact .none
    | k d b => rw [k.k']; simp only [T.fit]; exact .none
    | s d g r =>
      obtain ⟨d', r', rfl, k1⟩ := k.s'
      rw [fit_s, fit_s]
      split
      · exact Ts.Im.fit l h1 k1 x
      · exact .none
  termination_by structural t => t
theorem Ts.Im.fit : ∀ (t : Ts) {t' u u' : Ts} {c c' : Ch}, t.Im tb t' → u.Im ub u' → ChIm tb ub c c' → Both tb ub (t.fit fx u c) (t'.fit fx' u' c')
  | .nil, t', u, u', c, c', h, k, x => by
    rw [h.nil']
    cases u with
    | nil => rw [k.nil']; simp only [Ts.fit]; exact .some x
    | cons d r => obtain ⟨_, _, rfl, _⟩ := k.cons'; simp only [Ts.fit]; exact .none
  | .cons t r, t', u, u', c, c', h, k, x => by
    obtain ⟨t1, r1, rfl, h1, h2⟩ := h.cons'
    cases u with
    | nil => rw [k.nil']; simp only [Ts.fit]; exact .none
    | cons d q =>
      obtain ⟨d1, q1, rfl, k1, k2⟩ := k.cons'
      simp only [Ts.fit]
      have y := T.Im.fit t h1 k1 x
      generalize t.fit fx d c = o at y
      generalize t1.fit fx' d1 c' = o' at y
      cases y with
      | none => exact .none
      | some z => exact Ts.Im.fit r h2 k2 z
  termination_by structural t => t
end
end
mutual
theorem T.Im.vars {tb : Mp} : ∀ (t : T) {t' : T}, t.Im tb t' → ∀ a, a ∈ t'.vars ↔ ∃ n ∈ t.vars, mget tb n = some a
  | .v n, t', h, a => by
    obtain ⟨b, rfl, h1⟩ := h.v'
    simp only [T.vars, List.mem_singleton]
    constructor
    · rintro rfl; exact ⟨n, rfl, h1⟩
    · rintro ⟨_, rfl, e⟩; rw [h1] at e; exact (Option.some.inj e).symm
  | .k b c, t', h, a => by rw [h.k']; simp [T.vars]
  | .s _ _ l, t', h, a => by
    obtain ⟨a', l', rfl, h1⟩ := h.s'
    exact Ts.Im.vars l h1 a
theorem Ts.Im.vars {tb : Mp} : ∀ (t : Ts) {t' : Ts}, t.Im tb t' → ∀ a, a ∈ t'.vars ↔ ∃ n ∈ t.vars, mget tb n = some a
  | .nil, t', h, a => by rw [h.nil']; simp [Ts.vars]
  | .cons t r, t', h, a => by
    obtain ⟨t1, r1, rfl, h1, h2⟩ := h.cons'
    simp only [Ts.vars, List.mem_append, T.Im.vars t h1 a, Ts.Im.vars r h2 a]
    constructor
    · rintro (⟨n, h1, h2⟩ | ⟨n, h1, h2⟩)
      · exact ⟨n, .inl h1, h2⟩
      · exact ⟨n, .inr h1, h2⟩
    · rintro ⟨n, h1 | h1, h2⟩
      · exact .inl ⟨n, h1, h2⟩
      · exact .inr ⟨n, h1, h2⟩
end
theorem law_shared {tb : Mp} (inj : Inj tb) {g s g' s' : T} (hg : g.Im tb g') (hs : s.Im tb s') :
    (g'.fit (fun k => decide (k ∈ s'.vars)) s' []).isSome = (g.fit (fun k => decide (k ∈ s.vars)) s []).isSome := by
  refine (T.Im.fit inj inj (fun n a h => ?_) (fun n a _ h => h) g hg hs .nil).same.symm
  rw [decide_eq_decide, T.Im.vars _ hs]
  constructor
  · rintro ⟨m, h1, h2⟩; rw [inj _ _ _ h h2]; exact h1
  · intro q; exact ⟨n, q, h⟩
theorem law_apart {tb ub : Mp} (inj : Inj tb) (inju : Inj ub) (ap : ∀ n m a, mget tb n = some a → mget ub m = some a → False) {g s g' s' : T} (hg : g.Im tb g') (hs : s.Im ub s') :
    (g'.fit (fun k => decide (k ∈ s'.vars)) s' []).isSome = (g.fit (fun k => decide (k ∈ ([] : List Int))) s []).isSome := by
  refine (T.Im.fit inj inju (fun n a h => ?_) (fun n a h _ => ?_) g hg hs .nil).same.symm
  · rw [decide_eq_decide, T.Im.vars _ hs]
    constructor
    · rintro ⟨m, h1, h2⟩; exact (ap _ _ _ h h2).elim
    · intro q; exact nomatch q
  · simp at h
mutual
theorem T.fit_self {fx : Int → Bool} {ch : Ch} : ∀ t : T, (∀ n ∈ t.vars, fx n = true) → t.fit fx t ch = some ch
  | .v n, h => by rw [fit_fx (h n (by simp [T.vars])), T.eqv_refl]; rfl
  | .k b a, _ => by rw [fit_k, T.eqv_refl]; rfl
  | .s a f l, h => by rw [fit_s, if_pos rfl]; exact Ts.fit_self l (by simpa only [T.vars] using h)
theorem Ts.fit_self {fx : Int → Bool} {ch : Ch} : ∀ t : Ts, (∀ n ∈ t.vars, fx n = true) → t.fit fx t ch = some ch
  | .nil, _ => by simp only [Ts.fit]
  | .cons t r, h => by
    simp only [Ts.vars, List.mem_append] at h
    simp only [Ts.fit, T.fit_self t fun n hn => h n (.inl hn), Option.bind_some, Ts.fit_self r fun n hn => h n (.inr hn)]
end
noncomputable def chv (m : Mp) : Ch := m.map fun e => (e.1, T.v e.2)
theorem chv_get (m : Mp) (n : Int) : chget (chv m) n = (mget m n).map T.v := by
  unfold chget mget chv
  induction m with
  | nil => rfl
  | cons e r ih =>
    simp only [List.map_cons, List.find?_cons]
    by_cases h : e.1 = n
    · simp [h]
    · simp only [h, decide_false, ih]
theorem chv_add (m : Mp) (a b : Int) : chv (m ++ [(a, b)]) = chv m ++ [(a, T.v b)] := by simp [chv]
noncomputable def Inv (m : Mp × Mp) : Prop := ∀ a b, mget m.1 a = some b ↔ mget m.2 b = some a
noncomputable abbrev no : Int → Bool := fun k => decide (k ∈ ([] : List Int))
theorem no_false (k : Int) : no k = false := by simp
noncomputable def RenFit (g s : Ch → Option Ch) (m : Mp × Mp) : Option (Mp × Mp) → Prop
  | some m' => g (chv m.1) = some (chv m'.1) ∧ s (chv m.2) = some (chv m'.2) ∧ Inv m'
  | none => g (chv m.1) = none ∨ s (chv m.2) = none
theorem fit_vv (m : Mp) (a b : Int) : (T.v a).fit no (.v b) (chv m) = match mget m a with
    | none => some (chv (m ++ [(a, b)]))
    | some c => if c = b then some (chv m) else none := by
  cases q : mget m a with
  | none => rw [fit_new (no_false a) (by rw [chv_get, q]; rfl), chv_add]
  | some c =>
    rw [fit_old (no_false a) (y := .v c) (by rw [chv_get, q]; rfl)]
    simp only [T.eqv, decide_eq_true_eq]
mutual
theorem T.ren_fit : ∀ (g s : T) (m : Mp × Mp), Inv m → RenFit (g.fit no s) (s.fit no g) m (g.ren s m)
  | .v a, .v b, m, hi => by
    rw [ren_v]
    unfold RenFit renV
    rw [fit_vv, fit_vv]
    cases q1 : mget m.1 a with
    | none =>
      cases q2 : mget m.2 b with
      | none =>
        simp only [and_self, if_true]
        refine ⟨trivial, trivial, fun x y => ?_⟩
        rw [mget_add q1, mget_add q2, hi x y]
        constructor
        · rintro (h | ⟨rfl, rfl⟩)
          · exact .inl h
          · exact .inr ⟨rfl, rfl⟩
        · rintro (h | ⟨rfl, rfl⟩)
          · exact .inl h
          · exact .inr ⟨rfl, rfl⟩
      | some c =>
        simp only [and_false, if_false, reduceCtorEq]
        right
        rw [if_neg]
        rintro rfl
        rw [(hi c b).mpr q2] at q1
        cases q1
    | some c =>
      simp only [reduceCtorEq, false_and, if_false, Option.some.injEq]
      by_cases e : c = b
      · subst e
        simp only [if_true, (hi a c).mp q1]
        exact ⟨trivial, trivial, hi⟩
      · simp only [e, if_false]
        exact .inl trivial
  | .k b a, .k b' a', m, hi => by
    rw [ren_k]
    unfold RenFit
    rw [fit_k, fit_k]
    simp only [T.eqv, decide_eq_true_eq]
    by_cases e : b = b' ∧ a = a'
    · simp only [e, and_self, if_true]; exact ⟨trivial, trivial, hi⟩
    · simp only [e, if_false]; exact .inl trivial
  | .s _ f l, .s _ f' l', m, hi => by
    rw [ren_s]
    unfold RenFit
    by_cases e : f = f'
    · simp only [fit_s, e, if_true]
      exact Ts.ren_fit l l' m hi
    · simp only [e, if_false, fit_s]; exact .inl trivial
  | .v _, .k _ _, m, _ => by simp only [T.ren]; right; rw [fit_k]; simp only [T.eqv]; rfl
  | .v _, .s _ _ _, m, _ => by simp only [T.ren]; right; simp only [T.fit]
  | .k _ _, .v _, m, _ => by simp only [T.ren]; left; rw [fit_k]; simp only [T.eqv]; rfl
  | .k _ _, .s _ _ _, m, _ => by simp only [T.ren]; left; rw [fit_k]; simp only [T.eqv]; rfl
  | .s _ _ _, .v _, m, _ => by simp only [T.ren]; left; simp only [T.fit]
  | .s _ _ _, .k _ _, m, _ => by simp only [T.ren]; left; simp only [T.fit]
theorem Ts.ren_fit : ∀ (g s : Ts) (m : Mp × Mp), Inv m → RenFit (g.fit no s) (s.fit no g) m (g.ren s m)
  | .nil, .nil, m, hi => by simp only [Ts.ren]; unfold RenFit; simp only [Ts.fit]; exact ⟨trivial, trivial, hi⟩
  | .cons t r, .cons t' r', m, hi => by
    have h := T.ren_fit t t' m hi
    simp only [Ts.ren]
    cases q : t.ren t' m with
    | none =>
      rw [q] at h
      simp only [Option.bind_none]
      unfold RenFit at h ⊢
      simp only [Ts.fit]
      rcases h with h | h
      · left; rw [h]; rfl
      · right; rw [h]; rfl
    | some m' =>
      rw [q] at h
      unfold RenFit at h
      obtain ⟨h1, h2, h3⟩ := h
      have k := Ts.ren_fit r r' m' h3
      simp only [Option.bind_some]
      unfold RenFit at k ⊢
      simp only [Ts.fit, h1, h2, Option.bind_some]
      exact k
  | .nil, .cons _ _, m, _ => by simp only [Ts.ren]; left; simp only [Ts.fit]
  | .cons _ _, .nil, m, _ => by simp only [Ts.ren]; left; simp only [Ts.fit]
end
theorem ren_iff (g s : T) : (g.ren s ([], [])).isSome = ((g.fit no s []).isSome && (s.fit no g []).isSome) := by
  have h := T.ren_fit g s ([], []) fun a b => by simp [mget]
  cases q : g.ren s ([], []) with
  | none =>
    rw [q] at h
    rcases h with h | h
    · rw [show g.fit no s [] = none from h]; rfl
    · rw [show s.fit no g [] = none from h]; simp
  | some m =>
    rw [q] at h
    obtain ⟨h1, h2, _⟩ := h
    rw [show g.fit no s [] = _ from h1, show s.fit no g [] = _ from h2]; rfl
theorem law_no {tb ub : Mp} (inj : Inj tb) (inju : Inj ub) {g s g' s' : T} (hg : g.Im tb g') (hs : s.Im ub s') : (g'.fit no s' []).isSome = (g.fit no s []).isSome :=
  (T.Im.fit inj inju (fun n a _ => by rw [no_false, no_false]) (fun n a h _ => by rw [no_false] at h; cases h) g hg hs .nil).same.symm
theorem law_ren {tb ub : Mp} (inj : Inj tb) (inju : Inj ub) {g s g' s' : T} (hg : g.Im tb g') (hs : s.Im ub s') : (g'.ren s' ([], [])).isSome = ((g.fit no s []).isSome && (s.fit no g []).isSome) := by
  rw [ren_iff, law_no inj inju hg hs, law_no inju inj hs hg]
end
section
theorem Pd.forget {cs : List (Int × Int)} {tb : Mp} (x : Pd cs tb []) : Pd cs [] [] :=
  ⟨x.nd, x.lt, x.root, x.tag, (fun n a h => nomatch h), fun n m a h => nomatch h⟩
theorem Pd.none : Pd [] [] [] := ⟨List.nodup_nil, (fun p h => nomatch h), (fun i j h => by simp at h), (fun c h => nomatch h), (fun n a h => nomatch h), fun n m a h => nomatch h⟩
noncomputable abbrev Fx (sh : Bool) (t : T) : List Int := if sh = true then t.vars else []
structure Two (g t : T) (sh : Bool) (cs : List (Int × Int)) (g' t' : T) : Prop where
  wf : WF cs
  len : cs.length < 2 ^ 19
  gin : g'.In cs
  tin : t'.In cs
  fg : Fair 900 g'
  ft : Fair 900 t'
  due : (g'.fit (fun k => decide (k ∈ t'.vars)) t' []).isSome = (g.fit (fun k => decide (k ∈ Fx sh t)) t []).isSome
  back : (t'.fit (fun k => decide (k ∈ g'.vars)) g' []).isSome = (t.fit (fun k => decide (k ∈ Fx sh g)) g []).isSome
  ren : sh = false → (g'.ren t' ([], [])).isSome = ((g.fit (fun k => decide (k ∈ Fx sh t)) t []).isSome && (t.fit (fun k => decide (k ∈ Fx sh g)) g []).isSome)
  self : (g'.fit (fun k => decide (k ∈ g'.vars)) g' []).isSome = true
theorem fit_selfs (g : T) : (g.fit (fun k => decide (k ∈ g.vars)) g []).isSome = true := by
  rw [T.fit_self g fun n hn => decide_eq_true hn]; rfl
theorem two_shared {g t g' t' : T} {cs1 cs2 : List (Int × Int)} {tb1 tb2 : Mp} (x : Built [] [] g cs1 tb1 g') (y : Built cs1 tb1 t cs2 tb2 t') (h1 : g.size ≤ 400) (h2 : t.size ≤ 400) : Two g t true cs2 g' t' := by
  have l1 := x.len
  have l2 := y.len
  have im : g'.size = g.size := T.Im.size x.im
  have im2 : t'.size = t.size := T.Im.size y.im
  have ig : g.Im tb2 g' := T.Im.mono y.grew.tbs x.im
  refine ⟨y.pd.wf, ?_, y.grew.tin x.is, y.is, ⟨x.nd, by walk_at "o"⟩, ⟨y.nd, by walk_at "o"⟩, law_shared y.pd.inj ig y.im, law_shared y.pd.inj y.im ig, (fun h => nomatch h), fit_selfs g'⟩
  simp only [List.length_nil] at l1
  walk_at "o"
theorem two_apart {g t g' t' : T} {cs1 cs2 : List (Int × Int)} {tb1 tb2 : Mp} (x : Built [] [] g cs1 tb1 g') (y : Built cs1 [] t cs2 tb2 t') (h1 : g.size ≤ 400) (h2 : t.size ≤ 400) : Two g t false cs2 g' t' := by
  have l1 := x.len
  have l2 := y.len
  have im : g'.size = g.size := T.Im.size x.im
  have im2 : t'.size = t.size := T.Im.size y.im
  have ap : ∀ n m a, mget tb1 n = some a → mget tb2 m = some a → False := fun n m a h1 h2 => by
    obtain ⟨a0, a1, _⟩ := x.pd.tbk n a h1
    have a2 := (List.getElem?_eq_some_iff.mp a1).1
    rcases y.grew.new m a h2 with q | q
    · cases q
    · walk_at "o"
  refine ⟨y.pd.wf, ?_, y.grew.tin x.is, y.is, ⟨x.nd, by walk_at "o"⟩, ⟨y.nd, by walk_at "o"⟩, law_apart x.pd.inj y.pd.inj ap x.im y.im, law_apart y.pd.inj x.pd.inj (fun n m a p q => ap m n a q p) y.im x.im, (fun _ => law_ren x.pd.inj y.pd.inj x.im y.im), fit_selfs g'⟩
  simp only [List.length_nil] at l1
  walk_at "o"
theorem eqv_cells : ∀ cs : List (Int × Int), PyData.eqvAll (cs.map cdp) (cs.map cdp) = true
  | [] => rfl
  | c :: r => by
    simp only [List.map_cons, PyData.eqvAll, eqv_cells r, Bool.and_true]
    rw [cd_eqv]; simp
theorem lay_cells : ∀ cs : List (Int × Int), PyData.canLayAll0 (cs.map cdp) = true ∧ PyData.depthAll (cs.map cdp) ≤ 1
  | [] => ⟨rfl, Nat.zero_le _⟩
  | c :: r => by
    have := lay_cells r
    simp only [List.map_cons, PyData.canLayAll0, PyData.depthAll, cdp, cd, PyData.canLay0, PyData.depth, this.1]
    exact ⟨rfl, by have := this.2; walk_at "o"⟩
theorem shaped_cells (cs : List (Int × Int)) : SeqAt.shaped (.list (cs.map cdp)) = true := by
  have := lay_cells cs
  unfold SeqAt.shaped
  have e : PyData.depth (.list (cs.map cdp)) = PyData.depthAll (cs.map cdp) + 1 := by simp only [PyData.depth]
  rw [e, show PyData.canLay0 (.list (cs.map cdp)) = true by simp only [PyData.canLay0]; exact this.1, Bool.true_and]
  exact decide_eq_true (by walk_at "o")
theorem shaped_nil : SeqAt.shaped (.list []) = true := by decide
end
section
section
variable {prog : Program} {w : World} {B : Heap} {mu : List Addr} {sc : Scope} {k : Nat} {C : Cx prog w B mu sc k}
variable {n : NL} {P P' : PL} {D D' : DL} {s s' : Shared} {x name : Str} {p q pos px : Pos} {a b : AV} {e e1 e2 e3 : Expr} {es : List Expr} {i j : Int} {ad dx c : Addr} {bo bo' : Bool} {ss : List Stmt} {R : Flow → Shared → Prop}
  {ι κ : Type} {H : ι → Prop} {va : ι → AV} {vP : ι → PL} {ds : List PyData}
noncomputable def EfL (C : Cx prog w B mu sc k) (n : NL) (P : PL) (es : List Expr) {ι : Type} (H : ι → Prop) (va : ι → List AV) (vP : ι → PL) : Prop := es.all plainE = true ∧ ∀ (D : DL) {s E pos} {Q : List Value → Shared → Prop}, C.S n P D s →
  (∀ i vs D' s', H i → C.S n (vP i) D' s' → Sb D D' → AllIn D' vs (va i) → Q vs s') → wpAny (model prog w) C.A (spliced (backTo pos (starEach es C.env))) Q E s
theorem EfL.nil : EfL C n P [] (ι := Unit) (fun _ => True) (fun _ => []) (fun _ => P) := ⟨rfl, fun _ _ _ _ _ S k => spliced_none (k () _ _ _ trivial S (.refl _) .nil)⟩
theorem EfL.cons {H2 : κ → Prop} {as : κ → List AV} {vP2 : κ → PL} (h : Ev C n P e a) (h2 : EfL C n P es H2 as vP2) (he : plainE e = true) : EfL C n P (e :: es) H2 (fun i => a :: as i) vP2 :=
  ⟨by rw [List.all_cons, he, h2.1]; rfl, fun _ _ _ _ _ S k => spliced_more (h _ S fun v D1 s1 S1 b1 i1 => h2.2 _ S1 fun i vs D2 s2 hi S2 b2 i2 => k i _ _ _ hi S2 (b1.trans b2) (.cons (i1.sb b2) i2)) (star_cons he)⟩
theorem EfL.consF {H2 : ι → κ → Prop} {as : ι → κ → List AV} {vP2 : ι → κ → PL} (h : Ef C n P e H va vP) (h2 : ∀ i, H i → EfL C n (vP i) es (H2 i) (as i) (vP2 i)) (he : plainE e = true) (hp : es.all plainE = true) :
    EfL C n P (e :: es) (ι := ι × κ) (fun i => H i.1 ∧ H2 i.1 i.2) (fun i => va i.1 :: as i.1 i.2) (fun i => vP2 i.1 i.2) :=
  ⟨by rw [List.all_cons, he, hp]; rfl, fun _ _ _ _ _ S k => spliced_more (h _ S fun i v D1 s1 hi S1 b1 i1 => (h2 i hi).2 _ S1 fun j vs D2 s2 hj S2 b2 i2 => k (i, j) _ _ _ ⟨hi, hj⟩ S2 (b1.trans b2) (.cons (i1.sb b2) i2)) (star_cons he)⟩
variable {vas : ι → List AV} {N P1 : ι → κ → PL} {H2 : ι → κ → Prop} {va2 : ι → κ → AV} {l : ι → κ → List (Addr × Tr)} {Pf : ι → PL}
theorem EfL.call {f : Value} {first : List Value} {E Q : Value → Shared → Prop} (h : EfL C n P (e :: es) H vas vP) (S : C.S n P D s) (hk : keepIn (KK w.params) f = true)
    (hq : ∀ i vs D' s', H i → C.S n (vP i) D' s' → Sb D D' → AllIn D' vs (vas i) → wpAny (model prog w) C.A (call f (first ++ vs)) Q E s') : wpAny (model prog w) C.A (callWith pos f first (backTo pos (starEach (e :: es) C.env)) []) Q E s := by
  have hp : plainE e = true ∧ es.all plainE = true := by have := h.1; rwa [List.all_cons, Bool.and_eq_true] at this
  exact callWith_K C.G.X hk (h.2 _ S fun i vs D1 s1 hi S1 b1 i1 => ⟨X_of S1, hq i _ _ _ hi S1 b1 i1⟩) (star_cons hp.1) (star_plain hp.2)
theorem Ef.callF {f : Addr} {k' : Nat} {mu' : ι → List Addr} (h : EfL C n P (e :: es) H vas vP) (sp : ∀ i, H i → EFn prog w B k' (mu' i) (Pf i) f (vas i) (H2 i) (va2 i) (l i) (N i)) (sel : ∀ i, Sel (mu' i) (Pf i) (vP i)) (hk' : k' ≤ k) (hl : ∀ i j, (l i j).map (·.1) = mu' i) (V : ∀ i j, Puts (l i j) (vP i) (P1 i j))
    (hf : nsIn (KK w.params) mainGlobals x = some (some (.ref f))) (hk : keepIn (KK w.params) (.ref f) = true) (hx : sc.names.lookup x = some .globalImplicit) (hd : (x == ("__debug__" : Str)) = false) :
    Ef C n P (.Call (.Name x q) (e :: es) [] p) (ι := ι × κ) (fun i => H i.1 ∧ H2 i.1 i.2) (fun i => va2 i.1 i.2) (fun i => N i.1 i.2 ++ P1 i.1 i.2) := fun _ _ _ _ S k =>
  Call_ (wp_fn S hf hx hd (h.call S hk fun i vs D1 s1 hi S1 b1 i1 => sp i hi _ (C.r.less hk') (kn_of S1 (sel i)) (rd_of S1) i1 fun j v s2 hj g ee x nw hv => by
    obtain ⟨D2, S2, b2, i2⟩ := S_puts S1 (V i j) (hl i j) g ee x nw hv
    exact k (i, j) _ _ _ ⟨hi, hj⟩ S2 (b1.trans b2) i2)) (call_eq rfl)
theorem Ef.methF {f CC : Addr} {k' kk : Nat} {mu' : ι → List Addr} {g : Str → Option Value} (h1 : Ev C n P e1 (.r ad)) (h : EfL C n P (e :: es) H vas vP) (sp : ∀ i, H i → EFn prog w B k' (mu' i) (Pf i) f (.r ad :: vas i) (H2 i) (va2 i) (l i) (N i)) (sel : ∀ i, Sel (mu' i) (Pf i) (vP i)) (hk' : k' ≤ k) (hl : ∀ i j, (l i j).map (·.1) = mu' i) (V : ∀ i j, Puts (l i j) (vP i) (P1 i j))
    (hx : (ad, bo, .is (IsInst CC dx)) ∈ P) (hd : (dx, bo', .att g kk) ∈ P) (hgl : g name = .none)
    (hg : plainGet (KK w.params) CC name = true) (hf : findIn (KK w.params) (.ref CC) name = some (some (.ref f))) (ht : isFn (KK w.params) (.ref f) = true) (hk : keepIn (KK w.params) (.ref f) = true)
    (hm : methE e1 pos (e :: es) p = true) :
    Ef C n P (.Call (.Attribute e1 name pos) (e :: es) [] p) (ι := ι × κ) (fun i => H i.1 ∧ H2 i.1 i.2) (fun i => va2 i.1 i.2) (fun i => N i.1 i.2 ++ P1 i.1 i.2) := fun _ _ _ _ S k =>
  MethodCall_ (h1 _ S fun u D1 s1 S1 b1 i1 => by
    obtain rfl : u = .ref ad := i1
    have S₀ := S1
    obtain ⟨m, S1, N1⟩ := S1
    refine meth_S S1 C.G.X hx hd hg hf ht hgl ?_
    exact h.call S₀ hk fun i vs D2 s2 hi S2 b2 i2 => sp i hi _ (C.r.less hk') (kn_of S2 (sel i)) (rd_of S2) (.cons rfl i2) fun j v s3 hj g ee x nw hv => by
      obtain ⟨D3, S3, b3, i3⟩ := S_puts S2 (V i j) (hl i j) g ee x nw hv
      exact k (i, j) _ _ _ ⟨hi, hj⟩ S3 ((b1.trans b2).trans b3) i3) (meth_eq hm)
theorem Ef.lstF {df : ι → List PyData} (h : EfL C n P es H (fun i => dats (df i)) vP) (hz : ∀ i, Nat.ble (df i).length 999 = true) : Ef C n P (.List es p) (ι := ι × Addr) (fun i => H i.1) (fun i => .r i.2) (fun i => (i.2, true, .ldat (df i.1)) :: vP i.1) := fun _ _ _ _ S k =>
  List_ (h.2 _ S fun i vs D1 s1 hi S1 b1 i1 => by
    have r := i1.rdAll (vs := vs) S1
    obtain ⟨m, S1, N1⟩ := S1
    exact newList_rd S1 r (Nat.lt_succ_of_le (Nat.le_of_ble_eq_true (hz i))) fun a s2 S2 => k (i, a) _ _ _ hi ⟨m, S2, N1⟩ b1 rfl)
theorem Ef.lst5 {f1 f2 f3 f4 : ι → Int} (h : EfL C n P es H (fun i => [.r c, .d (.int (f1 i)), .d (.int (f2 i)), .d (.int (f3 i)), .d (.int (f4 i))]) vP) : Ef C n P (.List es p) (ι := ι × (Tok × Tok × Tok × Tok) × Addr) (fun i => H i.1) (fun i => .r i.2.2)
    (fun i => (i.2.2, true, .lst [.ref c, .int (f1 i.1) i.2.1.1, .int (f2 i.1) i.2.1.2.1, .int (f3 i.1) i.2.1.2.2.1, .int (f4 i.1) i.2.1.2.2.2]) :: vP i.1) := fun _ _ _ _ S k =>
  List_ (h.2 _ S fun i vs D1 s1 hi S1 b1 i1 => by
    cases i1 with | cons a0 i1 => cases i1 with | cons a1 i1 => cases i1 with | cons a2 i1 => cases i1 with | cons a3 i1 => cases i1 with | cons a4 i1 =>
    cases i1
    obtain rfl := a0
    obtain ⟨t1, rfl⟩ := S1.int a1
    obtain ⟨t2, rfl⟩ := S1.int a2
    obtain ⟨t3, rfl⟩ := S1.int a3
    obtain ⟨t4, rfl⟩ := S1.int a4
    obtain ⟨m, S1, N1⟩ := S1
    exact newList_any S1 (show (5 : Nat) < 1000 by decide) fun a s2 S2 => k (i, (t1, t2, t3, t4), a) _ _ _ hi ⟨m, S2, N1⟩ b1 rfl)
theorem Ef.sum {ns : List Int} (hb : Blt w sc x (.builtin "sum")) (h : Ev C n P e (.r ad)) (he : plainE e = true) (hp : (ad, bo, .ldat (ns.map PyData.int)) ∈ P) : Ef C n P (.Call (.Name x q) [e] [] p) (ι := Int) (fun _ => True) (fun i => .d (.int i)) (fun _ => P) := fun _ _ _ _ S k =>
  Call_ (wp_blt S hb (callB S (.cons h .nil he) fun vs D1 s1 S1 b1 i1 => by
    cases i1 with | cons i1 i2 => cases i2; obtain rfl := i1; obtain ⟨m, S1, N1⟩ := S1; exact sum_ldi C.r.handled S1 hp fun i t s2 S2 => k i _ _ _ trivial (Cx.S.kint ⟨m, S2, N1⟩ i t) (b1.trans .cons) (.head _))) (call_eq rfl)
theorem Ef.bin {op : Operator} {f g : ι → Int} {H' : ι → Prop} (h1 : Ef C n P e1 H (fun i => .d (.int (f i))) (fun _ => P)) (h2 : Ev C n P e2 (.d (.int j))) (h : ∀ i, H i → H' i ∧ ∀ {t u D s E} {Q : Value → Shared → Prop}, C.S n P D s → (∀ v D' s', C.S n P D' s' → Sb D D' → AV.In D' v (.d (.int (g i))) → Q v s') → wpAny (model prog w) C.A (binaryOp op (.int (f i) t) (.int j u)) Q E s) :
    Ef C n P (.BinOp e1 op e2 p) H' (fun i => .d (.int (g i))) (fun _ => P) := fun _ _ _ _ S k =>
  wpAny_BinOp (h1 _ S fun i v D1 s1 hi S1 b1 i1 => h2 _ S1 fun u D2 s2 S2 b2 i2 => by
    obtain ⟨t, rfl⟩ := S2.int (i1.sb b2)
    obtain ⟨t', rfl⟩ := S2.int i2
    exact (h i hi).2 S2 fun r D3 s3 S3 b3 i3 => k i _ _ _ (h i hi).1 S3 ((b1.trans b2).trans b3) i3)
theorem Ef.modK {f : ι → Int} (h1 : Ef C n P e1 H (fun i => .d (.int (f i))) (fun _ => P)) (h2 : Ev C n P e2 (.d (.int j))) (hj : 0 < j) : Ef C n P (.BinOp e1 .Mod e2 p) (fun i => H i ∧ 0 ≤ (f i).fmod j ∧ (f i).fmod j < j) (fun i => .d (.int ((f i).fmod j))) (fun _ => P) :=
  Ef.bin h1 h2 fun i hi => ⟨⟨hi, fmod_lo _ hj, fmod_hi _ hj⟩, fun ⟨m, S, N⟩ k => modS S (by walk_at "o") fun t s2 S2 => k _ _ _ (Cx.S.kint ⟨m, S2, N⟩ _ t) .cons (.head _)⟩
theorem Ef.mulK {f : ι → Int} (h1 : Ef C n P e1 H (fun i => .d (.int (f i))) (fun _ => P)) (h2 : Ev C n P e2 (.d (.int j))) (hm : ∀ i, H i → IntMulOk (f i) j) : Ef C n P (.BinOp e1 .Mult e2 p) H (fun i => .d (.int (f i * j))) (fun _ => P) :=
  Ef.bin h1 h2 fun i hi => ⟨hi, fun ⟨m, S, N⟩ k => mulS S (hm i hi) fun t s2 S2 => k _ _ _ (Cx.S.kint ⟨m, S2, N⟩ _ t) .cons (.head _)⟩
variable {p1 : Prop}
theorem Ef.ife_t (hc : EvP C n P e1 p1) (hp : p1) (h : Ef C n P e2 H va vP) : Ef C n P (.IfExp e1 e2 e3 p) H va vP := fun _ _ _ _ S k =>
  IfExp_ (hc _ S fun b D1 s1 S1 b1 hb => by
    obtain rfl : b = true := hb.mpr hp
    exact h _ S1 fun i v D2 s2 hi S2 b2 i2 => k i _ _ _ hi S2 (b1.trans b2) i2)
theorem Ef.ife_f (hc : EvP C n P e1 p1) (hp : ¬ p1) (h : Ef C n P e3 H va vP) : Ef C n P (.IfExp e1 e2 e3 p) H va vP := fun _ _ _ _ S k =>
  IfExp_ (hc _ S fun b D1 s1 S1 b1 hb => by
    cases b with
    | true => exact absurd (hb.mp rfl) hp
    | false => exact h _ S1 fun i v D2 s2 hi S2 b2 i2 => k i _ _ _ hi S2 (b1.trans b2) i2)
theorem Cm.eqL {c : Addr} {ds ds' : List PyData} {bo' : Bool} (h1 : (ad, bo, .ldat ds) ∈ P) (h2 : (c, bo', .ldat ds') ∈ P) (d : SeqAt.shaped (.list ds) = true) (d' : SeqAt.shaped (.list ds') = true) (he : PyData.eqv (.list ds) (.list ds') = true) : Cm C n P .Eq (.r ad) (.r c) True := fun v u D s E Q S i1 i2 k => by
  obtain rfl : v = .ref ad := i1
  obtain rfl : u = .ref c := i2
  have S₀ := S
  obtain ⟨m, S, N⟩ := S
  exact eq_ld S h1 h2 (Room.eq C.r) d d' (by rw [he]; exact k _ _ _ S₀ (.refl _) ⟨fun _ => trivial, fun _ => rfl⟩)
theorem Ef.cmpF {op : CmpOp} (h1 : Ev C n P e1 a) (h2 : Ef C n P e2 H va vP) (h : ∀ i, H i → Cm C n (vP i) op a (va i) True) (hm : behindInMarks op e2 = false) : Ef C n P (.Compare e1 [op] [e2] p) H (fun _ => .d (.bool true)) vP := fun _ _ _ _ S k =>
  wpAny_Compare1 (h1 _ S fun v D1 s1 S1 b1 i1 => h2 _ S1 fun i u D2 s2 hi S2 b2 i2 => h i hi _ S2 (i1.sb b2) i2 fun c' D3 s3 S3 b3 hc' => by
    obtain rfl : c' = true := hc'.mpr trivial
    exact k i _ _ _ hi (S3.know (Reads.bool _)) (((b1.trans b2).trans b3).trans .cons) (.head _)) hm
theorem Ef.and3 (h1 : Ev C n P e1 (.d (.bool true))) (h2 : Ef C n P e2 H (fun _ => .d (.bool true)) vP) (h3 : ∀ i, Ev C n (vP i) e3 a) : Ef C n P (.BoolOp .And [e1, e2, e3] p) H (fun _ => a) vP := fun _ _ _ _ S k =>
  BoolOp_and (h1 _ S fun v D1 s1 S1 b1 i1 => by
    obtain rfl := (S1.rd i1).bool
    exact wpAny_truthy_bool (BoolOp_and (h2 _ S1 fun i v D2 s2 hi S2 b2 i2 => by
      obtain rfl := (S2.rd i2).bool
      exact wpAny_truthy_bool (BoolOp_one (h3 i _ S2 fun v D3 s3 S3 b3 i3 => k i _ _ _ hi S3 ((b1.trans b2).trans b3) i3)))))
end
end
section
local macro_rules | `(tactic| walk_at "a1") => `(tactic| first | exact At1.head | (refine' At1.tail ?at1; (case at1 => walk_at "a1")))
theorem chget_key {ch : Ch} {a c : Int} {u y : T} (h : chget (ch ++ [(a, u)]) c = some y) : chget ch c = some y ∨ c = a := by
  unfold chget at h ⊢
  rw [List.find?_append] at h
  cases q : ch.find? (fun e => e.1 = c) with
  | some z => rw [q] at h; left; exact h
  | none =>
    rw [q] at h
    simp only [Option.none_or, List.find?_cons, List.find?_nil] at h
    by_cases z : a = c
    · exact .inr z.symm
    · simp only [z, decide_false, Option.map_none] at h; cases h
section
structure SymA (tx : List Str) (fs : List (Int × Int)) : Prop where
  z1 : tx.length < 900
  z2 : fs.length < 900
  f : (fnF (tx, fs) fS 1).1 = 32
  y1 : (fnF (tx, fs) fS 1).2.1.length < 900
  y2 : (fnF (tx, fs) fS 1).2.2.length < 900
  g : (fnF (fnF (tx, fs) fS 1).2 gS 3).1 = 33
  ok : FsOk (fnF (fnF (tx, fs) fS 1).2 gS 3).2.2
structure SymB (tx : List Str) (fs : List (Int × Int)) : Prop where
  y1 : tx.length < 900
  y2 : fs.length < 900
  g : (fnF (tx, fs) gS 3).1 = 33
  ok : FsOk (fnF (tx, fs) gS 3).2.2
theorem symA : SymA (st2 32).1 (st2 32).2 := ⟨S2_len.1, S2_len.2, f_is, S3_len.1, S3_len.2, g_is, S4_ok⟩
variable {prog : Program} {w : World} {B : Heap}
variable {sy dsy TX AN FU FN : Addr} {tx : List Str} {fs : List (Int × Int)}
theorem symbols2_fn (G : Gr (KK w.params) B) : EFn prog w B 4 [] [] 154 [] (ι := ((Addr × Addr × Addr × Addr) × Addr × Addr) × List Str × List (Int × Int)) (fun i => SymA i.2.1 i.2.2) (fun i => .r i.1.2.1) (fun _ => []) (fun i => symsP i.1.2.1 i.1.2.2 i.1.1.1 i.1.1.2.1 i.1.1.2.2.1 i.1.1.2.2.2 i.2.1 i.2.2) :=
  fun A s vs D E Q r kn hD hv hQ => symbols_fn G A r kn hD hv fun i v s' _ g e x nw hv => hQ (i, (st2 32).1, (st2 32).2) v s' symA g e x nw hv
theorem funcf_fn (G : Gr (KK w.params) B) (hy : SymA tx fs) : EFn prog w B 2 [TX, AN, FU, FN] (smP sy dsy TX AN FU FN false (atP TX AN tx (fnP FU FN fs []))) 109 [.r sy, .d (.str (Str.ofString "f")), .d (.int 1)] (ι := List Str × List (Int × Int)) (fun i => SymB i.1 i.2) (fun _ => .d (.int 32)) (fun i => [(TX, txD i.1), (AN, anD i.1), (FU, fuD i.2), (FN, fnD i.2)]) (fun _ => []) :=
  fun A s vs D E Q r kn hD hv hQ => func_fn G hy.z1 hy.z2 A r kn hD hv fun i v s' _ g e x nw hv => hQ (fnF (tx, fs) fS 1).2 v s' ⟨hy.y1, hy.y2, hy.g, hy.ok⟩ g e x nw (by rw [← hy.f]; exact hv)
theorem funcg_fn (G : Gr (KK w.params) B) (hy : SymB tx fs) : EFn prog w B 2 [TX, AN, FU, FN] (smP sy dsy TX AN FU FN false (atP TX AN tx (fnP FU FN fs []))) 109 [.r sy, .d (.str (Str.ofString "g")), .d (.int 3)] (ι := List Str × List (Int × Int)) (fun i => FsOk i.2) (fun _ => .d (.int 33)) (fun i => [(TX, txD i.1), (AN, anD i.1), (FU, fuD i.2), (FN, fnD i.2)]) (fun _ => []) :=
  fun A s vs D E Q r kn hD hv hQ => func_fn G hy.y1 hy.y2 A r kn hD hv fun i v s' _ g e x nw hv => hQ (fnF (tx, fs) gS 3).2 v s' hy.ok g e x nw (by rw [← hy.g]; exact hv)
variable {C : Cx prog w B [] (scopeS (stm 48)) 30} {R : Flow → Shared → Prop} {c : Addr} {ms : List Int}
noncomputable abbrev lawB (i : Nat) : List Stmt := (bodyS (stm 48)).drop i
local macro_rules | `(tactic| walk_at "spe") => `(tactic| with_reducible first | (exact symbols2_fn (by assumption)) | (refine' pick_fn (by assumption) ?_ ?_ ?_) | (refine' funcf_fn (by assumption) ?_) | (refine' funcg_fn (by assumption) ?_) | fail "spe")
noncomputable abbrev nA (ha fo sy : Addr) (sh : Bool) : NL := [("forms", .r fo), ("shared", .d (.bool sh)), ("names", .r sy), ("hand", .r ha)]
noncomputable abbrev pA (ha c fo sy dsy TX AN FU FN : Addr) (vs : List Value) (ms : List Int) (fs : List (Int × Int)) : PL := [(ha, true, .lst vs), (c, true, .ldat (ms.map PyData.int)), (fo, true, .ldat (forms.map PyData.int)), (sy, true, .is (IsInst 154 dsy)), (dsy, true, .att (symG TX AN FU FN) 4), (FU, true, .ldat (fs.map cdp))]
set_option maxHeartbeats 1600000 in
theorem lawA (G : Gr (KK w.params) B) (hn : ms.length < 1000)
    (kk : ∀ (ha fo sy dsy TX AN FU FN : Addr) (sh : Bool) (vs : List Value) (fs : List (Int × Int)), Hand c ms vs → FsOk fs → Wb C (nA ha fo sy sh) (pA ha c fo sy dsy TX AN FU FN vs ms fs) (lawB 5) R) :
    Wb C [("cells", .r c)] [(c, true, .ldat (ms.map PyData.int))] (lawB 1) R := by
  walk_at "nm"
  refine' Wb.asgF (Ef.lst5 (ι := Int × Unit) (f1 := fun _ => 0) (f2 := fun _ => 0) (f3 := fun i => i.1.fmod 100003 * 7) (f4 := fun _ => 6) (EfL.cons ?e1 (EfL.cons ?e2 (EfL.cons ?e3 (EfL.consF (va := fun i : Int => .d (.int (i.fmod 100003 * 7))) (as := fun _ _ => [.d (.int 6)]) ?e4 (fun _ _ => EfL.cons ?e5 EfL.nil rfl) rfl rfl) rfl) rfl) rfl)) (fun i hi => ?wk) rfl rfl
  case e1 => walk_at "ev"
  case e2 => walk_at "ev"
  case e3 => walk_at "ev"
  case e4 =>
    refine' Ef.mulK (Ef.modK (Ef.sum ?b1 ?b2 rfl ?b3) Ev.int (by decide)) Ev.int (fun i hi => .of_left (intBits_le_64 (by walk_at "o") (by walk_at "o")))
    case b1 => walk_at "blt"
    case b2 => walk_at "ev"
    case b3 => walk_at "mem"
  case e5 => walk_at "ev"
  obtain ⟨⟨z, _⟩, ⟨t1, t2, t3, t4⟩, ha⟩ := i
  obtain ⟨⟨_, z0, z1⟩, _⟩ := hi
  dsimp only at z0 z1 ⊢
  generalize hz : z.fmod 100003 * 7 = y
  have hh : Hand c ms [.ref c, .int 0 t1, .int 0 t2, .int y t3, .int 6 t4] := .mk _ _ _ _ _ _ _ _ (Int.le_refl _) (Int.natCast_nonneg _) (Int.le_refl _) (by walk_at "o") (by walk_at "o")
  clear hz z0 z1
  have l2 : (0 : Int) < 2 ∧ (2 : Int) < 100 := by decide
  walk_at "nm"
  ((with_reducible refine' Wb.asgF ?wcx332 ?wkx332 ?wlx332 ?wex332); (case wlx332 => k_dflt rfl); (case wex332 => k_dflt rfl); (case wcx332 => walk_at "ef"); (case' wkx332 => intro aZ _; walk_at "nm"))
  rename _ × _ => i
  rename SymA _ _ => hA
  obtain ⟨⟨⟨TX, AN, FU, FN⟩, sy, dsy⟩, tx, fs⟩ := i
  dsimp only at hA ⊢
  refine' Wb.asgF (Ef.eqC (iv := fun i : Int × List Value => i.1) (j := 0) ?f1 ?f2 rfl) (fun i hi => ?wk2) rfl rfl
  case f1 => walk_at "efc"
  case f2 => intro i; walk_at "ev"
  obtain ⟨d, vs⟩ := i
  obtain ⟨hH, _, _⟩ := hi
  dsimp only at hH ⊢
  generalize decide (d = 0) = sh
  dsimp only [symsP, List.cons_append, List.nil_append]
  walk_at "nm"
  refine' Wb.asgF (Ef.lstF (ι := (List Str × List (Int × Int)) × (List Str × List (Int × Int)) × Unit) (df := fun _ => [.int 0, .int 32, .int 0, .int 33]) (EfL.cons ?g1 (EfL.consF (H := fun i : List Str × List (Int × Int) => SymB i.1 i.2) (va := fun _ => .d (.int 32)) (as := fun _ _ => [.d (.int 0), .d (.int 33)]) ?g2 (fun i hi => EfL.cons ?g3 (EfL.consF (H := fun i : List Str × List (Int × Int) => FsOk i.2) (va := fun _ => .d (.int 33)) (as := fun _ _ => []) ?g4 (fun _ _ => EfL.nil) rfl rfl) rfl) rfl rfl) rfl) (fun _ => rfl)) (fun i hi => ?wk3) rfl rfl
  case g1 => walk_at "ev"
  case g2 => walk_at "efc"
  case g3 => walk_at "ev"
  case g4 => walk_at "efc"
  obtain ⟨⟨⟨tx1, fs1⟩, ⟨tx2, fs2⟩, _⟩, fo⟩ := i
  dsimp only [List.cons_append, List.nil_append] at hi ⊢
  refine Wb.front 8 (Nat.le_of_ble_eq_true rfl) (Wb.front 8 (Nat.le_of_ble_eq_true rfl) (Wb.less (n := nA ha fo sy sh) (P := pA ha c fo sy dsy TX AN FU FN vs ms fs2) ⟨rfl, rfl, rfl, rfl, trivial⟩ ?_ (kk ha fo sy dsy TX AN FU FN sh vs fs2 hH hi.2.1)))
  exact .cons_cons _ (.cons_cons _ (.cons_cons _ (.cons_cons _ (.cons_cons _ (.cons _ (.cons _ (.cons_cons _ (.cons _ .slnil))))))))
variable {ha fo va : Addr} {sh : Bool} {vs : List Value} {g t : T} {hw : Int} {vm : Ch}
theorem tree3_fn (G : Gr (KK w.params) B) (hn : ms.length < 1000) (hh : Hand c ms vs) : EFn prog w B 5 [ha] (handP ha c true vs ms (foP fo)) 513 [.r ha, .d (.int 3), .r fo] (ι := T × List Value) (fun i => Hand c ms i.2 ∧ i.1.Law ∧ i.1.dep ≤ 3) (fun i => .d i.1.dat) (fun i => [(ha, .lst i.2)]) (fun _ => []) := tree_fn G hn 3 hh
theorem tree1_fn (G : Gr (KK w.params) B) (hn : ms.length < 1000) (hh : Hand c ms vs) : EFn prog w B 3 [ha] (handP ha c true vs ms (foP fo)) 513 [.r ha, .d (.int 1), .r fo] (ι := T × List Value) (fun i => Hand c ms i.2 ∧ i.1.Law ∧ i.1.dep ≤ 1) (fun i => .d i.1.dat) (fun i => [(ha, .lst i.2)]) (fun _ => []) := tree_fn G hn 1 hh
theorem put3_fn (G : Gr (KK w.params) B) (hvm : Vals vm) (law : g.Law) (dep : g.dep ≤ 3) : EFn prog w B 5 [] [(va, false, .ddat (tmDat vm))] 518 [.d g.dat, .r va] (ι := T) (fun t' => t'.Law ∧ t'.dep ≤ 4) (fun t' => .d t'.dat) (fun _ => []) (fun _ => []) := put_fn G hvm 3 law dep
local macro_rules | `(tactic| walk_at "spe") => `(tactic| with_reducible first | (refine' tree3_fn (by assumption) ?_ ?_) | (refine' tree1_fn (by assumption) ?_ ?_) | (refine' put3_fn (by assumption) ?_ ?_ ?_) | fail "spe")
noncomputable abbrev nB (ha fo sy va : Addr) (sh : Bool) (hw : Int) (g : T) : NL := [("values", .r va), ("general", .d g.dat), ("how", .d (.int hw)), ("forms", .r fo), ("shared", .d (.bool sh)), ("names", .r sy), ("hand", .r ha)]
noncomputable abbrev nD (ha fo sy : Addr) (sh : Bool) (hw : Int) (g t : T) : NL := [("special", .d t.dat), ("general", .d g.dat), ("how", .d (.int hw)), ("forms", .r fo), ("shared", .d (.bool sh)), ("names", .r sy), ("hand", .r ha)]
set_option maxHeartbeats 1600000 in
theorem lawB5 (G : Gr (KK w.params) B) (hn : ms.length < 1000) (hH : Hand c ms vs)
    (kk : ∀ (va : Addr) (hw : Int) (vs : List Value) (g : T), Hand c ms vs → g.Law → g.dep ≤ 3 → Wb C (nB ha fo sy va sh hw g) ((va, true, .ddat (tmDat [])) :: pA ha c fo sy dsy TX AN FU FN vs ms fs) (lawB 9) R) :
    Wb C (nA ha fo sy sh) (pA ha c fo sy dsy TX AN FU FN vs ms fs) (lawB 5) R := by
  have l4 : (0 : Int) < 4 ∧ (4 : Int) < 100 := by decide
  walk_at "nm"
  ((with_reducible refine' Wb.asgF ?wcx333 ?wkx333 ?wlx333 ?wex333); (case wlx333 => k_dflt rfl); (case wex333 => k_dflt rfl); (case wcx333 => walk_at "ef"); (case' wkx333 => intro aZ _; walk_at "nm"))
  rename _ × _ => i
  rename Hand c ms i.2 ∧ _ => hi
  obtain ⟨hw, vs1⟩ := i
  obtain ⟨hH1, _, _⟩ := hi
  dsimp only at hH1 ⊢
  ((with_reducible refine' Wb.asgF ?wcx334 ?wkx334 ?wlx334 ?wex334); (case wlx334 => k_dflt rfl); (case wex334 => k_dflt rfl); (case wcx334 => walk_at "ef"); (case' wkx334 => intro aZ _; walk_at "nm"))
  rename T × _ => i
  rename Hand c ms i.2 ∧ _ => hi
  obtain ⟨g, vs2⟩ := i
  obtain ⟨hH2, lg, dg⟩ := hi
  dsimp only at hH2 lg dg ⊢
  cases hH2 with
  | mk i1 i2 i3 i4 t1 t2 t3 t4 h1 h2 h3 h4 h5 =>
  ((with_reducible refine' Wb.asgF ?wcx335 ?wkx335 ?wlx335 ?wex335); (case wlx335 => k_dflt rfl); (case wex335 => k_dflt rfl); (case wcx335 => walk_at "ef"); (case' wkx335 => intro aZ _; walk_at "nm"))
  rename Addr => va
  ((with_reducible refine' Wb.setV ?s1x336 ?s2x336 ?s3x336 ?s4x336 ?s5x336 ?s9x336 ?s6x336 ?s7x336 ?wkx336 ?s8x336); (case s8x336 => k_dflt rfl); (case s1x336 => walk_at "ev"); (case s2x336 => walk_at "ev"); (case s3x336 => walk_at "ev"); (case s4x336 => k_dflt (exact rfl)); (case s5x336 => k_dflt decide); (case s9x336 => k_dflt (walk_at "mem")); (case s6x336 => intro tZ; k_dflt (walk_at "a1")); (case s7x336 => intro tZ; k_dflt (walk_at "put")); (case' wkx336 => intro tZ; walk_at "nm"))
  exact kk va hw _ g (.mk _ _ _ _ _ _ _ _ h1 h2 h3 h4 h5) lg dg
set_option maxHeartbeats 1600000 in
theorem lawB9 (G : Gr (KK w.params) B) (hn : ms.length < 1000) (hR : Rets C (fun a _ => a = .d (.bool true)) R) (hH : Hand c ms vs)
    (kk : ∀ (vs : List Value) (vm : Ch), Hand c ms vs → Vals vm → Wb C (nB ha fo sy va sh hw g) ((va, true, .ddat (tmDat vm)) :: pA ha c fo sy dsy TX AN FU FN vs ms fs) (lawB 10) R) :
    Wb C (nB ha fo sy va sh hw g) ((va, true, .ddat (tmDat [])) :: pA ha c fo sy dsy TX AN FU FN vs ms fs) (lawB 9) R := by
  walk_at "nm"
  refine' Wb.forR (ι := List Value × Ch) (N := fun _ _ => nB ha fo sy va sh hw g) (PP := fun _ j => (va, true, .ddat (tmDat j.2)) :: pA ha c fo sy dsy TX AN FU FN j.1 ms fs)
    (H := fun i j => Hand c ms j.1 ∧ Vals j.2 ∧ (∀ k y, chget j.2 k = some y → k < (i : Int)) ∧ j.2.length ≤ i) (p0 := 0) (q0 := 4) (c0 := 1) (nn := 4) hR (vs, []) ⟨hH, (fun _ _ h => nomatch h), (fun _ _ h => nomatch h), Nat.le_refl _⟩ ?qe rfl rfl ⟨rfl, rfl, rfl, rfl, rfl, rfl, rfl, trivial⟩ (List.Sublist.refl _) (fun R' I i j T2 hR' hT hi hj => ?qb) (fun j hj => kk j.1 j.2 hj.1 hj.2.1) rfl (fun _ => rfl)
  case qe => walk_at "ef"
  case qb =>
    obtain ⟨vs1, vm⟩ := j
    obtain ⟨hH1, hv, hkey, hlen⟩ := hj
    dsimp only at hH1 hv hkey hlen ⊢
    clear kk hH
    have ei : (0 : Int) + (i : Nat) * 1 = ((i : Nat) : Int) := by walk_at "o"
    rw [ei]
    have hz : (tmDat vm).length < 1000 := by unfold tmDat; rw [List.length_map]; walk_at "o"
    have hnew : chget vm ((i : Nat) : Int) = none := by
      cases q : chget vm ((i : Nat) : Int) with
      | none => rfl
      | some y => have := hkey _ _ q; walk_at "o"
    have l2 : (0 : Int) < 2 ∧ (2 : Int) < 100 := by decide
    walk_at "nm"
    refine' Wb.iteC (iv := fun i : Int × List Value => i.1) (j := 0) ?f1 ?f2 rfl (fun q hq _ => ?ft) (fun q hq _ => ?ff)
    case f1 => walk_at "efc"
    case f2 => intro _; walk_at "ev"
    case ff =>
      exact Wb.turn hT (q.2, vm) ⟨hq.1, hv, (fun k y h => by have := hkey k y h; walk_at "o"), Nat.le_succ_of_le hlen⟩ ⟨rfl, rfl, rfl, rfl, rfl, rfl, rfl, trivial⟩ (List.Sublist.refl _)
    obtain ⟨d, vs2⟩ := q
    obtain ⟨hH2, _, _⟩ := hq
    dsimp only [List.cons_append, List.nil_append] at hH2 ⊢
    clear hH1
    walk_at "nm"
    (with_reducible refine' Wb.setDF (dv := fun i : T × List Value => i.1.dat) ?s1 ?s2 ?s3 ?s4 ?s5 (fun y hy => ?wk) ?s6)
    case s6 => rfl
    case s1 => walk_at "efc"
    case s2 => intro _; dsimp only [List.nil_append]; walk_at "ev"
    case s3 => intro _; dsimp only [List.nil_append]; walk_at "ev"
    case s4 => intro _; dsimp only [List.nil_append]; walk_at "put"
    case s5 => exact hz
    rw [tmDat_put hnew]
    refine Wb.turn hT (y.2, vm ++ [(((i : Nat) : Int), y.1)]) ⟨hy.1, fun k z h => ?_, fun k z h => ?_, ?_⟩ ⟨rfl, rfl, rfl, rfl, rfl, rfl, rfl, trivial⟩ (List.Sublist.refl _)
    · rcases chget_add h with q | rfl
      · exact hv k z q
      · exact hy.2
    · rcases chget_key h with q | rfl
      · have := hkey k z q; walk_at "o"
      · walk_at "o"
    · dsimp only; rw [List.length_append]; exact Nat.add_le_add_right hlen 1
set_option maxHeartbeats 1600000 in
theorem lawB10 (G : Gr (KK w.params) B) (hv : Vals vm) (lg : g.Law) (dg : g.dep ≤ 3)
    (kk : ∀ (t : T), t.Law → t.dep ≤ 4 → Wb C (nD ha fo sy sh hw g t) (pA ha c fo sy dsy TX AN FU FN vs ms fs) (lawB 11) R) :
    Wb C (nB ha fo sy va sh hw g) ((va, true, .ddat (tmDat vm)) :: pA ha c fo sy dsy TX AN FU FN vs ms fs) (lawB 10) R := by
  walk_at "nm"
  ((with_reducible refine' Wb.asgF ?wcx337 ?wkx337 ?wlx337 ?wex337); (case wlx337 => k_dflt rfl); (case wex337 => k_dflt rfl); (case wcx337 => walk_at "ef"); (case' wkx337 => intro aZ _; walk_at "nm"))
  rename T => t
  rename t.Law ∧ _ => ht
  exact Wb.less (n := nD ha fo sy sh hw g t) (P := pA ha c fo sy dsy TX AN FU FN vs ms fs) ⟨rfl, rfl, rfl, rfl, rfl, rfl, rfl, trivial⟩ (List.sublist_cons_self _ _) (kk t ht.1 ht.2)
set_option maxHeartbeats 1600000 in
theorem lawB11 (G : Gr (KK w.params) B) (hn : ms.length < 1000) (hH : Hand c ms vs) (lt : t.Law) (dt : t.dep ≤ 4)
    (kk : ∀ (t : T) (vs : List Value), t.Law → t.dep ≤ 5 → Hand c ms vs → Wb C (nD ha fo sy sh hw g t) (pA ha c fo sy dsy TX AN FU FN vs ms fs) (lawB 12) R) :
    Wb C (nD ha fo sy sh hw g t) (pA ha c fo sy dsy TX AN FU FN vs ms fs) (lawB 11) R := by
  walk_at "nm"
  ((with_reducible refine' Wb.ite ?wcx338 ?wtx338 ?wfx338); (case wcx338 => walk_at "evp"); (case' wfx338 => intro hbZ; walk_at "nm"); (case' wtx338 => intro hbZ; walk_at "nm"))
  · refine' Wb.asgF (Ef.callF (EfL.cons ?e1 (EfL.cons ?e2 (EfL.consF (H := fun i : T × List Value => Hand c ms i.2 ∧ i.1.Law ∧ i.1.dep ≤ 1) (va := fun i => .d i.1.dat) (as := fun _ _ => []) ?e3 (fun _ _ => EfL.nil) rfl rfl) rfl) rfl)
      (fun i hi => change_fn G hn hi.1.2.1 hi.1.2.2 4 hi.1.1 lt dt) (fun i => ?e4) (by decide) (fun _ _ => rfl) (fun i j => ?e5) ?e6 ?e7 rfl rfl) (fun i hi => ?wk) rfl rfl
    case e1 => walk_at "ev"
    case e2 => walk_at "ev"
    case e3 => walk_at "efc"
    case e4 => walk_at "sel"
    case e5 => walk_at "puts"
    case e6 => k_is
    case e7 => k_is
    exact Wb.less (n := nD ha fo sy sh hw g i.2.1) (P := pA ha c fo sy dsy TX AN FU FN i.2.2 ms fs) ⟨rfl, rfl, rfl, rfl, rfl, rfl, rfl, trivial⟩ (List.Sublist.refl _) (kk i.2.1 i.2.2 hi.2.2.1 hi.2.2.2 hi.2.1)
  · exact kk t vs lt (Nat.le_succ_of_le dt) hH
set_option maxHeartbeats 1600000 in
theorem lawB12 (G : Gr (KK w.params) B) (hn : ms.length < 1000) (hH : Hand c ms vs) (lt : t.Law) (dt : t.dep ≤ 5)
    (kk : ∀ (t : T) (vs : List Value), t.Law → t.dep ≤ 5 → Wb C (nD ha fo sy sh hw g t) (pA ha c fo sy dsy TX AN FU FN vs ms fs) (lawB 13) R) :
    Wb C (nD ha fo sy sh hw g t) (pA ha c fo sy dsy TX AN FU FN vs ms fs) (lawB 12) R := by
  cases hH with
  | mk i1 i2 i3 i4 t1 t2 t3 t4 h1 h2 h3 h4 h5 =>
  walk_at "nm"
  ((with_reducible refine' Wb.ite ?wcx339 ?wtx339 ?wfx339); (case wcx339 => walk_at "evp"); (case' wfx339 => intro hbZ; walk_at "nm"); (case' wtx339 => intro hbZ; walk_at "nm"))
  · ((with_reducible refine' Wb.setV ?s1x340 ?s2x340 ?s3x340 ?s4x340 ?s5x340 ?s9x340 ?s6x340 ?s7x340 ?wkx340 ?s8x340); (case s8x340 => k_dflt rfl); (case s1x340 => walk_at "ev"); (case s2x340 => walk_at "ev"); (case s3x340 => walk_at "ev"); (case s4x340 => k_dflt (exact rfl)); (case s5x340 => k_dflt decide); (case s9x340 => k_dflt (walk_at "mem")); (case s6x340 => intro tZ; k_dflt (walk_at "a1")); (case s7x340 => intro tZ; k_dflt (walk_at "put")); (case' wkx340 => intro tZ; walk_at "nm"))
    rename Tok => t5
    have hH2 : Hand c ms [.ref c, .int i1 t1, .int i2 t2, .int i3 t3, .int 5 t5] := .mk _ _ _ _ _ _ _ _ h1 h2 h3 h4 h5
    ((with_reducible refine' Wb.asgF ?wcx341 ?wkx341 ?wlx341 ?wex341); (case wlx341 => k_dflt rfl); (case wex341 => k_dflt rfl); (case wcx341 => walk_at "ef"); (case' wkx341 => intro aZ _; walk_at "nm"))
    rename T × _ => i
    rename Hand c ms i.2 ∧ _ => hi
    exact Wb.less (n := nD ha fo sy sh hw g i.1) (P := pA ha c fo sy dsy TX AN FU FN i.2 ms fs) ⟨rfl, rfl, rfl, rfl, rfl, rfl, rfl, trivial⟩ (List.Sublist.refl _) (kk i.1 i.2 hi.2.1 (Nat.le_trans hi.2.2 (by decide)))
  · exact kk t _ lt dt
end
end
section
theorem pow3_pos (n : Nat) : 1 ≤ 3 ^ n := Nat.one_le_pow _ _ (by decide)
mutual
theorem T.size_dep : ∀ {t : T} {n : Nat}, t.Law → t.dep ≤ n → 2 * t.size + 1 ≤ 3 ^ (n + 1)
  | .v _, n, _, _ => by have := pow3_pos n; simp only [T.size, Nat.pow_succ]; walk_at "o"
  | .k _ _, n, _, _ => by have := pow3_pos n; simp only [T.size, Nat.pow_succ]; walk_at "o"
  | .s _ f l, n, h, d => by
    simp only [T.Law] at h
    simp only [T.dep] at d
    have fp := h.1.pos
    obtain ⟨k, rfl⟩ : ∃ k, n = k + 1 := ⟨n - 1, by walk_at "o"⟩
    have q := Ts.size_dep h.2 (show l.dep ≤ k by walk_at "o")
    have p := pow3_pos (k + 1)
    have l3 : l.len = 1 ∨ l.len = 2 ∨ l.len = 3 := by walk_at "o"
    rw [Nat.pow_succ]
    generalize 3 ^ (k + 1) = X at *
    simp only [T.size]
    rcases l3 with e | e | e <;> rw [e] at q <;> walk_at "o"
theorem Ts.size_dep : ∀ {l : Ts} {n : Nat}, l.Law → l.dep ≤ n → 2 * l.size + l.len ≤ l.len * 3 ^ (n + 1)
  | .nil, n, _, _ => by simp [Ts.size, Ts.len]
  | .cons t r, n, h, d => by
    simp only [Ts.Law] at h
    simp only [Ts.dep] at d
    have q1 := T.size_dep h.1 (show t.dep ≤ n by walk_at "o")
    have q2 := Ts.size_dep h.2 (show r.dep ≤ n by walk_at "o")
    simp only [Ts.size, Ts.len, Nat.add_mul]
    walk_at "o"
end
theorem T.size5 {t : T} (h : t.Law) (d : t.dep ≤ 5) : t.size ≤ 364 := by
  have q := T.size_dep h d
  have e : (3 : Nat) ^ (5 + 1) = 729 := rfl
  walk_at "o"
theorem if_fit {b : Bool} {o : Option Ch} {ch : Ch} (h : if b = true then o = some ch else o = none) : b = o.isSome := by
  cases b with
  | false => rw [show o = none from h]; rfl
  | true => rw [show o = some ch from h]; rfl
section
variable {prog : Program} {w : World} {B : Heap} {C : Cx prog w B [] (scopeS (stm 48)) 30} {R : Flow → Shared → Prop} {n : NL} {P : PL} {g t : T} {sh : Bool} {sy dsy TX AN FU FN ha fo : Addr} {fs : List (Int × Int)} {hw : Int} {b1 b2 : Bool}
theorem free5_fn (G : Gr (KK w.params) B) (lt : t.Law) (dt : t.dep ≤ 5) : EFn prog w B 6 [] [] 532 [.d t.dat] (ι := Addr) (fun _ => True) .r (fun _ => []) (fun a => [(a, true, .ldat (t.vars.map PyData.int))]) := free_fn G 5 lt dt (Nat.le_trans (T.size5 lt dt) (by decide))
local macro_rules | `(tactic| walk_at "spe") => `(tactic| with_reducible first | (refine' free5_fn (by assumption) ?_ ?_) | fail "spe")
theorem fx_ef {x : Str} {p1 p2 p3 p4 p5 p6 : Pos} (G : Gr (KK w.params) B) (lt : t.Law) (dt : t.dep ≤ 5) (hs : Ev C n P (.Name "shared" p1) (.d (.bool sh))) (hx : Ev C n P (.Name x p3) (.d t.dat)) :
    Ef C n P (.IfExp (.Name "shared" p1) (.Call (.Name "_law_free" p2) [.Name x p3] [] p4) (.List [] p5) p6) (ι := Addr) (fun _ => True) .r (fun a => (a, true, .ldat ((Fx sh t).map PyData.int)) :: P) := by
  cases sh with
  | true =>
    refine Ef.ife_t (EvP.val hs (test_eq rfl)) rfl ?_
    refine' Ef.call (.cons hx .nil rfl) (free5_fn G lt dt) ?s (by decide) (fun _ => rfl) (fun _ => .nil) ?f ?k rfl rfl
    case s => walk_at "sel"
    case f => k_is
    case k => k_is
  | false =>
    exact Ef.ife_f (EvP.val hs (test_eq rfl)) Bool.false_ne_true (Ef.lst .nil rfl)
noncomputable abbrev pG (sy dsy TX AN FU FN : Addr) (fs : List (Int × Int)) : PL := [(sy, true, .is (IsInst 154 dsy)), (dsy, true, .att (symG TX AN FU FN) 4), (FU, true, .ldat (fs.map cdp))]
noncomputable abbrev fitB (g t : T) (sh : Bool) : Bool := (g.fit (fun k => decide (k ∈ Fx sh t)) t []).isSome
theorem fits5_fn {co fx : Addr} (G : Gr (KK w.params) B) (lg : g.Law) (dg : g.dep ≤ 5) (lt : t.Law) (dt : t.dep ≤ 5) : EFn prog w B 6 [co] [(co, true, .ddat []), (fx, false, .ldat ((Fx sh t).map PyData.int))] 539 [.d g.dat, .d t.dat, .r fx, .r co] (ι := Bool × Ch) (fun i => i.1 = fitB g t sh) (fun i => .d (.bool i.1)) (fun i => [(co, .ddat (tmDat i.2))]) (fun _ => []) :=
  fun A s vs D E Q r kn hD hv hQ => fits_fn (ch := []) (fl := Fx sh t) G 5 lg lt dg (Nat.le_trans dg (by decide)) (Nat.le_trans dt (by decide)) (fun _ _ h => nomatch h) (by have := T.size5 lg dg; simp only [List.length_nil]; walk_at "o") A r kn hD hv fun i v s' h g e x nw hv => hQ i v s' (if_fit h.2.2) g e x nw hv
noncomputable abbrev nG (sy : Addr) (sh b1 b2 : Bool) (g t : T) : NL := [("back", .d (.bool b2)), ("due", .d (.bool b1)), ("special", .d t.dat), ("general", .d g.dat), ("shared", .d (.bool sh)), ("names", .r sy)]
set_option maxHeartbeats 1600000 in
theorem lawB13 (G : Gr (KK w.params) B) (lg : g.Law) (dg : g.dep ≤ 5) (lt : t.Law) (dt : t.dep ≤ 5)
    (kk : Wb C (nG sy sh (fitB g t sh) (fitB t g sh) g t) (pG sy dsy TX AN FU FN fs) (lawB 16) R) :
    Wb C (nD ha fo sy sh hw g t) (pG sy dsy TX AN FU FN fs) (lawB 13) R := by
  walk_at "nm"
  refine' Wb.asgF (fx_ef (t := t) (sh := sh) G lt dt ?d1 ?d2) (fun fx _ => ?wk) rfl rfl
  case d1 => walk_at "ev"
  case d2 => walk_at "ev"
  walk_at "nm"
  refine' Wb.asgF (Ef.callF (EfL.cons ?e1 (EfL.cons ?e2 (EfL.cons ?e3 (EfL.consF (H := fun _ : Addr => True) (va := .r) (as := fun _ _ => []) Ef.dct (fun _ _ => EfL.nil) rfl rfl) rfl) rfl) rfl)
    (mu' := fun i => [i.1]) (fun i _ => fits5_fn (t := t) (sh := sh) G lg dg lt dt) (fun i => ?e4) (by decide) (fun _ _ => rfl) (fun i j => ?e5) ?e6 ?e7 rfl rfl) (fun i hi => ?wk2) rfl rfl
  case e1 => walk_at "ev"
  case e2 => walk_at "ev"
  case e3 => walk_at "ev"
  case e4 => walk_at "sel"
  case e5 => walk_at "puts"
  case e6 => k_is
  case e7 => k_is
  rw [hi.2]
  refine Wb.less (n := [("due", .d (.bool (fitB g t sh))), ("special", .d t.dat), ("general", .d g.dat), ("shared", .d (.bool sh)), ("names", .r sy)]) (P := pG sy dsy TX AN FU FN fs) ⟨rfl, rfl, rfl, rfl, rfl, trivial⟩ (.cons _ (.cons _ (List.Sublist.refl _))) ?_
  clear hi i fx
  walk_at "nm"
  refine' Wb.asgF (Ef.callF (EfL.cons ?h1 (EfL.cons ?h2 (EfL.consF (fx_ef (t := g) (sh := sh) G lg dg ?h3 ?h8) (fun fx _ => EfL.consF (H := fun _ : Addr => True) (va := .r) (as := fun _ _ => []) Ef.dct (fun _ _ => EfL.nil) rfl rfl) rfl rfl) rfl) rfl)
    (mu' := fun i => [i.2.1]) (fun i _ => fits5_fn (t := g) (sh := sh) G lt dt lg dg) (fun i => ?h4) (by decide) (fun _ _ => rfl) (fun i j => ?h5) ?h6 ?h7 rfl rfl) (fun i hi => ?wk3) rfl rfl
  case h1 => walk_at "ev"
  case h2 => walk_at "ev"
  case h3 => walk_at "ev"
  case h8 => walk_at "ev"
  case h4 => walk_at "sel"
  case h5 => walk_at "puts"
  case h6 => k_is
  case h7 => k_is
  rw [hi.2]
  exact Wb.less (n := nG sy sh (fitB g t sh) (fitB t g sh) g t) (P := pG sy dsy TX AN FU FN fs) ⟨rfl, rfl, rfl, rfl, rfl, rfl, trivial⟩ (.cons _ (.cons _ (List.Sublist.refl _))) kk
variable {x dx H TR ST tl : Addr} {mh hb bb : Tok} {cs cs2 : List (Int × Int)} {tb : Mp} {g' t' : T}
local macro_rules | `(tactic| walk_at "spe") => `(tactic| with_reducible first | (exact store_fn (by assumption)) | (refine' put_term_fn (by assumption) ?_ ?_ ?_ ?_ ?_ ?_) | fail "spe")
noncomputable abbrev pH (x dx H TR sy ST : Addr) (mh hb bb : Tok) (cs : List (Int × Int)) (dsy TX AN FU FN : Addr) (fs : List (Int × Int)) : PL :=
  (x, true, .is (IsInst 373 dx)) :: (dx, true, .att (storeG sy H ST TR mh hb bb) 7) :: (H, true, .ldat (cs.map cdp)) :: (TR, true, .ldat []) :: pG sy dsy TX AN FU FN fs
noncomputable abbrev nI (x : Addr) (sh b1 b2 : Bool) (c1 c2 : Int × Int) : NL := [("two", .d (cdp c2)), ("one", .d (cdp c1)), ("heaped", .r x), ("back", .d (.bool b2)), ("due", .d (.bool b1)), ("shared", .d (.bool sh))]
set_option maxHeartbeats 1600000 in
theorem lawB16 (G : Gr (KK w.params) B) (fk : FsOk fs) (lg : g.Law) (dg : g.dep ≤ 5) (lt : t.Law) (dt : t.dep ≤ 5)
    (kk : ∀ (x dx H TR ST : Addr) (mh hb bb : Tok) (cs : List (Int × Int)) (g' t' : T), Two g t sh cs g' t' → Wb C (nI x sh b1 b2 g'.cell t'.cell) (pH x dx H TR sy ST mh hb bb cs dsy TX AN FU FN fs) (lawB 20) R) :
    Wb C (nG sy sh b1 b2 g t) (pG sy dsy TX AN FU FN fs) (lawB 16) R := by
  have gz := T.size5 lg dg
  have tz := T.size5 lt dt
  walk_at "nm"
  ((with_reducible refine' Wb.asgF ?wcx342 ?wkx342 ?wlx342 ?wex342); (case wlx342 => k_dflt rfl); (case wex342 => k_dflt rfl); (case wcx342 => walk_at "ef"); (case' wkx342 => intro aZ _; walk_at "nm"))
  rename _ × Addr × Addr => i
  obtain ⟨⟨⟨mh, hb, bb⟩, H, TR, ST⟩, x, dx⟩ := i
  dsimp only [newP, List.cons_append, List.nil_append]
  ((with_reducible refine' Wb.asgF ?wcx343 ?wkx343 ?wlx343 ?wex343); (case wlx343 => k_dflt rfl); (case wex343 => k_dflt rfl); (case wcx343 => walk_at "ef"); (case' wkx343 => intro aZ _; walk_at "nm"))
  rename Addr => tl
  have pd := Pd.none
  have z1 : g.size ≤ 400 := by walk_at "o"
  have z2 : t.size ≤ 400 := by walk_at "o"
  refine Wb.front 2 (Nat.le_of_ble_eq_true rfl) (Wb.front 4 (Nat.le_of_ble_eq_true rfl) (Wb.front 4 (Nat.le_of_ble_eq_true rfl) (Wb.front 3 (Nat.le_of_ble_eq_true rfl) (Wb.less (n := [("table", .r tl), ("heaped", .r x), ("back", .d (.bool b2)), ("due", .d (.bool b1)), ("special", .d t.dat), ("general", .d g.dat), ("shared", .d (.bool sh))]) (P := (tl, true, .ddat (tbDat [])) :: pH x dx H TR sy ST mh hb bb [] dsy TX AN FU FN fs) ⟨rfl, rfl, rfl, rfl, rfl, rfl, rfl, trivial⟩ (List.Sublist.refl _) ?_))))
  walk_at "nm"
  refine' Wb.asgF (Ef.methF ?e1 (EfL.cons ?e2 (EfL.cons ?e3 EfL.nil rfl) rfl) (fun _ _ => put_term_fn (x := x) (dx := dx) (H := H) (sy := sy) (ST := ST) (TR := TR) (mh := mh) (hb := hb) (bb := bb) (dsy := dsy) (TX := TX) (AN := AN) (FU := FU) (FN := FN) (fs := fs) (cs := []) (tb := []) G lg fk pd z1 (Nat.zero_le _) (Nat.zero_le _)) (fun _ => ?s1) (by decide) (fun _ _ => rfl) (fun _ _ => ?s2) ?s3 ?s4 ?s9 ?s5 ?s6 ?s7 ?s8 rfl) (fun i hi => ?wk) rfl rfl
  case e1 => walk_at "ev"
  case e2 => walk_at "ev"
  case e3 => walk_at "ev"
  case s1 => walk_at "sel"
  case s2 => walk_at "puts"
  case s3 => walk_at "mem"
  case s4 => walk_at "mem"
  case s9 => rfl
  case s5 => k_is
  case s6 => k_is
  case s7 => k_is
  case s8 => k_is
  obtain ⟨_, cs, tb, g'⟩ := i
  obtain ⟨_, b1'⟩ := hi
  have z3 := b1'.len
  have z4 := b1'.tl
  simp only [List.length_nil] at z3 z4
  have z5 : tb.length ≤ 400 := by walk_at "o"
  have z6 : cs.length ≤ 4000 := by walk_at "o"
  dsimp only [List.cons_append, List.nil_append] at b1' ⊢
  walk_at "nm"
  cases sh with
  | true =>
    refine' Wb.asgF (Ef.methF ?f1 (EfL.cons ?f2 (EfL.consF (H := fun _ : Unit => True) (va := fun _ => .r tl) (as := fun _ _ => []) (Ef.ife_t (EvP.val ?f3 (test_eq rfl)) rfl (Ef.one ?f4)) (fun _ _ => EfL.nil) rfl rfl) rfl) (fun _ _ => put_term_fn (x := x) (dx := dx) (H := H) (sy := sy) (ST := ST) (TR := TR) (mh := mh) (hb := hb) (bb := bb) (dsy := dsy) (TX := TX) (AN := AN) (FU := FU) (FN := FN) (fs := fs) (cs := cs) (tb := tb) G lt fk b1'.pd z2 z5 z6) (fun _ => ?t1) (by decide) (fun _ _ => rfl) (fun _ _ => ?t2) ?t3 ?t4 ?t9 ?t5 ?t6 ?t7 ?t8 rfl) (fun i hi => ?wk2) rfl rfl
    case f1 => walk_at "ev"
    case f2 => walk_at "ev"
    case f3 => walk_at "ev"
    case f4 => walk_at "ev"
    case t1 => walk_at "sel"
    case t2 => walk_at "puts"
    case t3 => walk_at "mem"
    case t4 => walk_at "mem"
    case t9 => rfl
    case t5 => k_is
    case t6 => k_is
    case t7 => k_is
    case t8 => k_is
    obtain ⟨_, cs2, tb2, t'⟩ := i
    exact Wb.less (n := nI x true b1 b2 g'.cell t'.cell) (P := pH x dx H TR sy ST mh hb bb cs2 dsy TX AN FU FN fs) ⟨rfl, rfl, rfl, rfl, rfl, rfl, trivial⟩ (.cons _ (List.Sublist.refl _)) (kk x dx H TR ST mh hb bb cs2 g' t' (two_shared b1' hi.2 z1 z2))
  | false =>
    refine' Wb.asgF (Ef.methF ?g1 (EfL.cons ?g2 (EfL.consF (H := fun _ : Addr => True) (va := .r) (as := fun _ _ => []) (Ef.ife_f (EvP.val ?g3 (test_eq rfl)) Bool.false_ne_true Ef.dct) (fun _ _ => EfL.nil) rfl rfl) rfl) (mu' := fun i => [H, i.1]) (fun i _ => put_term_fn (x := x) (dx := dx) (H := H) (sy := sy) (ST := ST) (TR := TR) (mh := mh) (hb := hb) (bb := bb) (dsy := dsy) (TX := TX) (AN := AN) (FU := FU) (FN := FN) (fs := fs) (tl := i.1) (cs := cs) (tb := []) G lt fk b1'.pd.forget z2 (Nat.zero_le _) z6) (fun _ => ?u1) (by decide) (fun _ _ => rfl) (fun _ _ => ?u2) ?u3 ?u4 ?u9 ?u5 ?u6 ?u7 ?u8 rfl) (fun i hi => ?wk3) rfl rfl
    case g1 => walk_at "ev"
    case g2 => walk_at "ev"
    case g3 => walk_at "ev"
    case u1 => walk_at "sel"
    case u2 => walk_at "puts"
    case u3 => walk_at "mem"
    case u4 => walk_at "mem"
    case u9 => rfl
    case u5 => k_is
    case u6 => k_is
    case u7 => k_is
    case u8 => k_is
    obtain ⟨_, cs2, tb2, t'⟩ := i
    exact Wb.less (n := nI x false b1 b2 g'.cell t'.cell) (P := pH x dx H TR sy ST mh hb bb cs2 dsy TX AN FU FN fs) ⟨rfl, rfl, rfl, rfl, rfl, rfl, trivial⟩ (.cons _ (.cons _ (List.Sublist.refl _))) (kk x dx H TR ST mh hb bb cs2 g' t' (two_apart b1' hi.2 z1 z2))
end
end
section
section
variable {prog : Program} {w : World} {B : Heap} {C : Cx prog w B [] (scopeS (stm 48)) 30} {R : Flow → Shared → Prop} {g t g' t' : T} {sh : Bool} {x dx H TR ST sy dsy TX AN FU FN : Addr} {fs cs : List (Int × Int)} {mh hb bb : Tok}
local macro_rules | `(tactic| walk_at "spc") => `(tactic| with_reducible first | (refine' subsumes_fn (by assumption) ?_ ?_ ?_ ?_ ?_ ?_ ?_) | (refine' variant_fn (by assumption) ?_ ?_ ?_ ?_ ?_ ?_) | fail "spc")
set_option maxHeartbeats 3200000 in
theorem lawB20 (G : Gr (KK w.params) B) (fk : FsOk fs) (hR : Rets C (fun a _ => a = .d (.bool true)) R) (tw : Two g t sh cs g' t') :
    Wb C (nI x sh (fitB g t sh) (fitB t g sh) g'.cell t'.cell) (pH x dx H TR sy ST mh hb bb cs dsy TX AN FU FN fs) (lawB 20) R := by
  obtain ⟨wf, len, gin, tin, fg, ft, hdue, hback, hren, hself⟩ := tw
  obtain ⟨⟨lt, la⟩, ce⟩ : ∃ c, g'.cell = c := ⟨_, rfl⟩
  obtain ⟨⟨lt2, la2⟩, ce2⟩ : ∃ c, t'.cell = c := ⟨_, rfl⟩
  rw [ce, ce2]
  have hereg := T.here gin ce
  have heret := T.here tin ce2
  have hcs : (cs.map cdp).length < 2 ^ 20 := by rw [List.length_map]; walk_at "o"
  have d1 := shaped_cells cs
  have q1 : PyData.eqv (.list (cs.map cdp)) (.list (cs.map cdp)) = true := by simp only [PyData.eqv]; exact eqv_cells cs
  walk_at "nm"
  ((with_reducible refine' Wb.asgF ?wcx344 ?wkx344 ?wlx344 ?wex344); (case wlx344 => k_dflt rfl); (case wex344 => k_dflt rfl); (case wcx344 => walk_at "ef"); (case' wkx344 => intro aZ _; walk_at "nm"))
  rename Addr => bf
  have n1 : ¬ ((g'.fit (fun k => decide (k ∈ t'.vars)) t' []).isSome ≠ fitB g t sh ∨ (t'.fit (fun k => decide (k ∈ g'.vars)) g' []).isSome ≠ fitB t g sh) := fun h => h.elim (fun h => h hdue) fun h => h hback
  ((with_reducible refine' Wb.ite_f ?wcx345 ?wpx345 ?wfx345); (case wcx345 => walk_at "evp"); (case wpx345 => first | assumption | decide); (case' wfx345 => walk_at "nm"))
  have n2 : ¬ ((¬ (sh = true)) ∧ (g'.ren t' ([], [])).isSome ≠ (fitB g t sh && fitB t g sh)) := fun h => h.2 (hren (Bool.eq_false_iff.mpr h.1))
  ((with_reducible refine' Wb.ite_f ?wcx346 ?wpx346 ?wfx346); (case wcx346 => walk_at "evp"); (case wpx346 => first | assumption | decide); (case' wfx346 => walk_at "nm"))
  refine' Wb.retF hR (Ef.and3 (Ev.cmp ?e1 ?e2 (Cm.eqL ?e3 ?e4 d1 d1 q1) rfl ⟨fun _ => trivial, fun _ => rfl⟩) (Ef.cmpF ?f1 (Ef.lst .nil rfl) (fun i _ => Cm.eqL ?f3 (.head _) shaped_nil shaped_nil rfl) rfl) (fun i => ?e5)) (fun i _ => ?e6)
  case e1 => walk_at "ev"
  case e2 => walk_at "ev"
  case e3 => walk_at "mem"
  case e4 => walk_at "mem"
  case f1 => walk_at "ev"
  case f3 => walk_at "mem"
  case e5 => walk_at "ev"
  rw [hself]
end
end
section
section
variable {prog : Program} {w : World} {A : Around} {E : Value → Shared → Prop} {s : Shared}
theorem slice_first {s₀ : Shared} {B : Heap} {mu : List Addr} {L a : Addr} {m : Str → Option Value} {P : PL} {D : DL} {Q : Value → Shared → Prop} {lo hi : Option Int} {vl vu : Value} {ns : List Int} {vs : List Value}
    (S : SS prog w B s₀ mu L m P D s) (hl : s.heap.IsList a vs.toArray) (hn : IntsAre vs ns) (hz : ns.length < 1000) (pl : IsPart vl lo) (pu : IsPart vu hi)
    (h : ∀ (c : Addr) (ms : List Int) s', SS prog w B s₀ mu L m ((c, true, .ldat (ms.map PyData.int)) :: P) D s' → ms.length ≤ ns.length → Q (.ref c) s') :
    wpAny (model prog w) A (getItem (.ref a) (.ref s.heap.objs.size)) Q E { s with heap := s.heap.push { cls := .type "slice", data := .fields #[vl, vu, .none] } } := by
  obtain ⟨ms, h1, h2⟩ := ints_pick hn (slicePick vs.toArray lo hi none).toList (fun v hv => slice_of v hv)
  have hl' := hn.length
  have h3 := slicePick_size_le vs.toArray lo hi none
  have h4 : vs.toArray.size = vs.length := List.size_toArray ..
  have h5 : (slicePick vs.toArray lo hi none).toList.length = (slicePick vs.toArray lo hi none).size := Array.length_toList ..
  have T := S.st.alloc ({ cls := .type "slice", data := .fields #[vl, vu, .none] } : Obj)
  have sz : (2 ^ 21 : Nat) ≤ sizeLine := by decide
  refine wpAny_getItem_list_slice (hl.push _) (Heap.IsSliceOf.new ..) pl pu .none (by simp) ?_ (by rw [List.size_toArray]; walk_at "o")
  refine h _ ms _ (S.to (T.made ⟨_, 0, ?_, ints_rd h1⟩)) (by rw [h2]; walk_at "o")
  show Heap.get? _ _ = _
  rw [Heap.get?_push_size _ rfl]
noncomputable def EndOk (sB : Shared) (fl : Flow) (s' : Shared) : Prop := fl = .ret (.bool true) ∧ (∃ L m, Fr sB.heap L s'.heap m) ∧ Eqv sB s'
variable {B : Heap} {C : Cx prog w B [] (scopeS (stm 48)) 30} {R : Flow → Shared → Prop}
theorem law_body {c : Addr} {ms : List Int} (G : Gr (KK w.params) B) (hn : ms.length < 1000) (hR : Rets C (fun a _ => a = .d (.bool true)) R) : Wb C [("cells", .r c)] [(c, true, .ldat (ms.map PyData.int))] (lawB 1) R :=
  lawA G hn fun ha fo sy dsy TX AN FU FN sh vs fs hH fk => lawB5 G hn hH fun va hw vs g hH lg dg => lawB9 G hn hR hH fun vs vm hH hv => lawB10 G hv lg dg fun t lt dt => lawB11 G hn hH lt dt fun t vs lt dt hH => lawB12 G hn hH lt dt fun t vs lt dt =>
    Wb.less (n := nD ha fo sy sh hw g t) (P := pG sy dsy TX AN FU FN fs) ⟨rfl, rfl, rfl, rfl, rfl, rfl, rfl, trivial⟩ (.cons _ (.cons _ (.cons _ (List.Sublist.refl _))))
      (lawB13 G lg (Nat.le_trans dg (by decide)) lt dt (lawB16 G fk lg (Nat.le_trans dg (by decide)) lt dt fun x dx H TR ST mh hb bb cs g' t' tw => lawB20 G fk hR tw))
theorem law_ends {sB : Shared} {C : Cx prog w sB.heap [] (scopeS (stm 48)) 30} (hC : C.s₀ = sB) : Rets C (fun a _ => a = .d (.bool true)) (EndOk sB) := fun n P a v D s e S h => by
  subst e
  obtain ⟨m, S', N⟩ := S
  exact ⟨by rw [(S'.datum h).bool], ⟨_, _, S'.fr⟩, hC ▸ S'.same⟩
theorem law_all {sB : Shared} {env : Env} {m : Str → Option Value} {arg : Addr} {vs : List Value} {ns : List Int} (G : Gr (KK w.params) sB.heap) (r : Room 30 A) (hE : EnvAt env env.locals) (hs : env.scope = scopeS (stm 48)) (hm : m "script" = some (.ref arg))
    (hL : sB.heap.IsList arg vs.toArray) (hI : IntsAre vs ns) (hn : ns.length ≤ 63) (S : SS prog w sB.heap sB [] env.locals m [] [] s) : wpAny (model prog w) A (execs (bodyS (stm 48)) env) (EndOk sB) (fun _ _ => False) s := by
  have kl : ∀ {x : Str} {y : NameKind}, (scopeS (stm 48)).names.lookup x = some y → env.kindOf x = some y := fun h => by unfold Env.kindOf; rw [hs]; exact h
  refine wpAny_execs_cons (wpAny_Assign_Name (wpAny_Subscript_Slice slot_list_getitem.lookup (wpAny_Name (ldS S hm (wpAny_Slice ?_) hE (kl rfl)) rfl)) rfl)
  refine wpAny_of_eq (evalPart_none env) ?_
  rw [evalPart_some]
  refine const_int S fun t s1 S1 => ?_
  refine wpAny_of_eq (evalPart_none env) ?_
  have hL1 := Heap.IsList.at hL fun o e => S1.st.go.keep _ o e fun q => nomatch q
  refine ⟨Heap.IsList.typeIs (s := Shared.mk _ _ _ _ _) (Heap.IsList.push hL1 _), slice_first S1 hL1 hI (by walk_at "o") .none (.int _ _) fun c ms s2 S2 hms => stS S2 (fun s3 S3 => ?_) hE (kl rfl)⟩
  exact law_body (C := ⟨sB, env, A, [], G, r, hE, hs⟩) (c := c) (ms := ms) G (by walk_at "o") (law_ends rfl) [] ⟨_, S3, ⟨fun _ h => h, fun x a e => by
    rw [List.lookup_cons] at e
    by_cases q : x = "cells"
    · subst q; rw [beq_self_eq_true] at e; cases e; exact ⟨_, if_pos rfl, rfl⟩
    · rw [beq_eq_false_iff_ne.mpr q] at e; cases e⟩⟩
end
end
section
theorem to_SS {prog : Program} {w : World} {A : Around} {E : Value → Shared → Prop} {s₁ : Shared} {h₁ : Heap} {tk : Nat} {m : Str → Option Value} {env : Env} {body : List Stmt} {c : ClaimW} {cl : Str → Option Addr} {mean : ExcName → Option Value} {args : List WData}
    (F : Fr s₁.heap s₁.heap.objs.size h₁ m) (hg : s₁.gens = #[]) (hn : ∀ cls, c.raises args cls = false) (hp : c.post args (.bool true) args = true)
    (h : SS prog w s₁.heap s₁ [] s₁.heap.objs.size m [] [] ⟨h₁, s₁.gens, s₁.drawn, tk, s₁.os⟩ → wpAny (model prog w) A (execs body env) (EndOk s₁) (fun _ _ => False) ⟨h₁, s₁.gens, s₁.drawn, tk, s₁.os⟩) :
    wpAny (model prog w) A (execs body env) (fun fl s' => GoodW c cl mean args s₁ (.ok (.ret (match fl with | .ret v => v | _ => .none))) s') E ⟨h₁, s₁.gens, s₁.drawn, tk, s₁.os⟩ := by
  refine wpAny_mono (h ⟨⟨F, ⟨fun b o e _ => F.keep b o e⟩, no_size _, (fun p hp => nomatch hp), by simp, (fun p hp => nomatch hp), (fun p hp => nomatch hp)⟩, Eqv.mk'⟩) ?_ (fun _ _ x => x.elim)
  rintro fl s' ⟨rfl, ⟨L, m, F'⟩, e⟩
  exact goodW_bool F' (e.gens.trans hg) hn hp e.os
theorem said0 : looksOpen PySem.Challenge.rw_no0183_01.prog = true := by
  iterate 5 (refine look_both ?_ ?_)
  all_goals decide +kernel
theorem said1 : PySem.Challenge.rw_no0183_01.row.partSaid = true := by
  iterate 13 (refine look_both ?_ ?_)
  · exact said0
  all_goals decide +kernel
theorem said2 : PySem.Challenge.rw_no0183_01.row.wellSaid = true := by
  iterate 2 (refine look_both ?_ ?_)
  · exact said1
  all_goals decide +kernel
theorem rw_said : PySem.Challenge.rw_no0183_01.wellSaid = true := by
  iterate 18 (refine look_both ?_ ?_)
  · exact said2
  all_goals decide +kernel
local macro_rules | `(tactic| w_nolog (first | $_ | $_)) => `(tactic| skip)
set_option maxHeartbeats 8000000 in
theorem final : PySem.Challenge.rw_no0183_01.Holds := by
  w_on
  refine holds_law rw_said fun said => ?_
  refine holds_open (q := theQ) (loose := looseK) (Xt := XtK) (XP := XL theQ []) (Yf := Hook.obs theH) (Ya := Hook.val theH) (YP := Hook.says theH) (N := 7064) hl (Hook.of theH) (Hook.keeps theH) (fun s e => xl_of s (Bool.and_eq_true_iff.mp e).1) XL.keeps (by rfl) (by rfl) (by rfl) (fun s e => recFacts_of (Bool.and_eq_true_iff.mp e).2) (by rfl) said (by decide +kernel) ⟨rfl, rfl, rfl, rfl, rfl, by decide +kernel⟩ ?hw ?hc
  (case hw => w_witness2)
  k_go0
  rename Frag.In _ _ => KX
  rename Fr _ _ _ _ => F
  rename Top _ _ _ _ _ _ => TT
  rename Heap.IsList _ _ _ => hL
  rename IntsAre _ _ => hI
  rename (¬ ((63 : Nat) : Int) < _) => hc
  rename List Int => ns
  have hns : ns.length ≤ 63 := by walk_at "o"
  dsimp only
  refine to_SS F (by assumption) (fun _ => rfl) (by wrow_post) fun S => ?_
  exact law_all (m := _) ⟨KX, TT.nolimit, ⟨_, TT.g⟩, ⟨_, TT.b, TT.builtins⟩⟩ (Room.deeper (n := 30) ⟨rfl, by decide, by decide⟩ _) ⟨rfl, rfl, rfl, rfl⟩ rfl rfl hL hI hns S
end
end Mine
theorem PySem.Challenge.cw_no0183_01_holds : PySem.Challenge.rw_no0183_01.Holds := by
  exact Mine.final
