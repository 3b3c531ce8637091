import PyProof.Rows.All
import Wide.All
import OpenK.AllK
import Wide.FinOn
import PySem.Challenge.RW_og0013_01
set_option Elab.async false
set_option maxRecDepth 100000
set_option linter.unusedVariables false
section
open PySem PySem.W PyProof.Rows PySem.Calls
set_option maxHeartbeats 8000000
set_option linter.unusedVariables false
namespace Mine
noncomputable abbrev pp : Program := PySem.Challenge.rw_og0013_01.row.toRowW.prog
noncomputable def noPos : Pos := ⟨0, 0, 0, 0⟩
noncomputable def pgA (i : Nat) : Stmt := (pp.main.body[i]?).getD (.Pass noPos)
noncomputable def pgI (i j : Nat) : Stmt := match pgA i with
  | .ClassDef _ _ _ b _ _ _ _ _ _ _ => (b[j]?).getD (.Pass noPos)
  | _ => .Pass noPos
noncomputable def fnA : Stmt → Arguments
  | .FunctionDef _ a _ _ _ _ _ _ _ _ => a
  | _ => ⟨[], [], none, [], [], none, []⟩
noncomputable def fnB9 : Stmt → List Stmt
  | .FunctionDef _ _ b _ _ _ _ _ _ _ => b
  | _ => []
noncomputable def fnS : Stmt → Scope
  | .FunctionDef _ _ _ _ _ _ s _ _ _ => s
  | _ => ⟨.function, [], false, false, []⟩
noncomputable abbrev vs9 (s : String) (n : Nat) : Value := .str (.ofString s) n
noncomputable abbrev de9 (P : Params) (s : String) (n : Nat) (v : Value) : DictEntry := ⟨PyData.keyHash P (.ofString s), .str (.ofString s) n, v⟩
noncomputable abbrev fo9 (a b : String) (s : Stmt) : Obj := ⟨.none, none, .func ⟨.ofString a, .ofString b, fnA s, .stmts (fnB9 s), fnS s, 0, [], .none, .none, .none, .none, none, .none, .none, 0⟩, #[]⟩
noncomputable def a11 (P : Params) : Obj := (Obj.mk (.type "tuple") none (Data.seq #[] 0) #[])
noncomputable def a12 (P : Params) : Obj := (Obj.mk .none none (Data.fields #[]) #[])
noncomputable def a13 (P : Params) : Obj := (Obj.mk (.type "code") none (Data.fields #[(vs9 "<module>" 182), (vs9 "<module>" 183), (vs9 "/claim/cut.py" 184), (.int 1 0), (.int 0 0), (.int 0 0), (.int 0 0), (.int 0 0), (.ref 11), (.bool false), (.int 181 0), (.ref 12), .none, .none, .none, .none, (.int 185 0), (.int 1 0), (vs9 "/claim/cut.py" 186)]) #[])
noncomputable def a14 (P : Params) : Obj := (Obj.mk (.type "frame") none Data.plain #[(some (.ref 13)), (some (.ref 3)), (some (.ref 3)), none, (some (vs9 "__main__" 164)), none, (some (.ref 0))])
noncomputable def o3 (P : Params) : Obj := (Obj.mk (.type "dict") none (Data.dict #[(de9 P "__name__" 165 (vs9 "law_og0013_01" 805)), (de9 P "__doc__" 166 .none), (de9 P "__package__" 167 .none), (de9 P "__loader__" 168 (.builtin "__main__.__loader__#opaque")), (de9 P "__spec__" 169 .none), (de9 P "__annotations__" 170 (.ref 6)), (de9 P "__builtins__" 171 (.ref 4)), (de9 P "__file__" 173 (vs9 "/claim/cut.py" 172)), (de9 P "__cached__" 174 .none), (de9 P "Var" 240 (.ref 52)), (de9 P "Lit" 294 (.ref 94)), (de9 P "App" 347 (.ref 134)), (de9 P "Lam" 401 (.ref 176)), (de9 P "Let" 452 (.ref 212)), (de9 P "Alt" 485 (.ref 233)), (de9 P "Case" 546 (.ref 273)), (de9 P "Con" 599 (.ref 313)), (de9 P "Prim" 652 (.ref 353)), (de9 P "scoped" 666 (.ref 364)), (de9 P "free_names" 680 (.ref 371)), (de9 P "Uses" 719 (.ref 395)), (de9 P "uses_of" 734 (.ref 406)), (de9 P "used_names" 746 (.ref 413)), (de9 P "reached" 754 (.ref 418)), (de9 P "without_dead" 760 (.ref 423)), (de9 P "mapped" 779 (.ref 430)), (de9 P "nodes_of" 791 (.ref 437)), (de9 P "size_of" 804 (.ref 444)), (de9 P "_law_pool" 817 (.ref 451)), (de9 P "_law_take" 826 (.ref 458)), (de9 P "_law_one" 834 (.ref 465)), (de9 P "_law_tree" 840 (.ref 470)), (de9 P "_law_inner" 846 (.ref 475)), (de9 P "_law_all" 856 (.ref 482)), (de9 P "_law_head" 862 (.ref 487)), (de9 P "_law_expression_right" 868 (.ref 492)), (de9 P "_law_small" 874 (.ref 497)), (de9 P "_law_led" 880 (.ref 502)), (de9 P "_law_binds_right" 886 (.ref 507)), (de9 P "law" 894 (.ref 514))] 40) #[])
noncomputable def o12 (P : Params) : Obj := (Obj.mk .none none (Data.fields #[(.int 2 0), (.int 0 0), (.ref 20), (.int 15 0), (.int 0 0), (.ref 62), (.int 29 0), (.int 0 0), (.ref 104), (.int 43 0), (.int 0 0), (.ref 144), (.int 57 0), (.int 0 0), (.ref 186), (.int 74 0), (.int 0 0), (.ref 222), (.int 80 0), (.int 0 0), (.ref 243), (.int 102 0), (.int 0 0), (.ref 283), (.int 116 0), (.int 0 0), (.ref 323), (.int 131 0), (.int 0 0), (.ref 363), (.int 139 0), (.int 0 0), (.ref 370), (.int 152 0), (.int 0 0), (.ref 377), (.int 161 0), (.int 0 0), (.ref 405), (.int 171 0), (.int 0 0), (.ref 412), (.int 181 0), (.int 0 0), (.ref 417), (.int 191 0), (.int 0 0), (.ref 422), (.int 201 0), (.int 0 0), (.ref 429), (.int 218 0), (.int 0 0), (.ref 436), (.int 226 0), (.int 0 0), (.ref 443), (.int 235 0), (.int 0 0), (.ref 450), (.int 242 0), (.int 0 0), (.ref 457), (.int 249 0), (.int 0 0), (.ref 464), (.int 251 0), (.int 0 0), (.ref 469), (.int 273 0), (.int 0 0), (.ref 474), (.int 283 0), (.int 0 0), (.ref 481), (.int 288 0), (.int 0 0), (.ref 486), (.int 302 0), (.int 0 0), (.ref 491), (.int 326 0), (.int 0 0), (.ref 496), (.int 329 0), (.int 0 0), (.ref 501), (.int 339 0), (.int 0 0), (.ref 506), (.int 357 0), (.int 0 0), (.ref 513)]) #[])
noncomputable def o15 (P : Params) : Obj := (Obj.mk (.type "tuple") none (Data.seq #[] 0) #[])
noncomputable def o16 (P : Params) : Obj := (Obj.mk (.type "builtin_function_or_method") none (Data.fields #[(.builtin "type.__prepare__"), (.type "type")]) #[])
noncomputable def o17 (P : Params) : Obj := (Obj.mk (.type "dict") none (Data.dict #[(de9 P "__module__" 196 (vs9 "lazycore.core" 187)), (de9 P "__qualname__" 198 (vs9 "Var" 197)), (de9 P "__firstlineno__" 200 (.int 2 199)), (de9 P "__init__" 208 (.ref 28)), (de9 P "groups" 215 (.ref 35)), (de9 P "parts" 222 (.ref 42)), (de9 P "rebuilt" 231 (.ref 49)), (de9 P "__static_attributes__" 233 (.ref 50))] 8) #[])
noncomputable def o18 (P : Params) : Obj := (Obj.mk (.type "tuple") none (Data.seq #[] 0) #[])
noncomputable def o19 (P : Params) : Obj := (Obj.mk .none none (Data.fields #[(.int 4 0), (.int 4 0), (.ref 27), (.int 7 0), (.int 4 0), (.ref 34), (.int 10 0), (.int 4 0), (.ref 41), (.int 13 0), (.int 4 0), (.ref 48)]) #[])
noncomputable def o20 (P : Params) : Obj := (Obj.mk (.type "code") none (Data.fields #[(vs9 "Var" 191), (vs9 "Var" 192), (vs9 "/claim/cut.py" 193), (.int 2 0), (.int 0 0), (.int 0 0), (.int 0 0), (.int 0 0), (.ref 18), (.bool false), (.int 181 0), (.ref 19), .none, .none, .none, .none, (.int 194 0), (.int 2 0), (vs9 "/claim/cut.py" 195)]) #[])
noncomputable def o21 (P : Params) : Obj := (Obj.mk (.type "frame") none Data.plain #[(some (.ref 20)), (some (.ref 3)), (some (.ref 17)), none, (some (vs9 "lazycore.core" 187)), none, (some (.ref 0))])
noncomputable def o22 (P : Params) : Obj := (Obj.mk (.type "tuple") none (Data.seq #[] 0) #[])
noncomputable def o23 (P : Params) : Obj := (Obj.mk .none none (Data.fields #[]) #[])
noncomputable def o24 (P : Params) : Obj := (Obj.mk (.type "tuple") none (Data.seq #[(vs9 "self" 204), (vs9 "name" 205)] 0) #[])
noncomputable def o25 (P : Params) : Obj := (Obj.mk (.type "tuple") none (Data.seq #[] 0) #[])
noncomputable def o26 (P : Params) : Obj := fo9 "__init__" "Var.__init__" (pgI 1 0)
noncomputable def o27 (P : Params) : Obj := (Obj.mk (.type "code") none (Data.fields #[(vs9 "__init__" 201), (vs9 "Var.__init__" 202), (vs9 "/claim/cut.py" 203), (.int 4 0), (.int 2 0), (.int 0 0), (.int 0 0), (.int 3 0), (.ref 22), (.bool true), (.int 181 0), (.ref 23), .none, (.ref 24), (.ref 25), (.ref 26), (.int 206 0), (.int 4 0), (vs9 "/claim/cut.py" 207)]) #[])
noncomputable def o28 (P : Params) : Obj := (Obj.mk (.type "function") none (Data.func (FuncData.mk (Str.ofString "__init__") (Str.ofString "Var.__init__") (fnA (pgI 1 0)) (FuncBody.stmts (fnB9 (pgI 1 0))) (fnS (pgI 1 0)) 3 [] .none .none .none (vs9 "lazycore.core" 187) none (.ref 27) .none 0)) #[])
noncomputable def o29 (P : Params) : Obj := (Obj.mk (.type "tuple") none (Data.seq #[] 0) #[])
noncomputable def o30 (P : Params) : Obj := (Obj.mk .none none (Data.fields #[]) #[])
noncomputable def o31 (P : Params) : Obj := (Obj.mk (.type "tuple") none (Data.seq #[(vs9 "self" 212)] 0) #[])
noncomputable def o32 (P : Params) : Obj := (Obj.mk (.type "tuple") none (Data.seq #[] 0) #[])
noncomputable def o33 (P : Params) : Obj := (Obj.mk .none none (Data.func (FuncData.mk (Str.ofString "groups") (Str.ofString "Var.groups") (fnA (pgI 1 1)) (FuncBody.stmts (fnB9 (pgI 1 1))) (fnS (pgI 14 0)) 0 [] .none .none .none .none none .none .none 0)) #[])
noncomputable def o34 (P : Params) : Obj := (Obj.mk (.type "code") none (Data.fields #[(vs9 "groups" 209), (vs9 "Var.groups" 210), (vs9 "/claim/cut.py" 211), (.int 7 0), (.int 1 0), (.int 0 0), (.int 0 0), (.int 3 0), (.ref 29), (.bool true), (.int 181 0), (.ref 30), .none, (.ref 31), (.ref 32), (.ref 33), (.int 213 0), (.int 7 0), (vs9 "/claim/cut.py" 214)]) #[])
noncomputable def o35 (P : Params) : Obj := (Obj.mk (.type "function") none (Data.func (FuncData.mk (Str.ofString "groups") (Str.ofString "Var.groups") (fnA (pgI 1 1)) (FuncBody.stmts (fnB9 (pgI 1 1))) (fnS (pgI 14 0)) 3 [] .none .none .none (vs9 "lazycore.core" 187) none (.ref 34) .none 0)) #[])
noncomputable def o36 (P : Params) : Obj := (Obj.mk (.type "tuple") none (Data.seq #[] 0) #[])
noncomputable def o37 (P : Params) : Obj := (Obj.mk .none none (Data.fields #[]) #[])
noncomputable def o38 (P : Params) : Obj := (Obj.mk (.type "tuple") none (Data.seq #[(vs9 "self" 219)] 0) #[])
noncomputable def o39 (P : Params) : Obj := (Obj.mk (.type "tuple") none (Data.seq #[] 0) #[])
noncomputable def o40 (P : Params) : Obj := (Obj.mk .none none (Data.func (FuncData.mk (Str.ofString "parts") (Str.ofString "Var.parts") (fnA (pgI 1 2)) (FuncBody.stmts (fnB9 (pgI 1 2))) (fnS (pgI 14 0)) 0 [] .none .none .none .none none .none .none 0)) #[])
noncomputable def o41 (P : Params) : Obj := (Obj.mk (.type "code") none (Data.fields #[(vs9 "parts" 216), (vs9 "Var.parts" 217), (vs9 "/claim/cut.py" 218), (.int 10 0), (.int 1 0), (.int 0 0), (.int 0 0), (.int 3 0), (.ref 36), (.bool true), (.int 181 0), (.ref 37), .none, (.ref 38), (.ref 39), (.ref 40), (.int 220 0), (.int 10 0), (vs9 "/claim/cut.py" 221)]) #[])
noncomputable def o42 (P : Params) : Obj := (Obj.mk (.type "function") none (Data.func (FuncData.mk (Str.ofString "parts") (Str.ofString "Var.parts") (fnA (pgI 1 2)) (FuncBody.stmts (fnB9 (pgI 1 2))) (fnS (pgI 14 0)) 3 [] .none .none .none (vs9 "lazycore.core" 187) none (.ref 41) .none 0)) #[])
noncomputable def o43 (P : Params) : Obj := (Obj.mk (.type "tuple") none (Data.seq #[] 0) #[])
noncomputable def o44 (P : Params) : Obj := (Obj.mk .none none (Data.fields #[]) #[])
noncomputable def o45 (P : Params) : Obj := (Obj.mk (.type "tuple") none (Data.seq #[(vs9 "self" 226), (vs9 "groups" 227), (vs9 "parts" 228)] 0) #[])
noncomputable def o46 (P : Params) : Obj := (Obj.mk (.type "tuple") none (Data.seq #[] 0) #[])
noncomputable def o47 (P : Params) : Obj := (Obj.mk .none none (Data.func (FuncData.mk (Str.ofString "rebuilt") (Str.ofString "Var.rebuilt") (fnA (pgI 1 3)) (FuncBody.stmts (fnB9 (pgI 1 3))) (fnS (pgI 2 3)) 0 [] .none .none .none .none none .none .none 0)) #[])
noncomputable def o48 (P : Params) : Obj := (Obj.mk (.type "code") none (Data.fields #[(vs9 "rebuilt" 223), (vs9 "Var.rebuilt" 224), (vs9 "/claim/cut.py" 225), (.int 13 0), (.int 3 0), (.int 0 0), (.int 0 0), (.int 3 0), (.ref 43), (.bool true), (.int 181 0), (.ref 44), .none, (.ref 45), (.ref 46), (.ref 47), (.int 229 0), (.int 13 0), (vs9 "/claim/cut.py" 230)]) #[])
noncomputable def o49 (P : Params) : Obj := (Obj.mk (.type "function") none (Data.func (FuncData.mk (Str.ofString "rebuilt") (Str.ofString "Var.rebuilt") (fnA (pgI 1 3)) (FuncBody.stmts (fnB9 (pgI 1 3))) (fnS (pgI 2 3)) 3 [] .none .none .none (vs9 "lazycore.core" 187) none (.ref 48) .none 0)) #[])
noncomputable def o50 (P : Params) : Obj := (Obj.mk (.type "tuple") none (Data.seq #[(vs9 "name" 232)] 0) #[])
noncomputable def o51 (P : Params) : Obj := (Obj.mk (.type "dict") none (Data.dict #[(de9 P "__module__" 196 (vs9 "lazycore.core" 187)), (de9 P "__firstlineno__" 200 (.int 2 199)), (de9 P "__init__" 208 (.ref 28)), (de9 P "groups" 215 (.ref 35)), (de9 P "parts" 222 (.ref 42)), (de9 P "rebuilt" 231 (.ref 49)), (de9 P "__static_attributes__" 233 (.ref 50)), (de9 P "__dict__" 235 (.ref 53)), (de9 P "__weakref__" 237 (.ref 54)), (de9 P "__doc__" 238 .none)] 4) #[])
noncomputable def o52 (P : Params) : Obj := (Obj.mk (.type "type") none (Data.cls (ClassData.mk (Str.ofString "Var") [(.type "object")] [(.ref 52), (.type "object")] 51 (Str.ofString "Var") true [] [] false none false)) #[none, none, (some (vs9 "Var" 189)), (some (vs9 "Var" 197)), (some (.builtin "object.__new__")), (some (.bool true))])
noncomputable def o53 (P : Params) : Obj := (Obj.mk (.type "getset_descriptor") none (Data.fields #[(vs9 "__dict__" 234), (.ref 52), (.builtin "function.__dict__"), (.builtin "function.__dict__#set")]) #[])
noncomputable def o54 (P : Params) : Obj := (Obj.mk (.type "getset_descriptor") none (Data.fields #[(vs9 "__weakref__" 236), (.ref 52), (.builtin "ExceptionGroup.__weakref__"), .none]) #[])
noncomputable def o55 (P : Params) : Obj := (Obj.mk (.type "super") none (Data.fields #[(.ref 52), (.ref 52), (.ref 52)]) #[])
noncomputable def o56 (P : Params) : Obj := (Obj.mk (.type "builtin_function_or_method") none (Data.fields #[(.builtin "object.__init_subclass__"), (.ref 52)]) #[])
noncomputable def o57 (P : Params) : Obj := (Obj.mk (.type "tuple") none (Data.seq #[] 0) #[])
noncomputable def o58 (P : Params) : Obj := (Obj.mk (.type "builtin_function_or_method") none (Data.fields #[(.builtin "type.__prepare__"), (.type "type")]) #[])
noncomputable def o59 (P : Params) : Obj := (Obj.mk (.type "dict") none (Data.dict #[(de9 P "__module__" 248 (vs9 "lazycore.core" 187)), (de9 P "__qualname__" 250 (vs9 "Lit" 249)), (de9 P "__firstlineno__" 252 (.int 15 251)), (de9 P "__init__" 261 (.ref 70)), (de9 P "groups" 268 (.ref 77)), (de9 P "parts" 275 (.ref 84)), (de9 P "rebuilt" 284 (.ref 91)), (de9 P "__static_attributes__" 287 (.ref 92))] 8) #[])
noncomputable def o60 (P : Params) : Obj := (Obj.mk (.type "tuple") none (Data.seq #[] 0) #[])
noncomputable def o61 (P : Params) : Obj := (Obj.mk .none none (Data.fields #[(.int 17 0), (.int 4 0), (.ref 69), (.int 21 0), (.int 4 0), (.ref 76), (.int 24 0), (.int 4 0), (.ref 83), (.int 27 0), (.int 4 0), (.ref 90)]) #[])
noncomputable def o62 (P : Params) : Obj := (Obj.mk (.type "code") none (Data.fields #[(vs9 "Lit" 243), (vs9 "Lit" 244), (vs9 "/claim/cut.py" 245), (.int 15 0), (.int 0 0), (.int 0 0), (.int 0 0), (.int 0 0), (.ref 60), (.bool false), (.int 181 0), (.ref 61), .none, .none, .none, .none, (.int 246 0), (.int 15 0), (vs9 "/claim/cut.py" 247)]) #[])
noncomputable def o63 (P : Params) : Obj := (Obj.mk (.type "frame") none Data.plain #[(some (.ref 62)), (some (.ref 3)), (some (.ref 59)), none, (some (vs9 "lazycore.core" 187)), none, (some (.ref 0))])
noncomputable def o64 (P : Params) : Obj := (Obj.mk (.type "tuple") none (Data.seq #[] 0) #[])
noncomputable def o65 (P : Params) : Obj := (Obj.mk .none none (Data.fields #[]) #[])
noncomputable def o66 (P : Params) : Obj := (Obj.mk (.type "tuple") none (Data.seq #[(vs9 "self" 256), (vs9 "kind" 257), (vs9 "value" 258)] 0) #[])
noncomputable def o67 (P : Params) : Obj := (Obj.mk (.type "tuple") none (Data.seq #[] 0) #[])
noncomputable def o68 (P : Params) : Obj := fo9 "__init__" "Lit.__init__" (pgI 2 0)
noncomputable def o69 (P : Params) : Obj := (Obj.mk (.type "code") none (Data.fields #[(vs9 "__init__" 253), (vs9 "Lit.__init__" 254), (vs9 "/claim/cut.py" 255), (.int 17 0), (.int 3 0), (.int 0 0), (.int 0 0), (.int 3 0), (.ref 64), (.bool true), (.int 181 0), (.ref 65), .none, (.ref 66), (.ref 67), (.ref 68), (.int 259 0), (.int 17 0), (vs9 "/claim/cut.py" 260)]) #[])
noncomputable def o70 (P : Params) : Obj := (Obj.mk (.type "function") none (Data.func (FuncData.mk (Str.ofString "__init__") (Str.ofString "Lit.__init__") (fnA (pgI 2 0)) (FuncBody.stmts (fnB9 (pgI 2 0))) (fnS (pgI 2 0)) 3 [] .none .none .none (vs9 "lazycore.core" 187) none (.ref 69) .none 0)) #[])
noncomputable def o71 (P : Params) : Obj := (Obj.mk (.type "tuple") none (Data.seq #[] 0) #[])
noncomputable def o72 (P : Params) : Obj := (Obj.mk .none none (Data.fields #[]) #[])
noncomputable def o73 (P : Params) : Obj := (Obj.mk (.type "tuple") none (Data.seq #[(vs9 "self" 265)] 0) #[])
noncomputable def o74 (P : Params) : Obj := (Obj.mk (.type "tuple") none (Data.seq #[] 0) #[])
noncomputable def o75 (P : Params) : Obj := (Obj.mk .none none (Data.func (FuncData.mk (Str.ofString "groups") (Str.ofString "Lit.groups") (fnA (pgI 2 1)) (FuncBody.stmts (fnB9 (pgI 2 1))) (fnS (pgI 14 0)) 0 [] .none .none .none .none none .none .none 0)) #[])
noncomputable def o76 (P : Params) : Obj := (Obj.mk (.type "code") none (Data.fields #[(vs9 "groups" 262), (vs9 "Lit.groups" 263), (vs9 "/claim/cut.py" 264), (.int 21 0), (.int 1 0), (.int 0 0), (.int 0 0), (.int 3 0), (.ref 71), (.bool true), (.int 181 0), (.ref 72), .none, (.ref 73), (.ref 74), (.ref 75), (.int 266 0), (.int 21 0), (vs9 "/claim/cut.py" 267)]) #[])
noncomputable def o77 (P : Params) : Obj := (Obj.mk (.type "function") none (Data.func (FuncData.mk (Str.ofString "groups") (Str.ofString "Lit.groups") (fnA (pgI 2 1)) (FuncBody.stmts (fnB9 (pgI 2 1))) (fnS (pgI 14 0)) 3 [] .none .none .none (vs9 "lazycore.core" 187) none (.ref 76) .none 0)) #[])
noncomputable def o78 (P : Params) : Obj := (Obj.mk (.type "tuple") none (Data.seq #[] 0) #[])
noncomputable def o79 (P : Params) : Obj := (Obj.mk .none none (Data.fields #[]) #[])
noncomputable def o80 (P : Params) : Obj := (Obj.mk (.type "tuple") none (Data.seq #[(vs9 "self" 272)] 0) #[])
noncomputable def o81 (P : Params) : Obj := (Obj.mk (.type "tuple") none (Data.seq #[] 0) #[])
noncomputable def o82 (P : Params) : Obj := (Obj.mk .none none (Data.func (FuncData.mk (Str.ofString "parts") (Str.ofString "Lit.parts") (fnA (pgI 2 2)) (FuncBody.stmts (fnB9 (pgI 2 2))) (fnS (pgI 14 0)) 0 [] .none .none .none .none none .none .none 0)) #[])
noncomputable def o83 (P : Params) : Obj := (Obj.mk (.type "code") none (Data.fields #[(vs9 "parts" 269), (vs9 "Lit.parts" 270), (vs9 "/claim/cut.py" 271), (.int 24 0), (.int 1 0), (.int 0 0), (.int 0 0), (.int 3 0), (.ref 78), (.bool true), (.int 181 0), (.ref 79), .none, (.ref 80), (.ref 81), (.ref 82), (.int 273 0), (.int 24 0), (vs9 "/claim/cut.py" 274)]) #[])
noncomputable def o84 (P : Params) : Obj := (Obj.mk (.type "function") none (Data.func (FuncData.mk (Str.ofString "parts") (Str.ofString "Lit.parts") (fnA (pgI 2 2)) (FuncBody.stmts (fnB9 (pgI 2 2))) (fnS (pgI 14 0)) 3 [] .none .none .none (vs9 "lazycore.core" 187) none (.ref 83) .none 0)) #[])
noncomputable def o85 (P : Params) : Obj := (Obj.mk (.type "tuple") none (Data.seq #[] 0) #[])
noncomputable def o86 (P : Params) : Obj := (Obj.mk .none none (Data.fields #[]) #[])
noncomputable def o87 (P : Params) : Obj := (Obj.mk (.type "tuple") none (Data.seq #[(vs9 "self" 279), (vs9 "groups" 280), (vs9 "parts" 281)] 0) #[])
noncomputable def o88 (P : Params) : Obj := (Obj.mk (.type "tuple") none (Data.seq #[] 0) #[])
noncomputable def o89 (P : Params) : Obj := fo9 "rebuilt" "Lit.rebuilt" (pgI 2 3)
noncomputable def o90 (P : Params) : Obj := (Obj.mk (.type "code") none (Data.fields #[(vs9 "rebuilt" 276), (vs9 "Lit.rebuilt" 277), (vs9 "/claim/cut.py" 278), (.int 27 0), (.int 3 0), (.int 0 0), (.int 0 0), (.int 3 0), (.ref 85), (.bool true), (.int 181 0), (.ref 86), .none, (.ref 87), (.ref 88), (.ref 89), (.int 282 0), (.int 27 0), (vs9 "/claim/cut.py" 283)]) #[])
noncomputable def o91 (P : Params) : Obj := (Obj.mk (.type "function") none (Data.func (FuncData.mk (Str.ofString "rebuilt") (Str.ofString "Lit.rebuilt") (fnA (pgI 2 3)) (FuncBody.stmts (fnB9 (pgI 2 3))) (fnS (pgI 2 3)) 3 [] .none .none .none (vs9 "lazycore.core" 187) none (.ref 90) .none 0)) #[])
noncomputable def o92 (P : Params) : Obj := (Obj.mk (.type "tuple") none (Data.seq #[(vs9 "kind" 285), (vs9 "value" 286)] 0) #[])
noncomputable def o93 (P : Params) : Obj := (Obj.mk (.type "dict") none (Data.dict #[(de9 P "__module__" 248 (vs9 "lazycore.core" 187)), (de9 P "__firstlineno__" 252 (.int 15 251)), (de9 P "__init__" 261 (.ref 70)), (de9 P "groups" 268 (.ref 77)), (de9 P "parts" 275 (.ref 84)), (de9 P "rebuilt" 284 (.ref 91)), (de9 P "__static_attributes__" 287 (.ref 92)), (de9 P "__dict__" 289 (.ref 95)), (de9 P "__weakref__" 291 (.ref 96)), (de9 P "__doc__" 292 .none)] 4) #[])
noncomputable def o94 (P : Params) : Obj := (Obj.mk (.type "type") none (Data.cls (ClassData.mk (Str.ofString "Lit") [(.type "object")] [(.ref 94), (.type "object")] 93 (Str.ofString "Lit") true [] [] false none false)) #[none, none, (some (vs9 "Lit" 241)), (some (vs9 "Lit" 249)), (some (.builtin "object.__new__")), (some (.bool true))])
noncomputable def o95 (P : Params) : Obj := (Obj.mk (.type "getset_descriptor") none (Data.fields #[(vs9 "__dict__" 288), (.ref 94), (.builtin "function.__dict__"), (.builtin "function.__dict__#set")]) #[])
noncomputable def o96 (P : Params) : Obj := (Obj.mk (.type "getset_descriptor") none (Data.fields #[(vs9 "__weakref__" 290), (.ref 94), (.builtin "ExceptionGroup.__weakref__"), .none]) #[])
noncomputable def o97 (P : Params) : Obj := (Obj.mk (.type "super") none (Data.fields #[(.ref 94), (.ref 94), (.ref 94)]) #[])
noncomputable def o98 (P : Params) : Obj := (Obj.mk (.type "builtin_function_or_method") none (Data.fields #[(.builtin "object.__init_subclass__"), (.ref 94)]) #[])
noncomputable def o99 (P : Params) : Obj := (Obj.mk (.type "tuple") none (Data.seq #[] 0) #[])
noncomputable def o100 (P : Params) : Obj := (Obj.mk (.type "builtin_function_or_method") none (Data.fields #[(.builtin "type.__prepare__"), (.type "type")]) #[])
noncomputable def o101 (P : Params) : Obj := (Obj.mk (.type "dict") none (Data.dict #[(de9 P "__module__" 302 (vs9 "lazycore.core" 187)), (de9 P "__qualname__" 304 (vs9 "App" 303)), (de9 P "__firstlineno__" 306 (.int 29 305)), (de9 P "__init__" 315 (.ref 112)), (de9 P "groups" 322 (.ref 119)), (de9 P "parts" 328 (.ref 124)), (de9 P "rebuilt" 337 (.ref 131)), (de9 P "__static_attributes__" 340 (.ref 132))] 8) #[])
noncomputable def o102 (P : Params) : Obj := (Obj.mk (.type "tuple") none (Data.seq #[] 0) #[])
noncomputable def o103 (P : Params) : Obj := (Obj.mk .none none (Data.fields #[(.int 31 0), (.int 4 0), (.ref 111), (.int 35 0), (.int 4 0), (.ref 118), (.int 38 0), (.int 4 0), (.ref 123), (.int 41 0), (.int 4 0), (.ref 130)]) #[])
noncomputable def o104 (P : Params) : Obj := (Obj.mk (.type "code") none (Data.fields #[(vs9 "App" 297), (vs9 "App" 298), (vs9 "/claim/cut.py" 299), (.int 29 0), (.int 0 0), (.int 0 0), (.int 0 0), (.int 0 0), (.ref 102), (.bool false), (.int 181 0), (.ref 103), .none, .none, .none, .none, (.int 300 0), (.int 29 0), (vs9 "/claim/cut.py" 301)]) #[])
noncomputable def o105 (P : Params) : Obj := (Obj.mk (.type "frame") none Data.plain #[(some (.ref 104)), (some (.ref 3)), (some (.ref 101)), none, (some (vs9 "lazycore.core" 187)), none, (some (.ref 0))])
noncomputable def o106 (P : Params) : Obj := (Obj.mk (.type "tuple") none (Data.seq #[] 0) #[])
noncomputable def o107 (P : Params) : Obj := (Obj.mk .none none (Data.fields #[]) #[])
noncomputable def o108 (P : Params) : Obj := (Obj.mk (.type "tuple") none (Data.seq #[(vs9 "self" 310), (vs9 "fun" 311), (vs9 "args" 312)] 0) #[])
noncomputable def o109 (P : Params) : Obj := (Obj.mk (.type "tuple") none (Data.seq #[] 0) #[])
noncomputable def o110 (P : Params) : Obj := fo9 "__init__" "App.__init__" (pgI 3 0)
noncomputable def o111 (P : Params) : Obj := (Obj.mk (.type "code") none (Data.fields #[(vs9 "__init__" 307), (vs9 "App.__init__" 308), (vs9 "/claim/cut.py" 309), (.int 31 0), (.int 3 0), (.int 0 0), (.int 0 0), (.int 3 0), (.ref 106), (.bool true), (.int 181 0), (.ref 107), .none, (.ref 108), (.ref 109), (.ref 110), (.int 313 0), (.int 31 0), (vs9 "/claim/cut.py" 314)]) #[])
noncomputable def o112 (P : Params) : Obj := (Obj.mk (.type "function") none (Data.func (FuncData.mk (Str.ofString "__init__") (Str.ofString "App.__init__") (fnA (pgI 3 0)) (FuncBody.stmts (fnB9 (pgI 3 0))) (fnS (pgI 3 0)) 3 [] .none .none .none (vs9 "lazycore.core" 187) none (.ref 111) .none 0)) #[])
noncomputable def o113 (P : Params) : Obj := (Obj.mk (.type "tuple") none (Data.seq #[] 0) #[])
noncomputable def o114 (P : Params) : Obj := (Obj.mk .none none (Data.fields #[]) #[])
noncomputable def o115 (P : Params) : Obj := (Obj.mk (.type "tuple") none (Data.seq #[(vs9 "self" 319)] 0) #[])
noncomputable def o116 (P : Params) : Obj := (Obj.mk (.type "tuple") none (Data.seq #[] 0) #[])
noncomputable def o117 (P : Params) : Obj := (Obj.mk .none none (Data.func (FuncData.mk (Str.ofString "groups") (Str.ofString "App.groups") (fnA (pgI 3 1)) (FuncBody.stmts (fnB9 (pgI 3 1))) (fnS (pgI 14 0)) 0 [] .none .none .none .none none .none .none 0)) #[])
noncomputable def o118 (P : Params) : Obj := (Obj.mk (.type "code") none (Data.fields #[(vs9 "groups" 316), (vs9 "App.groups" 317), (vs9 "/claim/cut.py" 318), (.int 35 0), (.int 1 0), (.int 0 0), (.int 0 0), (.int 3 0), (.ref 113), (.bool true), (.int 181 0), (.ref 114), .none, (.ref 115), (.ref 116), (.ref 117), (.int 320 0), (.int 35 0), (vs9 "/claim/cut.py" 321)]) #[])
noncomputable def o119 (P : Params) : Obj := (Obj.mk (.type "function") none (Data.func (FuncData.mk (Str.ofString "groups") (Str.ofString "App.groups") (fnA (pgI 3 1)) (FuncBody.stmts (fnB9 (pgI 3 1))) (fnS (pgI 14 0)) 3 [] .none .none .none (vs9 "lazycore.core" 187) none (.ref 118) .none 0)) #[])
noncomputable def o120 (P : Params) : Obj := (Obj.mk (.type "tuple") none (Data.seq #[] 0) #[])
noncomputable def o121 (P : Params) : Obj := (Obj.mk .none none (Data.fields #[]) #[])
noncomputable def o122 (P : Params) : Obj := (Obj.mk .none none (Data.func (FuncData.mk (Str.ofString "parts") (Str.ofString "App.parts") (fnA (pgI 3 2)) (FuncBody.stmts (fnB9 (pgI 3 2))) (fnS (pgI 9 2)) 0 [] .none .none .none .none none .none .none 0)) #[])
noncomputable def o123 (P : Params) : Obj := (Obj.mk (.type "code") none (Data.fields #[(vs9 "parts" 323), (vs9 "App.parts" 324), (vs9 "/claim/cut.py" 325), (.int 38 0), (.int 1 0), (.int 0 0), (.int 0 0), (.int 3 0), (.ref 120), (.bool true), (.int 181 0), (.ref 121), .none, .none, .none, (.ref 122), (.int 326 0), (.int 38 0), (vs9 "/claim/cut.py" 327)]) #[])
noncomputable def o124 (P : Params) : Obj := (Obj.mk (.type "function") none (Data.func (FuncData.mk (Str.ofString "parts") (Str.ofString "App.parts") (fnA (pgI 3 2)) (FuncBody.stmts (fnB9 (pgI 3 2))) (fnS (pgI 9 2)) 3 [] .none .none .none (vs9 "lazycore.core" 187) none (.ref 123) .none 0)) #[])
noncomputable def o125 (P : Params) : Obj := (Obj.mk (.type "tuple") none (Data.seq #[] 0) #[])
noncomputable def o126 (P : Params) : Obj := (Obj.mk .none none (Data.fields #[]) #[])
noncomputable def o127 (P : Params) : Obj := (Obj.mk (.type "tuple") none (Data.seq #[(vs9 "self" 332), (vs9 "groups" 333), (vs9 "parts" 334)] 0) #[])
noncomputable def o128 (P : Params) : Obj := (Obj.mk (.type "tuple") none (Data.seq #[] 0) #[])
noncomputable def o129 (P : Params) : Obj := fo9 "rebuilt" "App.rebuilt" (pgI 3 3)
noncomputable def o130 (P : Params) : Obj := (Obj.mk (.type "code") none (Data.fields #[(vs9 "rebuilt" 329), (vs9 "App.rebuilt" 330), (vs9 "/claim/cut.py" 331), (.int 41 0), (.int 3 0), (.int 0 0), (.int 0 0), (.int 3 0), (.ref 125), (.bool true), (.int 181 0), (.ref 126), .none, (.ref 127), (.ref 128), (.ref 129), (.int 335 0), (.int 41 0), (vs9 "/claim/cut.py" 336)]) #[])
noncomputable def o131 (P : Params) : Obj := (Obj.mk (.type "function") none (Data.func (FuncData.mk (Str.ofString "rebuilt") (Str.ofString "App.rebuilt") (fnA (pgI 3 3)) (FuncBody.stmts (fnB9 (pgI 3 3))) (fnS (pgI 3 3)) 3 [] .none .none .none (vs9 "lazycore.core" 187) none (.ref 130) .none 0)) #[])
noncomputable def o132 (P : Params) : Obj := (Obj.mk (.type "tuple") none (Data.seq #[(vs9 "args" 338), (vs9 "fun" 339)] 0) #[])
noncomputable def o133 (P : Params) : Obj := (Obj.mk (.type "dict") none (Data.dict #[(de9 P "__module__" 302 (vs9 "lazycore.core" 187)), (de9 P "__firstlineno__" 306 (.int 29 305)), (de9 P "__init__" 315 (.ref 112)), (de9 P "groups" 322 (.ref 119)), (de9 P "parts" 328 (.ref 124)), (de9 P "rebuilt" 337 (.ref 131)), (de9 P "__static_attributes__" 340 (.ref 132)), (de9 P "__dict__" 342 (.ref 135)), (de9 P "__weakref__" 344 (.ref 136)), (de9 P "__doc__" 345 .none)] 4) #[])
noncomputable def o134 (P : Params) : Obj := (Obj.mk (.type "type") none (Data.cls (ClassData.mk (Str.ofString "App") [(.type "object")] [(.ref 134), (.type "object")] 133 (Str.ofString "App") true [] [] false none false)) #[none, none, (some (vs9 "App" 295)), (some (vs9 "App" 303)), (some (.builtin "object.__new__")), (some (.bool true))])
noncomputable def o135 (P : Params) : Obj := (Obj.mk (.type "getset_descriptor") none (Data.fields #[(vs9 "__dict__" 341), (.ref 134), (.builtin "function.__dict__"), (.builtin "function.__dict__#set")]) #[])
noncomputable def o136 (P : Params) : Obj := (Obj.mk (.type "getset_descriptor") none (Data.fields #[(vs9 "__weakref__" 343), (.ref 134), (.builtin "ExceptionGroup.__weakref__"), .none]) #[])
noncomputable def o137 (P : Params) : Obj := (Obj.mk (.type "super") none (Data.fields #[(.ref 134), (.ref 134), (.ref 134)]) #[])
noncomputable def o138 (P : Params) : Obj := (Obj.mk (.type "builtin_function_or_method") none (Data.fields #[(.builtin "object.__init_subclass__"), (.ref 134)]) #[])
noncomputable def o139 (P : Params) : Obj := (Obj.mk (.type "tuple") none (Data.seq #[] 0) #[])
noncomputable def o140 (P : Params) : Obj := (Obj.mk (.type "builtin_function_or_method") none (Data.fields #[(.builtin "type.__prepare__"), (.type "type")]) #[])
noncomputable def o141 (P : Params) : Obj := (Obj.mk (.type "dict") none (Data.dict #[(de9 P "__module__" 355 (vs9 "lazycore.core" 187)), (de9 P "__qualname__" 357 (vs9 "Lam" 356)), (de9 P "__firstlineno__" 359 (.int 43 358)), (de9 P "__init__" 368 (.ref 152)), (de9 P "groups" 375 (.ref 159)), (de9 P "parts" 382 (.ref 166)), (de9 P "rebuilt" 391 (.ref 173)), (de9 P "__static_attributes__" 394 (.ref 174))] 8) #[])
noncomputable def o142 (P : Params) : Obj := (Obj.mk (.type "tuple") none (Data.seq #[] 0) #[])
noncomputable def o143 (P : Params) : Obj := (Obj.mk .none none (Data.fields #[(.int 45 0), (.int 4 0), (.ref 151), (.int 49 0), (.int 4 0), (.ref 158), (.int 52 0), (.int 4 0), (.ref 165), (.int 55 0), (.int 4 0), (.ref 172)]) #[])
noncomputable def o144 (P : Params) : Obj := (Obj.mk (.type "code") none (Data.fields #[(vs9 "Lam" 350), (vs9 "Lam" 351), (vs9 "/claim/cut.py" 352), (.int 43 0), (.int 0 0), (.int 0 0), (.int 0 0), (.int 0 0), (.ref 142), (.bool false), (.int 181 0), (.ref 143), .none, .none, .none, .none, (.int 353 0), (.int 43 0), (vs9 "/claim/cut.py" 354)]) #[])
noncomputable def o145 (P : Params) : Obj := (Obj.mk (.type "frame") none Data.plain #[(some (.ref 144)), (some (.ref 3)), (some (.ref 141)), none, (some (vs9 "lazycore.core" 187)), none, (some (.ref 0))])
noncomputable def o146 (P : Params) : Obj := (Obj.mk (.type "tuple") none (Data.seq #[] 0) #[])
noncomputable def o147 (P : Params) : Obj := (Obj.mk .none none (Data.fields #[]) #[])
noncomputable def o148 (P : Params) : Obj := (Obj.mk (.type "tuple") none (Data.seq #[(vs9 "self" 363), (vs9 "params" 364), (vs9 "body" 365)] 0) #[])
noncomputable def o149 (P : Params) : Obj := (Obj.mk (.type "tuple") none (Data.seq #[] 0) #[])
noncomputable def o150 (P : Params) : Obj := fo9 "__init__" "Lam.__init__" (pgI 4 0)
noncomputable def o151 (P : Params) : Obj := (Obj.mk (.type "code") none (Data.fields #[(vs9 "__init__" 360), (vs9 "Lam.__init__" 361), (vs9 "/claim/cut.py" 362), (.int 45 0), (.int 3 0), (.int 0 0), (.int 0 0), (.int 3 0), (.ref 146), (.bool true), (.int 181 0), (.ref 147), .none, (.ref 148), (.ref 149), (.ref 150), (.int 366 0), (.int 45 0), (vs9 "/claim/cut.py" 367)]) #[])
noncomputable def o152 (P : Params) : Obj := (Obj.mk (.type "function") none (Data.func (FuncData.mk (Str.ofString "__init__") (Str.ofString "Lam.__init__") (fnA (pgI 4 0)) (FuncBody.stmts (fnB9 (pgI 4 0))) (fnS (pgI 4 0)) 3 [] .none .none .none (vs9 "lazycore.core" 187) none (.ref 151) .none 0)) #[])
noncomputable def o153 (P : Params) : Obj := (Obj.mk (.type "tuple") none (Data.seq #[] 0) #[])
noncomputable def o154 (P : Params) : Obj := (Obj.mk .none none (Data.fields #[]) #[])
noncomputable def o155 (P : Params) : Obj := (Obj.mk (.type "tuple") none (Data.seq #[(vs9 "self" 372)] 0) #[])
noncomputable def o156 (P : Params) : Obj := (Obj.mk (.type "tuple") none (Data.seq #[] 0) #[])
noncomputable def o157 (P : Params) : Obj := (Obj.mk .none none (Data.func (FuncData.mk (Str.ofString "groups") (Str.ofString "Lam.groups") (fnA (pgI 4 1)) (FuncBody.stmts (fnB9 (pgI 4 1))) (fnS (pgI 14 0)) 0 [] .none .none .none .none none .none .none 0)) #[])
noncomputable def o158 (P : Params) : Obj := (Obj.mk (.type "code") none (Data.fields #[(vs9 "groups" 369), (vs9 "Lam.groups" 370), (vs9 "/claim/cut.py" 371), (.int 49 0), (.int 1 0), (.int 0 0), (.int 0 0), (.int 3 0), (.ref 153), (.bool true), (.int 181 0), (.ref 154), .none, (.ref 155), (.ref 156), (.ref 157), (.int 373 0), (.int 49 0), (vs9 "/claim/cut.py" 374)]) #[])
noncomputable def o159 (P : Params) : Obj := (Obj.mk (.type "function") none (Data.func (FuncData.mk (Str.ofString "groups") (Str.ofString "Lam.groups") (fnA (pgI 4 1)) (FuncBody.stmts (fnB9 (pgI 4 1))) (fnS (pgI 14 0)) 3 [] .none .none .none (vs9 "lazycore.core" 187) none (.ref 158) .none 0)) #[])
noncomputable def o160 (P : Params) : Obj := (Obj.mk (.type "tuple") none (Data.seq #[] 0) #[])
noncomputable def o161 (P : Params) : Obj := (Obj.mk .none none (Data.fields #[]) #[])
noncomputable def o162 (P : Params) : Obj := (Obj.mk (.type "tuple") none (Data.seq #[(vs9 "self" 379)] 0) #[])
noncomputable def o163 (P : Params) : Obj := (Obj.mk (.type "tuple") none (Data.seq #[] 0) #[])
noncomputable def o164 (P : Params) : Obj := (Obj.mk .none none (Data.func (FuncData.mk (Str.ofString "parts") (Str.ofString "Lam.parts") (fnA (pgI 4 2)) (FuncBody.stmts (fnB9 (pgI 4 2))) (fnS (pgI 14 0)) 0 [] .none .none .none .none none .none .none 0)) #[])
noncomputable def o165 (P : Params) : Obj := (Obj.mk (.type "code") none (Data.fields #[(vs9 "parts" 376), (vs9 "Lam.parts" 377), (vs9 "/claim/cut.py" 378), (.int 52 0), (.int 1 0), (.int 0 0), (.int 0 0), (.int 3 0), (.ref 160), (.bool true), (.int 181 0), (.ref 161), .none, (.ref 162), (.ref 163), (.ref 164), (.int 380 0), (.int 52 0), (vs9 "/claim/cut.py" 381)]) #[])
noncomputable def o166 (P : Params) : Obj := (Obj.mk (.type "function") none (Data.func (FuncData.mk (Str.ofString "parts") (Str.ofString "Lam.parts") (fnA (pgI 4 2)) (FuncBody.stmts (fnB9 (pgI 4 2))) (fnS (pgI 14 0)) 3 [] .none .none .none (vs9 "lazycore.core" 187) none (.ref 165) .none 0)) #[])
noncomputable def o167 (P : Params) : Obj := (Obj.mk (.type "tuple") none (Data.seq #[] 0) #[])
noncomputable def o168 (P : Params) : Obj := (Obj.mk .none none (Data.fields #[]) #[])
noncomputable def o169 (P : Params) : Obj := (Obj.mk (.type "tuple") none (Data.seq #[(vs9 "self" 386), (vs9 "groups" 387), (vs9 "parts" 388)] 0) #[])
noncomputable def o170 (P : Params) : Obj := (Obj.mk (.type "tuple") none (Data.seq #[] 0) #[])
noncomputable def o171 (P : Params) : Obj := fo9 "rebuilt" "Lam.rebuilt" (pgI 4 3)
noncomputable def o172 (P : Params) : Obj := (Obj.mk (.type "code") none (Data.fields #[(vs9 "rebuilt" 383), (vs9 "Lam.rebuilt" 384), (vs9 "/claim/cut.py" 385), (.int 55 0), (.int 3 0), (.int 0 0), (.int 0 0), (.int 3 0), (.ref 167), (.bool true), (.int 181 0), (.ref 168), .none, (.ref 169), (.ref 170), (.ref 171), (.int 389 0), (.int 55 0), (vs9 "/claim/cut.py" 390)]) #[])
noncomputable def o173 (P : Params) : Obj := (Obj.mk (.type "function") none (Data.func (FuncData.mk (Str.ofString "rebuilt") (Str.ofString "Lam.rebuilt") (fnA (pgI 4 3)) (FuncBody.stmts (fnB9 (pgI 4 3))) (fnS (pgI 4 3)) 3 [] .none .none .none (vs9 "lazycore.core" 187) none (.ref 172) .none 0)) #[])
noncomputable def o174 (P : Params) : Obj := (Obj.mk (.type "tuple") none (Data.seq #[(vs9 "body" 392), (vs9 "params" 393)] 0) #[])
noncomputable def o175 (P : Params) : Obj := (Obj.mk (.type "dict") none (Data.dict #[(de9 P "__module__" 355 (vs9 "lazycore.core" 187)), (de9 P "__firstlineno__" 359 (.int 43 358)), (de9 P "__init__" 368 (.ref 152)), (de9 P "groups" 375 (.ref 159)), (de9 P "parts" 382 (.ref 166)), (de9 P "rebuilt" 391 (.ref 173)), (de9 P "__static_attributes__" 394 (.ref 174)), (de9 P "__dict__" 396 (.ref 177)), (de9 P "__weakref__" 398 (.ref 178)), (de9 P "__doc__" 399 .none)] 4) #[])
noncomputable def o176 (P : Params) : Obj := (Obj.mk (.type "type") none (Data.cls (ClassData.mk (Str.ofString "Lam") [(.type "object")] [(.ref 176), (.type "object")] 175 (Str.ofString "Lam") true [] [] false none false)) #[none, none, (some (vs9 "Lam" 348)), (some (vs9 "Lam" 356)), (some (.builtin "object.__new__")), (some (.bool true))])
noncomputable def o177 (P : Params) : Obj := (Obj.mk (.type "getset_descriptor") none (Data.fields #[(vs9 "__dict__" 395), (.ref 176), (.builtin "function.__dict__"), (.builtin "function.__dict__#set")]) #[])
noncomputable def o178 (P : Params) : Obj := (Obj.mk (.type "getset_descriptor") none (Data.fields #[(vs9 "__weakref__" 397), (.ref 176), (.builtin "ExceptionGroup.__weakref__"), .none]) #[])
noncomputable def o179 (P : Params) : Obj := (Obj.mk (.type "super") none (Data.fields #[(.ref 176), (.ref 176), (.ref 176)]) #[])
noncomputable def o180 (P : Params) : Obj := (Obj.mk (.type "builtin_function_or_method") none (Data.fields #[(.builtin "object.__init_subclass__"), (.ref 176)]) #[])
noncomputable def o181 (P : Params) : Obj := (Obj.mk (.type "tuple") none (Data.seq #[] 0) #[])
noncomputable def o182 (P : Params) : Obj := (Obj.mk (.type "builtin_function_or_method") none (Data.fields #[(.builtin "type.__prepare__"), (.type "type")]) #[])
noncomputable def o183 (P : Params) : Obj := (Obj.mk (.type "dict") none (Data.dict #[(de9 P "__module__" 409 (vs9 "lazycore.core" 187)), (de9 P "__qualname__" 411 (vs9 "Let" 410)), (de9 P "__firstlineno__" 413 (.int 57 412)), (de9 P "__init__" 423 (.ref 194)), (de9 P "groups" 429 (.ref 199)), (de9 P "parts" 435 (.ref 204)), (de9 P "rebuilt" 441 (.ref 209)), (de9 P "__static_attributes__" 445 (.ref 210))] 8) #[])
noncomputable def o184 (P : Params) : Obj := (Obj.mk (.type "tuple") none (Data.seq #[] 0) #[])
noncomputable def o185 (P : Params) : Obj := (Obj.mk .none none (Data.fields #[(.int 59 0), (.int 4 0), (.ref 193), (.int 64 0), (.int 4 0), (.ref 198), (.int 67 0), (.int 4 0), (.ref 203), (.int 71 0), (.int 4 0), (.ref 208)]) #[])
noncomputable def o186 (P : Params) : Obj := (Obj.mk (.type "code") none (Data.fields #[(vs9 "Let" 404), (vs9 "Let" 405), (vs9 "/claim/cut.py" 406), (.int 57 0), (.int 0 0), (.int 0 0), (.int 0 0), (.int 0 0), (.ref 184), (.bool false), (.int 181 0), (.ref 185), .none, .none, .none, .none, (.int 407 0), (.int 57 0), (vs9 "/claim/cut.py" 408)]) #[])
noncomputable def o187 (P : Params) : Obj := (Obj.mk (.type "frame") none Data.plain #[(some (.ref 186)), (some (.ref 3)), (some (.ref 183)), none, (some (vs9 "lazycore.core" 187)), none, (some (.ref 0))])
noncomputable def o188 (P : Params) : Obj := (Obj.mk (.type "tuple") none (Data.seq #[] 0) #[])
noncomputable def o189 (P : Params) : Obj := (Obj.mk .none none (Data.fields #[]) #[])
noncomputable def o190 (P : Params) : Obj := (Obj.mk (.type "tuple") none (Data.seq #[(vs9 "self" 417), (vs9 "binds" 418), (vs9 "body" 419), (vs9 "is_rec" 420)] 0) #[])
noncomputable def o191 (P : Params) : Obj := (Obj.mk (.type "tuple") none (Data.seq #[] 0) #[])
noncomputable def o192 (P : Params) : Obj := fo9 "__init__" "Let.__init__" (pgI 5 0)
noncomputable def o193 (P : Params) : Obj := (Obj.mk (.type "code") none (Data.fields #[(vs9 "__init__" 414), (vs9 "Let.__init__" 415), (vs9 "/claim/cut.py" 416), (.int 59 0), (.int 4 0), (.int 0 0), (.int 0 0), (.int 3 0), (.ref 188), (.bool true), (.int 181 0), (.ref 189), .none, (.ref 190), (.ref 191), (.ref 192), (.int 421 0), (.int 59 0), (vs9 "/claim/cut.py" 422)]) #[])
noncomputable def o194 (P : Params) : Obj := (Obj.mk (.type "function") none (Data.func (FuncData.mk (Str.ofString "__init__") (Str.ofString "Let.__init__") (fnA (pgI 5 0)) (FuncBody.stmts (fnB9 (pgI 5 0))) (fnS (pgI 5 0)) 3 [] .none .none .none (vs9 "lazycore.core" 187) none (.ref 193) .none 0)) #[])
noncomputable def o195 (P : Params) : Obj := (Obj.mk (.type "tuple") none (Data.seq #[] 0) #[])
noncomputable def o196 (P : Params) : Obj := (Obj.mk .none none (Data.fields #[]) #[])
noncomputable def o197 (P : Params) : Obj := fo9 "groups" "Let.groups" (pgI 5 1)
noncomputable def o198 (P : Params) : Obj := (Obj.mk (.type "code") none (Data.fields #[(vs9 "groups" 424), (vs9 "Let.groups" 425), (vs9 "/claim/cut.py" 426), (.int 64 0), (.int 1 0), (.int 0 0), (.int 0 0), (.int 3 0), (.ref 195), (.bool true), (.int 181 0), (.ref 196), .none, .none, .none, (.ref 197), (.int 427 0), (.int 64 0), (vs9 "/claim/cut.py" 428)]) #[])
noncomputable def o199 (P : Params) : Obj := (Obj.mk (.type "function") none (Data.func (FuncData.mk (Str.ofString "groups") (Str.ofString "Let.groups") (fnA (pgI 5 1)) (FuncBody.stmts (fnB9 (pgI 5 1))) (fnS (pgI 5 1)) 3 [] .none .none .none (vs9 "lazycore.core" 187) none (.ref 198) .none 0)) #[])
noncomputable def o200 (P : Params) : Obj := (Obj.mk (.type "tuple") none (Data.seq #[] 0) #[])
noncomputable def o201 (P : Params) : Obj := (Obj.mk .none none (Data.fields #[]) #[])
noncomputable def o202 (P : Params) : Obj := fo9 "parts" "Let.parts" (pgI 5 2)
noncomputable def o203 (P : Params) : Obj := (Obj.mk (.type "code") none (Data.fields #[(vs9 "parts" 430), (vs9 "Let.parts" 431), (vs9 "/claim/cut.py" 432), (.int 67 0), (.int 1 0), (.int 0 0), (.int 0 0), (.int 3 0), (.ref 200), (.bool true), (.int 181 0), (.ref 201), .none, .none, .none, (.ref 202), (.int 433 0), (.int 67 0), (vs9 "/claim/cut.py" 434)]) #[])
noncomputable def o204 (P : Params) : Obj := (Obj.mk (.type "function") none (Data.func (FuncData.mk (Str.ofString "parts") (Str.ofString "Let.parts") (fnA (pgI 5 2)) (FuncBody.stmts (fnB9 (pgI 5 2))) (fnS (pgI 5 2)) 3 [] .none .none .none (vs9 "lazycore.core" 187) none (.ref 203) .none 0)) #[])
noncomputable def o205 (P : Params) : Obj := (Obj.mk (.type "tuple") none (Data.seq #[] 0) #[])
noncomputable def o206 (P : Params) : Obj := (Obj.mk .none none (Data.fields #[]) #[])
noncomputable def o207 (P : Params) : Obj := fo9 "rebuilt" "Let.rebuilt" (pgI 5 3)
noncomputable def o208 (P : Params) : Obj := (Obj.mk (.type "code") none (Data.fields #[(vs9 "rebuilt" 436), (vs9 "Let.rebuilt" 437), (vs9 "/claim/cut.py" 438), (.int 71 0), (.int 3 0), (.int 0 0), (.int 0 0), (.int 3 0), (.ref 205), (.bool true), (.int 181 0), (.ref 206), .none, .none, .none, (.ref 207), (.int 439 0), (.int 71 0), (vs9 "/claim/cut.py" 440)]) #[])
noncomputable def o209 (P : Params) : Obj := (Obj.mk (.type "function") none (Data.func (FuncData.mk (Str.ofString "rebuilt") (Str.ofString "Let.rebuilt") (fnA (pgI 5 3)) (FuncBody.stmts (fnB9 (pgI 5 3))) (fnS (pgI 5 3)) 3 [] .none .none .none (vs9 "lazycore.core" 187) none (.ref 208) .none 0)) #[])
noncomputable def o210 (P : Params) : Obj := (Obj.mk (.type "tuple") none (Data.seq #[(vs9 "binds" 442), (vs9 "body" 443), (vs9 "is_rec" 444)] 0) #[])
noncomputable def o211 (P : Params) : Obj := (Obj.mk (.type "dict") none (Data.dict #[(de9 P "__module__" 409 (vs9 "lazycore.core" 187)), (de9 P "__firstlineno__" 413 (.int 57 412)), (de9 P "__init__" 423 (.ref 194)), (de9 P "groups" 429 (.ref 199)), (de9 P "parts" 435 (.ref 204)), (de9 P "rebuilt" 441 (.ref 209)), (de9 P "__static_attributes__" 445 (.ref 210)), (de9 P "__dict__" 447 (.ref 213)), (de9 P "__weakref__" 449 (.ref 214)), (de9 P "__doc__" 450 .none)] 4) #[])
noncomputable def o212 (P : Params) : Obj := (Obj.mk (.type "type") none (Data.cls (ClassData.mk (Str.ofString "Let") [(.type "object")] [(.ref 212), (.type "object")] 211 (Str.ofString "Let") true [] [] false none false)) #[none, none, (some (vs9 "Let" 402)), (some (vs9 "Let" 410)), (some (.builtin "object.__new__")), (some (.bool true))])
noncomputable def o213 (P : Params) : Obj := (Obj.mk (.type "getset_descriptor") none (Data.fields #[(vs9 "__dict__" 446), (.ref 212), (.builtin "function.__dict__"), (.builtin "function.__dict__#set")]) #[])
noncomputable def o214 (P : Params) : Obj := (Obj.mk (.type "getset_descriptor") none (Data.fields #[(vs9 "__weakref__" 448), (.ref 212), (.builtin "ExceptionGroup.__weakref__"), .none]) #[])
noncomputable def o215 (P : Params) : Obj := (Obj.mk (.type "super") none (Data.fields #[(.ref 212), (.ref 212), (.ref 212)]) #[])
noncomputable def o216 (P : Params) : Obj := (Obj.mk (.type "builtin_function_or_method") none (Data.fields #[(.builtin "object.__init_subclass__"), (.ref 212)]) #[])
noncomputable def o217 (P : Params) : Obj := (Obj.mk (.type "tuple") none (Data.seq #[] 0) #[])
noncomputable def o218 (P : Params) : Obj := (Obj.mk (.type "builtin_function_or_method") none (Data.fields #[(.builtin "type.__prepare__"), (.type "type")]) #[])
noncomputable def o219 (P : Params) : Obj := (Obj.mk (.type "dict") none (Data.dict #[(de9 P "__module__" 460 (vs9 "lazycore.core" 187)), (de9 P "__qualname__" 462 (vs9 "Alt" 461)), (de9 P "__firstlineno__" 464 (.int 74 463)), (de9 P "__init__" 474 (.ref 230)), (de9 P "__static_attributes__" 478 (.ref 231))] 5) #[])
noncomputable def o220 (P : Params) : Obj := (Obj.mk (.type "tuple") none (Data.seq #[] 0) #[])
noncomputable def o221 (P : Params) : Obj := (Obj.mk .none none (Data.fields #[(.int 76 0), (.int 4 0), (.ref 229)]) #[])
noncomputable def o222 (P : Params) : Obj := (Obj.mk (.type "code") none (Data.fields #[(vs9 "Alt" 455), (vs9 "Alt" 456), (vs9 "/claim/cut.py" 457), (.int 74 0), (.int 0 0), (.int 0 0), (.int 0 0), (.int 0 0), (.ref 220), (.bool false), (.int 181 0), (.ref 221), .none, .none, .none, .none, (.int 458 0), (.int 74 0), (vs9 "/claim/cut.py" 459)]) #[])
noncomputable def o223 (P : Params) : Obj := (Obj.mk (.type "frame") none Data.plain #[(some (.ref 222)), (some (.ref 3)), (some (.ref 219)), none, (some (vs9 "lazycore.core" 187)), none, (some (.ref 0))])
noncomputable def o224 (P : Params) : Obj := (Obj.mk (.type "tuple") none (Data.seq #[] 0) #[])
noncomputable def o225 (P : Params) : Obj := (Obj.mk .none none (Data.fields #[]) #[])
noncomputable def o226 (P : Params) : Obj := (Obj.mk (.type "tuple") none (Data.seq #[(vs9 "self" 468), (vs9 "key" 469), (vs9 "names" 470), (vs9 "body" 471)] 0) #[])
noncomputable def o227 (P : Params) : Obj := (Obj.mk (.type "tuple") none (Data.seq #[] 0) #[])
noncomputable def o228 (P : Params) : Obj := fo9 "__init__" "Alt.__init__" (pgI 6 0)
noncomputable def o229 (P : Params) : Obj := (Obj.mk (.type "code") none (Data.fields #[(vs9 "__init__" 465), (vs9 "Alt.__init__" 466), (vs9 "/claim/cut.py" 467), (.int 76 0), (.int 4 0), (.int 0 0), (.int 0 0), (.int 3 0), (.ref 224), (.bool true), (.int 181 0), (.ref 225), .none, (.ref 226), (.ref 227), (.ref 228), (.int 472 0), (.int 76 0), (vs9 "/claim/cut.py" 473)]) #[])
noncomputable def o230 (P : Params) : Obj := (Obj.mk (.type "function") none (Data.func (FuncData.mk (Str.ofString "__init__") (Str.ofString "Alt.__init__") (fnA (pgI 6 0)) (FuncBody.stmts (fnB9 (pgI 6 0))) (fnS (pgI 6 0)) 3 [] .none .none .none (vs9 "lazycore.core" 187) none (.ref 229) .none 0)) #[])
noncomputable def o231 (P : Params) : Obj := (Obj.mk (.type "tuple") none (Data.seq #[(vs9 "body" 475), (vs9 "key" 476), (vs9 "names" 477)] 0) #[])
noncomputable def o232 (P : Params) : Obj := (Obj.mk (.type "dict") none (Data.dict #[(de9 P "__module__" 460 (vs9 "lazycore.core" 187)), (de9 P "__firstlineno__" 464 (.int 74 463)), (de9 P "__init__" 474 (.ref 230)), (de9 P "__static_attributes__" 478 (.ref 231)), (de9 P "__dict__" 480 (.ref 234)), (de9 P "__weakref__" 482 (.ref 235)), (de9 P "__doc__" 483 .none)] 4) #[])
noncomputable def o233 (P : Params) : Obj := (Obj.mk (.type "type") none (Data.cls (ClassData.mk (Str.ofString "Alt") [(.type "object")] [(.ref 233), (.type "object")] 232 (Str.ofString "Alt") true [] [] false none false)) #[none, none, (some (vs9 "Alt" 453)), (some (vs9 "Alt" 461)), (some (.builtin "object.__new__")), (some (.bool true))])
noncomputable def o234 (P : Params) : Obj := (Obj.mk (.type "getset_descriptor") none (Data.fields #[(vs9 "__dict__" 479), (.ref 233), (.builtin "function.__dict__"), (.builtin "function.__dict__#set")]) #[])
noncomputable def o235 (P : Params) : Obj := (Obj.mk (.type "getset_descriptor") none (Data.fields #[(vs9 "__weakref__" 481), (.ref 233), (.builtin "ExceptionGroup.__weakref__"), .none]) #[])
noncomputable def o236 (P : Params) : Obj := (Obj.mk (.type "super") none (Data.fields #[(.ref 233), (.ref 233), (.ref 233)]) #[])
noncomputable def o237 (P : Params) : Obj := (Obj.mk (.type "builtin_function_or_method") none (Data.fields #[(.builtin "object.__init_subclass__"), (.ref 233)]) #[])
noncomputable def o238 (P : Params) : Obj := (Obj.mk (.type "tuple") none (Data.seq #[] 0) #[])
noncomputable def o239 (P : Params) : Obj := (Obj.mk (.type "builtin_function_or_method") none (Data.fields #[(.builtin "type.__prepare__"), (.type "type")]) #[])
noncomputable def o240 (P : Params) : Obj := (Obj.mk (.type "dict") none (Data.dict #[(de9 P "__module__" 493 (vs9 "lazycore.core" 187)), (de9 P "__qualname__" 495 (vs9 "Case" 494)), (de9 P "__firstlineno__" 497 (.int 80 496)), (de9 P "__init__" 508 (.ref 251)), (de9 P "groups" 514 (.ref 256)), (de9 P "parts" 523 (.ref 263)), (de9 P "rebuilt" 534 (.ref 270)), (de9 P "__static_attributes__" 539 (.ref 271))] 8) #[])
noncomputable def o241 (P : Params) : Obj := (Obj.mk (.type "tuple") none (Data.seq #[] 0) #[])
noncomputable def o242 (P : Params) : Obj := (Obj.mk .none none (Data.fields #[(.int 82 0), (.int 4 0), (.ref 250), (.int 88 0), (.int 4 0), (.ref 255), (.int 91 0), (.int 4 0), (.ref 262), (.int 97 0), (.int 4 0), (.ref 269)]) #[])
noncomputable def o243 (P : Params) : Obj := (Obj.mk (.type "code") none (Data.fields #[(vs9 "Case" 488), (vs9 "Case" 489), (vs9 "/claim/cut.py" 490), (.int 80 0), (.int 0 0), (.int 0 0), (.int 0 0), (.int 0 0), (.ref 241), (.bool false), (.int 181 0), (.ref 242), .none, .none, .none, .none, (.int 491 0), (.int 80 0), (vs9 "/claim/cut.py" 492)]) #[])
noncomputable def o244 (P : Params) : Obj := (Obj.mk (.type "frame") none Data.plain #[(some (.ref 243)), (some (.ref 3)), (some (.ref 240)), none, (some (vs9 "lazycore.core" 187)), none, (some (.ref 0))])
noncomputable def o245 (P : Params) : Obj := (Obj.mk (.type "tuple") none (Data.seq #[] 0) #[])
noncomputable def o246 (P : Params) : Obj := (Obj.mk .none none (Data.fields #[]) #[])
noncomputable def o247 (P : Params) : Obj := (Obj.mk (.type "tuple") none (Data.seq #[(vs9 "self" 501), (vs9 "value" 502), (vs9 "name" 503), (vs9 "alts" 504), (vs9 "other" 505)] 0) #[])
noncomputable def o248 (P : Params) : Obj := (Obj.mk (.type "tuple") none (Data.seq #[] 0) #[])
noncomputable def o249 (P : Params) : Obj := fo9 "__init__" "Case.__init__" (pgI 7 0)
noncomputable def o250 (P : Params) : Obj := (Obj.mk (.type "code") none (Data.fields #[(vs9 "__init__" 498), (vs9 "Case.__init__" 499), (vs9 "/claim/cut.py" 500), (.int 82 0), (.int 5 0), (.int 0 0), (.int 0 0), (.int 3 0), (.ref 245), (.bool true), (.int 181 0), (.ref 246), .none, (.ref 247), (.ref 248), (.ref 249), (.int 506 0), (.int 82 0), (vs9 "/claim/cut.py" 507)]) #[])
noncomputable def o251 (P : Params) : Obj := (Obj.mk (.type "function") none (Data.func (FuncData.mk (Str.ofString "__init__") (Str.ofString "Case.__init__") (fnA (pgI 7 0)) (FuncBody.stmts (fnB9 (pgI 7 0))) (fnS (pgI 7 0)) 3 [] .none .none .none (vs9 "lazycore.core" 187) none (.ref 250) .none 0)) #[])
noncomputable def o252 (P : Params) : Obj := (Obj.mk (.type "tuple") none (Data.seq #[] 0) #[])
noncomputable def o253 (P : Params) : Obj := (Obj.mk .none none (Data.fields #[]) #[])
noncomputable def o254 (P : Params) : Obj := fo9 "groups" "Case.groups" (pgI 7 1)
noncomputable def o255 (P : Params) : Obj := (Obj.mk (.type "code") none (Data.fields #[(vs9 "groups" 509), (vs9 "Case.groups" 510), (vs9 "/claim/cut.py" 511), (.int 88 0), (.int 1 0), (.int 0 0), (.int 0 0), (.int 3 0), (.ref 252), (.bool true), (.int 181 0), (.ref 253), .none, .none, .none, (.ref 254), (.int 512 0), (.int 88 0), (vs9 "/claim/cut.py" 513)]) #[])
noncomputable def o256 (P : Params) : Obj := (Obj.mk (.type "function") none (Data.func (FuncData.mk (Str.ofString "groups") (Str.ofString "Case.groups") (fnA (pgI 7 1)) (FuncBody.stmts (fnB9 (pgI 7 1))) (fnS (pgI 7 1)) 3 [] .none .none .none (vs9 "lazycore.core" 187) none (.ref 255) .none 0)) #[])
noncomputable def o257 (P : Params) : Obj := (Obj.mk (.type "tuple") none (Data.seq #[] 0) #[])
noncomputable def o258 (P : Params) : Obj := (Obj.mk .none none (Data.fields #[]) #[])
noncomputable def o259 (P : Params) : Obj := (Obj.mk (.type "tuple") none (Data.seq #[(vs9 "self" 518), (vs9 "found" 519), (vs9 "at" 520)] 0) #[])
noncomputable def o260 (P : Params) : Obj := (Obj.mk (.type "tuple") none (Data.seq #[] 0) #[])
noncomputable def o261 (P : Params) : Obj := fo9 "parts" "Case.parts" (pgI 7 2)
noncomputable def o262 (P : Params) : Obj := (Obj.mk (.type "code") none (Data.fields #[(vs9 "parts" 515), (vs9 "Case.parts" 516), (vs9 "/claim/cut.py" 517), (.int 91 0), (.int 1 0), (.int 0 0), (.int 0 0), (.int 3 0), (.ref 257), (.bool true), (.int 181 0), (.ref 258), .none, (.ref 259), (.ref 260), (.ref 261), (.int 521 0), (.int 91 0), (vs9 "/claim/cut.py" 522)]) #[])
noncomputable def o263 (P : Params) : Obj := (Obj.mk (.type "function") none (Data.func (FuncData.mk (Str.ofString "parts") (Str.ofString "Case.parts") (fnA (pgI 7 2)) (FuncBody.stmts (fnB9 (pgI 7 2))) (fnS (pgI 7 2)) 3 [] .none .none .none (vs9 "lazycore.core" 187) none (.ref 262) .none 0)) #[])
noncomputable def o264 (P : Params) : Obj := (Obj.mk (.type "tuple") none (Data.seq #[] 0) #[])
noncomputable def o265 (P : Params) : Obj := (Obj.mk .none none (Data.fields #[]) #[])
noncomputable def o266 (P : Params) : Obj := (Obj.mk (.type "tuple") none (Data.seq #[(vs9 "self" 527), (vs9 "groups" 528), (vs9 "parts" 529), (vs9 "alts" 530), (vs9 "at" 531)] 0) #[])
noncomputable def o267 (P : Params) : Obj := (Obj.mk (.type "tuple") none (Data.seq #[] 0) #[])
noncomputable def o268 (P : Params) : Obj := fo9 "rebuilt" "Case.rebuilt" (pgI 7 3)
noncomputable def o269 (P : Params) : Obj := (Obj.mk (.type "code") none (Data.fields #[(vs9 "rebuilt" 524), (vs9 "Case.rebuilt" 525), (vs9 "/claim/cut.py" 526), (.int 97 0), (.int 3 0), (.int 0 0), (.int 0 0), (.int 3 0), (.ref 264), (.bool true), (.int 181 0), (.ref 265), .none, (.ref 266), (.ref 267), (.ref 268), (.int 532 0), (.int 97 0), (vs9 "/claim/cut.py" 533)]) #[])
noncomputable def o270 (P : Params) : Obj := (Obj.mk (.type "function") none (Data.func (FuncData.mk (Str.ofString "rebuilt") (Str.ofString "Case.rebuilt") (fnA (pgI 7 3)) (FuncBody.stmts (fnB9 (pgI 7 3))) (fnS (pgI 7 3)) 3 [] .none .none .none (vs9 "lazycore.core" 187) none (.ref 269) .none 0)) #[])
noncomputable def o271 (P : Params) : Obj := (Obj.mk (.type "tuple") none (Data.seq #[(vs9 "alts" 535), (vs9 "name" 536), (vs9 "other" 537), (vs9 "value" 538)] 0) #[])
noncomputable def o272 (P : Params) : Obj := (Obj.mk (.type "dict") none (Data.dict #[(de9 P "__module__" 493 (vs9 "lazycore.core" 187)), (de9 P "__firstlineno__" 497 (.int 80 496)), (de9 P "__init__" 508 (.ref 251)), (de9 P "groups" 514 (.ref 256)), (de9 P "parts" 523 (.ref 263)), (de9 P "rebuilt" 534 (.ref 270)), (de9 P "__static_attributes__" 539 (.ref 271)), (de9 P "__dict__" 541 (.ref 274)), (de9 P "__weakref__" 543 (.ref 275)), (de9 P "__doc__" 544 .none)] 4) #[])
noncomputable def o273 (P : Params) : Obj := (Obj.mk (.type "type") none (Data.cls (ClassData.mk (Str.ofString "Case") [(.type "object")] [(.ref 273), (.type "object")] 272 (Str.ofString "Case") true [] [] false none false)) #[none, none, (some (vs9 "Case" 486)), (some (vs9 "Case" 494)), (some (.builtin "object.__new__")), (some (.bool true))])
noncomputable def o274 (P : Params) : Obj := (Obj.mk (.type "getset_descriptor") none (Data.fields #[(vs9 "__dict__" 540), (.ref 273), (.builtin "function.__dict__"), (.builtin "function.__dict__#set")]) #[])
noncomputable def o275 (P : Params) : Obj := (Obj.mk (.type "getset_descriptor") none (Data.fields #[(vs9 "__weakref__" 542), (.ref 273), (.builtin "ExceptionGroup.__weakref__"), .none]) #[])
noncomputable def o276 (P : Params) : Obj := (Obj.mk (.type "super") none (Data.fields #[(.ref 273), (.ref 273), (.ref 273)]) #[])
noncomputable def o277 (P : Params) : Obj := (Obj.mk (.type "builtin_function_or_method") none (Data.fields #[(.builtin "object.__init_subclass__"), (.ref 273)]) #[])
noncomputable def o278 (P : Params) : Obj := (Obj.mk (.type "tuple") none (Data.seq #[] 0) #[])
noncomputable def o279 (P : Params) : Obj := (Obj.mk (.type "builtin_function_or_method") none (Data.fields #[(.builtin "type.__prepare__"), (.type "type")]) #[])
noncomputable def o280 (P : Params) : Obj := (Obj.mk (.type "dict") none (Data.dict #[(de9 P "__module__" 554 (vs9 "lazycore.core" 187)), (de9 P "__qualname__" 556 (vs9 "Con" 555)), (de9 P "__firstlineno__" 558 (.int 102 557)), (de9 P "__init__" 567 (.ref 291)), (de9 P "groups" 574 (.ref 298)), (de9 P "parts" 580 (.ref 303)), (de9 P "rebuilt" 589 (.ref 310)), (de9 P "__static_attributes__" 592 (.ref 311))] 8) #[])
noncomputable def o281 (P : Params) : Obj := (Obj.mk (.type "tuple") none (Data.seq #[] 0) #[])
noncomputable def o282 (P : Params) : Obj := (Obj.mk .none none (Data.fields #[(.int 104 0), (.int 4 0), (.ref 290), (.int 108 0), (.int 4 0), (.ref 297), (.int 111 0), (.int 4 0), (.ref 302), (.int 114 0), (.int 4 0), (.ref 309)]) #[])
noncomputable def o283 (P : Params) : Obj := (Obj.mk (.type "code") none (Data.fields #[(vs9 "Con" 549), (vs9 "Con" 550), (vs9 "/claim/cut.py" 551), (.int 102 0), (.int 0 0), (.int 0 0), (.int 0 0), (.int 0 0), (.ref 281), (.bool false), (.int 181 0), (.ref 282), .none, .none, .none, .none, (.int 552 0), (.int 102 0), (vs9 "/claim/cut.py" 553)]) #[])
noncomputable def o284 (P : Params) : Obj := (Obj.mk (.type "frame") none Data.plain #[(some (.ref 283)), (some (.ref 3)), (some (.ref 280)), none, (some (vs9 "lazycore.core" 187)), none, (some (.ref 0))])
noncomputable def o285 (P : Params) : Obj := (Obj.mk (.type "tuple") none (Data.seq #[] 0) #[])
noncomputable def o286 (P : Params) : Obj := (Obj.mk .none none (Data.fields #[]) #[])
noncomputable def o287 (P : Params) : Obj := (Obj.mk (.type "tuple") none (Data.seq #[(vs9 "self" 562), (vs9 "name" 563), (vs9 "args" 564)] 0) #[])
noncomputable def o288 (P : Params) : Obj := (Obj.mk (.type "tuple") none (Data.seq #[] 0) #[])
noncomputable def o289 (P : Params) : Obj := fo9 "__init__" "Con.__init__" (pgI 8 0)
noncomputable def o290 (P : Params) : Obj := (Obj.mk (.type "code") none (Data.fields #[(vs9 "__init__" 559), (vs9 "Con.__init__" 560), (vs9 "/claim/cut.py" 561), (.int 104 0), (.int 3 0), (.int 0 0), (.int 0 0), (.int 3 0), (.ref 285), (.bool true), (.int 181 0), (.ref 286), .none, (.ref 287), (.ref 288), (.ref 289), (.int 565 0), (.int 104 0), (vs9 "/claim/cut.py" 566)]) #[])
noncomputable def o291 (P : Params) : Obj := (Obj.mk (.type "function") none (Data.func (FuncData.mk (Str.ofString "__init__") (Str.ofString "Con.__init__") (fnA (pgI 8 0)) (FuncBody.stmts (fnB9 (pgI 8 0))) (fnS (pgI 8 0)) 3 [] .none .none .none (vs9 "lazycore.core" 187) none (.ref 290) .none 0)) #[])
noncomputable def o292 (P : Params) : Obj := (Obj.mk (.type "tuple") none (Data.seq #[] 0) #[])
noncomputable def o293 (P : Params) : Obj := (Obj.mk .none none (Data.fields #[]) #[])
noncomputable def o294 (P : Params) : Obj := (Obj.mk (.type "tuple") none (Data.seq #[(vs9 "self" 571)] 0) #[])
noncomputable def o295 (P : Params) : Obj := (Obj.mk (.type "tuple") none (Data.seq #[] 0) #[])
noncomputable def o296 (P : Params) : Obj := (Obj.mk .none none (Data.func (FuncData.mk (Str.ofString "groups") (Str.ofString "Con.groups") (fnA (pgI 8 1)) (FuncBody.stmts (fnB9 (pgI 8 1))) (fnS (pgI 14 0)) 0 [] .none .none .none .none none .none .none 0)) #[])
noncomputable def o297 (P : Params) : Obj := (Obj.mk (.type "code") none (Data.fields #[(vs9 "groups" 568), (vs9 "Con.groups" 569), (vs9 "/claim/cut.py" 570), (.int 108 0), (.int 1 0), (.int 0 0), (.int 0 0), (.int 3 0), (.ref 292), (.bool true), (.int 181 0), (.ref 293), .none, (.ref 294), (.ref 295), (.ref 296), (.int 572 0), (.int 108 0), (vs9 "/claim/cut.py" 573)]) #[])
noncomputable def o298 (P : Params) : Obj := (Obj.mk (.type "function") none (Data.func (FuncData.mk (Str.ofString "groups") (Str.ofString "Con.groups") (fnA (pgI 8 1)) (FuncBody.stmts (fnB9 (pgI 8 1))) (fnS (pgI 14 0)) 3 [] .none .none .none (vs9 "lazycore.core" 187) none (.ref 297) .none 0)) #[])
noncomputable def o299 (P : Params) : Obj := (Obj.mk (.type "tuple") none (Data.seq #[] 0) #[])
noncomputable def o300 (P : Params) : Obj := (Obj.mk .none none (Data.fields #[]) #[])
noncomputable def o301 (P : Params) : Obj := (Obj.mk .none none (Data.func (FuncData.mk (Str.ofString "parts") (Str.ofString "Con.parts") (fnA (pgI 8 2)) (FuncBody.stmts (fnB9 (pgI 8 2))) (fnS (pgI 9 2)) 0 [] .none .none .none .none none .none .none 0)) #[])
noncomputable def o302 (P : Params) : Obj := (Obj.mk (.type "code") none (Data.fields #[(vs9 "parts" 575), (vs9 "Con.parts" 576), (vs9 "/claim/cut.py" 577), (.int 111 0), (.int 1 0), (.int 0 0), (.int 0 0), (.int 3 0), (.ref 299), (.bool true), (.int 181 0), (.ref 300), .none, .none, .none, (.ref 301), (.int 578 0), (.int 111 0), (vs9 "/claim/cut.py" 579)]) #[])
noncomputable def o303 (P : Params) : Obj := (Obj.mk (.type "function") none (Data.func (FuncData.mk (Str.ofString "parts") (Str.ofString "Con.parts") (fnA (pgI 8 2)) (FuncBody.stmts (fnB9 (pgI 8 2))) (fnS (pgI 9 2)) 3 [] .none .none .none (vs9 "lazycore.core" 187) none (.ref 302) .none 0)) #[])
noncomputable def o304 (P : Params) : Obj := (Obj.mk (.type "tuple") none (Data.seq #[] 0) #[])
noncomputable def o305 (P : Params) : Obj := (Obj.mk .none none (Data.fields #[]) #[])
noncomputable def o306 (P : Params) : Obj := (Obj.mk (.type "tuple") none (Data.seq #[(vs9 "self" 584), (vs9 "groups" 585), (vs9 "parts" 586)] 0) #[])
noncomputable def o307 (P : Params) : Obj := (Obj.mk (.type "tuple") none (Data.seq #[] 0) #[])
noncomputable def o308 (P : Params) : Obj := fo9 "rebuilt" "Con.rebuilt" (pgI 8 3)
noncomputable def o309 (P : Params) : Obj := (Obj.mk (.type "code") none (Data.fields #[(vs9 "rebuilt" 581), (vs9 "Con.rebuilt" 582), (vs9 "/claim/cut.py" 583), (.int 114 0), (.int 3 0), (.int 0 0), (.int 0 0), (.int 3 0), (.ref 304), (.bool true), (.int 181 0), (.ref 305), .none, (.ref 306), (.ref 307), (.ref 308), (.int 587 0), (.int 114 0), (vs9 "/claim/cut.py" 588)]) #[])
noncomputable def o310 (P : Params) : Obj := (Obj.mk (.type "function") none (Data.func (FuncData.mk (Str.ofString "rebuilt") (Str.ofString "Con.rebuilt") (fnA (pgI 8 3)) (FuncBody.stmts (fnB9 (pgI 8 3))) (fnS (pgI 8 3)) 3 [] .none .none .none (vs9 "lazycore.core" 187) none (.ref 309) .none 0)) #[])
noncomputable def o311 (P : Params) : Obj := (Obj.mk (.type "tuple") none (Data.seq #[(vs9 "args" 590), (vs9 "name" 591)] 0) #[])
noncomputable def o312 (P : Params) : Obj := (Obj.mk (.type "dict") none (Data.dict #[(de9 P "__module__" 554 (vs9 "lazycore.core" 187)), (de9 P "__firstlineno__" 558 (.int 102 557)), (de9 P "__init__" 567 (.ref 291)), (de9 P "groups" 574 (.ref 298)), (de9 P "parts" 580 (.ref 303)), (de9 P "rebuilt" 589 (.ref 310)), (de9 P "__static_attributes__" 592 (.ref 311)), (de9 P "__dict__" 594 (.ref 314)), (de9 P "__weakref__" 596 (.ref 315)), (de9 P "__doc__" 597 .none)] 4) #[])
noncomputable def o313 (P : Params) : Obj := (Obj.mk (.type "type") none (Data.cls (ClassData.mk (Str.ofString "Con") [(.type "object")] [(.ref 313), (.type "object")] 312 (Str.ofString "Con") true [] [] false none false)) #[none, none, (some (vs9 "Con" 547)), (some (vs9 "Con" 555)), (some (.builtin "object.__new__")), (some (.bool true))])
noncomputable def o314 (P : Params) : Obj := (Obj.mk (.type "getset_descriptor") none (Data.fields #[(vs9 "__dict__" 593), (.ref 313), (.builtin "function.__dict__"), (.builtin "function.__dict__#set")]) #[])
noncomputable def o315 (P : Params) : Obj := (Obj.mk (.type "getset_descriptor") none (Data.fields #[(vs9 "__weakref__" 595), (.ref 313), (.builtin "ExceptionGroup.__weakref__"), .none]) #[])
noncomputable def o316 (P : Params) : Obj := (Obj.mk (.type "super") none (Data.fields #[(.ref 313), (.ref 313), (.ref 313)]) #[])
noncomputable def o317 (P : Params) : Obj := (Obj.mk (.type "builtin_function_or_method") none (Data.fields #[(.builtin "object.__init_subclass__"), (.ref 313)]) #[])
noncomputable def o318 (P : Params) : Obj := (Obj.mk (.type "tuple") none (Data.seq #[] 0) #[])
noncomputable def o319 (P : Params) : Obj := (Obj.mk (.type "builtin_function_or_method") none (Data.fields #[(.builtin "type.__prepare__"), (.type "type")]) #[])
noncomputable def o320 (P : Params) : Obj := (Obj.mk (.type "dict") none (Data.dict #[(de9 P "__module__" 607 (vs9 "lazycore.core" 187)), (de9 P "__qualname__" 609 (vs9 "Prim" 608)), (de9 P "__firstlineno__" 611 (.int 116 610)), (de9 P "__init__" 620 (.ref 331)), (de9 P "groups" 627 (.ref 338)), (de9 P "parts" 633 (.ref 343)), (de9 P "rebuilt" 642 (.ref 350)), (de9 P "__static_attributes__" 645 (.ref 351))] 8) #[])
noncomputable def o321 (P : Params) : Obj := (Obj.mk (.type "tuple") none (Data.seq #[] 0) #[])
noncomputable def o322 (P : Params) : Obj := (Obj.mk .none none (Data.fields #[(.int 118 0), (.int 4 0), (.ref 330), (.int 122 0), (.int 4 0), (.ref 337), (.int 125 0), (.int 4 0), (.ref 342), (.int 128 0), (.int 4 0), (.ref 349)]) #[])
noncomputable def o323 (P : Params) : Obj := (Obj.mk (.type "code") none (Data.fields #[(vs9 "Prim" 602), (vs9 "Prim" 603), (vs9 "/claim/cut.py" 604), (.int 116 0), (.int 0 0), (.int 0 0), (.int 0 0), (.int 0 0), (.ref 321), (.bool false), (.int 181 0), (.ref 322), .none, .none, .none, .none, (.int 605 0), (.int 116 0), (vs9 "/claim/cut.py" 606)]) #[])
noncomputable def o324 (P : Params) : Obj := (Obj.mk (.type "frame") none Data.plain #[(some (.ref 323)), (some (.ref 3)), (some (.ref 320)), none, (some (vs9 "lazycore.core" 187)), none, (some (.ref 0))])
noncomputable def o325 (P : Params) : Obj := (Obj.mk (.type "tuple") none (Data.seq #[] 0) #[])
noncomputable def o326 (P : Params) : Obj := (Obj.mk .none none (Data.fields #[]) #[])
noncomputable def o327 (P : Params) : Obj := (Obj.mk (.type "tuple") none (Data.seq #[(vs9 "self" 615), (vs9 "op" 616), (vs9 "args" 617)] 0) #[])
noncomputable def o328 (P : Params) : Obj := (Obj.mk (.type "tuple") none (Data.seq #[] 0) #[])
noncomputable def o329 (P : Params) : Obj := fo9 "__init__" "Prim.__init__" (pgI 9 0)
noncomputable def o330 (P : Params) : Obj := (Obj.mk (.type "code") none (Data.fields #[(vs9 "__init__" 612), (vs9 "Prim.__init__" 613), (vs9 "/claim/cut.py" 614), (.int 118 0), (.int 3 0), (.int 0 0), (.int 0 0), (.int 3 0), (.ref 325), (.bool true), (.int 181 0), (.ref 326), .none, (.ref 327), (.ref 328), (.ref 329), (.int 618 0), (.int 118 0), (vs9 "/claim/cut.py" 619)]) #[])
noncomputable def o331 (P : Params) : Obj := (Obj.mk (.type "function") none (Data.func (FuncData.mk (Str.ofString "__init__") (Str.ofString "Prim.__init__") (fnA (pgI 9 0)) (FuncBody.stmts (fnB9 (pgI 9 0))) (fnS (pgI 9 0)) 3 [] .none .none .none (vs9 "lazycore.core" 187) none (.ref 330) .none 0)) #[])
noncomputable def o332 (P : Params) : Obj := (Obj.mk (.type "tuple") none (Data.seq #[] 0) #[])
noncomputable def o333 (P : Params) : Obj := (Obj.mk .none none (Data.fields #[]) #[])
noncomputable def o334 (P : Params) : Obj := (Obj.mk (.type "tuple") none (Data.seq #[(vs9 "self" 624)] 0) #[])
noncomputable def o335 (P : Params) : Obj := (Obj.mk (.type "tuple") none (Data.seq #[] 0) #[])
noncomputable def o336 (P : Params) : Obj := (Obj.mk .none none (Data.func (FuncData.mk (Str.ofString "groups") (Str.ofString "Prim.groups") (fnA (pgI 9 1)) (FuncBody.stmts (fnB9 (pgI 9 1))) (fnS (pgI 14 0)) 0 [] .none .none .none .none none .none .none 0)) #[])
noncomputable def o337 (P : Params) : Obj := (Obj.mk (.type "code") none (Data.fields #[(vs9 "groups" 621), (vs9 "Prim.groups" 622), (vs9 "/claim/cut.py" 623), (.int 122 0), (.int 1 0), (.int 0 0), (.int 0 0), (.int 3 0), (.ref 332), (.bool true), (.int 181 0), (.ref 333), .none, (.ref 334), (.ref 335), (.ref 336), (.int 625 0), (.int 122 0), (vs9 "/claim/cut.py" 626)]) #[])
noncomputable def o338 (P : Params) : Obj := (Obj.mk (.type "function") none (Data.func (FuncData.mk (Str.ofString "groups") (Str.ofString "Prim.groups") (fnA (pgI 9 1)) (FuncBody.stmts (fnB9 (pgI 9 1))) (fnS (pgI 14 0)) 3 [] .none .none .none (vs9 "lazycore.core" 187) none (.ref 337) .none 0)) #[])
noncomputable def o339 (P : Params) : Obj := (Obj.mk (.type "tuple") none (Data.seq #[] 0) #[])
noncomputable def o340 (P : Params) : Obj := (Obj.mk .none none (Data.fields #[]) #[])
noncomputable def o341 (P : Params) : Obj := fo9 "parts" "Prim.parts" (pgI 9 2)
noncomputable def o342 (P : Params) : Obj := (Obj.mk (.type "code") none (Data.fields #[(vs9 "parts" 628), (vs9 "Prim.parts" 629), (vs9 "/claim/cut.py" 630), (.int 125 0), (.int 1 0), (.int 0 0), (.int 0 0), (.int 3 0), (.ref 339), (.bool true), (.int 181 0), (.ref 340), .none, .none, .none, (.ref 341), (.int 631 0), (.int 125 0), (vs9 "/claim/cut.py" 632)]) #[])
noncomputable def o343 (P : Params) : Obj := (Obj.mk (.type "function") none (Data.func (FuncData.mk (Str.ofString "parts") (Str.ofString "Prim.parts") (fnA (pgI 9 2)) (FuncBody.stmts (fnB9 (pgI 9 2))) (fnS (pgI 9 2)) 3 [] .none .none .none (vs9 "lazycore.core" 187) none (.ref 342) .none 0)) #[])
noncomputable def o344 (P : Params) : Obj := (Obj.mk (.type "tuple") none (Data.seq #[] 0) #[])
noncomputable def o345 (P : Params) : Obj := (Obj.mk .none none (Data.fields #[]) #[])
noncomputable def o346 (P : Params) : Obj := (Obj.mk (.type "tuple") none (Data.seq #[(vs9 "self" 637), (vs9 "groups" 638), (vs9 "parts" 639)] 0) #[])
noncomputable def o347 (P : Params) : Obj := (Obj.mk (.type "tuple") none (Data.seq #[] 0) #[])
noncomputable def o348 (P : Params) : Obj := fo9 "rebuilt" "Prim.rebuilt" (pgI 9 3)
noncomputable def o349 (P : Params) : Obj := (Obj.mk (.type "code") none (Data.fields #[(vs9 "rebuilt" 634), (vs9 "Prim.rebuilt" 635), (vs9 "/claim/cut.py" 636), (.int 128 0), (.int 3 0), (.int 0 0), (.int 0 0), (.int 3 0), (.ref 344), (.bool true), (.int 181 0), (.ref 345), .none, (.ref 346), (.ref 347), (.ref 348), (.int 640 0), (.int 128 0), (vs9 "/claim/cut.py" 641)]) #[])
noncomputable def o350 (P : Params) : Obj := (Obj.mk (.type "function") none (Data.func (FuncData.mk (Str.ofString "rebuilt") (Str.ofString "Prim.rebuilt") (fnA (pgI 9 3)) (FuncBody.stmts (fnB9 (pgI 9 3))) (fnS (pgI 9 3)) 3 [] .none .none .none (vs9 "lazycore.core" 187) none (.ref 349) .none 0)) #[])
noncomputable def o351 (P : Params) : Obj := (Obj.mk (.type "tuple") none (Data.seq #[(vs9 "args" 643), (vs9 "op" 644)] 0) #[])
noncomputable def o352 (P : Params) : Obj := (Obj.mk (.type "dict") none (Data.dict #[(de9 P "__module__" 607 (vs9 "lazycore.core" 187)), (de9 P "__firstlineno__" 611 (.int 116 610)), (de9 P "__init__" 620 (.ref 331)), (de9 P "groups" 627 (.ref 338)), (de9 P "parts" 633 (.ref 343)), (de9 P "rebuilt" 642 (.ref 350)), (de9 P "__static_attributes__" 645 (.ref 351)), (de9 P "__dict__" 647 (.ref 354)), (de9 P "__weakref__" 649 (.ref 355)), (de9 P "__doc__" 650 .none)] 4) #[])
noncomputable def o353 (P : Params) : Obj := (Obj.mk (.type "type") none (Data.cls (ClassData.mk (Str.ofString "Prim") [(.type "object")] [(.ref 353), (.type "object")] 352 (Str.ofString "Prim") true [] [] false none false)) #[none, none, (some (vs9 "Prim" 600)), (some (vs9 "Prim" 608)), (some (.builtin "object.__new__")), (some (.bool true))])
noncomputable def o354 (P : Params) : Obj := (Obj.mk (.type "getset_descriptor") none (Data.fields #[(vs9 "__dict__" 646), (.ref 353), (.builtin "function.__dict__"), (.builtin "function.__dict__#set")]) #[])
noncomputable def o355 (P : Params) : Obj := (Obj.mk (.type "getset_descriptor") none (Data.fields #[(vs9 "__weakref__" 648), (.ref 353), (.builtin "ExceptionGroup.__weakref__"), .none]) #[])
noncomputable def o356 (P : Params) : Obj := (Obj.mk (.type "super") none (Data.fields #[(.ref 353), (.ref 353), (.ref 353)]) #[])
noncomputable def o357 (P : Params) : Obj := (Obj.mk (.type "builtin_function_or_method") none (Data.fields #[(.builtin "object.__init_subclass__"), (.ref 353)]) #[])
noncomputable def o358 (P : Params) : Obj := (Obj.mk (.type "tuple") none (Data.seq #[] 0) #[])
noncomputable def o359 (P : Params) : Obj := (Obj.mk .none none (Data.fields #[]) #[])
noncomputable def o360 (P : Params) : Obj := (Obj.mk (.type "tuple") none (Data.seq #[(vs9 "names" 658), (vs9 "groups" 659), (vs9 "scope" 660), (vs9 "found" 661), (vs9 "number" 662), (vs9 "name" 663)] 0) #[])
noncomputable def o361 (P : Params) : Obj := (Obj.mk (.type "tuple") none (Data.seq #[] 0) #[])
noncomputable def o362 (P : Params) : Obj := fo9 "scoped" "scoped" (pgA 11)
noncomputable def o363 (P : Params) : Obj := (Obj.mk (.type "code") none (Data.fields #[(vs9 "scoped" 655), (vs9 "scoped" 656), (vs9 "/claim/cut.py" 657), (.int 131 0), (.int 3 0), (.int 0 0), (.int 0 0), (.int 3 0), (.ref 358), (.bool true), (.int 181 0), (.ref 359), .none, (.ref 360), (.ref 361), (.ref 362), (.int 664 0), (.int 131 0), (vs9 "/claim/cut.py" 665)]) #[])
noncomputable def o364 (P : Params) : Obj := (Obj.mk (.type "function") none (Data.func (FuncData.mk (Str.ofString "scoped") (Str.ofString "scoped") (fnA (pgA 11)) (FuncBody.stmts (fnB9 (pgA 11))) (fnS (pgA 11)) 3 [] .none .none .none (vs9 "lazycore.core_names" 653) none (.ref 363) .none 0)) #[])
noncomputable def o365 (P : Params) : Obj := (Obj.mk (.type "tuple") none (Data.seq #[] 0) #[])
noncomputable def o366 (P : Params) : Obj := (Obj.mk .none none (Data.fields #[]) #[])
noncomputable def o367 (P : Params) : Obj := (Obj.mk (.type "tuple") none (Data.seq #[(vs9 "expr" 670), (vs9 "found" 671), (vs9 "tasks" 672), (vs9 "node" 673), (vs9 "bound" 674), (vs9 "groups" 675), (vs9 "part" 676), (vs9 "scope" 677)] 0) #[])
noncomputable def o368 (P : Params) : Obj := (Obj.mk (.type "tuple") none (Data.seq #[] 0) #[])
noncomputable def o369 (P : Params) : Obj := fo9 "free_names" "free_names" (pgA 12)
noncomputable def o370 (P : Params) : Obj := (Obj.mk (.type "code") none (Data.fields #[(vs9 "free_names" 667), (vs9 "free_names" 668), (vs9 "/claim/cut.py" 669), (.int 139 0), (.int 1 0), (.int 0 0), (.int 0 0), (.int 3 0), (.ref 365), (.bool true), (.int 181 0), (.ref 366), .none, (.ref 367), (.ref 368), (.ref 369), (.int 678 0), (.int 139 0), (vs9 "/claim/cut.py" 679)]) #[])
noncomputable def o371 (P : Params) : Obj := (Obj.mk (.type "function") none (Data.func (FuncData.mk (Str.ofString "free_names") (Str.ofString "free_names") (fnA (pgA 12)) (FuncBody.stmts (fnB9 (pgA 12))) (fnS (pgA 12)) 3 [] .none .none .none (vs9 "lazycore.core_names" 653) none (.ref 370) .none 0)) #[])
noncomputable def o372 (P : Params) : Obj := (Obj.mk (.type "tuple") none (Data.seq #[] 0) #[])
noncomputable def o373 (P : Params) : Obj := (Obj.mk (.type "builtin_function_or_method") none (Data.fields #[(.builtin "type.__prepare__"), (.type "type")]) #[])
noncomputable def o374 (P : Params) : Obj := (Obj.mk (.type "dict") none (Data.dict #[(de9 P "__module__" 690 (vs9 "lazycore.occurrences" 681)), (de9 P "__qualname__" 692 (vs9 "Uses" 691)), (de9 P "__firstlineno__" 694 (.int 152 693)), (de9 P "__init__" 701 (.ref 385)), (de9 P "note" 709 (.ref 392)), (de9 P "__static_attributes__" 712 (.ref 393))] 6) #[])
noncomputable def o375 (P : Params) : Obj := (Obj.mk (.type "tuple") none (Data.seq #[] 0) #[])
noncomputable def o376 (P : Params) : Obj := (Obj.mk .none none (Data.fields #[(.int 154 0), (.int 4 0), (.ref 384), (.int 158 0), (.int 4 0), (.ref 391)]) #[])
noncomputable def o377 (P : Params) : Obj := (Obj.mk (.type "code") none (Data.fields #[(vs9 "Uses" 685), (vs9 "Uses" 686), (vs9 "/claim/cut.py" 687), (.int 152 0), (.int 0 0), (.int 0 0), (.int 0 0), (.int 0 0), (.ref 375), (.bool false), (.int 181 0), (.ref 376), .none, .none, .none, .none, (.int 688 0), (.int 152 0), (vs9 "/claim/cut.py" 689)]) #[])
noncomputable def o378 (P : Params) : Obj := (Obj.mk (.type "frame") none Data.plain #[(some (.ref 377)), (some (.ref 3)), (some (.ref 374)), none, (some (vs9 "lazycore.occurrences" 681)), none, (some (.ref 0))])
noncomputable def o379 (P : Params) : Obj := (Obj.mk (.type "tuple") none (Data.seq #[] 0) #[])
noncomputable def o380 (P : Params) : Obj := (Obj.mk .none none (Data.fields #[]) #[])
noncomputable def o381 (P : Params) : Obj := (Obj.mk (.type "tuple") none (Data.seq #[(vs9 "self" 698)] 0) #[])
noncomputable def o382 (P : Params) : Obj := (Obj.mk (.type "tuple") none (Data.seq #[] 0) #[])
noncomputable def o383 (P : Params) : Obj := fo9 "__init__" "Uses.__init__" (pgI 14 0)
noncomputable def o384 (P : Params) : Obj := (Obj.mk (.type "code") none (Data.fields #[(vs9 "__init__" 695), (vs9 "Uses.__init__" 696), (vs9 "/claim/cut.py" 697), (.int 154 0), (.int 1 0), (.int 0 0), (.int 0 0), (.int 3 0), (.ref 379), (.bool true), (.int 181 0), (.ref 380), .none, (.ref 381), (.ref 382), (.ref 383), (.int 699 0), (.int 154 0), (vs9 "/claim/cut.py" 700)]) #[])
noncomputable def o385 (P : Params) : Obj := (Obj.mk (.type "function") none (Data.func (FuncData.mk (Str.ofString "__init__") (Str.ofString "Uses.__init__") (fnA (pgI 14 0)) (FuncBody.stmts (fnB9 (pgI 14 0))) (fnS (pgI 14 0)) 3 [] .none .none .none (vs9 "lazycore.occurrences" 681) none (.ref 384) .none 0)) #[])
noncomputable def o386 (P : Params) : Obj := (Obj.mk (.type "tuple") none (Data.seq #[] 0) #[])
noncomputable def o387 (P : Params) : Obj := (Obj.mk .none none (Data.fields #[]) #[])
noncomputable def o388 (P : Params) : Obj := (Obj.mk (.type "tuple") none (Data.seq #[(vs9 "self" 705), (vs9 "in_function" 706)] 0) #[])
noncomputable def o389 (P : Params) : Obj := (Obj.mk (.type "tuple") none (Data.seq #[] 0) #[])
noncomputable def o390 (P : Params) : Obj := fo9 "note" "Uses.note" (pgI 14 1)
noncomputable def o391 (P : Params) : Obj := (Obj.mk (.type "code") none (Data.fields #[(vs9 "note" 702), (vs9 "Uses.note" 703), (vs9 "/claim/cut.py" 704), (.int 158 0), (.int 2 0), (.int 0 0), (.int 0 0), (.int 3 0), (.ref 386), (.bool true), (.int 181 0), (.ref 387), .none, (.ref 388), (.ref 389), (.ref 390), (.int 707 0), (.int 158 0), (vs9 "/claim/cut.py" 708)]) #[])
noncomputable def o392 (P : Params) : Obj := (Obj.mk (.type "function") none (Data.func (FuncData.mk (Str.ofString "note") (Str.ofString "Uses.note") (fnA (pgI 14 1)) (FuncBody.stmts (fnB9 (pgI 14 1))) (fnS (pgI 14 1)) 3 [] .none .none .none (vs9 "lazycore.occurrences" 681) none (.ref 391) .none 0)) #[])
noncomputable def o393 (P : Params) : Obj := (Obj.mk (.type "tuple") none (Data.seq #[(vs9 "in_function" 710), (vs9 "many" 711)] 0) #[])
noncomputable def o394 (P : Params) : Obj := (Obj.mk (.type "dict") none (Data.dict #[(de9 P "__module__" 690 (vs9 "lazycore.occurrences" 681)), (de9 P "__firstlineno__" 694 (.int 152 693)), (de9 P "__init__" 701 (.ref 385)), (de9 P "note" 709 (.ref 392)), (de9 P "__static_attributes__" 712 (.ref 393)), (de9 P "__dict__" 714 (.ref 396)), (de9 P "__weakref__" 716 (.ref 397)), (de9 P "__doc__" 717 .none)] 4) #[])
noncomputable def o395 (P : Params) : Obj := (Obj.mk (.type "type") none (Data.cls (ClassData.mk (Str.ofString "Uses") [(.type "object")] [(.ref 395), (.type "object")] 394 (Str.ofString "Uses") true [] [] false none false)) #[none, none, (some (vs9 "Uses" 683)), (some (vs9 "Uses" 691)), (some (.builtin "object.__new__")), (some (.bool true))])
noncomputable def o396 (P : Params) : Obj := (Obj.mk (.type "getset_descriptor") none (Data.fields #[(vs9 "__dict__" 713), (.ref 395), (.builtin "function.__dict__"), (.builtin "function.__dict__#set")]) #[])
noncomputable def o397 (P : Params) : Obj := (Obj.mk (.type "getset_descriptor") none (Data.fields #[(vs9 "__weakref__" 715), (.ref 395), (.builtin "ExceptionGroup.__weakref__"), .none]) #[])
noncomputable def o398 (P : Params) : Obj := (Obj.mk (.type "super") none (Data.fields #[(.ref 395), (.ref 395), (.ref 395)]) #[])
noncomputable def o399 (P : Params) : Obj := (Obj.mk (.type "builtin_function_or_method") none (Data.fields #[(.builtin "object.__init_subclass__"), (.ref 395)]) #[])
noncomputable def o400 (P : Params) : Obj := (Obj.mk (.type "tuple") none (Data.seq #[] 0) #[])
noncomputable def o401 (P : Params) : Obj := (Obj.mk .none none (Data.fields #[]) #[])
noncomputable def o402 (P : Params) : Obj := (Obj.mk (.type "tuple") none (Data.seq #[(vs9 "name" 723), (vs9 "expr" 724), (vs9 "found" 725), (vs9 "tasks" 726), (vs9 "node" 727), (vs9 "inside" 728), (vs9 "within" 729), (vs9 "part" 730), (vs9 "scope" 731)] 0) #[])
noncomputable def o403 (P : Params) : Obj := (Obj.mk (.type "tuple") none (Data.seq #[] 0) #[])
noncomputable def o404 (P : Params) : Obj := fo9 "uses_of" "uses_of" (pgA 15)
noncomputable def o405 (P : Params) : Obj := (Obj.mk (.type "code") none (Data.fields #[(vs9 "uses_of" 720), (vs9 "uses_of" 721), (vs9 "/claim/cut.py" 722), (.int 161 0), (.int 2 0), (.int 0 0), (.int 0 0), (.int 3 0), (.ref 400), (.bool true), (.int 181 0), (.ref 401), .none, (.ref 402), (.ref 403), (.ref 404), (.int 732 0), (.int 161 0), (vs9 "/claim/cut.py" 733)]) #[])
noncomputable def o406 (P : Params) : Obj := (Obj.mk (.type "function") none (Data.func (FuncData.mk (Str.ofString "uses_of") (Str.ofString "uses_of") (fnA (pgA 15)) (FuncBody.stmts (fnB9 (pgA 15))) (fnS (pgA 15)) 3 [] .none .none .none (vs9 "lazycore.occurrences" 681) none (.ref 405) .none 0)) #[])
noncomputable def o407 (P : Params) : Obj := (Obj.mk (.type "tuple") none (Data.seq #[] 0) #[])
noncomputable def o408 (P : Params) : Obj := (Obj.mk .none none (Data.fields #[]) #[])
noncomputable def o409 (P : Params) : Obj := (Obj.mk (.type "tuple") none (Data.seq #[(vs9 "expr" 738), (vs9 "found" 739), (vs9 "tasks" 740), (vs9 "node" 741), (vs9 "part" 742), (vs9 "scope" 743)] 0) #[])
noncomputable def o410 (P : Params) : Obj := (Obj.mk (.type "tuple") none (Data.seq #[] 0) #[])
noncomputable def o411 (P : Params) : Obj := fo9 "used_names" "used_names" (pgA 16)
noncomputable def o412 (P : Params) : Obj := (Obj.mk (.type "code") none (Data.fields #[(vs9 "used_names" 735), (vs9 "used_names" 736), (vs9 "/claim/cut.py" 737), (.int 171 0), (.int 1 0), (.int 0 0), (.int 0 0), (.int 3 0), (.ref 407), (.bool true), (.int 181 0), (.ref 408), .none, (.ref 409), (.ref 410), (.ref 411), (.int 744 0), (.int 171 0), (vs9 "/claim/cut.py" 745)]) #[])
noncomputable def o413 (P : Params) : Obj := (Obj.mk (.type "function") none (Data.func (FuncData.mk (Str.ofString "used_names") (Str.ofString "used_names") (fnA (pgA 16)) (FuncBody.stmts (fnB9 (pgA 16))) (fnS (pgA 16)) 3 [] .none .none .none (vs9 "lazycore.occurrences" 681) none (.ref 412) .none 0)) #[])
noncomputable def o414 (P : Params) : Obj := (Obj.mk (.type "tuple") none (Data.seq #[] 0) #[])
noncomputable def o415 (P : Params) : Obj := (Obj.mk .none none (Data.fields #[]) #[])
noncomputable def o416 (P : Params) : Obj := fo9 "reached" "reached" (pgA 18)
noncomputable def o417 (P : Params) : Obj := (Obj.mk (.type "code") none (Data.fields #[(vs9 "reached" 749), (vs9 "reached" 750), (vs9 "/claim/cut.py" 751), (.int 181 0), (.int 2 0), (.int 0 0), (.int 0 0), (.int 3 0), (.ref 414), (.bool true), (.int 181 0), (.ref 415), .none, .none, .none, (.ref 416), (.int 752 0), (.int 181 0), (vs9 "/claim/cut.py" 753)]) #[])
noncomputable def o418 (P : Params) : Obj := (Obj.mk (.type "function") none (Data.func (FuncData.mk (Str.ofString "reached") (Str.ofString "reached") (fnA (pgA 18)) (FuncBody.stmts (fnB9 (pgA 18))) (fnS (pgA 18)) 3 [] .none .none .none (vs9 "lazycore.simplify_lets" 747) none (.ref 417) .none 0)) #[])
noncomputable def o419 (P : Params) : Obj := (Obj.mk (.type "tuple") none (Data.seq #[] 0) #[])
noncomputable def o420 (P : Params) : Obj := (Obj.mk .none none (Data.fields #[]) #[])
noncomputable def o421 (P : Params) : Obj := fo9 "without_dead" "without_dead" (pgA 19)
noncomputable def o422 (P : Params) : Obj := (Obj.mk (.type "code") none (Data.fields #[(vs9 "without_dead" 755), (vs9 "without_dead" 756), (vs9 "/claim/cut.py" 757), (.int 191 0), (.int 1 0), (.int 0 0), (.int 0 0), (.int 3 0), (.ref 419), (.bool true), (.int 181 0), (.ref 420), .none, .none, .none, (.ref 421), (.int 758 0), (.int 191 0), (vs9 "/claim/cut.py" 759)]) #[])
noncomputable def o423 (P : Params) : Obj := (Obj.mk (.type "function") none (Data.func (FuncData.mk (Str.ofString "without_dead") (Str.ofString "without_dead") (fnA (pgA 19)) (FuncBody.stmts (fnB9 (pgA 19))) (fnS (pgA 19)) 3 [] .none .none .none (vs9 "lazycore.simplify_lets" 747) none (.ref 422) .none 0)) #[])
noncomputable def o424 (P : Params) : Obj := (Obj.mk (.type "tuple") none (Data.seq #[] 0) #[])
noncomputable def o425 (P : Params) : Obj := (Obj.mk .none none (Data.fields #[]) #[])
noncomputable def o426 (P : Params) : Obj := (Obj.mk (.type "tuple") none (Data.seq #[(vs9 "expr" 766), (vs9 "change" 767), (vs9 "tasks" 768), (vs9 "done" 769), (vs9 "node" 770), (vs9 "is_ready" 771), (vs9 "parts" 772), (vs9 "part" 773), (vs9 "scope" 774), (vs9 "found" 775), (vs9 "many" 776)] 0) #[])
noncomputable def o427 (P : Params) : Obj := (Obj.mk (.type "tuple") none (Data.seq #[] 0) #[])
noncomputable def o428 (P : Params) : Obj := fo9 "mapped" "mapped" (pgA 21)
noncomputable def o429 (P : Params) : Obj := (Obj.mk (.type "code") none (Data.fields #[(vs9 "mapped" 763), (vs9 "mapped" 764), (vs9 "/claim/cut.py" 765), (.int 201 0), (.int 2 0), (.int 0 0), (.int 0 0), (.int 3 0), (.ref 424), (.bool true), (.int 181 0), (.ref 425), .none, (.ref 426), (.ref 427), (.ref 428), (.int 777 0), (.int 201 0), (vs9 "/claim/cut.py" 778)]) #[])
noncomputable def o430 (P : Params) : Obj := (Obj.mk (.type "function") none (Data.func (FuncData.mk (Str.ofString "mapped") (Str.ofString "mapped") (fnA (pgA 21)) (FuncBody.stmts (fnB9 (pgA 21))) (fnS (pgA 21)) 3 [] .none .none .none (vs9 "lazycore.core_walk" 761) none (.ref 429) .none 0)) #[])
noncomputable def o431 (P : Params) : Obj := (Obj.mk (.type "tuple") none (Data.seq #[] 0) #[])
noncomputable def o432 (P : Params) : Obj := (Obj.mk .none none (Data.fields #[]) #[])
noncomputable def o433 (P : Params) : Obj := (Obj.mk (.type "tuple") none (Data.seq #[(vs9 "expr" 783), (vs9 "found" 784), (vs9 "tasks" 785), (vs9 "node" 786), (vs9 "part" 787), (vs9 "scope" 788)] 0) #[])
noncomputable def o434 (P : Params) : Obj := (Obj.mk (.type "tuple") none (Data.seq #[] 0) #[])
noncomputable def o435 (P : Params) : Obj := fo9 "nodes_of" "nodes_of" (pgA 22)
noncomputable def o436 (P : Params) : Obj := (Obj.mk (.type "code") none (Data.fields #[(vs9 "nodes_of" 780), (vs9 "nodes_of" 781), (vs9 "/claim/cut.py" 782), (.int 218 0), (.int 1 0), (.int 0 0), (.int 0 0), (.int 3 0), (.ref 431), (.bool true), (.int 181 0), (.ref 432), .none, (.ref 433), (.ref 434), (.ref 435), (.int 789 0), (.int 218 0), (vs9 "/claim/cut.py" 790)]) #[])
noncomputable def o437 (P : Params) : Obj := (Obj.mk (.type "function") none (Data.func (FuncData.mk (Str.ofString "nodes_of") (Str.ofString "nodes_of") (fnA (pgA 22)) (FuncBody.stmts (fnB9 (pgA 22))) (fnS (pgA 22)) 3 [] .none .none .none (vs9 "lazycore.core_walk" 761) none (.ref 436) .none 0)) #[])
noncomputable def o438 (P : Params) : Obj := (Obj.mk (.type "tuple") none (Data.seq #[] 0) #[])
noncomputable def o439 (P : Params) : Obj := (Obj.mk .none none (Data.fields #[]) #[])
noncomputable def o440 (P : Params) : Obj := (Obj.mk (.type "tuple") none (Data.seq #[(vs9 "expr" 795), (vs9 "most" 796), (vs9 "many" 797), (vs9 "tasks" 798), (vs9 "node" 799), (vs9 "part" 800), (vs9 "scope" 801)] 0) #[])
noncomputable def o441 (P : Params) : Obj := (Obj.mk (.type "tuple") none (Data.seq #[] 0) #[])
noncomputable def o442 (P : Params) : Obj := fo9 "size_of" "size_of" (pgA 23)
noncomputable def o443 (P : Params) : Obj := (Obj.mk (.type "code") none (Data.fields #[(vs9 "size_of" 792), (vs9 "size_of" 793), (vs9 "/claim/cut.py" 794), (.int 226 0), (.int 2 0), (.int 0 0), (.int 0 0), (.int 3 0), (.ref 438), (.bool true), (.int 181 0), (.ref 439), .none, (.ref 440), (.ref 441), (.ref 442), (.int 802 0), (.int 226 0), (vs9 "/claim/cut.py" 803)]) #[])
noncomputable def o444 (P : Params) : Obj := (Obj.mk (.type "function") none (Data.func (FuncData.mk (Str.ofString "size_of") (Str.ofString "size_of") (fnA (pgA 23)) (FuncBody.stmts (fnB9 (pgA 23))) (fnS (pgA 23)) 3 [] .none .none .none (vs9 "lazycore.core_walk" 761) none (.ref 443) .none 0)) #[])
noncomputable def o445 (P : Params) : Obj := (Obj.mk (.type "tuple") none (Data.seq #[] 0) #[])
noncomputable def o446 (P : Params) : Obj := (Obj.mk .none none (Data.fields #[]) #[])
noncomputable def o447 (P : Params) : Obj := (Obj.mk (.type "tuple") none (Data.seq #[(vs9 "script" 810), (vs9 "k" 811), (vs9 "cell" 812), (vs9 "big" 813), (vs9 "mixed" 814)] 0) #[])
noncomputable def o448 (P : Params) : Obj := (Obj.mk (.type "tuple") none (Data.seq #[] 0) #[])
noncomputable def o449 (P : Params) : Obj := fo9 "_law_pool" "_law_pool" (pgA 25)
noncomputable def o450 (P : Params) : Obj := (Obj.mk (.type "code") none (Data.fields #[(vs9 "_law_pool" 807), (vs9 "_law_pool" 808), (vs9 "/claim/cut.py" 809), (.int 235 0), (.int 2 0), (.int 0 0), (.int 0 0), (.int 3 0), (.ref 445), (.bool true), (.int 181 0), (.ref 446), .none, (.ref 447), (.ref 448), (.ref 449), (.int 815 0), (.int 235 0), (vs9 "/claim/cut.py" 816)]) #[])
noncomputable def o451 (P : Params) : Obj := (Obj.mk (.type "function") none (Data.func (FuncData.mk (Str.ofString "_law_pool") (Str.ofString "_law_pool") (fnA (pgA 25)) (FuncBody.stmts (fnB9 (pgA 25))) (fnS (pgA 25)) 3 [] .none .none .none (vs9 "law_og0013_01" 805) none (.ref 450) .none 0)) #[])
noncomputable def o452 (P : Params) : Obj := (Obj.mk (.type "tuple") none (Data.seq #[] 0) #[])
noncomputable def o453 (P : Params) : Obj := (Obj.mk .none none (Data.fields #[]) #[])
noncomputable def o454 (P : Params) : Obj := (Obj.mk (.type "tuple") none (Data.seq #[(vs9 "source" 821), (vs9 "top" 822), (vs9 "digit" 823)] 0) #[])
noncomputable def o455 (P : Params) : Obj := (Obj.mk (.type "tuple") none (Data.seq #[] 0) #[])
noncomputable def o456 (P : Params) : Obj := fo9 "_law_take" "_law_take" (pgA 26)
noncomputable def o457 (P : Params) : Obj := (Obj.mk (.type "code") none (Data.fields #[(vs9 "_law_take" 818), (vs9 "_law_take" 819), (vs9 "/claim/cut.py" 820), (.int 242 0), (.int 2 0), (.int 0 0), (.int 0 0), (.int 3 0), (.ref 452), (.bool true), (.int 181 0), (.ref 453), .none, (.ref 454), (.ref 455), (.ref 456), (.int 824 0), (.int 242 0), (vs9 "/claim/cut.py" 825)]) #[])
noncomputable def o458 (P : Params) : Obj := (Obj.mk (.type "function") none (Data.func (FuncData.mk (Str.ofString "_law_take") (Str.ofString "_law_take") (fnA (pgA 26)) (FuncBody.stmts (fnB9 (pgA 26))) (fnS (pgA 26)) 3 [] .none .none .none (vs9 "law_og0013_01" 805) none (.ref 457) .none 0)) #[])
noncomputable def o459 (P : Params) : Obj := (Obj.mk (.type "tuple") none (Data.seq #[] 0) #[])
noncomputable def o460 (P : Params) : Obj := (Obj.mk .none none (Data.fields #[]) #[])
noncomputable def o461 (P : Params) : Obj := (Obj.mk (.type "tuple") none (Data.seq #[(vs9 "source" 830), (vs9 "things" 831)] 0) #[])
noncomputable def o462 (P : Params) : Obj := (Obj.mk (.type "tuple") none (Data.seq #[] 0) #[])
noncomputable def o463 (P : Params) : Obj := fo9 "_law_one" "_law_one" (pgA 27)
noncomputable def o464 (P : Params) : Obj := (Obj.mk (.type "code") none (Data.fields #[(vs9 "_law_one" 827), (vs9 "_law_one" 828), (vs9 "/claim/cut.py" 829), (.int 249 0), (.int 2 0), (.int 0 0), (.int 0 0), (.int 3 0), (.ref 459), (.bool true), (.int 181 0), (.ref 460), .none, (.ref 461), (.ref 462), (.ref 463), (.int 832 0), (.int 249 0), (vs9 "/claim/cut.py" 833)]) #[])
noncomputable def o465 (P : Params) : Obj := (Obj.mk (.type "function") none (Data.func (FuncData.mk (Str.ofString "_law_one") (Str.ofString "_law_one") (fnA (pgA 27)) (FuncBody.stmts (fnB9 (pgA 27))) (fnS (pgA 27)) 3 [] .none .none .none (vs9 "law_og0013_01" 805) none (.ref 464) .none 0)) #[])
noncomputable def o466 (P : Params) : Obj := (Obj.mk (.type "tuple") none (Data.seq #[] 0) #[])
noncomputable def o467 (P : Params) : Obj := (Obj.mk .none none (Data.fields #[]) #[])
noncomputable def o468 (P : Params) : Obj := fo9 "_law_tree" "_law_tree" (pgA 28)
noncomputable def o469 (P : Params) : Obj := (Obj.mk (.type "code") none (Data.fields #[(vs9 "_law_tree" 835), (vs9 "_law_tree" 836), (vs9 "/claim/cut.py" 837), (.int 251 0), (.int 2 0), (.int 0 0), (.int 0 0), (.int 3 0), (.ref 466), (.bool true), (.int 181 0), (.ref 467), .none, .none, .none, (.ref 468), (.int 838 0), (.int 251 0), (vs9 "/claim/cut.py" 839)]) #[])
noncomputable def o470 (P : Params) : Obj := (Obj.mk (.type "function") none (Data.func (FuncData.mk (Str.ofString "_law_tree") (Str.ofString "_law_tree") (fnA (pgA 28)) (FuncBody.stmts (fnB9 (pgA 28))) (fnS (pgA 28)) 3 [] .none .none .none (vs9 "law_og0013_01" 805) none (.ref 469) .none 0)) #[])
noncomputable def o471 (P : Params) : Obj := (Obj.mk (.type "tuple") none (Data.seq #[] 0) #[])
noncomputable def o472 (P : Params) : Obj := (Obj.mk .none none (Data.fields #[]) #[])
noncomputable def o473 (P : Params) : Obj := fo9 "_law_inner" "_law_inner" (pgA 29)
noncomputable def o474 (P : Params) : Obj := (Obj.mk (.type "code") none (Data.fields #[(vs9 "_law_inner" 841), (vs9 "_law_inner" 842), (vs9 "/claim/cut.py" 843), (.int 273 0), (.int 1 0), (.int 0 0), (.int 0 0), (.int 3 0), (.ref 471), (.bool true), (.int 181 0), (.ref 472), .none, .none, .none, (.ref 473), (.int 844 0), (.int 273 0), (vs9 "/claim/cut.py" 845)]) #[])
noncomputable def o475 (P : Params) : Obj := (Obj.mk (.type "function") none (Data.func (FuncData.mk (Str.ofString "_law_inner") (Str.ofString "_law_inner") (fnA (pgA 29)) (FuncBody.stmts (fnB9 (pgA 29))) (fnS (pgA 29)) 3 [] .none .none .none (vs9 "law_og0013_01" 805) none (.ref 474) .none 0)) #[])
noncomputable def o476 (P : Params) : Obj := (Obj.mk (.type "tuple") none (Data.seq #[] 0) #[])
noncomputable def o477 (P : Params) : Obj := (Obj.mk .none none (Data.fields #[]) #[])
noncomputable def o478 (P : Params) : Obj := (Obj.mk (.type "tuple") none (Data.seq #[(vs9 "expr" 850), (vs9 "within" 851), (vs9 "found" 852), (vs9 "inner" 853)] 0) #[])
noncomputable def o479 (P : Params) : Obj := (Obj.mk (.type "tuple") none (Data.seq #[] 0) #[])
noncomputable def o480 (P : Params) : Obj := fo9 "_law_all" "_law_all" (pgA 30)
noncomputable def o481 (P : Params) : Obj := (Obj.mk (.type "code") none (Data.fields #[(vs9 "_law_all" 847), (vs9 "_law_all" 848), (vs9 "/claim/cut.py" 849), (.int 283 0), (.int 3 0), (.int 0 0), (.int 0 0), (.int 3 0), (.ref 476), (.bool true), (.int 181 0), (.ref 477), .none, (.ref 478), (.ref 479), (.ref 480), (.int 854 0), (.int 283 0), (vs9 "/claim/cut.py" 855)]) #[])
noncomputable def o482 (P : Params) : Obj := (Obj.mk (.type "function") none (Data.func (FuncData.mk (Str.ofString "_law_all") (Str.ofString "_law_all") (fnA (pgA 30)) (FuncBody.stmts (fnB9 (pgA 30))) (fnS (pgA 30)) 3 [] .none .none .none (vs9 "law_og0013_01" 805) none (.ref 481) .none 0)) #[])
noncomputable def o483 (P : Params) : Obj := (Obj.mk (.type "tuple") none (Data.seq #[] 0) #[])
noncomputable def o484 (P : Params) : Obj := (Obj.mk .none none (Data.fields #[]) #[])
noncomputable def o485 (P : Params) : Obj := fo9 "_law_head" "_law_head" (pgA 31)
noncomputable def o486 (P : Params) : Obj := (Obj.mk (.type "code") none (Data.fields #[(vs9 "_law_head" 857), (vs9 "_law_head" 858), (vs9 "/claim/cut.py" 859), (.int 288 0), (.int 1 0), (.int 0 0), (.int 0 0), (.int 3 0), (.ref 483), (.bool true), (.int 181 0), (.ref 484), .none, .none, .none, (.ref 485), (.int 860 0), (.int 288 0), (vs9 "/claim/cut.py" 861)]) #[])
noncomputable def o487 (P : Params) : Obj := (Obj.mk (.type "function") none (Data.func (FuncData.mk (Str.ofString "_law_head") (Str.ofString "_law_head") (fnA (pgA 31)) (FuncBody.stmts (fnB9 (pgA 31))) (fnS (pgA 31)) 3 [] .none .none .none (vs9 "law_og0013_01" 805) none (.ref 486) .none 0)) #[])
noncomputable def o488 (P : Params) : Obj := (Obj.mk (.type "tuple") none (Data.seq #[] 0) #[])
noncomputable def o489 (P : Params) : Obj := (Obj.mk .none none (Data.fields #[]) #[])
noncomputable def o490 (P : Params) : Obj := fo9 "_law_expression_right" "_law_expression_right" (pgA 32)
noncomputable def o491 (P : Params) : Obj := (Obj.mk (.type "code") none (Data.fields #[(vs9 "_law_expression_right" 863), (vs9 "_law_expression_right" 864), (vs9 "/claim/cut.py" 865), (.int 302 0), (.int 1 0), (.int 0 0), (.int 0 0), (.int 3 0), (.ref 488), (.bool true), (.int 181 0), (.ref 489), .none, .none, .none, (.ref 490), (.int 866 0), (.int 302 0), (vs9 "/claim/cut.py" 867)]) #[])
noncomputable def o492 (P : Params) : Obj := (Obj.mk (.type "function") none (Data.func (FuncData.mk (Str.ofString "_law_expression_right") (Str.ofString "_law_expression_right") (fnA (pgA 32)) (FuncBody.stmts (fnB9 (pgA 32))) (fnS (pgA 32)) 3 [] .none .none .none (vs9 "law_og0013_01" 805) none (.ref 491) .none 0)) #[])
noncomputable def o493 (P : Params) : Obj := (Obj.mk (.type "tuple") none (Data.seq #[] 0) #[])
noncomputable def o494 (P : Params) : Obj := (Obj.mk .none none (Data.fields #[]) #[])
noncomputable def o495 (P : Params) : Obj := fo9 "_law_small" "_law_small" (pgA 33)
noncomputable def o496 (P : Params) : Obj := (Obj.mk (.type "code") none (Data.fields #[(vs9 "_law_small" 869), (vs9 "_law_small" 870), (vs9 "/claim/cut.py" 871), (.int 326 0), (.int 1 0), (.int 0 0), (.int 0 0), (.int 3 0), (.ref 493), (.bool true), (.int 181 0), (.ref 494), .none, .none, .none, (.ref 495), (.int 872 0), (.int 326 0), (vs9 "/claim/cut.py" 873)]) #[])
noncomputable def o497 (P : Params) : Obj := (Obj.mk (.type "function") none (Data.func (FuncData.mk (Str.ofString "_law_small") (Str.ofString "_law_small") (fnA (pgA 33)) (FuncBody.stmts (fnB9 (pgA 33))) (fnS (pgA 33)) 3 [] .none .none .none (vs9 "law_og0013_01" 805) none (.ref 496) .none 0)) #[])
noncomputable def o498 (P : Params) : Obj := (Obj.mk (.type "tuple") none (Data.seq #[] 0) #[])
noncomputable def o499 (P : Params) : Obj := (Obj.mk .none none (Data.fields #[]) #[])
noncomputable def o500 (P : Params) : Obj := fo9 "_law_led" "_law_led" (pgA 34)
noncomputable def o501 (P : Params) : Obj := (Obj.mk (.type "code") none (Data.fields #[(vs9 "_law_led" 875), (vs9 "_law_led" 876), (vs9 "/claim/cut.py" 877), (.int 329 0), (.int 2 0), (.int 0 0), (.int 0 0), (.int 3 0), (.ref 498), (.bool true), (.int 181 0), (.ref 499), .none, .none, .none, (.ref 500), (.int 878 0), (.int 329 0), (vs9 "/claim/cut.py" 879)]) #[])
noncomputable def o502 (P : Params) : Obj := (Obj.mk (.type "function") none (Data.func (FuncData.mk (Str.ofString "_law_led") (Str.ofString "_law_led") (fnA (pgA 34)) (FuncBody.stmts (fnB9 (pgA 34))) (fnS (pgA 34)) 3 [] .none .none .none (vs9 "law_og0013_01" 805) none (.ref 501) .none 0)) #[])
noncomputable def o503 (P : Params) : Obj := (Obj.mk (.type "tuple") none (Data.seq #[] 0) #[])
noncomputable def o504 (P : Params) : Obj := (Obj.mk .none none (Data.fields #[]) #[])
noncomputable def o505 (P : Params) : Obj := fo9 "_law_binds_right" "_law_binds_right" (pgA 35)
noncomputable def o506 (P : Params) : Obj := (Obj.mk (.type "code") none (Data.fields #[(vs9 "_law_binds_right" 881), (vs9 "_law_binds_right" 882), (vs9 "/claim/cut.py" 883), (.int 339 0), (.int 1 0), (.int 0 0), (.int 0 0), (.int 3 0), (.ref 503), (.bool true), (.int 181 0), (.ref 504), .none, .none, .none, (.ref 505), (.int 884 0), (.int 339 0), (vs9 "/claim/cut.py" 885)]) #[])
noncomputable def o507 (P : Params) : Obj := (Obj.mk (.type "function") none (Data.func (FuncData.mk (Str.ofString "_law_binds_right") (Str.ofString "_law_binds_right") (fnA (pgA 35)) (FuncBody.stmts (fnB9 (pgA 35))) (fnS (pgA 35)) 3 [] .none .none .none (vs9 "law_og0013_01" 805) none (.ref 506) .none 0)) #[])
noncomputable def o508 (P : Params) : Obj := (Obj.mk (.type "tuple") none (Data.seq #[] 0) #[])
noncomputable def o509 (P : Params) : Obj := (Obj.mk .none none (Data.fields #[]) #[])
noncomputable def o510 (P : Params) : Obj := (Obj.mk (.type "tuple") none (Data.seq #[(vs9 "script" 890), (vs9 "source" 891)] 0) #[])
noncomputable def o511 (P : Params) : Obj := (Obj.mk (.type "tuple") none (Data.seq #[] 0) #[])
noncomputable def o512 (P : Params) : Obj := fo9 "law" "law" (pgA 36)
noncomputable def o513 (P : Params) : Obj := (Obj.mk (.type "code") none (Data.fields #[(vs9 "law" 887), (vs9 "law" 888), (vs9 "/claim/cut.py" 889), (.int 357 0), (.int 1 0), (.int 0 0), (.int 0 0), (.int 3 0), (.ref 508), (.bool true), (.int 181 0), (.ref 509), .none, (.ref 510), (.ref 511), (.ref 512), (.int 892 0), (.int 357 0), (vs9 "/claim/cut.py" 893)]) #[])
noncomputable def o514 (P : Params) : Obj := (Obj.mk (.type "function") none (Data.func (FuncData.mk (Str.ofString "law") (Str.ofString "law") (fnA (pgA 36)) (FuncBody.stmts (fnB9 (pgA 36))) (fnS (pgA 36)) 3 [] .none .none .none (vs9 "law_og0013_01" 805) none (.ref 513) .none 0)) #[])
noncomputable def c0_3 (P : Params) : Obj := (Obj.mk (.type "dict") none (Data.dict #[(de9 P "__name__" 165 (vs9 "lazycore.core" 187)), (de9 P "__doc__" 166 .none), (de9 P "__package__" 167 .none), (de9 P "__loader__" 168 (.builtin "__main__.__loader__#opaque")), (de9 P "__spec__" 169 .none), (de9 P "__annotations__" 170 (.ref 6)), (de9 P "__builtins__" 171 (.ref 4)), (de9 P "__file__" 173 (vs9 "/claim/cut.py" 172)), (de9 P "__cached__" 174 .none), (de9 P "Var" 240 (.ref 52)), (de9 P "Lit" 294 (.ref 94))] 11) #[])
noncomputable def c0_12 (P : Params) : Obj := (Obj.mk .none none (Data.fields #[(.int 2 0), (.int 0 0), (.ref 20), (.int 15 0), (.int 0 0), (.ref 62)]) #[])
noncomputable def c0_17 (P : Params) : Obj := (Obj.mk (.type "dict") none (Data.dict #[(de9 P "__module__" 196 (vs9 "lazycore.core" 187)), (de9 P "__qualname__" 198 (vs9 "Var" 197)), (de9 P "__firstlineno__" 200 (.int 2 199)), (de9 P "__init__" 208 (.ref 28)), (de9 P "groups" 215 (.ref 35)), (de9 P "parts" 222 (.ref 42)), (de9 P "rebuilt" 231 (.ref 49)), (de9 P "__static_attributes__" 233 (.ref 50))] 8) #[])
noncomputable def c0_51 (P : Params) : Obj := (Obj.mk (.type "dict") none (Data.dict #[(de9 P "__module__" 196 (vs9 "lazycore.core" 187)), (de9 P "__firstlineno__" 200 (.int 2 199)), (de9 P "__init__" 208 (.ref 28)), (de9 P "groups" 215 (.ref 35)), (de9 P "parts" 222 (.ref 42)), (de9 P "rebuilt" 231 (.ref 49)), (de9 P "__static_attributes__" 233 (.ref 50)), (de9 P "__dict__" 235 (.ref 53)), (de9 P "__weakref__" 237 (.ref 54)), (de9 P "__doc__" 238 .none)] 4) #[])
noncomputable def c0_59 (P : Params) : Obj := (Obj.mk (.type "dict") none (Data.dict #[(de9 P "__module__" 248 (vs9 "lazycore.core" 187)), (de9 P "__qualname__" 250 (vs9 "Lit" 249)), (de9 P "__firstlineno__" 252 (.int 15 251)), (de9 P "__init__" 261 (.ref 70)), (de9 P "groups" 268 (.ref 77)), (de9 P "parts" 275 (.ref 84)), (de9 P "rebuilt" 284 (.ref 91)), (de9 P "__static_attributes__" 287 (.ref 92))] 8) #[])
noncomputable def c0_93 (P : Params) : Obj := (Obj.mk (.type "dict") none (Data.dict #[(de9 P "__module__" 248 (vs9 "lazycore.core" 187)), (de9 P "__firstlineno__" 252 (.int 15 251)), (de9 P "__init__" 261 (.ref 70)), (de9 P "groups" 268 (.ref 77)), (de9 P "parts" 275 (.ref 84)), (de9 P "rebuilt" 284 (.ref 91)), (de9 P "__static_attributes__" 287 (.ref 92)), (de9 P "__dict__" 289 (.ref 95)), (de9 P "__weakref__" 291 (.ref 96)), (de9 P "__doc__" 292 .none)] 4) #[])
noncomputable def c1_3 (P : Params) : Obj := (Obj.mk (.type "dict") none (Data.dict #[(de9 P "__name__" 165 (vs9 "lazycore.core" 187)), (de9 P "__doc__" 166 .none), (de9 P "__package__" 167 .none), (de9 P "__loader__" 168 (.builtin "__main__.__loader__#opaque")), (de9 P "__spec__" 169 .none), (de9 P "__annotations__" 170 (.ref 6)), (de9 P "__builtins__" 171 (.ref 4)), (de9 P "__file__" 173 (vs9 "/claim/cut.py" 172)), (de9 P "__cached__" 174 .none), (de9 P "Var" 240 (.ref 52)), (de9 P "Lit" 294 (.ref 94)), (de9 P "App" 347 (.ref 134)), (de9 P "Lam" 401 (.ref 176))] 13) #[])
noncomputable def c1_12 (P : Params) : Obj := (Obj.mk .none none (Data.fields #[(.int 2 0), (.int 0 0), (.ref 20), (.int 15 0), (.int 0 0), (.ref 62), (.int 29 0), (.int 0 0), (.ref 104), (.int 43 0), (.int 0 0), (.ref 144)]) #[])
noncomputable def c1_101 (P : Params) : Obj := (Obj.mk (.type "dict") none (Data.dict #[(de9 P "__module__" 302 (vs9 "lazycore.core" 187)), (de9 P "__qualname__" 304 (vs9 "App" 303)), (de9 P "__firstlineno__" 306 (.int 29 305)), (de9 P "__init__" 315 (.ref 112)), (de9 P "groups" 322 (.ref 119)), (de9 P "parts" 328 (.ref 124)), (de9 P "rebuilt" 337 (.ref 131)), (de9 P "__static_attributes__" 340 (.ref 132))] 8) #[])
noncomputable def c1_133 (P : Params) : Obj := (Obj.mk (.type "dict") none (Data.dict #[(de9 P "__module__" 302 (vs9 "lazycore.core" 187)), (de9 P "__firstlineno__" 306 (.int 29 305)), (de9 P "__init__" 315 (.ref 112)), (de9 P "groups" 322 (.ref 119)), (de9 P "parts" 328 (.ref 124)), (de9 P "rebuilt" 337 (.ref 131)), (de9 P "__static_attributes__" 340 (.ref 132)), (de9 P "__dict__" 342 (.ref 135)), (de9 P "__weakref__" 344 (.ref 136)), (de9 P "__doc__" 345 .none)] 4) #[])
noncomputable def c1_141 (P : Params) : Obj := (Obj.mk (.type "dict") none (Data.dict #[(de9 P "__module__" 355 (vs9 "lazycore.core" 187)), (de9 P "__qualname__" 357 (vs9 "Lam" 356)), (de9 P "__firstlineno__" 359 (.int 43 358)), (de9 P "__init__" 368 (.ref 152)), (de9 P "groups" 375 (.ref 159)), (de9 P "parts" 382 (.ref 166)), (de9 P "rebuilt" 391 (.ref 173)), (de9 P "__static_attributes__" 394 (.ref 174))] 8) #[])
noncomputable def c1_175 (P : Params) : Obj := (Obj.mk (.type "dict") none (Data.dict #[(de9 P "__module__" 355 (vs9 "lazycore.core" 187)), (de9 P "__firstlineno__" 359 (.int 43 358)), (de9 P "__init__" 368 (.ref 152)), (de9 P "groups" 375 (.ref 159)), (de9 P "parts" 382 (.ref 166)), (de9 P "rebuilt" 391 (.ref 173)), (de9 P "__static_attributes__" 394 (.ref 174)), (de9 P "__dict__" 396 (.ref 177)), (de9 P "__weakref__" 398 (.ref 178)), (de9 P "__doc__" 399 .none)] 4) #[])
noncomputable def c2_3 (P : Params) : Obj := (Obj.mk (.type "dict") none (Data.dict #[(de9 P "__name__" 165 (vs9 "lazycore.core" 187)), (de9 P "__doc__" 166 .none), (de9 P "__package__" 167 .none), (de9 P "__loader__" 168 (.builtin "__main__.__loader__#opaque")), (de9 P "__spec__" 169 .none), (de9 P "__annotations__" 170 (.ref 6)), (de9 P "__builtins__" 171 (.ref 4)), (de9 P "__file__" 173 (vs9 "/claim/cut.py" 172)), (de9 P "__cached__" 174 .none), (de9 P "Var" 240 (.ref 52)), (de9 P "Lit" 294 (.ref 94)), (de9 P "App" 347 (.ref 134)), (de9 P "Lam" 401 (.ref 176)), (de9 P "Let" 452 (.ref 212)), (de9 P "Alt" 485 (.ref 233))] 15) #[])
noncomputable def c2_12 (P : Params) : Obj := (Obj.mk .none none (Data.fields #[(.int 2 0), (.int 0 0), (.ref 20), (.int 15 0), (.int 0 0), (.ref 62), (.int 29 0), (.int 0 0), (.ref 104), (.int 43 0), (.int 0 0), (.ref 144), (.int 57 0), (.int 0 0), (.ref 186), (.int 74 0), (.int 0 0), (.ref 222)]) #[])
noncomputable def c2_183 (P : Params) : Obj := (Obj.mk (.type "dict") none (Data.dict #[(de9 P "__module__" 409 (vs9 "lazycore.core" 187)), (de9 P "__qualname__" 411 (vs9 "Let" 410)), (de9 P "__firstlineno__" 413 (.int 57 412)), (de9 P "__init__" 423 (.ref 194)), (de9 P "groups" 429 (.ref 199)), (de9 P "parts" 435 (.ref 204)), (de9 P "rebuilt" 441 (.ref 209)), (de9 P "__static_attributes__" 445 (.ref 210))] 8) #[])
noncomputable def c2_211 (P : Params) : Obj := (Obj.mk (.type "dict") none (Data.dict #[(de9 P "__module__" 409 (vs9 "lazycore.core" 187)), (de9 P "__firstlineno__" 413 (.int 57 412)), (de9 P "__init__" 423 (.ref 194)), (de9 P "groups" 429 (.ref 199)), (de9 P "parts" 435 (.ref 204)), (de9 P "rebuilt" 441 (.ref 209)), (de9 P "__static_attributes__" 445 (.ref 210)), (de9 P "__dict__" 447 (.ref 213)), (de9 P "__weakref__" 449 (.ref 214)), (de9 P "__doc__" 450 .none)] 4) #[])
noncomputable def c2_219 (P : Params) : Obj := (Obj.mk (.type "dict") none (Data.dict #[(de9 P "__module__" 460 (vs9 "lazycore.core" 187)), (de9 P "__qualname__" 462 (vs9 "Alt" 461)), (de9 P "__firstlineno__" 464 (.int 74 463)), (de9 P "__init__" 474 (.ref 230)), (de9 P "__static_attributes__" 478 (.ref 231))] 5) #[])
noncomputable def c2_232 (P : Params) : Obj := (Obj.mk (.type "dict") none (Data.dict #[(de9 P "__module__" 460 (vs9 "lazycore.core" 187)), (de9 P "__firstlineno__" 464 (.int 74 463)), (de9 P "__init__" 474 (.ref 230)), (de9 P "__static_attributes__" 478 (.ref 231)), (de9 P "__dict__" 480 (.ref 234)), (de9 P "__weakref__" 482 (.ref 235)), (de9 P "__doc__" 483 .none)] 4) #[])
noncomputable def c3_3 (P : Params) : Obj := (Obj.mk (.type "dict") none (Data.dict #[(de9 P "__name__" 165 (vs9 "lazycore.core" 187)), (de9 P "__doc__" 166 .none), (de9 P "__package__" 167 .none), (de9 P "__loader__" 168 (.builtin "__main__.__loader__#opaque")), (de9 P "__spec__" 169 .none), (de9 P "__annotations__" 170 (.ref 6)), (de9 P "__builtins__" 171 (.ref 4)), (de9 P "__file__" 173 (vs9 "/claim/cut.py" 172)), (de9 P "__cached__" 174 .none), (de9 P "Var" 240 (.ref 52)), (de9 P "Lit" 294 (.ref 94)), (de9 P "App" 347 (.ref 134)), (de9 P "Lam" 401 (.ref 176)), (de9 P "Let" 452 (.ref 212)), (de9 P "Alt" 485 (.ref 233)), (de9 P "Case" 546 (.ref 273)), (de9 P "Con" 599 (.ref 313))] 17) #[])
noncomputable def c3_12 (P : Params) : Obj := (Obj.mk .none none (Data.fields #[(.int 2 0), (.int 0 0), (.ref 20), (.int 15 0), (.int 0 0), (.ref 62), (.int 29 0), (.int 0 0), (.ref 104), (.int 43 0), (.int 0 0), (.ref 144), (.int 57 0), (.int 0 0), (.ref 186), (.int 74 0), (.int 0 0), (.ref 222), (.int 80 0), (.int 0 0), (.ref 243), (.int 102 0), (.int 0 0), (.ref 283)]) #[])
noncomputable def c3_240 (P : Params) : Obj := (Obj.mk (.type "dict") none (Data.dict #[(de9 P "__module__" 493 (vs9 "lazycore.core" 187)), (de9 P "__qualname__" 495 (vs9 "Case" 494)), (de9 P "__firstlineno__" 497 (.int 80 496)), (de9 P "__init__" 508 (.ref 251)), (de9 P "groups" 514 (.ref 256)), (de9 P "parts" 523 (.ref 263)), (de9 P "rebuilt" 534 (.ref 270)), (de9 P "__static_attributes__" 539 (.ref 271))] 8) #[])
noncomputable def c3_272 (P : Params) : Obj := (Obj.mk (.type "dict") none (Data.dict #[(de9 P "__module__" 493 (vs9 "lazycore.core" 187)), (de9 P "__firstlineno__" 497 (.int 80 496)), (de9 P "__init__" 508 (.ref 251)), (de9 P "groups" 514 (.ref 256)), (de9 P "parts" 523 (.ref 263)), (de9 P "rebuilt" 534 (.ref 270)), (de9 P "__static_attributes__" 539 (.ref 271)), (de9 P "__dict__" 541 (.ref 274)), (de9 P "__weakref__" 543 (.ref 275)), (de9 P "__doc__" 544 .none)] 4) #[])
noncomputable def c3_280 (P : Params) : Obj := (Obj.mk (.type "dict") none (Data.dict #[(de9 P "__module__" 554 (vs9 "lazycore.core" 187)), (de9 P "__qualname__" 556 (vs9 "Con" 555)), (de9 P "__firstlineno__" 558 (.int 102 557)), (de9 P "__init__" 567 (.ref 291)), (de9 P "groups" 574 (.ref 298)), (de9 P "parts" 580 (.ref 303)), (de9 P "rebuilt" 589 (.ref 310)), (de9 P "__static_attributes__" 592 (.ref 311))] 8) #[])
noncomputable def c3_312 (P : Params) : Obj := (Obj.mk (.type "dict") none (Data.dict #[(de9 P "__module__" 554 (vs9 "lazycore.core" 187)), (de9 P "__firstlineno__" 558 (.int 102 557)), (de9 P "__init__" 567 (.ref 291)), (de9 P "groups" 574 (.ref 298)), (de9 P "parts" 580 (.ref 303)), (de9 P "rebuilt" 589 (.ref 310)), (de9 P "__static_attributes__" 592 (.ref 311)), (de9 P "__dict__" 594 (.ref 314)), (de9 P "__weakref__" 596 (.ref 315)), (de9 P "__doc__" 597 .none)] 4) #[])
noncomputable def c4_3 (P : Params) : Obj := (Obj.mk (.type "dict") none (Data.dict #[(de9 P "__name__" 165 (vs9 "lazycore.occurrences" 681)), (de9 P "__doc__" 166 .none), (de9 P "__package__" 167 .none), (de9 P "__loader__" 168 (.builtin "__main__.__loader__#opaque")), (de9 P "__spec__" 169 .none), (de9 P "__annotations__" 170 (.ref 6)), (de9 P "__builtins__" 171 (.ref 4)), (de9 P "__file__" 173 (vs9 "/claim/cut.py" 172)), (de9 P "__cached__" 174 .none), (de9 P "Var" 240 (.ref 52)), (de9 P "Lit" 294 (.ref 94)), (de9 P "App" 347 (.ref 134)), (de9 P "Lam" 401 (.ref 176)), (de9 P "Let" 452 (.ref 212)), (de9 P "Alt" 485 (.ref 233)), (de9 P "Case" 546 (.ref 273)), (de9 P "Con" 599 (.ref 313)), (de9 P "Prim" 652 (.ref 353)), (de9 P "scoped" 666 (.ref 364)), (de9 P "free_names" 680 (.ref 371)), (de9 P "Uses" 719 (.ref 395))] 21) #[])
noncomputable def c4_12 (P : Params) : Obj := (Obj.mk .none none (Data.fields #[(.int 2 0), (.int 0 0), (.ref 20), (.int 15 0), (.int 0 0), (.ref 62), (.int 29 0), (.int 0 0), (.ref 104), (.int 43 0), (.int 0 0), (.ref 144), (.int 57 0), (.int 0 0), (.ref 186), (.int 74 0), (.int 0 0), (.ref 222), (.int 80 0), (.int 0 0), (.ref 243), (.int 102 0), (.int 0 0), (.ref 283), (.int 116 0), (.int 0 0), (.ref 323), (.int 131 0), (.int 0 0), (.ref 363), (.int 139 0), (.int 0 0), (.ref 370), (.int 152 0), (.int 0 0), (.ref 377)]) #[])
noncomputable def c4_320 (P : Params) : Obj := (Obj.mk (.type "dict") none (Data.dict #[(de9 P "__module__" 607 (vs9 "lazycore.core" 187)), (de9 P "__qualname__" 609 (vs9 "Prim" 608)), (de9 P "__firstlineno__" 611 (.int 116 610)), (de9 P "__init__" 620 (.ref 331)), (de9 P "groups" 627 (.ref 338)), (de9 P "parts" 633 (.ref 343)), (de9 P "rebuilt" 642 (.ref 350)), (de9 P "__static_attributes__" 645 (.ref 351))] 8) #[])
noncomputable def c4_352 (P : Params) : Obj := (Obj.mk (.type "dict") none (Data.dict #[(de9 P "__module__" 607 (vs9 "lazycore.core" 187)), (de9 P "__firstlineno__" 611 (.int 116 610)), (de9 P "__init__" 620 (.ref 331)), (de9 P "groups" 627 (.ref 338)), (de9 P "parts" 633 (.ref 343)), (de9 P "rebuilt" 642 (.ref 350)), (de9 P "__static_attributes__" 645 (.ref 351)), (de9 P "__dict__" 647 (.ref 354)), (de9 P "__weakref__" 649 (.ref 355)), (de9 P "__doc__" 650 .none)] 4) #[])
noncomputable def c4_374 (P : Params) : Obj := (Obj.mk (.type "dict") none (Data.dict #[(de9 P "__module__" 690 (vs9 "lazycore.occurrences" 681)), (de9 P "__qualname__" 692 (vs9 "Uses" 691)), (de9 P "__firstlineno__" 694 (.int 152 693)), (de9 P "__init__" 701 (.ref 385)), (de9 P "note" 709 (.ref 392)), (de9 P "__static_attributes__" 712 (.ref 393))] 6) #[])
noncomputable def c4_394 (P : Params) : Obj := (Obj.mk (.type "dict") none (Data.dict #[(de9 P "__module__" 690 (vs9 "lazycore.occurrences" 681)), (de9 P "__firstlineno__" 694 (.int 152 693)), (de9 P "__init__" 701 (.ref 385)), (de9 P "note" 709 (.ref 392)), (de9 P "__static_attributes__" 712 (.ref 393)), (de9 P "__dict__" 714 (.ref 396)), (de9 P "__weakref__" 716 (.ref 397)), (de9 P "__doc__" 717 .none)] 4) #[])
noncomputable def c5_3 (P : Params) : Obj := (Obj.mk (.type "dict") none (Data.dict #[(de9 P "__name__" 165 (vs9 "law_og0013_01" 805)), (de9 P "__doc__" 166 .none), (de9 P "__package__" 167 .none), (de9 P "__loader__" 168 (.builtin "__main__.__loader__#opaque")), (de9 P "__spec__" 169 .none), (de9 P "__annotations__" 170 (.ref 6)), (de9 P "__builtins__" 171 (.ref 4)), (de9 P "__file__" 173 (vs9 "/claim/cut.py" 172)), (de9 P "__cached__" 174 .none), (de9 P "Var" 240 (.ref 52)), (de9 P "Lit" 294 (.ref 94)), (de9 P "App" 347 (.ref 134)), (de9 P "Lam" 401 (.ref 176)), (de9 P "Let" 452 (.ref 212)), (de9 P "Alt" 485 (.ref 233)), (de9 P "Case" 546 (.ref 273)), (de9 P "Con" 599 (.ref 313)), (de9 P "Prim" 652 (.ref 353)), (de9 P "scoped" 666 (.ref 364)), (de9 P "free_names" 680 (.ref 371)), (de9 P "Uses" 719 (.ref 395)), (de9 P "uses_of" 734 (.ref 406)), (de9 P "used_names" 746 (.ref 413)), (de9 P "reached" 754 (.ref 418)), (de9 P "without_dead" 760 (.ref 423)), (de9 P "mapped" 779 (.ref 430)), (de9 P "nodes_of" 791 (.ref 437)), (de9 P "size_of" 804 (.ref 444)), (de9 P "_law_pool" 817 (.ref 451)), (de9 P "_law_take" 826 (.ref 458)), (de9 P "_law_one" 834 (.ref 465)), (de9 P "_law_tree" 840 (.ref 470)), (de9 P "_law_inner" 846 (.ref 475)), (de9 P "_law_all" 856 (.ref 482)), (de9 P "_law_head" 862 (.ref 487))] 35) #[])
noncomputable def c5_12 (P : Params) : Obj := (Obj.mk .none none (Data.fields #[(.int 2 0), (.int 0 0), (.ref 20), (.int 15 0), (.int 0 0), (.ref 62), (.int 29 0), (.int 0 0), (.ref 104), (.int 43 0), (.int 0 0), (.ref 144), (.int 57 0), (.int 0 0), (.ref 186), (.int 74 0), (.int 0 0), (.ref 222), (.int 80 0), (.int 0 0), (.ref 243), (.int 102 0), (.int 0 0), (.ref 283), (.int 116 0), (.int 0 0), (.ref 323), (.int 131 0), (.int 0 0), (.ref 363), (.int 139 0), (.int 0 0), (.ref 370), (.int 152 0), (.int 0 0), (.ref 377), (.int 161 0), (.int 0 0), (.ref 405), (.int 171 0), (.int 0 0), (.ref 412), (.int 181 0), (.int 0 0), (.ref 417), (.int 191 0), (.int 0 0), (.ref 422), (.int 201 0), (.int 0 0), (.ref 429), (.int 218 0), (.int 0 0), (.ref 436), (.int 226 0), (.int 0 0), (.ref 443), (.int 235 0), (.int 0 0), (.ref 450), (.int 242 0), (.int 0 0), (.ref 457), (.int 249 0), (.int 0 0), (.ref 464), (.int 251 0), (.int 0 0), (.ref 469), (.int 273 0), (.int 0 0), (.ref 474), (.int 283 0), (.int 0 0), (.ref 481), (.int 288 0), (.int 0 0), (.ref 486)]) #[])
noncomputable def objsA (P : Params) : List Obj := [boot_o_0 P, boot_o_1 P, boot_o_2 P, boot_o_3 P, boot_o_4 P, boot_o_5 P, boot_o_6 P, boot_o_7 P, boot_o_8 P, boot_o_9 P, boot_o_10 P, a11 P, a12 P, a13 P, a14 P]
noncomputable def objsF (P : Params) : List Obj := [boot_o_0 P, boot_o_1 P, boot_o_2 P, o3 P, boot_o_4 P, boot_o_5 P, boot_o_6 P, boot_o_7 P, boot_o_8 P, boot_o_9 P, boot_o_10 P, a11 P, o12 P, a13 P, a14 P, o15 P, o16 P, o17 P, o18 P, o19 P, o20 P, o21 P, o22 P, o23 P, o24 P, o25 P, o26 P, o27 P, o28 P, o29 P, o30 P, o31 P, o32 P, o33 P, o34 P, o35 P, o36 P, o37 P, o38 P, o39 P, o40 P, o41 P, o42 P, o43 P, o44 P, o45 P, o46 P, o47 P, o48 P, o49 P, o50 P, o51 P, o52 P, o53 P, o54 P, o55 P, o56 P, o57 P, o58 P, o59 P, o60 P, o61 P, o62 P, o63 P, o64 P, o65 P, o66 P, o67 P, o68 P, o69 P, o70 P, o71 P, o72 P, o73 P, o74 P, o75 P, o76 P, o77 P, o78 P, o79 P, o80 P, o81 P, o82 P, o83 P, o84 P, o85 P, o86 P, o87 P, o88 P, o89 P, o90 P, o91 P, o92 P, o93 P, o94 P, o95 P, o96 P, o97 P, o98 P, o99 P, o100 P, o101 P, o102 P, o103 P, o104 P, o105 P, o106 P, o107 P, o108 P, o109 P, o110 P, o111 P, o112 P, o113 P, o114 P, o115 P, o116 P, o117 P, o118 P, o119 P, o120 P, o121 P, o122 P, o123 P, o124 P, o125 P, o126 P, o127 P, o128 P, o129 P, o130 P, o131 P, o132 P, o133 P, o134 P, o135 P, o136 P, o137 P, o138 P, o139 P, o140 P, o141 P, o142 P, o143 P, o144 P, o145 P, o146 P, o147 P, o148 P, o149 P, o150 P, o151 P, o152 P, o153 P, o154 P, o155 P, o156 P, o157 P, o158 P, o159 P, o160 P, o161 P, o162 P, o163 P, o164 P, o165 P, o166 P, o167 P, o168 P, o169 P, o170 P, o171 P, o172 P, o173 P, o174 P, o175 P, o176 P, o177 P, o178 P, o179 P, o180 P, o181 P, o182 P, o183 P, o184 P, o185 P, o186 P, o187 P, o188 P, o189 P, o190 P, o191 P, o192 P, o193 P, o194 P, o195 P, o196 P, o197 P, o198 P, o199 P, o200 P, o201 P, o202 P, o203 P, o204 P, o205 P, o206 P, o207 P, o208 P, o209 P, o210 P, o211 P, o212 P, o213 P, o214 P, o215 P, o216 P, o217 P, o218 P, o219 P, o220 P, o221 P, o222 P, o223 P, o224 P, o225 P, o226 P, o227 P, o228 P, o229 P, o230 P, o231 P, o232 P, o233 P, o234 P, o235 P, o236 P, o237 P, o238 P, o239 P, o240 P, o241 P, o242 P, o243 P, o244 P, o245 P, o246 P, o247 P, o248 P, o249 P, o250 P, o251 P, o252 P, o253 P, o254 P, o255 P, o256 P, o257 P, o258 P, o259 P, o260 P, o261 P, o262 P, o263 P, o264 P, o265 P, o266 P, o267 P, o268 P, o269 P, o270 P, o271 P, o272 P, o273 P, o274 P, o275 P, o276 P, o277 P, o278 P, o279 P, o280 P, o281 P, o282 P, o283 P, o284 P, o285 P, o286 P, o287 P, o288 P, o289 P, o290 P, o291 P, o292 P, o293 P, o294 P, o295 P, o296 P, o297 P, o298 P, o299 P, o300 P, o301 P, o302 P, o303 P, o304 P, o305 P, o306 P, o307 P, o308 P, o309 P, o310 P, o311 P, o312 P, o313 P, o314 P, o315 P, o316 P, o317 P, o318 P, o319 P, o320 P, o321 P, o322 P, o323 P, o324 P, o325 P, o326 P, o327 P, o328 P, o329 P, o330 P, o331 P, o332 P, o333 P, o334 P, o335 P, o336 P, o337 P, o338 P, o339 P, o340 P, o341 P, o342 P, o343 P, o344 P, o345 P, o346 P, o347 P, o348 P, o349 P, o350 P, o351 P, o352 P, o353 P, o354 P, o355 P, o356 P, o357 P, o358 P, o359 P, o360 P, o361 P, o362 P, o363 P, o364 P, o365 P, o366 P, o367 P, o368 P, o369 P, o370 P, o371 P, o372 P, o373 P, o374 P, o375 P, o376 P, o377 P, o378 P, o379 P, o380 P, o381 P, o382 P, o383 P, o384 P, o385 P, o386 P, o387 P, o388 P, o389 P, o390 P, o391 P, o392 P, o393 P, o394 P, o395 P, o396 P, o397 P, o398 P, o399 P, o400 P, o401 P, o402 P, o403 P, o404 P, o405 P, o406 P, o407 P, o408 P, o409 P, o410 P, o411 P, o412 P, o413 P, o414 P, o415 P, o416 P, o417 P, o418 P, o419 P, o420 P, o421 P, o422 P, o423 P, o424 P, o425 P, o426 P, o427 P, o428 P, o429 P, o430 P, o431 P, o432 P, o433 P, o434 P, o435 P, o436 P, o437 P, o438 P, o439 P, o440 P, o441 P, o442 P, o443 P, o444 P, o445 P, o446 P, o447 P, o448 P, o449 P, o450 P, o451 P, o452 P, o453 P, o454 P, o455 P, o456 P, o457 P, o458 P, o459 P, o460 P, o461 P, o462 P, o463 P, o464 P, o465 P, o466 P, o467 P, o468 P, o469 P, o470 P, o471 P, o472 P, o473 P, o474 P, o475 P, o476 P, o477 P, o478 P, o479 P, o480 P, o481 P, o482 P, o483 P, o484 P, o485 P, o486 P, o487 P, o488 P, o489 P, o490 P, o491 P, o492 P, o493 P, o494 P, o495 P, o496 P, o497 P, o498 P, o499 P, o500 P, o501 P, o502 P, o503 P, o504 P, o505 P, o506 P, o507 P, o508 P, o509 P, o510 P, o511 P, o512 P, o513 P, o514 P]
noncomputable def objsC0 (P : Params) : List Obj := [boot_o_0 P, boot_o_1 P, boot_o_2 P, c0_3 P, boot_o_4 P, boot_o_5 P, boot_o_6 P, boot_o_7 P, boot_o_8 P, boot_o_9 P, boot_o_10 P, a11 P, c0_12 P, a13 P, a14 P, o511 P, o373 P, c0_17 P, o511 P, o19 P, o20 P, o21 P, o511 P, o509 P, o24 P, o511 P, o26 P, o27 P, o28 P, o511 P, o509 P, o31 P, o511 P, o33 P, o34 P, o35 P, o511 P, o509 P, o38 P, o511 P, o40 P, o41 P, o42 P, o511 P, o509 P, o45 P, o511 P, o47 P, o48 P, o49 P, o50 P, c0_51 P, o52 P, o53 P, o54 P, o55 P, o56 P, o511 P, o373 P, c0_59 P, o511 P, o61 P, o62 P, o63 P, o511 P, o509 P, o66 P, o511 P, o68 P, o69 P, o70 P, o511 P, o509 P, o73 P, o511 P, o75 P, o76 P, o77 P, o511 P, o509 P, o80 P, o511 P, o82 P, o83 P, o84 P, o511 P, o509 P, o87 P, o511 P, o89 P, o90 P, o91 P, o92 P, c0_93 P, o94 P, o95 P, o96 P, o97 P, o98 P]
noncomputable def objsC1 (P : Params) : List Obj := [boot_o_0 P, boot_o_1 P, boot_o_2 P, c1_3 P, boot_o_4 P, boot_o_5 P, boot_o_6 P, boot_o_7 P, boot_o_8 P, boot_o_9 P, boot_o_10 P, a11 P, c1_12 P, a13 P, a14 P, o511 P, o373 P, c0_17 P, o511 P, o19 P, o20 P, o21 P, o511 P, o509 P, o24 P, o511 P, o26 P, o27 P, o28 P, o511 P, o509 P, o31 P, o511 P, o33 P, o34 P, o35 P, o511 P, o509 P, o38 P, o511 P, o40 P, o41 P, o42 P, o511 P, o509 P, o45 P, o511 P, o47 P, o48 P, o49 P, o50 P, c0_51 P, o52 P, o53 P, o54 P, o55 P, o56 P, o511 P, o373 P, c0_59 P, o511 P, o61 P, o62 P, o63 P, o511 P, o509 P, o66 P, o511 P, o68 P, o69 P, o70 P, o511 P, o509 P, o73 P, o511 P, o75 P, o76 P, o77 P, o511 P, o509 P, o80 P, o511 P, o82 P, o83 P, o84 P, o511 P, o509 P, o87 P, o511 P, o89 P, o90 P, o91 P, o92 P, c0_93 P, o94 P, o95 P, o96 P, o97 P, o98 P, o511 P, o373 P, c1_101 P, o511 P, o103 P, o104 P, o105 P, o511 P, o509 P, o108 P, o511 P, o110 P, o111 P, o112 P, o511 P, o509 P, o115 P, o511 P, o117 P, o118 P, o119 P, o511 P, o509 P, o122 P, o123 P, o124 P, o511 P, o509 P, o127 P, o511 P, o129 P, o130 P, o131 P, o132 P, c1_133 P, o134 P, o135 P, o136 P, o137 P, o138 P, o511 P, o373 P, c1_141 P, o511 P, o143 P, o144 P, o145 P, o511 P, o509 P, o148 P, o511 P, o150 P, o151 P, o152 P, o511 P, o509 P, o155 P, o511 P, o157 P, o158 P, o159 P, o511 P, o509 P, o162 P, o511 P, o164 P, o165 P, o166 P, o511 P, o509 P, o169 P, o511 P, o171 P, o172 P, o173 P, o174 P, c1_175 P, o176 P, o177 P, o178 P, o179 P, o180 P]
noncomputable def objsC2 (P : Params) : List Obj := [boot_o_0 P, boot_o_1 P, boot_o_2 P, c2_3 P, boot_o_4 P, boot_o_5 P, boot_o_6 P, boot_o_7 P, boot_o_8 P, boot_o_9 P, boot_o_10 P, a11 P, c2_12 P, a13 P, a14 P, o511 P, o373 P, c0_17 P, o511 P, o19 P, o20 P, o21 P, o511 P, o509 P, o24 P, o511 P, o26 P, o27 P, o28 P, o511 P, o509 P, o31 P, o511 P, o33 P, o34 P, o35 P, o511 P, o509 P, o38 P, o511 P, o40 P, o41 P, o42 P, o511 P, o509 P, o45 P, o511 P, o47 P, o48 P, o49 P, o50 P, c0_51 P, o52 P, o53 P, o54 P, o55 P, o56 P, o511 P, o373 P, c0_59 P, o511 P, o61 P, o62 P, o63 P, o511 P, o509 P, o66 P, o511 P, o68 P, o69 P, o70 P, o511 P, o509 P, o73 P, o511 P, o75 P, o76 P, o77 P, o511 P, o509 P, o80 P, o511 P, o82 P, o83 P, o84 P, o511 P, o509 P, o87 P, o511 P, o89 P, o90 P, o91 P, o92 P, c0_93 P, o94 P, o95 P, o96 P, o97 P, o98 P, o511 P, o373 P, c1_101 P, o511 P, o103 P, o104 P, o105 P, o511 P, o509 P, o108 P, o511 P, o110 P, o111 P, o112 P, o511 P, o509 P, o115 P, o511 P, o117 P, o118 P, o119 P, o511 P, o509 P, o122 P, o123 P, o124 P, o511 P, o509 P, o127 P, o511 P, o129 P, o130 P, o131 P, o132 P, c1_133 P, o134 P, o135 P, o136 P, o137 P, o138 P, o511 P, o373 P, c1_141 P, o511 P, o143 P, o144 P, o145 P, o511 P, o509 P, o148 P, o511 P, o150 P, o151 P, o152 P, o511 P, o509 P, o155 P, o511 P, o157 P, o158 P, o159 P, o511 P, o509 P, o162 P, o511 P, o164 P, o165 P, o166 P, o511 P, o509 P, o169 P, o511 P, o171 P, o172 P, o173 P, o174 P, c1_175 P, o176 P, o177 P, o178 P, o179 P, o180 P, o511 P, o373 P, c2_183 P, o511 P, o185 P, o186 P, o187 P, o511 P, o509 P, o190 P, o511 P, o192 P, o193 P, o194 P, o511 P, o509 P, o197 P, o198 P, o199 P, o511 P, o509 P, o202 P, o203 P, o204 P, o511 P, o509 P, o207 P, o208 P, o209 P, o210 P, c2_211 P, o212 P, o213 P, o214 P, o215 P, o216 P, o511 P, o373 P, c2_219 P, o511 P, o221 P, o222 P, o223 P, o511 P, o509 P, o226 P, o511 P, o228 P, o229 P, o230 P, o231 P, c2_232 P, o233 P, o234 P, o235 P, o236 P, o237 P]
noncomputable def objsC3 (P : Params) : List Obj := [boot_o_0 P, boot_o_1 P, boot_o_2 P, c3_3 P, boot_o_4 P, boot_o_5 P, boot_o_6 P, boot_o_7 P, boot_o_8 P, boot_o_9 P, boot_o_10 P, a11 P, c3_12 P, a13 P, a14 P, o511 P, o373 P, c0_17 P, o511 P, o19 P, o20 P, o21 P, o511 P, o509 P, o24 P, o511 P, o26 P, o27 P, o28 P, o511 P, o509 P, o31 P, o511 P, o33 P, o34 P, o35 P, o511 P, o509 P, o38 P, o511 P, o40 P, o41 P, o42 P, o511 P, o509 P, o45 P, o511 P, o47 P, o48 P, o49 P, o50 P, c0_51 P, o52 P, o53 P, o54 P, o55 P, o56 P, o511 P, o373 P, c0_59 P, o511 P, o61 P, o62 P, o63 P, o511 P, o509 P, o66 P, o511 P, o68 P, o69 P, o70 P, o511 P, o509 P, o73 P, o511 P, o75 P, o76 P, o77 P, o511 P, o509 P, o80 P, o511 P, o82 P, o83 P, o84 P, o511 P, o509 P, o87 P, o511 P, o89 P, o90 P, o91 P, o92 P, c0_93 P, o94 P, o95 P, o96 P, o97 P, o98 P, o511 P, o373 P, c1_101 P, o511 P, o103 P, o104 P, o105 P, o511 P, o509 P, o108 P, o511 P, o110 P, o111 P, o112 P, o511 P, o509 P, o115 P, o511 P, o117 P, o118 P, o119 P, o511 P, o509 P, o122 P, o123 P, o124 P, o511 P, o509 P, o127 P, o511 P, o129 P, o130 P, o131 P, o132 P, c1_133 P, o134 P, o135 P, o136 P, o137 P, o138 P, o511 P, o373 P, c1_141 P, o511 P, o143 P, o144 P, o145 P, o511 P, o509 P, o148 P, o511 P, o150 P, o151 P, o152 P, o511 P, o509 P, o155 P, o511 P, o157 P, o158 P, o159 P, o511 P, o509 P, o162 P, o511 P, o164 P, o165 P, o166 P, o511 P, o509 P, o169 P, o511 P, o171 P, o172 P, o173 P, o174 P, c1_175 P, o176 P, o177 P, o178 P, o179 P, o180 P, o511 P, o373 P, c2_183 P, o511 P, o185 P, o186 P, o187 P, o511 P, o509 P, o190 P, o511 P, o192 P, o193 P, o194 P, o511 P, o509 P, o197 P, o198 P, o199 P, o511 P, o509 P, o202 P, o203 P, o204 P, o511 P, o509 P, o207 P, o208 P, o209 P, o210 P, c2_211 P, o212 P, o213 P, o214 P, o215 P, o216 P, o511 P, o373 P, c2_219 P, o511 P, o221 P, o222 P, o223 P, o511 P, o509 P, o226 P, o511 P, o228 P, o229 P, o230 P, o231 P, c2_232 P, o233 P, o234 P, o235 P, o236 P, o237 P, o511 P, o373 P, c3_240 P, o511 P, o242 P, o243 P, o244 P, o511 P, o509 P, o247 P, o511 P, o249 P, o250 P, o251 P, o511 P, o509 P, o254 P, o255 P, o256 P, o511 P, o509 P, o259 P, o511 P, o261 P, o262 P, o263 P, o511 P, o509 P, o266 P, o511 P, o268 P, o269 P, o270 P, o271 P, c3_272 P, o273 P, o274 P, o275 P, o276 P, o277 P, o511 P, o373 P, c3_280 P, o511 P, o282 P, o283 P, o284 P, o511 P, o509 P, o287 P, o511 P, o289 P, o290 P, o291 P, o511 P, o509 P, o294 P, o511 P, o296 P, o297 P, o298 P, o511 P, o509 P, o301 P, o302 P, o303 P, o511 P, o509 P, o306 P, o511 P, o308 P, o309 P, o310 P, o311 P, c3_312 P, o313 P, o314 P, o315 P, o316 P, o317 P]
noncomputable def objsC4 (P : Params) : List Obj := [boot_o_0 P, boot_o_1 P, boot_o_2 P, c4_3 P, boot_o_4 P, boot_o_5 P, boot_o_6 P, boot_o_7 P, boot_o_8 P, boot_o_9 P, boot_o_10 P, a11 P, c4_12 P, a13 P, a14 P, o511 P, o373 P, c0_17 P, o511 P, o19 P, o20 P, o21 P, o511 P, o509 P, o24 P, o511 P, o26 P, o27 P, o28 P, o511 P, o509 P, o31 P, o511 P, o33 P, o34 P, o35 P, o511 P, o509 P, o38 P, o511 P, o40 P, o41 P, o42 P, o511 P, o509 P, o45 P, o511 P, o47 P, o48 P, o49 P, o50 P, c0_51 P, o52 P, o53 P, o54 P, o55 P, o56 P, o511 P, o373 P, c0_59 P, o511 P, o61 P, o62 P, o63 P, o511 P, o509 P, o66 P, o511 P, o68 P, o69 P, o70 P, o511 P, o509 P, o73 P, o511 P, o75 P, o76 P, o77 P, o511 P, o509 P, o80 P, o511 P, o82 P, o83 P, o84 P, o511 P, o509 P, o87 P, o511 P, o89 P, o90 P, o91 P, o92 P, c0_93 P, o94 P, o95 P, o96 P, o97 P, o98 P, o511 P, o373 P, c1_101 P, o511 P, o103 P, o104 P, o105 P, o511 P, o509 P, o108 P, o511 P, o110 P, o111 P, o112 P, o511 P, o509 P, o115 P, o511 P, o117 P, o118 P, o119 P, o511 P, o509 P, o122 P, o123 P, o124 P, o511 P, o509 P, o127 P, o511 P, o129 P, o130 P, o131 P, o132 P, c1_133 P, o134 P, o135 P, o136 P, o137 P, o138 P, o511 P, o373 P, c1_141 P, o511 P, o143 P, o144 P, o145 P, o511 P, o509 P, o148 P, o511 P, o150 P, o151 P, o152 P, o511 P, o509 P, o155 P, o511 P, o157 P, o158 P, o159 P, o511 P, o509 P, o162 P, o511 P, o164 P, o165 P, o166 P, o511 P, o509 P, o169 P, o511 P, o171 P, o172 P, o173 P, o174 P, c1_175 P, o176 P, o177 P, o178 P, o179 P, o180 P, o511 P, o373 P, c2_183 P, o511 P, o185 P, o186 P, o187 P, o511 P, o509 P, o190 P, o511 P, o192 P, o193 P, o194 P, o511 P, o509 P, o197 P, o198 P, o199 P, o511 P, o509 P, o202 P, o203 P, o204 P, o511 P, o509 P, o207 P, o208 P, o209 P, o210 P, c2_211 P, o212 P, o213 P, o214 P, o215 P, o216 P, o511 P, o373 P, c2_219 P, o511 P, o221 P, o222 P, o223 P, o511 P, o509 P, o226 P, o511 P, o228 P, o229 P, o230 P, o231 P, c2_232 P, o233 P, o234 P, o235 P, o236 P, o237 P, o511 P, o373 P, c3_240 P, o511 P, o242 P, o243 P, o244 P, o511 P, o509 P, o247 P, o511 P, o249 P, o250 P, o251 P, o511 P, o509 P, o254 P, o255 P, o256 P, o511 P, o509 P, o259 P, o511 P, o261 P, o262 P, o263 P, o511 P, o509 P, o266 P, o511 P, o268 P, o269 P, o270 P, o271 P, c3_272 P, o273 P, o274 P, o275 P, o276 P, o277 P, o511 P, o373 P, c3_280 P, o511 P, o282 P, o283 P, o284 P, o511 P, o509 P, o287 P, o511 P, o289 P, o290 P, o291 P, o511 P, o509 P, o294 P, o511 P, o296 P, o297 P, o298 P, o511 P, o509 P, o301 P, o302 P, o303 P, o511 P, o509 P, o306 P, o511 P, o308 P, o309 P, o310 P, o311 P, c3_312 P, o313 P, o314 P, o315 P, o316 P, o317 P, o511 P, o373 P, c4_320 P, o511 P, o322 P, o323 P, o324 P, o511 P, o509 P, o327 P, o511 P, o329 P, o330 P, o331 P, o511 P, o509 P, o334 P, o511 P, o336 P, o337 P, o338 P, o511 P, o509 P, o341 P, o342 P, o343 P, o511 P, o509 P, o346 P, o511 P, o348 P, o349 P, o350 P, o351 P, c4_352 P, o353 P, o354 P, o355 P, o356 P, o357 P, o511 P, o509 P, o360 P, o511 P, o362 P, o363 P, o364 P, o511 P, o509 P, o367 P, o511 P, o369 P, o370 P, o371 P, o511 P, o373 P, c4_374 P, o511 P, o376 P, o377 P, o378 P, o511 P, o509 P, o381 P, o511 P, o383 P, o384 P, o385 P, o511 P, o509 P, o388 P, o511 P, o390 P, o391 P, o392 P, o393 P, c4_394 P, o395 P, o396 P, o397 P, o398 P, o399 P]
noncomputable def objsC5 (P : Params) : List Obj := [boot_o_0 P, boot_o_1 P, boot_o_2 P, c5_3 P, boot_o_4 P, boot_o_5 P, boot_o_6 P, boot_o_7 P, boot_o_8 P, boot_o_9 P, boot_o_10 P, a11 P, c5_12 P, a13 P, a14 P, o511 P, o373 P, c0_17 P, o511 P, o19 P, o20 P, o21 P, o511 P, o509 P, o24 P, o511 P, o26 P, o27 P, o28 P, o511 P, o509 P, o31 P, o511 P, o33 P, o34 P, o35 P, o511 P, o509 P, o38 P, o511 P, o40 P, o41 P, o42 P, o511 P, o509 P, o45 P, o511 P, o47 P, o48 P, o49 P, o50 P, c0_51 P, o52 P, o53 P, o54 P, o55 P, o56 P, o511 P, o373 P, c0_59 P, o511 P, o61 P, o62 P, o63 P, o511 P, o509 P, o66 P, o511 P, o68 P, o69 P, o70 P, o511 P, o509 P, o73 P, o511 P, o75 P, o76 P, o77 P, o511 P, o509 P, o80 P, o511 P, o82 P, o83 P, o84 P, o511 P, o509 P, o87 P, o511 P, o89 P, o90 P, o91 P, o92 P, c0_93 P, o94 P, o95 P, o96 P, o97 P, o98 P, o511 P, o373 P, c1_101 P, o511 P, o103 P, o104 P, o105 P, o511 P, o509 P, o108 P, o511 P, o110 P, o111 P, o112 P, o511 P, o509 P, o115 P, o511 P, o117 P, o118 P, o119 P, o511 P, o509 P, o122 P, o123 P, o124 P, o511 P, o509 P, o127 P, o511 P, o129 P, o130 P, o131 P, o132 P, c1_133 P, o134 P, o135 P, o136 P, o137 P, o138 P, o511 P, o373 P, c1_141 P, o511 P, o143 P, o144 P, o145 P, o511 P, o509 P, o148 P, o511 P, o150 P, o151 P, o152 P, o511 P, o509 P, o155 P, o511 P, o157 P, o158 P, o159 P, o511 P, o509 P, o162 P, o511 P, o164 P, o165 P, o166 P, o511 P, o509 P, o169 P, o511 P, o171 P, o172 P, o173 P, o174 P, c1_175 P, o176 P, o177 P, o178 P, o179 P, o180 P, o511 P, o373 P, c2_183 P, o511 P, o185 P, o186 P, o187 P, o511 P, o509 P, o190 P, o511 P, o192 P, o193 P, o194 P, o511 P, o509 P, o197 P, o198 P, o199 P, o511 P, o509 P, o202 P, o203 P, o204 P, o511 P, o509 P, o207 P, o208 P, o209 P, o210 P, c2_211 P, o212 P, o213 P, o214 P, o215 P, o216 P, o511 P, o373 P, c2_219 P, o511 P, o221 P, o222 P, o223 P, o511 P, o509 P, o226 P, o511 P, o228 P, o229 P, o230 P, o231 P, c2_232 P, o233 P, o234 P, o235 P, o236 P, o237 P, o511 P, o373 P, c3_240 P, o511 P, o242 P, o243 P, o244 P, o511 P, o509 P, o247 P, o511 P, o249 P, o250 P, o251 P, o511 P, o509 P, o254 P, o255 P, o256 P, o511 P, o509 P, o259 P, o511 P, o261 P, o262 P, o263 P, o511 P, o509 P, o266 P, o511 P, o268 P, o269 P, o270 P, o271 P, c3_272 P, o273 P, o274 P, o275 P, o276 P, o277 P, o511 P, o373 P, c3_280 P, o511 P, o282 P, o283 P, o284 P, o511 P, o509 P, o287 P, o511 P, o289 P, o290 P, o291 P, o511 P, o509 P, o294 P, o511 P, o296 P, o297 P, o298 P, o511 P, o509 P, o301 P, o302 P, o303 P, o511 P, o509 P, o306 P, o511 P, o308 P, o309 P, o310 P, o311 P, c3_312 P, o313 P, o314 P, o315 P, o316 P, o317 P, o511 P, o373 P, c4_320 P, o511 P, o322 P, o323 P, o324 P, o511 P, o509 P, o327 P, o511 P, o329 P, o330 P, o331 P, o511 P, o509 P, o334 P, o511 P, o336 P, o337 P, o338 P, o511 P, o509 P, o341 P, o342 P, o343 P, o511 P, o509 P, o346 P, o511 P, o348 P, o349 P, o350 P, o351 P, c4_352 P, o353 P, o354 P, o355 P, o356 P, o357 P, o511 P, o509 P, o360 P, o511 P, o362 P, o363 P, o364 P, o511 P, o509 P, o367 P, o511 P, o369 P, o370 P, o371 P, o511 P, o373 P, c4_374 P, o511 P, o376 P, o377 P, o378 P, o511 P, o509 P, o381 P, o511 P, o383 P, o384 P, o385 P, o511 P, o509 P, o388 P, o511 P, o390 P, o391 P, o392 P, o393 P, c4_394 P, o395 P, o396 P, o397 P, o398 P, o399 P, o511 P, o509 P, o402 P, o511 P, o404 P, o405 P, o406 P, o511 P, o509 P, o409 P, o511 P, o411 P, o412 P, o413 P, o511 P, o509 P, o416 P, o417 P, o418 P, o511 P, o509 P, o421 P, o422 P, o423 P, o511 P, o509 P, o426 P, o511 P, o428 P, o429 P, o430 P, o511 P, o509 P, o433 P, o511 P, o435 P, o436 P, o437 P, o511 P, o509 P, o440 P, o511 P, o442 P, o443 P, o444 P, o511 P, o509 P, o447 P, o511 P, o449 P, o450 P, o451 P, o511 P, o509 P, o454 P, o511 P, o456 P, o457 P, o458 P, o511 P, o509 P, o461 P, o511 P, o463 P, o464 P, o465 P, o511 P, o509 P, o468 P, o469 P, o470 P, o511 P, o509 P, o473 P, o474 P, o475 P, o511 P, o509 P, o478 P, o511 P, o480 P, o481 P, o482 P, o511 P, o509 P, o485 P, o486 P, o487 P]
noncomputable def life9 : Life := (Life.mk [] [] [] 0 [] [] false #[] [] 0 false false false 0 [2000, 10, 10] false 0 true [] [] 0 false)
noncomputable def drawn9 : Drawn := Drawn.mk 0 0 0 0
noncomputable def mkT (l : List Obj) : BT := (l.foldl (fun (t : BT × Nat) o => (t.1.ins t.2 o, t.2 + 1)) (BT.nil, 0)).1
noncomputable def heapA (P : Params) : Heap := ⟨⟨objsA P⟩, life9⟩
noncomputable def heapF (P : Params) : Heap := ⟨⟨objsF P⟩, life9⟩
noncomputable def sA (w : World) (os : OsState) : Shared := ⟨heapA w.params, #[], drawn9, 187, os⟩
noncomputable def sF (w : World) (os : OsState) : Shared := ⟨heapF w.params, #[], drawn9, 895, os⟩
noncomputable def tA (w : World) (os : OsState) : SharedT := ⟨mkT (objsA w.params), 15, life9, #[], drawn9, 187, os⟩
noncomputable def tF (w : World) (os : OsState) : SharedT := ⟨mkT (objsF w.params), 515, life9, #[], drawn9, 895, os⟩
noncomputable def tC0 (w : World) (os : OsState) : SharedT := ⟨mkT (objsC0 w.params), 99, life9, #[], drawn9, 295, os⟩
noncomputable def tC1 (w : World) (os : OsState) : SharedT := ⟨mkT (objsC1 w.params), 181, life9, #[], drawn9, 402, os⟩
noncomputable def tC2 (w : World) (os : OsState) : SharedT := ⟨mkT (objsC2 w.params), 238, life9, #[], drawn9, 486, os⟩
noncomputable def tC3 (w : World) (os : OsState) : SharedT := ⟨mkT (objsC3 w.params), 318, life9, #[], drawn9, 600, os⟩
noncomputable def tC4 (w : World) (os : OsState) : SharedT := ⟨mkT (objsC4 w.params), 400, life9, #[], drawn9, 720, os⟩
noncomputable def tC5 (w : World) (os : OsState) : SharedT := ⟨mkT (objsC5 w.params), 488, life9, #[], drawn9, 863, os⟩
noncomputable def bE : List Stmt := behindTheImports pp
noncomputable def envE : Env := { scope := pp.main.scope, locals := mainNs, globals := mainNs, cells := [], code := .ref 13, frame := some 14 }
noncomputable def cE : Code := .body bE envE
noncomputable def B9 : List Frame := [topFrame noPos]
noncomputable def finPos : Pos := ⟨357, 0, 359, 69⟩
theorem absA (w : World) (os : OsState) : (tA w os).abs = sA w os := by kernel_rfl
theorem absF (w : World) (os : OsState) : (tF w os).abs = sF w os := by kernel_rfl
theorem pre_ (w : World) (os : OsState) : topGo treeTable pp w 11 (some (.ref 6)) 12 ⟨boot_heap w.params, #[], boot_drawn, boot_toks, os⟩ (topStub pp) = some (sA w os, ⟨denote treeTable cE, cE, noPos, B9⟩) := by kernel_rfl
theorem block_ (w : World) (os : OsState) : segRun treeTable pp w 11 (some (.ref 6)) 1 1 (sA w os) (blockOf bE envE cE noPos B9) = some (.next, sA w os, cE, noPos) := by kernel_rfl
theorem fin_ (w : World) (os : OsState) : topRun treeTable pp w 11 (some (.ref 6)) 2 (sF w os) ⟨doneF .next, cE, finPos, B9⟩ = some (sF w os) := by kernel_rfl
noncomputable def seg9 (i j : Nat) : List Stmt := (bE.drop i).take j
theorem body0_ (w : World) (os : OsState) : segRunT treeTable pp w 11 (some (.ref 6)) 1 646 (tA w os) (piecesOf (seg9 0 3) envE cE noPos B9) = some (.next, tC0 w os, cE, ⟨15, 0, 28, 19⟩) := by kernel_rfl
theorem body1_ (w : World) (os : OsState) : segRunT treeTable pp w 11 (some (.ref 6)) 1 636 (tC0 w os) (piecesOf (seg9 3 2) envE cE ⟨15, 0, 28, 19⟩ B9) = some (.next, tC1 w os, cE, ⟨43, 0, 56, 39⟩) := by kernel_rfl
theorem body2_ (w : World) (os : OsState) : segRunT treeTable pp w 11 (some (.ref 6)) 1 537 (tC1 w os) (piecesOf (seg9 5 2) envE cE ⟨43, 0, 56, 39⟩ B9) = some (.next, tC2 w os, cE, ⟨74, 0, 79, 24⟩) := by kernel_rfl
theorem body3_ (w : World) (os : OsState) : segRunT treeTable pp w 11 (some (.ref 6)) 1 641 (tC2 w os) (piecesOf (seg9 7 2) envE cE ⟨74, 0, 79, 24⟩ B9) = some (.next, tC3 w os, cE, ⟨102, 0, 115, 36⟩) := by kernel_rfl
theorem body4_ (w : World) (os : OsState) : segRunT treeTable pp w 11 (some (.ref 6)) 1 659 (tC3 w os) (piecesOf (seg9 9 6) envE cE ⟨102, 0, 115, 36⟩ B9) = some (.next, tC4 w os, cE, ⟨152, 0, 160, 58⟩) := by kernel_rfl
theorem body5_ (w : World) (os : OsState) : segRunT treeTable pp w 11 (some (.ref 6)) 1 463 (tC4 w os) (piecesOf (seg9 15 17) envE cE ⟨152, 0, 160, 58⟩ B9) = some (.next, tC5 w os, cE, ⟨288, 0, 301, 77⟩) := by kernel_rfl
theorem body6_ (w : World) (os : OsState) : segRunT treeTable pp w 11 (some (.ref 6)) 1 135 (tC5 w os) (piecesOf (seg9 32 5) envE cE ⟨288, 0, 301, 77⟩ B9) = some (.next, tF w os, cE, finPos) := by kernel_rfl
theorem bE_cut : bE = seg9 0 3 ++ (seg9 3 2 ++ (seg9 5 2 ++ (seg9 7 2 ++ (seg9 9 6 ++ (seg9 15 17 ++ (seg9 32 5 ++ [])))))) := by kernel_rfl
noncomputable def heap9 (P : Params) : Frag := [(2, boot_o_2 P), (3, o3 P), (22, o22 P), (24, o24 P), (25, o25 P), (27, o27 P), (28, o28 P), (29, o29 P), (31, o31 P), (32, o32 P), (34, o34 P), (35, o35 P), (36, o36 P), (38, o38 P), (39, o39 P), (41, o41 P), (42, o42 P), (43, o43 P), (45, o45 P), (46, o46 P), (48, o48 P), (49, o49 P), (50, o50 P), (51, o51 P), (52, o52 P), (53, o53 P), (54, o54 P), (64, o64 P), (66, o66 P), (67, o67 P), (69, o69 P), (70, o70 P), (71, o71 P), (73, o73 P), (74, o74 P), (76, o76 P), (77, o77 P), (78, o78 P), (80, o80 P), (81, o81 P), (83, o83 P), (84, o84 P), (85, o85 P), (87, o87 P), (88, o88 P), (90, o90 P), (91, o91 P), (92, o92 P), (93, o93 P), (94, o94 P), (95, o95 P), (96, o96 P), (106, o106 P), (108, o108 P), (109, o109 P), (111, o111 P), (112, o112 P), (113, o113 P), (115, o115 P), (116, o116 P), (118, o118 P), (119, o119 P), (120, o120 P), (123, o123 P), (124, o124 P), (125, o125 P), (127, o127 P), (128, o128 P), (130, o130 P), (131, o131 P), (132, o132 P), (133, o133 P), (134, o134 P), (135, o135 P), (136, o136 P), (146, o146 P), (148, o148 P), (149, o149 P), (151, o151 P), (152, o152 P), (153, o153 P), (155, o155 P), (156, o156 P), (158, o158 P), (159, o159 P), (160, o160 P), (162, o162 P), (163, o163 P), (165, o165 P), (166, o166 P), (167, o167 P), (169, o169 P), (170, o170 P), (172, o172 P), (173, o173 P), (174, o174 P), (175, o175 P), (176, o176 P), (177, o177 P), (178, o178 P), (188, o188 P), (190, o190 P), (191, o191 P), (193, o193 P), (194, o194 P), (195, o195 P), (198, o198 P), (199, o199 P), (200, o200 P), (203, o203 P), (204, o204 P), (205, o205 P), (208, o208 P), (209, o209 P), (210, o210 P), (211, o211 P), (212, o212 P), (213, o213 P), (214, o214 P), (224, o224 P), (226, o226 P), (227, o227 P), (229, o229 P), (230, o230 P), (231, o231 P), (232, o232 P), (233, o233 P), (234, o234 P), (235, o235 P), (245, o245 P), (247, o247 P), (248, o248 P), (250, o250 P), (251, o251 P), (252, o252 P), (255, o255 P), (256, o256 P), (257, o257 P), (259, o259 P), (260, o260 P), (262, o262 P), (263, o263 P), (264, o264 P), (266, o266 P), (267, o267 P), (269, o269 P), (270, o270 P), (271, o271 P), (272, o272 P), (273, o273 P), (274, o274 P), (275, o275 P), (285, o285 P), (287, o287 P), (288, o288 P), (290, o290 P), (291, o291 P), (292, o292 P), (294, o294 P), (295, o295 P), (297, o297 P), (298, o298 P), (299, o299 P), (302, o302 P), (303, o303 P), (304, o304 P), (306, o306 P), (307, o307 P), (309, o309 P), (310, o310 P), (311, o311 P), (312, o312 P), (313, o313 P), (314, o314 P), (315, o315 P), (325, o325 P), (327, o327 P), (328, o328 P), (330, o330 P), (331, o331 P), (332, o332 P), (334, o334 P), (335, o335 P), (337, o337 P), (338, o338 P), (339, o339 P), (342, o342 P), (343, o343 P), (344, o344 P), (346, o346 P), (347, o347 P), (349, o349 P), (350, o350 P), (351, o351 P), (352, o352 P), (353, o353 P), (354, o354 P), (355, o355 P), (358, o358 P), (360, o360 P), (361, o361 P), (363, o363 P), (364, o364 P), (365, o365 P), (367, o367 P), (368, o368 P), (370, o370 P), (371, o371 P), (379, o379 P), (381, o381 P), (382, o382 P), (384, o384 P), (385, o385 P), (386, o386 P), (388, o388 P), (389, o389 P), (391, o391 P), (392, o392 P), (393, o393 P), (394, o394 P), (395, o395 P), (396, o396 P), (397, o397 P), (400, o400 P), (402, o402 P), (403, o403 P), (405, o405 P), (406, o406 P), (407, o407 P), (409, o409 P), (410, o410 P), (412, o412 P), (413, o413 P), (414, o414 P), (417, o417 P), (418, o418 P), (419, o419 P), (422, o422 P), (423, o423 P), (424, o424 P), (426, o426 P), (427, o427 P), (429, o429 P), (430, o430 P), (431, o431 P), (433, o433 P), (434, o434 P), (436, o436 P), (437, o437 P), (438, o438 P), (440, o440 P), (441, o441 P), (443, o443 P), (444, o444 P), (445, o445 P), (447, o447 P), (448, o448 P), (450, o450 P), (451, o451 P), (452, o452 P), (454, o454 P), (455, o455 P), (457, o457 P), (458, o458 P), (459, o459 P), (461, o461 P), (462, o462 P), (464, o464 P), (465, o465 P), (466, o466 P), (469, o469 P), (470, o470 P), (471, o471 P), (474, o474 P), (475, o475 P), (476, o476 P), (478, o478 P), (479, o479 P), (481, o481 P), (482, o482 P), (483, o483 P), (486, o486 P), (487, o487 P), (488, o488 P), (491, o491 P), (492, o492 P), (493, o493 P), (496, o496 P), (497, o497 P), (498, o498 P), (501, o501 P), (502, o502 P), (503, o503 P), (506, o506 P), (507, o507 P), (508, o508 P), (510, o510 P), (511, o511 P), (513, o513 P), (514, o514 P)]
noncomputable def adr9 : List Addr := [2, 3, 22, 24, 25, 27, 28, 29, 31, 32, 34, 35, 36, 38, 39, 41, 42, 43, 45, 46, 48, 49, 50, 51, 52, 53, 54, 64, 66, 67, 69, 70, 71, 73, 74, 76, 77, 78, 80, 81, 83, 84, 85, 87, 88, 90, 91, 92, 93, 94, 95, 96, 106, 108, 109, 111, 112, 113, 115, 116, 118, 119, 120, 123, 124, 125, 127, 128, 130, 131, 132, 133, 134, 135, 136, 146, 148, 149, 151, 152, 153, 155, 156, 158, 159, 160, 162, 163, 165, 166, 167, 169, 170, 172, 173, 174, 175, 176, 177, 178, 188, 190, 191, 193, 194, 195, 198, 199, 200, 203, 204, 205, 208, 209, 210, 211, 212, 213, 214, 224, 226, 227, 229, 230, 231, 232, 233, 234, 235, 245, 247, 248, 250, 251, 252, 255, 256, 257, 259, 260, 262, 263, 264, 266, 267, 269, 270, 271, 272, 273, 274, 275, 285, 287, 288, 290, 291, 292, 294, 295, 297, 298, 299, 302, 303, 304, 306, 307, 309, 310, 311, 312, 313, 314, 315, 325, 327, 328, 330, 331, 332, 334, 335, 337, 338, 339, 342, 343, 344, 346, 347, 349, 350, 351, 352, 353, 354, 355, 358, 360, 361, 363, 364, 365, 367, 368, 370, 371, 379, 381, 382, 384, 385, 386, 388, 389, 391, 392, 393, 394, 395, 396, 397, 400, 402, 403, 405, 406, 407, 409, 410, 412, 413, 414, 417, 418, 419, 422, 423, 424, 426, 427, 429, 430, 431, 433, 434, 436, 437, 438, 440, 441, 443, 444, 445, 447, 448, 450, 451, 452, 454, 455, 457, 458, 459, 461, 462, 464, 465, 466, 469, 470, 471, 474, 475, 476, 478, 479, 481, 482, 483, 486, 487, 488, 491, 492, 493, 496, 497, 498, 501, 502, 503, 506, 507, 508, 510, 511, 513, 514]
theorem adr9_ok (P : Params) : adr9 = (heap9 P).map (·.1) := by kernel_rfl
noncomputable def view9 : Program := view pp [1, 2, 3, 4, 5, 6, 7, 8, 9, 11, 12, 14, 15, 16, 18, 19, 21, 22, 23, 25, 26, 27, 28, 29, 30, 31, 32, 33, 34, 35, 36]
theorem open_ (w : World) : (fencedOpening treeTable pp w 7546).map (fun s => (s.heap, s.gens, s.drawn, s.toks)) = some (boot_heap w.params, Array.mk [], boot_drawn, boot_toks) :=
  boot_open (p := pp) (by kernel_rfl) (by decide +kernel) (by intro s; kernel_rfl) w
theorem run_ (w : World) (os : OsState) : topRun treeTable pp w 11 (some (.ref 6)) (12 + (1 + (646 + (636 + (537 + (641 + (659 + (463 + (135 + 2))))))))) ⟨boot_heap w.params, #[], boot_drawn, boot_toks, os⟩ (topStub pp) = some (sF w os) := by
  refine go_top (pre_ w os) (piece_block (block_ w os) ?_)
  rw [bE_cut]
  have b0 := segRun_of (body0_ w os)
  have b1 := segRun_of (body1_ w os)
  have b2 := segRun_of (body2_ w os)
  have b3 := segRun_of (body3_ w os)
  have b4 := segRun_of (body4_ w os)
  have b5 := segRun_of (body5_ w os)
  have b6 := segRun_of (body6_ w os)
  rw [absA] at b0
  rw [absF] at b6
  exact piece_app b0 (piece_app b1 (piece_app b2 (piece_app b3 (piece_app b4 (piece_app b5 (piece_app b6 (piece_nil (fin_ w os))))))))
theorem looks1 (w : World) : (fun os => (staticsOk (importedModules pp.main.body) (boot_heap w.params) (heapF w.params) && namesBound pp (heapF w.params) && gensDone (sF w os) && laidKept (boot_heap w.params) (heapF w.params))) = fun _ => true := by kernel_rfl
theorem looks2 (w : World) : (fun os => openSeen view9 [] (importedModules pp.main.body) (fun s => xlAt view9 [] s && recOk (RowW.records PySem.Challenge.rw_og0013_01.row.toRowW) s) true (sF w os)) = fun _ => openGood view9 [] := by kernel_rfl
theorem looks3 (w : World) : (fun os => Hook.obs (kmHook heap9 adr9 adr9_ok [489]) (sF w os)) = fun _ => Hook.val (kmHook heap9 adr9 adr9_ok [489]) w := by kernel_rfl
theorem looks_ (w : World) : (fun os => ((staticsOk (importedModules pp.main.body) (boot_heap w.params) (heapF w.params) && namesBound pp (heapF w.params) && gensDone (sF w os) && laidKept (boot_heap w.params) (heapF w.params)),
    openSeen view9 [] (importedModules pp.main.body) (fun s => xlAt view9 [] s && recOk (RowW.records PySem.Challenge.rw_og0013_01.row.toRowW) s) true (sF w os), Hook.obs (kmHook heap9 adr9 adr9_ok [489]) (sF w os))) = fun _ => (true, openGood view9 [], Hook.val (kmHook heap9 adr9 adr9_ok [489]) w) :=
  funext fun os => Prod.ext (congrFun (looks1 w) os) (Prod.ext (congrFun (looks2 w) os) (congrFun (looks3 w) os))
theorem left_ : LeftO PySem.Challenge.rw_og0013_01.row.toRowW.prog view9 [] (fun s => xlAt view9 [] s && recOk (RowW.records PySem.Challenge.rw_og0013_01.row.toRowW) s) (Hook.obs (kmHook heap9 adr9 adr9_ok [489])) (Hook.val (kmHook heap9 adr9 adr9_ok [489])) 7546 :=
  LeftO.of_pieces (H₀ := boot_heap) (H₁ := heapF) (gs₀ := Array.mk []) (gs₁ := #[]) (d₀ := boot_drawn) (d₁ := drawn9) (k₀ := boot_toks) (k₁ := 895) (m₀ := 11) (ann := some (.ref 6)) (M := 12 + (1 + (646 + (636 + (537 + (641 + (659 + (463 + (135 + 2)))))))))
    open_ (by intro w; kernel_rfl) run_ (by decide +kernel) looks_
end Mine
end
section
namespace Mine
theorem i03 {A B C : Prop} (h0 : A) (h1 : B) (h2 : C) : A ∧ B ∧ C := ⟨h0, h1, h2⟩
theorem i04 {A B C D : Prop} (h0 : A) (h1 : B) (h2 : C) (h3 : D) : A ∧ B ∧ C ∧ D := ⟨h0, h1, h2, h3⟩
theorem i05 {A B C D E : Prop} (h0 : A) (h1 : B) (h2 : C) (h3 : D) (h4 : E) : A ∧ B ∧ C ∧ D ∧ E := ⟨h0, h1, h2, h3, h4⟩
theorem i12 {α : Type} {A B : α → Prop} (x9 : α) (h0 : A x9) (h1 : B x9) : ∃ x9, A x9 ∧ B x9 := ⟨x9, h0, h1⟩
theorem i13 {α : Type} {A B C : α → Prop} (x9 : α) (h0 : A x9) (h1 : B x9) (h2 : C x9) : ∃ x9, A x9 ∧ B x9 ∧ C x9 := ⟨x9, h0, h1, h2⟩
theorem i14 {α : Type} {A B C D : α → Prop} (x9 : α) (h0 : A x9) (h1 : B x9) (h2 : C x9) (h3 : D x9) : ∃ x9, A x9 ∧ B x9 ∧ C x9 ∧ D x9 := ⟨x9, h0, h1, h2, h3⟩
theorem i21 {α β : Type} {A : α → β → Prop} (x9 : α) (y9 : β) (h0 : A x9 y9) : ∃ x9 y9, A x9 y9 := ⟨x9, y9, h0⟩
theorem i22 {α β : Type} {A B : α → β → Prop} (x9 : α) (y9 : β) (h0 : A x9 y9) (h1 : B x9 y9) : ∃ x9 y9, A x9 y9 ∧ B x9 y9 := ⟨x9, y9, h0, h1⟩
theorem i23 {α β : Type} {A B C : α → β → Prop} (x9 : α) (y9 : β) (h0 : A x9 y9) (h1 : B x9 y9) (h2 : C x9 y9) : ∃ x9 y9, A x9 y9 ∧ B x9 y9 ∧ C x9 y9 := ⟨x9, y9, h0, h1, h2⟩
theorem i24 {α β : Type} {A B C D : α → β → Prop} (x9 : α) (y9 : β) (h0 : A x9 y9) (h1 : B x9 y9) (h2 : C x9 y9) (h3 : D x9 y9) : ∃ x9 y9, A x9 y9 ∧ B x9 y9 ∧ C x9 y9 ∧ D x9 y9 := ⟨x9, y9, h0, h1, h2, h3⟩
theorem i25 {α β : Type} {A B C D E : α → β → Prop} (x9 : α) (y9 : β) (h0 : A x9 y9) (h1 : B x9 y9) (h2 : C x9 y9) (h3 : D x9 y9) (h4 : E x9 y9) : ∃ x9 y9, A x9 y9 ∧ B x9 y9 ∧ C x9 y9 ∧ D x9 y9 ∧ E x9 y9 := ⟨x9, y9, h0, h1, h2, h3, h4⟩
theorem i26 {α β : Type} {A B C D E F : α → β → Prop} (x9 : α) (y9 : β) (h0 : A x9 y9) (h1 : B x9 y9) (h2 : C x9 y9) (h3 : D x9 y9) (h4 : E x9 y9) (h5 : F x9 y9) : ∃ x9 y9, A x9 y9 ∧ B x9 y9 ∧ C x9 y9 ∧ D x9 y9 ∧ E x9 y9 ∧ F x9 y9 := ⟨x9, y9, h0, h1, h2, h3, h4, h5⟩
theorem i31 {α β γ : Type} {A : α → β → γ → Prop} (x9 : α) (y9 : β) (z9 : γ) (h0 : A x9 y9 z9) : ∃ x9 y9 z9, A x9 y9 z9 := ⟨x9, y9, z9, h0⟩
theorem i33 {α β γ : Type} {A B C : α → β → γ → Prop} (x9 : α) (y9 : β) (z9 : γ) (h0 : A x9 y9 z9) (h1 : B x9 y9 z9) (h2 : C x9 y9 z9) : ∃ x9 y9 z9, A x9 y9 z9 ∧ B x9 y9 z9 ∧ C x9 y9 z9 := ⟨x9, y9, z9, h0, h1, h2⟩
theorem i34 {α β γ : Type} {A B C D : α → β → γ → Prop} (x9 : α) (y9 : β) (z9 : γ) (h0 : A x9 y9 z9) (h1 : B x9 y9 z9) (h2 : C x9 y9 z9) (h3 : D x9 y9 z9) : ∃ x9 y9 z9, A x9 y9 z9 ∧ B x9 y9 z9 ∧ C x9 y9 z9 ∧ D x9 y9 z9 := ⟨x9, y9, z9, h0, h1, h2, h3⟩
theorem i35 {α β γ : Type} {A B C D E : α → β → γ → Prop} (x9 : α) (y9 : β) (z9 : γ) (h0 : A x9 y9 z9) (h1 : B x9 y9 z9) (h2 : C x9 y9 z9) (h3 : D x9 y9 z9) (h4 : E x9 y9 z9) : ∃ x9 y9 z9, A x9 y9 z9 ∧ B x9 y9 z9 ∧ C x9 y9 z9 ∧ D x9 y9 z9 ∧ E x9 y9 z9 := ⟨x9, y9, z9, h0, h1, h2, h3, h4⟩
theorem i36 {α β γ : Type} {A B C D E F : α → β → γ → Prop} (x9 : α) (y9 : β) (z9 : γ) (h0 : A x9 y9 z9) (h1 : B x9 y9 z9) (h2 : C x9 y9 z9) (h3 : D x9 y9 z9) (h4 : E x9 y9 z9) (h5 : F x9 y9 z9) : ∃ x9 y9 z9, A x9 y9 z9 ∧ B x9 y9 z9 ∧ C x9 y9 z9 ∧ D x9 y9 z9 ∧ E x9 y9 z9 ∧ F x9 y9 z9 := ⟨x9, y9, z9, h0, h1, h2, h3, h4, h5⟩
theorem i37 {α β γ : Type} {A B C D E F G : α → β → γ → Prop} (x9 : α) (y9 : β) (z9 : γ) (h0 : A x9 y9 z9) (h1 : B x9 y9 z9) (h2 : C x9 y9 z9) (h3 : D x9 y9 z9) (h4 : E x9 y9 z9) (h5 : F x9 y9 z9) (h6 : G x9 y9 z9) : ∃ x9 y9 z9, A x9 y9 z9 ∧ B x9 y9 z9 ∧ C x9 y9 z9 ∧ D x9 y9 z9 ∧ E x9 y9 z9 ∧ F x9 y9 z9 ∧ G x9 y9 z9 := ⟨x9, y9, z9, h0, h1, h2, h3, h4, h5, h6⟩
theorem i42 {α β γ δ : Type} {A B : α → β → γ → δ → Prop} (x9 : α) (y9 : β) (z9 : γ) (u9 : δ) (h0 : A x9 y9 z9 u9) (h1 : B x9 y9 z9 u9) : ∃ x9 y9 z9 u9, A x9 y9 z9 u9 ∧ B x9 y9 z9 u9 := ⟨x9, y9, z9, u9, h0, h1⟩
theorem i43 {α β γ δ : Type} {A B C : α → β → γ → δ → Prop} (x9 : α) (y9 : β) (z9 : γ) (u9 : δ) (h0 : A x9 y9 z9 u9) (h1 : B x9 y9 z9 u9) (h2 : C x9 y9 z9 u9) : ∃ x9 y9 z9 u9, A x9 y9 z9 u9 ∧ B x9 y9 z9 u9 ∧ C x9 y9 z9 u9 := ⟨x9, y9, z9, u9, h0, h1, h2⟩
theorem i45 {α β γ δ : Type} {A B C D E : α → β → γ → δ → Prop} (x9 : α) (y9 : β) (z9 : γ) (u9 : δ) (h0 : A x9 y9 z9 u9) (h1 : B x9 y9 z9 u9) (h2 : C x9 y9 z9 u9) (h3 : D x9 y9 z9 u9) (h4 : E x9 y9 z9 u9) : ∃ x9 y9 z9 u9, A x9 y9 z9 u9 ∧ B x9 y9 z9 u9 ∧ C x9 y9 z9 u9 ∧ D x9 y9 z9 u9 ∧ E x9 y9 z9 u9 := ⟨x9, y9, z9, u9, h0, h1, h2, h3, h4⟩
theorem i46 {α β γ δ : Type} {A B C D E F : α → β → γ → δ → Prop} (x9 : α) (y9 : β) (z9 : γ) (u9 : δ) (h0 : A x9 y9 z9 u9) (h1 : B x9 y9 z9 u9) (h2 : C x9 y9 z9 u9) (h3 : D x9 y9 z9 u9) (h4 : E x9 y9 z9 u9) (h5 : F x9 y9 z9 u9) : ∃ x9 y9 z9 u9, A x9 y9 z9 u9 ∧ B x9 y9 z9 u9 ∧ C x9 y9 z9 u9 ∧ D x9 y9 z9 u9 ∧ E x9 y9 z9 u9 ∧ F x9 y9 z9 u9 := ⟨x9, y9, z9, u9, h0, h1, h2, h3, h4, h5⟩
theorem i47 {α β γ δ : Type} {A B C D E F G : α → β → γ → δ → Prop} (x9 : α) (y9 : β) (z9 : γ) (u9 : δ) (h0 : A x9 y9 z9 u9) (h1 : B x9 y9 z9 u9) (h2 : C x9 y9 z9 u9) (h3 : D x9 y9 z9 u9) (h4 : E x9 y9 z9 u9) (h5 : F x9 y9 z9 u9) (h6 : G x9 y9 z9 u9) : ∃ x9 y9 z9 u9, A x9 y9 z9 u9 ∧ B x9 y9 z9 u9 ∧ C x9 y9 z9 u9 ∧ D x9 y9 z9 u9 ∧ E x9 y9 z9 u9 ∧ F x9 y9 z9 u9 ∧ G x9 y9 z9 u9 := ⟨x9, y9, z9, u9, h0, h1, h2, h3, h4, h5, h6⟩
theorem i56 {α β γ δ ε : Type} {A B C D E F : α → β → γ → δ → ε → Prop} (x9 : α) (y9 : β) (z9 : γ) (u9 : δ) (v9 : ε) (h0 : A x9 y9 z9 u9 v9) (h1 : B x9 y9 z9 u9 v9) (h2 : C x9 y9 z9 u9 v9) (h3 : D x9 y9 z9 u9 v9) (h4 : E x9 y9 z9 u9 v9) (h5 : F x9 y9 z9 u9 v9) : ∃ x9 y9 z9 u9 v9, A x9 y9 z9 u9 v9 ∧ B x9 y9 z9 u9 v9 ∧ C x9 y9 z9 u9 v9 ∧ D x9 y9 z9 u9 v9 ∧ E x9 y9 z9 u9 v9 ∧ F x9 y9 z9 u9 v9 := ⟨x9, y9, z9, u9, v9, h0, h1, h2, h3, h4, h5⟩
theorem i57 {α β γ δ ε : Type} {A B C D E F G : α → β → γ → δ → ε → Prop} (x9 : α) (y9 : β) (z9 : γ) (u9 : δ) (v9 : ε) (h0 : A x9 y9 z9 u9 v9) (h1 : B x9 y9 z9 u9 v9) (h2 : C x9 y9 z9 u9 v9) (h3 : D x9 y9 z9 u9 v9) (h4 : E x9 y9 z9 u9 v9) (h5 : F x9 y9 z9 u9 v9) (h6 : G x9 y9 z9 u9 v9) : ∃ x9 y9 z9 u9 v9, A x9 y9 z9 u9 v9 ∧ B x9 y9 z9 u9 v9 ∧ C x9 y9 z9 u9 v9 ∧ D x9 y9 z9 u9 v9 ∧ E x9 y9 z9 u9 v9 ∧ F x9 y9 z9 u9 v9 ∧ G x9 y9 z9 u9 v9 := ⟨x9, y9, z9, u9, v9, h0, h1, h2, h3, h4, h5, h6⟩
theorem i65 {α β γ δ ε ζ : Type} {A B C D E : α → β → γ → δ → ε → ζ → Prop} (x9 : α) (y9 : β) (z9 : γ) (u9 : δ) (v9 : ε) (w9 : ζ) (h0 : A x9 y9 z9 u9 v9 w9) (h1 : B x9 y9 z9 u9 v9 w9) (h2 : C x9 y9 z9 u9 v9 w9) (h3 : D x9 y9 z9 u9 v9 w9) (h4 : E x9 y9 z9 u9 v9 w9) : ∃ x9 y9 z9 u9 v9 w9, A x9 y9 z9 u9 v9 w9 ∧ B x9 y9 z9 u9 v9 w9 ∧ C x9 y9 z9 u9 v9 w9 ∧ D x9 y9 z9 u9 v9 w9 ∧ E x9 y9 z9 u9 v9 w9 := ⟨x9, y9, z9, u9, v9, w9, h0, h1, h2, h3, h4⟩
theorem i68 {α β γ δ ε ζ : Type} {A B C D E F G H : α → β → γ → δ → ε → ζ → Prop} (x9 : α) (y9 : β) (z9 : γ) (u9 : δ) (v9 : ε) (w9 : ζ) (h0 : A x9 y9 z9 u9 v9 w9) (h1 : B x9 y9 z9 u9 v9 w9) (h2 : C x9 y9 z9 u9 v9 w9) (h3 : D x9 y9 z9 u9 v9 w9) (h4 : E x9 y9 z9 u9 v9 w9) (h5 : F x9 y9 z9 u9 v9 w9) (h6 : G x9 y9 z9 u9 v9 w9) (h7 : H x9 y9 z9 u9 v9 w9) : ∃ x9 y9 z9 u9 v9 w9, A x9 y9 z9 u9 v9 w9 ∧ B x9 y9 z9 u9 v9 w9 ∧ C x9 y9 z9 u9 v9 w9 ∧ D x9 y9 z9 u9 v9 w9 ∧ E x9 y9 z9 u9 v9 w9 ∧ F x9 y9 z9 u9 v9 w9 ∧ G x9 y9 z9 u9 v9 w9 ∧ H x9 y9 z9 u9 v9 w9 := ⟨x9, y9, z9, u9, v9, w9, h0, h1, h2, h3, h4, h5, h6, h7⟩
theorem x02 {A B : Prop} {Q : Prop} (h : A ∧ B) (k : A → B → Q) : Q := k h.1 h.2
theorem x03 {A B C : Prop} {Q : Prop} (h : A ∧ B ∧ C) (k : A → B → C → Q) : Q := k h.1 h.2.1 h.2.2
theorem x04 {A B C D : Prop} {Q : Prop} (h : A ∧ B ∧ C ∧ D) (k : A → B → C → D → Q) : Q := k h.1 h.2.1 h.2.2.1 h.2.2.2
theorem x05 {A B C D E : Prop} {Q : Prop} (h : A ∧ B ∧ C ∧ D ∧ E) (k : A → B → C → D → E → Q) : Q := k h.1 h.2.1 h.2.2.1 h.2.2.2.1 h.2.2.2.2
theorem x11 {α : Type} {A : α → Prop} {Q : Prop} (h : ∃ x9, A x9) (k : ∀ x9, A x9 → Q) : Q := h.elim fun x9 h => k x9 h
theorem x12 {α : Type} {A B : α → Prop} {Q : Prop} (h : ∃ x9, A x9 ∧ B x9) (k : ∀ x9, A x9 → B x9 → Q) : Q := h.elim fun x9 h => k x9 h.1 h.2
theorem x13 {α : Type} {A B C : α → Prop} {Q : Prop} (h : ∃ x9, A x9 ∧ B x9 ∧ C x9) (k : ∀ x9, A x9 → B x9 → C x9 → Q) : Q := h.elim fun x9 h => k x9 h.1 h.2.1 h.2.2
theorem x14 {α : Type} {A B C D : α → Prop} {Q : Prop} (h : ∃ x9, A x9 ∧ B x9 ∧ C x9 ∧ D x9) (k : ∀ x9, A x9 → B x9 → C x9 → D x9 → Q) : Q := h.elim fun x9 h => k x9 h.1 h.2.1 h.2.2.1 h.2.2.2
theorem x21 {α β : Type} {A : α → β → Prop} {Q : Prop} (h : ∃ x9 y9, A x9 y9) (k : ∀ x9 y9, A x9 y9 → Q) : Q := h.elim fun x9 h => h.elim fun y9 h => k x9 y9 h
theorem x22 {α β : Type} {A B : α → β → Prop} {Q : Prop} (h : ∃ x9 y9, A x9 y9 ∧ B x9 y9) (k : ∀ x9 y9, A x9 y9 → B x9 y9 → Q) : Q := h.elim fun x9 h => h.elim fun y9 h => k x9 y9 h.1 h.2
theorem x23 {α β : Type} {A B C : α → β → Prop} {Q : Prop} (h : ∃ x9 y9, A x9 y9 ∧ B x9 y9 ∧ C x9 y9) (k : ∀ x9 y9, A x9 y9 → B x9 y9 → C x9 y9 → Q) : Q := h.elim fun x9 h => h.elim fun y9 h => k x9 y9 h.1 h.2.1 h.2.2
theorem x24 {α β : Type} {A B C D : α → β → Prop} {Q : Prop} (h : ∃ x9 y9, A x9 y9 ∧ B x9 y9 ∧ C x9 y9 ∧ D x9 y9) (k : ∀ x9 y9, A x9 y9 → B x9 y9 → C x9 y9 → D x9 y9 → Q) : Q := h.elim fun x9 h => h.elim fun y9 h => k x9 y9 h.1 h.2.1 h.2.2.1 h.2.2.2
theorem x25 {α β : Type} {A B C D E : α → β → Prop} {Q : Prop} (h : ∃ x9 y9, A x9 y9 ∧ B x9 y9 ∧ C x9 y9 ∧ D x9 y9 ∧ E x9 y9) (k : ∀ x9 y9, A x9 y9 → B x9 y9 → C x9 y9 → D x9 y9 → E x9 y9 → Q) : Q := h.elim fun x9 h => h.elim fun y9 h => k x9 y9 h.1 h.2.1 h.2.2.1 h.2.2.2.1 h.2.2.2.2
theorem x26 {α β : Type} {A B C D E F : α → β → Prop} {Q : Prop} (h : ∃ x9 y9, A x9 y9 ∧ B x9 y9 ∧ C x9 y9 ∧ D x9 y9 ∧ E x9 y9 ∧ F x9 y9) (k : ∀ x9 y9, A x9 y9 → B x9 y9 → C x9 y9 → D x9 y9 → E x9 y9 → F x9 y9 → Q) : Q := h.elim fun x9 h => h.elim fun y9 h => k x9 y9 h.1 h.2.1 h.2.2.1 h.2.2.2.1 h.2.2.2.2.1 h.2.2.2.2.2
theorem x31 {α β γ : Type} {A : α → β → γ → Prop} {Q : Prop} (h : ∃ x9 y9 z9, A x9 y9 z9) (k : ∀ x9 y9 z9, A x9 y9 z9 → Q) : Q := h.elim fun x9 h => h.elim fun y9 h => h.elim fun z9 h => k x9 y9 z9 h
theorem x32 {α β γ : Type} {A B : α → β → γ → Prop} {Q : Prop} (h : ∃ x9 y9 z9, A x9 y9 z9 ∧ B x9 y9 z9) (k : ∀ x9 y9 z9, A x9 y9 z9 → B x9 y9 z9 → Q) : Q := h.elim fun x9 h => h.elim fun y9 h => h.elim fun z9 h => k x9 y9 z9 h.1 h.2
theorem x33 {α β γ : Type} {A B C : α → β → γ → Prop} {Q : Prop} (h : ∃ x9 y9 z9, A x9 y9 z9 ∧ B x9 y9 z9 ∧ C x9 y9 z9) (k : ∀ x9 y9 z9, A x9 y9 z9 → B x9 y9 z9 → C x9 y9 z9 → Q) : Q := h.elim fun x9 h => h.elim fun y9 h => h.elim fun z9 h => k x9 y9 z9 h.1 h.2.1 h.2.2
theorem x34 {α β γ : Type} {A B C D : α → β → γ → Prop} {Q : Prop} (h : ∃ x9 y9 z9, A x9 y9 z9 ∧ B x9 y9 z9 ∧ C x9 y9 z9 ∧ D x9 y9 z9) (k : ∀ x9 y9 z9, A x9 y9 z9 → B x9 y9 z9 → C x9 y9 z9 → D x9 y9 z9 → Q) : Q := h.elim fun x9 h => h.elim fun y9 h => h.elim fun z9 h => k x9 y9 z9 h.1 h.2.1 h.2.2.1 h.2.2.2
theorem x35 {α β γ : Type} {A B C D E : α → β → γ → Prop} {Q : Prop} (h : ∃ x9 y9 z9, A x9 y9 z9 ∧ B x9 y9 z9 ∧ C x9 y9 z9 ∧ D x9 y9 z9 ∧ E x9 y9 z9) (k : ∀ x9 y9 z9, A x9 y9 z9 → B x9 y9 z9 → C x9 y9 z9 → D x9 y9 z9 → E x9 y9 z9 → Q) : Q := h.elim fun x9 h => h.elim fun y9 h => h.elim fun z9 h => k x9 y9 z9 h.1 h.2.1 h.2.2.1 h.2.2.2.1 h.2.2.2.2
theorem x36 {α β γ : Type} {A B C D E F : α → β → γ → Prop} {Q : Prop} (h : ∃ x9 y9 z9, A x9 y9 z9 ∧ B x9 y9 z9 ∧ C x9 y9 z9 ∧ D x9 y9 z9 ∧ E x9 y9 z9 ∧ F x9 y9 z9) (k : ∀ x9 y9 z9, A x9 y9 z9 → B x9 y9 z9 → C x9 y9 z9 → D x9 y9 z9 → E x9 y9 z9 → F x9 y9 z9 → Q) : Q := h.elim fun x9 h => h.elim fun y9 h => h.elim fun z9 h => k x9 y9 z9 h.1 h.2.1 h.2.2.1 h.2.2.2.1 h.2.2.2.2.1 h.2.2.2.2.2
theorem x37 {α β γ : Type} {A B C D E F G : α → β → γ → Prop} {Q : Prop} (h : ∃ x9 y9 z9, A x9 y9 z9 ∧ B x9 y9 z9 ∧ C x9 y9 z9 ∧ D x9 y9 z9 ∧ E x9 y9 z9 ∧ F x9 y9 z9 ∧ G x9 y9 z9) (k : ∀ x9 y9 z9, A x9 y9 z9 → B x9 y9 z9 → C x9 y9 z9 → D x9 y9 z9 → E x9 y9 z9 → F x9 y9 z9 → G x9 y9 z9 → Q) : Q := h.elim fun x9 h => h.elim fun y9 h => h.elim fun z9 h => k x9 y9 z9 h.1 h.2.1 h.2.2.1 h.2.2.2.1 h.2.2.2.2.1 h.2.2.2.2.2.1 h.2.2.2.2.2.2
theorem x41 {α β γ δ : Type} {A : α → β → γ → δ → Prop} {Q : Prop} (h : ∃ x9 y9 z9 u9, A x9 y9 z9 u9) (k : ∀ x9 y9 z9 u9, A x9 y9 z9 u9 → Q) : Q := h.elim fun x9 h => h.elim fun y9 h => h.elim fun z9 h => h.elim fun u9 h => k x9 y9 z9 u9 h
theorem x42 {α β γ δ : Type} {A B : α → β → γ → δ → Prop} {Q : Prop} (h : ∃ x9 y9 z9 u9, A x9 y9 z9 u9 ∧ B x9 y9 z9 u9) (k : ∀ x9 y9 z9 u9, A x9 y9 z9 u9 → B x9 y9 z9 u9 → Q) : Q := h.elim fun x9 h => h.elim fun y9 h => h.elim fun z9 h => h.elim fun u9 h => k x9 y9 z9 u9 h.1 h.2
theorem x43 {α β γ δ : Type} {A B C : α → β → γ → δ → Prop} {Q : Prop} (h : ∃ x9 y9 z9 u9, A x9 y9 z9 u9 ∧ B x9 y9 z9 u9 ∧ C x9 y9 z9 u9) (k : ∀ x9 y9 z9 u9, A x9 y9 z9 u9 → B x9 y9 z9 u9 → C x9 y9 z9 u9 → Q) : Q := h.elim fun x9 h => h.elim fun y9 h => h.elim fun z9 h => h.elim fun u9 h => k x9 y9 z9 u9 h.1 h.2.1 h.2.2
theorem x44 {α β γ δ : Type} {A B C D : α → β → γ → δ → Prop} {Q : Prop} (h : ∃ x9 y9 z9 u9, A x9 y9 z9 u9 ∧ B x9 y9 z9 u9 ∧ C x9 y9 z9 u9 ∧ D x9 y9 z9 u9) (k : ∀ x9 y9 z9 u9, A x9 y9 z9 u9 → B x9 y9 z9 u9 → C x9 y9 z9 u9 → D x9 y9 z9 u9 → Q) : Q := h.elim fun x9 h => h.elim fun y9 h => h.elim fun z9 h => h.elim fun u9 h => k x9 y9 z9 u9 h.1 h.2.1 h.2.2.1 h.2.2.2
theorem x45 {α β γ δ : Type} {A B C D E : α → β → γ → δ → Prop} {Q : Prop} (h : ∃ x9 y9 z9 u9, A x9 y9 z9 u9 ∧ B x9 y9 z9 u9 ∧ C x9 y9 z9 u9 ∧ D x9 y9 z9 u9 ∧ E x9 y9 z9 u9) (k : ∀ x9 y9 z9 u9, A x9 y9 z9 u9 → B x9 y9 z9 u9 → C x9 y9 z9 u9 → D x9 y9 z9 u9 → E x9 y9 z9 u9 → Q) : Q := h.elim fun x9 h => h.elim fun y9 h => h.elim fun z9 h => h.elim fun u9 h => k x9 y9 z9 u9 h.1 h.2.1 h.2.2.1 h.2.2.2.1 h.2.2.2.2
theorem x46 {α β γ δ : Type} {A B C D E F : α → β → γ → δ → Prop} {Q : Prop} (h : ∃ x9 y9 z9 u9, A x9 y9 z9 u9 ∧ B x9 y9 z9 u9 ∧ C x9 y9 z9 u9 ∧ D x9 y9 z9 u9 ∧ E x9 y9 z9 u9 ∧ F x9 y9 z9 u9) (k : ∀ x9 y9 z9 u9, A x9 y9 z9 u9 → B x9 y9 z9 u9 → C x9 y9 z9 u9 → D x9 y9 z9 u9 → E x9 y9 z9 u9 → F x9 y9 z9 u9 → Q) : Q := h.elim fun x9 h => h.elim fun y9 h => h.elim fun z9 h => h.elim fun u9 h => k x9 y9 z9 u9 h.1 h.2.1 h.2.2.1 h.2.2.2.1 h.2.2.2.2.1 h.2.2.2.2.2
theorem x47 {α β γ δ : Type} {A B C D E F G : α → β → γ → δ → Prop} {Q : Prop} (h : ∃ x9 y9 z9 u9, A x9 y9 z9 u9 ∧ B x9 y9 z9 u9 ∧ C x9 y9 z9 u9 ∧ D x9 y9 z9 u9 ∧ E x9 y9 z9 u9 ∧ F x9 y9 z9 u9 ∧ G x9 y9 z9 u9) (k : ∀ x9 y9 z9 u9, A x9 y9 z9 u9 → B x9 y9 z9 u9 → C x9 y9 z9 u9 → D x9 y9 z9 u9 → E x9 y9 z9 u9 → F x9 y9 z9 u9 → G x9 y9 z9 u9 → Q) : Q := h.elim fun x9 h => h.elim fun y9 h => h.elim fun z9 h => h.elim fun u9 h => k x9 y9 z9 u9 h.1 h.2.1 h.2.2.1 h.2.2.2.1 h.2.2.2.2.1 h.2.2.2.2.2.1 h.2.2.2.2.2.2
theorem x49 {α β γ δ : Type} {A B C D E F G H I : α → β → γ → δ → Prop} {Q : Prop} (h : ∃ x9 y9 z9 u9, A x9 y9 z9 u9 ∧ B x9 y9 z9 u9 ∧ C x9 y9 z9 u9 ∧ D x9 y9 z9 u9 ∧ E x9 y9 z9 u9 ∧ F x9 y9 z9 u9 ∧ G x9 y9 z9 u9 ∧ H x9 y9 z9 u9 ∧ I x9 y9 z9 u9) (k : ∀ x9 y9 z9 u9, A x9 y9 z9 u9 → B x9 y9 z9 u9 → C x9 y9 z9 u9 → D x9 y9 z9 u9 → E x9 y9 z9 u9 → F x9 y9 z9 u9 → G x9 y9 z9 u9 → H x9 y9 z9 u9 → I x9 y9 z9 u9 → Q) : Q := h.elim fun x9 h => h.elim fun y9 h => h.elim fun z9 h => h.elim fun u9 h => k x9 y9 z9 u9 h.1 h.2.1 h.2.2.1 h.2.2.2.1 h.2.2.2.2.1 h.2.2.2.2.2.1 h.2.2.2.2.2.2.1 h.2.2.2.2.2.2.2.1 h.2.2.2.2.2.2.2.2
theorem x51 {α β γ δ ε : Type} {A : α → β → γ → δ → ε → Prop} {Q : Prop} (h : ∃ x9 y9 z9 u9 v9, A x9 y9 z9 u9 v9) (k : ∀ x9 y9 z9 u9 v9, A x9 y9 z9 u9 v9 → Q) : Q := h.elim fun x9 h => h.elim fun y9 h => h.elim fun z9 h => h.elim fun u9 h => h.elim fun v9 h => k x9 y9 z9 u9 v9 h
theorem x52 {α β γ δ ε : Type} {A B : α → β → γ → δ → ε → Prop} {Q : Prop} (h : ∃ x9 y9 z9 u9 v9, A x9 y9 z9 u9 v9 ∧ B x9 y9 z9 u9 v9) (k : ∀ x9 y9 z9 u9 v9, A x9 y9 z9 u9 v9 → B x9 y9 z9 u9 v9 → Q) : Q := h.elim fun x9 h => h.elim fun y9 h => h.elim fun z9 h => h.elim fun u9 h => h.elim fun v9 h => k x9 y9 z9 u9 v9 h.1 h.2
theorem x55 {α β γ δ ε : Type} {A B C D E : α → β → γ → δ → ε → Prop} {Q : Prop} (h : ∃ x9 y9 z9 u9 v9, A x9 y9 z9 u9 v9 ∧ B x9 y9 z9 u9 v9 ∧ C x9 y9 z9 u9 v9 ∧ D x9 y9 z9 u9 v9 ∧ E x9 y9 z9 u9 v9) (k : ∀ x9 y9 z9 u9 v9, A x9 y9 z9 u9 v9 → B x9 y9 z9 u9 v9 → C x9 y9 z9 u9 v9 → D x9 y9 z9 u9 v9 → E x9 y9 z9 u9 v9 → Q) : Q := h.elim fun x9 h => h.elim fun y9 h => h.elim fun z9 h => h.elim fun u9 h => h.elim fun v9 h => k x9 y9 z9 u9 v9 h.1 h.2.1 h.2.2.1 h.2.2.2.1 h.2.2.2.2
theorem x56 {α β γ δ ε : Type} {A B C D E F : α → β → γ → δ → ε → Prop} {Q : Prop} (h : ∃ x9 y9 z9 u9 v9, A x9 y9 z9 u9 v9 ∧ B x9 y9 z9 u9 v9 ∧ C x9 y9 z9 u9 v9 ∧ D x9 y9 z9 u9 v9 ∧ E x9 y9 z9 u9 v9 ∧ F x9 y9 z9 u9 v9) (k : ∀ x9 y9 z9 u9 v9, A x9 y9 z9 u9 v9 → B x9 y9 z9 u9 v9 → C x9 y9 z9 u9 v9 → D x9 y9 z9 u9 v9 → E x9 y9 z9 u9 v9 → F x9 y9 z9 u9 v9 → Q) : Q := h.elim fun x9 h => h.elim fun y9 h => h.elim fun z9 h => h.elim fun u9 h => h.elim fun v9 h => k x9 y9 z9 u9 v9 h.1 h.2.1 h.2.2.1 h.2.2.2.1 h.2.2.2.2.1 h.2.2.2.2.2
theorem x57 {α β γ δ ε : Type} {A B C D E F G : α → β → γ → δ → ε → Prop} {Q : Prop} (h : ∃ x9 y9 z9 u9 v9, A x9 y9 z9 u9 v9 ∧ B x9 y9 z9 u9 v9 ∧ C x9 y9 z9 u9 v9 ∧ D x9 y9 z9 u9 v9 ∧ E x9 y9 z9 u9 v9 ∧ F x9 y9 z9 u9 v9 ∧ G x9 y9 z9 u9 v9) (k : ∀ x9 y9 z9 u9 v9, A x9 y9 z9 u9 v9 → B x9 y9 z9 u9 v9 → C x9 y9 z9 u9 v9 → D x9 y9 z9 u9 v9 → E x9 y9 z9 u9 v9 → F x9 y9 z9 u9 v9 → G x9 y9 z9 u9 v9 → Q) : Q := h.elim fun x9 h => h.elim fun y9 h => h.elim fun z9 h => h.elim fun u9 h => h.elim fun v9 h => k x9 y9 z9 u9 v9 h.1 h.2.1 h.2.2.1 h.2.2.2.1 h.2.2.2.2.1 h.2.2.2.2.2.1 h.2.2.2.2.2.2
theorem x65 {α β γ δ ε ζ : Type} {A B C D E : α → β → γ → δ → ε → ζ → Prop} {Q : Prop} (h : ∃ x9 y9 z9 u9 v9 w9, A x9 y9 z9 u9 v9 w9 ∧ B x9 y9 z9 u9 v9 w9 ∧ C x9 y9 z9 u9 v9 w9 ∧ D x9 y9 z9 u9 v9 w9 ∧ E x9 y9 z9 u9 v9 w9) (k : ∀ x9 y9 z9 u9 v9 w9, A x9 y9 z9 u9 v9 w9 → B x9 y9 z9 u9 v9 w9 → C x9 y9 z9 u9 v9 w9 → D x9 y9 z9 u9 v9 w9 → E x9 y9 z9 u9 v9 w9 → Q) : Q := h.elim fun x9 h => h.elim fun y9 h => h.elim fun z9 h => h.elim fun u9 h => h.elim fun v9 h => h.elim fun w9 h => k x9 y9 z9 u9 v9 w9 h.1 h.2.1 h.2.2.1 h.2.2.2.1 h.2.2.2.2
theorem x68 {α β γ δ ε ζ : Type} {A B C D E F G H : α → β → γ → δ → ε → ζ → Prop} {Q : Prop} (h : ∃ x9 y9 z9 u9 v9 w9, A x9 y9 z9 u9 v9 w9 ∧ B x9 y9 z9 u9 v9 w9 ∧ C x9 y9 z9 u9 v9 w9 ∧ D x9 y9 z9 u9 v9 w9 ∧ E x9 y9 z9 u9 v9 w9 ∧ F x9 y9 z9 u9 v9 w9 ∧ G x9 y9 z9 u9 v9 w9 ∧ H x9 y9 z9 u9 v9 w9) (k : ∀ x9 y9 z9 u9 v9 w9, A x9 y9 z9 u9 v9 w9 → B x9 y9 z9 u9 v9 w9 → C x9 y9 z9 u9 v9 w9 → D x9 y9 z9 u9 v9 w9 → E x9 y9 z9 u9 v9 w9 → F x9 y9 z9 u9 v9 w9 → G x9 y9 z9 u9 v9 w9 → H x9 y9 z9 u9 v9 w9 → Q) : Q := h.elim fun x9 h => h.elim fun y9 h => h.elim fun z9 h => h.elim fun u9 h => h.elim fun v9 h => h.elim fun w9 h => k x9 y9 z9 u9 v9 w9 h.1 h.2.1 h.2.2.1 h.2.2.2.1 h.2.2.2.2.1 h.2.2.2.2.2.1 h.2.2.2.2.2.2.1 h.2.2.2.2.2.2.2
end Mine
end
section
open PySem PySem.W PyProof.Rows PySem.Calls PySem.Spec
set_option tactic.hygienic false
set_option maxHeartbeats 400000
namespace Mine
noncomputable abbrev hp (w : World) : Frag := heap9 w.params
theorem mulOk_of {a b : Int} (ha : 0 ≤ a) (ha2 : a < 2 ^ 60) : IntMulOk a b := IntMulOk.of_left (intBits_le_iff.mpr (by omega))
theorem mulOk_fmod {a b c : Int} (hc : 0 < c) (hc2 : c < 2 ^ 60) : IntMulOk (a.fmod c) b := by
  have h1 := Int.fmod_nonneg_of_pos a hc
  have h2 := Int.fmod_lt_of_pos a hc
  exact mulOk_of h1 (by omega)
theorem fmod_bnd {a t : Int} (ht : 1 ≤ t) : 0 ≤ a.fmod t ∧ a.fmod t < t := ⟨Int.fmod_nonneg_of_pos a (by omega), Int.fmod_lt_of_pos a (by omega)⟩
theorem fdiv_bnd {a t : Int} (ha : 0 ≤ a) (ht : 1 ≤ t) : 0 ≤ a.fdiv t ∧ a.fdiv t ≤ a := by
  rw [Int.fdiv_eq_ediv_of_nonneg a (by omega)]
  exact ⟨Int.ediv_nonneg ha (by omega), Int.ediv_le_self t ha⟩
theorem len_led {prog : Program} {w : World} {A : Around} {E : Value → Shared → Prop} {s : Shared} {h₀ : Heap} {L : Addr} {news : List (Addr × Obj)} {D : Addr} {vs : List Value} {k : Nat} {z : Int} {Q : Value → Shared → Prop} (N : News h₀ L s.heap news) (hD : (D, listOf vs.toArray k) ∈ news) (hl : vs.length ≤ 16777216) (hz : (vs.length : Int) = z)
    (h : Q (.int z (s.toks + 1)) { s with toks := s.toks + 1 + 1 }) : wpAny (model prog w) A (call (.builtin "len") [.ref D]) Q E s := by
  subst hz; exact len_list (N.isList hD) (by simp only [List.size_toArray]; omega) h
noncomputable def GName (w : World) (x : Str) (v : Value) : Prop := nsIn (hp w) mainGlobals x = some (some v) ∧ (x == ("__debug__" : Str)) = false
noncomputable def BName (w : World) (x : Str) (v : Value) : Prop := (nsIn (hp w) mainGlobals x = some none ∧ bootBuiltins x = some v) ∧ x ≠ "__name__" ∧ (x == ("__debug__" : Str)) = false
noncomputable def gB (w : World) (x : Str) (a : Addr) : Bool := (match nsIn (hp w) mainGlobals x with
  | some (some (.ref b)) => Nat.beq b a
  | _ => false) && !(x == ("__debug__" : Str))
set_option tactic.hygienic true in
theorem gB_ok {w : World} {x : Str} {a : Addr} (h : gB w x a = true) : GName w x (.ref a) := by
  unfold gB at h
  refine x02 (Bool.and_eq_true_iff.mp h) fun h1 h2 => ?_
  refine ⟨?_, by simpa using h2⟩
  split at h1
  · rename_i b e
    rw [e, Nat.eq_of_beq_eq_true h1]
  · cases h1
theorem bn_isinstance {w : World} : BName w (Str.ofString "isinstance") (.builtin "isinstance") := ⟨⟨by kernel_rfl, by boot_by_name⟩, by decide, by decide⟩
theorem bn_len {w : World} : BName w (Str.ofString "len") (.builtin "len") := ⟨⟨by kernel_rfl, by boot_by_name⟩, by decide, by decide⟩
theorem bn_sorted {w : World} : BName w (Str.ofString "sorted") (.builtin "sorted") := ⟨⟨by kernel_rfl, by boot_by_name⟩, by decide, by decide⟩
theorem bn_min {w : World} : BName w (Str.ofString "min") (.builtin "min") := ⟨⟨by kernel_rfl, by boot_by_name⟩, by decide, by decide⟩
theorem bn_max {w : World} : BName w (Str.ofString "max") (.builtin "max") := ⟨⟨by kernel_rfl, by boot_by_name⟩, by decide, by decide⟩
theorem bn_str {w : World} : BName w (Str.ofString "str") (.type "str") := ⟨⟨by kernel_rfl, by boot_by_name⟩, by decide, by decide⟩
theorem bn_range {w : World} : BName w (Str.ofString "range") (.type "range") := ⟨⟨by kernel_rfl, by boot_by_name⟩, by decide, by decide⟩
theorem bn_list {w : World} : BName w (Str.ofString "list") (.type "list") := ⟨⟨by kernel_rfl, by boot_by_name⟩, by decide, by decide⟩
theorem bn_set {w : World} : BName w (Str.ofString "set") (.type "set") := ⟨⟨by kernel_rfl, by boot_by_name⟩, by decide, by decide⟩
theorem bn_int {w : World} : BName w (Str.ofString "int") (.type "int") := ⟨⟨by kernel_rfl, by boot_by_name⟩, by decide, by decide⟩
theorem bn_reversed {w : World} : BName w (Str.ofString "reversed") (.type "reversed") := ⟨⟨by kernel_rfl, by boot_by_name⟩, by decide, by decide⟩
theorem bn_dict {w : World} : BName w (Str.ofString "dict") (.type "dict") := ⟨⟨by kernel_rfl, by boot_by_name⟩, by decide, by decide⟩
theorem hide1 {α : Type} {J G : α → Prop} (h : ∀ G' : α → Prop, (∀ x, G x → G' x) → ∀ x, J x → G' x) : ∀ x, J x → G x := h G fun _ h => h
theorem hide2 {α β : Type} {J G : α → β → Prop} (h : ∀ G' : α → β → Prop, (∀ x y, G x y → G' x y) → ∀ x y, J x y → G' x y) : ∀ x y, J x y → G x y := h G fun _ _ h => h
theorem hide3 {α β γ : Type} {J G : α → β → γ → Prop} (h : ∀ G' : α → β → γ → Prop, (∀ x y z, G x y z → G' x y z) → ∀ x y z, J x y z → G' x y z) : ∀ x y z, J x y z → G x y z := h G fun _ _ _ h => h
theorem hide4 {α β γ δ : Type} {O J G : α → β → γ → δ → Prop} (h : ∀ G' : α → β → γ → δ → Prop, (∀ x y z w, G x y z w → G' x y z w) → ∀ x y z w, O x y z w → J x y z w → G' x y z w) : ∀ x y z w, O x y z w → J x y z w → G x y z w := h G fun _ _ _ _ h => h
theorem hide6 {α β γ δ ε ζ : Type} {O J G : α → β → γ → δ → ε → ζ → Prop} (h : ∀ G' : α → β → γ → δ → ε → ζ → Prop, (∀ x y z w u v, G x y z w u v → G' x y z w u v) → ∀ x y z w u v, O x y z w u v → J x y z w u v → G' x y z w u v) : ∀ x y z w u v, O x y z w u v → J x y z w u v → G x y z w u v := h G fun _ _ _ _ _ _ h => h
end Mine
end
section
open PySem PySem.W PyProof.Rows
set_option tactic.hygienic false
set_option maxHeartbeats 400000
set_option genSizeOf false
set_option genInjectivity false
namespace Mine
noncomputable abbrev pg : Program := PySem.Challenge.rw_og0013_01.prog
noncomputable abbrev tupOf (vs : List Value) : Obj := { cls := .type "tuple", data := .seq vs.toArray }
noncomputable abbrev skd (w : World) := PySem.strKind pg w
inductive Bl where
  | len | isinstance | sorted | max | min
noncomputable def Bl.name : Bl → String
  | .len => "len" | .isinstance => "isinstance" | .sorted => "sorted" | .max => "max" | .min => "min"
inductive Ty where
  | int | str | list | dict | set | range | reversed
noncomputable def Ty.name : Ty → String
  | .int => "int" | .str => "str" | .list => "list" | .dict => "dict" | .set => "set" | .range => "range" | .reversed => "reversed"
inductive AV where
  | none
  | bool (b : Bool)
  | int (i : Int)
  | str (u : Str)
  | tup (l : List AV)
  | lst (l : List AV)
  | dct (l : List (Str × AV))
  | obj (a C : Addr) (fs : List (Str × AV))
  | rng (n : Int)
  | cell (k : Nat)
  | fn (a : Addr)
  | blt (n : Bl)
  | typ (n : Ty)
  | opq (a : Addr) (o : Obj)
  | clo (st : Stmt) (f : Addr) (k : Nat) (S ca : Addr)
inductive Cell where
  | list (l : List AV)
  | dict (l : List (Str × AV))
  | inst (C : Addr) (fs : List (Str × AV))
  | fro (v : AV)
  | raw (a : Addr) (o : Obj)
structure St where
  m : List (Str × AV)
  cs : List Cell
noncomputable abbrev Led := List (Addr × Obj)
noncomputable def AttrOk (w : World) (C : Addr) (x : Str) : Prop := plainGet (hp w) C x = true ∧ hasDictIn (hp w) C = true ∧ ∃ a, findIn (hp w) (.ref C) x = some a ∧ noGet (hp w) a = true
structure ClsOk (w : World) (C : Addr) : Prop where
  k4 : plainGet (hp w) C "__class__" = true
  k5 : hasDictIn (hp w) C = true
  k6 : findIn (hp w) (.ref C) "__class__" = some (some (.builtin "object.__class__"))
  k7 : specialIn (hp w) (.builtin "object.__class__") "__get__" = some (some (.builtin "getset_descriptor.__get__"))
  k8 : takesIn (hp w) (.builtin "object.__class__") = some true
  k9 : mroIn (hp w) C (.type "object") = some true
mutual
inductive Ri (w : World) (R : Led) : AV → Value → Prop
  | none : Ri w R .none .none
  | bool {b} : Ri w R (.bool b) (.bool b)
  | int {i t} : Ri w R (.int i) (.int i t)
  | str {u t} : Ri w R (.str u) (.str u t)
  | tup {l vs a} : (a, tupOf vs) ∈ R → Rl w R l vs → Ri w R (.tup l) (.ref a)
  | lst {l vs a n} : l.length ≤ 16000000 → (a, listOf vs.toArray n) ∈ R → Rl w R l vs → Ri w R (.lst l) (.ref a)
  | dct {l kvs a o} : (a, o) ∈ R → o.IsDictOf (skd w) kvs → (a == sysModules) = false → Rk w R l kvs → Ri w R (.dct l) (.ref a)
  | obj {a C d es n fs} : ClsOk w C → (∀ q ∈ fs, AttrOk w C q.1) → (a, instObj C d) ∈ R → (d, dictOf es n) ∈ R → Rf w R fs es → Ri w R (.obj a C fs) (.ref a)
  | rng {a n t u v} : 0 ≤ n → n ≤ 1000000 → (a, ({ cls := .type "range", data := .fields #[.int 0 t, .int n u, .int 1 v] } : Obj)) ∈ R → Ri w R (.rng n) (.ref a)
  | fn {a} : Ri w R (.fn a) (.ref a)
  | blt {n} : Ri w R (.blt n) (.builtin n.name)
  | typ {n} : Ri w R (.typ n) (.type n.name)
  | opq {a o} : (a, o) ∈ R → Ri w R (.opq a o) (.ref a)
inductive Rl (w : World) (R : Led) : List AV → List Value → Prop
  | nil : Rl w R [] []
  | cons {x u l vs} : Ri w R x u → Rl w R l vs → Rl w R (x :: l) (u :: vs)
inductive Rk (w : World) (R : Led) : List (Str × AV) → List (Str × Value) → Prop
  | nil : Rk w R [] []
  | cons {k x u l vs} : Ri w R x u → Rk w R l vs → Rk w R ((k, x) :: l) ((k, u) :: vs)
inductive Rf (w : World) (R : Led) : List (Str × AV) → List DictEntry → Prop
  | nil : Rf w R [] []
  | cons {k h t x u l vs} : Ri w R x u → Rf w R l vs → Rf w R ((k, x) :: l) (⟨h, .str k t, u⟩ :: vs)
end
theorem Ri.mono {w : World} {R R' : Led} (h : ∀ p ∈ R, p ∈ R') {x : AV} {u : Value} (z : Ri w R x u) : Ri w R' x u :=
  Ri.rec (motive_1 := fun x u _ => Ri w R' x u) (motive_2 := fun l vs _ => Rl w R' l vs) (motive_3 := fun l vs _ => Rk w R' l vs) (motive_4 := fun l vs _ => Rf w R' l vs)
    .none .bool .int .str (fun a _ b => .tup (h _ a) b) (fun z a _ b => .lst z (h _ a) b) (fun a b c _ d => .dct (h _ a) b c d) (fun y z a b _ c => .obj y z (h _ a) (h _ b) c) (fun x y a => .rng x y (h _ a)) .fn .blt .typ (fun a => .opq (h _ a))
    .nil (fun _ _ a b => .cons a b) .nil (fun _ _ a b => .cons a b) .nil (fun _ _ a b => .cons a b) z
theorem Rl.mono {w : World} {R R' : Led} (h : ∀ p ∈ R, p ∈ R') {l : List AV} : ∀ {vs : List Value}, Rl w R l vs → Rl w R' l vs := by
  induction l with
  | nil => intro vs z; cases z; exact .nil
  | cons x l ih => intro vs z; cases z with | cons a b => exact .cons (a.mono h) (ih b)
theorem Rk.mono {w : World} {R R' : Led} (h : ∀ p ∈ R, p ∈ R') {l : List (Str × AV)} : ∀ {vs : List (Str × Value)}, Rk w R l vs → Rk w R' l vs := by
  induction l with
  | nil => intro vs z; cases z; exact .nil
  | cons x l ih => intro vs z; cases z with | cons a b => exact .cons (a.mono h) (ih b)
theorem Rf.mono {w : World} {R R' : Led} (h : ∀ p ∈ R, p ∈ R') {l : List (Str × AV)} : ∀ {vs : List DictEntry}, Rf w R l vs → Rf w R' l vs := by
  induction l with
  | nil => intro vs z; cases z; exact .nil
  | cons x l ih => intro vs z; cases z with | cons a b => exact .cons (a.mono h) (ih b)
inductive CellR (w : World) (R : Led) : Cell → Addr → Addr × Obj → Prop
  | list {l vs a n} : l.length ≤ 16000000 → Rl w R l vs → CellR w R (.list l) a (a, listOf vs.toArray n)
  | dict {l kvs a o} : o.IsDictOf (skd w) kvs → (a == sysModules) = false → Rk w R l kvs → CellR w R (.dict l) a (a, o)
  | inst {C a d es n fs} : (∀ q ∈ fs, AttrOk w C q.1) → (a, instObj C d) ∈ R → Rf w R fs es → CellR w R (.inst C fs) a (d, dictOf es n)
  | raw {a o} : CellR w R (.raw a o) a (a, o)
inductive CellsR (w : World) (R : Led) : List Cell → List Addr → Led → Prop
  | nil : CellsR w R [] [] []
  | live {c a q cs as M} : CellR w R c a q → CellsR w R cs as M → CellsR w R (c :: cs) (a :: as) (q :: M)
  | fro {v a cs as M} : Ri w R v (.ref a) → CellsR w R cs as M → CellsR w R (.fro v :: cs) (a :: as) M
theorem CellR.mono {w : World} {R R' : Led} (h : ∀ p ∈ R, p ∈ R') {c a q} (z : CellR w R c a q) : CellR w R' c a q := by
  cases z with
  | list z b => exact .list z (b.mono h)
  | dict b e c => exact .dict b e (c.mono h)
  | inst z b c => exact .inst z (h _ b) (c.mono h)
  | raw => exact .raw
theorem CellsR.mono {w : World} {R R' : Led} (h : ∀ p ∈ R, p ∈ R') {cs as M} (z : CellsR w R cs as M) : CellsR w R' cs as M := by
  induction z with
  | nil => exact .nil
  | live a _ b => exact .live (a.mono h) b
  | fro a _ b => exact .fro (a.mono h) b
noncomputable def freesOf (sc : Scope) : List Str := (sc.names.filter fun q => q.2 == .free).map (·.1)
inductive CloAt (R : Led) (st : Stmt) (f ca : Addr) : Prop
  | mk (name params body scope pos qual doc pm c' ctv oc vs t) : st = .FunctionDef name params body [] none [] scope none name pos → (f, fnMade name qual params body scope ((freesOf scope).map fun x => (x, ca)) doc pm c' ctv) ∈ R → (c', oc) ∈ R → oc.data = .fields vs → vs[1]? = some (.str qual t) → CloAt R st f ca
theorem CloAt.mono {R R' : Led} {st : Stmt} {f ca : Addr} (h : ∀ p ∈ R, p ∈ R') (z : CloAt R st f ca) : CloAt R' st f ca := by
  cases z with | mk _ _ _ _ _ _ _ _ _ _ _ _ _ h1 h2 h3 h4 h5 => exact .mk _ _ _ _ _ _ _ _ _ _ _ _ _ h1 (h _ h2) (h _ h3) h4 h5
inductive Rv (w : World) (adr : List Addr) (R : Led) : AV → Value → Prop
  | imm {x u} : Ri w R x u → Rv w adr R x u
  | cell {k a} : adr[k]? = some a → Rv w adr R (.cell k) (.ref a)
  | clo {st f k S ca} : adr[k]? = some S → CloAt R st f ca → Rv w adr R (.clo st f k S ca) (.ref f)
section
variable {w : World} {R : Led} {adr : List Addr} {u : Value} {l : List AV} {Q : Value → Prop}
theorem Ri.tupI (h : Ri w R (.tup l) u) (k : ∀ vs a, (a, tupOf vs) ∈ R → Rl w R l vs → Q (.ref a)) : Q u := by
  cases h with | tup a b => exact k _ _ a b
theorem Ri.lstI (h : Ri w R (.lst l) u) (k : ∀ vs a n, l.length ≤ 16000000 → (a, listOf vs.toArray n) ∈ R → Rl w R l vs → Q (.ref a)) : Q u := by
  cases h with | lst z a b => exact k _ _ _ z a b
theorem Ri.dctI {l : List (Str × AV)} (h : Ri w R (.dct l) u) (k : ∀ kvs a o, (a, o) ∈ R → o.IsDictOf (skd w) kvs → (a == sysModules) = false → Rk w R l kvs → Q (.ref a)) : Q u := by
  cases h with | dct a b z d => exact k _ _ _ a b z d
theorem Ri.objI {a C : Addr} {fs : List (Str × AV)} (h : Ri w R (.obj a C fs) u) (k : ∀ d es n, ClsOk w C → (∀ q ∈ fs, AttrOk w C q.1) → (a, instObj C d) ∈ R → (d, dictOf es n) ∈ R → Rf w R fs es → Q (.ref a)) : Q u := by
  cases h with | obj y z a b f => exact k _ _ _ y z a b f
theorem Ri.noneI (h : Ri w R .none u) : u = .none := by cases h; rfl
theorem Ri.boolI {b : Bool} (h : Ri w R (.bool b) u) : u = .bool b := by cases h; rfl
theorem Ri.fnI {a : Addr} (h : Ri w R (.fn a) u) : u = .ref a := by cases h; rfl
theorem Ri.intI {i : Int} (h : Ri w R (.int i) u) (k : ∀ t, Q (.int i t)) : Q u := by cases h; exact k _
theorem Ri.strI {i : Str} (h : Ri w R (.str i) u) (k : ∀ t, Q (.str i t)) : Q u := by cases h; exact k _
theorem Ri.noCell {k : Nat} {G : Prop} (h : Ri w R (.cell k) u) : G := by cases h
theorem Ri.noClo {st : Stmt} {f S ca : Addr} {k : Nat} {G : Prop} (h : Ri w R (.clo st f k S ca) u) : G := by cases h
theorem Rl.fn2 {a b : Addr} {vs : List Value} (h : Rl w R [.fn a, .fn b] vs) : vs = [.ref a, .ref b] := by
  cases h with | cons h1 h => cases h with | cons h2 h => cases h with | nil => rw [h1.fnI, h2.fnI]
theorem Rv.cellI {k : Nat} (h : Rv w adr R (.cell k) u) (kk : ∀ a, adr[k]? = some a → Q (.ref a)) : Q u := by
  cases h with
  | imm z => exact z.noCell
  | cell e => exact kk _ e
theorem Rv.cellA {k : Nat} {a : Addr} (h : Rv w adr R (.cell k) (.ref a)) : adr[k]? = some a := by
  cases h with
  | imm z => exact z.noCell
  | cell e => exact e
end
theorem Rv.mono {w : World} {adr : List Addr} {R R' : Led} (h : ∀ p ∈ R, p ∈ R') {x u} (z : Rv w adr R x u) : Rv w adr R' x u := by
  cases z with
  | imm a => exact .imm (a.mono h)
  | cell e => exact .cell e
  | clo e q => exact .clo e (q.mono h)
theorem Rv.more {w : World} {adr more : List Addr} {R : Led} {x u} (z : Rv w adr R x u) : Rv w (adr ++ more) R x u := by
  cases z with
  | imm a => exact .imm a
  | cell e => exact .cell (by rw [List.getElem?_append_left ((List.getElem?_eq_some_iff.mp e).1)]; exact e)
  | clo e q => exact .clo (by rw [List.getElem?_append_left ((List.getElem?_eq_some_iff.mp e).1)]; exact e) q
theorem CellsR.len {w : World} {R : Led} {cs as M} (z : CellsR w R cs as M) : as.length = cs.length := by
  induction z with
  | nil => rfl
  | live _ _ b => exact congrArg (· + 1) b
  | fro _ _ b => exact congrArg (· + 1) b
theorem CellsR.at {w : World} {R : Led} {c : Cell} (hc : ∀ v, c ≠ .fro v) {G : Prop} {cs as M} (z : CellsR w R cs as M) : ∀ {k : Nat}, cs[k]? = some c →
    (∀ a q M1 M2, as[k]? = some a → CellR w R c a q → M = M1 ++ q :: M2 →
      (∀ R' c' q', (∀ p ∈ R, p ∈ R') → CellR w R' c' a q' → CellsR w R' (cs.set k c') as (M1 ++ q' :: M2)) →
      (∀ R' v, (∀ p ∈ R, p ∈ R') → Ri w R' v (.ref a) → CellsR w R' (cs.set k (.fro v)) as (M1 ++ M2)) → G) → G := by
  induction z with
  | nil => intro k e; cases k <;> cases e
  | @live c' a q cs as M x y ih =>
    intro k e kk
    cases k with
    | zero => cases e; exact kk a q [] M rfl x rfl (fun R' c' q' hs h => .live h (y.mono hs)) (fun R' v hs h => .fro h (y.mono hs))
    | succ k =>
      exact ih (k := k) e fun a' q' M1 M2 h1 h2 e h4 h5 => kk a' q' (q :: M1) M2 h1 h2 (congrArg _ e) (fun R' c' q'' hs h => .live (x.mono hs) (h4 R' c' q'' hs h)) (fun R' v hs h => .live (x.mono hs) (h5 R' v hs h))
  | @fro v a cs as M x y ih =>
    intro k e kk
    cases k with
    | zero => cases e; exact absurd rfl (hc _)
    | succ k =>
      exact ih (k := k) e fun a' q' M1 M2 h1 h2 e h4 h5 => kk a' q' M1 M2 h1 h2 e (fun R' c' q'' hs h => .fro (x.mono hs) (h4 R' c' q'' hs h)) (fun R' v hs h => .fro (x.mono hs) (h5 R' v hs h))
theorem CellsR.frozen {w : World} {R : Led} {v : AV} {cs as M} (z : CellsR w R cs as M) : ∀ {k : Nat}, cs[k]? = some (.fro v) → ∃ a, as[k]? = some a ∧ Ri w R v (.ref a) := by
  induction z with
  | nil => intro k e; cases k <;> cases e
  | live x y ih =>
    intro k e
    cases k with
    | zero => cases e; cases x
    | succ k => exact ih (k := k) e
  | fro x y ih =>
    intro k e
    cases k with
    | zero => cases e; exact ⟨_, rfl, x⟩
    | succ k => exact ih (k := k) e
theorem CellsR.frozenA {w : World} {R : Led} {v : AV} {cs as M} (z : CellsR w R cs as M) {k : Nat} {a : Addr} (e : cs[k]? = some (.fro v)) (ha : as[k]? = some a) : Ri w R v (.ref a) :=
  (z.frozen e).elim fun _ h => Option.some.inj (h.1.symm.trans ha) ▸ h.2
theorem CellsR.push {w : World} {R : Led} {c a q} (h : CellR w R c a q) {cs as M} (z : CellsR w R cs as M) : CellsR w R (cs ++ [c]) (as ++ [a]) (M ++ [q]) := by
  induction z with
  | nil => exact .live h .nil
  | live x _ y => exact .live x y
  | fro x _ y => exact .fro x y
theorem CellsR.take {w : World} {R : Led} {cs as M} (z : CellsR w R cs as M) : ∀ n : Nat, ∃ M', CellsR w R (cs.take n) (as.take n) M' ∧ M'.Sublist M := by
  induction z with
  | nil => intro n; cases n <;> exact ⟨[], .nil, List.nil_sublist _⟩
  | live x _ ih =>
    intro n
    cases n with
    | zero => exact ⟨[], .nil, List.nil_sublist _⟩
    | succ n => obtain ⟨M', h, s⟩ := ih n; exact ⟨_ :: M', .live x h, s.cons_cons _⟩
  | fro x _ ih =>
    intro n
    cases n with
    | zero => exact ⟨[], .nil, List.nil_sublist _⟩
    | succ n => obtain ⟨M', h, s⟩ := ih n; exact ⟨M', .fro x h, s⟩
structure Cx where
  w : World
  p : Program
  loose : List Str
  mean : ExcName → Option Value
  mg : Str → Option Value
  mb : Str → Option Value
  dp : Nat
  un : Nat
  gd : Option (List Code)
  cn : Str
  cs : Scope
  L : Addr
  ax : Addr
  ccd : Value
  cl : List (Str × Addr)
  outer : List Env
  A₀ : Around
  base : Heap
  h₀ : Heap
  fr : Led
  mf : Led
  os : OsState
  gens : Array GenState
  fc : List (Str × Addr × Value)
  sub : Option (Scope × List (Str × Addr) × Addr × Obj × (Str → Option Value))
noncomputable abbrev Cx.fenv (c : Cx) : Env := envX c.cn c.cs c.L c.ax c.ccd c.cl
noncomputable def Cx.env (c : Cx) : Env := match c.sub with
  | none => c.fenv
  | some (sc, cl, C, _, _) => compEnvC sc cl C c.fenv
noncomputable abbrev Cx.A (c : Cx) : Around := ktrTop c.dp c.un c.gd c.cn c.cs c.L c.ax c.ccd c.cl c.outer
noncomputable abbrev Cx.M (c : Cx) : Model := model pg c.w
structure Cx.Ok (c : Cx) : Prop where
  B : Below c.A₀ c.base c.outer c.h₀
  X : (heap9 c.w.params).In c.h₀
  T : Top c.p c.loose c.mean c.mg c.mb c.h₀
  k : c.cs.kind = .function
  sk : ∀ sc cl C o m₀, c.sub = some (sc, cl, C, o, m₀) → sc.kind = .function ∧ (C, o) ∈ c.fr
  fx : ∀ q ∈ c.fc, c.env.kindOf q.1 = some .free ∧ c.env.cells.lookup q.1 = some q.2.1 ∧ ∃ o, (q.2.1, o) ∈ c.fr ∧ o.data = .cell (some q.2.2)
noncomputable def Apart (M K : Led) : Prop := (∀ q ∈ M, ∀ p ∈ K, p.1 ≠ q.1) ∧ M.Pairwise (fun a b => a.1 ≠ b.1)
inductive Loc (c : Cx) (m : Str → Option Value) (K : Led) (x : Str) (u : Value) : Prop
  | loc : c.sub = none → c.env.kindOf x = some .local → m x = some u → Loc c m K x u
  | cel {ca o} : (c.env.kindOf x = some .cell ∨ c.env.kindOf x = some .free) → c.env.cells.lookup x = some ca → (ca, o) ∈ K → o.data = .cell (some u) → Loc c m K x u
  | fre {ca o} : c.sub.isSome = true → (c.env.kindOf x = some .cell ∨ c.env.kindOf x = some .free) → c.env.cells.lookup x = some ca → (ca, o) ∈ c.fr → o.data = .cell (some u) → Loc c m K x u
  | own {sc cl C o m₀ m₂} : c.sub = some (sc, cl, C, o, m₀) → c.env.kindOf x = some .local → LCg.NsObj o m₂ → m₂ x = some u → Loc c m K x u
  | fix {ca} : (x, ca, u) ∈ c.fc → Loc c m K x u
structure RelD (c : Cx) (σ : St) (T : List (AV × Value)) (s : Shared) (m : Str → Option Value) (adr : List Addr) (M K R : Led) : Prop where
  F : Fr c.h₀ c.L s.heap m
  N : News c.h₀ c.L s.heap (M ++ (K ++ (R ++ c.fr)))
  U : Apart M (K ++ (R ++ c.fr))
  UK : Apart K (R ++ c.fr)
  C : CellsR c.w R σ.cs adr M
  V : ∀ x v, σ.m.lookup x = some v → ∃ u, Loc c m K x u ∧ Rv c.w adr R v u
  T : ∀ t ∈ T, Rv c.w adr R t.1 t.2
  os : s.os = c.os
  gens : s.gens = c.gens
  KC : c.sub = none → ∀ x, c.cs.names.lookup x = some .cell → ∃ ca o v₀, c.cl.lookup x = some ca ∧ (ca, o) ∈ K ∧ o.data = .cell v₀
  UF : (∀ q ∈ c.mf, q ∈ c.fr) ∧ (∀ q ∈ c.mf, ∀ p ∈ R, p.1 ≠ q.1) ∧ ∀ q, c.sub = some q → m = q.2.2.2.2
noncomputable def Rel (c : Cx) (σ : St) (T : List (AV × Value)) (s : Shared) : Prop := ∃ m adr M K R, RelD c σ T s m adr M K R
section
variable {c : Cx} {σ : St} {T T' : List (AV × Value)} {s s' : Shared} {m : Str → Option Value} {adr : List Addr} {M K R : Led}
theorem RelD.rel (r : RelD c σ T s m adr M K R) : Rel c σ T s := ⟨m, adr, M, K, R, r⟩
theorem Rel.out {G : Prop} (r : Rel c σ T s) (h : ∀ m adr M K R, RelD c σ T s m adr M K R → G) : G := let ⟨m, adr, M, K, R, r⟩ := r; h m adr M K R r
theorem Rel.sub (r : Rel c σ T s) (h : ∀ t ∈ T', t ∈ T) : Rel c σ T' s := let ⟨m, adr, M, K, R, r⟩ := r; ⟨m, adr, M, K, R, r.F, r.N, r.U, r.UK, r.C, r.V, fun t ht => r.T t (h t ht), r.os, r.gens, r.KC, r.UF⟩
theorem Rel.drop {t : AV × Value} (r : Rel c σ (t :: T) s) : Rel c σ T s := r.sub fun _ h => List.mem_cons_of_mem _ h
theorem RelD.same (r : RelD c σ T s m adr M K R) (hh : s'.heap = s.heap) (ho : s'.os = s.os) (hg : s'.gens = s.gens) : RelD c σ T s' m adr M K R :=
  ⟨by rw [hh]; exact r.F, by rw [hh]; exact r.N, r.U, r.UK, r.C, r.V, r.T, ho.trans r.os, hg.trans r.gens, r.KC, r.UF⟩
theorem Rel.same (r : Rel c σ T s) (hh : s'.heap = s.heap) (ho : s'.os = s.os) (hg : s'.gens = s.gens) : Rel c σ T s' := let ⟨_, _, _, _, _, r⟩ := r; (r.same hh ho hg).rel
theorem RelD.add (r : RelD c σ T s m adr M K R) {x : AV} {u : Value} (h : Rv c.w adr R x u) : RelD c σ ((x, u) :: T) s m adr M K R :=
  ⟨r.F, r.N, r.U, r.UK, r.C, r.V, fun t ht => (List.mem_cons.mp ht).elim (fun e => e ▸ h) (r.T t), r.os, r.gens, r.KC, r.UF⟩
theorem Rel.imm (r : Rel c σ T s) {x : AV} {u : Value} (h : ∀ R, Ri c.w R x u) : Rel c σ ((x, u) :: T) s := let ⟨_, _, _, _, _, r⟩ := r; (r.add (.imm (h _))).rel
theorem RelD.heap (r : RelD c σ T s m adr M K R) (hF : Fr c.h₀ c.L s'.heap m) (hN : News c.h₀ c.L s'.heap (M ++ (K ++ (R ++ c.fr)))) (ho : s'.os = s.os) (hg : s'.gens = s.gens) : RelD c σ T s' m adr M K R :=
  ⟨hF, hN, r.U, r.UK, r.C, r.V, r.T, ho.trans r.os, hg.trans r.gens, r.KC, r.UF⟩
theorem Vmono {σ : St} {R R' : Led} (hR : ∀ p ∈ R, p ∈ R') (V : ∀ x v, σ.m.lookup x = some v → ∃ u, Loc c m K x u ∧ Rv c.w adr R v u) : ∀ x v, σ.m.lookup x = some v → ∃ u, Loc c m K x u ∧ Rv c.w adr R' v u :=
  fun x v e => let ⟨u, e1, e2⟩ := V x v e; ⟨u, e1, e2.mono hR⟩
theorem RelD.at {G : Prop} (r : RelD c σ T s m adr M K R) {k : Nat} {ce : Cell} (hk : σ.cs[k]? = some ce) (hc : ∀ v, ce ≠ .fro v)
    (kk : ∀ a q rest, adr[k]? = some a → CellR c.w R ce a q → News c.h₀ c.L s.heap (q :: rest) → (∀ p ∈ rest, p.1 ≠ q.1) → (∀ p ∈ R, p ∈ rest) →
      (∀ ce' q' s', q'.1 = q.1 → CellR c.w R ce' a q' → Fr c.h₀ c.L s'.heap m → News c.h₀ c.L s'.heap (q' :: rest) → s'.os = s.os → s'.gens = s.gens → ∃ M', RelD c ⟨σ.m, σ.cs.set k ce'⟩ T s' m adr M' K R) →
      (∀ v, (∀ R', (∀ p ∈ R, p ∈ R') → q ∈ R' → Ri c.w R' v (.ref a)) → ∃ R', (∀ p ∈ R, p ∈ R') ∧ Ri c.w R' v (.ref a) ∧ ∃ M', RelD c ⟨σ.m, σ.cs.set k (.fro v)⟩ T s m adr M' K R') → G) : G := by
  refine r.C.at hc hk fun a q M1 M2 h1 h2 e93 h4 h5 => ?_
  obtain rfl := e93
  refine x02 r.U fun U1 U2 => ?_
  have U3 := List.pairwise_append.mp U2
  have U4 := List.pairwise_cons.mp U3.2.1
  refine kk a q (M1 ++ M2 ++ (K ++ (R ++ c.fr))) h1 h2 (fun p hp => r.N p (by simp only [List.mem_append, List.mem_cons] at hp ⊢; grind)) ?_ (fun p hp => List.mem_append_right _ (List.mem_append_right _ (List.mem_append_left _ hp))) ?_ ?_
  · intro p hp
    rcases List.mem_append.mp hp with hp | hp
    · rcases List.mem_append.mp hp with hp | hp
      · exact U3.2.2 _ hp _ (List.mem_cons_self ..)
      · exact (U4.1 _ hp).symm
    · exact U1 _ (List.mem_append_right _ (List.mem_cons_self ..)) _ hp
  · intro ce' q' s' hq hr hF hN ho hg
    refine ⟨M1 ++ q' :: M2, hF, fun p hp => hN p (by simp only [List.mem_append, List.mem_cons] at hp ⊢; grind), ⟨?_, ?_⟩, r.UK, h4 R ce' q' (fun _ h => h) hr, r.V, r.T, ho.trans r.os, hg.trans r.gens, r.KC, r.UF⟩
    · intro z hz p hp
      rcases List.mem_append.mp hz with hz | hz
      · exact U1 z (List.mem_append_left _ hz) p hp
      · rcases List.mem_cons.mp hz with rfl | hz
        · rw [hq]; exact U1 q (List.mem_append_right _ (List.mem_cons_self ..)) p hp
        · exact U1 z (List.mem_append_right _ (List.mem_cons_of_mem _ hz)) p hp
    · refine List.pairwise_append.mpr (i03 U3.1 (List.pairwise_cons.mpr ⟨fun z hz => by rw [hq]; exact U4.1 z hz, U4.2⟩) (fun z hz y hy => ?_))
      rcases List.mem_cons.mp hy with rfl | hy
      · rw [hq]; exact U3.2.2 z hz q (List.mem_cons_self ..)
      · exact U3.2.2 z hz y (List.mem_cons_of_mem _ hy)
  · intro v hv
    have hR : ∀ p ∈ R, p ∈ q :: R := fun p hp => List.mem_cons_of_mem _ hp
    refine ⟨q :: R, hR, hv _ hR (List.mem_cons_self ..), M1 ++ M2, r.F, fun p hp => r.N p (by simp only [List.mem_append, List.mem_cons, List.cons_append] at hp ⊢; grind), ⟨?_, ?_⟩, ⟨?_, r.UK.2⟩, h5 _ v hR (hv _ hR (List.mem_cons_self ..)), Vmono hR r.V, fun t ht => (r.T t ht).mono hR, r.os, r.gens, r.KC, r.UF.1, ?_, r.UF.2.2⟩
    rotate_left 3
    · intro z hz p hp
      rcases List.mem_cons.mp hp with rfl | hp
      · exact (U1 _ (List.mem_append_right _ (List.mem_cons_self ..)) z (List.mem_append_right _ (List.mem_append_right _ (r.UF.1 z hz)))).symm
      · exact r.UF.2.1 z hz p hp
    · intro z hz p hp
      rcases List.mem_append.mp hp with hp | hp
      · exact U1 z (by simp only [List.mem_append, List.mem_cons] at hz ⊢; grind) p (List.mem_append_left _ hp)
      rcases List.mem_cons.mp hp with rfl | hp
      · rcases List.mem_append.mp hz with hz | hz
        · exact (U3.2.2 _ hz _ (List.mem_cons_self ..)).symm
        · exact U4.1 _ hz
      · exact U1 z (by simp only [List.mem_append, List.mem_cons] at hz ⊢; grind) p (List.mem_append_right _ hp)
    · exact List.pairwise_append.mpr (i03 U3.1 U4.2 (fun z hz y hy => U3.2.2 z hz y (List.mem_cons_of_mem _ hy)))
    · intro z hz p hp
      rcases List.mem_cons.mp hp with rfl | hp
      · exact (U1 _ (List.mem_append_right _ (List.mem_cons_self ..)) z (List.mem_append_left _ hz)).symm
      · exact r.UK.1 z hz p hp
theorem RelD.atA {G : Prop} (r : RelD c σ T s m adr M K R) {k : Nat} {ce : Cell} {a : Addr} (hk : σ.cs[k]? = some ce) (hc : ∀ v, ce ≠ .fro v) (ha : adr[k]? = some a)
    (kk : ∀ q rest, CellR c.w R ce a q → News c.h₀ c.L s.heap (q :: rest) → (∀ p ∈ rest, p.1 ≠ q.1) → (∀ p ∈ R, p ∈ rest) →
      (∀ ce' q' s', q'.1 = q.1 → CellR c.w R ce' a q' → Fr c.h₀ c.L s'.heap m → News c.h₀ c.L s'.heap (q' :: rest) → s'.os = s.os → s'.gens = s.gens → ∃ M', RelD c ⟨σ.m, σ.cs.set k ce'⟩ T s' m adr M' K R) →
      (∀ v, (∀ R', (∀ p ∈ R, p ∈ R') → q ∈ R' → Ri c.w R' v (.ref a)) → ∃ R', (∀ p ∈ R, p ∈ R') ∧ Ri c.w R' v (.ref a) ∧ ∃ M', RelD c ⟨σ.m, σ.cs.set k (.fro v)⟩ T s m adr M' K R') → G) : G :=
  r.at hk hc fun a' q rest h1 => by
    obtain rfl := Option.some.inj (ha.symm.trans h1)
    exact kk q rest
theorem RelD.atM {G : Prop} (r : RelD c σ T s m adr M K R) {k : Nat} {ce : Cell} {a : Addr} (hk : σ.cs[k]? = some ce) (hc : ∀ v, ce ≠ .fro v) (ha : adr[k]? = some a) (kk : ∀ q, CellR c.w R ce a q → q ∈ M ++ (K ++ (R ++ c.fr)) → G) : G :=
  r.C.at hc hk fun a' q M1 M2 h1 h2 e _ _ => by
    obtain rfl := Option.some.inj (ha.symm.trans h1)
    exact kk q h2 (List.mem_append_left _ (e ▸ List.mem_append_right _ List.mem_cons_self))
theorem RelD.atList {G : Prop} (r : RelD c σ T s m adr M K R) {k : Nat} {l : List AV} {a : Addr} (hk : σ.cs[k]? = some (.list l)) (ha : adr[k]? = some a)
    (kk : ∀ vs n rest, l.length ≤ 16000000 → Rl c.w R l vs → News c.h₀ c.L s.heap ((a, listOf vs.toArray n) :: rest) → (∀ p ∈ rest, p.1 ≠ a) → (∀ p ∈ R, p ∈ rest) →
      (∀ l' vs' n' s', l'.length ≤ 16000000 → Rl c.w R l' vs' → Fr c.h₀ c.L s'.heap m → News c.h₀ c.L s'.heap ((a, listOf vs'.toArray n') :: rest) → s'.os = s.os → s'.gens = s.gens → ∃ M', RelD c ⟨σ.m, σ.cs.set k (.list l')⟩ T s' m adr M' K R) → G) : G :=
  r.atA hk (fun _ e => by cases e) ha fun q rest h2 h3 h4 h5 h6 _ => by
    cases h2 with | list z hl => exact kk _ _ rest z hl h3 h4 h5 fun l' vs' n' s' hz hl' => h6 (.list l') (_, listOf vs'.toArray n') s' rfl (.list hz hl')
theorem RelD.atDict {G : Prop} (r : RelD c σ T s m adr M K R) {k : Nat} {l : List (Str × AV)} {a : Addr} (hk : σ.cs[k]? = some (.dict l)) (ha : adr[k]? = some a)
    (kk : ∀ kvs o rest, o.IsDictOf (skd c.w) kvs → (a == sysModules) = false → Rk c.w R l kvs → News c.h₀ c.L s.heap ((a, o) :: rest) → (∀ p ∈ rest, p.1 ≠ a) → (∀ p ∈ R, p ∈ rest) →
      (∀ l' kvs' o' s', o'.IsDictOf (skd c.w) kvs' → Rk c.w R l' kvs' → Fr c.h₀ c.L s'.heap m → News c.h₀ c.L s'.heap ((a, o') :: rest) → s'.os = s.os → s'.gens = s.gens → ∃ M', RelD c ⟨σ.m, σ.cs.set k (.dict l')⟩ T s' m adr M' K R) → G) : G :=
  r.atA hk (fun _ e => by cases e) ha fun q rest h2 h3 h4 h5 h6 _ => by
    cases h2 with | dict z z2 hl => exact kk _ _ rest z z2 hl h3 h4 h5 fun l' kvs' o' s' hz hl' => h6 (.dict l') (_, o') s' rfl (.dict hz z2 hl')
theorem RelD.atInst {G : Prop} (r : RelD c σ T s m adr M K R) {k : Nat} {C a : Addr} {fs : List (Str × AV)} (hk : σ.cs[k]? = some (.inst C fs)) (ha : adr[k]? = some a)
    (kk : ∀ d es n rest, (∀ q ∈ fs, AttrOk c.w C q.1) → (a, instObj C d) ∈ R → Rf c.w R fs es → News c.h₀ c.L s.heap ((d, dictOf es n) :: rest) → (∀ p ∈ rest, p.1 ≠ d) → (∀ p ∈ R, p ∈ rest) →
      (∀ fs' es' n' s', (∀ q ∈ fs', AttrOk c.w C q.1) → Rf c.w R fs' es' → Fr c.h₀ c.L s'.heap m → News c.h₀ c.L s'.heap ((d, dictOf es' n') :: rest) → s'.os = s.os → s'.gens = s.gens → ∃ M', RelD c ⟨σ.m, σ.cs.set k (.inst C fs')⟩ T s' m adr M' K R) →
      (∀ v, (∀ R', (∀ p ∈ R, p ∈ R') → (d, dictOf es n) ∈ R' → Ri c.w R' v (.ref a)) → ∃ R', (∀ p ∈ R, p ∈ R') ∧ Ri c.w R' v (.ref a) ∧ ∃ M', RelD c ⟨σ.m, σ.cs.set k (.fro v)⟩ T s m adr M' K R') → G) : G :=
  r.atA hk (fun _ e => by cases e) ha fun q rest h2 h3 h4 h5 h6 h7 => by
    cases h2 with | inst z hi hf => exact kk _ _ _ rest z hi hf h3 h4 h5 (fun fs' es' n' s' hz hf' => h6 (.inst C fs') (_, dictOf es' n') s' rfl (.inst hz hi hf')) h7
theorem RelD.live (r : RelD c σ T s m adr M K R) {a : Addr} {q : Addr × Obj} {ce : Cell} (hF : Fr c.h₀ c.L s'.heap m) (hN : News c.h₀ c.L s'.heap (q :: (M ++ (K ++ (R ++ c.fr))))) (hq : ∀ p ∈ M ++ (K ++ (R ++ c.fr)), p.1 ≠ q.1)
    (hr : CellR c.w R ce a q) (ho : s'.os = s.os) (hg : s'.gens = s.gens) : Rel c ⟨σ.m, σ.cs ++ [ce]⟩ ((.cell σ.cs.length, .ref a) :: T) s' := by
  refine ⟨m, adr ++ [a], M ++ [q], K, R, hF, fun p hp => hN p (by simp only [List.mem_append, List.mem_cons, List.not_mem_nil, or_false] at hp ⊢; grind), ⟨?_, ?_⟩, r.UK, r.C.push hr, fun x v e => (let ⟨u, e1, e2⟩ := r.V x v e; ⟨u, e1, e2.more⟩), ?_, ho.trans r.os, hg.trans r.gens, r.KC, r.UF⟩
  · intro z hz p hp
    rcases List.mem_append.mp hz with hz | hz
    · exact r.U.1 z hz p hp
    · rcases List.mem_singleton.mp hz with rfl; exact hq p (List.mem_append_right _ hp)
  · exact List.pairwise_append.mpr (i03 r.U.2 (List.pairwise_singleton ..) (fun z hz y hy => by rcases List.mem_singleton.mp hy with rfl; exact hq z (List.mem_append_left _ hz)))
  · intro t ht
    rcases List.mem_cons.mp ht with rfl | ht
    · refine .cell ?_
      rw [← r.C.len, List.getElem?_append_right (Nat.le_refl _), Nat.sub_self]; rfl
    · exact (r.T t ht).more
theorem RelD.still (r : RelD c σ T s m adr M K R) {q : Addr × Obj} (hF : Fr c.h₀ c.L s'.heap m) (hN : News c.h₀ c.L s'.heap (q :: (M ++ (K ++ (R ++ c.fr))))) (hq : ∀ p ∈ M ++ (K ++ (R ++ c.fr)), p.1 ≠ q.1)
    (ho : s'.os = s.os) (hg : s'.gens = s.gens) : RelD c σ T s' m adr M K (q :: R) := by
  have hR : ∀ p ∈ R, p ∈ q :: R := fun p hp => List.mem_cons_of_mem _ hp
  refine ⟨hF, fun p hp => hN p (by simp only [List.mem_append, List.mem_cons, List.cons_append] at hp ⊢; grind), ⟨?_, r.U.2⟩, ⟨?_, r.UK.2⟩, r.C.mono hR, Vmono hR r.V, fun t ht => (r.T t ht).mono hR, ho.trans r.os, hg.trans r.gens, r.KC, r.UF.1, ?_, r.UF.2.2⟩
  rotate_left 2
  · intro z hz p hp
    rcases List.mem_cons.mp hp with rfl | hp
    · exact (hq z (List.mem_append_right _ (List.mem_append_right _ (List.mem_append_right _ (r.UF.1 z hz))))).symm
    · exact r.UF.2.1 z hz p hp
  · intro z hz p hp
    rcases List.mem_append.mp hp with hp | hp
    · exact r.U.1 z hz p (List.mem_append_left _ hp)
    rcases List.mem_cons.mp hp with rfl | hp
    · exact (hq z (List.mem_append_left _ hz)).symm
    · exact r.U.1 z hz p (List.mem_append_right _ hp)
  · intro z hz p hp
    rcases List.mem_cons.mp hp with rfl | hp
    · exact (hq z (List.mem_append_right _ (List.mem_append_left _ hz))).symm
    · exact r.UK.1 z hz p hp
end
end Mine
end
section
open PySem PySem.W PyProof.Rows
set_option tactic.hygienic false
set_option maxHeartbeats 400000
set_option genSizeOf false
set_option genInjectivity false
namespace Mine
noncomputable def leq (x : List Nat) : List Nat → Bool := List.rec (fun y => y.isEmpty) (fun a _ ih y => List.rec false (fun b y _ => cond (Nat.beq a b) (ih y) false) y) x
theorem leq_eq {x : List Nat} : ∀ {y : List Nat}, leq x y = true → x = y := by
  induction x with
  | nil => intro y h; exact (List.isEmpty_iff.mp h).symm
  | cons a x ih =>
    intro y h
    cases y with
    | nil => cases h
    | cons b y =>
      have h : cond (Nat.beq a b) (leq x y) false = true := h
      cases e : Nat.beq a b with
      | true => rw [e] at h; rw [Nat.eq_of_beq_eq_true e, ih h]
      | false => rw [e] at h; cases h
theorem leq_self {x : List Nat} : leq x x = true := by
  induction x with
  | nil => rfl
  | cons a x ih =>
    show cond (Nat.beq a a) (leq x x) false = true
    rw [Nat.beq_refl]; exact ih
noncomputable def seq (a b : Str) : Bool := leq a.cps.toList b.cps.toList
theorem seq_eq {a b : Str} (h : seq a b = true) : a = b := by
  have := leq_eq h
  cases a; cases b; simp only [Str.mk.injEq]; exact Array.toList_inj.mp this
theorem seq_iff {a b : Str} : seq a b = (a == b) := by
  by_cases h : a = b
  · subst h; rw [beq_self_eq_true]; exact leq_self
  · rw [beq_false_of_ne h]
    cases e : seq a b with
    | false => rfl
    | true => exact absurd (seq_eq e) h
noncomputable def lk {α : Type} (x : Str) : List (Str × α) → Option α
  | [] => none
  | (y, v) :: r => cond (seq x y) (some v) (lk x r)
theorem lk_eq {α : Type} {x : Str} {l : List (Str × α)} : lk x l = l.lookup x := by
  induction l with
  | nil => rfl
  | cons q r ih =>
    obtain ⟨y, v⟩ := q
    show cond (seq x y) (some v) (lk x r) = _
    rw [seq_iff, List.lookup_cons, ih]
    cases x == y <;> rfl
theorem lk_mem {α : Type} {x : Str} {v : α} {l : List (Str × α)} (h : lk x l = some v) : (x, v) ∈ l := by
  induction l with
  | nil => cases h
  | cons q r ih =>
    obtain ⟨y, w⟩ := q
    have h : cond (seq x y) (some w) (lk x r) = some v := h
    cases e : seq x y with
    | true => rw [e] at h; cases h; rw [seq_eq e]; exact List.mem_cons_self
    | false => rw [e] at h; exact List.mem_cons_of_mem _ (ih h)
noncomputable def put {α : Type} (x : Str) (v : α) : List (Str × α) → List (Str × α)
  | [] => [(x, v)]
  | (y, w) :: r => cond (seq x y) ((y, v) :: r) ((y, w) :: put x v r)
theorem put_lk {α : Type} {x y : Str} {v : α} {l : List (Str × α)} : (put x v l).lookup y = if y = x then some v else l.lookup y := by
  induction l with
  | nil =>
    show List.lookup y [(x, v)] = _
    rw [List.lookup_cons]
    by_cases h : y = x
    · rw [if_pos h, h, beq_self_eq_true]
    · rw [beq_false_of_ne h, if_neg h]
  | cons q r ih =>
    obtain ⟨z, w⟩ := q
    show List.lookup y (cond (seq x z) ((z, v) :: r) ((z, w) :: put x v r)) = _
    cases e : seq x z with
    | true =>
      obtain rfl := seq_eq e
      rw [cond_true, List.lookup_cons, List.lookup_cons]
      by_cases h : y = x
      · rw [if_pos h, h, beq_self_eq_true]
      · rw [beq_false_of_ne h, if_neg h]
    | false =>
      rw [cond_false, List.lookup_cons, List.lookup_cons, ih]
      by_cases h : y = z
      · have hne : y ≠ x := fun q => by rw [← q, ← h, seq_iff, beq_self_eq_true] at e; cases e
        subst h
        rw [beq_self_eq_true]
        exact (if_neg hne).symm
      · rw [beq_false_of_ne h]
noncomputable def St.put (σ : St) (x : Str) (v : AV) : St := ⟨Mine.put x v σ.m, σ.cs⟩
noncomputable def St.setc (σ : St) (k : Nat) (c : Cell) : St := ⟨σ.m, σ.cs.set k c⟩
noncomputable def St.push (σ : St) (c : Cell) : St := ⟨σ.m, σ.cs ++ [c]⟩
inductive AF where
  | next
  | brk
  | cont
  | ret (v : AV)
inductive FlR (c : Cx) (σ : St) (T : List (AV × Value)) (s : Shared) : AF → Flow → Prop
  | next : Rel c σ T s → FlR c σ T s .next .next
  | brk : Rel c σ T s → FlR c σ T s .brk .brk
  | cont : Rel c σ T s → FlR c σ T s .cont .cont
  | ret {v u} : Rel c σ ((v, u) :: T) s → FlR c σ T s (.ret v) (.ret u)
noncomputable abbrev KV := AV → St → Prop
noncomputable abbrev KB := Bool → St → Prop
noncomputable abbrev KF := AF → St → Prop
noncomputable abbrev KL := List AV → St → Prop
noncomputable def Po (c : Cx) (T : List (AV × Value)) (P : KV) (Q : Value → Shared → Prop) : Prop := ∀ v u σ s, P v σ → Rel c σ ((v, u) :: T) s → Q u s
noncomputable def PoB (c : Cx) (T : List (AV × Value)) (P : KB) (Q : Bool → Shared → Prop) : Prop := ∀ b σ s, P b σ → Rel c σ T s → Q b s
noncomputable def PoF (c : Cx) (T : List (AV × Value)) (P : KF) (Q : Flow → Shared → Prop) : Prop := ∀ f σ s fl, P f σ → FlR c σ T s f fl → Q fl s
noncomputable def PoU (c : Cx) (T : List (AV × Value)) (P : St → Prop) (Q : Unit → Shared → Prop) : Prop := ∀ σ s, P σ → Rel c σ T s → Q () s
noncomputable def AEp (c : Cx) (e : PySem.Expr) (σ : St) (P : KV) : Prop :=
  ∀ T s Q E, PassesOwn c.M c.A c.env E → Rel c σ T s → Po c T P Q → wpAny c.M c.A (eval e c.env) Q E s
noncomputable def AT (c : Cx) (e : PySem.Expr) (σ : St) (P : KB) : Prop :=
  ∀ T s Q E, PassesOwn c.M c.A c.env E → Rel c σ T s → PoB c T P Q → wpAny c.M c.A (isTrue e c.env (eval e c.env)) Q E s
noncomputable def ASp (c : Cx) (st : Stmt) (σ : St) (P : KF) : Prop :=
  ∀ T s Q E, PassesOwn c.M c.A c.env E → Rel c σ T s → PoF c T P Q → wpAny c.M c.A (exec st c.env) Q E s
structure AE (c : Cx) (e : PySem.Expr) (σ : St) (P : KV) : Prop where
  ap : AEp c e σ P
structure AS (c : Cx) (st : Stmt) (σ : St) (P : KF) : Prop where
  ap : ASp c st σ P
noncomputable def AX (c : Cx) (ss : List Stmt) (σ : St) (P : KF) : Prop :=
  ∀ T s Q E, PassesOwn c.M c.A c.env E → Rel c σ T s → PoF c T P Q → wpAny c.M c.A (execs ss c.env) Q E s
noncomputable def AC (c : Cx) (f : Value) (vs : List AV) (σ : St) (P : KV) : Prop :=
  ∀ T s us Q E, vs.length = us.length → Rel c σ (vs.zip us ++ T) s → Po c T P Q → wpAny c.M c.A (call f us) Q E s
noncomputable def Br (b : Bool) (X Y : Prop) : Prop := (b = true → X) ∧ (b = false → Y)
theorem Br.mk {b : Bool} {X Y : Prop} (h1 : b = true → X) (h2 : b = false → Y) : Br b X Y := ⟨h1, h2⟩
theorem Br.tt {X Y : Prop} (h : X) : Br true X Y := ⟨fun _ => h, fun e => nomatch e⟩
theorem Br.ff {X Y : Prop} (h : Y) : Br false X Y := ⟨fun e => (nomatch e), fun _ => h⟩
theorem Br.t {b : Bool} {X Y : Prop} (e : b = true) (h : X) : Br b X Y := ⟨fun _ => h, fun e' => (by rw [e] at e'; cases e')⟩
theorem Br.f {b : Bool} {X Y : Prop} (e : b = false) (h : Y) : Br b X Y := ⟨fun e' => (by rw [e] at e'; cases e'), fun _ => h⟩
noncomputable def Need (p Q : Prop) : Prop := p ∧ Q
theorem Need.mk {p Q : Prop} (h : p) (k : Q) : Need p Q := ⟨h, k⟩
noncomputable def Pop (l : List AV) (Q : List AV → AV → Prop) : Prop := ∃ xs x, l = xs ++ [x] ∧ Q xs x
theorem Pop.mk {xs : List AV} {x : AV} {Q : List AV → AV → Prop} (h : Q xs x) : Pop (xs ++ [x]) Q := ⟨xs, x, rfl, h⟩
noncomputable def Item (l : List AV) (i : Int) (Q : AV → Prop) : Prop := ∃ x, ((0 ≤ i ∧ i < l.length ∧ l[i.toNat]? = some x) ∨ (i = -1 ∧ ∃ l', l = l' ++ [x])) ∧ Q x
theorem Item.mk {l : List AV} {i : Int} {Q : AV → Prop} (h0 : 0 ≤ i) (h1 : i < l.length) (h : ∀ x, x ∈ l → l[i.toNat]? = some x → Q x) : Item l i Q := by
  have hlt : i.toNat < l.length := by omega
  exact i12 (l[i.toNat]) (.inl ⟨h0, h1, List.getElem?_eq_getElem hlt⟩) (h _ (List.getElem_mem hlt) (List.getElem?_eq_getElem hlt))
theorem Item.at {l : List AV} {i : Int} {x : AV} {Q : AV → Prop} (h0 : 0 ≤ i) (e : l[i.toNat]? = some x) (h : Q x) : Item l i Q := by
  obtain ⟨hlt, _⟩ := List.getElem?_eq_some_iff.mp e
  exact i12 x (.inl ⟨h0, by omega, e⟩) h
theorem Item.last {l : List AV} {x : AV} {Q : AV → Prop} (h : Q x) : Item (l ++ [x]) (-1) Q := ⟨x, .inr ⟨rfl, l, rfl⟩, h⟩
noncomputable def AV.lst? (v : AV) : Option (List AV) := match v with
  | .lst l => some l
  | _ => Option.none
noncomputable def Cell.lst? (v : Cell) : Option (List AV) := match v with
  | .list l => some l
  | .fro v => v.lst?
  | _ => none
noncomputable def lstOf (v : AV) (σ : St) : Option (List AV) := match v with
  | .cell k => σ.cs[k]?.bind Cell.lst?
  | v => v.lst?
noncomputable abbrev optL {α : Type} (o : Option α) (P : α → Prop) (D : Prop) : Prop := @Option.rec _ (fun _ => Prop) D P o
theorem optL_or {α : Type} {o : Option α} {P : α → Prop} {D : Prop} (h : optL o P D) : (∃ l, o = some l ∧ P l) ∨ D := by
  cases o with
  | none => exact .inr h
  | some l => exact .inl ⟨l, rfl, h⟩
theorem optL_out {α : Type} {o : Option α} {P : α → Prop} (h : optL o P False) : ∃ l, o = some l ∧ P l := (optL_or h).elim id False.elim
noncomputable abbrev cnd (b : Bool) (X Y : Prop) : Prop := @Bool.rec (fun _ => Prop) Y X b
theorem cond_f {b : Bool} {X Y : Prop} (h : cnd b X Y) : (b = true ∧ X) ∨ (b = false ∧ Y) := by
  cases b with
  | true => exact .inl ⟨rfl, h⟩
  | false => exact .inr ⟨rfl, h⟩
theorem cond_t {b : Bool} {X : Prop} (h : cnd b X False) : b = true ∧ X := (cond_f h).elim id fun h => h.2.elim
noncomputable def truth (v : AV) (σ : St) (P : Bool → Prop) : Prop := match v with
  | .bool b => P b
  | .none => P false
  | .int i => P (i != 0)
  | v => optL (lstOf v σ) (fun l => P (!l.isEmpty)) False
noncomputable def clsL : List Addr := [52, 94, 134, 176, 212, 233, 273, 313, 353, 395]
noncomputable def isCls (a : Addr) : Bool := clsL.any (Nat.beq a)
noncomputable def Cell.imm (σ : St) (k : Nat) (P : KV) (c : Cell) : Prop := match c with
  | .list l => P (.lst l) (σ.setc k (.fro (.lst l)))
  | .dict l => P (.dct l) (σ.setc k (.fro (.dct l)))
  | .fro v => P v σ
  | .inst C fs => cnd (isCls C) (∀ a, P (.obj a C fs) (σ.setc k (.fro (.obj a C fs)))) False
  | .raw _ _ => False
noncomputable def imm (v : AV) (σ : St) (P : KV) : Prop := match v with
  | .cell k => optL σ.cs[k]? (Cell.imm σ k P) False
  | .clo _ _ _ _ _ => False
  | v => P v σ
noncomputable def imms : List AV → St → KL → Prop
  | [], σ, P => P [] σ
  | v :: vs, σ, P => imm v σ fun v' σ1 => imms vs σ1 fun vs' σ2 => P (v' :: vs') σ2
noncomputable def OP (c : Cx) (f : Value → Value → Sem Value) (x y : AV) (σ : St) (P : KV) : Prop :=
  ∀ T s u1 u2 Q E, Rel c σ ((y, u2) :: (x, u1) :: T) s → Po c T P Q → wpAny c.M c.A (f u1 u2) Q E s
noncomputable abbrev int2 (x y : AV) (Q : Int → Int → Prop) (D : Prop) : Prop := match x with
  | .int i => (match y with
    | .int j => Q i j
    | _ => D)
  | _ => D
noncomputable abbrev str2 (x y : AV) (Q : Str → Str → Prop) (D : Prop) : Prop := match x with
  | .str i => (match y with
    | .str j => Q i j
    | _ => D)
  | _ => D
noncomputable def addA (c : Cx) (x y : AV) (σ : St) (P : KV) : Prop :=
  int2 x y (fun i j => P (.int (i + j)) σ) (str2 x y (fun a b => Need (a.length + b.length ≤ 1000000) (P (.str (a ++ b)) σ))
    (optL (lstOf x σ) (fun l => optL (lstOf y σ) (fun l' => Need (l.length + l'.length ≤ 16000000) (P (.cell σ.cs.length) (σ.push (.list (l ++ l'))))) False) False))
noncomputable def binA (c : Cx) (op : Operator) (x y : AV) (σ : St) (P : KV) : Prop := match op with
  | .Add => addA c x y σ P
  | .Sub => int2 x y (fun i j => P (.int (i - j)) σ) False
  | .Mult => int2 x y (fun i j => Need (IntMulOk i j) (P (.int (i * j)) σ)) False
  | .Mod => int2 x y (fun i j => Need (0 < j) (P (.int (i.fmod j)) σ)) False
  | .FloorDiv => int2 x y (fun i j => Need (0 < j ∧ j < 1073741824) (P (.int (i.fdiv j)) σ)) False
  | op => OP c (binaryOp op) x y σ P
noncomputable def eqA (x y : AV) (Q : Bool → Prop) (D : Prop) : Prop := int2 x y (fun i j => Q (i == j)) (str2 x y (fun i j => Q (i == j)) D)
noncomputable def isA (x y : AV) (Q : Bool → Prop) (D : Prop) : Prop := match x with
  | .none => (match y with
    | .none => Q true
    | .obj _ _ _ => Q false
    | _ => D)
  | .obj _ _ _ => (match y with
    | .none => Q false
    | _ => D)
  | _ => D
noncomputable def cmpA (c : Cx) (op : CmpOp) (x y : AV) (σ : St) (P : KV) : Prop := match op with
  | .Lt => int2 x y (fun i j => P (.bool (decide (i < j))) σ) False
  | .LtE => int2 x y (fun i j => P (.bool (decide (i ≤ j))) σ) False
  | .Gt => int2 x y (fun i j => P (.bool (decide (i > j))) σ) False
  | .GtE => int2 x y (fun i j => P (.bool (decide (i ≥ j))) σ) False
  | .Eq => eqA x y (fun b => P (.bool b) σ) (OP c (compareOp .Eq) x y σ P)
  | .NotEq => eqA x y (fun b => P (.bool (!b)) σ) (OP c (compareOp .NotEq) x y σ P)
  | .Is => isA x y (fun b => P (.bool b) σ) (OP c (compareOp .Is) x y σ P)
  | .IsNot => isA x y (fun b => P (.bool (!b)) σ) (OP c (compareOp .IsNot) x y σ P)
  | op => OP c (compareOp op) x y σ P
noncomputable def tag (e : PySem.Expr) : Nat := match e with
  | .Starred .. => 1
  | .ListComp .. => 2
  | .SetComp .. => 2
  | .DictComp .. => 2
  | .Set .. => 3
  | .Slice .. => 4
  | .Tuple .. => 5
  | .List .. => 5
  | _ => 0
noncomputable def isStar (e : PySem.Expr) : Bool := Nat.beq (tag e) 1
noncomputable def isComp (e : PySem.Expr) : Bool := Nat.beq (tag e) 2
noncomputable def isSet (e : PySem.Expr) : Bool := Nat.beq (tag e) 3
noncomputable def isSlice (e : PySem.Expr) : Bool := Nat.beq (tag e) 4
noncomputable def isTupE (e : PySem.Expr) : Bool := Nat.beq (tag e) 5
noncomputable def SU (c : Cx) (x i : AV) (σ : St) (P : KV) : Prop :=
  ∀ value slice T s u1 u2 Q E, isSlice slice = false → Rel c σ ((i, u2) :: (x, u1) :: T) s → Po c T P Q → wpAny c.M c.A (subscriptTail value slice u1 u2) Q E s
noncomputable def subA (c : Cx) (x i : AV) (σ : St) (P : KV) : Prop := match i with
  | .int i => optL (lstOf x σ) (fun l => Item l i fun y => P y σ) (SU c x (.int i) σ P)
  | i => SU c x i σ P
noncomputable def SI (c : Cx) (o i v : AV) (σ : St) (P : St → Prop) : Prop :=
  ∀ T s u1 u2 u3 Q E, Rel c σ ((i, u2) :: (o, u1) :: (v, u3) :: T) s → PoU c T P Q → wpAny c.M c.A (setItem u1 u2 u3) Q E s
noncomputable def Cell.list? (c : Cell) : Option (List AV) := match c with
  | .list l => some l
  | _ => none
theorem listB {o : Option Cell} {l : List AV} (h : o.bind Cell.list? = some l) : o = some (.list l) := by
  cases o with
  | none => cases h
  | some ce => cases ce with
    | list => exact congrArg (fun l => some (Cell.list l)) (Option.some.inj h)
    | _ => cases h
noncomputable def setA (c : Cx) (o i v : AV) (σ : St) (P : St → Prop) : Prop := match i with
  | .int i => (match o with
    | .cell k => imm v σ fun v' σ1 => optL (σ1.cs[k]?.bind Cell.list?) (fun l => Need (0 ≤ i ∧ i.toNat < l.length) (P (σ1.setc k (.list (l.set i.toNat v'))))) False
    | _ => False)
  | i => SI c o i v σ P
end Mine
end
section
open PySem PySem.W PyProof.Rows
set_option tactic.hygienic false
set_option maxHeartbeats 400000
namespace Mine
section
variable {c : Cx} {σ : St} {T : List (AV × Value)} {s : Shared}
theorem RelD.tail {t : AV × Value} {m adr M K R} (r : RelD c σ (t :: T) s m adr M K R) : RelD c σ T s m adr M K R := ⟨r.F, r.N, r.U, r.UK, r.C, r.V, fun x h => r.T x (List.mem_cons_of_mem _ h), r.os, r.gens, r.KC, r.UF⟩
theorem Rel.tok (r : Rel c σ T s) (n : Nat) : Rel c σ T { s with toks := n } := r.same rfl rfl rfl
theorem RelD.tok {m adr M K R} (r : RelD c σ T s m adr M K R) (n : Nat) : RelD c σ T { s with toks := n } m adr M K R := r.same rfl rfl rfl
theorem Rel.val (r : Rel c σ T s) {x : AV} {u : Value} (h : (x, u) ∈ T) : ∃ adr R, Rv c.w adr R x u := let ⟨_, adr, _, _, R, r⟩ := r; ⟨adr, R, r.T _ h⟩
theorem Rel.int (r : Rel c σ T s) {i : Int} {u : Value} (h : (AV.int i, u) ∈ T) : ∃ t, u = .int i t := by
  refine x21 (r.val h) fun adr R h => ?_
  cases h with | imm h => cases h; exact ⟨_, rfl⟩
theorem Rel.str (r : Rel c σ T s) {i : Str} {u : Value} (h : (AV.str i, u) ∈ T) : ∃ t, u = .str i t := by
  refine x21 (r.val h) fun adr R h => ?_
  cases h with | imm h => cases h; exact ⟨_, rfl⟩
theorem Rel.bool (r : Rel c σ T s) {i : Bool} {u : Value} (h : (AV.bool i, u) ∈ T) : u = .bool i := by
  refine x21 (r.val h) fun adr R h => ?_
  cases h with | imm h => cases h; rfl
theorem Rel.none (r : Rel c σ T s) {u : Value} (h : (AV.none, u) ∈ T) : u = .none := by
  refine x21 (r.val h) fun adr R h => ?_
  cases h with | imm h => cases h; rfl
theorem Rel.fn (r : Rel c σ T s) {a : Addr} {u : Value} (h : (AV.fn a, u) ∈ T) : u = .ref a := by
  refine x21 (r.val h) fun adr R h => ?_
  cases h with | imm h => cases h; rfl
theorem Rel.blt (r : Rel c σ T s) {a : Bl} {u : Value} (h : (AV.blt a, u) ∈ T) : u = .builtin a.name := by
  refine x21 (r.val h) fun adr R h => ?_
  cases h with | imm h => cases h; rfl
theorem Rel.typ (r : Rel c σ T s) {a : Ty} {u : Value} (h : (AV.typ a, u) ∈ T) : u = .type a.name := by
  refine x21 (r.val h) fun adr R h => ?_
  cases h with | imm h => cases h; rfl
theorem Rl.len {w : World} {R : Led} {l : List AV} : ∀ {vs : List Value}, Rl w R l vs → vs.length = l.length := by
  induction l with
  | nil => intro vs h; cases h; rfl
  | cons x l ih => intro vs h; cases h with | cons a b => exact congrArg (· + 1) (ih b)
theorem Rl.get {w : World} {R : Led} {x : AV} {l : List AV} : ∀ {vs : List Value} {i : Nat}, Rl w R l vs → l[i]? = some x → ∃ u, vs[i]? = some u ∧ Ri w R x u := by
  induction l with
  | nil => intro vs i h e; cases i <;> cases e
  | cons y l ih =>
    intro vs i h e
    cases h with
    | cons a b =>
      cases i with
      | zero => cases e; exact ⟨_, rfl, a⟩
      | succ i => exact ih (i := i) b e
theorem Rl.set {w : World} {R : Led} {x : AV} {u : Value} (h : Ri w R x u) {l : List AV} : ∀ {vs : List Value} {i : Nat}, Rl w R l vs → Rl w R (l.set i x) (vs.set i u) := by
  induction l with
  | nil => intro vs i z; cases z; exact .nil
  | cons y l ih =>
    intro vs i z
    cases z with
    | cons a b =>
      cases i with
      | zero => exact .cons h b
      | succ i => exact .cons a (ih (i := i) b)
theorem Rl.app {w : World} {R : Led} {l' : List AV} {vs' : List Value} (h : Rl w R l' vs') {l : List AV} : ∀ {vs : List Value}, Rl w R l vs → Rl w R (l ++ l') (vs ++ vs') := by
  induction l with
  | nil => intro vs z; cases z; exact h
  | cons y l ih => intro vs z; cases z with | cons a b => exact .cons a (ih b)
theorem Rl.last {w : World} {R : Led} {x : AV} {xs : List AV} : ∀ {vs : List Value}, Rl w R (xs ++ [x]) vs → ∃ vs' u, vs = vs' ++ [u] ∧ Rl w R xs vs' ∧ Ri w R x u := by
  induction xs with
  | nil => intro vs h; cases h with | cons a b => cases b; exact ⟨[], _, rfl, .nil, a⟩
  | cons y xs ih => intro vs h; cases h with | cons a b => obtain ⟨vs', u, e, h1, h2⟩ := ih b; exact ⟨_ :: vs', u, by rw [e]; rfl, .cons a h1, h2⟩
theorem lst?_eq {v : AV} {l : List AV} (h : v.lst? = some l) : v = .lst l := by
  cases v with
  | lst => cases h; rfl
  | _ => cases h
theorem RelD.still? {m adr M K R} (r : RelD c σ T s m adr M K R) {q : Addr × Obj} (h : q ∈ R) : q ∈ M ++ (K ++ (R ++ c.fr)) := List.mem_append_right _ (List.mem_append_right _ (List.mem_append_left _ h))
theorem RelD.lstM {m adr M K R} {Q : Value → Prop} (r : RelD c σ T s m adr M K R) {v : AV} {u : Value} {l : List AV} (h : (v, u) ∈ T) (e : lstOf v σ = some l)
    (kk : ∀ a vs n, Rl c.w R l vs → l.length ≤ 16000000 → (a, listOf vs.toArray n) ∈ M ++ (K ++ (R ++ c.fr)) → Q (.ref a)) : Q u := by
  have frozen : ∀ {u : Value}, Ri c.w R (.lst l) u → Q u := fun hh => hh.lstI fun vs a n z hm hl => kk a vs n hl z (r.still? hm)
  cases r.T _ h with
  | imm hh =>
    cases v with
    | cell => exact hh.noCell
    | lst => cases e; exact frozen hh
    | _ => cases e
  | clo => cases e
  | @cell k a hk =>
    refine x12 (Option.bind_eq_some_iff.mp (show σ.cs[k]?.bind Cell.lst? = some l from e)) fun ce hc e => ?_
    cases ce with
    | list l' =>
      cases e
      exact r.atM hc (fun v hv => by cases hv) hk fun q h2 hq => by cases h2 with | list z hl => exact kk a _ _ hl z hq
    | fro v =>
      obtain rfl := lst?_eq e
      exact frozen (r.C.frozenA hc hk)
    | _ => cases e
theorem RelD.lst {m adr M K R} {Q : Value → Prop} (r : RelD c σ T s m adr M K R) {v : AV} {u : Value} {l : List AV} (h : (v, u) ∈ T) (e : lstOf v σ = some l)
    (kk : ∀ a vs n led, Rl c.w R l vs → l.length ≤ 16000000 → News c.h₀ c.L s.heap led → (a, listOf vs.toArray n) ∈ led → Q (.ref a)) : Q u :=
  r.lstM h e fun a vs n hl z hm => kk a vs n _ hl z r.N hm
variable {P : KV} {Q : Value → Shared → Prop} {E : Value → Shared → Prop}
theorem int2_ok {x y : AV} {u1 u2 : Value} {F : Int → Int → Prop} {D : Prop} (r : Rel c σ ((y, u2) :: (x, u1) :: T) s) (h : int2 x y F D) : (∃ i j t1 t2, u1 = .int i t1 ∧ u2 = .int j t2 ∧ F i j) ∨ D := by
  cases x with
  | int i => cases y with
    | int j =>
      refine x11 (r.int (List.mem_cons_of_mem _ List.mem_cons_self)) fun t1 e1 => ?_
      obtain ⟨t2, e2⟩ := r.int List.mem_cons_self
      exact .inl (i43 i j t1 t2 e1 e2 h)
    | _ => exact .inr h
  | _ => exact .inr h
theorem int2_F {x y : AV} {u1 u2 : Value} {F : Int → Int → Prop} (r : Rel c σ ((y, u2) :: (x, u1) :: T) s) (h : int2 x y F False) : ∃ i j t1 t2, u1 = .int i t1 ∧ u2 = .int j t2 ∧ F i j := (int2_ok r h).elim id False.elim
theorem str2_ok {x y : AV} {u1 u2 : Value} {F : Str → Str → Prop} {D : Prop} (r : Rel c σ ((y, u2) :: (x, u1) :: T) s) (h : str2 x y F D) : (∃ i j t1 t2, u1 = .str i t1 ∧ u2 = .str j t2 ∧ F i j) ∨ D := by
  cases x with
  | str i => cases y with
    | str j =>
      refine x11 (r.str (List.mem_cons_of_mem _ List.mem_cons_self)) fun t1 e1 => ?_
      obtain ⟨t2, e2⟩ := r.str List.mem_cons_self
      exact .inl (i43 i j t1 t2 e1 e2 h)
    | _ => exact .inr h
  | _ => exact .inr h
theorem binA_ok {op : Operator} {x y : AV} {u1 u2 : Value} (r : Rel c σ ((y, u2) :: (x, u1) :: T) s) (h : binA c op x y σ P) (k : Po c T P Q) : wpAny c.M c.A (binaryOp op u1 u2) Q E s := by
  have r0 : Rel c σ T s := r.drop.drop
  have fin : ∀ {i : Int}, P (.int i) σ → Q (.int i s.toks) { s with toks := s.toks + 1 } := fun hp => k _ _ _ _ hp ((r0.tok _).imm fun _ => .int)
  cases op with
  | Add =>
    have h : addA c x y σ P := h
    rcases int2_ok r h with ⟨i, j, t1, t2, rfl, rfl, h⟩ | h
    · exact PyProof.Rows.add_int (fin h)
    rcases str2_ok r h with ⟨i, j, t1, t2, rfl, rfl, h⟩ | h
    · exact PyProof.Rows.add_str (fun t' tk => k _ _ _ _ h.2 ((r0.tok _).imm fun _ => .str)) (by rw [sizeLine_eq]; have := h.1; omega)
    refine x12 (optL_out h) fun l e1 h => ?_
    refine x12 (optL_out h) fun l' e2 h => ?_
    refine Rel.out r fun m adr M K R r => ?_
    refine r.lst (Q := fun u1 => wpAny c.M c.A (binaryOp Operator.Add u1 u2) Q E s) (List.mem_cons_of_mem _ List.mem_cons_self) e1 fun a vs n led hl hz N hm => ?_
    refine r.lst (Q := fun u2 => wpAny c.M c.A (binaryOp Operator.Add (Value.ref a) u2) Q E s) List.mem_cons_self e2 fun a' vs' n' led' hl' hz' N' hm' => ?_
    refine kmk_add_lit r.F r.N (N.isList hm) (N'.isList hm') rfl (fun D h' F9 N9 hlt => ?_) (by rw [sizeLine_eq]; simp only [hl.len, hl'.len]; have := h.1; omega)
    have r' := (RelD.tail (RelD.tail r)).live (s' := { s with heap := h' }) F9 N9 (fun p hp => Nat.ne_of_lt (hlt p hp)) (.list (by rw [List.length_append]; exact h.1) (hl'.app hl)) rfl rfl
    exact k _ _ _ _ h.2 r'
  | Sub => obtain ⟨i, j, t1, t2, rfl, rfl, h⟩ := int2_F r h; exact PyProof.Rows.sub_int (fin h)
  | Mult => obtain ⟨i, j, t1, t2, rfl, rfl, h⟩ := int2_F r h; exact mul_int (fin h.2) h.1
  | Mod => obtain ⟨i, j, t1, t2, rfl, rfl, h⟩ := int2_F r h; exact PyProof.Rows.mod_int (by have := h.1; omega) (fin h.2)
  | FloorDiv => obtain ⟨i, j, t1, t2, rfl, rfl, h⟩ := int2_F r h; exact floordiv_int (by have := h.1; omega) (fin h.2) (Or.inl (PyProof.noPylong_small (by have := h.1; omega)))
  | _ => exact h T s u1 u2 Q E r k
theorem Rel.obj (r : Rel c σ T s) {a C : Addr} {fs : List (Str × AV)} {u : Value} (h : (AV.obj a C fs, u) ∈ T) : u = .ref a := by
  refine x21 (r.val h) fun adr R h => ?_
  cases h with | imm h => cases h; rfl
theorem isA_ok {x y : AV} {u1 u2 : Value} {F : Bool → Prop} {D : Prop} (r : Rel c σ ((y, u2) :: (x, u1) :: T) s) (h : isA x y F D) : (plainIs u1 u2 = true ∧ F (u1 == u2)) ∨ D := by
  cases x with
  | none =>
    obtain rfl := r.none (List.mem_cons_of_mem _ List.mem_cons_self)
    cases y with
    | none => obtain rfl := r.none List.mem_cons_self; exact .inl ⟨rfl, h⟩
    | obj => obtain rfl := r.obj List.mem_cons_self; exact .inl ⟨rfl, h⟩
    | _ => exact .inr h
  | obj =>
    obtain rfl := r.obj (List.mem_cons_of_mem _ List.mem_cons_self)
    cases y with
    | none => obtain rfl := r.none List.mem_cons_self; exact .inl ⟨rfl, h⟩
    | _ => exact .inr h
  | _ => exact .inr h
theorem cmpA_ok {op : CmpOp} {x y : AV} {u1 u2 : Value} (r : Rel c σ ((y, u2) :: (x, u1) :: T) s) (h : cmpA c op x y σ P) (k : Po c T P Q) : wpAny c.M c.A (compareOp op u1 u2) Q E s := by
  have r0 : Rel c σ T s := r.drop.drop
  have fin : ∀ {i : Bool}, P (.bool i) σ → Q (.bool i) s := fun hp => k _ _ _ _ hp (r0.imm fun _ => .bool)
  cases op with
  | Lt => obtain ⟨i, j, t1, t2, rfl, rfl, h⟩ := int2_F r h; exact PyProof.Rows.lt_int (fin h)
  | LtE => obtain ⟨i, j, t1, t2, rfl, rfl, h⟩ := int2_F r h; exact le_int (fin h)
  | Gt => obtain ⟨i, j, t1, t2, rfl, rfl, h⟩ := int2_F r h; exact PyProof.Rows.gt_int (fin h)
  | GtE => obtain ⟨i, j, t1, t2, rfl, rfl, h⟩ := int2_F r h; exact ge_int (fin h)
  | Eq =>
    rcases int2_ok r h with ⟨i, j, t1, t2, rfl, rfl, h⟩ | h
    · exact PyProof.Rows.eq_int (fin h)
    rcases str2_ok r h with ⟨i, j, t1, t2, rfl, rfl, h⟩ | h
    · exact eq_str (fin h)
    exact h T s u1 u2 Q E r k
  | NotEq =>
    rcases int2_ok r h with ⟨i, j, t1, t2, rfl, rfl, h⟩ | h
    · exact PyProof.Rows.ne_int (fin h)
    rcases str2_ok r h with ⟨i, j, t1, t2, rfl, rfl, h⟩ | h
    · exact ne_str (fin h)
    exact h T s u1 u2 Q E r k
  | Is =>
    rcases isA_ok (F := fun b => P (.bool b) σ) r h with ⟨h1, h2⟩ | h
    · exact wpAny_is_plain h1 (fin h2)
    · exact h T s u1 u2 Q E r k
  | IsNot =>
    rcases isA_ok (F := fun b => P (.bool (!b)) σ) r h with ⟨h1, h2⟩ | h
    · exact wpAny_isNot_plain h1 (fin h2)
    · exact h T s u1 u2 Q E r k
  | _ => exact h T s u1 u2 Q E r k
theorem truth_ok {x : AV} {u : Value} {P : KB} {Q : Bool → Shared → Prop} (r : Rel c σ ((x, u) :: T) s) (h : truth x σ fun b => P b σ) (k : PoB c T P Q) : wpAny c.M c.A (truthy u) Q E s := by
  have r0 : Rel c σ T s := r.drop
  have lists : optL (lstOf x σ) (fun l => P (!l.isEmpty) σ) False → wpAny c.M c.A (truthy u) Q E s := by
    intro h
    refine x12 (optL_out h) fun l e h => ?_
    refine Rel.out r fun m adr M K R r => ?_
    refine r.lst (Q := fun u => wpAny c.M c.A (truthy u) Q E s) List.mem_cons_self e fun a vs n led hl hz N hm => ?_
    refine wpAny_truthy_list (News.isList N hm) (by simp only [List.size_toArray, hl.len]; omega) (k _ _ _ ?_ (r0.tok _))
    have e9 : vs.toArray.isEmpty = l.isEmpty := by
      cases hl <;> rfl
    rw [e9]; exact h
  cases x with
  | bool => obtain rfl := r.bool List.mem_cons_self; exact wpAny_truthy_bool (k _ _ _ h r0)
  | none => obtain rfl := r.none List.mem_cons_self; exact truthy_none (k _ _ _ h r0)
  | int => obtain ⟨t, rfl⟩ := r.int List.mem_cons_self; exact truthy_int (k _ _ _ h r0)
  | _ => exact lists h
set_option tactic.hygienic true in
theorem subA_ok {x i : AV} {u1 u2 : Value} {value slice : PySem.Expr} (hs : isSlice slice = false) (r : Rel c σ ((i, u2) :: (x, u1) :: T) s) (h : subA c x i σ P) (k : Po c T P Q) : wpAny c.M c.A (subscriptTail value slice u1 u2) Q E s := by
  have r0 : Rel c σ T s := r.drop.drop
  cases i with
  | int i =>
    have hsub : ∀ a u, subscripted slice false (.ref a) u = operate [.ref a, u] (getItem (.ref a) u) := by
      intro a u
      cases slice <;> first | rfl | cases hs
    rcases optL_or h with ⟨l, e, h⟩ | h
    rotate_left
    · exact h _ _ T s u1 u2 Q E hs r k
    refine x11 (r.int List.mem_cons_self) fun t e94 => ?_
    obtain rfl := e94
    refine Rel.out r fun m adr M K R r => ?_
    refine r.lst (Q := fun u1 => wpAny c.M c.A (subscriptTail value slice u1 (Value.int i t)) Q E s) (List.mem_cons_of_mem _ List.mem_cons_self) e fun a vs n led hl hz N hm => ?_
    refine x12 h fun y _ hp => ?_
    try clear h
    rename_i h
    rcases h with ⟨h0, h1, hy⟩ | ⟨rfl, l', rfl⟩
    · refine x12 (hl.get hy) fun u hu hr => ?_
      refine item_litK (News.isList N hm) h0 (by omega) hu (k _ _ _ _ hp ?_) (hsub _ _)
      exact ((RelD.tail (RelD.tail r)).add (.imm hr)).rel
    · refine x23 hl.last fun vs' u e96 hl' hr => ?_
      obtain rfl := e96
      refine kde_neg (j := vs'.length) (News.isList N hm) (by decide) (by decide) ?_ (v := u) ?_ (k _ _ _ _ hp ?_) (hsub _ _)
      · have e : (-1 : Int) + ((vs' ++ [u]).length : Int) = (vs'.length : Int) := by rw [List.length_append, List.length_singleton]; omega
        show (if (0 : Int) ≤ (-1 : Int) + ((vs' ++ [u]).length : Int) && (-1 : Int) + ((vs' ++ [u]).length : Int) < ((vs' ++ [u]).length : Int) then some ((-1 : Int) + ((vs' ++ [u]).length : Int)).toNat else none) = some vs'.length
        rw [e, if_pos (by rw [List.length_append, List.length_singleton, Bool.and_eq_true]; exact ⟨decide_eq_true (by omega), decide_eq_true (by omega)⟩), Int.toNat_natCast]
      · simp
      · exact ((RelD.tail (RelD.tail r)).add (.imm hr)).rel
  | _ => exact h _ _ T s u1 u2 Q E hs r k
end
end Mine
end
section
open PySem PySem.W PyProof.Rows PySem.Calls PySem.Spec
set_option tactic.hygienic false
set_option maxHeartbeats 400000
namespace Mine
noncomputable def gl : List (Str × AV) := [
  (Str.ofString "_law_take", AV.fn 458), (Str.ofString "isinstance", AV.blt .isinstance), (Str.ofString "len", AV.blt .len), (Str.ofString "Var", AV.fn 52), (Str.ofString "Lit", AV.fn 94), (Str.ofString "App", AV.fn 134), (Str.ofString "Lam", AV.fn 176), (Str.ofString "Let", AV.fn 212), (Str.ofString "Alt", AV.fn 233), (Str.ofString "Case", AV.fn 273), (Str.ofString "Con", AV.fn 313), (Str.ofString "Prim", AV.fn 353),
  (Str.ofString "Uses", AV.fn 395), (Str.ofString "scoped", AV.fn 364), (Str.ofString "free_names", AV.fn 371), (Str.ofString "uses_of", AV.fn 406), (Str.ofString "used_names", AV.fn 413), (Str.ofString "reached", AV.fn 418), (Str.ofString "without_dead", AV.fn 423), (Str.ofString "mapped", AV.fn 430), (Str.ofString "nodes_of", AV.fn 437), (Str.ofString "size_of", AV.fn 444), (Str.ofString "_law_pool", AV.fn 451),
  (Str.ofString "_law_one", AV.fn 465), (Str.ofString "_law_tree", AV.fn 470), (Str.ofString "_law_inner", AV.fn 475), (Str.ofString "_law_all", AV.fn 482), (Str.ofString "_law_head", AV.fn 487), (Str.ofString "_law_expression_right", AV.fn 492), (Str.ofString "_law_small", AV.fn 497), (Str.ofString "_law_led", AV.fn 502), (Str.ofString "_law_binds_right", AV.fn 507),
  (Str.ofString "sorted", AV.blt .sorted), (Str.ofString "min", AV.blt .min), (Str.ofString "max", AV.blt .max), (Str.ofString "int", AV.typ .int), (Str.ofString "str", AV.typ .str), (Str.ofString "list", AV.typ .list), (Str.ofString "dict", AV.typ .dict), (Str.ofString "set", AV.typ .set), (Str.ofString "range", AV.typ .range), (Str.ofString "reversed", AV.typ .reversed)]
noncomputable def NameIs (w : World) (x : Str) (v : AV) : Prop := ∃ u, (∀ R, Ri w R v u) ∧ (GName w x u ∨ BName w x u)
theorem gl_ok (w : World) : ∀ q ∈ gl, NameIs w q.1 q.2 := by
  have g : (gl.all fun q => match q.2 with
    | .fn a => gB w q.1 a
    | _ => true) = true := by kernel_rfl
  have b : ∀ {x : Str} {a : Bl}, BName w x (.builtin a.name) → NameIs w x (.blt a) := fun h => ⟨_, fun _ => .blt, .inr h⟩
  have t : ∀ {x : Str} {a : Ty}, BName w x (.type a.name) → NameIs w x (.typ a) := fun h => ⟨_, fun _ => .typ, .inr h⟩
  have c : ∀ q ∈ gl, (∃ a, q.2 = .fn a) ∨ NameIs w q.1 q.2 := by
    unfold gl
    simp only [List.forall_mem_cons]
    repeat' apply And.intro
    all_goals first | exact .inl ⟨_, rfl⟩ | exact .inr (b bn_isinstance) | exact .inr (b bn_len) | exact .inr (b bn_sorted) | exact .inr (b bn_min) | exact .inr (b bn_max) | exact .inr (t bn_int) | exact .inr (t bn_str) | exact .inr (t bn_list) | exact .inr (t bn_dict) | exact .inr (t bn_set) | exact .inr (t bn_range) | exact .inr (t bn_reversed) | exact fun _ h => (nomatch h)
  intro q hq
  rcases c q hq with ⟨a, e⟩ | h
  · have := List.all_eq_true.mp g q hq
    rw [e] at this ⊢
    exact i12 _ (fun _ => .fn) (.inl (gB_ok this))
  · exact h
noncomputable def fns : List Addr := [458, 52, 94, 134, 176, 212, 233, 273, 313, 353, 395, 364, 371, 406, 413, 418, 423, 430, 437, 444, 451, 465, 470, 475, 482, 487, 492, 497, 502, 507, 42, 84, 124, 166, 204, 263, 303, 343]
noncomputable def isFnA (a : Addr) : Bool := fns.any (Nat.beq a)
theorem fns_ok (w : World) : ∀ a ∈ fns, keepIn (hp w) (.ref a) = true :=
  List.all_eq_true.mp (show (fns.all fun a => keepIn (hp w) (.ref a)) = true by kernel_rfl)
structure Cx.Ok2 (c : Cx) : Prop extends c.Ok where
  nd : c.env.kindOf ("__debug__" : Str) = none
  nc : c.env.kindOf ("__classdict__" : Str) = none
  ci : ∀ x y ca, c.cl.lookup x = some ca → c.cl.lookup y = some ca → x = y
set_option tactic.hygienic true in
theorem Cx.Ok.kind {c : Cx} (o : c.Ok) : c.env.scope.kind = .function := by
  unfold Cx.env
  split
  · exact o.k
  · rename_i sc cl C ob m₀ e
    exact (o.sk _ _ _ _ _ e).1
theorem ne_debug {c : Cx} (o : c.Ok2) {x : Str} {k : NameKind} (h : c.env.kindOf x = some k) : (x == ("__debug__" : Str)) = false := by
  cases e : x == ("__debug__" : Str) with
  | false => rfl
  | true => rw [eq_of_beq e, o.nd] at h; cases h
theorem ne_classdict {c : Cx} (o : c.Ok2) {x : Str} {k : NameKind} (h : c.env.kindOf x = some k) : (x == ("__classdict__" : Str)) = false := by
  cases e : x == ("__classdict__" : Str) with
  | false => rfl
  | true => rw [eq_of_beq e, o.nc] at h; cases h
section
variable {c : Cx} {σ : St} {T : List (AV × Value)} {s : Shared} {E : Value → Shared → Prop}
theorem Loc.load {m : Str → Option Value} {K R : Led} {x : Str} {u : Value} (o : c.Ok2) (F : Fr c.h₀ c.L s.heap m) (N : News c.h₀ c.L s.heap (K ++ c.fr)) (l : Loc c m K x u) {pos : Pos} {Q : Value → Shared → Prop} (h9 : Q u s) :
    wpAny c.M c.A (loadName c.env x) Q E s ∧ wpAny c.M c.A (eval (.Name x pos) c.env) Q E s := by
  have fin : ∀ {k}, c.env.kindOf x = some k → wpAny c.M c.A (loadName c.env x) Q E s → wpAny c.M c.A (loadName c.env x) Q E s ∧ wpAny c.M c.A (eval (.Name x pos) c.env) Q E s := fun hk h => ⟨h, wpAny_Name h (ne_debug o hk)⟩
  cases l with
  | loc e hk hm =>
    refine fin hk (wpAny_loadName_local o.kind hk ?_ hm h9)
    have : c.env.locals = c.L := by unfold Cx.env; rw [e]
    rw [this]; exact F.ns
  | fix h =>
    obtain ⟨hk, hc, ob, hm, hd⟩ := o.fx _ h
    exact fin hk (wpAny_loadName_free o.kind hk hc ⟨_, N.get (List.mem_append_right K hm), hd⟩ h9 (ne_classdict o hk))
  | fre _ hk hc hm hd =>
    have hm := List.mem_append_right K hm
    rcases hk with hk | hk
    · exact fin hk (wpAny_loadName_cell o.kind hk hc ⟨_, N.get hm, hd⟩ h9)
    · exact fin hk (wpAny_loadName_free o.kind hk hc ⟨_, N.get hm, hd⟩ h9 (ne_classdict o hk))
  | cel hk hc hm hd =>
    have hm := List.mem_append_left c.fr hm
    rcases hk with hk | hk
    · exact fin hk (wpAny_loadName_cell o.kind hk hc ⟨_, N.get hm, hd⟩ h9)
    · exact fin hk (wpAny_loadName_free o.kind hk hc ⟨_, N.get hm, hd⟩ h9 (ne_classdict o hk))
  | @own sc cl C ob m₀ m₂ e hk hn hm =>
    refine fin hk (wpAny_loadName_local o.kind hk ?_ hm h9)
    have : c.env.locals = C := by unfold Cx.env; rw [e]; rfl
    rw [this]
    exact hn.ns (N _ (List.mem_append_right _ (o.sk _ _ _ _ _ e).2)).1
theorem RelD.KF {m adr M K R} (r : RelD c σ T s m adr M K R) : News c.h₀ c.L s.heap (K ++ c.fr) := fun p hp => r.N p (by simp only [List.mem_append] at hp ⊢; grind)
noncomputable def isGI (o : Option NameKind) : Bool := match o with
  | some .globalImplicit => true
  | _ => false
theorem isGI_eq {o : Option NameKind} (h : isGI o = true) : o = some .globalImplicit := by
  cases o with
  | none => cases h
  | some k => cases k <;> first | rfl | cases h
noncomputable def nameA (c : Cx) (x : Str) (pos : Pos) (σ : St) (P : KV) : Prop :=
  optL (lk x σ.m) (fun v => P v σ) (cnd (isGI (lk x c.env.scope.names)) (optL (lk x gl) (fun v => P v σ) (AE c (.Name x pos) σ P)) (AE c (.Name x pos) σ P))
theorem nameA_ok {x : Str} {pos : Pos} {P : KV} (o : c.Ok2) (h : nameA c x pos σ P) : AEp c (.Name x pos) σ P := by
  rcases optL_or h with ⟨v, e, h⟩ | h
  · intro T s Q E hE r k
    refine Rel.out r fun m adr M K R r => ?_
    refine x12 (r.V x v (lk_eq ▸ e)) fun u l hv => ?_
    exact (l.load (R := R) o r.F r.KF (k _ _ _ _ h (r.add hv).rel)).2
  rcases cond_f h with ⟨e, h⟩ | ⟨_, h⟩
  · rcases optL_or h with ⟨v, e2, h⟩ | h
    · have e := isGI_eq e
      intro T s Q E hE r k
      refine x12 (gl_ok c.w _ (lk_mem e2)) fun u hv hg => ?_
      refine Rel.out r fun m adr M K R r => ?_
      have hk : c.env.kindOf x = some .globalImplicit := (lk_eq (l := c.env.scope.names)).symm.trans e
      have hb : c.env.builtins = builtinsNs := by unfold Cx.env; split <;> rfl
      have hm : c.env.globals = mainGlobals := by unfold Cx.env; split <;> rfl
      have T0 := topRead_of o.T
      have fin : Q u s := k _ _ _ _ h (r.rel.imm hv)
      rcases hg with hg | hg
      · exact Name_function_global o.kind hk (loadGlobal_global (env := c.env) (show s.heap.Ns c.env.globals c.mg from hm ▸ T0.g.keeps r.F.keep) (mg_of o.X T0.g hg.1) fin) hg.2
      · exact Name_function_global o.kind hk (loadGlobal_builtin (env := c.env) (show s.heap.Ns c.env.globals c.mg from hm ▸ T0.g.keeps r.F.keep) (mg_none_of o.X T0.g hg.1.1) (show s.heap.Ns c.env.builtins c.mb from hb ▸ T0.b.keeps r.F.keep) ((T0.builtins x hg.2.1).trans hg.1.2) fin) hg.2.2
    · exact h.ap
  · exact h.ap
noncomputable def isLC (o : Option NameKind) : Bool := match o with
  | some .local => true
  | some .cell => true
  | _ => false
theorem isLC_eq {o : Option NameKind} (h : isLC o = true) : o = some .local ∨ o = some .cell := by
  cases o with
  | none => cases h
  | some k => cases k <;> first | exact .inl rfl | exact .inr rfl | cases h
noncomputable def storeA (c : Cx) (x : Str) (v : AV) (σ : St) (P : St → Prop) : Prop := cnd (c.sub.isNone && isLC (lk x c.cs.names)) (P (σ.put x v)) False
theorem St.put_look {σ : St} {x y : Str} {v w : AV} (h : (σ.put x v).m.lookup y = some w) : (y = x ∧ w = v) ∨ (y ≠ x ∧ σ.m.lookup y = some w) := by
  unfold St.put at h
  rw [put_lk] at h
  by_cases e : y = x
  · rw [if_pos e] at h; cases h; exact .inl ⟨e, rfl⟩
  · rw [if_neg e] at h; exact .inr ⟨e, h⟩
theorem storeA_ok {x : Str} {v : AV} {u : Value} {P : St → Prop} {Q : Unit → Shared → Prop} (o : c.Ok2) (r : Rel c σ ((v, u) :: T) s) (h : storeA c x v σ P) (k : PoU c T P Q) : wpAny c.M c.A (storeName c.env x u) Q E s := by
  refine Rel.out r fun m adr M K R r => ?_
  have hv : Rv c.w adr R v u := r.T _ List.mem_cons_self
  refine x02 (cond_t h) fun hb h => ?_
  refine x02 (Bool.and_eq_true_iff.mp hb) fun es ek => ?_
  have es := Option.isNone_iff_eq_none.mp es
  have ee : c.env = c.fenv := by unfold Cx.env; rw [es]
  rcases isLC_eq ek with ek | ek
  ·
    have hk : c.fenv.kindOf x = some .local := (lk_eq (l := c.cs.names)).symm.trans ek
    rw [ee]
    refine storeX_L r.F r.N (fun h' F' N' => k _ _ h ⟨_, adr, M, K, R, F', N', r.U, r.UK, r.C, ?_, fun t ht => r.T t (List.mem_cons_of_mem _ ht), r.os, r.gens, r.KC, r.UF.1, r.UF.2.1, fun q e => by rw [es] at e; cases e⟩) o.k hk
    intro y w e
    rcases St.put_look e with ⟨rfl, rfl⟩ | ⟨hne, e⟩
    · exact i12 u (.loc es (by rw [ee]; exact hk) (if_pos rfl)) hv
    · refine x12 (r.V y w e) fun u' l hv' => ?_
      refine i12 u' ?_ hv'
      cases l with
      | loc a b d => exact .loc a b (by rw [if_neg hne]; exact d)
      | cel a b d e => exact .cel a b d e
      | fre z a b d e => exact .fre z a b d e
      | own a b d e => exact .own a b d e
      | fix h => exact .fix h
  · have hk : c.fenv.kindOf x = some .cell := (lk_eq (l := c.cs.names)).symm.trans ek
    refine x33 (r.KC es x hk) fun ca oc v₀ hca hmem hd => ?_
    rw [ee]
    refine x21 (List.append_of_mem hmem) fun K1 K2 e91 => ?_
    obtain rfl := e91
    refine x02 r.UK fun U1 U2 => ?_
    have U3 := List.pairwise_append.mp U2
    have U4 := List.pairwise_cons.mp U3.2.1
    have N1 : News c.h₀ c.L s.heap ((ca, oc) :: (M ++ (K1 ++ K2 ++ (R ++ c.fr)))) := fun p hp => r.N p (by simp only [List.mem_append, List.mem_cons] at hp ⊢; grind)
    have off : ∀ p ∈ M ++ (K1 ++ K2 ++ (R ++ c.fr)), p.1 ≠ ca := by
      intro p hp
      rcases List.mem_append.mp hp with hp | hp
      · exact (r.U.1 p hp (ca, oc) (List.mem_append_left _ (List.mem_append_right _ List.mem_cons_self))).symm
      rcases List.mem_append.mp hp with hp | hp
      · rcases List.mem_append.mp hp with hp | hp
        · exact U3.2.2 p hp _ List.mem_cons_self
        · exact (U4.1 p hp).symm
      · exact U1 (ca, oc) (List.mem_append_right _ List.mem_cons_self) p hp
    refine storeX_C r.F N1 hca (UpdF.head off) hd (fun h' o' F' N' hd' => k _ _ h ⟨_, adr, M, K1 ++ (ca, o') :: K2, R, F', fun p hp => N' p (by simp only [List.mem_append, List.mem_cons] at hp ⊢; grind), ?_, ?_, r.C, ?_, fun t ht => r.T t (List.mem_cons_of_mem _ ht), r.os, r.gens, ?_, r.UF⟩) o.k hk
    · refine ⟨fun q hq p hp => ?_, r.U.2⟩
      rcases List.mem_append.mp hp with hp | hp
      · rcases List.mem_append.mp hp with hp | hp
        · exact r.U.1 q hq p (List.mem_append_left _ (List.mem_append_left _ hp))
        · rcases List.mem_cons.mp hp with rfl | hp
          · exact r.U.1 q hq (ca, oc) (List.mem_append_left _ (List.mem_append_right _ List.mem_cons_self))
          · exact r.U.1 q hq p (List.mem_append_left _ (List.mem_append_right _ (List.mem_cons_of_mem _ hp)))
      · exact r.U.1 q hq p (List.mem_append_right _ hp)
    · refine ⟨fun q hq p hp => ?_, List.pairwise_append.mpr ⟨U3.1, List.pairwise_cons.mpr ⟨fun z hz => U4.1 z hz, U4.2⟩, fun z hz y hy => ?_⟩⟩
      · rcases List.mem_append.mp hq with hq | hq
        · exact U1 q (List.mem_append_left _ hq) p hp
        · rcases List.mem_cons.mp hq with rfl | hq
          · exact U1 (ca, oc) (List.mem_append_right _ List.mem_cons_self) p hp
          · exact U1 q (List.mem_append_right _ (List.mem_cons_of_mem _ hq)) p hp
      · rcases List.mem_cons.mp hy with rfl | hy
        · exact U3.2.2 z hz (ca, oc) List.mem_cons_self
        · exact U3.2.2 z hz y (List.mem_cons_of_mem _ hy)
    · intro y w e
      rcases St.put_look e with ⟨rfl, rfl⟩ | ⟨hne, e⟩
      · exact i12 u (.cel (.inl (by rw [ee]; exact hk)) (by rw [ee]; exact hca) (List.mem_append_right _ List.mem_cons_self) hd') hv
      · refine x12 (r.V y w e) fun u' l hv' => ?_
        refine i12 u' ?_ hv'
        cases l with
        | loc a b d => exact .loc a b d
        | @cel ca2 o2 a b d e =>
          refine .cel a b ?_ e
          have hne2 : ca2 ≠ ca := fun q => hne (o.ci y x ca (by rw [ee] at b; rw [← q]; exact b) hca)
          simp only [List.mem_append, List.mem_cons] at d ⊢
          rcases d with d | d | d
          · exact .inl d
          · cases d; exact absurd rfl hne2
          · exact .inr (.inr d)
        | fre z a b d e => exact .fre z a b d e
        | own a b d e => exact .own a b d e
        | fix h => exact .fix h
    · intro _ y hy
      refine x33 (r.KC es y hy) fun ca2 o2 v2 h1 h2 h3 => ?_
      by_cases q : ca2 = ca
      · subst q; exact ⟨ca2, o', _, h1, List.mem_append_right _ List.mem_cons_self, hd'⟩
      · refine i33 ca2 o2 v2 h1 ?_ h3
        simp only [List.mem_append, List.mem_cons] at h2 ⊢
        rcases h2 with h2 | h2 | h2
        · exact .inl h2
        · cases h2; exact absurd rfl q
        · exact .inr (.inr h2)
end
end Mine
end
section
open PySem PySem.W PyProof.Rows PySem.Calls PySem.Spec
set_option tactic.hygienic false
set_option maxHeartbeats 400000
namespace Mine
theorem kit_all (w : World) : (clsL.all fun C => clsL.all fun D => kitOne (hp w) (.ref C) (.ref D) == some (Nat.beq C D)) = true := by kernel_rfl
theorem kit_ok (w : World) {C D : Addr} (hC : C ∈ clsL) (hD : D ∈ clsL) : kitOne (hp w) (.ref C) (.ref D) = some (Nat.beq C D) := eq_of_beq (List.all_eq_true.mp (List.all_eq_true.mp (kit_all w) C hC) D hD)
theorem isCls_mem {a : Addr} (h : isCls a = true) : a ∈ clsL := by
  refine x12 (List.any_eq_true.mp h) fun b hb e => ?_
  rw [Nat.eq_of_beq_eq_true e]; exact hb
noncomputable def clsB (w : World) (C : Addr) : Bool := plainGet (hp w) C "__class__" && hasDictIn (hp w) C && findIn (hp w) (.ref C) "__class__" == some (some (.builtin "object.__class__")) && specialIn (hp w) (.builtin "object.__class__") "__get__" == some (some (.builtin "getset_descriptor.__get__")) &&
  takesIn (hp w) (.builtin "object.__class__") == some true && mroIn (hp w) C (.type "object") == some true
theorem cls_all (w : World) : (clsL.all fun C => clsB w C) = true := by kernel_rfl
theorem cls_ok (w : World) {C : Addr} (h : C ∈ clsL) : ClsOk w C := by
  have := List.all_eq_true.mp (cls_all w) _ h
  unfold clsB at this
  simp only [Bool.and_eq_true] at this
  refine x02 this fun j91 z6 => ?_
  try clear this
  refine x02 j91 fun j92 z5 => ?_
  try clear j91
  refine x02 j92 fun j93 z4 => ?_
  try clear j92
  refine x02 j93 fun j94 z3 => ?_
  try clear j93
  refine x02 j94 fun z1 z2 => ?_
  try clear j94
  exact ⟨z1, z2, eq_of_beq z3, eq_of_beq z4, eq_of_beq z5, eq_of_beq z6⟩
noncomputable def AV.lv (v : AV) : Bool := match v with
  | .cell _ => true
  | .clo _ _ _ _ _ => true
  | _ => false
noncomputable def NC (v : AV) : Prop := v.lv = false
theorem Ri.nc {w : World} {R : Led} {v : AV} {u : Value} (h : Ri w R v u) : NC v := by cases h <;> rfl
section
variable {c : Cx} {σ : St} {T T' : List (AV × Value)} {s s' : Shared} {E : Value → Shared → Prop} {m : Str → Option Value} {adr : List Addr} {M K R : Led}
theorem Rv.ri {w : World} {adr : List Addr} {R : Led} {v : AV} {u : Value} (h : Rv w adr R v u) (n : NC v) : Ri w R v u := by
  cases h with
  | imm z => exact z
  | cell => cases n
  | clo => cases n
theorem RelD.ri (r : RelD c σ T s m adr M K R) {v : AV} {u : Value} (h : (v, u) ∈ T) (n : NC v) : Ri c.w R v u := (r.T _ h).ri n
theorem RelD.rl (r : RelD c σ T s m adr M K R) {vs : List AV} : ∀ {us : List Value}, (∀ t ∈ vs.zip us, t ∈ T) → vs.length = us.length → (∀ v ∈ vs, NC v) → Rl c.w R vs us := by
  induction vs with
  | nil => intro us _ hl _; rw [List.length_eq_zero_iff.mp hl.symm]; exact .nil
  | cons v vs ih =>
    intro us h hl hn
    cases us with
    | nil => cases hl
    | cons u us => exact .cons (r.ri (h _ List.mem_cons_self) (hn _ List.mem_cons_self)) (ih (fun t ht => h t (List.mem_cons_of_mem _ ht)) (Nat.succ.inj hl) fun v hv => hn v (List.mem_cons_of_mem _ hv))
theorem imm_ok {v : AV} {u : Value} {P : KV} (r : Rel c σ T s) (hm : (v, u) ∈ T) (h : imm v σ P) : ∃ v' σ', P v' σ' ∧ Rel c σ' ((v', u) :: T) s ∧ NC v' := by
  refine Rel.out r fun m adr M K R r => ?_
  cases r.T _ hm with
  | imm z =>
    cases v with
    | cell => cases z
    | clo => cases z
    | _ => exact ⟨_, _, h, (r.add (.imm z)).rel, z.nc⟩
  | clo => exact (show False from h).elim
  | @cell k a ha =>
    refine x12 (optL_out (show optL σ.cs[k]? (Cell.imm σ k P) False from h)) fun ce hc h => ?_
    have frz : (∀ v, ce ≠ .fro v) → ∀ {w : AV}, (∀ R' q, CellR c.w R ce a q → (∀ p ∈ R, p ∈ R') → q ∈ R' → Ri c.w R' w (.ref a)) → P w (σ.setc k (.fro w)) → ∃ v' σ', P v' σ' ∧ Rel c σ' ((v', .ref a) :: T) s ∧ NC v' := by
      intro hne w hw hp
      refine r.atA hc hne ha fun q rest h2 _ _ _ _ fz => ?_
      obtain ⟨R', hR, hi, M', r'⟩ := fz w fun R' hR hq => hw R' _ h2 hR hq
      exact i23 _ _ hp ((r'.add (.imm hi)).rel) hi.nc
    cases ce with
    | list l => exact frz (fun v e => by cases e) (fun R' q h2 hR hq => by cases h2 with | list z hl => exact .lst z hq (hl.mono hR)) h
    | dict l => exact frz (fun v e => by cases e) (fun R' q h2 hR hq => by cases h2 with | dict z z2 hl => exact .dct hq z z2 (hl.mono hR)) h
    | fro v =>
      have h2 := r.C.frozenA hc ha
      exact i23 _ _ h ((r.add (.imm h2)).rel) h2.nc
    | inst C fs =>
      refine x02 (cond_t h) fun hC h => ?_
      exact frz (fun v e => by cases e) (fun R' q h2 hR hq => by cases h2 with | inst z hi hf => exact .obj (cls_ok _ (isCls_mem hC)) z (hR _ hi) hq (hf.mono hR)) (h a)
    | raw => exact (show False from h).elim
theorem imms_ok {vs : List AV} : ∀ {us : List Value} {σ : St} {T : List (AV × Value)} {P : KL}, Rel c σ T s → (∀ t ∈ vs.zip us, t ∈ T) → vs.length = us.length → imms vs σ P →
    ∃ vs' σ', P vs' σ' ∧ Rel c σ' (vs'.zip us ++ T) s ∧ (∀ v ∈ vs', NC v) ∧ vs'.length = us.length := by
  induction vs with
  | nil =>
    intro us σ T P r _ hl h
    have : us = [] := List.length_eq_zero_iff.mp hl.symm
    subst this
    exact i24 [] σ h r (fun _ h => (nomatch h)) rfl
  | cons v vs ih =>
    intro us σ T P r hm hl h
    cases us with
    | nil => cases hl
    | cons u us =>
      unfold imms at h
      refine x23 (imm_ok r (hm _ List.mem_cons_self) h) fun v' σ1 h1 r1 n1 => ?_
      refine x24 (ih (us := us) r1 (fun t ht => List.mem_cons_of_mem _ (hm t (List.mem_cons_of_mem _ ht))) (Nat.succ.inj hl) h1) fun vs' σ2 h2 r2 n2 l2 => ?_
      refine i24 (v' :: vs') σ2 h2 (r2.sub ?_) (List.forall_mem_cons.mpr ⟨n1, n2⟩) (congrArg (· + 1) l2)
      intro t ht
      simp only [List.zip_cons_cons, List.cons_append, List.mem_append, List.mem_cons] at ht ⊢
      rcases ht with ht | ht | ht
      · exact .inr (.inl ht)
      · exact .inl ht
      · exact .inr (.inr ht)
theorem mkTuple_ok {vs : List AV} {us : List Value} {P : KV} {Q : Value → Shared → Prop} (r : Rel c σ (vs.zip us ++ T) s) (hl : vs.length = us.length) (hn : ∀ v ∈ vs, NC v) (hz : vs.length ≤ 16000000) (h : P (.tup vs) σ) (k : Po c T P Q) :
    wpAny c.M c.A (newTuple us) Q E s := by
  refine Rel.out r fun m adr M K R r => ?_
  have hr := r.rl (fun t ht => List.mem_append_left _ ht) hl hn
  refine kup_newTuple r.F r.N (fun D h' F' N' hlt => ?_) (by rw [sizeLine_eq]; omega)
  have r' := r.still (s' := { s with heap := h' }) (q := (D, tupOf us)) F' N' (fun p hp => Nat.ne_of_lt (hlt p hp)) rfl rfl
  exact k _ _ _ _ h (Rel.sub (r'.add (.imm (.tup List.mem_cons_self (hr.mono fun p hp => List.mem_cons_of_mem _ hp)))).rel fun t ht => (List.mem_cons.mp ht).elim (fun e => e ▸ List.mem_cons_self) fun ht => List.mem_cons_of_mem _ (List.mem_append_right _ ht))
theorem mkList_ok {vs : List AV} {us : List Value} {P : KV} {Q : Value → Shared → Prop} (r : Rel c σ (vs.zip us ++ T) s) (hl : vs.length = us.length) (hn : ∀ v ∈ vs, NC v) (hz : vs.length ≤ 16000000) (h : P (.cell σ.cs.length) (σ.push (.list vs))) (k : Po c T P Q) :
    wpAny c.M c.A (newList us) Q E s := by
  refine Rel.out r fun m adr M K R r => ?_
  have hr := r.rl (fun t ht => List.mem_append_left _ ht) hl hn
  refine newList_K r.F r.N (fun D h' F' N' hlt => ?_) (by rw [sizeLine_eq]; omega)
  have r' := r.live (s' := { s with heap := h' }) (q := (D, listOf us.toArray 0)) F' N' (fun p hp => Nat.ne_of_lt (hlt p hp)) (.list hz hr) rfl rfl
  exact k _ _ _ _ h (Rel.sub r' fun t ht => (List.mem_cons.mp ht).elim (fun e => e ▸ List.mem_cons_self) fun ht => List.mem_cons_of_mem _ (List.mem_append_right _ ht))
theorem isStr_seq {x y : Str} {t : Tok} : (Value.str y t).isStr x = seq x y := by
  rw [seq_iff]
  show (y == x) = (x == y)
  exact BEq.comm
theorem Rf.find {w : World} {R : Led} {x : Str} {fs : List (Str × AV)} : ∀ {es}, Rf w R fs es → ∀ {v}, lk x fs = some v → ∃ e : DictEntry, es.find? (fun e => e.key.isStr x) = some e ∧ Ri w R v e.val := by
  induction fs with
  | nil => intro es _ v e; cases e
  | cons q fs ih =>
    intro es h v e
    cases h with
    | @cons y hh t _ u _ vs a b =>
      have e : cond (seq x y) (some _) (lk x fs) = some v := e
      rw [List.find?_cons]
      show ∃ e, (match (Value.str y t).isStr x with | true => _ | false => _) = some e ∧ _
      rw [isStr_seq]
      cases q : seq x y with
      | true => rw [q] at e; cases e; exact ⟨_, rfl, a⟩
      | false => rw [q] at e; exact ih b e
theorem Rf.get {w : World} {x : Str} {fs es} (h : Rf w R fs es) {v} (e : lk x fs = some v) : ∃ u, getL x es = some (some u) ∧ Ri w R v u := by
  refine x12 (h.find e) fun d h1 h2 => ?_
  exact i12 d.val (by unfold getL; rw [h1]) h2
theorem Rf.getNone {w : World} {R : Led} {x : Str} {fs : List (Str × AV)} : ∀ {es}, Rf w R fs es → lk x fs = none → es.find? (·.key.isStr x) = none ∧ es.any (·.refKey) = false := by
  induction fs with
  | nil => intro es h _; cases h; exact ⟨rfl, rfl⟩
  | cons q fs ih =>
    intro es h e
    cases h with
    | @cons y hh t _ u _ vs a b =>
      have e : cond (seq x y) (some _) (lk x fs) = none := e
      cases q : seq x y with
      | true => rw [q] at e; cases e
      | false =>
        rw [q] at e
        refine x02 (ih b e) fun h1 h2 => ?_
        refine ⟨?_, ?_⟩
        · rw [List.find?_cons]
          show (match (Value.str y t).isStr x with | true => _ | false => _) = _
          rw [isStr_seq, q]; exact h1
        · rw [List.any_cons, h2, Bool.or_false]; rfl
set_option tactic.hygienic true in
theorem handed_ri {w : World} {v : AV} {u : Value} (h : Ri w R v u) : handedIn u = true := by
  cases h <;> try rfl
  rename_i n; cases n <;> rfl
end
end Mine
end
section
open PySem PySem.W PyProof.Rows PySem.Calls PySem.Spec
set_option tactic.hygienic false
set_option maxHeartbeats 400000
namespace Mine
noncomputable def Cell.inst? (c : Cell) : Option (Addr × List (Str × AV)) := match c with
  | .inst C fs => some (C, fs)
  | _ => none
noncomputable def AV.ins (v : AV) (σ : St) : Option (Addr × List (Str × AV)) := match v with
  | .obj _ C fs => some (C, fs)
  | .cell k => σ.cs[k]?.bind Cell.inst?
  | _ => Option.none
noncomputable def attrA (v : AV) (x : Str) (σ : St) (P : KV) : Prop := optL (v.ins σ) (fun q => optL (lk x q.2) (fun y => P y σ) False) False
noncomputable abbrev arg0 {α : Type} (vs : List α) (P D : Prop) : Prop := @List.rec _ (fun _ => Prop) P (fun _ _ _ => D) vs
noncomputable abbrev arg1 {α : Type} (vs : List α) (P : α → Prop) (D : Prop) : Prop := @List.rec _ (fun _ => Prop) D (fun x r _ => arg0 r (P x) D) vs
noncomputable abbrev arg2 {α : Type} (vs : List α) (P : α → α → Prop) (D : Prop) : Prop := @List.rec _ (fun _ => Prop) D (fun x r _ => arg1 r (P x) D) vs
theorem arg0_out {α : Type} {vs : List α} {P D : Prop} (h : arg0 vs P D) : (vs = [] ∧ P) ∨ D := by
  cases vs with
  | nil => exact .inl ⟨rfl, h⟩
  | cons => exact .inr h
theorem arg1_out {α : Type} {vs : List α} {P : α → Prop} {D : Prop} (h : arg1 vs P D) : (∃ x, vs = [x] ∧ P x) ∨ D := by
  cases vs with
  | nil => exact .inr h
  | cons x r => exact (arg0_out h).imp (fun ⟨e, h⟩ => ⟨x, by rw [e], h⟩) id
theorem arg2_out {α : Type} {vs : List α} {P : α → α → Prop} {D : Prop} (h : arg2 vs P D) : (∃ x y, vs = [x, y] ∧ P x y) ∨ D := by
  cases vs with
  | nil => exact .inr h
  | cons x r => exact (arg1_out h).imp (fun ⟨y, e, h⟩ => ⟨x, y, by rw [e], h⟩) id
theorem us1 {us : List Value} (h : 1 = us.length) : ∃ u, us = [u] := by
  cases us with
  | nil => cases h
  | cons u us => exact ⟨u, by rw [List.length_eq_zero_iff.mp (Nat.succ.inj h).symm]⟩
theorem us2 {us : List Value} (h : 2 = us.length) : ∃ u v, us = [u, v] := by
  cases us with
  | nil => cases h
  | cons u us => obtain ⟨v, e⟩ := us1 (Nat.succ.inj h); exact ⟨u, v, by rw [e]⟩
inductive Mn where
  | append
  | pop
  | extend
noncomputable def mtab : List (Str × Mn) := [(Str.ofString "append", .append), (Str.ofString "pop", .pop), (Str.ofString "extend", .extend)]
noncomputable def meths : List (Addr × List (Str × Addr)) := [
  (52, [(Str.ofString "parts", 42), (Str.ofString "groups", 35), (Str.ofString "rebuilt", 49)]),
  (94, [(Str.ofString "parts", 84), (Str.ofString "groups", 77), (Str.ofString "rebuilt", 91)]),
  (134, [(Str.ofString "parts", 124), (Str.ofString "groups", 119), (Str.ofString "rebuilt", 131)]),
  (176, [(Str.ofString "parts", 166), (Str.ofString "groups", 159), (Str.ofString "rebuilt", 173)]),
  (212, [(Str.ofString "parts", 204), (Str.ofString "groups", 199), (Str.ofString "rebuilt", 209)]),
  (273, [(Str.ofString "parts", 263), (Str.ofString "groups", 256), (Str.ofString "rebuilt", 270)]),
  (313, [(Str.ofString "parts", 303), (Str.ofString "groups", 298), (Str.ofString "rebuilt", 310)]),
  (353, [(Str.ofString "parts", 343), (Str.ofString "groups", 338), (Str.ofString "rebuilt", 350)]),
  (395, [(Str.ofString "note", 392)])]
noncomputable def methB (w : World) (C : Addr) (x : Str) (f : Addr) : Bool := plainGet (hp w) C x && findIn (hp w) (.ref C) x == some (some (.ref f)) && isFn (hp w) (.ref f) && keepIn (hp w) (.ref f)
theorem meths_all (w : World) : (meths.all fun q => q.2.all fun z => methB w q.1 z.1 z.2) = true := by kernel_rfl
noncomputable def lkN {α : Type} (a : Addr) (l : List (Addr × List α)) : List α := @List.rec _ (fun _ => List α) [] (fun q _ ih => cond (Nat.beq a q.1) q.2 ih) l
theorem lkN_mem {α : Type} {a : Addr} {x : α} {l : List (Addr × List α)} (h : x ∈ lkN a l) : ∃ r, (a, r) ∈ l ∧ x ∈ r := by
  induction l with
  | nil => cases h
  | cons q t ih =>
    have h : x ∈ cond (Nat.beq a q.1) q.2 (lkN a t) := h
    cases e : Nat.beq a q.1 with
    | true => rw [e] at h; exact ⟨q.2, by rw [Nat.eq_of_beq_eq_true e]; exact List.mem_cons_self, h⟩
    | false => rw [e] at h; obtain ⟨r', h1, h2⟩ := ih h; exact ⟨r', List.mem_cons_of_mem _ h1, h2⟩
theorem meth_ok (w : World) {C f : Addr} {x : Str} (h : lk x (lkN C meths) = some f) : plainGet (hp w) C x = true ∧ findIn (hp w) (.ref C) x = some (some (.ref f)) ∧ isFn (hp w) (.ref f) = true ∧ keepIn (hp w) (.ref f) = true := by
  refine x12 (lkN_mem (lk_mem h)) fun r h1 h2 => ?_
  have := List.all_eq_true.mp (List.all_eq_true.mp (meths_all w) _ h1) _ h2
  unfold methB at this
  simp only [Bool.and_eq_true] at this
  exact i04 this.1.1.1 (eq_of_beq this.1.1.2) this.1.2 this.2
noncomputable def attrs : List (Addr × List Str) := [
  (52, [Str.ofString "name"]),
  (94, [Str.ofString "kind", Str.ofString "value"]),
  (134, [Str.ofString "fun", Str.ofString "args"]),
  (176, [Str.ofString "params", Str.ofString "body"]),
  (212, [Str.ofString "binds", Str.ofString "body", Str.ofString "is_rec"]),
  (233, [Str.ofString "key", Str.ofString "names", Str.ofString "body"]),
  (273, [Str.ofString "value", Str.ofString "name", Str.ofString "alts", Str.ofString "other"]),
  (313, [Str.ofString "name", Str.ofString "args"]),
  (353, [Str.ofString "op", Str.ofString "args"]),
  (395, [Str.ofString "many", Str.ofString "in_function"])]
noncomputable def hasAttr (C : Addr) (x : Str) : Bool := (lkN C attrs).any (seq x)
noncomputable def attrB (w : World) (C : Addr) (x : Str) : Bool := plainGet (hp w) C x && hasDictIn (hp w) C && (findIn (hp w) (.ref C) x).any (noGet (hp w)) &&
  findIn (hp w) (.ref C) "__setattr__" == some (some (.builtin "object.__setattr__")) && plainOver (hp w) C && takerIn (hp w) C x == some none
theorem attrs_all (w : World) : (attrs.all fun q => q.2.all fun z => attrB w q.1 z) = true := by kernel_rfl
theorem attr_ok (w : World) {C : Addr} {x : Str} (h : hasAttr C x = true) : AttrOk w C x ∧ findIn (hp w) (.ref C) "__setattr__" = some (some (.builtin "object.__setattr__")) ∧ plainOver (hp w) C = true ∧ takerIn (hp w) C x = some none ∧ True := by
  refine x12 (List.any_eq_true.mp h) fun y hy e => ?_
  obtain rfl := seq_eq e
  refine x12 (lkN_mem hy) fun r h1 h2 => ?_
  have := List.all_eq_true.mp (List.all_eq_true.mp (attrs_all w) _ h1) _ h2
  unfold attrB at this
  simp only [Bool.and_eq_true] at this
  refine x02 this fun j91 z6 => ?_
  try clear this
  refine x02 j91 fun j92 z5 => ?_
  try clear j91
  refine x02 j92 fun j93 z4 => ?_
  try clear j92
  refine x02 j93 fun j94 z3 => ?_
  try clear j93
  refine x02 j94 fun z1 z2 => ?_
  try clear j94
  refine i05 ⟨z1, z2, ?_⟩ (eq_of_beq z4) z5 (eq_of_beq z6) trivial
  cases e : findIn (hp w) (.ref C) x with
  | none => rw [e] at z3; cases z3
  | some a => rw [e] at z3; exact ⟨a, rfl, z3⟩
noncomputable def Mn.id (m : Mn) : String := match m with
  | .append => "list.append"
  | .pop => "list.pop"
  | .extend => "list.extend"
noncomputable def methL (c : Cx) (k : Nat) (m : Mn) (vs : List AV) (σ : St) (P : KV) : Prop := match m with
  | .append => arg1 vs (fun y => imm y σ fun y' σ1 => optL (σ1.cs[k]?.bind Cell.list?) (fun l => Need (l.length < 16000000) (P .none (σ1.setc k (.list (l ++ [y']))))) False) False
  | .pop => arg0 vs (optL (σ.cs[k]?.bind Cell.list?) (fun l => Pop l fun l' y => P y (σ.setc k (.list l'))) False) False
  | m => AC c (.builtin m.id) (.cell k :: vs) σ P
theorem isFnA_mem {a : Addr} (h : isFnA a = true) : a ∈ fns := by
  refine x12 (List.any_eq_true.mp h) fun b hb e => ?_
  rw [Nat.eq_of_beq_eq_true e]; exact hb
noncomputable def isiA (x y : AV) (Q : Bool → Prop) (X : Prop) : Prop := match x with
  | .obj _ C _ => (match y with
    | .fn D => cnd (isCls C && isCls D) (Q (Nat.beq C D)) X
    | _ => X)
  | _ => X
noncomputable abbrev int1 (x : AV) (Q : Int → Prop) (X : Prop) : Prop := match x with
  | .int i => Q i
  | _ => X
noncomputable def bltA (c : Cx) (b : Bl) (vs : List AV) (σ : St) (P : KV) : Prop := match b with
  | .isinstance => arg2 vs (fun x y => isiA x y (fun b => P (.bool b) σ) (AC c (.builtin "isinstance") vs σ P)) (AC c (.builtin "isinstance") vs σ P)
  | .len => arg1 vs (fun x => optL (lstOf x σ) (fun l => P (.int l.length) σ) (AC c (.builtin "len") vs σ P)) (AC c (.builtin "len") vs σ P)
  | b => AC c (.builtin b.name) vs σ P
noncomputable def typA (c : Cx) (t : Ty) (vs : List AV) (σ : St) (P : KV) : Prop := match t with
  | .int => arg1 vs (fun x => int1 x (fun i => P (.int i) σ) (AC c (.type "int") vs σ P)) (AC c (.type "int") vs σ P)
  | .range => arg1 vs (fun x => int1 x (fun n => Need (0 ≤ n ∧ n ≤ 1000000) (P (.rng n) σ)) (AC c (.type "range") vs σ P)) (AC c (.type "range") vs σ P)
  | t => AC c (.type t.name) vs σ P
section
variable {c : Cx} {σ : St} {T T' : List (AV × Value)} {s s' : Shared} {E : Value → Shared → Prop} {m : Str → Option Value} {adr : List Addr} {M K R : Led} {P : KV} {Q : Value → Shared → Prop}
theorem RelD.inst (r : RelD c σ T s m adr M K R) {a C d : Addr} {es : List DictEntry} {n : Nat} (h1 : (a, instObj C d) ∈ R) (h2 : (d, dictOf es n) ∈ R) : InstAt s.heap a (instObj C d) C (some (dictOf es n)) :=
  InstAt.of_news r.N (List.mem_append_right _ (List.mem_append_right _ (List.mem_append_left _ h1))) (List.mem_append_right _ (List.mem_append_right _ (List.mem_append_left _ h2)))
theorem instB {o : Option Cell} {q : Addr × List (Str × AV)} (h : o.bind Cell.inst? = some q) : o = some (.inst q.1 q.2) := by
  cases o with
  | none => cases h
  | some ce => cases ce with
    | inst => exact congrArg (fun q : Addr × List (Str × AV) => some (Cell.inst q.1 q.2)) (Option.some.inj h)
    | _ => cases h
theorem RelD.instV {Q : Value → Prop} (r : RelD c σ T s m adr M K R) {v : AV} {u : Value} {C : Addr} {fs : List (Str × AV)} (h : (v, u) ∈ T) (e : v.ins σ = some (C, fs))
    (kk : ∀ a d es n, InstAt s.heap a (instObj C d) C (some (dictOf es n)) → (∀ q ∈ fs, AttrOk c.w C q.1) → Rf c.w R fs es → Q (.ref a)) : Q u := by
  cases r.T _ h with
  | imm z =>
    cases v with
    | obj => cases e; exact z.objI fun d es n y z a b f => kk _ _ _ _ (r.inst a b) z f
    | cell => exact z.noCell
    | _ => cases e
  | clo => cases e
  | @cell k a ha => exact r.atInst (instB e) ha fun d es n rest z hi hf h3 _ h5 _ _ => kk _ _ _ _ (InstAt.of_news h3 (List.mem_cons_of_mem _ (h5 _ hi)) List.mem_cons_self) z hf
theorem get_ok {a C d : Addr} {fs : List (Str × AV)} {es : List DictEntry} {n : Nat} {x : Str} {y : AV} (o : c.Ok2) (r : RelD c σ T s m adr M K R) (I : InstAt s.heap a (instObj C d) C (some (dictOf es n))) (z : ∀ q ∈ fs, AttrOk c.w C q.1) (hf : Rf c.w R fs es)
    (e : lk x fs = some y) (hp : P y σ) (k : Po c T P Q) : wpAny c.M c.A (getAttr (.ref a) x true) Q E s := by
  obtain ⟨h1, h2, b, h3, h4⟩ := z _ (lk_mem e)
  refine x12 (hf.get e) fun u hu hr => ?_
  exact get_own r.F o.X I h1 h2 h3 h4 hu (handed_ri hr) (k _ _ _ _ hp ((r.tok _).add (.imm hr)).rel)
theorem attrA_ok {v : AV} {u : Value} {x : Str} (o : c.Ok2) (r : Rel c σ ((v, u) :: T) s) (h : attrA v x σ P) (k : Po c T P Q) : wpAny c.M c.A (getAttr u x true) Q E s := by
  refine Rel.out r fun m adr M K R r => ?_
  refine x12 (optL_out h) fun j95 e h => ?_
  obtain ⟨C, fs⟩ := j95
  refine x12 (optL_out h) fun y e2 h => ?_
  refine r.instV (Q := fun u => wpAny c.M c.A (getAttr u x true) Q E s) List.mem_cons_self e fun a d es n I z hf => ?_
  exact get_ok o r.tail I z hf e2 h k
theorem isiA_ok {x y : AV} {u1 u2 : Value} {F : Bool → Prop} {X : Prop} {Q : Value → Shared → Prop} (o : c.Ok2) (r : Rel c σ ((x, u1) :: (y, u2) :: T) s) (h : isiA x y F X) (k : ∀ b tk, F b → Q (.bool b) { s with toks := tk }) : wpAny c.M c.A (call (.builtin "isinstance") [u1, u2]) Q E s ∨ X := by
  cases x with
  | obj a C fs =>
    cases y with
    | fn D =>
      rcases cond_f h with ⟨hc, h⟩ | ⟨_, h⟩
      · refine x02 (Bool.and_eq_true_iff.mp hc) fun hC hD => ?_
        refine Rel.out r fun m adr M K R r => ?_
        have hv := r.ri List.mem_cons_self rfl
        have hw := r.ri (List.mem_cons_of_mem _ List.mem_cons_self) rfl
        rw [hw.fnI]
        exact hv.objI (Q := fun u => wpAny c.M c.A (call (.builtin "isinstance") [u, .ref D]) Q E s ∨ X) fun _ _ _ y z a b f => .inl (kia_one (kitx_own y.k4 y.k5 y.k6 y.k7 y.k8 y.k9) (o.X.keeps r.F.keep) (r.inst a b) (kit_ok c.w (isCls_mem hC) (isCls_mem hD)) (fun e => by cases e) fun tk => k _ _ h)
      · exact .inr h
    | _ => exact .inr h
  | _ => exact .inr h
theorem RelD.listV {Q : Value → Prop} (r : RelD c σ T s m adr M K R) {k : Nat} {u : Value} {l : List AV} (h : (AV.cell k, u) ∈ T) (e : σ.cs[k]?.bind Cell.list? = some l)
    (kk : ∀ a vs n rest, Rl c.w R l vs → l.length ≤ 16000000 → News c.h₀ c.L s.heap ((a, listOf vs.toArray n) :: rest) → (∀ p ∈ rest, p.1 ≠ a) →
      (∀ l' vs' n' s', l'.length ≤ 16000000 → Rl c.w R l' vs' → Fr c.h₀ c.L s'.heap m → News c.h₀ c.L s'.heap ((a, listOf vs'.toArray n') :: rest) → s'.os = s.os → s'.gens = s.gens → ∃ M', RelD c (σ.setc k (.list l')) T s' m adr M' K R) → Q (.ref a)) : Q u :=
  (r.T _ h).cellI fun a ha => r.atList (listB e) ha fun vs n rest z hl g3 g4 _ g6 => kk a vs n rest hl z g3 g4 g6
theorem append_ok {k : Nat} {y : AV} {a u : Value} (r : Rel c σ ((y, u) :: (AV.cell k, a) :: T) s) (h : methL c k .append [y] σ P) (kk : Po c T P Q) : wpAny c.M c.A (call (.builtin "list.append") [a, u]) Q E s := by
  refine x23 (imm_ok (P := fun y' σ1 => optL (σ1.cs[k]?.bind Cell.list?) (fun l => Need (l.length < 16000000) (P .none (σ1.setc k (.list (l ++ [y']))))) False) r (u := u) List.mem_cons_self h) fun y' σ1 h1 r1 n1 => ?_
  refine x13 (optL_out h1) fun l hk hn hp => ?_
  refine Rel.out r1 fun m adr M K R r1 => ?_
  have hy := r1.ri List.mem_cons_self n1
  refine r1.listV (Q := fun a => wpAny c.M c.A (call (Value.builtin "list.append") [a, u]) Q E s) (k := k) (u := a) (List.mem_cons_of_mem _ (List.mem_cons_of_mem _ List.mem_cons_self)) hk fun a vs n rest hl z g3 g4 g6 => ?_
  refine append_K r1.F g3 (Upd.head g4) (fun h' F' N' => ?_) (by rw [List.size_toArray, sizeLine_eq, hl.len]; omega)
  rw [List.push_toArray] at N'
  refine x11 (g6 (l ++ [y']) (vs ++ [u]) (n + 1) { s with heap := h' } (by rw [List.length_append, List.length_singleton]; omega) (Rl.app (.cons hy .nil) hl) F' N' rfl rfl) fun M' r2 => ?_
  exact kk _ _ _ _ hp (Rel.imm r2.tail.tail.tail.rel fun _ => .none)
theorem pop_ok {k : Nat} {a : Value} (r : Rel c σ ((AV.cell k, a) :: T) s) (h : methL c k .pop [] σ P) (kk : Po c T P Q) : wpAny c.M c.A (call (.builtin "list.pop") [a]) Q E s := by
  obtain ⟨l, hk, xs, x, rfl, hp⟩ := optL_out (show optL (σ.cs[k]?.bind Cell.list?) _ False from h)
  refine Rel.out r fun m adr M K R r => ?_
  refine r.listV (Q := fun a => wpAny c.M c.A (call (Value.builtin "list.pop") [a]) Q E s) List.mem_cons_self hk fun a vs n rest hl z g3 g4 g6 => ?_
  have hlen := hl.len
  refine x23 hl.last fun vs' u e910 h1 h2 => ?_
  obtain rfl := e910
  have z9 := g3 _ List.mem_cons_self
  refine Copied.pop_at z9.1 (y := u) (by simp) (fun h' hs ho' => ?_) (by rw [List.size_toArray, sizeLine_eq, hlen]; omega)
  have F' := r.F.change (h' := h') hs z9.2.1 z9.2.2
  have N' := g3.setHead g4 hs ho'
  have e9 : (vs' ++ [u]).toArray.pop = vs'.toArray := by simp
  rw [e9] at N'
  refine x11 (g6 xs vs' (n + 1) { s with heap := h' } (by simp only [List.length_append, List.length_singleton] at z; omega) h1 F' N' rfl rfl) fun M' r2 => ?_
  exact kk _ _ _ _ hp (r2.tail.add (.imm h2)).rel
theorem bltA_ok {b : Bl} {vs : List AV} {us : List Value} (o : c.Ok2) (r : Rel c σ (vs.zip us ++ T) s) (hl : vs.length = us.length) (h : bltA c b vs σ P) (k : Po c T P Q) : wpAny c.M c.A (call (.builtin b.name) us) Q E s := by
  cases b with
  | isinstance =>
    rcases arg2_out h with ⟨x, y, rfl, h⟩ | h
    · refine x21 (us2 hl) fun u1 u2 e911 => ?_
      obtain rfl := e911
      rcases isiA_ok (E := E) (Q := Q) o r h fun b tk hb => k _ _ _ _ hb ((Rel.drop (Rel.drop r)).tok tk |>.imm fun _ => .bool) with h | h
      · exact h
      · exact h T s _ Q E hl r k
    · exact h T s us Q E hl r k
  | len =>
    rcases arg1_out h with ⟨x, rfl, h⟩ | h
    · refine x11 (us1 hl) fun u e912 => ?_
      obtain rfl := e912
      rcases optL_or h with ⟨l, e, h⟩ | h
      · refine Rel.out r fun m adr M K R r => ?_
        refine r.lst (Q := fun u => wpAny c.M c.A (call (Value.builtin Bl.len.name) [u]) Q E s) List.mem_cons_self e fun a vs n led hl9 hz N hm => ?_
        refine len_led N hm (by rw [hl9.len]; omega) (congrArg Nat.cast hl9.len) (k _ _ _ _ h ?_)
        exact Rel.imm (r.tail.tok _).rel fun _ => .int
      · exact h T s _ Q E hl r k
    · exact h T s us Q E hl r k
  | _ => exact h T s us Q E hl r k
theorem int1_ok {x : AV} {u : Value} {F : Int → Prop} {X : Prop} (r : Rel c σ ((x, u) :: T) s) (h : int1 x F X) : (∃ i t, x = .int i ∧ u = .int i t ∧ F i) ∨ X := by
  cases x with
  | int i => obtain ⟨t, e⟩ := r.int List.mem_cons_self; exact .inl ⟨i, t, rfl, e, h⟩
  | _ => exact .inr h
theorem typA_ok {b : Ty} {vs : List AV} {us : List Value} (r : Rel c σ (vs.zip us ++ T) s) (hl : vs.length = us.length) (h : typA c b vs σ P) (k : Po c T P Q) : wpAny c.M c.A (call (.type b.name) us) Q E s := by
  cases b with
  | int =>
    rcases arg1_out h with ⟨x, rfl, h⟩ | h
    · refine x11 (us1 hl) fun u e913 => ?_
      obtain rfl := e913
      rcases int1_ok r h with ⟨i, t, rfl, rfl, h⟩ | h
      · exact call_int_int (k _ _ _ _ h r)
      · exact h T s _ Q E hl r k
    · exact h T s us Q E hl r k
  | range =>
    rcases arg1_out h with ⟨x, rfl, h⟩ | h
    · refine x11 (us1 hl) fun u e914 => ?_
      obtain rfl := e914
      rcases int1_ok r h with ⟨n, t, rfl, rfl, h⟩ | h
      · refine x51 r.drop fun m adr M K R r => ?_
        refine call_range_1 ?_
        have r2 := r.still (s' := { s with heap := s.heap.push { cls := .type "range", data := .fields #[.int 0 s.toks, .int n t, .int 1 (s.toks + 1)] }, toks := s.toks + 1 + 1 }) (q := (s.heap.objs.size, { cls := .type "range", data := .fields #[.int 0 s.toks, .int n t, .int 1 (s.toks + 1)] })) (r.F.push _) (fun p hp => ?_) (fun p hp => Nat.ne_of_lt (Heap.lt_size (r.N p hp).1)) rfl rfl
        · exact k _ _ _ _ h.2 (r2.add (.imm (.rng h.1.1 h.1.2 List.mem_cons_self))).rel
        · rcases List.mem_cons.mp hp with rfl | hp
          · exact i03 (Heap.get?_push_size _ rfl) (Ne.symm (Nat.ne_of_lt r.F.ns.lt)) (next_is_new r.F)
          · exact ⟨Heap.get?_push_of_some _ (r.N p hp).1, (r.N p hp).2⟩
      · exact h T s _ Q E hl r k
    · exact h T s us Q E hl r k
  | _ => exact h T s us Q E hl r k
end
end Mine
end
section
open PySem PySem.W PyProof.Rows PySem.Calls PySem.Spec
set_option tactic.hygienic false
set_option maxHeartbeats 400000
namespace Mine
structure Lvl where
  ev0 : PySem.Expr → St → KV → Prop
  ts0 : PySem.Expr → St → KB → Prop
  ex0 : List Stmt → St → KF → Prop
noncomputable def High : Prop := (∀ c f vs σ P, AC c f vs σ P) ∧ (∀ c e σ P, AE c e σ P) ∧ (∀ c e σ P, AT c e σ P) ∧ (∀ c e σ P, AS c e σ P) ∧ (∀ c e σ P, AX c e σ P) ∧ (∀ v σ P, imm v σ P) ∧ (∀ v σ P, truth v σ P) ∧ (∀ c k m vs σ P, methL c k m vs σ P)
noncomputable def Lvl.ev (L : Lvl) (e : PySem.Expr) (σ : St) (P : KV) : Prop := (fun (_ : Prop) => @Lvl.rec (fun _ => Prop) (fun a _ _ => a e σ P) L) High
noncomputable def Lvl.ts (L : Lvl) (e : PySem.Expr) (σ : St) (P : KB) : Prop := (fun (_ : Prop) => @Lvl.rec (fun _ => Prop) (fun _ a _ => a e σ P) L) High
noncomputable def Lvl.ex (L : Lvl) (e : List Stmt) (σ : St) (P : KF) : Prop := (fun (_ : Prop) => @Lvl.rec (fun _ => Prop) (fun _ _ a => a e σ P) L) High
structure Lvl.Good (c : Cx) (L : Lvl) : Prop where
  ev : ∀ e σ P, L.ev e σ P → AEp c e σ P
  ts : ∀ e σ P, L.ts e σ P → AT c e σ P
  ex : ∀ e σ P, L.ex e σ P → AX c e σ P
section
variable {c : Cx} {σ : St} {T T' : List (AV × Value)} {s s' : Shared} {E : Value → Shared → Prop} {L : Lvl} {env : Env}
theorem star_cons {e : PySem.Expr} {rest : List PySem.Expr} (h : isStar e = false) : starEach (e :: rest) env = (false, eval e env) :: starEach rest env := by
  cases e <;> first | rfl | cases h
theorem star_any {pos : Pos} : ∀ {es : List PySem.Expr}, es.any isStar = false → (backTo pos (starEach es env)).any (·.1) = false ∧ (backTo pos (starEach es env)).all (!·.1) = true
  | [], _ => ⟨rfl, rfl⟩
  | e :: es, h => by
    rw [List.any_cons, Bool.or_eq_false_iff] at h
    refine x02 (star_any (pos := pos) h.2) fun h1 h2 => ?_
    rw [star_cons h.1]
    exact ⟨h1, h2⟩
theorem swaps_none {e : PySem.Expr} (h : isComp e = false) {t : Option PySem.Expr} {n : Nat} : swapsWith e t n env = pure false := by
  cases e <;> first | rfl | cases h
theorem callWith_typeE {M : Model} {A : Around} {pos : Pos} {T : String} {e : PySem.Expr} {rest : List PySem.Expr} {Q : Value → Shared → Prop}
    (h : wpAny M A (spliced (backTo pos (starEach (e :: rest) env))) (fun vs s₁ => wpAny M A (call (.type T) vs) Q E s₁) E s)
    (he : starEach (e :: rest) env = (false, eval e env) :: starEach rest env) (hplain : (backTo pos (starEach rest env)).any (·.1) = false) :
    wpAny M A (callWith pos (.type T) [] (backTo pos (starEach (e :: rest) env)) []) Q E s := by
  rw [he] at h ⊢
  exact PyProof.Rows.callWith_type (by show (false || (backTo pos (starEach rest env)).any (·.1)) = false; rw [hplain]; rfl) (evalArgs_plain h)
noncomputable def evs (L : Lvl) : List PySem.Expr → St → KL → Prop
  | [], σ, P => P [] σ
  | e :: es, σ, P => L.ev e σ fun v σ1 => evs L es σ1 fun vs σ2 => P (v :: vs) σ2
theorem evs_ok (g : L.Good c) {pos : Pos} : ∀ {es : List PySem.Expr} {σ : St} {T : List (AV × Value)} {s : Shared} {P : KL} {Q : List Value → Shared → Prop}, es.any isStar = false → PassesOwn c.M c.A c.env E → Rel c σ T s → evs L es σ P →
    (∀ vs us σ' s', P vs σ' → vs.length = us.length → vs.length = es.length → Rel c σ' (vs.zip us ++ T) s' → Q us s') → wpAny c.M c.A (spliced (backTo pos (starEach es c.env))) Q E s := by
  intro es
  induction es with
  | nil => intro σ T s P Q _ _ r h k; exact spliced_none (k [] [] σ s h rfl rfl r)
  | cons e es ih =>
    intro σ T s P Q hs hE r h k
    rw [List.any_cons, Bool.or_eq_false_iff] at hs
    refine spliced_more (g.ev _ _ _ h T s _ E hE r fun v u σ1 s1 h1 r1 => ?_) (star_cons hs.1)
    refine ih hs.2 hE r1 h1 fun vs us σ2 s2 h2 hl hl2 r2 => k (v :: vs) (u :: us) σ2 s2 h2 (congrArg (· + 1) hl) (congrArg (· + 1) hl2) (r2.sub fun t ht => ?_)
    simp only [List.zip_cons_cons, List.cons_append, List.mem_append, List.mem_cons] at ht ⊢
    rcases ht with ht | ht | ht
    · exact .inr (.inl ht)
    · exact .inl ht
    · exact .inr (.inr ht)
noncomputable def CL (c : Cx) (f : AV) (args : List PySem.Expr) (σ : St) (P : KV) : Prop :=
  ∀ pos T s u Q E, PassesOwn c.M c.A c.env E → Rel c σ ((f, u) :: T) s → Po c T P Q → wpAny c.M c.A (callWith pos u [] (backTo pos (starEach args c.env)) []) Q E s
noncomputable def more {α : Type} (l : List α) : Bool := !l.isEmpty
noncomputable def callE (L : Lvl) (c : Cx) (f : AV) (args : List PySem.Expr) (σ : St) (P : KV) : Prop := match f with
  | .fn a => cnd (isFnA a) (evs L args σ fun vs σ2 => AC c (.ref a) vs σ2 P) (CL c (.fn a) args σ P)
  | .blt b => cnd (more args) (evs L args σ fun vs σ2 => bltA c b vs σ2 P) False
  | .typ b => cnd (more args) (evs L args σ fun vs σ2 => typA c b vs σ2 P) False
  | f => CL c f args σ P
theorem more_out {α : Type} {l : List α} (h : more l = true) : ∃ x r, l = x :: r := by
  cases l with
  | nil => cases h
  | cons x r => exact ⟨x, r, rfl⟩
theorem callR_ok {a : Addr} {args : List PySem.Expr} {first : List Value} {σ : St} {Q : Value → Shared → Prop} {pos : Pos} {F : List AV → St → Prop} (g : L.Good c) (o : c.Ok2) (hs : args.any isStar = false) (hE : PassesOwn c.M c.A c.env E) (hk : keepIn (hp c.w) (.ref a) = true) (r : Rel c σ T s)
    (h : evs L args σ F) (k : ∀ vs us σ' s', F vs σ' → vs.length = us.length → Rel c σ' (vs.zip us ++ T) s' → wpAny c.M c.A (call (.ref a) (first ++ us)) Q E s') : wpAny c.M c.A (callWith pos (.ref a) first (backTo pos (starEach args c.env)) []) Q E s := by
  cases args with
  | nil =>
    refine Rel.out r fun m adr M K R r' => ?_
    exact callWith_K0 (o.X.keeps r'.F.keep) hk (k [] [] σ s h rfl r)
  | cons e es =>
    have hs' := hs
    rw [List.any_cons, Bool.or_eq_false_iff] at hs'
    refine callWith_K o.X hk (evs_ok g hs hE r h fun vs us σ' s' h' hl _ r' => ⟨?_, k vs us σ' s' h' hl r'⟩) (star_cons hs'.1) (star_any hs'.2).1
    refine Rel.out r' fun m adr M K R r' => ?_
    exact o.X.keeps r'.F.keep
theorem callE_ok {f : AV} {u : Value} {args : List PySem.Expr} {σ : St} {P : KV} {Q : Value → Shared → Prop} {pos : Pos} (g : L.Good c) (o : c.Ok2) (hs : args.any isStar = false) (hE : PassesOwn c.M c.A c.env E) (r : Rel c σ ((f, u) :: T) s)
    (h : callE L c f args σ P) (k : Po c T P Q) : wpAny c.M c.A (callWith pos u [] (backTo pos (starEach args c.env)) []) Q E s := by
  have r0 : Rel c σ T s := r.drop
  cases f with
  | fn a =>
    rcases cond_f h with ⟨hf, h⟩ | ⟨_, h⟩
    · obtain rfl := r.fn List.mem_cons_self
      exact callR_ok g o hs hE (fns_ok c.w a (isFnA_mem hf)) r0 h fun vs us σ' s' h' hl r' => h' T s' us Q E hl r' k
    · exact h pos T s u Q E hE r k
  | blt b =>
    obtain rfl := r.blt List.mem_cons_self
    refine x02 (cond_t h) fun hm h => ?_
    refine x21 (more_out hm) fun e es e91 => ?_
    obtain rfl := e91
    have hs' := hs
    rw [List.any_cons, Bool.or_eq_false_iff] at hs'
    exact PyProof.Rows.callWith_builtin1 (evs_ok g hs hE r0 h fun vs us σ' s' h' hl _ r' => bltA_ok o r' hl h' k) (star_cons hs'.1) (star_any hs'.2).1
  | typ b =>
    obtain rfl := r.typ List.mem_cons_self
    refine x02 (cond_t h) fun hm h => ?_
    refine x21 (more_out hm) fun e es e92 => ?_
    obtain rfl := e92
    have hs' := hs
    rw [List.any_cons, Bool.or_eq_false_iff] at hs'
    exact callWith_typeE (evs_ok g hs hE r0 h fun vs us σ' s' h' hl _ r' => typA_ok r' hl h' k) (star_cons hs'.1) (star_any hs'.2).1
  | _ => exact h pos T s u Q E hE r k
noncomputable abbrev cellK (v : AV) (P : Nat → Prop) (D : Prop) : Prop := match v with
  | .cell k => P k
  | _ => D
noncomputable def methE (L : Lvl) (c : Cx) (v : AV) (x : Str) (args : List PySem.Expr) (σ : St) (P : KV) : Prop :=
  optL (v.ins σ) (fun q => optL (lk x q.2) (fun _ => False) (optL (lk x (lkN q.1 meths)) (fun f => evs L args σ fun vs σ2 => AC c (.ref f) (v :: vs) σ2 P) False))
    (cellK v (fun k => optL (σ.cs[k]?.bind Cell.list?) (fun _ => optL (lk x mtab) (fun m => evs L args σ fun vs σ2 => methL c k m vs σ2 P) False) False) False)
theorem methCall_ {x name : Str} {px apos pos : Pos} {args : List PySem.Expr} {Q : Value → Shared → Prop} (hs : args.any isStar = false) (hn : Nat.ble args.length 20 = true) (hp : (apos.endLine == pos.line) = true)
    (h : wpAny c.M c.A (eval (.Name x px) c.env) (fun ov s₁ => ∀ pl, wpAny c.M c.A (getMethod ov name pl) (fun fx s₂ => wpAny c.M c.A (callWith pos fx.1 fx.2 (backTo pos (starEach args c.env)) []) Q E s₂) E s₁) E s) :
    wpAny c.M c.A (eval (.Call (.Attribute (.Name x px) name apos) args [] pos) c.env) Q E s := by
  have hm : methodCallForm (args.length + ([] : List Keyword).length) (backTo pos (starEach args c.env)) (backToKw pos (keywordEach [] c.env)) = true := by
    unfold methodCallForm
    rw [(star_any hs).2]
    have := Nat.le_of_ble_eq_true hn
    show (true && true && decide (args.length + 0 + 0 < 30)) = true
    simp; omega
  show wpAny c.M c.A (do
    let ov ← eval (.Name x px) c.env
    standAt apos.atName
    methodCall (.Name x px) name apos pos c.env ov (args.length + ([] : List Keyword).length) (backTo pos (starEach args c.env)) (backToKw pos (keywordEach [] c.env))) Q E s
  refine wpAny_bind (wpAny_mono h (fun ov s₁ h₁ => wpAny_bind (wpAny_standAt ?_)) fun _ _ x => x)
  unfold methodCall
  rw [hm]
  unfold calleeOf methodCallPos
  rw [if_pos rfl, hp]
  refine wpAny_bind (wpAny_holding (wpAny_mono (h₁ _) (fun fx s₂ h₂ => ?_) fun _ _ x => x))
  exact wpAny_bind (wpAny_pure h₂)
theorem getNone {w : World} {R : Led} {x : Str} {fs es} (h : Rf w R fs es) (e : lk x fs = none) : getL x es = some none := by
  refine x02 (h.getNone e) fun h1 h2 => ?_
  unfold getL
  rw [h1]
  dsimp only
  rw [h2]
  rfl
theorem zip_pull {v : AV} {u : Value} {vs : List AV} {us : List Value} : ∀ t ∈ (v :: vs).zip (u :: us) ++ T, t ∈ vs.zip us ++ ((v, u) :: T) := by
  intro t ht
  rcases List.mem_append.mp ht with ht | ht
  · rcases List.mem_cons.mp ht with ht | ht
    · exact List.mem_append_right _ (ht ▸ List.mem_cons_self)
    · exact List.mem_append_left _ ht
  · exact List.mem_append_right _ (List.mem_cons_of_mem _ ht)
theorem methE_ok {v : AV} {u : Value} {x : Str} {args : List PySem.Expr} {σ : St} {P : KV} {Q : Value → Shared → Prop} {pos : Pos} {pl : Sem Bool} (g : L.Good c) (o : c.Ok2) (hs : args.any isStar = false) (hE : PassesOwn c.M c.A c.env E) (r : Rel c σ ((v, u) :: T) s)
    (h : methE L c v x args σ P) (k : Po c T P Q) : wpAny c.M c.A (getMethod u x pl) (fun fx s₂ => wpAny c.M c.A (callWith pos fx.1 fx.2 (backTo pos (starEach args c.env)) []) Q E s₂) E s := by
  rcases optL_or h with ⟨⟨C, fs⟩, e, h⟩ | h
  · have h : optL (lk x fs) (fun _ => False) (optL (lk x (lkN C meths)) (fun f => evs L args σ fun vs σ2 => AC c (.ref f) (v :: vs) σ2 P) False) := h
    cases e0 : lk x fs with
    | some w => rw [e0] at h; exact (show False from h).elim
    | none =>
      rw [e0] at h
      refine x12 (optL_out h) fun f e1 h => ?_
      refine Rel.out r fun m adr M K R r' => ?_
      refine r'.instV (Q := fun u => Rel c σ ((v, u) :: T) s → wpAny c.M c.A (getMethod u x pl) (fun fx s₂ => wpAny c.M c.A (callWith pos fx.fst fx.snd (backTo pos (starEach args c.env)) []) Q E s₂) E s) List.mem_cons_self e (fun a d es n I z hf r => ?_) r
      refine x04 (meth_ok c.w e1) fun m1 m2 m3 m4 => ?_
      refine method_inst r'.F o.X I m1 m2 m3 (getNone hf e0) ?_
      exact callR_ok (first := [.ref a]) g o hs hE m4 r h fun vs us σ' s' h' hl r2 => h' T s' (.ref a :: us) Q E (congrArg (· + 1) hl) (r2.sub zip_pull) k
  · cases v with
    | cell k' =>
      refine x12 (optL_out h) fun l e h => ?_
      refine x12 (optL_out h) fun mn e1 h => ?_
      refine Rel.out r fun m adr M K R r' => ?_
      refine r'.listV (Q := fun u => Rel c σ ((AV.cell k', u) :: T) s → wpAny c.M c.A (getMethod u x pl) (fun fx s₂ => wpAny c.M c.A (callWith pos fx.fst fx.snd (backTo pos (starEach args c.env)) []) Q E s₂) E s) List.mem_cons_self e (fun a vs n rest hl z g3 _ _ r => ?_) r
      have hx := lk_mem e1
      have leaf : ∀ {m : Mn} {vs : List AV} {us : List Value} {σ' : St} {s' : Shared}, AC c (.builtin m.id) (.cell k' :: vs) σ' P → vs.length = us.length → Rel c σ' (vs.zip us ++ ((.cell k', .ref a) :: T)) s' → wpAny c.M c.A (call (.builtin m.id) (.ref a :: us)) Q E s' :=
        fun h' hl r2 => h' T _ _ Q E (congrArg (· + 1) hl) (r2.sub zip_pull) k
      unfold mtab at hx
      simp only [List.mem_cons, Prod.mk.injEq, List.not_mem_nil, or_false] at hx
      rcases hx with ⟨rfl, rfl⟩ | ⟨rfl, rfl⟩ | ⟨rfl, rfl⟩
      · refine listMethod_K g3 List.mem_cons_self PySem.F.slot_list_append PySem.F.type_list_append ?_
        cases args with
        | nil => exact (show False from h).elim
        | cons e es =>
          have hs' := hs
          rw [List.any_cons, Bool.or_eq_false_iff] at hs'
          refine PyProof.Rows.callWith_method1 (evs_ok g hs hE r h fun vs us σ' s' h' hl _ r2 => ?_) (star_cons hs'.1) (star_any hs'.2).1
          rcases arg1_out h' with ⟨y, rfl, h'⟩ | h'
          · refine x11 (us1 hl) fun u e95 => ?_
            obtain rfl := e95
            exact append_ok r2 h' k
          · exact h'.elim
      · refine getMethod_pop_N g3 List.mem_cons_self ?_ rfl rfl
        cases args with
        | nil => exact PyProof.Rows.callWith_method0 (pop_ok r h k)
        | cons e es =>
          have hs' := hs
          rw [List.any_cons, Bool.or_eq_false_iff] at hs'
          refine PyProof.Rows.callWith_method1 (evs_ok g hs hE r h fun vs us σ' s' h' hl hl2 r2 => ?_) (star_cons hs'.1) (star_any hs'.2).1
          cases vs with
          | nil => cases hl2
          | cons v vs => exact (show False from h').elim
      · refine listMethod_K g3 List.mem_cons_self PySem.F.slot_list_extend PySem.F.type_list_extend ?_
        cases args with
        | nil => exact PyProof.Rows.callWith_method0 (leaf (m := .extend) (vs := []) (us := []) h rfl r)
        | cons e es =>
          have hs' := hs
          rw [List.any_cons, Bool.or_eq_false_iff] at hs'
          exact PyProof.Rows.callWith_method1 (evs_ok g hs hE r h fun vs us σ' s' h' hl hl2 r2 => leaf (m := .extend) h' hl r2) (star_cons hs'.1) (star_any hs'.2).1
    | _ => exact h.elim
noncomputable def boolA (L : Lvl) (op : BoolOp) : List PySem.Expr → St → KV → Prop
  | [], _, _ => False
  | e :: r, σ, P => L.ev e σ fun v σ1 => (match r with
    | [] => P v σ1
    | _ :: _ => truth v σ1 fun b => (match op with
      | .And => Br b (boolA L op r σ1 P) (P v σ1)
      | .Or => Br b (P v σ1) (boolA L op r σ1 P)))
noncomputable def allA (L : Lvl) (op : BoolOp) : List PySem.Expr → St → KB → Prop
  | [], σ, P => P (match op with | .And => true | .Or => false) σ
  | e :: r, σ, P => L.ts e σ fun b σ1 => (match op with
    | .And => Br b (allA L op r σ1 P) (P false σ1)
    | .Or => Br b (P true σ1) (allA L op r σ1 P))
noncomputable def constA (c : Cx) (e : PySem.Expr) (k : Const) (σ : St) (P : KV) : Prop := match k with
  | .int i => P (.int i) σ
  | .str u => P (.str u) σ
  | .bool b => P (.bool b) σ
  | .none => P .none σ
  | _ => AE c e σ P
noncomputable abbrev nameK (e : PySem.Expr) (P : Str → Pos → Prop) (D : Prop) : Prop := match e with
  | .Name x p => P x p
  | _ => D
theorem nameK_out {e : PySem.Expr} {P : Str → Pos → Prop} {D : Prop} (h : nameK e P D) : (∃ x p, e = .Name x p ∧ P x p) ∨ D := by
  cases e with
  | Name x p => exact .inl ⟨x, p, rfl, h⟩
  | _ => exact .inr h
noncomputable def isNS (e : PySem.Expr) : Bool := match e with
  | .Name .. => true
  | .Subscript .. => true
  | _ => false
noncomputable def callX (L : Lvl) (c : Cx) (e f : PySem.Expr) (args : List PySem.Expr) (kws : List Keyword) (pos : Pos) (σ : St) (P : KV) : Prop := match f with
  | .Name y p => cnd (more kws || args.any isStar) (AE c e σ P) (L.ev (.Name y p) σ fun f σ1 => callE L c f args σ1 P)
  | .Attribute a x apos => nameK a (fun y p => cnd (more kws || (args.any isStar || !(apos.endLine == pos.line) || !Nat.ble args.length 20)) (AE c e σ P) (L.ev (.Name y p) σ fun v σ1 => methE L c v x args σ1 P)) (AE c e σ P)
  | _ => AE c e σ P
noncomputable def unA (c : Cx) (L : Lvl) (e : PySem.Expr) (op : UnaryOp) (x : PySem.Expr) (σ : St) (P : KV) : Prop := match op with
  | .Not => L.ev x σ fun v σ1 => truth v σ1 fun b => P (.bool (!b)) σ1
  | .USub => L.ev x σ fun v σ1 => int1 v (fun i => P (.int (-i)) σ1) False
  | _ => AE c e σ P
noncomputable def evA (c : Cx) (L : Lvl) (e : PySem.Expr) (σ : St) (P : KV) : Prop := match e with
  | .Name x pos => nameA c x pos σ P
  | .Constant k _ _ => constA c e k σ P
  | .Tuple es _ _ => cnd (es.any isStar || Nat.ble 1000 es.length) (AE c e σ P) (evs L es σ fun vs σ1 => imms vs σ1 fun vs' σ2 => P (.tup vs') σ2)
  | .List es _ => cnd (es.any isStar || Nat.ble 1000 es.length) (AE c e σ P) (evs L es σ fun vs σ1 => imms vs σ1 fun vs' σ2 => P (.cell σ2.cs.length) (σ2.push (.list vs')))
  | .Attribute a x _ => cnd (isNS a) (L.ev a σ fun v σ1 => attrA v x σ1 P) (AE c e σ P)
  | .Call f args kws pos => callX L c e f args kws pos σ P
  | .BinOp a op b _ => L.ev a σ fun x σ1 => L.ev b σ1 fun y σ2 => binA c op x y σ2 P
  | .Compare a ops bs _ => arg1 ops (fun op => arg1 bs (fun b => cnd (isSet b) (AE c e σ P) (L.ev a σ fun x σ1 => L.ev b σ1 fun y σ2 => cmpA c op x y σ2 P)) (AE c e σ P)) (AE c e σ P)
  | .BoolOp op es _ => boolA L op es σ P
  | .UnaryOp op x _ => unA c L e op x σ P
  | .IfExp t a b _ => L.ts t σ fun q σ1 => Br q (L.ev a σ1 P) (L.ev b σ1 P)
  | .Subscript a i _ => cnd (isSlice i) (AE c e σ P) (L.ev a σ fun x σ1 => L.ev i σ1 fun y σ2 => subA c x y σ2 P)
  | e => AE c e σ P
noncomputable def kTr (P : KB) : KV := fun v σ => (fun (_ : Prop) => truth v σ fun b => P b σ) High
noncomputable def tsN (c : Cx) (L : Lvl) (e : PySem.Expr) (op : UnaryOp) (x : PySem.Expr) (σ : St) (P : KB) : Prop := match op with
  | .Not => L.ts x σ fun b σ1 => P (!b) σ1
  | _ => AT c e σ P
noncomputable def tsA (c : Cx) (L : Lvl) (e : PySem.Expr) (σ : St) (P : KB) : Prop := match e with
  | .UnaryOp op x _ => tsN c L e op x σ P
  | .BoolOp op es _ => allA L op es σ P
  | .Compare a ops bs _ => arg1 ops (fun op => arg1 bs (fun b => cnd (isSet b) (AT c e σ P) (L.ev a σ fun x σ1 => L.ev b σ1 fun y σ2 => cmpA c op x y σ2 (kTr P))) (AT c e σ P)) (AT c e σ P)
  | .Name .. => L.ev e σ (kTr P)
  | .Call .. => L.ev e σ (kTr P)
  | .Attribute .. => L.ev e σ (kTr P)
  | .Subscript .. => L.ev e σ (kTr P)
  | .Constant .. => L.ev e σ (kTr P)
  | e => AT c e σ P
theorem boolA_ok (g : L.Good c) {op : BoolOp} {pos : Pos} {es : List PySem.Expr} : ∀ {σ : St} {P : KV}, boolA L op es σ P → AEp c (.BoolOp op es pos) σ P := by
  induction es with
  | nil => intro σ P h; exact h.elim
  | cons e r ih =>
    intro σ P h T s Q E hE r0 k
    unfold boolA at h
    cases r with
    | nil => exact BoolOp_one (g.ev _ _ _ h T s Q E hE r0 k)
    | cons e2 r2 =>
      cases op with
      | And =>
        refine BoolOp_and (g.ev _ _ _ h T s _ E hE r0 fun v u σ1 s1 h1 r1 => ?_)
        refine truth_ok (r1.sub (T' := (v, u) :: (v, u) :: T) fun t ht => (List.mem_cons.mp ht).elim (fun e => e ▸ List.mem_cons_self) id) (P := fun b σ1 => Br b (boolA L .And (e2 :: r2) σ1 P) (P v σ1)) h1 ?_
        intro b σ2 s2 h2 r2
        cases b with
        | true => exact ih (h2.1 rfl) T s2 Q E hE r2.drop k
        | false => exact k _ _ _ _ (h2.2 rfl) r2
      | Or =>
        refine BoolOp_or (g.ev _ _ _ h T s _ E hE r0 fun v u σ1 s1 h1 r1 => ?_)
        refine truth_ok (r1.sub (T' := (v, u) :: (v, u) :: T) fun t ht => (List.mem_cons.mp ht).elim (fun e => e ▸ List.mem_cons_self) id) (P := fun b σ1 => Br b (P v σ1) (boolA L .Or (e2 :: r2) σ1 P)) h1 ?_
        intro b σ2 s2 h2 r2
        cases b with
        | true => exact k _ _ _ _ (h2.1 rfl) r2
        | false => exact ih (h2.2 rfl) T s2 Q E hE r2.drop k
theorem allA_ok (g : L.Good c) {op : BoolOp} {pos : Pos} {es : List PySem.Expr} : ∀ {σ : St} {P : KB} {whole : Sem Value} {T s Q} {E : Value → Shared → Prop}, allA L op es σ P → PassesOwn c.M c.A c.env E → Rel c σ T s → PoB c T P Q → wpAny c.M c.A (isTrue (.BoolOp op es pos) c.env whole) Q E s := by
  induction es with
  | nil =>
    intro σ P whole T s Q E h hE r0 k
    cases op with
    | And => exact isTrue_and_nil (k _ _ _ h r0)
    | Or => exact isTrue_or_nil (k _ _ _ h r0)
  | cons e r ih =>
    intro σ P whole T s Q E h hE r0 k
    unfold allA at h
    cases op with
    | And =>
      refine isTrue_and (g.ts _ _ _ h T s _ E hE r0 fun b σ1 s1 h1 r1 => ?_)
      cases b with
      | true => exact ih (h1.1 rfl) hE r1 k
      | false => exact k _ _ _ (h1.2 rfl) r1
    | Or =>
      refine isTrue_or (g.ts _ _ _ h T s _ E hE r0 fun b σ1 s1 h1 r1 => ?_)
      cases b with
      | true => exact k _ _ _ (h1.1 rfl) r1
      | false => exact ih (h1.2 rfl) hE r1 k
theorem set_marks {op : CmpOp} {b : PySem.Expr} (h : isSet b = false) : behindInMarks op b = false := by
  cases b <;> first | rfl | cases h
theorem attr_form {a : PySem.Expr} {x : Str} {pos : Pos} (h : isNS a = true) : eval (.Attribute a x pos) env = (do
      let o ← eval a env
      standAt pos.atName
      let r ← holding [o] (getAttr o x true)
      letTemporaryGo a o r
      return r) := by
  cases a <;> first | rfl | cases h
theorem not_more {α : Type} {l : List α} (h : more l = false) : l = [] := by
  cases l with
  | nil => rfl
  | cons => cases h
theorem zip_off {vs vs' : List AV} {us : List Value} : ∀ t ∈ vs'.zip us ++ T, t ∈ vs'.zip us ++ (vs.zip us ++ T) := by
  intro t ht
  rcases List.mem_append.mp ht with ht | ht
  · exact List.mem_append_left _ ht
  · exact List.mem_append_right _ (List.mem_append_right _ ht)
theorem lt1000 {n : Nat} (h : Nat.ble 1000 n = false) : n ≤ 1000 := by
  have : ¬ 1000 ≤ n := fun q => by have := Nat.ble_eq_true_of_le q; rw [h] at this; cases this
  omega
theorem evA_ok (g : L.Good c) (o : c.Ok2) {e : PySem.Expr} {σ : St} {P : KV} (h : evA c L e σ P) : AEp c e σ P := by
  cases e with
  | Name => exact nameA_ok o h
  | Constant k n pos =>
    cases k with
    | int => intro T s Q E hE r k; exact wpAny_Constant_int (k _ _ _ _ h ((r.tok _).imm fun _ => .int))
    | str => intro T s Q E hE r k; exact wpAny_Constant_str (k _ _ _ _ h ((r.tok _).imm fun _ => .str))
    | bool => intro T s Q E hE r k; exact Constant_bool (k _ _ _ _ h (r.imm fun _ => .bool))
    | none => intro T s Q E hE r k; exact Constant_none (k _ _ _ _ h (r.imm fun _ => .none))
    | _ => exact h.ap
  | Tuple es =>
    rcases cond_f h with ⟨_, h⟩ | ⟨hc, h⟩
    · exact h.ap
    rw [Bool.or_eq_false_iff] at hc
    intro T s Q E hE r k
    refine Tuple_ (evs_ok g hc.1 hE r h fun vs us σ' s' h' hl hl2 r' => ?_)
    refine x24 (imms_ok r' (fun t ht => List.mem_append_left _ ht) hl h') fun vs' σ2 h2 r2 n2 l2 => ?_
    have hz := lt1000 hc.2
    exact mkTuple_ok (r2.sub zip_off) l2 n2 (by omega) h2 k
  | List es =>
    rcases cond_f h with ⟨_, h⟩ | ⟨hc, h⟩
    · exact h.ap
    rw [Bool.or_eq_false_iff] at hc
    intro T s Q E hE r k
    refine List_ (evs_ok g hc.1 hE r h fun vs us σ' s' h' hl hl2 r' => ?_)
    refine x24 (imms_ok r' (fun t ht => List.mem_append_left _ ht) hl h') fun vs' σ2 h2 r2 n2 l2 => ?_
    have hz := lt1000 hc.2
    exact mkList_ok (r2.sub zip_off) l2 n2 (by omega) h2 k
  | Attribute a x pos =>
    rcases cond_f h with ⟨hc, h⟩ | ⟨_, h⟩
    · intro T s Q E hE r k
      exact Attribute_any_ (g.ev _ _ _ h T s _ E hE r fun v u σ1 s1 h1 r1 => attrA_ok o r1 h1 k) (attr_form hc)
    · exact h.ap
  | Call f args kws pos =>
    cases f with
    | Name y p =>
      rcases cond_f h with ⟨_, h⟩ | ⟨hc, h1⟩
      · exact h.ap
      clear h
      refine x02 (Bool.or_eq_false_iff.mp hc) fun hk hc1 => ?_
      clear hc
      obtain rfl := not_more hk
      intro T s Q E hE r k
      exact Call_ (g.ev _ _ _ h1 T s _ E hE r fun v u σ1 s1 h1 r1 => callE_ok g o hc1 hE r1 h1 k) rfl
    | Attribute a x apos =>
      rcases nameK_out h with ⟨y, p, rfl, h⟩ | h
      · rcases cond_f h with ⟨_, h⟩ | ⟨hc0, h1⟩
        · exact h.ap
        clear h
        refine x02 (Bool.or_eq_false_iff.mp hc0) fun hk hc => ?_
        clear hc0
        obtain rfl := not_more hk
        rw [Bool.or_eq_false_iff, Bool.or_eq_false_iff, Bool.not_eq_false', Bool.not_eq_false'] at hc
        intro T s Q E hE r k
        exact methCall_ hc.1.1 hc.2 hc.1.2 (g.ev _ _ _ h1 T s _ E hE r fun v u σ1 s1 h1 r1 pl => methE_ok g o hc.1.1 hE r1 h1 k)
      · exact h.ap
    | _ => exact h.ap
  | BinOp =>
    intro T s Q E hE r k
    exact wpAny_BinOp (g.ev _ _ _ h T s _ E hE r fun v u σ1 s1 h1 r1 => g.ev _ _ _ h1 _ s1 _ E hE r1 fun v2 u2 σ2 s2 h2 r2 => binA_ok r2 h2 k)
  | Compare a ops bs pos =>
    rcases arg1_out h with ⟨op, rfl, h⟩ | h
    · rcases arg1_out h with ⟨b, rfl, h⟩ | h
      · rcases cond_f h with ⟨_, h⟩ | ⟨hc, h⟩
        · exact h.ap
        intro T s Q E hE r k
        exact wpAny_Compare1 (g.ev _ _ _ h T s _ E hE r fun v u σ1 s1 h1 r1 => g.ev _ _ _ h1 _ s1 _ E hE r1 fun v2 u2 σ2 s2 h2 r2 => cmpA_ok r2 h2 k) (set_marks hc)
      · exact h.ap
    · exact h.ap
  | BoolOp => exact boolA_ok g h
  | UnaryOp op x pos =>
    cases op with
    | Not =>
      intro T s Q E hE r k
      refine UnaryOp_ (g.ev _ _ _ h T s _ E hE r fun v u σ1 s1 h1 r1 => not_of ?_)
      exact truth_ok r1 (P := fun b σ1 => P (.bool (!b)) σ1) h1 fun b σ2 s2 h2 r2 => k _ _ _ _ h2 (r2.imm fun _ => .bool)
    | USub =>
      intro T s Q E hE r k
      refine UnaryOp_ (g.ev _ _ _ h T s _ E hE r fun v u σ1 s1 h1 r1 => ?_)
      refine x23 ((int1_ok r1 h1).elim id False.elim) fun i t e96 e97 h2 => ?_
      obtain rfl := e96
      obtain rfl := e97
      exact PyProof.Rows.neg_int (k _ _ _ _ h2 ((r1.drop.tok _).imm fun _ => .int))
    | _ => exact h.ap
  | IfExp =>
    intro T s Q E hE r k
    refine IfExp_ (g.ts _ _ _ h T s _ E hE r fun b σ1 s1 h1 r1 => ?_)
    cases b with
    | true => exact g.ev _ _ _ (h1.1 rfl) T s1 Q E hE r1 k
    | false => exact g.ev _ _ _ (h1.2 rfl) T s1 Q E hE r1 k
  | Subscript a i pos =>
    rcases cond_f h with ⟨_, h⟩ | ⟨hc, h⟩
    · exact h.ap
    intro T s Q E hE r k
    exact Subscript_ (g.ev _ _ _ h T s _ E hE r fun v u σ1 s1 h1 r1 => g.ev _ _ _ h1 _ s1 _ E hE r1 fun v2 u2 σ2 s2 h2 r2 => subA_ok hc r2 h2 k)
  | _ => exact h.ap
theorem kTr_ok {P : KB} {Q : Bool → Shared → Prop} (k : PoB c T P Q) : Po c T (kTr P) fun v s => wpAny c.M c.A (truthy v) Q E s := fun v u σ s h r => truth_ok r h k
theorem tsP {e : PySem.Expr} {σ : St} {P : KB} (g : L.Good c) (h : L.ev e σ (kTr P)) (he : ∀ whole : Sem Value, isTrue e c.env whole = (do let v ← whole; standAt e.pos; holding [v] (truthy v))) : AT c e σ P := by
  intro T s Q E hE r k
  exact isTrue_plain (g.ev _ _ _ h T s _ E hE r (kTr_ok k)) (he _)
theorem tsA_ok (g : L.Good c) {e : PySem.Expr} {σ : St} {P : KB} (h : tsA c L e σ P) : AT c e σ P := by
  cases e with
  | UnaryOp op x pos =>
    cases op with
    | Not =>
      intro T s Q E hE r k
      exact isTrue_not (g.ts _ _ _ h T s _ E hE r fun b σ1 s1 h1 r1 => k _ _ _ h1 r1)
    | _ => exact h
  | BoolOp => intro T s Q E hE r k; exact allA_ok g h hE r k
  | Compare a ops bs pos =>
    rcases arg1_out h with ⟨op, rfl, h⟩ | h
    · rcases arg1_out h with ⟨b, rfl, h⟩ | h
      · rcases cond_f h with ⟨_, h⟩ | ⟨hc, h⟩
        · exact h
        intro T s Q E hE r k
        exact wpAny_isTrue_Compare1 (g.ev _ _ _ h T s _ E hE r fun v u σ1 s1 h1 r1 => g.ev _ _ _ h1 _ s1 _ E hE r1 fun v2 u2 σ2 s2 h2 r2 => cmpA_ok r2 h2 (kTr_ok k)) (set_marks hc)
      · exact h
    · exact h
  | Name => exact tsP g h fun _ => rfl
  | Call => exact tsP g h fun _ => rfl
  | Attribute => exact tsP g h fun _ => rfl
  | Subscript => exact tsP g h fun _ => rfl
  | Constant => exact tsP g h fun _ => rfl
  | _ => exact h
end
end Mine
end
section
open PySem PySem.W PyProof.Rows PySem.Calls PySem.Spec
set_option tactic.hygienic false
set_option maxHeartbeats 400000
namespace Mine
section
variable {c : Cx} {σ : St} {T T' : List (AV × Value)} {s s' : Shared} {E : Value → Shared → Prop} {L : Lvl} {env : Env}
theorem wpAny_bindName9 {M : Model} {A : Around} {x : Str} {v : Value} {Q : Unit → Shared → Prop} (h : wpAny M A (storeName env x v) Q E s) : wpAny M A (bindName env x v) Q E s := fun Γ p hΓ => by
  rw [Sem.wp_bindName]; exact h Γ p hΓ
noncomputable def storesN (c : Cx) : List Str → List AV → St → (St → Prop) → Prop
  | [], vs, σ, P => arg0 vs (P σ) False
  | x :: ts, vs, σ, P => @List.rec _ (fun _ => Prop) False (fun v vs _ => storeA c x v σ fun σ1 => storesN c ts vs σ1 P) vs
noncomputable def namesOf : List PySem.Expr → Option (List Str)
  | [] => some []
  | e :: r => (match e with
    | .Name x _ => (namesOf r).map (x :: ·)
    | _ => none)
theorem nm_out {α : Type} {e : PySem.Expr} {g : Str → Option α} {a : α} (h : (match e with | .Name x _ => g x | _ => none) = some a) : ∃ x p, e = .Name x p ∧ g x = some a := by
  cases e with
  | Name x p => exact ⟨x, p, rfl, h⟩
  | _ => cases h
theorem namesOf_cons {t : PySem.Expr} {ts : List PySem.Expr} {xs : List Str} (h : namesOf (t :: ts) = some xs) : ∃ x p ys, t = .Name x p ∧ namesOf ts = some ys ∧ xs = x :: ys :=
  (nm_out (g := fun x => (namesOf ts).map (x :: ·)) h).elim fun x h => h.elim fun p h => (Option.map_eq_some_iff.mp h.2).elim fun ys h2 => ⟨x, p, ys, h.1, h2.1, h2.2.symm⟩
noncomputable def storesA (c : Cx) (ts : List PySem.Expr) (vs : List AV) (σ : St) (P : St → Prop) : Prop := optL (namesOf ts) (fun xs => storesN c xs vs σ P) False
theorem tupNone {elts : List PySem.Expr} {k : Nat} {tpos : Pos} {value : PySem.Expr} (h : isTupE value = false) : swappedStores [.Tuple elts k tpos] value env = pure none := by
  cases value <;> first | rfl | cases h
inductive Lk (c : Cx) : List (Value → Sem Unit) → List Str → Prop
  | nil : Lk c [] []
  | cons {f x fs xs} : (∀ u Q E s, wpAny c.M c.A (storeName c.env x u) Q E s → wpAny c.M c.A (f u) Q E s) → Lk c fs xs → Lk c (f :: fs) (x :: xs)
theorem Lk.bind : ∀ {xs : List Str}, Lk c (xs.map fun n => bindName c.env n) xs := by
  intro xs
  induction xs with
  | nil => exact .nil
  | cons x xs ih => exact .cons (fun u Q E s h => wpAny_bindName9 h) ih
theorem storesN_ok (o : c.Ok2) {fs : List (Value → Sem Unit)} {xs : List Str} (hL : Lk c fs xs) : ∀ {vs : List AV} {us : List Value} {σ : St} {T : List (AV × Value)} {s : Shared} {P : St → Prop} {Q : Unit → Shared → Prop}, storesN c xs vs σ P → vs.length = us.length → Rel c σ (vs.zip us ++ T) s → PoU c T P Q →
    wpAny c.M c.A (assignInOrder fs us) Q E s := by
  induction hL with
  | nil =>
    intro vs us σ T s P Q h hl r k
    rcases arg0_out h with ⟨rfl, h⟩ | h
    · rw [List.length_eq_zero_iff.mp hl.symm] at r ⊢
      exact wpAny_pure (k _ _ h r)
    · exact h.elim
  | cons hf _ ih =>
    intro vs us σ T s P Q h hl r k
    cases vs with
    | nil => exact (show False from h).elim
    | cons v vs => cases us with
      | nil => cases hl
      | cons u us =>
        exact wpAny_assignInOrder_more (hf _ _ _ _ (storeA_ok (T := vs.zip us ++ T) o r (show storeA c _ v σ (fun σ1 => storesN c _ vs σ1 P) from h) fun σ1 s1 h1 r1 => ih h1 (Nat.succ.inj hl) r1 k))
theorem storesN_len {xs : List Str} : ∀ {vs : List AV} {σ : St} {P : St → Prop}, storesN c xs vs σ P → vs.length = xs.length := by
  induction xs with
  | nil =>
    intro vs σ P h
    rcases arg0_out h with ⟨rfl, _⟩ | h
    · rfl
    · exact h.elim
  | cons x xs ih =>
    intro vs σ P h
    cases vs with
    | nil => exact (show False from h).elim
    | cons v vs => exact congrArg (· + 1) (ih (cond_t (show storeA c x v σ (fun σ1 => storesN c xs vs σ1 P) from h)).2)
theorem namesOf_out {ts : List PySem.Expr} : ∀ {xs : List Str}, namesOf ts = some xs → (assignEach ts c.env).length = xs.length ∧ (assignEach ts c.env).findIdx? (·.1) = none ∧ Lk c ((assignEach ts c.env).map (·.2)) xs := by
  induction ts with
  | nil => intro xs e; cases e; exact ⟨rfl, rfl, .nil⟩
  | cons t ts ih =>
    intro xs e
    refine x33 (namesOf_cons e) fun x p xs' e2 e1 e91 => ?_
    obtain rfl := e91
    obtain rfl := e2
    refine x03 (ih e1) fun h1 h2 h3 => ?_
    refine i03 (congrArg (· + 1) h1) ?_ (.cons (f := fun u => assign (.Name x p) c.env u) (fun u Q E s h => wpAny_assign_Name h) h3)
    show List.findIdx? _ ((false, assign (.Name x p) c.env) :: assignEach ts c.env) = none
    rw [List.findIdx?_cons, h2]; rfl
theorem Rl.zip {w : World} {R : Led} {l : List AV} : ∀ {vs : List Value}, Rl w R l vs → ∀ t ∈ l.zip vs, Ri w R t.1 t.2 := by
  induction l with
  | nil => intro vs _ t h; cases h
  | cons x l ih =>
    intro vs z t h
    cases z with
    | cons a b => exact (List.mem_cons.mp h).elim (fun e => e ▸ a) (ih b t)
theorem setL_eq {v : Value} {l : List Value} : ∀ {k : Nat}, k < l.length → ki_setL l k v = some (l.set k v) := by
  induction l with
  | nil => intro k h; cases h
  | cons x r ih =>
    intro k h
    cases k with
    | zero => rfl
    | succ k =>
      unfold ki_setL
      rw [ih (Nat.lt_of_succ_lt_succ h)]; rfl
noncomputable def unpA (c : Cx) (ts : List PySem.Expr) (v : AV) (σ : St) (P : St → Prop) : Prop := match v with
  | .tup l => storesA c ts l σ P
  | _ => False
theorem unpA_ok (o : c.Ok2) {ts : List PySem.Expr} {k9 : Nat} {p9 : Pos} {v : AV} {u : Value} {P : St → Prop} {Q : Unit → Shared → Prop} (r : Rel c σ ((v, u) :: T) s) (h : unpA c ts v σ P) (k : PoU c T P Q) : wpAny c.M c.A (assign (.Tuple ts k9 p9) c.env u) Q E s := by
  cases v with
  | tup l =>
    refine Rel.out r fun m adr M K R r => ?_
    have hv := r.ri List.mem_cons_self rfl
    refine x12 (optL_out (show optL (namesOf ts) (fun xs => storesN c xs l σ P) False from h)) fun xs ex h => ?_
    refine x03 (namesOf_out (c := c) ex) fun e1 e2 e3 => ?_
    cases hv with
    | @tup _ vs a hm hl =>
      refine unpackN_ r.F r.N (News.isTup r.N (r.still? hm)) rfl (by rw [e1, List.size_toArray, hl.len, storesN_len h]) e2 fun h' F' N' => ?_
      have r2 : RelD c σ ((AV.tup l, Value.ref a) :: T) { s with heap := h' } m adr M K R := r.heap F' N' rfl rfl
      have hz : ∀ t ∈ l.zip vs, Rv c.w adr R t.1 t.2 := fun t ht => .imm (hl.zip t ht)
      refine storesN_ok o e3 h hl.len.symm ⟨m, adr, M, K, R, r2.F, r2.N, r2.U, r2.UK, r2.C, r2.V, fun t ht => ?_, r2.os, r2.gens, r2.KC, r2.UF⟩ k
      rcases List.mem_append.mp ht with ht | ht
      · exact hz t ht
      · exact r2.T t (List.mem_cons_of_mem _ ht)
  | _ => exact (show False from h).elim
theorem setA_ok {x i v : AV} {u1 u2 u3 : Value} {P : St → Prop} {Q : Unit → Shared → Prop} (r : Rel c σ ((i, u2) :: (x, u1) :: (v, u3) :: T) s) (h : setA c x i v σ P) (k : PoU c T P Q) : wpAny c.M c.A (setItem u1 u2 u3) Q E s := by
  cases i with
  | int i => cases x with
    | cell k' =>
      refine x11 (r.int List.mem_cons_self) fun t e92 => ?_
      obtain rfl := e92
      refine x23 (imm_ok (P := fun v' σ1 => optL (σ1.cs[k']?.bind Cell.list?) (fun l => Need (0 ≤ i ∧ i.toNat < l.length) (P (σ1.setc k' (.list (l.set i.toNat v'))))) False) r (u := u3) (List.mem_cons_of_mem _ (List.mem_cons_of_mem _ List.mem_cons_self)) h) fun v' σ1 h1 r1 n1 => ?_
      refine x13 (optL_out h1) fun l hk hn hp => ?_
      refine Rel.out r1 fun m adr M K R r1 => ?_
      have hy := r1.ri List.mem_cons_self n1
      refine r1.listV (Q := fun u1 => wpAny c.M c.A (setItem u1 (Value.int i t) u3) Q E s) (u := u1) (List.mem_cons_of_mem _ (List.mem_cons_of_mem _ List.mem_cons_self)) hk fun a vs n rest hl z g3 g4 g6 => ?_
      refine ki_set r1.F g3 hn.1 (by have := hn.2; omega) (setL_eq (by rw [hl.len]; exact hn.2)) (Upd.head g4) fun h' F' N' => ?_
      refine x11 (g6 (l.set i.toNat v') (vs.set i.toNat u3) n { s with heap := h' } (by rw [List.length_set]; exact z) (hl.set hy) F' N' rfl rfl) fun M' r2 => ?_
      exact k _ _ hp r2.tail.tail.tail.tail.rel
    | _ => exact (show False from h).elim
  | _ => exact h T s u1 u2 u3 Q E r k
theorem sole_none {e t : PySem.Expr} {n : Nat} (h : isComp e = false) : swapsWithSole [t] e n env = pure false := swaps_none h
noncomputable def augA (c : Cx) (op : Operator) (x y : AV) (σ : St) (P : KV) : Prop := match op with
  | .Add => int2 x y (fun i j => P (.int (i + j)) σ) (OP c (inplaceOp .Add) x y σ P)
  | op => OP c (inplaceOp op) x y σ P
theorem augA_ok {op : Operator} {x y : AV} {u1 u2 : Value} {P : KV} {Q : Value → Shared → Prop} (r : Rel c σ ((y, u2) :: (x, u1) :: T) s) (h : augA c op x y σ P) (k : Po c T P Q) : wpAny c.M c.A (inplaceOp op u1 u2) Q E s := by
  cases op with
  | Add =>
    rcases int2_ok r h with ⟨i, j, t1, t2, rfl, rfl, h⟩ | h
    · exact PyProof.Rows.iadd_int (k _ _ _ _ h (Rel.imm (r.drop.drop.tok _) fun _ => .int))
    · exact h T s u1 u2 Q E r k
  | _ => exact h T s u1 u2 Q E r k
theorem Rf.put {w : World} {R : Led} {x : Str} {v : AV} {u : Value} (hv : Ri w R v u) {hh : Int} {t : Tok} {fs : List (Str × AV)} : ∀ {es}, Rf w R fs es → Rf w R (Mine.put x v fs) (putL x hh (.str x t) u es) := by
  induction fs with
  | nil => intro es z; cases z; exact .cons hv .nil
  | cons q fs ih =>
    intro es z
    cases z with
    | @cons y h2 t2 _ u2 _ vs a b =>
      show Rf w R (cond (seq x y) _ _) (putL x hh (.str x t) u (⟨h2, .str y t2, u2⟩ :: vs))
      unfold putL
      show Rf w R _ (if (Value.str y t2).isStr x = true then _ else _)
      rw [isStr_seq]
      cases q : seq x y with
      | true => obtain rfl := seq_eq q; exact .cons hv b
      | false => exact .cons a (ih b)
theorem Rf.some {w : World} {R : Led} {x : Str} : ∀ {fs es}, Rf w R fs es → (getL x es).isSome = true ∧ es.length = fs.length := by
  intro fs es h
  refine ⟨?_, ?_⟩
  · cases e : lk x fs with
    | none => rw [Mine.getNone h e]; rfl
    | some v => obtain ⟨u, hu, _⟩ := h.get e; rw [hu]; rfl
  · induction fs generalizing es with
    | nil => cases h; rfl
    | cons a l ih => cases h with | cons a b => exact congrArg (· + 1) (ih b)
theorem put_len {α : Type} {x : Str} {v : α} {l : List (Str × α)} : (Mine.put x v l).length ≤ l.length + 1 := by
  induction l with
  | nil => exact Nat.le_refl _
  | cons q r ih =>
    show (cond (seq x q.1) ((q.1, v) :: r) ((q.1, q.2) :: Mine.put x v r)).length ≤ _
    cases seq x q.1 with
    | true => exact Nat.le_succ _
    | false => exact Nat.succ_le_succ ih
theorem put_keys {α : Type} {x : Str} {v : α} {p : Str → Prop} (hx : p x) {l : List (Str × α)} : (∀ q ∈ l, p q.1) → ∀ q ∈ Mine.put x v l, p q.1 := by
  induction l with
  | nil => intro _ q h; rcases List.mem_singleton.mp h with rfl; exact hx
  | cons z r ih =>
    intro hl q h
    have h : q ∈ cond (seq x z.1) ((z.1, v) :: r) ((z.1, z.2) :: Mine.put x v r) := h
    have h0 := hl z List.mem_cons_self
    cases e : seq x z.1 with
    | true =>
      rw [e] at h
      exact (List.mem_cons.mp h).elim (fun e => e ▸ h0) fun h => hl q (List.mem_cons_of_mem _ h)
    | false =>
      rw [e] at h
      exact (List.mem_cons.mp h).elim (fun e => e ▸ h0) fun h => ih (fun q hq => hl q (List.mem_cons_of_mem _ hq)) q h
noncomputable def setAttrA (o : AV) (x : Str) (v : AV) (σ : St) (P : St → Prop) : Prop :=
  cellK o (fun k => imm v σ fun v' σ1 => optL (σ1.cs[k]?.bind Cell.inst?) (fun q => cnd (hasAttr q.1 x && Nat.blt q.2.length 20) (P (σ1.setc k (.inst q.1 (Mine.put x v' q.2)))) False) False) False
theorem setAttrA_ok {x : Str} {v ov : AV} {u1 u2 : Value} {P : St → Prop} {Q : Unit → Shared → Prop} (o : c.Ok2) (r : Rel c σ ((ov, u1) :: (v, u2) :: T) s) (h : setAttrA ov x v σ P) (k : PoU c T P Q) : wpAny c.M c.A (setAttr u1 x u2) Q E s := by
  cases ov with
  | cell k' =>
    refine x23 (imm_ok (P := fun v' σ1 => optL (σ1.cs[k']?.bind Cell.inst?) (fun q => cnd (hasAttr q.1 x && Nat.blt q.2.length 20) (P (σ1.setc k' (.inst q.1 (Mine.put x v' q.2)))) False) False) r (u := u2) (List.mem_cons_of_mem _ List.mem_cons_self) h) fun v' σ1 h1 r1 n1 => ?_
    refine x12 (optL_out h1) fun j94 hk h1 => ?_
    obtain ⟨C, fs⟩ := j94
    refine x02 (cond_t h1) fun hc hp => ?_
    refine x02 (Bool.and_eq_true_iff.mp hc) fun hc1 hc2 => ?_
    refine Rel.out r1 fun m adr M K R r1 => ?_
    have hy := r1.ri List.mem_cons_self n1
    refine (r1.T (AV.cell k', u1) (List.mem_cons_of_mem _ List.mem_cons_self)).cellI (Q := fun u1 => wpAny c.M c.A (setAttr u1 x u2) Q E s) fun a ha => ?_
    refine r1.atInst (fs := fs) (C := C) (instB hk) ha fun d es n rest z hi hf g3 g4 g5 g6 _ => ?_
    refine x05 (attr_ok c.w hc1) fun s1 s2 s3 s4 s5 => ?_
    have hlen : es.length = fs.length := (hf.some (x := x)).2
    have hl2 : (putL x (PyData.keyHash c.w.params x) (.str x (s.toks + 1)) u2 es).length ≤ 1000 := by
      have := ((hf.put (x := x) (hh := PyData.keyHash c.w.params x) (t := s.toks + 1) hy).some (x := x)).2
      have := put_len (x := x) (v := v') (l := fs)
      have : fs.length + 1 ≤ 20 := Nat.le_of_ble_eq_true hc2
      omega
    refine set_dict r1.F o.X g3 (InstAt.of_news g3 (List.mem_cons_of_mem _ (g5 _ hi)) List.mem_cons_self) rfl s2 s3 s4 s1.2.1 (hf.some).1 rfl (Upd.head g4) hl2 fun h' F' N' => ?_
    refine x11 (g6 (Mine.put x v' fs) (putL x (PyData.keyHash c.w.params x) (.str x (s.toks + 1)) u2 es) (putN x es n) { s with heap := h', toks := s.toks + 2 } (put_keys (p := AttrOk c.w C) s1 z) (hf.put hy) F' N' rfl rfl) fun M' r2 => ?_
    exact k _ _ hp r2.tail.tail.tail.rel
  | _ => exact (show False from h).elim
noncomputable def kSt (c : Cx) (x : Str) (P : KF) : KV := fun v σ => (fun (_ : Prop) => storeA c x v σ (P .next)) High
noncomputable def kRet (P : KF) : KV := fun v σ => (fun (_ : Prop) => P (.ret v) σ) High
noncomputable def kDrop (P : KF) : KV := fun _ σ => (fun (_ : Prop) => P .next σ) High
noncomputable def kIf (L : Lvl) (b o : List Stmt) (P : KF) : KB := fun q σ => (fun (_ : Prop) => Br q (L.ex b σ P) (L.ex o σ P)) High
inductive IfK (L : Lvl) (t : PySem.Expr) (b o : List Stmt) (σ : St) (P : KF) : Prop
  | mk (h : L.ts t σ (kIf L b o P)) : IfK L t b o σ P
theorem IfK.join {L : Lvl} {t : PySem.Expr} {b o : List Stmt} {σ : St} {P : KF} (J : St → Prop) (h : ∀ σ', J σ' → P .next σ') (h1 : ∀ K : KF, (∀ σ', J σ' → K .next σ') → L.ts t σ (kIf L b o K)) : IfK L t b o σ P := .mk (h1 P h)
noncomputable def sq (L : Lvl) (rest : List Stmt) (P : KF) : KF := fun f σ => @AF.rec (fun _ => Prop) (L.ex rest σ P) (P .brk σ) (P .cont σ) (fun v => P (.ret v) σ) f
noncomputable def asA (c : Cx) (L : Lvl) (st : Stmt) (t e : PySem.Expr) (σ : St) (P : KF) : Prop := match t with
  | .Name x _ => L.ev e σ (kSt c x P)
  | .Subscript a i _ => L.ev e σ fun v σ1 => L.ev a σ1 fun x σ2 => L.ev i σ2 fun y σ3 => setA c x y v σ3 (P .next)
  | .Attribute a x _ => nameK a (fun y p => L.ev e σ fun v σ1 => L.ev (.Name y p) σ1 fun ov σ2 => setAttrA ov x v σ2 (P .next)) (AS c st σ P)
  | .Tuple ts _ _ => cnd (isTupE e) (AS c st σ P) (L.ev e σ fun v σ1 => unpA c ts v σ1 (P .next))
  | _ => AS c st σ P
noncomputable def retA (L : Lvl) (e : Option PySem.Expr) (σ : St) (P : KF) : Prop := optL e (fun e => L.ev e σ (kRet P)) (P (.ret .none) σ)
noncomputable def stA (c : Cx) (L : Lvl) (st : Stmt) (σ : St) (P : KF) : Prop := match st with
  | .Expr e _ => cnd (isComp e) (AS c st σ P) (L.ev e σ (kDrop P))
  | .Return e _ => retA L e σ P
  | .Continue _ => P .cont σ
  | .If t b o _ => IfK L t b o σ P
  | .Assign ts e _ => arg1 ts (fun t => cnd (isComp e) (AS c st σ P) (asA c L st t e σ P)) (AS c st σ P)
  | .AugAssign t op e _ => nameK t (fun x _ => optL (lk x σ.m) (fun a => L.ev e σ fun b σ2 => augA c op a b σ2 (kSt c x P)) False) (AS c st σ P)
  | st => AS c st σ P
noncomputable def exA (c : Cx) (L : Lvl) (ss : List Stmt) (σ : St) (P : KF) : Prop := match ss with
  | [] => P .next σ
  | st :: rest => stA c L st σ (sq L rest P)
theorem hst {P : KF} {Q : Flow → Shared → Prop} (k : PoF c T P Q) : PoU c T (P .next) (fun _ => Q .next) := fun _ _ h r => k _ _ _ _ h (.next r)
theorem kSt_ok (o : c.Ok2) {x : Str} {P : KF} {Q : Flow → Shared → Prop} (k : PoF c T P Q) : Po c T (kSt c x P) fun v s => wpAny c.M c.A (storeName c.env x v) (fun _ => Q .next) E s := fun _ _ _ _ h1 r1 => storeA_ok o r1 h1 (hst k)
theorem stA_ok (g : L.Good c) (o : c.Ok2) {st : Stmt} {P : KF} (h : stA c L st σ P) : ASp c st σ P := by
  cases st with
  | Expr e pos =>
    rcases cond_f h with ⟨_, h⟩ | ⟨hc, h⟩
    · exact h.ap
    intro T s Q E hE r k
    exact wpAny_Expr_any (g.ev _ _ _ h T s _ E hE r fun v u σ1 s1 h1 r1 => k _ _ _ _ h1 (.next r1.drop)) (by unfold interactive; rw [o.kind]; rfl) (swaps_none hc)
  | Return e pos =>
    cases e with
    | some e =>
      intro T s Q E hE r k
      exact wpAny_Return_some (g.ev _ _ _ h T s _ E hE r fun v u σ1 s1 h1 r1 => k _ _ _ _ h1 (.ret r1))
    | none =>
      intro T s Q E hE r k
      exact wpAny_Return_none (k _ _ _ _ h (.ret (r.imm fun _ => .none)))
  | Continue =>
    intro T s Q E hE r k
    exact wpAny_Continue (k _ _ _ _ h (.cont r))
  | If t b o pos =>
    intro T s Q E hE r k
    cases h with | mk h => ?_
    refine wpAny_If (g.ts _ _ _ h T s _ E hE r fun q σ1 s1 h1 r1 => ?_)
    have h1 : Br q (L.ex b σ1 P) (L.ex o σ1 P) := h1
    cases q with
    | true => exact g.ex _ _ _ (h1.1 rfl) T s1 Q E hE r1 k
    | false => exact g.ex _ _ _ (h1.2 rfl) T s1 Q E hE r1 k
  | Assign ts e pos =>
    rcases arg1_out h with ⟨t, rfl, h⟩ | h
    · rcases cond_f h with ⟨_, h⟩ | ⟨hc, h⟩
      · exact h.ap
      cases t with
      | Name x p =>
        intro T s Q E hE r k
        exact wpAny_Assign_Name (g.ev _ _ _ h T s _ E hE r (kSt_ok o k)) (swaps_none hc)
      | Subscript =>
        intro T s Q E hE r k
        exact wpAny_Assign_Subscript (g.ev _ _ _ h T s _ E hE r fun v u σ1 s1 h1 r1 => g.ev _ _ _ h1 _ s1 _ E hE r1 fun v2 u2 σ2 s2 h2 r2 => g.ev _ _ _ h2 _ s2 _ E hE r2 fun v3 u3 σ3 s3 h3 r3 => setA_ok r3 h3 (hst k)) (swaps_none hc)
      | Attribute a x p =>
        rcases nameK_out h with ⟨y, p, rfl, h⟩ | h
        · intro T s Q E hE r k
          exact plainObj_wpAny_Assign_Attribute (g.ev _ _ _ h T s _ E hE r fun v u σ1 s1 h1 r1 => g.ev _ _ _ h1 _ s1 _ E hE r1 fun v2 u2 σ2 s2 h2 r2 => setAttrA_ok o r2 h2 (hst k)) (swaps_none hc)
        · exact h.ap
      | Tuple =>
        rcases cond_f h with ⟨_, h⟩ | ⟨hc2, h⟩
        · exact h.ap
        intro T s Q E hE r k
        exact Assign_Tuple (g.ev _ _ _ h T s _ E hE r fun v u σ1 s1 h1 r1 => unpA_ok o r1 h1 (hst k)) (sole_none hc) (tupNone hc2)
      | _ => exact h.ap
    · exact h.ap
  | AugAssign t op e pos =>
    rcases nameK_out h with ⟨x, p, rfl, h⟩ | h
    · refine x12 (optL_out h) fun v e h => ?_
      intro T s Q E hE r k
      refine Rel.out r fun m adr M K R r => ?_
      refine x12 (r.V _ v (lk_eq ▸ e)) fun u l hv => ?_
      exact wpAny_AugAssign_Name (l.load (R := R) (pos := default) o r.F r.KF (g.ev _ _ _ h _ s _ E hE (r.add hv).rel fun b u2 σ2 s2 h2 r2 => augA_ok r2 h2 (kSt_ok o k))).1
    · exact h.ap
  | _ => exact h.ap
theorem exA_ok (g : L.Good c) (o : c.Ok2) {ss : List Stmt} {P : KF} (h : exA c L ss σ P) : AX c ss σ P := by
  cases ss with
  | nil =>
    intro T s Q E hE r k
    exact wpAny_execs_nil (k _ _ _ _ h (.next r))
  | cons st rest =>
    intro T s Q E hE r k
    refine wpAny_execs_cons (stA_ok g o h T s _ E hE r fun f σ1 s1 fl h1 r1 => ?_)
    cases r1 with
    | next r1 => exact g.ex _ _ _ h1 T s1 Q E hE r1 k
    | brk r1 => exact k _ _ _ _ h1 (.brk r1)
    | cont r1 => exact k _ _ _ _ h1 (.cont r1)
    | ret r1 => exact k _ _ _ _ h1 (.ret r1)
end
noncomputable def lvl (c : Cx) : Nat → Lvl
  | 0 => ⟨AE c, AT c, AX c⟩
  | n + 1 => ⟨evA c (lvl c n), tsA c (lvl c n), exA c (lvl c n)⟩
theorem lvl_good {c : Cx} (o : c.Ok2) : ∀ n, (lvl c n).Good c
  | 0 => ⟨fun _ _ _ h => h.ap, fun _ _ _ h => h, fun _ _ _ h => h⟩
  | n + 1 => ⟨fun _ _ _ h => evA_ok (lvl_good o n) o h, fun _ _ _ h => tsA_ok (lvl_good o n) h, fun _ _ _ h => exA_ok (lvl_good o n) o h⟩
end Mine
end
section
open PySem PySem.W PyProof.Rows PySem.Calls PySem.Spec
set_option tactic.hygienic false
set_option maxHeartbeats 400000
namespace Mine
theorem cellsFrom_ge {lo : Nat} : ∀ (names : List (Str × NameKind)) (n : Nat) (acc : List (Str × Addr)), lo ≤ n → (∀ q ∈ acc, lo ≤ q.2 ∧ q.2 < n) → acc.Pairwise (fun a b => a.2 ≠ b.2) →
    (∀ q ∈ cellsFrom n names acc, lo ≤ q.2) ∧ (cellsFrom n names acc).Pairwise (fun a b => a.2 ≠ b.2) := by
  intro names
  induction names with
  | nil => intro n acc _ h1 h2; exact ⟨fun q hq => (h1 q hq).1, h2⟩
  | cons y r ih =>
    intro n acc hl h1 h2
    obtain ⟨y, k⟩ := y
    unfold cellsFrom
    split
    · refine ih (n + 1) _ (by omega) (fun q hq => ?_) (List.pairwise_cons.mpr ⟨fun q hq => ?_, h2⟩)
      · rcases List.mem_cons.mp hq with rfl | hq
        · exact ⟨hl, Nat.lt_succ_self _⟩
        · exact ⟨(h1 q hq).1, Nat.lt_succ_of_lt (h1 q hq).2⟩
      · exact Nat.ne_of_gt (h1 q hq).2
    · exact ih n acc hl h1 h2
theorem cells_mem {cm : Str → Option Value} {cs : List (Str × Addr)} {cells : Led} (Y : CellsAre cm cs cells) : cells.map (·.1) = cs.map (·.2) ∧ ∀ q ∈ cs, ∃ o, (q.2, o) ∈ cells ∧ o.data = .cell (cm q.1) := by
  induction Y with
  | nil => exact ⟨rfl, fun _ h => (nomatch h)⟩
  | cons h _ ih =>
    refine ⟨congrArg (_ :: ·) ih.1, fun q hq => ?_⟩
    rcases List.mem_cons.mp hq with rfl | hq
    · exact i12 _ List.mem_cons_self h
    · refine x12 (ih.2 q hq) fun o h1 h2 => ?_
      exact i12 o (List.mem_cons_of_mem _ h1) h2
theorem pw_map {α β : Type} {g : α → β} {l : List α} : (l.map g).Pairwise (· ≠ ·) ↔ l.Pairwise (fun a b => g a ≠ g b) := List.pairwise_map
theorem bindL_not {kd : Str → Option NameKind} {x : Str} : ∀ (l : List (Str × Value)) (m : Str → Option Value), x ∉ l.map (·.1) → bindL kd l m x = m x ∧ bindC kd l m x = m x := by
  intro l
  induction l with
  | nil => intro m _; exact ⟨rfl, rfl⟩
  | cons y r ih =>
    intro m h
    obtain ⟨y, v⟩ := y
    rw [List.map_cons, List.mem_cons, not_or] at h
    refine x02 (And.intro (fun m => (ih m h.2).1) (fun m => (ih m h.2).2)) fun i1 i2 => ?_
    unfold bindL bindC
    rw [i1, i2]
    constructor <;> (split <;> first | rfl | exact if_neg h.1)
theorem bindL_at {kd : Str → Option NameKind} {x : Str} {u : Value} : ∀ (l : List (Str × Value)) (m : Str → Option Value), (l.map (·.1)).Nodup → (x, u) ∈ l →
    (kd x = some .local → bindL kd l m x = some u) ∧ (kd x ≠ some .local → bindC kd l m x = some u) := by
  intro l
  induction l with
  | nil => intro m _ h; cases h
  | cons y r ih =>
    intro m hn h
    obtain ⟨y, v⟩ := y
    rw [List.map_cons, List.nodup_cons] at hn
    unfold bindL bindC
    rcases List.mem_cons.mp h with e | h
    · cases e
      rw [(bindL_not r _ hn.1).1, (bindL_not r _ hn.1).2]
      exact ⟨fun e => by rw [if_pos e, if_pos rfl], fun e => by rw [if_neg e, if_pos rfl]⟩
    · exact ⟨(ih _ hn.2 h).1, (ih _ hn.2 h).2⟩
end Mine
end
section
open PySem PySem.W PyProof.Rows PySem.Calls PySem.Spec
set_option tactic.hygienic false
set_option maxHeartbeats 400000
namespace Mine
noncomputable def datOf (K : Frag) (f : Addr) : FuncData := match K.lookup f with
  | some o => (match o.data with
    | .func fd => fd
    | _ => default)
  | none => default
noncomputable def bodyOf (K : Frag) (f : Addr) : List Stmt := match (datOf K f).body with
  | .stmts b => b
  | _ => []
noncomputable def isFd (K : Frag) (f : Addr) : Bool := match K.lookup f with
  | some o => (match o.data with
    | .func fd => (match fd.body with
      | .stmts _ => fd.globals == mainGlobals && fd.closure.isEmpty && fd.builtins == builtinsNs && codeIn K fd.code fd.qualname && fd.scope.kind == .function && !fd.scope.isCoroutine && !fd.scope.isGenerator
      | _ => false)
    | _ => false)
  | none => false
theorem fd_eq {fd : FuncData} {b : List Stmt} (h1 : fd.body = .stmts b) (h2 : fd.globals = mainGlobals) (h3 : fd.closure = []) (h4 : fd.builtins = builtinsNs) : fd = fnOf fd.name fd.qualname fd.params b fd.scope fd.defaults fd.kwdefaults fd.doc fd.pyModule fd.annotations fd.code fd.closureTuple := by
  cases fd
  cases h1; cases h2; cases h3; cases h4
  rfl
set_option tactic.hygienic true in
theorem isFd_of {K : Frag} {f : Addr} (h : isFd K f = true) : ∃ oc od osl, K.lookup f = some ⟨oc, od, .func (fnOf (datOf K f).name (datOf K f).qualname (datOf K f).params (bodyOf K f) (datOf K f).scope (datOf K f).defaults (datOf K f).kwdefaults (datOf K f).doc (datOf K f).pyModule (datOf K f).annotations (datOf K f).code (datOf K f).closureTuple), osl⟩ ∧
    datOf K f = fnOf (datOf K f).name (datOf K f).qualname (datOf K f).params (bodyOf K f) (datOf K f).scope (datOf K f).defaults (datOf K f).kwdefaults (datOf K f).doc (datOf K f).pyModule (datOf K f).annotations (datOf K f).code (datOf K f).closureTuple ∧
    codeIn K (datOf K f).code (datOf K f).qualname = true ∧ (datOf K f).scope.kind = .function ∧ (datOf K f).scope.isCoroutine = false ∧ (datOf K f).scope.isGenerator = false := by
  unfold isFd at h
  split at h
  · rename_i o ho
    split at h
    · rename_i fd hd
      split at h
      · rename_i b hb
        simp only [Bool.and_eq_true, Bool.not_eq_true'] at h
        refine x02 h fun j91 h7 => ?_
        try clear h
        refine x02 j91 fun j92 h6 => ?_
        try clear j91
        refine x02 j92 fun j93 h5 => ?_
        try clear j92
        refine x02 j93 fun j94 h4 => ?_
        try clear j93
        refine x02 j94 fun j95 h3 => ?_
        try clear j94
        refine x02 j95 fun h1 h2 => ?_
        try clear j95
        obtain ⟨oc, od, da, osl⟩ := o
        have hd : da = .func fd := hd
        subst hd
        have e : datOf K f = fd := by unfold datOf; rw [ho]
        have eb : bodyOf K f = b := by unfold bodyOf; rw [e, hb]
        rw [e, eb]
        have ef := fd_eq (show fd.body = .stmts b from hb) (eq_of_beq h1) (List.isEmpty_iff.mp h2) (eq_of_beq h3)
        exact i36 oc od osl (ef ▸ ho) ef h4 (eq_of_beq h5) h6 h7
      · cases h
    · cases h
  · cases h
structure FnOk (w : World) (f : Addr) (ns : List Str) : Prop where
  fd : isFd (hp w) f = true
  bd : ∀ s us, us.length = ns.length → BindsTo s (datOf (hp w) f) ⟨us, []⟩ (ns.zip us)
  lo : ∀ x ∈ ns, (datOf (hp w) f).scope.names.lookup x = some .local ∨ (datOf (hp w) f).scope.names.lookup x = some .cell
  nd : (datOf (hp w) f).scope.names.lookup ("__debug__" : Str) = none
  nc : (datOf (hp w) f).scope.names.lookup ("__classdict__" : Str) = none
  cn : ((cellsFrom 0 (datOf (hp w) f).scope.names []).map (·.1)).Nodup
  di : ns.Nodup
noncomputable def fnB (w : World) (f : Addr) (ns : List Str) : Bool := isFd (hp w) f && (ns.all fun x => (datOf (hp w) f).scope.names.lookup x == some .local || (datOf (hp w) f).scope.names.lookup x == some .cell) && (datOf (hp w) f).scope.names.lookup ("__debug__" : Str) == none && (datOf (hp w) f).scope.names.lookup ("__classdict__" : Str) == none &&
  decide ((cellsFrom 0 (datOf (hp w) f).scope.names []).map (·.1)).Nodup && decide ns.Nodup
theorem FnOk.of {w : World} {f : Addr} {ns : List Str} (h : fnB w f ns = true) (bd : ∀ s us, us.length = ns.length → BindsTo s (datOf (hp w) f) ⟨us, []⟩ (ns.zip us)) : FnOk w f ns := by
  unfold fnB at h
  simp only [Bool.and_eq_true] at h
  refine x02 h fun j96 h6 => ?_
  try clear h
  refine x02 j96 fun j97 h5 => ?_
  try clear j96
  refine x02 j97 fun j98 h4 => ?_
  try clear j97
  refine x02 j98 fun j99 h3 => ?_
  try clear j98
  refine x02 j99 fun h1 h2 => ?_
  try clear j99
  exact ⟨h1, bd, fun x hx => (Bool.or_eq_true_iff.mp (List.all_eq_true.mp h2 x hx)).imp eq_of_beq eq_of_beq, eq_of_beq h3, eq_of_beq h4, of_decide_eq_true h5, of_decide_eq_true h6⟩
section
variable {fd : FuncData} {x1 x2 x3 x4 : Str}
theorem bd1 (h : ∀ u1, bindArgs fd ⟨[u1], []⟩ = pure [(x1, u1)]) : ∀ s us, us.length = [x1].length → BindsTo s fd ⟨us, []⟩ ([x1].zip us) := by
  intro s us hl
  refine x11 (us1 hl.symm) fun u1 e910 => ?_
  obtain rfl := e910
  exact BindsTo.of_eq (h _)
theorem bd2 (h : ∀ u1 u2, bindArgs fd ⟨[u1, u2], []⟩ = pure [(x1, u1), (x2, u2)]) : ∀ s us, us.length = [x1, x2].length → BindsTo s fd ⟨us, []⟩ ([x1, x2].zip us) := by
  intro s us hl
  refine x21 (us2 hl.symm) fun u1 u2 e911 => ?_
  obtain rfl := e911
  exact BindsTo.of_eq (h _ _)
theorem us3 {us : List Value} (h : 3 = us.length) : ∃ u v w, us = [u, v, w] := by
  cases us with
  | nil => cases h
  | cons u us => obtain ⟨v, w, e⟩ := us2 (Nat.succ.inj h); exact ⟨u, v, w, by rw [e]⟩
theorem bd3 (h : ∀ u1 u2 u3, bindArgs fd ⟨[u1, u2, u3], []⟩ = pure [(x1, u1), (x2, u2), (x3, u3)]) : ∀ s us, us.length = [x1, x2, x3].length → BindsTo s fd ⟨us, []⟩ ([x1, x2, x3].zip us) := by
  intro s us hl
  refine x31 (us3 hl.symm) fun u1 u2 u3 e912 => ?_
  obtain rfl := e912
  exact BindsTo.of_eq (h _ _ _)
theorem us4 {us : List Value} (h : 4 = us.length) : ∃ u v w z, us = [u, v, w, z] := by
  cases us with
  | nil => cases h
  | cons u us => obtain ⟨v, w, z, e⟩ := us3 (Nat.succ.inj h); exact ⟨u, v, w, z, by rw [e]⟩
theorem bd4 {x1 x2 x3 x4 : Str} (h : ∀ u1 u2 u3 u4, bindArgs fd ⟨[u1, u2, u3, u4], []⟩ = pure [(x1, u1), (x2, u2), (x3, u3), (x4, u4)]) : ∀ s us, us.length = [x1, x2, x3, x4].length → BindsTo s fd ⟨us, []⟩ ([x1, x2, x3, x4].zip us) := by
  intro s us hl
  refine x41 (us4 hl.symm) fun u1 u2 u3 u4 e913 => ?_
  obtain rfl := e913
  exact BindsTo.of_eq (h _ _ _ _)
theorem bd5 {x1 x2 x3 x4 x5 : Str} (h : ∀ u1 u2 u3 u4 u5, bindArgs fd ⟨[u1, u2, u3, u4, u5], []⟩ = pure [(x1, u1), (x2, u2), (x3, u3), (x4, u4), (x5, u5)]) : ∀ s us, us.length = [x1, x2, x3, x4, x5].length → BindsTo s fd ⟨us, []⟩ ([x1, x2, x3, x4, x5].zip us) := by
  intro s us hl
  cases us with
  | nil => cases hl
  | cons u us => obtain ⟨u1, u2, u3, u4, rfl⟩ := us4 (Nat.succ.inj hl).symm; exact BindsTo.of_eq (h _ _ _ _ _)
end
noncomputable def Cx.fn (d : Cx) (f : Addr) : Cx := { d with cn := (datOf (hp d.w) f).qualname, cs := (datOf (hp d.w) f).scope, ax := f, ccd := (datOf (hp d.w) f).code, cl := cellsFrom (d.L + 1) (datOf (hp d.w) f).scope.names [], fc := [], sub := none }
noncomputable def Room (c : Cx) (n : Nat) : Prop := c.dp + n < recursionLimit ∧ c.un + 20 * n < cLine
theorem lookup_mem9 {α : Type} {x : Str} {v : α} {l : List (Str × α)} (h : l.lookup x = some v) : (x, v) ∈ l := lk_mem (lk_eq.trans h)
theorem zip_keys {α : Type} {ns : List Str} : ∀ {us : List α}, us.length = ns.length → (ns.zip us).map (·.1) = ns := by
  induction ns with
  | nil => intro us h; rw [List.length_eq_zero_iff.mp h]; rfl
  | cons n ns ih =>
    intro us h
    cases us with
    | nil => cases h
    | cons u us => exact congrArg (n :: ·) (ih (Nat.succ.inj h))
theorem zip_two {ns : List Str} : ∀ {vs : List AV} {us : List Value} {x : Str} {v : AV}, vs.length = us.length → (ns.zip vs).lookup x = some v → ∃ u, (x, u) ∈ ns.zip us ∧ (v, u) ∈ vs.zip us := by
  induction ns with
  | nil => intro vs us x v _ h; cases h
  | cons n ns ih =>
    intro vs us x v hl h
    cases vs with
    | nil => cases h
    | cons w vs => cases us with
      | nil => cases hl
      | cons u us =>
        rw [List.zip_cons_cons, List.lookup_cons] at h
        cases e : x == n with
        | true => rw [e] at h; cases h; exact ⟨u, by rw [eq_of_beq e]; exact List.mem_cons_self, List.mem_cons_self⟩
        | false =>
          rw [e] at h
          refine x12 (ih (Nat.succ.inj hl) h) fun u' h1 h2 => ?_
          exact i12 u' (List.mem_cons_of_mem _ h1) (List.mem_cons_of_mem _ h2)
noncomputable def Cx.base' (c : Cx) (L' : Addr) (g : Heap) (fr mf : Led) : Cx := { c with dp := c.dp + 1, un := c.un + 3, L := L', outer := c.fenv :: c.outer, A₀ := c.A, h₀ := g, fr := fr, mf := mf }
noncomputable def Cx.inn (c : Cx) (f L' : Addr) (g : Heap) (fr mf : Led) : Cx := (c.base' L' g fr mf).fn f
theorem pw_inj {α : Type} {l : List (α × Addr)} (h : l.Pairwise (fun a b => a.2 ≠ b.2)) : ∀ {a b : α × Addr}, a ∈ l → b ∈ l → a.2 = b.2 → a = b := by
  induction l with
  | nil => intro a b ha; cases ha
  | cons y r ih =>
    intro a b ha hb e
    refine x02 (List.pairwise_cons.mp h) fun h1 h2 => ?_
    rcases List.mem_cons.mp ha with h3 | h3
    · rcases List.mem_cons.mp hb with h4 | h4
      · rw [h3, h4]
      · exact absurd (h3 ▸ e) (h1 _ h4)
    · rcases List.mem_cons.mp hb with h4 | h4
      · exact absurd (h4 ▸ e).symm (h1 _ h3)
      · exact ih h2 h3 h4 e
noncomputable def Cx.inA (c : Cx) (A : Around) (f L' : Addr) (g : Heap) (fr mf : Led) : Cx := ({ c with dp := A.depth + 1, un := A.units + 3, gd := A.guards, L := L', outer := c.fenv :: c.outer, A₀ := A, h₀ := g, fr := fr, mf := mf } : Cx).fn f
theorem ent {c : Cx} {A : Around} {s : Shared} {m : Str → Option Value} {f : Addr} {ns : List Str} {us : List Value} {fr mf rest : Led} {R : Result → Shared → Prop} (o : c.Ok2) (hf : FnOk c.w f ns) (hA : A = { handled := none, depth := A.depth, frames := some (c.fenv :: c.outer), guards := A.guards, units := A.units }) (hr : A.depth < recursionLimit) (F : Fr c.h₀ c.L s.heap m) (N : News c.h₀ c.L s.heap rest) (hus : us.length = ns.length)
    (h : ∀ g L' h₁ tk K m', (c.inA A f L' g fr mf).Ok2 → Fr g L' h₁ m' → News g L' h₁ (K ++ rest) → Apart K rest → (∀ x u, (x, u) ∈ ns.zip us → Loc (c.inA A f L' g fr mf) m' K x u) →
      (∀ x, (datOf (hp c.w) f).scope.names.lookup x = some .cell → ∃ ca o v₀, (c.inA A f L' g fr mf).cl.lookup x = some ca ∧ (ca, o) ∈ K ∧ o.data = .cell v₀) →
      wpAny (model pg c.w) (c.inA A f L' g fr mf).A (execs (bodyOf (hp c.w) f) (c.inA A f L' g fr mf).fenv) (fun fl s' => LeaveK c.h₀ c.L m g R (match fl with | .ret v => v | _ => .none) s')
        (fun e s' => wpAny (model pg c.w) (c.inA A f L' g fr mf).A (leaving (c.inA A f L' g fr mf).fenv e) (fun _ s'' => R (.error e) s'') (fun e' s'' => R (.error e') s'') s')
        { s with heap := h₁, toks := tk }) : codeAny (model pg c.w) A (.call (.ref f) ⟨us, []⟩) R s := by
  refine x36 (isFd_of hf.fd) fun oc od osl ho hd hcd hk hco hge => ?_
  cases A
  cases hA
  have hz := zip_keys hus
  have hin : ∀ x u, (x, u) ∈ ns.zip us → x ∈ ns := fun x u h => (List.of_mem_zip h).1
  refine code_defC (env := c.fenv) o.B F o.X N o.T rfl rfl o.k ho hcd hr (hd ▸ hf.bd s us hus) ?_ hf.cn ?_ hco hge hk
  · refine List.all_eq_true.mpr fun y hy => ?_
    exact Bool.or_eq_true_iff.mpr ((hf.lo y.1 (hin y.1 y.2 hy)).imp (fun e => by rw [e]; rfl) fun e => by rw [e]; rfl)
  · intro g L' h₁ tk cells FG F' N' Y B' X' T' hlt
    refine x02 (cells_mem Y) fun c1 c2 => ?_
    refine x02 (cellsFrom_ge (lo := L' + 1) (datOf (hp c.w) f).scope.names (L' + 1) [] (Nat.le_refl _) (fun _ h => (nomatch h)) .nil) fun g1 g2 => ?_
    have hn : ((cellsFrom (L' + 1) (datOf (hp c.w) f).scope.names []).map (·.1)).Nodup := by
      rw [cellsFrom_names _ _ 0 [] [] rfl]; exact hf.cn
    have hci : ∀ x y ca, (cellsFrom (L' + 1) (datOf (hp c.w) f).scope.names []).lookup x = some ca → (cellsFrom (L' + 1) (datOf (hp c.w) f).scope.names []).lookup y = some ca → x = y := by
      intro x y ca hx hy
      have hx := lookup_mem9 hx
      have hy := lookup_mem9 hy
      exact congrArg Prod.fst (pw_inj g2 hx hy rfl)
    have hcell : ∀ x, (datOf (hp c.w) f).scope.names.lookup x = some .cell → ∃ ca, (cellsFrom (L' + 1) (datOf (hp c.w) f).scope.names []).lookup x = some ca := fun x hx => Option.isSome_iff_exists.mp (cellsFrom_some _ _ _ (.inl hx))
    refine h g L' h₁ tk cells _ { B := B', X := X', T := T', k := hk, sk := fun _ _ _ _ _ e => (by cases e), fx := fun _ h => (by cases h), nd := hf.nd, nc := hf.nc, ci := hci } F' N' ⟨fun q hq p hp e => ?_, ?_⟩ (fun x u hx => ?_) fun x hx => ?_
    · have : q.1 ∈ cells.map (·.1) := List.mem_map_of_mem (f := (·.1)) hq
      rw [c1] at this
      refine x12 (List.mem_map.mp this) fun z hz1 hz2 => ?_
      have l1 := g1 z hz1
      have l2 := hlt p hp
      rw [e, ← hz2] at l2
      exact absurd l2 (Nat.not_lt.mpr (Nat.le_of_succ_le l1))
    · refine pw_map.mp ?_
      rw [c1]
      exact pw_map.mpr g2
    · have hb := bindL_at (kd := (envOfC (datOf (hp c.w) f).qualname (datOf (hp c.w) f).scope L' f (datOf (hp c.w) f).code).kindOf) (ns.zip us) (fun _ => none) (by rw [hz]; exact hf.di) hx
      rcases hf.lo x (hin x u hx) with e | e
      · exact .loc rfl e (hb.1 e)
      · refine x11 (hcell x e) fun ca hca => ?_
        refine x12 (c2 _ (lookup_mem9 hca)) fun o' h1 h2 => ?_
        refine .cel (.inl e) hca h1 (h2.trans (congrArg Data.cell (hb.2 fun e' => ?_)))
        have e : (envOfC (datOf (hp c.w) f).qualname (datOf (hp c.w) f).scope L' f (datOf (hp c.w) f).code).kindOf x = some .cell := e
        rw [e] at e'; cases e'
    · refine x11 (hcell x hx) fun ca hca => ?_
      refine x12 (c2 _ (lookup_mem9 hca)) fun o' h1 h2 => ?_
      exact i33 ca o' _ hca h1 h2
structure Rt0 (P : KV) (σ : St) (KK : KF) : Prop where
  rt : ∀ v σ', imm v σ' (fun v' _ => P v' σ) → KK (.ret v) σ'
  nx : ∀ σ', P .none σ → KK .next σ'
noncomputable def kRt (F : AV → St → Prop) : KF := fun fl σ => @AF.rec (fun _ => Prop) (F .none σ) False False (fun v => F v σ) fl
section
variable {c : Cx} {σ : St} {T : List (AV × Value)} {s : Shared} {E : Value → Shared → Prop}
theorem RelD.back {d : Cx} {σ' : St} {T' : List (AV × Value)} {s' : Shared} {m m2 : Str → Option Value} {adr adr2 : List Addr} {M K R M2 K2 R2 : Led} (r : RelD c σ T s m adr M K R) (r2 : RelD d σ' T' s' m2 adr2 M2 K2 R2)
    (hos : d.os = c.os) (hg : d.gens = c.gens) (hfr : d.fr = R ++ (M ++ (K ++ c.fr))) (hmf : d.mf = M ++ (K ++ c.mf)) (F : Fr c.h₀ c.L s'.heap m) (N : News c.h₀ c.L s'.heap (M2 ++ (K2 ++ (R2 ++ d.fr)))) :
    RelD c σ T s' m adr M K (R2 ++ R) := by
  have hR : ∀ p ∈ R, p ∈ R2 ++ R := fun p hp => List.mem_append_right _ hp
  have hU : ∀ q ∈ d.mf, ∀ p ∈ R2, p.1 ≠ q.1 := r2.UF.2.1
  rw [hmf] at hU
  refine ⟨F, fun p hp => N p ?_, ⟨?_, r.U.2⟩, ⟨?_, r.UK.2⟩, r.C.mono hR, Vmono hR r.V, fun t ht => (r.T t ht).mono hR, r2.os.trans hos, r2.gens.trans hg, r.KC, r.UF.1, ?_, r.UF.2.2⟩
  · rw [hfr]; simp only [List.mem_append] at hp ⊢; grind
  · intro q hq p hp
    simp only [List.mem_append] at hp
    rcases hp with hp | (hp | hp) | hp
    · exact r.U.1 q hq p (by simp only [List.mem_append]; exact .inl hp)
    · exact hU q (List.mem_append_left _ hq) p hp
    · exact r.U.1 q hq p (by simp only [List.mem_append]; exact .inr (.inl hp))
    · exact r.U.1 q hq p (by simp only [List.mem_append]; exact .inr (.inr hp))
  · intro q hq p hp
    simp only [List.mem_append] at hp
    rcases hp with (hp | hp) | hp
    · exact hU q (List.mem_append_right _ (List.mem_append_left _ hq)) p hp
    · exact r.UK.1 q hq p (by simp only [List.mem_append]; exact .inl hp)
    · exact r.UK.1 q hq p (by simp only [List.mem_append]; exact .inr hp)
  · intro q hq p hp
    rcases List.mem_append.mp hp with hp | hp
    · exact hU q (List.mem_append_right _ (List.mem_append_right _ hq)) p hp
    · exact r.UF.2.1 q hq p hp
theorem enter0 {f : Addr} {ns : List Str} {vs : List AV} {P : KV} {n : Nat} (o : c.Ok2) (hf : FnOk c.w f ns) (hr : Room c (n + 1)) (hn : ∀ v ∈ vs, NC v) (hlen : vs.length = ns.length)
    (h : ∀ (d : Cx) (KK : KF), d.w = c.w → (d.fn f).Ok2 → Room (d.fn f) n → Rt0 P σ KK → AX (d.fn f) (bodyOf (hp d.w) f) ⟨ns.zip vs, []⟩ KK) : AC c (.ref f) vs σ P := by
  intro T s us Q E hl r k
  refine Rel.out r fun m adr M K R r => ?_
  have hus : us.length = ns.length := hl.symm.trans hlen
  have hrl : Rl c.w R vs us := r.rl (fun t ht => List.mem_append_left _ ht) hl hn
  have N2 : News c.h₀ c.L s.heap (R ++ (R ++ (M ++ (K ++ c.fr)))) := fun p hp => r.N p (by simp only [List.mem_append] at hp ⊢; grind)
  refine wpAny_call (ent (fr := R ++ (M ++ (K ++ c.fr))) (mf := M ++ (K ++ c.mf)) o hf rfl (by have := hr.1; show c.dp < _; omega) r.F N2 hus ?_)
  · intro g L' h₁ tk Kc m' ok F' N' AK hloc hKC
    have rd : RelD (c.inn f L' g (R ++ (M ++ (K ++ c.fr))) (M ++ (K ++ c.mf))) ⟨ns.zip vs, []⟩ [] { s with heap := h₁, toks := tk } m' [] [] Kc R := by
      refine ⟨F', N', ⟨fun _ h => (by cases h), .nil⟩, AK, .nil, ?_, fun _ h => (by cases h), r.os, r.gens, fun _ => hKC, ?_, ?_, fun _ e => by cases e⟩
      · intro x v hx
        refine x12 (zip_two hl hx) fun u h1 h2 => ?_
        exact i12 u (hloc x u h1) (.imm (hrl.zip _ h2))
      · intro q hq
        have hq : q ∈ M ++ (K ++ c.mf) := hq
        show q ∈ R ++ (M ++ (K ++ c.fr))
        simp only [List.mem_append] at hq ⊢
        rcases hq with hq | hq | hq
        · exact .inr (.inl hq)
        · exact .inr (.inr (.inl hq))
        · exact .inr (.inr (.inr (r.UF.1 q hq)))
      · intro q hq p hp
        have hq : q ∈ M ++ (K ++ c.mf) := hq
        simp only [List.mem_append] at hq
        rcases hq with hq | hq | hq
        · exact r.U.1 q hq p (List.mem_append_right _ (List.mem_append_left _ hp))
        · exact r.UK.1 q hq p (List.mem_append_left _ hp)
        · exact r.UF.2.1 q hq p hp
    refine wpAny_mono (h (c.base' L' g (R ++ (M ++ (K ++ c.fr))) (M ++ (K ++ c.mf))) (kRt fun v σ' => imm v σ' fun v' _ => P v' σ) rfl ok ⟨by have := hr.1; show c.dp + 1 + n < _; omega, by have := hr.2; show c.un + 3 + 20 * n < _; omega⟩ ⟨fun _ _ h => h, fun _ h => h⟩ [] _ _ _ PassesOwn.leaving rd.rel ?_) (fun _ _ x => x) fun _ _ x => x
    intro fl σ' s' fl' hp hfl
    have fin : ∀ {v u}, imm v σ' (fun v' _ => P v' σ) → Rel (c.inn f L' g (R ++ (M ++ (K ++ c.fr))) (M ++ (K ++ c.mf))) σ' [(v, u)] s' → LeaveK c.h₀ c.L m g (fun r s' => match r with | .ok (.ret v) => Q v s' | .ok _ => False | .error e => E e s') u s' := by
      intro v u hi hr
      refine x23 (imm_ok hr List.mem_cons_self hi) fun v' σ2 hp r2 n2 => ?_
      refine Rel.out r2 fun m2 adr2 M2 K2 R2 r2 => ?_
      have hri := r2.ri List.mem_cons_self n2
      refine leaveK_ r2.F r2.N fun F9 N9 => k _ _ _ _ hp ?_
      exact Rel.sub ((r.back r2 rfl rfl rfl rfl F9 N9).add (.imm (hri.mono fun p hp => List.mem_append_left _ hp))).rel fun t ht => (List.mem_cons.mp ht).elim (fun e => e ▸ List.mem_cons_self) fun ht => List.mem_cons_of_mem _ (List.mem_append_right _ ht)
    cases hfl with
    | ret hr => exact fin hp hr
    | next hr => exact fin (v := .none) (u := .none) hp (hr.imm fun _ => .none)
    | brk _ => exact (show False from hp).elim
    | cont _ => exact (show False from hp).elim
noncomputable def ren (k : Nat) (v : AV) : AV := match v with
  | .cell j => cond (Nat.beq j k) (.cell 0) v
  | .clo st f j S ca => cond (Nat.beq j k) (.clo st f 0 S ca) v
  | v => v
noncomputable def ret1 (k : Nat) (v : AV) (σ' : St) (P : AV → Cell → Prop) : Prop :=
  cellK v (fun j => cnd (Nat.beq j 0) (optL σ'.cs[0]? (P (.cell k)) False) (imm v σ' fun v' σ2 => optL σ2.cs[0]? (P v') False)) (imm v σ' fun v' σ2 => optL σ2.cs[0]? (P v') False)
structure Rt1 (k : Nat) (P : KV) (σ : St) (KK : KF) : Prop where
  rt : ∀ v σ', ret1 k v σ' (fun v' ce' => P v' (σ.setc k ce')) → KK (.ret v) σ'
  nx : ∀ σ', ret1 k .none σ' (fun v' ce' => P v' (σ.setc k ce')) → KK .next σ'
theorem ret1_out {k : Nat} {v : AV} {σ' : St} {P : AV → Cell → Prop} (h : ret1 k v σ' P) : (v = .cell 0 ∧ ∃ ce, σ'.cs[0]? = some ce ∧ P (.cell k) ce) ∨ imm v σ' fun v' σ2 => optL σ2.cs[0]? (P v') False := by
  cases v with
  | cell j =>
    rcases cond_f h with ⟨e, h⟩ | ⟨_, h⟩
    · obtain rfl := Nat.eq_of_beq_eq_true e
      exact .inl ⟨rfl, optL_out h⟩
    · exact .inr h
  | _ => exact .inr h
theorem zip_map {ns : List Str} {g : AV → AV} : ∀ {vs : List AV} {x : Str} {v : AV}, (ns.zip (vs.map g)).lookup x = some v → ∃ w, (ns.zip vs).lookup x = some w ∧ v = g w := by
  induction ns with
  | nil => intro vs x v h; cases h
  | cons n ns ih =>
    intro vs x v h
    cases vs with
    | nil => cases h
    | cons w vs =>
      rw [List.map_cons, List.zip_cons_cons, List.lookup_cons] at h
      rw [List.zip_cons_cons, List.lookup_cons]
      cases e : x == n with
      | true => rw [e] at h; cases h; exact ⟨w, rfl, rfl⟩
      | false => rw [e] at h; exact ih h
noncomputable def Was (c : Cx) (σ : St) (d : Cx) : Prop := ∃ T s m adr M K R, RelD c σ T s m adr M K R ∧ ∀ p ∈ R ++ (K ++ c.fr), p ∈ d.fr
theorem enter1W {f : Addr} {ns : List Str} {vs : List AV} {P : KV} {n k : Nat} {ce : Cell} (o : c.Ok2) (hf : FnOk c.w f ns) (hr : Room c (n + 1)) (hk : σ.cs[k]? = some ce) (hce : ∀ v, ce ≠ .fro v) (hn : ∀ v ∈ vs, NC v ∨ v = .cell k ∨ ∃ st f S ca, v = .clo st f k S ca) (hlen : vs.length = ns.length)
    (h : ∀ (d : Cx) (KK : KF), d.w = c.w → (d.fn f).Ok2 → Room (d.fn f) n → Rt1 k P σ KK → Was c σ d → AX (d.fn f) (bodyOf (hp d.w) f) ⟨ns.zip (vs.map (ren k)), [ce]⟩ KK) : AC c (.ref f) vs σ P := by
  intro T s us Q E hl r kk
  refine Rel.out r fun m adr M K R r => ?_
  have hus : us.length = ns.length := hl.symm.trans hlen
  refine r.C.at hce hk fun a q M1 M2 ha hq e914 h4 h5 => ?_
  obtain rfl := e914
  have U3 := List.pairwise_append.mp r.U.2
  have U4 := List.pairwise_cons.mp U3.2.1
  have N2 : News c.h₀ c.L s.heap ([q] ++ (R ++ (R ++ (M1 ++ M2 ++ (K ++ c.fr))))) := fun p hp => r.N p (by simp only [List.mem_append, List.mem_cons, List.not_mem_nil, or_false] at hp ⊢; grind)
  have hq1 : ∀ p ∈ R ++ (M1 ++ M2 ++ (K ++ c.fr)), p.1 ≠ q.1 := by
    intro p hp
    simp only [List.mem_append] at hp
    have U1 := fun p hp => r.U.1 q (List.mem_append_right _ List.mem_cons_self) p hp
    rcases hp with hp | (hp | hp) | hp | hp
    · exact U1 p (by simp only [List.mem_append]; exact .inr (.inl hp))
    · exact U3.2.2 p hp q List.mem_cons_self
    · exact (U4.1 p hp).symm
    · exact U1 p (by simp only [List.mem_append]; exact .inl hp)
    · exact U1 p (by simp only [List.mem_append]; exact .inr (.inr hp))
  have hval : ∀ {v u}, (v, u) ∈ vs.zip us → Rv c.w [a] R (ren k v) u := by
    intro v u hm
    have hv := r.T (v, u) (List.mem_append_left _ hm)
    rcases hn v (List.of_mem_zip hm).1 with hnc | rfl | ⟨st', f', S, ca', rfl⟩
    · have e : ren k v = v := by cases v <;> first | rfl | cases hnc
      rw [e]; exact .imm (hv.ri hnc)
    · have e : ren k (.cell k) = .cell 0 := by show cond (Nat.beq k k) _ _ = _; rw [Nat.beq_refl]; rfl
      rw [e]
      cases hv with
      | imm z => cases z
      | cell ha' => rw [ha] at ha'; cases ha'; exact .cell rfl
    · have e : ren k (.clo st' f' k S ca') = .clo st' f' 0 S ca' := by show cond (Nat.beq k k) _ _ = _; rw [Nat.beq_refl]; rfl
      rw [e]
      cases hv with
      | imm z => cases z
      | clo ha' q' => rw [ha] at ha'; cases ha'; exact .clo rfl q'
  refine wpAny_call (ent (fr := R ++ (M1 ++ M2 ++ (K ++ c.fr))) (mf := M1 ++ M2 ++ (K ++ c.mf)) o hf rfl (by have := hr.1; show c.dp < _; omega) r.F N2 hus ?_)
  · intro g L' h₁ tk Kc m' ok F' N' AK hloc hKC
    have rd : RelD (c.inn f L' g (R ++ (M1 ++ M2 ++ (K ++ c.fr))) (M1 ++ M2 ++ (K ++ c.mf))) ⟨ns.zip (vs.map (ren k)), [ce]⟩ [(.cell 0, .ref a)] { s with heap := h₁, toks := tk } m' [a] [q] Kc R := by
      refine ⟨F', fun p hp => N' p ?_, ⟨fun z hz p hp => ?_, List.pairwise_singleton ..⟩, ⟨fun z hz p hp => AK.1 z hz p (List.mem_cons_of_mem _ hp), AK.2⟩, .live hq .nil, ?_, fun t ht => ?_, r.os, r.gens, fun _ => hKC, ?_, ?_, fun _ e => by cases e⟩
      · rcases List.mem_append.mp hp with hp | hp
        · exact List.mem_append_right _ (List.mem_append_left _ hp)
        · rcases List.mem_append.mp hp with hp | hp
          · exact List.mem_append_left _ hp
          · exact List.mem_append_right _ (List.mem_append_right _ hp)
      · rcases List.mem_singleton.mp hz with rfl
        rcases List.mem_append.mp hp with hp | hp
        · exact (AK.1 p hp z List.mem_cons_self).symm
        · rcases List.mem_append.mp hp with hp | hp
          · exact hq1 p (List.mem_append_left _ hp)
          · exact hq1 p hp
      · intro x v hx
        refine x12 (zip_map hx) fun w hw e915 => ?_
        obtain rfl := e915
        refine x12 (zip_two hl hw) fun u h1 h2 => ?_
        exact i12 u (hloc x u h1) (hval h2)
      · rcases List.mem_singleton.mp ht with rfl; exact .cell rfl
      · intro z hz
        have hz : z ∈ M1 ++ M2 ++ (K ++ c.mf) := hz
        show z ∈ R ++ (M1 ++ M2 ++ (K ++ c.fr))
        simp only [List.mem_append] at hz ⊢
        rcases hz with hz | hz | hz
        · exact .inr (.inl hz)
        · exact .inr (.inr (.inl hz))
        · exact .inr (.inr (.inr (r.UF.1 z hz)))
      · intro z hz p hp
        have hz : z ∈ M1 ++ M2 ++ (K ++ c.mf) := hz
        simp only [List.mem_append] at hz
        rcases hz with (hz | hz) | hz | hz
        · exact r.U.1 z (List.mem_append_left _ hz) p (List.mem_append_right _ (List.mem_append_left _ hp))
        · exact r.U.1 z (List.mem_append_right _ (List.mem_cons_of_mem _ hz)) p (List.mem_append_right _ (List.mem_append_left _ hp))
        · exact r.UK.1 z hz p (List.mem_append_left _ hp)
        · exact r.UF.2.1 z hz p hp
    refine wpAny_mono (h (c.base' L' g (R ++ (M1 ++ M2 ++ (K ++ c.fr))) (M1 ++ M2 ++ (K ++ c.mf))) (kRt fun v σ' => ret1 k v σ' fun v' ce' => P v' (σ.setc k ce')) rfl ok ⟨by have := hr.1; show c.dp + 1 + n < _; omega, by have := hr.2; show c.un + 3 + 20 * n < _; omega⟩ ⟨fun _ _ h => h, fun _ h => h⟩ ⟨_, _, _, _, _, _, _, r, fun p hp => (List.mem_append.mp hp).elim (fun h => List.mem_append_left _ h) fun h => List.mem_append_right _ (List.mem_append_right _ h)⟩ _ _ _ _ PassesOwn.leaving rd.rel ?_) (fun _ _ x => x) fun _ _ x => x
    intro fl σ' s' fl' hp hfl
    have fin2 : ∀ {v u σ2 ce' w}, Rel (c.inn f L' g (R ++ (M1 ++ M2 ++ (K ++ c.fr))) (M1 ++ M2 ++ (K ++ c.mf))) σ2 [(v, u), (.cell 0, .ref a)] s' → σ2.cs[0]? = some ce' → P w (σ.setc k ce') → (v = .cell 0 ∧ w = .cell k ∨ NC v ∧ w = v) →
        LeaveK c.h₀ c.L m g (fun r s' => match r with | .ok (.ret v) => Q v s' | .ok _ => False | .error e => E e s') u s' := by
      intro v u σ2 ce' w r2 hc hp hvw
      refine Rel.out r2 fun m2 adr2 Mx Kx R2 r2 => ?_
      have ha2 : adr2[0]? = some a := by
        have := r2.T (.cell 0, .ref a) (List.mem_cons_of_mem _ List.mem_cons_self)
        cases this with
        | imm z => cases z
        | cell e => exact e
      have hU2 : ∀ z ∈ M1 ++ M2 ++ (K ++ c.mf), ∀ p ∈ R2, p.1 ≠ z.1 := r2.UF.2.1
      have hUx : ∀ z ∈ Mx, ∀ p ∈ R2 ++ (R ++ (M1 ++ M2 ++ (K ++ c.fr))), p.1 ≠ z.1 := fun z hz p hp => r2.U.1 z hz p (List.mem_append_right _ hp)
      have hR : ∀ p ∈ R, p ∈ R2 ++ R := fun p hp => List.mem_append_right _ hp
      have hR2 : ∀ p ∈ R2, p ∈ R2 ++ R := fun p hp => List.mem_append_left _ hp
      refine leaveK_ r2.F r2.N fun F9 N9 => kk _ _ _ _ hp ?_
      have N9 : News c.h₀ c.L s'.heap (Mx ++ (Kx ++ (R2 ++ (R ++ (M1 ++ M2 ++ (K ++ c.fr)))))) := N9
      have core : ∀ M', CellsR c.w (R2 ++ R) (σ.cs.set k ce') adr M' → (∀ p ∈ M', p ∈ M1 ++ M2 ∨ p ∈ Mx) → M'.Pairwise (fun a b => a.1 ≠ b.1) → Rel c (σ.setc k ce') ((w, u) :: T) s' := by
        intro M' hC hM hP
        refine ⟨m, adr, M', K, R2 ++ R, F9, fun p hp => N9 p ?_, ⟨?_, hP⟩, ⟨?_, r.UK.2⟩, hC, Vmono hR r.V, ?_, r2.os, r2.gens, r.KC, r.UF.1, ?_, r.UF.2.2⟩
        · simp only [List.mem_append] at hp ⊢
          rcases hp with hp | hp | (hp | hp) | hp
          · rcases hM p hp with hp | hp
            · exact .inr (.inr (.inr (.inr (.inl (by simpa only [List.mem_append] using hp)))))
            · exact .inl hp
          · exact .inr (.inr (.inr (.inr (.inr (.inl hp)))))
          · exact .inr (.inr (.inl hp))
          · exact .inr (.inr (.inr (.inl hp)))
          · exact .inr (.inr (.inr (.inr (.inr (.inr hp)))))
        · intro z hz p hp
          simp only [List.mem_append] at hp
          rcases hM z hz with hz | hz
          · have hz' : z ∈ M1 ++ q :: M2 := by
              rcases List.mem_append.mp hz with h | h
              · exact List.mem_append_left _ h
              · exact List.mem_append_right _ (List.mem_cons_of_mem _ h)
            rcases hp with hp | (hp | hp) | hp
            · exact r.U.1 z hz' p (List.mem_append_left _ hp)
            · exact hU2 z (List.mem_append_left _ hz) p hp
            · exact r.U.1 z hz' p (List.mem_append_right _ (List.mem_append_left _ hp))
            · exact r.U.1 z hz' p (List.mem_append_right _ (List.mem_append_right _ hp))
          · refine hUx z hz p ?_
            simp only [List.mem_append]
            rcases hp with hp | (hp | hp) | hp
            · exact .inr (.inr (.inr (.inl hp)))
            · exact .inl hp
            · exact .inr (.inl hp)
            · exact .inr (.inr (.inr (.inr hp)))
        · intro z hz p hp
          simp only [List.mem_append] at hp
          rcases hp with (hp | hp) | hp
          · exact hU2 z (List.mem_append_right _ (List.mem_append_left _ hz)) p hp
          · exact r.UK.1 z hz p (List.mem_append_left _ hp)
          · exact r.UK.1 z hz p (List.mem_append_right _ hp)
        · intro t ht
          rcases List.mem_cons.mp ht with rfl | ht
          · rcases hvw with ⟨rfl, rfl⟩ | ⟨hnc, rfl⟩
            · have := r2.T (.cell 0, u) List.mem_cons_self
              cases this with
              | imm z => cases z
              | cell e => rw [ha2] at e; cases e; exact .cell ha
            · exact .imm ((r2.ri List.mem_cons_self hnc).mono hR2)
          · exact (r.T t (List.mem_append_right _ ht)).mono hR
        · intro z hz p hp
          rcases List.mem_append.mp hp with hp | hp
          · exact hU2 z (List.mem_append_right _ (List.mem_append_right _ hz)) p hp
          · exact r.UF.2.1 z hz p hp
      have pw : (M1 ++ M2).Pairwise (fun a b => a.1 ≠ b.1) := List.pairwise_append.mpr ⟨U3.1, U4.2, fun z hz y hy => U3.2.2 z hz y (List.mem_cons_of_mem _ hy)⟩
      by_cases hfro : ∃ v, ce' = .fro v
      · refine x11 hfro fun v' e916 => ?_
        try clear hfro
        obtain rfl := e916
        refine x12 (r2.C.frozen hc) fun a' e1 e2 => ?_
        rw [ha2] at e1; cases e1
        exact core (M1 ++ M2) (h5 _ _ hR (e2.mono hR2)) (fun p hp => .inl hp) pw
      · refine r2.C.at (fun v e => hfro ⟨v, e⟩) hc fun a' q' X1 X2 e1 e2 e3 _ _ => ?_
        rw [ha2] at e1; cases e1
        have hq' : q' ∈ Mx := e3 ▸ List.mem_append_right _ List.mem_cons_self
        have hqq : ∀ z ∈ M1 ++ M2, z.1 ≠ q'.1 := fun z hz => hUx q' hq' z (by simp only [List.mem_append] at hz ⊢; exact .inr (.inr (.inl hz)))
        refine core (M1 ++ q' :: M2) (h4 _ _ _ hR (e2.mono hR2)) (fun p hp => ?_) ?_
        · rcases List.mem_append.mp hp with hp | hp
          · exact .inl (List.mem_append_left _ hp)
          · rcases List.mem_cons.mp hp with rfl | hp
            · exact .inr hq'
            · exact .inl (List.mem_append_right _ hp)
        · refine List.pairwise_append.mpr (i03 U3.1 (List.pairwise_cons.mpr ⟨fun z hz => (hqq z (List.mem_append_right _ hz)).symm, U4.2⟩) (fun z hz y hy => ?_))
          rcases List.mem_cons.mp hy with rfl | hy
          · exact hqq z (List.mem_append_left _ hz)
          · exact U3.2.2 z hz y (List.mem_cons_of_mem _ hy)
    have fin : ∀ {v u}, ret1 k v σ' (fun v' ce' => P v' (σ.setc k ce')) → Rel (c.inn f L' g (R ++ (M1 ++ M2 ++ (K ++ c.fr))) (M1 ++ M2 ++ (K ++ c.mf))) σ' [(v, u), (.cell 0, .ref a)] s' → LeaveK c.h₀ c.L m g (fun r s' => match r with | .ok (.ret v) => Q v s' | .ok _ => False | .error e => E e s') u s' := by
      intro v u hi hr
      rcases ret1_out hi with ⟨rfl, ce', hc, hi⟩ | hi
      · exact fin2 hr hc hi (.inl ⟨rfl, rfl⟩)
      · refine x23 (imm_ok hr List.mem_cons_self hi) fun v' σ2 hp r2 n2 => ?_
        refine x12 (optL_out hp) fun ce' hc hp => ?_
        exact fin2 (r2.sub fun t ht => (List.mem_cons.mp ht).elim (fun e => e ▸ List.mem_cons_self) fun ht => List.mem_cons_of_mem _ (List.mem_cons_of_mem _ ht)) hc hp (.inr ⟨n2, rfl⟩)
    cases hfl with
    | ret hr => exact fin hp hr
    | next hr => exact fin (v := .none) (u := .none) hp (hr.imm fun _ => .none)
    | brk _ => exact (show False from hp).elim
    | cont _ => exact (show False from hp).elim
theorem enter1 {f : Addr} {ns : List Str} {vs : List AV} {P : KV} {n k : Nat} {ce : Cell} (o : c.Ok2) (hf : FnOk c.w f ns) (hr : Room c (n + 1)) (hk : σ.cs[k]? = some ce) (hce : ∀ v, ce ≠ .fro v) (hn : ∀ v ∈ vs, NC v ∨ v = .cell k ∨ ∃ st f S ca, v = .clo st f k S ca) (hlen : vs.length = ns.length)
    (h : ∀ (d : Cx) (KK : KF), d.w = c.w → (d.fn f).Ok2 → Room (d.fn f) n → Rt1 k P σ KK → AX (d.fn f) (bodyOf (hp d.w) f) ⟨ns.zip (vs.map (ren k)), [ce]⟩ KK) : AC c (.ref f) vs σ P :=
  enter1W o hf hr hk hce hn hlen fun d KK e1 e2 e3 e4 _ => h d KK e1 e2 e3 e4
end
end Mine
end
section
open PySem PySem.W PyProof.Rows
set_option tactic.hygienic false
set_option maxHeartbeats 400000
namespace Mine
theorem nc_int {i : Int} : NC (.int i) := rfl
theorem nc_bool {i : Bool} : NC (.bool i) := rfl
theorem nc_lst {i : List AV} : NC (.lst i) := rfl
theorem nc_tup {i : List AV} : NC (.tup i) := rfl
theorem nc_str {i : Str} : NC (.str i) := rfl
theorem nc_obj {a C : Addr} {i : List (Str × AV)} : NC (.obj a C i) := rfl
theorem live_list {l : List AV} : ∀ v, Cell.list l ≠ .fro v := fun _ e => by cases e
theorem Room.le {c : Cx} {n m : Nat} (h : Room c n) (hm : m ≤ n) : Room c m := ⟨by have := h.1; omega, by have := h.2; omega⟩
theorem idx_ok {l : List AV} {i : Int} (h0 : 0 ≤ i) (h1 : Nat.blt i.toNat l.length = true) : 0 ≤ i ∧ i.toNat < l.length := ⟨h0, Nat.le_of_ble_eq_true h1⟩
theorem f458 (w : World) : FnOk w 458 [Str.ofString "source", Str.ofString "top"] := .of (by kernel_rfl) (bd2 fun _ _ => by kernel_rfl)
theorem f465 (w : World) : FnOk w 465 [Str.ofString "source", Str.ofString "things"] := .of (by kernel_rfl) (bd2 fun _ _ => by kernel_rfl)
theorem take_ac {c : Cx} {σ : St} {P : KV} {k : Nat} {a b t : Int} (o : c.Ok2) (hr : Room c 1) (hk : σ.cs[k]? = some (.list [.int a, .int b])) (ha : 0 ≤ a) (hb : 0 ≤ b) (hb2 : b < 2147483647) (ht : 1 ≤ t) (ht2 : t ≤ 100)
    (ret : ∀ r a' b', 0 ≤ r → r < t → 0 ≤ a' → a' ≤ a → 0 ≤ b' → b' < 2147483647 → P (.int r) (σ.setc k (.list [.int a', .int b']))) : AC c (.ref 458) [.cell k, .int t] σ P := by
  refine enter1 o (f458 _) hr hk live_list (List.forall_mem_cons.mpr ⟨.inr (.inl rfl), List.forall_mem_cons.mpr ⟨.inl nc_int, List.forall_mem_nil _⟩⟩) rfl fun d KK _ od _ kr => (lvl_good od 30).ex _ _ _ ?_
  have e0 : ren k (.cell k) = .cell 0 := by unfold ren; dsimp only; rw [Nat.beq_refl]; rfl
  rw [List.map_cons, e0]
  refine IfK.mk ?_
  refine Item.at (by decide) rfl ?_
  refine Br.mk (fun h => ?_) (fun h => ?_)
  · refine Item.at (by decide) rfl ?_
    refine Need.mk (by omega) ?_
    refine Item.at (by decide) rfl ?_
    refine Need.mk (by omega) ?_
    refine Need.mk (idx_ok (by decide) rfl) ?_
    refine kr.rt _ _ ?_
    exact ret _ _ _ (fmod_bnd ht).1 (fmod_bnd ht).2 (fdiv_bnd ha ht).1 (fdiv_bnd ha ht).2 hb hb2
  · refine Item.at (by decide) rfl ?_
    refine Need.mk (mulOk_of hb (by omega)) ?_
    refine Need.mk (by omega) ?_
    refine Need.mk (idx_ok (by decide) rfl) ?_
    refine Item.at (by decide) rfl ?_
    refine Item.at (by decide) rfl ?_
    refine Need.mk (mulOk_fmod (by decide) (by decide)) ?_
    refine Need.mk (by omega) ?_
    refine Need.mk (by omega) ?_
    refine Need.mk (by omega) ?_
    have q := fmod_bnd (a := b * 39373 + 7) (t := 2147483647) (by decide)
    refine kr.rt _ _ ?_
    exact ret _ _ _ (fmod_bnd ht).1 (fmod_bnd ht).2 ha (Int.le_refl _) q.1 q.2
theorem ret1_nc {k : Nat} {v : AV} {σ' : St} {P : AV → Cell → Prop} {ce : Cell} (n : NC v) (e : σ'.cs[0]? = some ce) (h : P v ce) : ret1 k v σ' P := by
  have h' : optL σ'.cs[0]? (P v) False := by rw [e]; exact h
  cases v <;> first | exact h' | cases n
theorem one_ac {c : Cx} {σ : St} {P : KV} {k : Nat} {a b : Int} {vs : List AV} (o : c.Ok2) (hr : Room c 2) (hk : σ.cs[k]? = some (.list [.int a, .int b])) (ha : 0 ≤ a) (hb : 0 ≤ b) (hb2 : b < 2147483647) (hl : 1 ≤ vs.length) (hl2 : vs.length ≤ 100) (hnc : ∀ v ∈ vs, NC v)
    (ret : ∀ v a' b', v ∈ vs → 0 ≤ a' → a' ≤ a → 0 ≤ b' → b' < 2147483647 → P v (σ.setc k (.list [.int a', .int b']))) : AC c (.ref 465) [.cell k, .lst vs] σ P := by
  refine enter1 o (f465 _) hr hk live_list (List.forall_mem_cons.mpr ⟨.inr (.inl rfl), List.forall_mem_cons.mpr ⟨.inl nc_lst, List.forall_mem_nil _⟩⟩) rfl fun d KK _ od rd kr => (lvl_good od 30).ex _ _ _ ?_
  have e0 : ren k (.cell k) = .cell 0 := by unfold ren; dsimp only; rw [Nat.beq_refl]; rfl
  rw [List.map_cons, e0]
  refine take_ac od rd rfl ha hb hb2 (by omega) (by omega) fun r a' b' h0 h1 h2 h3 h4 h5 => ?_
  refine Item.mk h0 h1 fun x hx _ => ?_
  refine kr.rt _ _ ?_
  refine ret1_nc (P := fun v' ce' => P v' (σ.setc k ce')) (ce := .list [.int a', .int b']) (hnc x hx) ?_ (ret x a' b' hx h2 h3 h4 h5)
  rfl
end Mine
end
section
open PySem PySem.W PyProof.Rows PySem.Calls PySem.Spec
set_option tactic.hygienic false
set_option maxHeartbeats 400000
namespace Mine
noncomputable def initP (C : Addr) (σ : St) (P : List (Str × AV) → Prop) : Prop := optL (σ.cs[0]?.bind Cell.inst?) (fun q => cnd (Nat.beq q.1 C) (P q.2) False) False
section
variable {c : Cx} {σ : St} {T : List (AV × Value)} {s : Shared} {E : Value → Shared → Prop}
theorem AC.imms {f : Value} {vs : List AV} {P : KV} (h : Mine.imms vs σ fun vs' σ' => vs'.length = vs.length ∧ AC c f vs' σ' P) : AC c f vs σ P := by
  intro T s us Q E hl r k
  refine x24 (imms_ok r (fun t ht => List.mem_append_left _ ht) hl h) fun vs' σ' j91 r2 n2 l2 => ?_
  refine x02 j91 fun hz h' => ?_
  try clear j91
  exact h' (vs.zip us ++ T) s us Q E l2 r2 fun v u σ2 s2 hp r3 => k v u σ2 s2 hp (r3.sub fun t ht => (List.mem_cons.mp ht).elim (fun e => e ▸ List.mem_cons_self) fun ht => List.mem_cons_of_mem _ (List.mem_append_right _ ht))
noncomputable def mkEnd (live : Bool) (C : Addr) (fs : List (Str × AV)) (P : KV) (σ : St) : Prop := cnd live (P (.cell σ.cs.length) (σ.push (.inst C fs))) (∀ a, P (.obj a C fs) σ)
theorem mk_any (live : Bool) {C fI : Addr} {ns : List Str} {vs : List AV} {P : KV} (o : c.Ok2) (hC : ClsOk c.w C) (hm : makesIn (hp c.w) C = true) (hi : findIn (hp c.w) (.ref C) "__init__" = some (some (.ref fI))) (hfn : isFn (hp c.w) (.ref fI) = true)
    (hf : FnOk c.w fI (Str.ofString "self" :: ns)) (hr : Room c 2) (hn : ∀ v ∈ vs, NC v) (hlen : vs.length = ns.length)
    (h : ∀ (d : Cx) (KK : KF), d.w = c.w → (d.fn fI).Ok2 → (∀ σ', (initP C σ' fun fs => mkEnd live C fs P σ) → KK .next σ') → AX (d.fn fI) (bodyOf (hp d.w) fI) ⟨(Str.ofString "self", .cell 0) :: ns.zip vs, [.inst C []]⟩ KK) : AC c (.ref C) vs σ P := by
  intro T s us Q E hl r k
  refine Rel.out r fun m adr M K R r => ?_
  have hus : us.length = ns.length := hl.symm.trans hlen
  have hrl : Rl c.w R vs us := r.rl (fun t ht => List.mem_append_left _ ht) hl hn
  have N0 : News c.h₀ c.L s.heap (R ++ (R ++ (M ++ (K ++ c.fr)))) := fun p hp => r.N p (by simp only [List.mem_append] at hp ⊢; grind)
  refine call_cls r.F o.X N0 hm hi hfn fun x dx h1 F1 N1 l1 l2 => ?_
  have l1 : ∀ p ∈ R ++ (R ++ (M ++ (K ++ c.fr))), p.1 < dx := l1
  have N2 : News c.h₀ c.L h1 ([(dx, dictOf [] 0)] ++ (((x, instObj C dx) :: R) ++ (R ++ (M ++ (K ++ c.fr))))) := fun p hp => N1 p (by simp only [List.mem_append, List.mem_cons, List.not_mem_nil, or_false] at hp ⊢; grind)
  have hus2 : (Value.ref x :: us).length = (Str.ofString "self" :: ns).length := congrArg (· + 1) hus
  refine ent (s := { s with heap := h1 }) (A := c.A.under (.builtin "type.__call__" ⟨.ref C :: us, []⟩)) (fr := R ++ (M ++ (K ++ c.fr))) (mf := M ++ (K ++ c.mf)) o hf rfl (by rw [depth_under_make]; have := hr.1; show c.dp + 1 < _; omega) F1 N2 hus2 ?_
  · intro g L' h₁ tk Kc m' ok F' N' AK hloc hKC
    let A' := c.A.under (.builtin "type.__call__" ⟨.ref C :: us, []⟩)
    let d0 : Cx := { c with dp := A'.depth + 1, un := A'.units + 3, gd := A'.guards, L := L', outer := c.fenv :: c.outer, A₀ := A', h₀ := g, fr := R ++ (M ++ (K ++ c.fr)), mf := M ++ (K ++ c.mf) }
    have ok : (d0.fn fI).Ok2 := ok
    have rd : RelD (d0.fn fI) ⟨(Str.ofString "self", .cell 0) :: ns.zip vs, [.inst C []]⟩ [(.cell 0, .ref x)] { s with heap := h₁, toks := tk } m' [x] [(dx, dictOf [] 0)] Kc ((x, instObj C dx) :: R) := by
      refine ⟨F', fun p hp => N' p ?_, ⟨fun z hz p hp => ?_, List.pairwise_singleton ..⟩, ⟨fun z hz p hp => AK.1 z hz p (List.mem_cons_of_mem _ hp), AK.2⟩, .live (.inst (fun _ h => (by cases h)) List.mem_cons_self .nil) .nil, ?_, fun t ht => ?_, r.os, r.gens, fun _ => hKC, ?_, ?_, fun _ e => by cases e⟩
      · rcases List.mem_append.mp hp with hp | hp
        · exact List.mem_append_right _ (List.mem_append_left _ hp)
        · rcases List.mem_append.mp hp with hp | hp
          · exact List.mem_append_left _ hp
          · exact List.mem_append_right _ (List.mem_append_right _ hp)
      · rcases List.mem_singleton.mp hz with rfl
        rcases List.mem_append.mp hp with hp | hp
        · exact (AK.1 p hp _ List.mem_cons_self).symm
        · have hp : p ∈ ((x, instObj C dx) :: R) ++ (R ++ (M ++ (K ++ c.fr))) := hp
          rcases List.mem_cons.mp hp with rfl | hp
          · exact Nat.ne_of_gt l2
          · exact Nat.ne_of_lt (l1 p hp)
      · intro y v hx
        have hx : ((Str.ofString "self" :: ns).zip (AV.cell 0 :: vs)).lookup y = some v := hx
        refine x12 (zip_two (us := Value.ref x :: us) (congrArg (· + 1) hl) hx) fun u h1 h2 => ?_
        refine i12 u (hloc y u h1) ?_
        rcases List.mem_cons.mp h2 with e | h2
        · cases e; exact .cell rfl
        · exact .imm ((hrl.zip _ h2).mono fun p hp => List.mem_cons_of_mem _ hp)
      · rcases List.mem_singleton.mp ht with rfl; exact .cell rfl
      · intro z hz
        have hz : z ∈ M ++ (K ++ c.mf) := hz
        show z ∈ R ++ (M ++ (K ++ c.fr))
        simp only [List.mem_append] at hz ⊢
        rcases hz with hz | hz | hz
        · exact .inr (.inl hz)
        · exact .inr (.inr (.inl hz))
        · exact .inr (.inr (.inr (r.UF.1 z hz)))
      · intro z hz p hp
        have hz : z ∈ M ++ (K ++ c.mf) := hz
        rcases List.mem_cons.mp hp with rfl | hp
        · have hz2 : z ∈ R ++ (R ++ (M ++ (K ++ c.fr))) := by
            simp only [List.mem_append] at hz ⊢
            rcases hz with hz | hz | hz
            · exact .inr (.inr (.inl hz))
            · exact .inr (.inr (.inr (.inl hz)))
            · exact .inr (.inr (.inr (.inr (r.UF.1 z hz))))
          exact Nat.ne_of_gt (Nat.lt_trans (l1 z hz2) l2)
        · simp only [List.mem_append] at hz
          rcases hz with hz | hz | hz
          · exact r.U.1 z hz p (List.mem_append_right _ (List.mem_append_left _ hp))
          · exact r.UK.1 z hz p (List.mem_append_left _ hp)
          · exact r.UF.2.1 z hz p hp
    refine wpAny_mono (h d0 (fun fl σ' => @AF.rec (fun _ => Prop) (initP C σ' fun fs => mkEnd live C fs P σ) False False (fun _ => False) fl) rfl ok (fun _ h => h) _ _ _ _ PassesOwn.leaving rd.rel ?_) (fun _ _ x => x) fun _ _ x => x
    intro fl σ' s' fl' hp hfl
    cases hfl with
    | next hr =>
      refine x12 (optL_out (show optL (σ'.cs[0]?.bind Cell.inst?) (fun q => cnd (Nat.beq q.1 C) (mkEnd live C q.2 P σ) False) False from hp)) fun j92 e hp => ?_
      obtain ⟨D, fs⟩ := j92
      refine x02 (cond_t hp) fun e1 hp => ?_
      obtain rfl := Nat.eq_of_beq_eq_true e1
      have hc : σ'.cs[0]? = some (.inst D fs) := instB e
      refine Rel.out hr fun m2 adr2 M2 K2 R2 r2 => ?_
      have ha2 := (r2.T (.cell 0, .ref x) List.mem_cons_self).cellA
      cases live with
      | false =>
        refine r2.atInst hc ha2 fun d es n _ z hi hfs _ _ _ _ fz => ?_
        obtain ⟨R', hR', hri, M', r3⟩ := fz (.obj x D fs) fun R' hR hq => .obj hC z (hR _ hi) hq (hfs.mono hR)
        refine leaveK_ r3.F r3.N fun F9 N9 => ⟨rfl, ?_⟩
        refine k _ _ _ _ (hp x) ?_
        exact Rel.sub ((r.back r3 rfl rfl rfl rfl F9 N9).add (.imm (hri.mono fun p hp => List.mem_append_left _ hp))).rel fun t ht => (List.mem_cons.mp ht).elim (fun e => e ▸ List.mem_cons_self) fun ht => List.mem_cons_of_mem _ (List.mem_append_right _ ht)
      | true =>
        refine r2.C.at (fun v e => by cases e) hc fun a' q' X1 X2 e1 e2 e3 _ _ => ?_
        obtain rfl := Option.some.inj (ha2.symm.trans e1)
        have hq : q' ∈ M2 := e3 ▸ List.mem_append_right _ List.mem_cons_self
        cases e2 with | inst z hi hfs => ?_
        refine leaveK_ r2.F r2.N fun F9 N9 => ⟨rfl, ?_⟩
        have N9 : News c.h₀ c.L s'.heap (M2 ++ (K2 ++ (R2 ++ (R ++ (M ++ (K ++ c.fr)))))) := N9
        have sub : ∀ p ∈ M ++ (K ++ ((R2 ++ R) ++ c.fr)), p ∈ K2 ++ (R2 ++ (R ++ (M ++ (K ++ c.fr)))) := fun p hp => by
          simp only [List.mem_append] at hp ⊢
          rcases hp with hp | hp | (hp | hp) | hp
          · exact .inr (.inr (.inr (.inl hp)))
          · exact .inr (.inr (.inr (.inr (.inl hp))))
          · exact .inr (.inl hp)
          · exact .inr (.inr (.inl hp))
          · exact .inr (.inr (.inr (.inr (.inr hp))))
        refine k _ _ _ _ hp (Rel.sub ((r.back r2 rfl rfl rfl rfl F9 N9).live (s' := s') F9 (fun p hp => ?_) (fun p hp => r2.U.1 _ hq p (sub p hp)) (.inst z (List.mem_append_left _ hi) (hfs.mono fun p hp => List.mem_append_left _ hp)) rfl rfl) fun t ht => (List.mem_cons.mp ht).elim (fun e => e ▸ List.mem_cons_self) fun ht => List.mem_cons_of_mem _ (List.mem_append_right _ ht))
        rcases List.mem_cons.mp hp with rfl | hp
        · exact N9 _ (List.mem_append_left _ hq)
        · exact N9 _ (List.mem_append_right _ (sub p hp))
    | ret _ => exact (show False from hp).elim
    | brk _ => exact (show False from hp).elim
    | cont _ => exact (show False from hp).elim
theorem mk_ac {C fI : Addr} {ns : List Str} {vs : List AV} {P : KV} (o : c.Ok2) (hC : C ∈ clsL) (hm : makesIn (hp c.w) C = true) (hi : findIn (hp c.w) (.ref C) "__init__" = some (some (.ref fI))) (hfn : isFn (hp c.w) (.ref fI) = true)
    (hf : fnB c.w fI (Str.ofString "self" :: ns) = true) (bd : ∀ s us, us.length = (Str.ofString "self" :: ns).length → BindsTo s (datOf (hp c.w) fI) ⟨us, []⟩ ((Str.ofString "self" :: ns).zip us)) (hr : Room c 2) (hn : ∀ v ∈ vs, NC v) (hlen : vs.length = ns.length)
    (h : ∀ (d : Cx) (KK : KF), (d.fn fI).Ok2 → (∀ σ', (initP C σ' fun fs => ∀ a, P (.obj a C fs) σ) → KK .next σ') → (lvl (d.fn fI) 12).ex (bodyOf (hp d.w) fI) ⟨(Str.ofString "self", .cell 0) :: ns.zip vs, [.inst C []]⟩ KK) : AC c (.ref C) vs σ P :=
  mk_any false o (cls_ok _ hC) hm hi hfn (.of hf bd) hr hn hlen fun d KK _ od kr => (lvl_good od 12).ex _ _ _ (h d KK od kr)
end
theorem imm_nc {v : AV} {σ : St} {P : KV} (n : NC v) (h : P v σ) : imm v σ P := by
  cases v <;> first | exact h | cases n
section
variable {c : Cx} {σ : St} {P : KV}
theorem mk52 (o : c.Ok2) (hr : Room c 2) {v0 : AV} (n0 : NC v0) (h : ∀ a, P (.obj a 52 [(Str.ofString "name", v0)]) σ) : AC c (.ref 52) [v0] σ P :=
  mk_ac (fI := 28) (ns := [Str.ofString "name"]) o (by decide) (by kernel_rfl) (by kernel_rfl) (by kernel_rfl) (by kernel_rfl) (bd2 fun _ _ => by kernel_rfl) hr (List.forall_mem_cons.mpr ⟨n0, List.forall_mem_nil _⟩) rfl fun d KK od kr => by
    refine imm_nc n0 ?_
    exact kr _ h
theorem mk94 (o : c.Ok2) (hr : Room c 2) {v0 v1 : AV} (n0 : NC v0) (n1 : NC v1) (h : ∀ a, P (.obj a 94 [(Str.ofString "kind", v0), (Str.ofString "value", v1)]) σ) : AC c (.ref 94) [v0, v1] σ P :=
  mk_ac (fI := 70) (ns := [Str.ofString "kind", Str.ofString "value"]) o (by decide) (by kernel_rfl) (by kernel_rfl) (by kernel_rfl) (by kernel_rfl) (bd3 fun _ _ _ => by kernel_rfl) hr (List.forall_mem_cons.mpr ⟨n0, List.forall_mem_cons.mpr ⟨n1, List.forall_mem_nil _⟩⟩) rfl fun d KK od kr => by
    refine imm_nc n0 ?_
    refine imm_nc n1 ?_
    exact kr _ h
theorem mk134 (o : c.Ok2) (hr : Room c 2) {v0 v1 : AV} (n0 : NC v0) (n1 : NC v1) (h : ∀ a, P (.obj a 134 [(Str.ofString "fun", v0), (Str.ofString "args", v1)]) σ) : AC c (.ref 134) [v0, v1] σ P :=
  mk_ac (fI := 112) (ns := [Str.ofString "fun", Str.ofString "args"]) o (by decide) (by kernel_rfl) (by kernel_rfl) (by kernel_rfl) (by kernel_rfl) (bd3 fun _ _ _ => by kernel_rfl) hr (List.forall_mem_cons.mpr ⟨n0, List.forall_mem_cons.mpr ⟨n1, List.forall_mem_nil _⟩⟩) rfl fun d KK od kr => by
    refine imm_nc n0 ?_
    refine imm_nc n1 ?_
    exact kr _ h
theorem mk176 (o : c.Ok2) (hr : Room c 2) {v0 v1 : AV} (n0 : NC v0) (n1 : NC v1) (h : ∀ a, P (.obj a 176 [(Str.ofString "params", v0), (Str.ofString "body", v1)]) σ) : AC c (.ref 176) [v0, v1] σ P :=
  mk_ac (fI := 152) (ns := [Str.ofString "params", Str.ofString "body"]) o (by decide) (by kernel_rfl) (by kernel_rfl) (by kernel_rfl) (by kernel_rfl) (bd3 fun _ _ _ => by kernel_rfl) hr (List.forall_mem_cons.mpr ⟨n0, List.forall_mem_cons.mpr ⟨n1, List.forall_mem_nil _⟩⟩) rfl fun d KK od kr => by
    refine imm_nc n0 ?_
    refine imm_nc n1 ?_
    exact kr _ h
theorem mk212 (o : c.Ok2) (hr : Room c 2) {v0 v1 v2 : AV} (n0 : NC v0) (n1 : NC v1) (n2 : NC v2) (h : ∀ a, P (.obj a 212 [(Str.ofString "binds", v0), (Str.ofString "body", v1), (Str.ofString "is_rec", v2)]) σ) : AC c (.ref 212) [v0, v1, v2] σ P :=
  mk_ac (fI := 194) (ns := [Str.ofString "binds", Str.ofString "body", Str.ofString "is_rec"]) o (by decide) (by kernel_rfl) (by kernel_rfl) (by kernel_rfl) (by kernel_rfl) (bd4 fun _ _ _ _ => by kernel_rfl) hr (List.forall_mem_cons.mpr ⟨n0, List.forall_mem_cons.mpr ⟨n1, List.forall_mem_cons.mpr ⟨n2, List.forall_mem_nil _⟩⟩⟩) rfl fun d KK od kr => by
    refine imm_nc n0 ?_
    refine imm_nc n1 ?_
    refine imm_nc n2 ?_
    exact kr _ h
theorem mk233 (o : c.Ok2) (hr : Room c 2) {v0 v1 v2 : AV} (n0 : NC v0) (n1 : NC v1) (n2 : NC v2) (h : ∀ a, P (.obj a 233 [(Str.ofString "key", v0), (Str.ofString "names", v1), (Str.ofString "body", v2)]) σ) : AC c (.ref 233) [v0, v1, v2] σ P :=
  mk_ac (fI := 230) (ns := [Str.ofString "key", Str.ofString "names", Str.ofString "body"]) o (by decide) (by kernel_rfl) (by kernel_rfl) (by kernel_rfl) (by kernel_rfl) (bd4 fun _ _ _ _ => by kernel_rfl) hr (List.forall_mem_cons.mpr ⟨n0, List.forall_mem_cons.mpr ⟨n1, List.forall_mem_cons.mpr ⟨n2, List.forall_mem_nil _⟩⟩⟩) rfl fun d KK od kr => by
    refine imm_nc n0 ?_
    refine imm_nc n1 ?_
    refine imm_nc n2 ?_
    exact kr _ h
theorem mk273 (o : c.Ok2) (hr : Room c 2) {v0 v1 v2 v3 : AV} (n0 : NC v0) (n1 : NC v1) (n2 : NC v2) (n3 : NC v3) (h : ∀ a, P (.obj a 273 [(Str.ofString "value", v0), (Str.ofString "name", v1), (Str.ofString "alts", v2), (Str.ofString "other", v3)]) σ) : AC c (.ref 273) [v0, v1, v2, v3] σ P :=
  mk_ac (fI := 251) (ns := [Str.ofString "value", Str.ofString "name", Str.ofString "alts", Str.ofString "other"]) o (by decide) (by kernel_rfl) (by kernel_rfl) (by kernel_rfl) (by kernel_rfl) (bd5 fun _ _ _ _ _ => by kernel_rfl) hr (List.forall_mem_cons.mpr ⟨n0, List.forall_mem_cons.mpr ⟨n1, List.forall_mem_cons.mpr ⟨n2, List.forall_mem_cons.mpr ⟨n3, List.forall_mem_nil _⟩⟩⟩⟩) rfl fun d KK od kr => by
    refine imm_nc n0 ?_
    refine imm_nc n1 ?_
    refine imm_nc n2 ?_
    refine imm_nc n3 ?_
    exact kr _ h
theorem mk313 (o : c.Ok2) (hr : Room c 2) {v0 v1 : AV} (n0 : NC v0) (n1 : NC v1) (h : ∀ a, P (.obj a 313 [(Str.ofString "name", v0), (Str.ofString "args", v1)]) σ) : AC c (.ref 313) [v0, v1] σ P :=
  mk_ac (fI := 291) (ns := [Str.ofString "name", Str.ofString "args"]) o (by decide) (by kernel_rfl) (by kernel_rfl) (by kernel_rfl) (by kernel_rfl) (bd3 fun _ _ _ => by kernel_rfl) hr (List.forall_mem_cons.mpr ⟨n0, List.forall_mem_cons.mpr ⟨n1, List.forall_mem_nil _⟩⟩) rfl fun d KK od kr => by
    refine imm_nc n0 ?_
    refine imm_nc n1 ?_
    exact kr _ h
theorem mk353 (o : c.Ok2) (hr : Room c 2) {v0 v1 : AV} (n0 : NC v0) (n1 : NC v1) (h : ∀ a, P (.obj a 353 [(Str.ofString "op", v0), (Str.ofString "args", v1)]) σ) : AC c (.ref 353) [v0, v1] σ P :=
  mk_ac (fI := 331) (ns := [Str.ofString "op", Str.ofString "args"]) o (by decide) (by kernel_rfl) (by kernel_rfl) (by kernel_rfl) (by kernel_rfl) (bd3 fun _ _ _ => by kernel_rfl) hr (List.forall_mem_cons.mpr ⟨n0, List.forall_mem_cons.mpr ⟨n1, List.forall_mem_nil _⟩⟩) rfl fun d KK od kr => by
    refine imm_nc n0 ?_
    refine imm_nc n1 ?_
    exact kr _ h
theorem mkUses (o : c.Ok2) (hr : Room c 2) (h : P (.cell σ.cs.length) (σ.push (.inst 395 [(Str.ofString "many", .int 0), (Str.ofString "in_function", .bool false)]))) : AC c (.ref 395) [] σ P :=
  mk_any true (fI := 385) (ns := []) o (cls_ok _ (by decide)) (by kernel_rfl) (by kernel_rfl) (by kernel_rfl) (.of (by kernel_rfl) (bd1 fun _ => by kernel_rfl)) hr (List.forall_mem_nil _) rfl fun d KK _ od kr => (lvl_good od 12).ex _ _ _ (by
    exact kr _ h)
end
end Mine
end
section
open PySem PySem.W PyProof.Rows PySem.Calls PySem.Spec
set_option tactic.hygienic false
set_option maxHeartbeats 400000
namespace Mine
noncomputable def notCell (n : Nat) (v : AV) : Bool := match v with
  | .cell k => Nat.blt k n
  | .clo _ _ k _ _ => Nat.blt k n
  | _ => true
noncomputable def keepN (m : List (Str × AV)) (ks : List Str) : List (Str × AV) := @List.rec _ (fun _ => List (Str × AV)) [] (fun x _ ih => @Option.rec _ (fun _ => List (Str × AV)) ih (fun v => (x, v) :: ih) (lk x m)) ks
noncomputable def St.cut (σ : St) (ks : List Str) (n : Nat) : St := ⟨keepN σ.m ks, σ.cs.take n⟩
noncomputable def cutOk (σ : St) (ks : List Str) (n : Nat) : Bool := (keepN σ.m ks).all fun q => notCell n q.2
noncomputable def Cut (ks : List Str) (n : Nat) (σ : St) (P : St → Prop) : Prop := cnd (cutOk σ ks n) (P (σ.cut ks n)) False
theorem Cut.out {ks : List Str} {n : Nat} {σ : St} {P : St → Prop} (h : Cut ks n σ P) : cutOk σ ks n = true ∧ P (σ.cut ks n) := cond_t h
theorem keepN_lk {m : List (Str × AV)} {x : Str} {v : AV} {ks : List Str} (h : (keepN m ks).lookup x = some v) : m.lookup x = some v ∧ (x, v) ∈ keepN m ks := by
  induction ks with
  | nil => cases h
  | cons k r ih =>
    have e0 : keepN m (k :: r) = @Option.rec _ (fun _ => List (Str × AV)) (keepN m r) (fun v => (k, v) :: keepN m r) (lk k m) := rfl
    rw [e0] at h ⊢
    cases e : lk k m with
    | none => rw [e] at h; exact ih h
    | some w =>
      rw [e] at h
      have h : ((k, w) :: keepN m r).lookup x = some v := h
      show _ ∧ (x, v) ∈ (k, w) :: keepN m r
      rw [List.lookup_cons] at h
      cases q : x == k with
      | true => rw [q] at h; cases h; rw [eq_of_beq q]; exact ⟨lk_eq ▸ e, List.mem_cons_self⟩
      | false => rw [q] at h; exact ⟨(ih h).1, List.mem_cons_of_mem _ (ih h).2⟩
noncomputable def Cx.wf (c : Cx) (fr mf : Led) : Cx := { c with fr := fr, mf := mf }
section
variable {c : Cx} {σ : St} {T : List (AV × Value)} {s : Shared} {E : Value → Shared → Prop} {m : Str → Option Value} {adr : List Addr} {M K R : Led}
theorem RelD.cut (r : RelD c σ T s m adr M K R) {ks : List Str} {n : Nat} (hT : ∀ t ∈ T, notCell n t.1 = true) (h : cutOk σ ks n = true) : ∃ M', RelD c (σ.cut ks n) T s m (adr.take n) M' K R ∧ ∀ p ∈ M', p ∈ M := by
  refine x12 (r.C.take n) fun M' hC hs => ?_
  have hsub : ∀ p ∈ M', p ∈ M := fun p hp => hs.subset hp
  have hv : ∀ {v u}, notCell n v = true → Rv c.w adr R v u → Rv c.w (adr.take n) R v u := by
    intro v u hn hr
    cases hr with
    | imm z => exact .imm z
    | cell e => exact .cell (by rw [List.getElem?_take_of_lt (Nat.le_of_ble_eq_true hn)]; exact e)
    | clo e q => exact .clo (by rw [List.getElem?_take_of_lt (Nat.le_of_ble_eq_true hn)]; exact e) q
  refine i12 M' ⟨r.F, fun p hp => r.N p ?_, ⟨fun q hq => r.U.1 q (hsub q hq), r.U.2.sublist hs⟩, r.UK, hC, ?_, fun t ht => hv (hT t ht) (r.T t ht), r.os, r.gens, r.KC, r.UF⟩ hsub
  · simp only [List.mem_append] at hp ⊢
    rcases hp with hp | hp
    · exact .inl (hsub p hp)
    · exact .inr hp
  · intro x v e
    refine x02 (keepN_lk e) fun e1 e2 => ?_
    refine x12 (r.V x v e1) fun u l hr => ?_
    exact i12 u l (hv (List.all_eq_true.mp h _ e2) hr)
theorem RelD.tcell (r : RelD c σ T s m adr M K R) : ∀ t ∈ T, notCell σ.cs.length t.1 = true := by
  intro t ht
  have := r.T t ht
  obtain ⟨v, u⟩ := t
  cases this with
  | imm z => cases v <;> first | rfl | cases z
  | cell e =>
    have := (List.getElem?_eq_some_iff.mp e).1
    rw [r.C.len] at this
    exact Nat.ble_eq_true_of_le this
  | clo e _ =>
    have := (List.getElem?_eq_some_iff.mp e).1
    rw [r.C.len] at this
    exact Nat.ble_eq_true_of_le this
theorem NC.notCell {n : Nat} {v : AV} (h : NC v) : notCell n v = true := by cases v <;> first | rfl | cases h
structure Nx (ks : List Str) (n : Nat) (P : KF) (J : St → Prop) (K : KF) : Prop where
  nx : ∀ σ, Cut ks n σ J → K .next σ
  ct : ∀ σ, Cut ks n σ J → K .cont σ
  br : ∀ σ, P .next σ → K .brk σ
  rt : ∀ v σ, P (.ret v) σ → K (.ret v) σ
  nk : ∀ σ, J ⟨keepN σ.m ks, σ.cs⟩ → K .next σ
noncomputable def kTurn (ks : List Str) (n : Nat) (P : KF) (J : St → Prop) : KF := fun fl σ => @AF.rec (fun _ => Prop) (Cut ks n σ J ∨ J ⟨keepN σ.m ks, σ.cs⟩) (P .next σ) (Cut ks n σ J) (fun v => P (.ret v) σ) fl
theorem kTurn_nx {ks : List Str} {n : Nat} {P : KF} {J : St → Prop} : Nx ks n P J (kTurn ks n P J) := ⟨fun _ h => .inl h, fun _ h => h, fun _ h => h, fun _ _ h => h, fun _ h => .inr h⟩
theorem Cut.all {ks : List Str} {σ : St} {P : St → Prop} (h : cutOk σ ks σ.cs.length = true) (hP : P ⟨keepN σ.m ks, σ.cs⟩) : Cut ks σ.cs.length σ P := by
  show cnd _ (P ⟨keepN σ.m ks, σ.cs.take σ.cs.length⟩) False
  rw [h, List.take_length]; exact hP
theorem RelD.keepm (r : RelD c σ T s m adr M K R) {ks : List Str} : RelD c ⟨keepN σ.m ks, σ.cs⟩ T s m adr M K R :=
  ⟨r.F, r.N, r.U, r.UK, r.C, fun x v e => r.V x v (keepN_lk e).1, r.T, r.os, r.gens, r.KC, r.UF⟩
theorem AS_while (ks : List Str) (J : Nat → St → Prop) {L : Lvl} {test : PySem.Expr} {body : List Stmt} {pos : Pos} {P : KF} (g : L.Good c) (n₀ : Nat) (h0 : Cut ks σ.cs.length σ (J n₀))
    (turn : ∀ k σ' KK, J k σ' → Nx ks σ.cs.length P (fun σ4 => ∃ k', k' < k ∧ J k' σ4) KK → L.ts test σ' fun b σ1 => Br b (L.ex body σ1 KK) (P .next σ1)) : AS c (.While test body [] pos) σ P := by
  refine ⟨fun T s Q E hE r k => ?_⟩
  refine Rel.out r fun m adr M K R r => ?_
  have hT := r.tcell
  refine x02 (Cut.out h0) fun hk0 h0 => ?_
  refine x12 (r.cut hT hk0) fun M0 rc _ => ?_
  refine wpAny_While (codeAny_whileLoop (fun k s' => ∃ σ', Rel c σ' T s' ∧ J k σ') ?_ n₀ ⟨_, rc.rel, h0⟩)
  intro j s' j91
  refine x12 j91 fun σ' r' hJ => ?_
  try clear j91
  have tn := turn j σ' _ hJ kTurn_nx
  refine wpAny_mono (g.ts _ _ _ tn T s' _ E hE r' fun b σ1 s1 hb r1 => ?_) (fun _ _ x => x) hE
  cases b with
  | false => exact wpAny_execs_nil (k _ _ _ _ (hb.2 rfl) (.next r1))
  | true =>
    refine wpAny_mono (g.ex _ _ _ (hb.1 rfl) T s1 _ E hE r1 fun fl σ3 s3 fl' h3 r3 => ?_) (fun _ _ x => x) hE
    have nx0 : Rel c σ3 T s3 → (∃ k', k' < j ∧ J k' ⟨keepN σ3.m ks, σ3.cs⟩) → ∃ k', k' < j ∧ ∃ σ', Rel c σ' T s3 ∧ J k' σ' := by
      intro j92
      refine x51 j92 fun m3 adr3 M3 K3 R3 r3 => ?_
      try clear j92
      intro j93
      refine x12 j93 fun k' hlt hJ' => ?_
      try clear j93
      exact ⟨k', hlt, _, r3.keepm.rel, hJ'⟩
    have nx : Rel c σ3 T s3 → (Cut ks σ.cs.length σ3 fun σ4 => ∃ k', k' < j ∧ J k' σ4) → ∃ k', k' < j ∧ ∃ σ', Rel c σ' T s3 ∧ J k' σ' := by
      intro r3 hc
      rcases cond_f hc with ⟨hk, k', hlt, hJ'⟩ | ⟨_, h⟩
      · refine Rel.out r3 fun m3 adr3 M3 K3 R3 r3 => ?_
        refine x12 (r3.cut hT hk) fun M' r4 _ => ?_
        exact ⟨k', hlt, _, r4.rel, hJ'⟩
      · exact h.elim
    cases r3 with
    | next r3 => exact h3.elim (nx r3) (nx0 r3)
    | cont r3 => exact nx r3 h3
    | brk r3 => exact k _ _ _ _ h3 (.next r3)
    | ret r3 => exact k _ _ _ _ h3 (.ret r3)
noncomputable def bindA (c : Cx) (t : PySem.Expr) (v : AV) (σ : St) (P : St → Prop) : Prop := match t with
  | .Name x _ => storeA c x v σ P
  | .Tuple ts _ _ => unpA c ts v σ P
  | _ => False
theorem bindA_ok (o : c.Ok2) {t : PySem.Expr} {v : AV} {u : Value} {P : St → Prop} {Q : Unit → Shared → Prop} (r : Rel c σ ((v, u) :: T) s) (h : bindA c t v σ P) (k : PoU c T P Q) : wpAny c.M c.A (assign t c.env u) Q E s := by
  cases t with
  | Name => exact wpAny_assign_Name (storeA_ok o r h k)
  | Tuple => exact unpA_ok o r h k
  | _ => exact (show False from h).elim
theorem Ok2.wf (o : c.Ok2) {fr mf : Led} (h : ∀ p ∈ c.fr, p ∈ fr) : (c.wf fr mf).Ok2 :=
  { B := o.B, X := o.X, T := o.T, k := o.k, sk := fun sc cl C ob m₀ e => ⟨(o.sk sc cl C ob m₀ e).1, h _ (o.sk sc cl C ob m₀ e).2⟩, nd := o.nd, nc := o.nc, ci := o.ci, fx := fun q hq => (let ⟨a, b, ob, h1, h2⟩ := o.fx q hq; ⟨a, b, ob, h _ h1, h2⟩) }
theorem Loc.wf {x : Str} {u : Value} {fr mf : Led} (hs : c.sub = none) : Loc c m K x u → Loc (c.wf fr mf) m K x u
  | .loc a b d => .loc a b d
  | .cel a b d e => .cel a b d e
  | .fre z _ _ _ _ => by rw [hs] at z; cases z
  | .own a _ _ _ => by rw [hs] at a; cases a
  | .fix h => .fix h
theorem Loc.fw {x : Str} {u : Value} {fr mf : Led} (hs : c.sub = none) : Loc (c.wf fr mf) m K x u → Loc c m K x u
  | .loc a b d => .loc a b d
  | .cel a b d e => .cel a b d e
  | .fre z _ _ _ _ => by have z : c.sub.isSome = true := z; rw [hs] at z; cases z
  | .own a _ _ _ => by have a : c.sub = some _ := a; rw [hs] at a; cases a
  | .fix h => .fix h
theorem RelD.more (r : RelD c σ T s m adr M K R) (hs : c.sub = none) {fr mf : Led} (N : News c.h₀ c.L s.heap (M ++ (K ++ (R ++ fr)))) (hM : ∀ q ∈ M, ∀ p ∈ fr, p.1 ≠ q.1) (hK : ∀ q ∈ K, ∀ p ∈ fr, p.1 ≠ q.1) (h1 : ∀ q ∈ mf, q ∈ fr) (h2 : ∀ q ∈ mf, ∀ p ∈ R, p.1 ≠ q.1) :
    RelD (c.wf fr mf) σ T s m adr M K R :=
  ⟨r.F, N, ⟨fun q hq p hp => by
      rcases List.mem_append.mp hp with h | h
      · exact r.U.1 q hq p (List.mem_append_left _ h)
      · rcases List.mem_append.mp h with h | h
        · exact r.U.1 q hq p (List.mem_append_right _ (List.mem_append_left _ h))
        · exact hM q hq p h, r.U.2⟩, ⟨fun q hq p hp => by
      rcases List.mem_append.mp hp with h | h
      · exact r.UK.1 q hq p (List.mem_append_left _ h)
      · exact hK q hq p h, r.UK.2⟩, r.C, fun x v e => (let ⟨u, l, h⟩ := r.V x v e; ⟨u, l.wf hs, h⟩), r.T, r.os, r.gens, r.KC, h1, h2, r.UF.2.2⟩
theorem RelD.less {fr mf : Led} (r : RelD (c.wf fr mf) σ T s m adr M K R) (hs : c.sub = none) (h : ∀ p ∈ c.fr, p ∈ fr) (hm : ∀ p ∈ c.mf, p ∈ mf) (hmf : ∀ q ∈ c.mf, q ∈ c.fr) : RelD c σ T s m adr M K R :=
  ⟨r.F, fun p hp => r.N p (by
      simp only [List.mem_append] at hp ⊢
      rcases hp with hp | hp | hp | hp
      · exact .inl hp
      · exact .inr (.inl hp)
      · exact .inr (.inr (.inl hp))
      · exact .inr (.inr (.inr (h p hp)))), ⟨fun q hq p hp => r.U.1 q hq p (by
      simp only [List.mem_append] at hp ⊢
      rcases hp with hp | hp | hp
      · exact .inl hp
      · exact .inr (.inl hp)
      · exact .inr (.inr (h p hp))), r.U.2⟩, ⟨fun q hq p hp => r.UK.1 q hq p (by
      simp only [List.mem_append] at hp ⊢
      rcases hp with hp | hp
      · exact .inl hp
      · exact .inr (h p hp)), r.UK.2⟩, r.C, fun x v e => (let ⟨u, l, h⟩ := r.V x v e; ⟨u, l.fw hs, h⟩), r.T, r.os, r.gens, r.KC, hmf, fun q hq p hp => r.UF.2.1 q (hm q hq) p hp, r.UF.2.2⟩
theorem for_core (o : c.Ok2) (hs : c.sub = none) {I : Addr} {fp : List Addr} {item : Nat → Value → Prop} {l : List AV} {S : Nat → Heap → Prop} {t : PySem.Expr} {body : List Stmt} {P : KF} {Q : Flow → Shared → Prop} {ks : List Str}
    (W : Walks pg c.w c.A I fp [I] l.length item S) (hfp : ∀ b ∈ fp, b = I ∨ ∃ ob, (b, ob) ∈ R ++ c.fr) (hI : ∀ i h, S i h → ∃ ob, h.get? I = some ob)
    (hgo : ∀ i v (s : Shared) (Q : Unit → Shared → Prop) (E : Value → Shared → Prop), S i s.heap → Q () s → wpAny c.M c.A (letOwnedTupleGo t (.ref I) v) Q E s)
    {n : Nat} (hn : σ.cs.length = n) (J : List AV → St → Prop) (hE : PassesOwn c.M c.A c.env E) (r : RelD c σ T s m adr M K R) (hl : ∀ i v, i < l.length → item i v → ∃ x, l[i]? = some x ∧ Ri c.w R x v) (hS : S 0 s.heap) (hIo : ∀ p ∈ M ++ (K ++ (R ++ c.fr)), p.1 ≠ I) (hI0 : c.h₀.get? I = none) (hIL : I ≠ c.L)
    (h0 : J l σ) (hnil : ∀ σ', J [] σ' → P .next σ')
    (turn : ∀ (fr mf : Led) x r σ' KK, (c.wf fr mf).Ok2 → J (x :: r) σ' → NC x → Nx ks n P (J r) KK → bindA (c.wf fr mf) t x σ' fun σ1 => (lvl (c.wf fr mf) 60).ex body σ1 KK) (k : PoF c T P Q) :
    codeAny c.M c.A (.forLoop t (.ref I) body [] c.env) (fun r s' => match r with | .ok f => Q f s' | .error e => cameBackBy c.M c.A c.env E e s') s := by
  have hT := r.tcell
  rw [hn] at hT
  have U0 : ∀ q ∈ c.mf, q ∈ R ++ c.fr := fun q hq => List.mem_append_right _ (r.UF.1 q hq)
  have r0 : RelD (c.wf (R ++ c.fr) c.mf) σ T s m adr M K R := r.more hs (fun p hp => r.N p (by simp only [List.mem_append] at hp ⊢; grind)) (fun q hq p hp => r.U.1 q hq p (List.mem_append_right _ hp)) (fun q hq p hp => r.UK.1 q hq p hp) U0 r.UF.2.1
  refine codeAny_forLoop_any (fun k s' => ∃ i σ' m' adr' M' K' R', RelD (c.wf (R ++ c.fr) c.mf) σ' T s' m' adr' M' K' R' ∧ (∀ p ∈ M' ++ (K' ++ (R' ++ (R ++ c.fr))), p.1 ≠ I) ∧ S i s'.heap ∧ J (l.drop i) σ' ∧ i ≤ l.length ∧ k = l.length + 1 - i) ?_ (l.length + 1)
    ⟨0, σ, m, adr, M, K, R, r0, fun p hp => hIo p (by simp only [List.mem_append] at hp ⊢; grind), hS, by rw [List.drop_zero]; exact h0, Nat.zero_le _, rfl⟩
  intro k' s' j94
  obtain ⟨i, σ', m', adr', M', K', R', r', off, hS', hJ, hi, rfl⟩ := j94
  have keep : ∀ h₁ : Heap, (∀ b ob, b ∉ [I] → s'.heap.get? b = some ob → h₁.get? b = some ob) → Fr c.h₀ c.L h₁ m' ∧ News c.h₀ c.L h₁ (M' ++ (K' ++ (R' ++ (R ++ c.fr)))) := fun h₁ hk =>
    ⟨⟨r'.F.ns.at' fun ob e => hk _ ob (by simp only [List.mem_singleton]; exact fun q => hIL q.symm) e, fun b ob e => hk b ob (by simp only [List.mem_singleton]; exact fun q => by rw [q, hI0] at e; cases e) (r'.F.keep b ob e), r'.F.above⟩,
     fun p hp => ⟨hk _ _ (by simp only [List.mem_singleton]; exact off p hp) (r'.N p hp).1, (r'.N p hp).2⟩⟩
  by_cases hlt : i < l.length
  · refine W.item i s' _ _ hlt hS' fun v h₁ tk hv hS₁ hk => ?_
    refine x02 (keep h₁ hk) fun F₁ N₁ => ?_
    have hdrop : ∃ x, l.drop i = x :: l.drop (i + 1) ∧ Ri c.w R x v := by
      refine x12 (hl i v hlt hv) fun x hx hr => ?_
      refine i12 x ?_ hr
      rw [List.getElem?_eq_getElem hlt] at hx
      cases hx
      exact List.drop_eq_getElem_cons hlt
    refine x12 hdrop fun x hx hxr => ?_
    try clear hdrop
    rw [hx] at hJ
    refine hgo (i + 1) v _ _ _ hS₁ ?_
    refine x11 (hI _ _ hS₁) fun it hit => ?_
    have r1 : RelD (c.wf (R ++ c.fr) c.mf) σ' T { s' with heap := h₁, toks := tk } m' adr' M' K' R' := r'.heap F₁ N₁ rfl rfl
    have N2 : News c.h₀ c.L h₁ (M' ++ (K' ++ ((R' ++ R) ++ ((I, it) :: (R ++ c.fr))))) := fun p hp => by
      by_cases e : p = (I, it)
      · subst e; exact ⟨hit, hIL, hI0⟩
      · refine N₁ p ?_
        simp only [List.mem_append, List.mem_cons] at hp ⊢
        rcases hp with hp | hp | (hp | hp) | hp | hp | hp
        · exact .inl hp
        · exact .inr (.inl hp)
        · exact .inr (.inr (.inl hp))
        · exact .inr (.inr (.inr (.inl hp)))
        · exact absurd hp e
        · exact .inr (.inr (.inr (.inl hp)))
        · exact .inr (.inr (.inr (.inr hp)))
    have offM : ∀ q ∈ M', q.1 ≠ I := fun q hq => off q (List.mem_append_left _ hq)
    have offK : ∀ q ∈ K', q.1 ≠ I := fun q hq => off q (List.mem_append_right _ (List.mem_append_left _ hq))
    have offR : ∀ q ∈ R' ++ R, q.1 ≠ I := fun q hq => off q (by simp only [List.mem_append] at hq ⊢; grind)
    have r2 : RelD (c.wf ((I, it) :: (R ++ c.fr)) ((I, it) :: c.mf)) σ' ((x, v) :: T) { s' with heap := h₁, toks := tk } m' adr' M' K' (R' ++ R) := by
      refine ⟨F₁, N2, ⟨fun q hq p hp => ?_, r'.U.2⟩, ⟨fun q hq p hp => ?_, r'.UK.2⟩, r'.C.mono fun p hp => List.mem_append_left _ hp, ?_, ?_, r1.os, r1.gens, r'.KC, ?_, ?_, r'.UF.2.2⟩
      · have hp : p ∈ K' ++ ((R' ++ R) ++ ((I, it) :: (R ++ c.fr))) := hp
        simp only [List.mem_append, List.mem_cons] at hp
        rcases hp with hp | (hp | hp) | hp | hp
        · exact r'.U.1 q hq p (List.mem_append_left _ hp)
        · exact r'.U.1 q hq p (List.mem_append_right _ (List.mem_append_left _ hp))
        · exact r'.U.1 q hq p (List.mem_append_right _ (List.mem_append_right _ (List.mem_append_left _ hp)))
        · subst hp; exact (offM q hq).symm
        · exact r'.U.1 q hq p (List.mem_append_right _ (List.mem_append_right _ (List.mem_append.mpr hp)))
      · have hp : p ∈ (R' ++ R) ++ ((I, it) :: (R ++ c.fr)) := hp
        simp only [List.mem_append, List.mem_cons] at hp
        rcases hp with (hp | hp) | hp | hp
        · exact r'.UK.1 q hq p (List.mem_append_left _ hp)
        · exact r'.UK.1 q hq p (List.mem_append_right _ (List.mem_append_left _ hp))
        · subst hp; exact (offK q hq).symm
        · exact r'.UK.1 q hq p (List.mem_append_right _ (List.mem_append.mpr hp))
      · intro y w e
        refine x12 (r'.V y w e) fun u lc h => ?_
        exact i12 u ((lc.fw hs).wf hs) (h.mono fun p hp => List.mem_append_left _ hp)
      · intro z hz
        rcases List.mem_cons.mp hz with rfl | hz
        · exact .imm (hxr.mono fun p hp => List.mem_append_right _ hp)
        · exact (r'.T z hz).mono fun p hp => List.mem_append_left _ hp
      · intro q hq
        rcases List.mem_cons.mp hq with rfl | hq
        · exact List.mem_cons_self
        · exact List.mem_cons_of_mem _ (U0 q hq)
      · intro q hq p hp
        rcases List.mem_cons.mp hq with rfl | hq
        · exact offR p hp
        · rcases List.mem_append.mp hp with hp | hp
          · exact r'.UF.2.1 q hq p hp
          · exact r.UF.2.1 q hq p hp
    have o' : (c.wf ((I, it) :: (R ++ c.fr)) ((I, it) :: c.mf)).Ok2 := Ok2.wf o fun p hp => List.mem_cons_of_mem _ (List.mem_append_right _ hp)
    have tn := turn _ _ x (l.drop (i + 1)) σ' _ o' hJ hxr.nc kTurn_nx
    refine wpAny_mono (bindA_ok o' r2.rel tn fun σ1 s1 h1 rr1 => wpAny_mono ((lvl_good o' 60).ex _ _ _ h1 T s1 _ E hE rr1 fun fl σ3 s3 fl' h3 r3 => ?_) (fun _ _ x => x) hE) (fun _ _ x => x) hE
    have back : ∀ {σ3 m3 adr3 M3 K3 R3} {T3}, RelD (c.wf ((I, it) :: (R ++ c.fr)) ((I, it) :: c.mf)) σ3 T3 s3 m3 adr3 M3 K3 R3 → RelD (c.wf (R ++ c.fr) c.mf) σ3 T3 s3 m3 adr3 M3 K3 R3 := fun r3 => r3.less (c := c.wf (R ++ c.fr) c.mf) hs (fun p hp => List.mem_cons_of_mem _ hp) (fun p hp => List.mem_cons_of_mem _ hp) U0
    have out : ∀ {σ3 T3}, Rel (c.wf ((I, it) :: (R ++ c.fr)) ((I, it) :: c.mf)) σ3 T3 s3 → Rel c σ3 T3 s3 := fun ⟨m3, adr3, M3, K3, R3, r3⟩ => ⟨m3, adr3, M3, K3, R3, (back r3).less hs (fun p hp => List.mem_append_right _ hp) (fun p hp => hp) r.UF.1⟩
    have core : ∀ {σ4 m3 adr4 M4 K3 R3}, RelD (c.wf ((I, it) :: (R ++ c.fr)) ((I, it) :: c.mf)) σ4 T s3 m3 adr4 M4 K3 R3 → J (l.drop (i + 1)) σ4 → ∃ n', n' < l.length + 1 - i ∧ ∃ i σ' m' adr' M' K' R', RelD (c.wf (R ++ c.fr) c.mf) σ' T s3 m' adr' M' K' R' ∧ (∀ p ∈ M' ++ (K' ++ (R' ++ (R ++ c.fr))), p.1 ≠ I) ∧ S i s3.heap ∧ J (l.drop i) σ' ∧ i ≤ l.length ∧ n' = l.length + 1 - i := by
      intro σ4 m3 adr4 M4 K3 R3 r4 hJ'
      have hfr : ∀ p ∈ (I, it) :: (R ++ c.fr), s3.heap.get? p.1 = some p.2 := fun p hp => (r4.N p (List.mem_append_right _ (List.mem_append_right _ (List.mem_append_right _ hp)))).1
      refine ⟨l.length + 1 - (i + 1), by omega, i + 1, _, m3, _, M4, K3, R3, back r4, ?_, ?_, hJ', hlt, rfl⟩
      · intro p hp
        simp only [List.mem_append] at hp
        have hIm : (I, it) ∈ (c.wf ((I, it) :: (R ++ c.fr)) ((I, it) :: c.mf)).fr := List.mem_cons_self
        rcases hp with hp | hp | hp | hp
        · exact (r4.U.1 p hp _ (List.mem_append_right _ (List.mem_append_right _ hIm))).symm
        · exact (r4.UK.1 p hp _ (List.mem_append_right _ hIm)).symm
        · exact r4.UF.2.1 (I, it) List.mem_cons_self p hp
        · exact hIo p (by simp only [List.mem_append]; exact .inr (.inr hp))
      · refine W.frame _ _ _ hS₁ fun b hb ob e => ?_
        rcases hfp b hb with rfl | ⟨ob', hm⟩
        · rw [hit] at e; cases e; exact hfr _ List.mem_cons_self
        · have := (N₁ (b, ob') (List.mem_append_right _ (List.mem_append_right _ (List.mem_append_right _ hm)))).1
          rw [this] at e; cases e
          exact hfr (b, ob') (List.mem_cons_of_mem _ hm)
    cases r3 with
    | next r3 =>
      refine Rel.out r3 fun m3 adr3 M3 K3 R3 r3 => ?_
      rcases h3 with hc | hJ'
      · refine x02 (Cut.out hc) fun hk hJ' => ?_
        refine x12 (r3.cut hT hk) fun M4 r4 _ => ?_
        exact core r4 hJ'
      · exact core r3.keepm hJ'
    | cont r3 =>
      refine Rel.out r3 fun m3 adr3 M3 K3 R3 r3 => ?_
      refine x02 (Cut.out h3) fun hk hJ' => ?_
      refine x12 (r3.cut hT hk) fun M4 r4 _ => ?_
      exact core r4 hJ'
    | brk r3 => exact k _ _ _ _ h3 (.next (out r3))
    | ret r3 => exact k _ _ _ _ h3 (.ret (out r3))
  · have hin : i = l.length := by omega
    subst hin
    refine W.done s' _ _ hS' fun h₁ tk hk => wpAny_execs_nil ?_
    refine x02 (keep h₁ hk) fun F₁ N₁ => ?_
    have hd : l.drop l.length = [] := List.drop_eq_nil_of_le (by omega)
    rw [hd] at hJ
    have r1 : RelD (c.wf (R ++ c.fr) c.mf) σ' T { s' with heap := h₁, toks := tk } m' adr' M' K' R' := r'.heap F₁ N₁ rfl rfl
    exact k _ _ _ _ (hnil _ hJ) (.next (r1.less hs (fun p hp => List.mem_append_right _ hp) (fun p hp => hp) r.UF.1).rel)
structure Turns (c : Cx) (t : PySem.Expr) (body : List Stmt) (ks : List Str) (P : KF) (J : List AV → St → Prop) (l : List AV) (σ : St) : Prop where
  h0 : Cut ks σ.cs.length σ (J l)
  hnil : ∀ σ', J [] σ' → P .next σ'
  turn : ∀ (fr mf : Led) x r σ' KK, (c.wf fr mf).Ok2 → J (x :: r) σ' → NC x → Nx ks σ.cs.length P (J r) KK → bindA (c.wf fr mf) t x σ' fun σ1 => (lvl (c.wf fr mf) 60).ex body σ1 KK
noncomputable def intsR (n : Int) : List AV := (List.range n.toNat).map fun (i : Nat) => AV.int (i : Int)
theorem letGo_rangeiter {E : Value → Shared → Prop} {target : PySem.Expr} {I : Addr} {x y z : Int} {v : Value} {Q' : Unit → Shared → Prop} {s' : Shared} (hit : IsRangeIter s'.heap I x y z) (h : Q' () s') :
    wpAny c.M c.A (letOwnedTupleGo target (.ref I) v) Q' E s' := by
  unfold letOwnedTupleGo
  cases target <;> first
    | exact wpAny_pure h
    | (cases v <;> first
        | exact wpAny_pure h
        | exact wpAny_bind (wpAny_load hit (wpAny_pure h)))
inductive forL (c : Cx) (t : PySem.Expr) (body : List Stmt) (P : KF) : AV → St → Prop
  | mk {l : List AV} {σ : St} (ks : List Str) (J : List AV → St → Prop) (h : Turns c t body ks P J l σ) : forL c t body P (.lst l) σ
  | rng {n : Int} {σ : St} (ks : List Str) (J : List AV → St → Prop) (h : Turns c t body ks P J (intsR n) σ) : forL c t body P (.rng n) σ
theorem noSet {it : PySem.Expr} {env : Env} (h : isSet it = false) (x : Value) : foldedSetIterable it env x = pure x := by
  cases it <;> first | rfl | cases h
theorem AS_for {L : Lvl} {t it : PySem.Expr} {body : List Stmt} {pos : Pos} {P : KF} (g : L.Good c) (o : c.Ok2) (hs : c.sub = none) (hset : isSet it = false)
    (h : L.ev it σ fun v σ1 => imm v σ1 fun v' σ2 => forL c t body P v' σ2) : AS c (.For t it body [] pos) σ P := by
  refine ⟨fun T s Q E hE r k => ?_⟩
  refine wpAny_For (g.ev _ _ _ h T s _ E hE r fun v u σ1 s1 h1 r1 => ?_) (noSet hset)
  refine x23 (imm_ok r1 List.mem_cons_self h1) fun v' σ2 h2 r2 n2 => ?_
  cases h2 with
  | @mk l _ ks J H =>
    refine Rel.out r2 fun m adr M K R r2 => ?_
    have hv := r2.ri List.mem_cons_self n2
    cases hv with
    | @lst _ vs a n hz hm hl =>
      have r3 : RelD c σ2 T s1 m adr M K R := r2.tail.tail
      have hmem : (a, listOf vs.toArray n) ∈ M ++ (K ++ (R ++ c.fr)) := List.mem_append_right _ (List.mem_append_right _ (List.mem_append_left _ hm))
      have hax := r3.N _ hmem
      have hli : s1.heap.IsList a vs.toArray := News.isList r3.N hmem
      have hlt : ∀ p ∈ M ++ (K ++ (R ++ c.fr)), p.1 < s1.heap.objs.size := fun p hp => Heap.lt_size (r3.N p hp).1
      have hne : a ≠ s1.heap.objs.size := Nat.ne_of_lt (hlt _ hmem)
      refine wpAny_pyIter_list hli ?_
      have W := Walks.list (prog := pg) (w := c.w) (A := c.A) rfl s1.heap.objs.size a hne vs.toArray
      have e1 : vs.toArray.size = vs.length := by simp
      rw [e1] at W
      have W' : Walks pg c.w c.A s1.heap.objs.size [s1.heap.objs.size, a] [s1.heap.objs.size] vs.length (fun i v => vs[i]? = some v) (fun i h => h.IsListIter s1.heap.objs.size a i ∧ h.IsList a vs.toArray) := by
        have e2 : (fun (i : Nat) (v : Value) => vs.toArray[i]? = some v) = fun i v => vs[i]? = some v := by funext i v; simp
        rw [e2] at W; exact W
      rw [hl.len] at W'
      have hl9 : ∀ i v, i < l.length → vs[i]? = some v → ∃ x, l[i]? = some x ∧ Ri c.w R x v := fun i v hlt hv => by
        refine x12 (hl.get (List.getElem?_eq_getElem hlt)) fun u hu hr => ?_
        rw [hv] at hu; cases hu
        exact i12 _ (List.getElem?_eq_getElem hlt) hr
      have r4 : RelD c σ2 T { s1 with heap := s1.heap.push { cls := .type "list_iterator", data := .fields #[.ref a, .int 0 0] } } m adr M K R :=
        r3.heap (r3.F.push _) (fun p hp => ⟨Heap.get?_push_of_some _ (r3.N p hp).1, (r3.N p hp).2⟩) rfl rfl
      refine x02 (Cut.out H.h0) fun hk0 h0 => ?_
      refine x12 (r4.cut r4.tcell hk0) fun M0 r5 hM0 => ?_
      refine for_core o hs W' ?_ (fun i h hh => ?_) (fun i v s Q E st q => letGo_listiter st.1 q) (by show (σ2.cs.take _).length = σ2.cs.length; rw [List.length_take, Nat.min_self]) J hE r5 hl9 ⟨⟨_, Heap.get?_push_size _ rfl, rfl, rfl⟩, hli.at fun ob e => Heap.get?_push_of_some _ e⟩ (fun p hp => Nat.ne_of_lt (hlt p (by simp only [List.mem_append] at hp ⊢; rcases hp with hp | hp; exact .inl (hM0 p hp); exact .inr hp))) (next_is_new r3.F) ?_ h0 H.hnil H.turn k
      · intro b hb
        rcases List.mem_cons.mp hb with rfl | hb
        · exact .inl rfl
        · rcases List.mem_singleton.mp hb with rfl
          exact .inr ⟨_, List.mem_append_left _ hm⟩
      · refine x12 hh.1 fun ob h1 _ => ?_
        exact ⟨ob, h1⟩
      · exact fun e => absurd r3.F.ns.lt (by rw [← e]; exact Nat.lt_irrefl _)
  | @rng z _ ks J H =>
    refine Rel.out r2 fun m adr M K R r2 => ?_
    have hv := r2.ri List.mem_cons_self n2
    cases hv with
    | @rng a _ t0 u0 v0 z0 z1 hm =>
      have r3 : RelD c σ2 T s1 m adr M K R := r2.tail.tail
      have hmem := List.mem_append_right M (List.mem_append_right K (List.mem_append_left c.fr hm))
      have hir : IsRange s1.heap a 0 z 1 t0 u0 v0 := (r3.N _ hmem).1
      have hlt : ∀ p ∈ M ++ (K ++ (R ++ c.fr)), p.1 < s1.heap.objs.size := fun p hp => Heap.lt_size (r3.N p hp).1
      refine wpAny_pyIter_range hir (small_one (by omega) (by omega) (by omega) (by omega)) ?_
      have W := Walks.range (prog := pg) (w := c.w) (A := c.A) rfl s1.heap.objs.size 0 1 (intsR z).length
      have hlen : (intsR z).length = z.toNat := by unfold intsR; simp
      have hsz : Builtin.Range.rangeSize 0 z 1 = ((intsR z).length : Int) - (0 : Nat) := by rw [rangeSize_one, hlen]; split <;> omega
      have r4 : RelD c σ2 T { s1 with heap := s1.heap.push { cls := .type "range_iterator", data := .fields #[rawInt 0, rawInt (Builtin.Range.rangeSize 0 z 1), rawInt 1] } } m adr M K R :=
        r3.heap (r3.F.push _) (fun p hp => ⟨Heap.get?_push_of_some _ (r3.N p hp).1, (r3.N p hp).2⟩) rfl rfl
      refine x02 (Cut.out H.h0) fun hk0 h0 => ?_
      refine x12 (r4.cut r4.tcell hk0) fun M0 r5 hM0 => ?_
      refine for_core o hs W ?_ (fun i h hh => ⟨_, hh⟩) (fun i v s Q E st q => letGo_rangeiter st q) (by show (σ2.cs.take _).length = σ2.cs.length; rw [List.length_take, Nat.min_self]) J hE r5 (fun i v hi hv => ?_) ?_ (fun p hp => Nat.ne_of_lt (hlt p (by simp only [List.mem_append] at hp ⊢; rcases hp with hp | hp; exact .inl (hM0 p hp); exact .inr hp))) (next_is_new r3.F) ?_ h0 H.hnil H.turn k
      · intro b hb; exact .inl (List.mem_singleton.mp hb)
      · refine x11 hv fun tt e96 => ?_
        try clear hv
        obtain rfl := e96
        rw [hlen] at hi
        refine i12 (.int (i : Int)) ?_ ?_
        · unfold intsR
          rw [List.getElem?_map, List.getElem?_range hi]; rfl
        · have e : (0 : Int) + (i : Int) * 1 = (i : Int) := by omega
          rw [e]; exact .int
      · rw [hsz]; exact Heap.get?_push_size _ rfl
      · exact fun e => absurd r3.F.ns.lt (by rw [← e]; exact Nat.lt_irrefl _)
end
theorem isTup_f {c : Cx} {L : Lvl} {es : List PySem.Expr} {k k2 : Nat} {tp p2 pos : Pos} {ts : List PySem.Expr} {names : List Str} {σ : St} {P : KF} (g : L.Good c) (o : c.Ok2) (hs : es.any isStar = false) (hz : Nat.ble es.length 1000 = true) (hn : names.length = es.length)
    (hw : swappedStores [.Tuple ts k tp] (.Tuple es k2 p2) c.env = pure (some names))
    (h : evs L es σ fun vs σ1 => storesN c names.reverse vs.reverse σ1 (P .next)) : AS c (.Assign [.Tuple ts k tp] (.Tuple es k2 p2) pos) σ P := by
  refine ⟨fun T s Q E hE r kk => ?_⟩
  refine Assign_Tuple_swapped (Tuple_ (evs_ok g hs hE r h fun vs us σ' s' h' hl hl2 r' => ?_)) rfl hw
  refine Rel.out r' fun m adr M K R r' => ?_
  refine kup_newTuple r'.F r'.N (fun D h1 F1 N1 hlt => ?_) (by rw [sizeLine_eq]; have := Nat.le_of_ble_eq_true hz; omega)
  have r2 := r'.still (s' := { s' with heap := h1 }) (q := (D, tupOf us)) F1 N1 (fun p hp => Nat.ne_of_lt (hlt p hp)) rfl rfl
  refine unpackItemsN_ r2.F r2.N (News.isTup r2.N (List.mem_append_right _ (List.mem_append_right _ (List.mem_append_left _ List.mem_cons_self)))) rfl (by rw [List.size_toArray]; omega) fun h2 F2 N2 => ?_
  have r3 : RelD c σ' (vs.zip us ++ T) { s' with heap := h2 } m adr M K ((D, tupOf us) :: R) := r2.heap F2 N2 rfl rfl
  refine storesN_ok (T := T) o Lk.bind h' (by simpa using hl) (r3.rel.sub fun t ht => ?_) fun σ3 s3 h3 r3 => kk _ _ _ _ h3 (.next r3)
  rcases List.mem_append.mp ht with ht | ht
  · refine List.mem_append_left _ ?_
    have e : vs.reverse.zip us.reverse = (vs.zip us).reverse := by
      rw [List.zip_eq_zipWith, List.zip_eq_zipWith, List.reverse_zipWith hl]
    rw [e] at ht
    exact List.mem_reverse.mp ht
  · exact List.mem_append_right _ ht
end Mine
end
section
open PySem PySem.W PyProof.Rows
set_option tactic.hygienic false
set_option maxHeartbeats 400000
namespace Mine
noncomputable abbrev oVar (a : Addr) (n : Str) : AV := .obj a 52 [(Str.ofString "name", .str n)]
noncomputable abbrev oLit (a : Addr) (k : Int) : AV := .obj a 94 [(Str.ofString "kind", .str (Str.ofString "int")), (Str.ofString "value", .int k)]
noncomputable abbrev oApp (a : Addr) (f : AV) (xs : List AV) : AV := .obj a 134 [(Str.ofString "fun", f), (Str.ofString "args", .lst xs)]
noncomputable abbrev oLam (a : Addr) (ps : List AV) (b : AV) : AV := .obj a 176 [(Str.ofString "params", .lst ps), (Str.ofString "body", b)]
noncomputable abbrev oLet (a : Addr) (bs : List AV) (b : AV) (r : Bool) : AV := .obj a 212 [(Str.ofString "binds", .lst bs), (Str.ofString "body", b), (Str.ofString "is_rec", .bool r)]
noncomputable abbrev oAlt (a : Addr) (k : AV) (ns : List AV) (b : AV) : AV := .obj a 233 [(Str.ofString "key", k), (Str.ofString "names", .lst ns), (Str.ofString "body", b)]
noncomputable abbrev oCase (a : Addr) (v : AV) (n : Str) (as : List AV) (ot : AV) : AV := .obj a 273 [(Str.ofString "value", v), (Str.ofString "name", .str n), (Str.ofString "alts", .lst as), (Str.ofString "other", ot)]
noncomputable abbrev oCon (a : Addr) (xs : List AV) : AV := .obj a 313 [(Str.ofString "name", .str (Str.ofString "C")), (Str.ofString "args", .lst xs)]
noncomputable abbrev oPrim (a : Addr) (xs : List AV) : AV := .obj a 353 [(Str.ofString "op", .str (Str.ofString "intAdd")), (Str.ofString "args", .lst xs)]
inductive Binds : List AV → List Str → List AV → Prop
  | nil : Binds [] [] []
  | cons {n : Str} {e : AV} {bs ns es} : Binds bs ns es → Binds (.tup [.str n, e] :: bs) (n :: ns) (e :: es)
inductive Alts : List AV → List (AV × List AV) → List AV → Prop
  | nil : Alts [] [] []
  | cons {a : Addr} {k : List AV} {ns : List AV} {b : AV} {as ks bs} : Alts as ks bs → Alts (oAlt a (.tup k) ns b :: as) ((.tup k, ns) :: ks) (b :: bs)
inductive Node : AV → List AV → Prop
  | var {a n} : Node (oVar a n) []
  | lit {a k} : Node (oLit a k) []
  | app {a f xs} : Node (oApp a f xs) (f :: xs)
  | lam {a ps b} : Node (oLam a ps b) [b]
  | let_ {a bs b r ns es} : Binds bs ns es → Node (oLet a bs b r) (es ++ [b])
  | case {a v n as ks bs} : Alts as ks bs → Node (oCase a v n as .none) (v :: bs)
  | caseO {a v n as ks bs a' C fs} : Alts as ks bs → Node (oCase a v n as (.obj a' C fs)) (v :: (bs ++ [.obj a' C fs]))
  | con {a xs} : Node (oCon a xs) xs
  | prim {a xs} : Node (oPrim a xs) xs
inductive Tr where
  | node (v : AV) (ks : List Tr)
noncomputable def Tr.v : Tr → AV
  | .node v _ => v
inductive Wf : Tr → Prop
  | node {v : AV} {ks : List Tr} : Node v (ks.map Tr.v) → (∀ k ∈ ks, Wf k) → Wf (.node v ks)
mutual
noncomputable def size : Tr → Nat
  | .node _ ks => 1 + sizeL ks
noncomputable def sizeL : List Tr → Nat
  | [] => 0
  | k :: r => size k + sizeL r
end
theorem sizeL_app : ∀ {a b : List Tr}, sizeL (a ++ b) = sizeL a + sizeL b
  | [], b => by simp [sizeL]
  | x :: a, b => by simp only [List.cons_append, sizeL, sizeL_app (a := a)]; omega
theorem size_pos : ∀ t : Tr, 1 ≤ size t
  | .node v ks => by simp [size]
theorem len_size : ∀ (l : List Tr), l.length ≤ sizeL l
  | [] => by simp [sizeL]
  | a :: l => by have := len_size l; have := size_pos a; simp only [List.length_cons, sizeL]; omega
inductive Prs : List AV → List AV → Prop
  | nil : Prs [] []
  | cons {k sc ps ks} : Prs ps ks → Prs (.tup [k, sc] :: ps) (k :: ks)
theorem Node.nc {v : AV} {ks : List AV} (h : Node v ks) : NC v := by cases h <;> exact nc_obj
theorem Wf.nc {t : Tr} : Wf t → NC t.v
  | .node h _ => h.nc
noncomputable def partsFn (v : AV) : Addr := match v with
  | .obj _ C _ => (lk (Str.ofString "parts") (lkN C meths)).getD 0
  | _ => 0
end Mine
end
section
open PySem PySem.W PyProof.Rows PySem.Calls PySem.Spec PyProof.Rows.LCg
set_option tactic.hygienic false
set_option maxHeartbeats 400000
namespace Mine
noncomputable def Cx.cmp (c : Cx) (sc : Scope) (cl : List (Str × Addr)) (C : Addr) (oC : Obj) (m : Str → Option Value) (fr mf : Led) : Cx := { c with sub := some (sc, cl, C, oC, m), fr := fr, mf := mf, fc := [] }
noncomputable def two {α : Type} (l : List α) : Option (α × α) := @List.rec _ (fun _ => Option (α × α)) none (fun x r _ => @List.rec _ (fun _ => Option (α × α)) none (fun y r _ => @List.rec _ (fun _ => Option (α × α)) (some (x, y)) (fun _ _ _ => none) r) r) l
theorem two_eq {α : Type} {l : List α} {q : α × α} (h : two l = some q) : l = [q.1, q.2] := by
  cases l with
  | nil => cases h
  | cons x l => cases l with
    | nil => cases h
    | cons y l => cases l with
      | nil => cases h; rfl
      | cons => cases h
noncomputable def AV.tup? (v : AV) : Option (List AV) := match v with
  | .tup l => some l
  | _ => Option.none
theorem tup?_eq {v : AV} {l : List AV} (h : v.tup? = some l) : v = .tup l := by
  cases v with
  | tup => cases h; rfl
  | _ => cases h
noncomputable def names2 (ts : List PySem.Expr) : Option (Str × Str) := (namesOf ts).bind two
theorem namesOf_nil {ts : List PySem.Expr} (h : namesOf ts = some []) : ts = [] := by
  cases ts with
  | nil => rfl
  | cons t ts => exact (namesOf_cons h).elim fun _ h => h.elim fun _ h => h.elim fun _ h => nomatch h.2.2
theorem namesOf_one {ts : List PySem.Expr} {x : Str} {r : List Str} (h : namesOf ts = some (x :: r)) : ∃ p ts', ts = .Name x p :: ts' ∧ namesOf ts' = some r := by
  cases ts with
  | nil => cases h
  | cons t ts => exact (namesOf_cons h).elim fun y h => h.elim fun p h => h.elim fun ys h => ⟨p, ts, by rw [h.1, (List.cons.inj h.2.2).1], by rw [h.2.1, (List.cons.inj h.2.2).2]⟩
theorem names2_eq {ts : List PySem.Expr} {q : Str × Str} (h : names2 ts = some q) : ∃ p1 p2, ts = [.Name q.1 p1, .Name q.2 p2] := by
  refine x12 (Option.bind_eq_some_iff.mp h) fun xs e1 e2 => ?_
  refine x22 (namesOf_one (two_eq e2 ▸ e1)) fun p1 t1 ea e3 => ?_
  refine x22 (namesOf_one e3) fun p2 t2 eb e4 => ?_
  exact ⟨p1, p2, by rw [ea, eb, namesOf_nil e4]⟩
theorem look1 {y w : Str} {a v : AV} (e : List.lookup w [(y, a)] = some v) : w = y ∧ v = a := by
  rw [List.lookup_cons] at e
  cases q : w == y with
  | true => rw [q] at e; exact ⟨eq_of_beq q, (Option.some.inj e).symm⟩
  | false => rw [q] at e; cases e
theorem look2 {y z w : Str} {a b v : AV} (e : List.lookup w [(y, a), (z, b)] = some v) : (w = y ∧ v = a) ∨ (w = z ∧ v = b) := by
  rw [List.lookup_cons] at e
  cases q : w == y with
  | true => rw [q] at e; exact .inl ⟨eq_of_beq q, (Option.some.inj e).symm⟩
  | false => rw [q] at e; exact .inr (look1 e)
theorem Rl.pair {w : World} {R : Led} {a b : AV} {vs : List Value} {Q : List Value → Prop} (h : Rl w R [a, b] vs) (k : ∀ u v, Ri w R a u → Ri w R b v → Q [u, v]) : Q vs := by
  cases h with | cons h1 h => cases h with | cons h2 h => cases h with | nil => exact k _ _ h1 h2
noncomputable def bindM (t : PySem.Expr) (v : AV) : Option (List (Str × AV)) := match t with
  | .Name x _ => some [(x, v)]
  | .Tuple ts _ _ => (names2 ts).bind fun q => (v.tup?.bind two).map fun z => [(q.1, z.1), (q.2, z.2)]
  | _ => none
noncomputable def tgtOk (sc : Scope) (t : PySem.Expr) : Bool := match t with
  | .Name x _ => lk x sc.names == some .local
  | .Tuple ts _ _ => (names2 ts).any fun q => lk q.1 sc.names == some .local && lk q.2 sc.names == some .local && !seq q.1 q.2
  | _ => false
noncomputable def isCF (o : Option NameKind) : Bool := match o with
  | some .cell => true
  | some .free => true
  | _ => false
theorem isCF_eq {o : Option NameKind} (h : isCF o = true) : o = some .cell ∨ o = some .free := by
  cases o with
  | none => cases h
  | some k => cases k <;> first | exact .inl rfl | exact .inr rfl | cases h
noncomputable def impOk (c : Cx) (sc : Scope) (ks : List Str) : Bool := ks.all fun x => isCF (lk x (relabel sc c.fenv).names) && lk x c.cs.names == some .cell
noncomputable def impEq (c : Cx) (cl : List (Str × Addr)) : List Str → Prop
  | [] => True
  | x :: r => lk x cl = lk x c.cl ∧ impEq c cl r
theorem impEq_all {c : Cx} {cl : List (Str × Addr)} : ∀ {ks : List Str}, impEq c cl ks → ∀ x ∈ ks, lk x cl = lk x c.cl := by
  intro ks
  induction ks with
  | nil => intro _ x h; cases h
  | cons y r ih => intro h x hx; rcases List.mem_cons.mp hx with rfl | hx; exact h.1; exact ih h.2 x hx
noncomputable def cmpB (c : Cx) (sc : Scope) (t : PySem.Expr) (ks : List Str) : Bool :=
  sc.kind == .function && (sc.names.all fun y => y.2 != .cell) && (sc.names.all fun y => y.2 != .local || sc.names.lookup y.1 == some .local) && tgtOk sc t && impOk c sc ks &&
  (relabel sc c.fenv).names.lookup ("__debug__" : Str) == none && (relabel sc c.fenv).names.lookup ("__classdict__" : Str) == none
noncomputable def cmpScope (c : Cx) (sc : Scope) (t : PySem.Expr) (ks : List Str) (cl : List (Str × Addr)) : Prop := cmpB c sc t ks = true ∧ impEq c cl ks
section
variable {c : Cx} {σ : St} {T : List (AV × Value)} {s : Shared} {E : Value → Shared → Prop} {m : Str → Option Value} {adr : List Addr} {M K R : Led}
theorem RelD.hold (r : RelD c σ T s m adr M K R) : ∃ H : List (AV × Value), (∀ x v, σ.m.lookup x = some v → ∃ u, Loc c m K x u ∧ (v, u) ∈ H) ∧ ∀ t ∈ H, Rv c.w adr R t.1 t.2 := by
  have V := r.V
  generalize hm : σ.m = l at V
  clear hm
  have gen : ∀ l' : List (Str × AV), (∀ q ∈ l', ∃ u, (l.lookup q.1 = some q.2 → Loc c m K q.1 u ∧ Rv c.w adr R q.2 u)) → ∃ H : List (AV × Value), (∀ q ∈ l', l.lookup q.1 = some q.2 → ∃ u, Loc c m K q.1 u ∧ (q.2, u) ∈ H) ∧ ∀ t ∈ H, Rv c.w adr R t.1 t.2 := by
    intro l'
    induction l' with
    | nil => intro _; exact ⟨[], fun _ h => (by cases h), fun _ h => (by cases h)⟩
    | cons q l' ih =>
      intro h
      refine x12 (ih fun q hq => h q (List.mem_cons_of_mem _ hq)) fun H h1 h2 => ?_
      refine x11 (h q List.mem_cons_self) fun u hu => ?_
      by_cases e : l.lookup q.1 = some q.2
      · refine i12 ((q.2, u) :: H) (fun q' hq' e' => ?_) (fun t ht => ?_)
        · rcases List.mem_cons.mp hq' with rfl | hq'
          · exact i12 u ((hu e).1) List.mem_cons_self
          · refine x12 (h1 q' hq' e') fun u' a b => ?_
            exact i12 u' a (List.mem_cons_of_mem _ b)
        · rcases List.mem_cons.mp ht with rfl | ht
          · exact (hu e).2
          · exact h2 t ht
      · refine i12 H (fun q' hq' e' => ?_) h2
        rcases List.mem_cons.mp hq' with rfl | hq'
        · exact absurd e' e
        · exact h1 q' hq' e'
  obtain ⟨H, h1, h2⟩ := gen l fun q hq => by
    by_cases e : l.lookup q.1 = some q.2
    · refine x12 (V _ _ e) fun u a b => ?_
      exact ⟨u, fun _ => ⟨a, b⟩⟩
    · exact ⟨.none, fun e' => absurd e' e⟩
  exact i12 H (fun x v e => h1 (x, v) (lookup_mem9 e) e) h2
theorem bindM_ok {sc : Scope} {cl : List (Str × Addr)} {C : Addr} {t : PySem.Expr} {x : AV} {u : Value} {bs : List (Str × AV)} {mm : Str → Option Value} {Q : Unit → Shared → Prop} {led : Led} (hk : sc.kind = .function) (ht : tgtOk sc t = true) (hb : bindM t x = some bs) (hx : Ri c.w R x u)
    (N : News c.h₀ c.L s.heap led) (hR : ∀ p ∈ R, p ∈ led) (hn : s.heap.Ns C mm)
    (k : ∀ h' tk m₂, h'.Ns C m₂ → (∀ b ob, b ≠ C → s.heap.get? b = some ob → h'.get? b = some ob) → (∀ y v, bs.lookup y = some v → (compEnvC sc cl C c.fenv).kindOf y = some .local ∧ ∃ w, m₂ y = some w ∧ Ri c.w R v w) → Q () { s with heap := h', toks := tk }) :
    wpAny c.M c.A (assign t (compEnvC sc cl C c.fenv) u) Q E s := by
  have hp : ((compEnvC sc cl C c.fenv).scope.kind == .class || ((compEnvC sc cl C c.fenv).scope.kind == .module && (compEnvC sc cl C c.fenv).locals != (compEnvC sc cl C c.fenv).globals)) = false := by
    show (sc.kind == .class || (sc.kind == .module && _)) = false
    rw [hk]; rfl
  have lcl : ∀ {y : Str}, lk y sc.names = some .local → (compEnvC sc cl C c.fenv).kindOf y = some .local := fun e => lookup_relabel_local ((lk_eq (l := sc.names)).symm.trans e)
  cases t with
  | Name y p =>
    cases hb
    have hl := lcl (eq_of_beq ht)
    refine wpAny_assign_Name (wpAny_storeName_local hl hn (fun h' hn' hs' => k h' _ _ hn' (fun b ob hb e => hs'.extBut b ob hb e) ?_) hp)
    intro z v e
    rw [(look1 e).1, (look1 e).2]
    exact ⟨hl, u, if_pos rfl, hx⟩
  | Tuple ts n p =>
    refine x12 (Option.bind_eq_some_iff.mp (show (names2 ts).bind (fun q => (x.tup?.bind two).map fun z => [(q.1, z.1), (q.2, z.2)]) = some bs from hb)) fun j91 e1 hb => ?_
    obtain ⟨y, z⟩ := j91
    have ht : (names2 ts).any (fun q => lk q.1 sc.names == some .local && lk q.2 sc.names == some .local && !seq q.1 q.2) = true := ht
    rw [e1] at ht
    refine x21 (names2_eq e1) fun py pz e92 => ?_
    obtain rfl := e92
    refine x12 (Option.map_eq_some_iff.mp hb) fun j93 e2 e94 => ?_
    obtain ⟨va, vb⟩ := j93
    obtain rfl := e94
    refine x12 (Option.bind_eq_some_iff.mp e2) fun l e3 e4 => ?_
    obtain rfl := tup?_eq e3
    obtain rfl := two_eq e4
    refine x02 (Bool.and_eq_true_iff.mp ht) fun h12 h3 => ?_
    refine x02 (Bool.and_eq_true_iff.mp h12) fun h1 h2 => ?_
    have hl1 := lcl (eq_of_beq h1)
    have hl2 := lcl (eq_of_beq h2)
    have hne : y ≠ z := fun e => by subst e; rw [seq_iff, beq_self_eq_true] at h3; cases h3
    refine hx.tupI (Q := fun u => wpAny c.M c.A (assign (.Tuple [.Name y py, .Name z pz] n p) (compEnvC sc cl C c.fenv) u) Q E s) fun us ta hm hl => ?_
    refine hl.pair (Q := fun us => (ta, tupOf us) ∈ R → wpAny c.M c.A (assign (.Tuple [.Name y py, .Name z pz] n p) (compEnvC sc cl C c.fenv) (.ref ta)) Q E s) (fun ua ub ha hbb hm => ?_) hm
    refine kcp_assign (env := compEnvC sc cl C c.fenv) rfl ⟨_, (N _ (hR _ hm)).1, rfl, _, rfl⟩ hl1 hl2 hp hn fun h' tk hn' hs' => k h' tk _ hn' hs' ?_
    intro w v e
    rcases look2 e with e | e
    · rw [e.1, e.2]; exact ⟨hl1, _, by rw [if_neg hne, if_pos rfl], ha⟩
    · rw [e.1, e.2]; exact ⟨hl2, _, if_pos rfl, hbb⟩
  | _ => cases hb
noncomputable def cTest (L : Lvl) (cts : List PySem.Expr) (σ : St) (X Y : St → Prop) : Prop := @List.rec _ (fun _ => Prop) (X σ) (fun ct r _ => arg0 r (L.ts ct σ fun b σ1 => Br b (X σ1) (Y σ1)) False) cts
structure CNx (J : List AV → List AV → List Cell → Prop) (r ys : List AV) (n : Nat) (KE : KV) (KN : St → Prop) : Prop where
  el : ∀ y σ, imm y σ (fun y' σ3 => J r (ys ++ [y']) (σ3.cs.take n)) → KE y σ
  no : ∀ σ, J r ys (σ.cs.take n) → KN σ
structure Comp (c : Cx) (sc : Scope) (cl : List (Str × Addr)) (t elt : PySem.Expr) (cts : List PySem.Expr) (ks : List Str) (J : List AV → List AV → List Cell → Prop) (l : List AV) (σ : St) (P : List AV → List Cell → Prop) : Prop where
  h0 : J l [] σ.cs
  hlen : ∀ l ys cs, J l ys cs → cs.length = σ.cs.length
  hnil : ∀ ys cs, J [] ys cs → P ys cs
  turn : ∀ (C : Addr) (oC : Obj) (m : Str → Option Value) (fr mf : Led) x r ys cs KE KN, (c.cmp sc cl C oC m fr mf).Ok2 → J (x :: r) ys cs → NC x → CNx J r ys σ.cs.length KE KN → ∃ bs, bindM t x = some bs ∧
    cTest (lvl (c.cmp sc cl C oC m fr mf) 60) cts ⟨bs ++ keepN σ.m ks, cs⟩ (fun σ1 => (lvl (c.cmp sc cl C oC m fr mf) 60).ev elt σ1 KE) KN
theorem cmp_ok2 (o : c.Ok2) {sc : Scope} {cl : List (Str × Addr)} {C : Addr} {oC : Obj} {fr mf : Led} {t : PySem.Expr} {ks : List Str} (h : cmpScope c sc t ks cl) (hm : (C, oC) ∈ fr) : (c.cmp sc cl C oC m fr mf).Ok2 := by
  replace h := h.1
  unfold cmpB at h
  simp only [Bool.and_eq_true] at h
  refine x02 h fun j95 h7 => ?_
  try clear h
  refine x02 j95 fun j96 h6 => ?_
  try clear j95
  refine x02 j96 fun j97 h5 => ?_
  try clear j96
  refine x02 j97 fun j98 h4 => ?_
  try clear j97
  refine x02 j98 fun j99 h3 => ?_
  try clear j98
  refine x02 j99 fun h1 h2 => ?_
  try clear j99
  exact { B := o.B, X := o.X, T := o.T, k := o.k, sk := fun sc cl C ob m₀ e => (by cases e; exact ⟨eq_of_beq h1, hm⟩), nd := eq_of_beq h6, nc := eq_of_beq h7, ci := o.ci, fx := fun _ h => (by cases h) }
theorem keepN_mem {m : List (Str × AV)} {x : Str} {v : AV} {ks : List Str} (h : (x, v) ∈ keepN m ks) : x ∈ ks := by
  induction ks with
  | nil => cases h
  | cons k r ih =>
    have h : (x, v) ∈ @Option.rec _ (fun _ => List (Str × AV)) (keepN m r) (fun v => (k, v) :: keepN m r) (lk k m) := h
    cases e : lk k m with
    | none => rw [e] at h; exact List.mem_cons_of_mem _ (ih h)
    | some w =>
      rw [e] at h
      rcases List.mem_cons.mp h with h | h
      · cases h; exact List.mem_cons_self
      · exact List.mem_cons_of_mem _ (ih h)
theorem cmp_in (o : c.Ok2) (hs : c.sub = none) {sc : Scope} {cl : List (Str × Addr)} {I C D : Addr} {it oC oD : Obj} {t : PySem.Expr} {ks : List Str} {adr' : List Addr} {M' R' : Led} {H Z : List (AV × Value)} {cs : List Cell} {bs : List (Str × AV)} {m₂ : Str → Option Value}
    (hsc : cmpScope c sc t ks cl) (r : RelD c σ T s m adr M K R) {s' : Shared} (r' : RelD (c.wf (R ++ c.fr) c.mf) ⟨σ.m, cs⟩ (Z ++ (H ++ T)) s' m adr' M' K R')
    (hH : ∀ x v, σ.m.lookup x = some v → ∃ u, Loc c m K x u ∧ (v, u) ∈ H) (off : ∀ p ∈ M' ++ (K ++ (R' ++ (R ++ c.fr))), p.1 ≠ I ∧ p.1 ≠ C ∧ p.1 ≠ D)
    (hI : s'.heap.get? I = some it ∧ I ≠ c.L ∧ c.h₀.get? I = none) (hC : s'.heap.get? C = some oC ∧ C ≠ c.L ∧ c.h₀.get? C = none) (hD : s'.heap.get? D = some oD ∧ D ≠ c.L ∧ c.h₀.get? D = none)
    (hn : NsObj oC m₂) (hb : ∀ y v, bs.lookup y = some v → (compEnvC sc cl C c.fenv).kindOf y = some .local ∧ ∃ w, m₂ y = some w ∧ Ri c.w (R' ++ R) v w) :
    RelD (c.cmp sc cl C oC m ((I, it) :: (C, oC) :: (D, oD) :: (K ++ (R ++ c.fr))) ((I, it) :: (C, oC) :: (D, oD) :: (K ++ c.mf))) ⟨bs ++ keepN σ.m ks, cs⟩ (Z ++ (H ++ T)) s' m adr' M' [] (R' ++ R) := by
  have hR : ∀ p ∈ R', p ∈ R' ++ R := fun p hp => List.mem_append_left _ hp
  have mem3 : ∀ {p : Addr × Obj} {X : Led}, p ∈ (I, it) :: (C, oC) :: (D, oD) :: X → p = (I, it) ∨ p = (C, oC) ∨ p = (D, oD) ∨ p ∈ X := by
    intro p X h; simpa only [List.mem_cons] using h
  have inoff : ∀ q, q ∈ M' ++ (K ++ (R' ++ (R ++ c.fr))) → ∀ p, (p = (I, it) ∨ p = (C, oC) ∨ p = (D, oD)) → p.1 ≠ q.1 := by
    intro q hq p hp
    rcases hp with rfl | rfl | rfl
    · exact (off q hq).1.symm
    · exact (off q hq).2.1.symm
    · exact (off q hq).2.2.symm
  refine ⟨r'.F, ?_, ⟨?_, r'.U.2⟩, ⟨fun _ h => (by cases h), .nil⟩, r'.C.mono hR, ?_, fun t ht => (r'.T t ht).mono hR, r'.os, r'.gens, fun e => (by cases e), ?_, ?_, fun q e => (by cases e; rfl)⟩
  · intro p hp
    have hp : p ∈ M' ++ ([] ++ ((R' ++ R) ++ ((I, it) :: (C, oC) :: (D, oD) :: (K ++ (R ++ c.fr))))) := hp
    by_cases e1 : p = (I, it)
    · subst e1; exact hI
    by_cases e2 : p = (C, oC)
    · subst e2; exact hC
    by_cases e3 : p = (D, oD)
    · subst e3; exact hD
    refine r'.N p ?_
    show p ∈ M' ++ (K ++ (R' ++ (R ++ c.fr)))
    simp only [List.mem_append, List.mem_cons, List.not_mem_nil, false_or] at hp ⊢
    rcases hp with hp | (hp | hp) | hp | hp | hp | hp | hp | hp
    · exact .inl hp
    · exact .inr (.inr (.inl hp))
    · exact .inr (.inr (.inr (.inl hp)))
    · exact absurd hp e1
    · exact absurd hp e2
    · exact absurd hp e3
    · exact .inr (.inl hp)
    · exact .inr (.inr (.inr (.inl hp)))
    · exact .inr (.inr (.inr (.inr hp)))
  · intro q hq p hp
    have hp : p ∈ [] ++ ((R' ++ R) ++ ((I, it) :: (C, oC) :: (D, oD) :: (K ++ (R ++ c.fr)))) := hp
    have g := fun h => r'.U.1 q hq p h
    rcases List.mem_append.mp hp with hp | hp
    · cases hp
    rcases List.mem_append.mp hp with hp | hp
    · rcases List.mem_append.mp hp with hp | hp
      · exact g (List.mem_append_right _ (List.mem_append_left _ hp))
      · exact g (List.mem_append_right _ (List.mem_append_right _ (List.mem_append_left _ hp)))
    rcases mem3 hp with h | h | h | hp
    · exact inoff q (List.mem_append_left _ hq) p (.inl h)
    · exact inoff q (List.mem_append_left _ hq) p (.inr (.inl h))
    · exact inoff q (List.mem_append_left _ hq) p (.inr (.inr h))
    rcases List.mem_append.mp hp with hp | hp
    · exact g (List.mem_append_left _ hp)
    · exact g (List.mem_append_right _ (List.mem_append_right _ hp))
  · intro x v e
    have e : (bs ++ keepN σ.m ks).lookup x = some v := e
    rw [List.lookup_append] at e
    cases eb : bs.lookup x with
    | some w =>
      rw [eb] at e; cases e
      obtain ⟨hl, w', h1, h2⟩ := hb _ _ eb
      exact i12 w' (.own rfl hl hn h1) (.imm h2)
    | none =>
      rw [eb] at e
      have e : (keepN σ.m ks).lookup x = some v := e
      refine x02 (keepN_lk e) fun e1 e2 => ?_
      refine x12 (hH x v e1) fun u lc hu => ?_
      refine i12 u ?_ ((r'.T _ (List.mem_append_right _ (List.mem_append_left _ hu))).mono hR)
      have hx : x ∈ ks := keepN_mem e2
      have h2 := impEq_all hsc.2 x hx
      have hsc := hsc.1
      unfold cmpB impOk at hsc
      simp only [Bool.and_eq_true] at hsc
      have := List.all_eq_true.mp hsc.1.1.2 x hx
      simp only [Bool.and_eq_true] at this
      refine x02 this fun h1 h3 => ?_
      try clear this
      cases lc with
      | loc a b d =>
        have b : c.env.kindOf x = some .local := b
        have : c.env = c.fenv := by unfold Cx.env; rw [hs]
        rw [this] at b
        have h3 := (lk_eq (l := c.cs.names)).symm.trans (eq_of_beq h3)
        rw [show c.fenv.kindOf x = c.cs.names.lookup x from rfl, h3] at b
        cases b
      | @cel ca ob a b d e =>
        refine .fre rfl ?_ ?_ (List.mem_cons_of_mem _ (List.mem_cons_of_mem _ (List.mem_cons_of_mem _ (List.mem_append_left _ d)))) e
        · show (relabel sc c.fenv).names.lookup x = some .cell ∨ (relabel sc c.fenv).names.lookup x = some .free
          rw [← lk_eq]
          exact isCF_eq h1
        · show cl.lookup x = some ca
          have : c.env = c.fenv := by unfold Cx.env; rw [hs]
          rw [this] at b
          rw [← lk_eq, h2, lk_eq]; exact b
      | fre z _ _ _ _ => rw [hs] at z; cases z
      | own a _ _ _ => rw [hs] at a; cases a
      | fix h =>
        have b := (o.fx _ h).1
        have : c.env = c.fenv := by unfold Cx.env; rw [hs]
        rw [this] at b
        have h3 := (lk_eq (l := c.cs.names)).symm.trans (eq_of_beq h3)
        rw [show c.fenv.kindOf x = c.cs.names.lookup x from rfl, h3] at b
        cases b
  · intro q hq
    rcases mem3 hq with rfl | rfl | rfl | hq
    · exact List.mem_cons_self
    · exact List.mem_cons_of_mem _ List.mem_cons_self
    · exact List.mem_cons_of_mem _ (List.mem_cons_of_mem _ List.mem_cons_self)
    · refine List.mem_cons_of_mem _ (List.mem_cons_of_mem _ (List.mem_cons_of_mem _ ?_))
      rcases List.mem_append.mp hq with hq | hq
      · exact List.mem_append_left _ hq
      · exact List.mem_append_right _ (List.mem_append_right _ (r.UF.1 q hq))
  · intro q hq p hp
    have hp2 : p ∈ M' ++ (K ++ (R' ++ (R ++ c.fr))) := by
      simp only [List.mem_append] at hp ⊢
      rcases hp with hp | hp
      · exact .inr (.inr (.inl hp))
      · exact .inr (.inr (.inr (.inl hp)))
    rcases mem3 hq with h | h | h | hq
    · exact (inoff p hp2 q (.inl h)).symm
    · exact (inoff p hp2 q (.inr (.inl h))).symm
    · exact (inoff p hp2 q (.inr (.inr h))).symm
    · rcases List.mem_append.mp hq with hq | hq
      · refine r'.UK.1 q hq p ?_
        show p ∈ R' ++ (R ++ c.fr)
        simp only [List.mem_append] at hp ⊢
        rcases hp with hp | hp
        · exact .inl hp
        · exact .inr (.inl hp)
      · rcases List.mem_append.mp hp with hp | hp
        · exact r'.UF.2.1 q hq p hp
        · exact r.UF.2.1 q hq p hp
theorem cmp_out (hs : c.sub = none) {sc : Scope} {cl : List (Str × Addr)} {I C D : Addr} {it oC oD : Obj} {adr₄ : List Addr} {M₄ K₄ R₄ : Led} {H Z : List (AV × Value)} {σ₄ : St} {n : Nat} {s₄ s₅ : Shared} {m₄ : Str → Option Value}
    (r : RelD c σ T s m adr M K R) (r₄ : RelD (c.cmp sc cl C oC m ((I, it) :: (C, oC) :: (D, oD) :: (K ++ (R ++ c.fr))) ((I, it) :: (C, oC) :: (D, oD) :: (K ++ c.mf))) σ₄ (Z ++ (H ++ T)) s₄ m₄ adr₄ M₄ K₄ R₄)
    (hH : ∀ x v, σ.m.lookup x = some v → ∃ u, Loc c m K x u ∧ (v, u) ∈ H) (hn : ∀ t ∈ Z ++ (H ++ T), notCell n t.1 = true) (offR : ∀ p ∈ R ++ c.fr, p.1 ≠ I ∧ p.1 ≠ C ∧ p.1 ≠ D) (offK : ∀ p ∈ K, p.1 ≠ I ∧ p.1 ≠ C ∧ p.1 ≠ D)
    (hk : ∀ b ob, b ≠ D → s₄.heap.get? b = some ob → s₅.heap.get? b = some ob) (ho : s₅.os = s₄.os) (hg : s₅.gens = s₄.gens) (hD : D ≠ c.L ∧ c.h₀.get? D = none) :
    ∃ adr₅ M₅, RelD (c.wf (R ++ c.fr) c.mf) ⟨σ.m, σ₄.cs.take n⟩ (Z ++ (H ++ T)) s₅ m adr₅ M₅ K R₄ ∧ (∀ p ∈ M₅ ++ (K ++ (R₄ ++ (R ++ c.fr))), p.1 ≠ I ∧ p.1 ≠ C ∧ p.1 ≠ D) := by
  have hm : m₄ = m := r₄.UF.2.2 _ rfl
  subst hm
  refine x12 (r₄.cut (ks := []) hn rfl) fun M₅ r₅ hM => ?_
  have U₅ : ∀ q ∈ M₅, ∀ p ∈ K₄ ++ (R₄ ++ ((I, it) :: (C, oC) :: (D, oD) :: (K ++ (R ++ c.fr)))), p.1 ≠ q.1 := r₅.U.1
  have UF : ∀ q ∈ (I, it) :: (C, oC) :: (D, oD) :: (K ++ c.mf), ∀ p ∈ R₄, p.1 ≠ q.1 := r₅.UF.2.1
  have offM : ∀ q ∈ M₅, q.1 ≠ I ∧ q.1 ≠ C ∧ q.1 ≠ D := fun q hq =>
    ⟨(U₅ q hq (I, it) (by simp)).symm, (U₅ q hq (C, oC) (by simp)).symm, (U₅ q hq (D, oD) (by simp)).symm⟩
  have offR4 : ∀ q ∈ R₄, q.1 ≠ I ∧ q.1 ≠ C ∧ q.1 ≠ D := fun q hq => ⟨UF (I, it) (by simp) q hq, UF (C, oC) (by simp) q hq, UF (D, oD) (by simp) q hq⟩
  have off : ∀ p ∈ M₅ ++ (K ++ (R₄ ++ (R ++ c.fr))), p.1 ≠ I ∧ p.1 ≠ C ∧ p.1 ≠ D := by
    intro p hp
    rcases List.mem_append.mp hp with hp | hp
    · exact offM p hp
    rcases List.mem_append.mp hp with hp | hp
    · exact offK p hp
    rcases List.mem_append.mp hp with hp | hp
    · exact offR4 p hp
    · exact offR p hp
  refine i22 (adr₄.take n) M₅ ⟨⟨r₅.F.ns.at' fun ob e => hk _ ob hD.1.symm e, fun b ob e => hk b ob (fun q => by have e : c.h₀.get? b = some ob := e; rw [q, hD.2] at e; cases e) (r₅.F.keep b ob e), r₅.F.above⟩, ?_, ⟨?_, r₅.U.2⟩, ⟨?_, r.UK.2⟩, r₅.C, ?_, r₅.T, ho.trans r₅.os, hg.trans r₅.gens, r.KC, ?_, ?_, fun q e => ?_⟩ off
  · intro p hp
    have z := r₅.N p (by
      show p ∈ M₅ ++ (K₄ ++ (R₄ ++ ((I, it) :: (C, oC) :: (D, oD) :: (K ++ (R ++ c.fr)))))
      simp only [List.mem_append, List.mem_cons]
      have hp : p ∈ M₅ ++ (K ++ (R₄ ++ (R ++ c.fr))) := hp
      simp only [List.mem_append] at hp
      rcases hp with hp | hp | hp | hp | hp
      · exact .inl hp
      · exact .inr (.inr (.inr (.inr (.inr (.inr (.inl hp))))))
      · exact .inr (.inr (.inl hp))
      · exact .inr (.inr (.inr (.inr (.inr (.inr (.inr (.inl hp)))))))
      · exact .inr (.inr (.inr (.inr (.inr (.inr (.inr (.inr hp))))))))
    exact ⟨hk _ _ (off p hp).2.2 z.1, z.2⟩
  · intro q hq p hp
    refine U₅ q hq p (List.mem_append_right _ ?_)
    have hp : p ∈ K ++ (R₄ ++ (R ++ c.fr)) := hp
    simp only [List.mem_append, List.mem_cons] at hp ⊢
    rcases hp with hp | hp | hp | hp
    · exact .inr (.inr (.inr (.inr (.inl hp))))
    · exact .inl hp
    · exact .inr (.inr (.inr (.inr (.inr (.inl hp)))))
    · exact .inr (.inr (.inr (.inr (.inr (.inr hp)))))
  · intro q hq p hp
    have hp : p ∈ R₄ ++ (R ++ c.fr) := hp
    rcases List.mem_append.mp hp with hp | hp
    · exact UF q (by simp [hq]) p hp
    · exact r.UK.1 q hq p hp
  · intro x v e
    refine x12 (hH x v e) fun u lc hu => ?_
    exact i12 u (lc.wf hs) (r₅.T _ (List.mem_append_right _ (List.mem_append_left _ hu)))
  · intro q hq
    exact List.mem_append_right _ (r.UF.1 q hq)
  · intro q hq p hp
    exact UF q (by have hq : q ∈ c.mf := hq; simp [hq]) p hp
  · have e : c.sub = some q := e; rw [hs] at e; cases e
end
end Mine
end
section
open PySem PySem.W PyProof.Rows PySem.Calls PySem.Spec PyProof.Rows.LCg
set_option tactic.hygienic false
set_option maxHeartbeats 400000
namespace Mine
section
variable {c : Cx} {σ : St} {T : List (AV × Value)} {s : Shared} {E : Value → Shared → Prop} {m : Str → Option Value} {adr : List Addr} {M K R : Led}
noncomputable def CmpI (c : Cx) (σ : St) (T : List (AV × Value)) (m : Str → Option Value) (K R : Led) (H : List (AV × Value)) (I C D : Addr) (S : Nat → Heap → Prop) (J : List AV → List AV → List Cell → Prop) (l : List AV) (N k : Nat) (s' : Shared) : Prop :=
  ∃ (i : Nat) (ys : List AV) (us : List Value) (cs : List Cell) (adr' : List Addr) (M' R' : Led) (mC : Str → Option Value), RelD (c.wf (R ++ c.fr) c.mf) ⟨σ.m, cs⟩ (ys.zip us ++ (H ++ T)) s' m adr' M' K R' ∧ s'.heap.get? D = some (listOf us.toArray us.length) ∧ s'.heap.Ns C mC ∧
    (∀ p ∈ M' ++ (K ++ (R' ++ (R ++ c.fr))), p.1 ≠ I ∧ p.1 ≠ C ∧ p.1 ≠ D) ∧ S i s'.heap ∧ J (l.drop i) ys cs ∧ ys.length = us.length ∧ ys.length ≤ i ∧ (∀ y ∈ ys, NC y) ∧ i ≤ N ∧ k = N + 1 - i
structure CmpS (c : Cx) (σ : St) (T : List (AV × Value)) (s : Shared) (m : Str → Option Value) (adr : List Addr) (M K R : Led) (sc : Scope) (cl : List (Str × Addr)) (t : PySem.Expr) (ks : List Str) (H : List (AV × Value)) (I C D : Addr) (fp : List Addr) (item : Nat → Value → Prop) (l : List AV) (S : Nat → Heap → Prop) : Prop where
  o : c.Ok2
  hs : c.sub = none
  W : Walks pg c.w c.A I fp [I] l.length item S
  hfp : ∀ b ∈ fp, b = I ∨ ∃ ob, (b, ob) ∈ R ++ c.fr
  hIo : ∀ i h, S i h → ∃ ob, h.get? I = some ob
  hgo : ∀ i v (s : Shared) (Q : Unit → Shared → Prop) (E : Value → Shared → Prop), S i s.heap → Q () s → wpAny c.M c.A (letOwnedTupleGo t (.ref I) v) Q E s
  hsc : cmpScope c sc t ks cl
  r : RelD c σ T s m adr M K R
  hl : ∀ i v, i < l.length → item i v → ∃ x, l[i]? = some x ∧ Ri c.w R x v
  hz : l.length ≤ 16000000
  hH : ∀ x v, σ.m.lookup x = some v → ∃ u, Loc c m K x u ∧ (v, u) ∈ H
  hHn : ∀ q ∈ H ++ T, notCell σ.cs.length q.1 = true
  hI : I ≠ c.L ∧ c.h₀.get? I = none
  hC : C ≠ c.L ∧ c.h₀.get? C = none
  hD : D ≠ c.L ∧ c.h₀.get? D = none
  hIC : I ≠ C
  hID : I ≠ D
  hCD : C ≠ D
  offR : ∀ p ∈ R ++ c.fr, p.1 ≠ I ∧ p.1 ≠ C ∧ p.1 ≠ D
  offK : ∀ p ∈ K, p.1 ≠ I ∧ p.1 ≠ C ∧ p.1 ≠ D
noncomputable abbrev cxx (c : Cx) (m : Str → Option Value) (K R : Led) (sc : Scope) (cl : List (Str × Addr)) (I C D : Addr) (it oC oD : Obj) : Cx := c.cmp sc cl C oC m ((I, it) :: (C, oC) :: (D, oD) :: (K ++ (R ++ c.fr))) ((I, it) :: (C, oC) :: (D, oD) :: (K ++ c.mf))
noncomputable def kElt (σ : St) (J : List AV → List AV → List Cell → Prop) (l ys : List AV) (i : Nat) : KV := fun y σ2 => imm y σ2 fun y' σ3 => J (l.drop (i + 1)) (ys ++ [y']) (σ3.cs.take σ.cs.length)
noncomputable def kNo (σ : St) (J : List AV → List AV → List Cell → Prop) (l ys : List AV) (i : Nat) : St → Prop := fun σ1 => J (l.drop (i + 1)) ys (σ1.cs.take σ.cs.length)
theorem CmpS.kept {sc : Scope} {cl : List (Str × Addr)} {t : PySem.Expr} {ks : List Str} {H : List (AV × Value)} {I C D : Addr} {fp : List Addr} {item : Nat → Value → Prop} {l : List AV} {S : Nat → Heap → Prop} {it oC oD : Obj} {σ₄ : St} {T₄ : List (AV × Value)} {s₂ s₄ : Shared} {m₄ : Str → Option Value} {adr₄ : List Addr} {M₄ K₄ R₄ : Led} {i : Nat}
    (Z : CmpS c σ T s m adr M K R sc cl t ks H I C D fp item l S) (r₄ : RelD (cxx c m K R sc cl I C D it oC oD) σ₄ T₄ s₄ m₄ adr₄ M₄ K₄ R₄) (h2 : ∀ p ∈ R ++ c.fr, s₂.heap.get? p.1 = some p.2) (hI2 : s₂.heap.get? I = some it) (hS : S i s₂.heap) {s₅ : Shared} (hk : ∀ b ob, b ≠ D → s₄.heap.get? b = some ob → s₅.heap.get? b = some ob) : S i s₅.heap := by
  refine Z.W.frame _ _ _ hS fun b hb ob e => ?_
  have hN : ∀ p ∈ (I, it) :: (C, oC) :: (D, oD) :: (K ++ (R ++ c.fr)), s₄.heap.get? p.1 = some p.2 := fun p hp => (r₄.N p (List.mem_append_right _ (List.mem_append_right _ (List.mem_append_right _ hp)))).1
  rcases Z.hfp b hb with rfl | ⟨ob', hm⟩
  · rw [hI2] at e; cases e
    exact hk _ _ Z.hID (hN _ List.mem_cons_self)
  · have := h2 _ hm
    dsimp only at this
    rw [this] at e; cases e
    exact hk _ _ (Z.offR _ hm).2.2 (hN (b, ob) (by simp only [List.mem_cons, List.mem_append] at hm ⊢; exact .inr (.inr (.inr (.inr hm)))))
set_option tactic.hygienic true in
theorem cmp_elt {sc : Scope} {cl : List (Str × Addr)} {t elt : PySem.Expr} {ks : List Str} {H : List (AV × Value)} {I C D : Addr} {fp : List Addr} {item : Nat → Value → Prop} {l : List AV} {S : Nat → Heap → Prop} {it oC : Obj} {us : List Value} {ys : List AV} {σ₁ : St} {s₂ s₃ : Shared} {i : Nat} {J : List AV → List AV → List Cell → Prop} {E' : Value → Shared → Prop}
    (Z : CmpS c σ T s m adr M K R sc cl t ks H I C D fp item l S) (h2 : ∀ p ∈ R ++ c.fr, s₂.heap.get? p.1 = some p.2) (hI2 : s₂.heap.get? I = some it) (hS : S (i + 1) s₂.heap) (hoC : ∃ m₂, NsObj oC m₂)
    (o' : (cxx c m K R sc cl I C D it oC (listOf us.toArray us.length)).Ok2) (r₃ : Rel (cxx c m K R sc cl I C D it oC (listOf us.toArray us.length)) σ₁ (ys.zip us ++ (H ++ T)) s₃) (hE : PassesOwn c.M c.A (compEnvC sc cl C c.fenv) E')
    (hlen : ys.length = us.length) (hyi : ys.length ≤ i) (hyn : ∀ y ∈ ys, NC y) (hi : i < l.length)
    (h : (lvl (cxx c m K R sc cl I C D it oC (listOf us.toArray us.length)) 60).ev elt σ₁ (kElt σ J l ys i)) :
    wpAny c.M c.A (eval elt (compEnvC sc cl C c.fenv)) (fun x s₄ => wpAny c.M c.A (call (.builtin "list.append") [.ref D, x]) (fun _ s₅ => ∃ k, k < l.length + 1 - i ∧ CmpI c σ T m K R H I C D S J l l.length k s₅) E' s₄) E' s₃ := by
  refine (lvl_good o' 60).ev _ _ _ h _ s₃ _ E' hE r₃ fun y u σ2 s₄ h₄ r₄ => ?_
  refine x23 (imm_ok r₄ List.mem_cons_self h₄) fun y' σ3 hJ r₄ ny => ?_
  refine Rel.out r₄ fun m₄ adr₄ M₄ K₄ R₄ r₄ => ?_
  have hN : ∀ p ∈ (I, it) :: (C, oC) :: (D, listOf us.toArray us.length) :: (K ++ (R ++ c.fr)), s₄.heap.get? p.1 = some p.2 := fun p hp => (r₄.N p (List.mem_append_right _ (List.mem_append_right _ (List.mem_append_right _ hp)))).1
  have hD₄ := hN (D, listOf us.toArray us.length) (by simp)
  have hC₄ := hN (C, oC) (by simp)
  refine append_at (hsz := by rw [List.size_toArray, sizeLine_eq]; have := Z.hz; omega) hD₄ fun h₅ hs₅ hD₅ => ?_
  have hk : ∀ b ob, b ≠ D → s₄.heap.get? b = some ob → h₅.get? b = some ob := fun b ob hb e => hs₅.extBut b ob hb e
  have r₅ : RelD (cxx c m K R sc cl I C D it oC (listOf us.toArray us.length)) σ3 ((ys ++ [y']).zip (us ++ [u]) ++ (H ++ T)) s₄ m₄ adr₄ M₄ K₄ R₄ := by
    refine ⟨r₄.F, r₄.N, r₄.U, r₄.UK, r₄.C, r₄.V, fun q hq => r₄.T q ?_, r₄.os, r₄.gens, r₄.KC, r₄.UF⟩
    rw [List.zip_append hlen] at hq
    simp only [List.zip_cons_cons, List.zip_nil_left, List.mem_append, List.mem_cons, List.not_mem_nil, or_false] at hq ⊢
    rcases hq with (hq | hq) | hq
    · exact .inr (.inr (.inl hq))
    · exact .inl hq
    · exact .inr (.inr (.inr hq))
  have hn : ∀ q ∈ (ys ++ [y']).zip (us ++ [u]) ++ (H ++ T), notCell σ.cs.length q.1 = true := by
    intro q hq
    rcases List.mem_append.mp hq with hq | hq
    · have hz := (List.of_mem_zip (a := q.1) (b := q.2) hq).1
      have : NC q.1 := by
        rcases List.mem_append.mp hz with hz | hz
        · exact hyn _ hz
        · rcases List.mem_singleton.mp hz with e; rw [e]; exact ny
      exact this.notCell
    · exact Z.hHn q hq
  refine x22 (cmp_out (s₅ := { s₄ with heap := h₅ }) Z.hs Z.r r₅ Z.hH hn Z.offR Z.offK hk rfl rfl Z.hD) fun adr₅ M₅ r₆ off₆ => ?_
  refine x11 hoC fun m₂ _ => ?_
  try clear hoC
  rename_i hoC
  refine ⟨l.length + 1 - (i + 1), by omega, i + 1, ys ++ [y'], us ++ [u], _, adr₅, M₅, R₄, m₂, r₆, ?_, (hoC.ns hC₄).sameBut hs₅ Z.hCD, off₆, ?_, hJ, ?_, ?_, ?_, hi, rfl⟩
  · rw [List.length_append, List.length_singleton]
    rw [List.push_toArray] at hD₅
    exact hD₅
  · exact Z.kept r₅ h2 hI2 hS (s₅ := { s₄ with heap := h₅ }) hk
  · rw [List.length_append, List.length_append, hlen]; rfl
  · rw [List.length_append, List.length_singleton]; omega
  · intro y hy
    rcases List.mem_append.mp hy with hy | hy
    · exact hyn _ hy
    · rcases List.mem_singleton.mp hy with rfl; exact ny
theorem cmp_pre {sc : Scope} {cl : List (Str × Addr)} {t elt : PySem.Expr} {cts : List PySem.Expr} {ks : List Str} {H : List (AV × Value)} {I C D : Addr} {fp : List Addr} {item : Nat → Value → Prop} {l : List AV} {S : Nat → Heap → Prop} {J : List AV → List AV → List Cell → Prop} {P : List AV → List Cell → Prop} {E' : Value → Shared → Prop} {Q' : Option Value → Shared → Prop} {k' : Nat} {s' : Shared}
    (Z : CmpS c σ T s m adr M K R sc cl t ks H I C D fp item l S) (G : Comp c sc cl t elt cts ks J l σ P) (inv : CmpI c σ T m K R H I C D S J l l.length k' s')
    (done : ∀ s'' ys us cs adr' M' R' mC, RelD (c.wf (R ++ c.fr) c.mf) ⟨σ.m, cs⟩ (List.zip (ys : List AV) (us : List Value) ++ (H ++ T)) s'' m adr' M' K R' → s''.heap.get? D = some (listOf us.toArray us.length) → s''.heap.Ns C mC → (∀ p ∈ M' ++ (K ++ (R' ++ (R ++ c.fr))), p.1 ≠ I ∧ p.1 ≠ C ∧ p.1 ≠ D) → P ys cs → ys.length = us.length → ys.length ≤ l.length → (∀ y ∈ ys, NC y) → Q' none s'')
    (step : ∀ v s₁, (∀ (Q : Unit → Shared → Prop), (∀ (s₂ : Shared) (it oC : Obj) (us : List Value) (ys : List AV) (cs : List Cell) (bs : List (Str × AV)) (i : Nat), Rel (cxx c m K R sc cl I C D it oC (listOf us.toArray us.length)) ⟨bs ++ keepN σ.m ks, cs⟩ (ys.zip us ++ (H ++ T)) s₂ → (cxx c m K R sc cl I C D it oC (listOf us.toArray us.length)).Ok2 → (∀ p ∈ R ++ c.fr, s₂.heap.get? p.1 = some p.2) → s₂.heap.get? I = some it → S (i + 1) s₂.heap → (∃ m₂, NsObj oC m₂) → ys.length = us.length → ys.length ≤ i → (∀ y ∈ ys, NC y) → i < l.length → k' = l.length + 1 - i →
        (cTest (lvl (cxx c m K R sc cl I C D it oC (listOf us.toArray us.length)) 60) cts ⟨bs ++ keepN σ.m ks, cs⟩ (fun σ1 => (lvl (cxx c m K R sc cl I C D it oC (listOf us.toArray us.length)) 60).ev elt σ1 (kElt σ J l ys i)) (kNo σ J l ys i)) → Q () s₂) →
      wpAny c.M c.A (letOwnedTupleGo t (.ref I) v) (fun _ s₁' => wpAny c.M c.A (assign t (compEnvC sc cl C c.fenv) v) Q E' s₁') E' s₁) → Q' (some v) s₁) :
    wpAny c.M c.A (pyNext (.ref I)) Q' E' s' := by
  obtain ⟨i, ys, us, cs, adr', M', R', mC, r', hD', hn', off, hS', hJ, hlen, hyi, hyn, hi, rfl⟩ := inv
  have keep : ∀ h₁ : Heap, (∀ b ob, b ∉ [I] → s'.heap.get? b = some ob → h₁.get? b = some ob) → Fr c.h₀ c.L h₁ m ∧ News c.h₀ c.L h₁ (M' ++ (K ++ (R' ++ (R ++ c.fr)))) ∧ h₁.get? D = some (listOf us.toArray us.length) ∧ h₁.Ns C mC := fun h₁ hk =>
    ⟨⟨r'.F.ns.at' fun ob e => hk _ ob (by simp only [List.mem_singleton]; exact Z.hI.1.symm) e, fun b ob e => hk b ob (by simp only [List.mem_singleton]; exact fun q => by have e : c.h₀.get? b = some ob := e; rw [q, Z.hI.2] at e; cases e) (r'.F.keep b ob e), r'.F.above⟩,
     fun p hp => ⟨hk _ _ (by simp only [List.mem_singleton]; exact (off p hp).1) (r'.N p hp).1, (r'.N p hp).2⟩, hk _ _ (by simp only [List.mem_singleton]; exact Z.hID.symm) hD', hn'.at' fun ob e => hk _ ob (by simp only [List.mem_singleton]; exact Z.hIC.symm) e⟩
  by_cases hlt : i < l.length
  · refine Z.W.item i s' _ _ hlt hS' fun v h₁ tk hv hS₁ hk => step v _ fun Q hQ => ?_
    refine x04 (keep h₁ hk) fun F₁ N₁ D₁ C₁ => ?_
    refine Z.hgo (i + 1) v _ _ _ hS₁ ?_
    have hdrop : ∃ x, l.drop i = x :: l.drop (i + 1) ∧ Ri c.w R x v := by
      refine x12 (Z.hl i v hlt hv) fun x hx hr => ?_
      rw [List.getElem?_eq_getElem hlt] at hx
      cases hx
      exact i12 _ (List.drop_eq_getElem_cons hlt) hr
    refine x12 hdrop fun x hx hxr => ?_
    try clear hdrop
    rw [hx] at hJ
    refine x11 (Z.hIo _ _ hS₁) fun it hit => ?_
    have hsc := Z.hsc
    have hsc' := hsc.1
    unfold cmpB at hsc'
    simp only [Bool.and_eq_true] at hsc'
    refine x02 hsc' fun j92 g7 => ?_
    try clear hsc'
    refine x02 j92 fun j93 g6 => ?_
    try clear j92
    refine x02 j93 fun j94 g5 => ?_
    try clear j93
    refine x02 j94 fun j95 g4 => ?_
    try clear j94
    refine x02 j95 fun j96 g3 => ?_
    try clear j95
    refine x02 j96 fun g1 g2 => ?_
    try clear j96
    refine x12 (G.turn C default m [(C, default)] [] x (l.drop (i + 1)) ys cs (kElt σ J l ys i) (kNo σ J l ys i) (cmp_ok2 Z.o hsc List.mem_cons_self) hJ hxr.nc ⟨fun _ _ h => h, fun _ h => h⟩) fun bs hbs _ => ?_
    refine bindM_ok (R := R' ++ R) (eq_of_beq g1) g4 hbs (hxr.mono fun p hp => List.mem_append_right _ hp) N₁ (fun p hp => by simp only [List.mem_append] at hp ⊢; rcases hp with hp | hp; exact .inr (.inr (.inl hp)); exact .inr (.inr (.inr (.inl hp)))) C₁ fun h₂ tk₂ m₂ hn₂ hk₂ hb₂ => ?_
    refine x12 (ns_obj hn₂) fun oC heC hoC => ?_
    have r₂ : RelD (c.wf (R ++ c.fr) c.mf) ⟨σ.m, cs⟩ (ys.zip us ++ (H ++ T)) { s' with heap := h₂, toks := tk₂ } m adr' M' K R' :=
      r'.heap ⟨F₁.ns.at' fun ob e => hk₂ _ ob Z.hC.1.symm e, fun b ob e => hk₂ b ob (fun q => by have e : c.h₀.get? b = some ob := e; rw [q, Z.hC.2] at e; cases e) (F₁.keep b ob e), F₁.above⟩
        (fun p hp => ⟨hk₂ _ _ (off p hp).2.1 (N₁ p hp).1, (N₁ p hp).2⟩) rfl rfl
    have hit₂ : h₂.get? I = some it := hk₂ _ _ Z.hIC hit
    have hD₂ : h₂.get? D = some (listOf us.toArray us.length) := hk₂ _ _ Z.hCD.symm D₁
    have r₃ := cmp_in (ks := ks) (bs := bs) Z.o Z.hs hsc Z.r r₂ Z.hH off ⟨hit₂, Z.hI⟩ ⟨heC, Z.hC⟩ ⟨hD₂, Z.hD⟩ hoC hb₂
    have o' : (cxx c m K R sc cl I C D it oC (listOf us.toArray us.length)).Ok2 := cmp_ok2 Z.o hsc (by simp)
    refine x12 (G.turn C oC m _ _ x (l.drop (i + 1)) ys cs (kElt σ J l ys i) (kNo σ J l ys i) o' hJ hxr.nc ⟨fun _ _ h => h, fun _ h => h⟩) fun bs' hbs' tn => ?_
    rw [hbs] at hbs'; cases hbs'
    refine hQ _ it oC us ys cs bs i r₃.rel o' (fun p hp => (r₂.N p (List.mem_append_right _ (List.mem_append_right _ (List.mem_append_right _ hp)))).1) hit₂ ?_ ⟨m₂, hoC⟩ hlen hyi hyn hlt rfl tn
    refine Z.W.frame _ _ _ hS₁ fun b hb ob e => ?_
    rcases Z.hfp b hb with rfl | ⟨ob', hm⟩
    · rw [hit] at e; cases e; exact hit₂
    · exact hk₂ _ _ (Z.offR _ hm).2.1 e
  · have hin : i = l.length := by omega
    subst hin
    refine Z.W.done s' _ _ hS' fun h₁ tk hk => ?_
    refine x04 (keep h₁ hk) fun F₁ N₁ D₁ C₁ => ?_
    have hd : l.drop l.length = [] := List.drop_eq_nil_of_le (Nat.le_refl _)
    rw [hd] at hJ
    exact done _ ys us cs adr' M' R' mC (r'.heap F₁ N₁ rfl rfl) D₁ C₁ off (G.hnil _ _ hJ) hlen hyi hyn
set_option tactic.hygienic true in
theorem cmp_loop {sc : Scope} {cl : List (Str × Addr)} {t elt iter : PySem.Expr} {pos : Pos} {cts : List PySem.Expr} {ks : List Str} {H : List (AV × Value)} {I C D : Addr} {fp : List Addr} {item : Nat → Value → Prop} {l : List AV} {S : Nat → Heap → Prop} {J : List AV → List AV → List Cell → Prop} {P : List AV → List Cell → Prop} {RR : Result → Shared → Prop} {s' : Shared}
    (Z : CmpS c σ T s m adr M K R sc cl t ks H I C D fp item l S) (G : Comp c sc cl t elt cts ks J l σ P) (hcts : cts.length ≤ 1) (inv : CmpI c σ T m K R H I C D S J l l.length (l.length + 1) s')
    (done : ∀ s'' ys us cs adr' M' R' mC, RelD (c.wf (R ++ c.fr) c.mf) ⟨σ.m, cs⟩ (List.zip (ys : List AV) (us : List Value) ++ (H ++ T)) s'' m adr' M' K R' → s''.heap.get? D = some (listOf us.toArray us.length) → s''.heap.Ns C mC → (∀ p ∈ M' ++ (K ++ (R' ++ (R ++ c.fr))), p.1 ≠ I ∧ p.1 ≠ C ∧ p.1 ≠ D) → P ys cs → ys.length = us.length → ys.length ≤ l.length → (∀ y ∈ ys, NC y) → RR (.ok .next) s'') :
    codeAny c.M c.A (.compLoop (.ListComp elt [⟨t, iter, cts, 0⟩] sc pos) 0 (.ref I) (.ref D) (compEnvC sc cl C c.fenv)) RR s' := by
  cases cts with
  | nil =>
    refine kcp_loop (fun k s' => CmpI c σ T m K R H I C D S J l l.length k s') (fun k s' hI => ?_) _ inv
    refine cmp_pre Z G hI done fun v s₁ hb => ?_
    refine hb _ fun s₂ it oC us ys cs bs i r₃ o' h2 hI2 hS hoC hlen hyi hyn hi hk tn => ?_
    subst hk
    exact cmp_elt Z h2 hI2 hS hoC o' r₃ PassesOwn.looking hlen hyi hyn hi tn
  | cons ct r => cases r with
   | cons => exact absurd hcts (by simp only [List.length_cons]; omega)
   | nil =>
    refine kct_loop (fun k s' => CmpI c σ T m K R H I C D S J l l.length k s') (fun k s' hI => ?_) _ inv
    refine cmp_pre Z G hI done fun v s₁ hb => ?_
    refine hb _ fun s₂ it oC us ys cs bs i r₃ o' h2 hI2 hS hoC hlen hyi hyn hi hk tn => ?_
    subst hk
    have tn' : (lvl (cxx c m K R sc cl I C D it oC (listOf us.toArray us.length)) 60).ts ct ⟨bs ++ keepN σ.m ks, cs⟩ fun b σ1 => Br b ((lvl (cxx c m K R sc cl I C D it oC (listOf us.toArray us.length)) 60).ev elt σ1 (kElt σ J l ys i)) (kNo σ J l ys i σ1) := tn
    have at' := (lvl_good o' 60).ts _ _ _ tn'
    clear tn tn'
    refine at' _ s₂ _ _ PassesOwn.looking r₃ fun b σ1 s₃ hb r₄ => ?_
    cases b with
    | true =>
      rw [if_pos rfl]
      exact cmp_elt Z h2 hI2 hS hoC o' r₄ PassesOwn.looking hlen hyi hyn hi (hb.1 rfl)
    | false =>
      rw [if_neg Bool.false_ne_true]
      refine Rel.out r₄ fun m₄ adr₄ M₄ K₄ R₄ r₄ => ?_
      have hn : ∀ q ∈ ys.zip us ++ (H ++ T), notCell σ.cs.length q.1 = true := by
        intro q hq
        rcases List.mem_append.mp hq with hq | hq
        · have := hyn _ (List.of_mem_zip (a := q.1) (b := q.2) hq).1
          exact this.notCell
        · exact Z.hHn q hq
      refine x22 (cmp_out (s₅ := s₃) Z.hs Z.r r₄ Z.hH hn Z.offR Z.offK (fun _ _ _ e => e) rfl rfl Z.hD) fun adr₅ M₅ r₆ off₆ => ?_
      have hN : ∀ p ∈ (I, it) :: (C, oC) :: (D, listOf us.toArray us.length) :: (K ++ (R ++ c.fr)), s₃.heap.get? p.1 = some p.2 := fun p hp => (r₄.N p (List.mem_append_right _ (List.mem_append_right _ (List.mem_append_right _ hp)))).1
      refine x11 hoC fun m₂ _ => ?_
      try clear hoC
      rename_i hoC
      exact ⟨l.length + 1 - (i + 1), by omega, i + 1, ys, us, _, adr₅, M₅, R₄, m₂, r₆, hN (D, _) (by simp), hoC.ns (hN (C, oC) (by simp)), off₆, Z.kept r₄ h2 hI2 hS (fun _ _ _ e => e), hb.2 rfl, hlen, by omega, hyn, hi, rfl⟩
end
end Mine
end
section
open PySem PySem.W PyProof.Rows PySem.Calls PySem.Spec PyProof.Rows.LCg
set_option tactic.hygienic false
set_option maxHeartbeats 400000
namespace Mine
section
variable {c : Cx} {σ : St} {T : List (AV × Value)} {s : Shared} {E : Value → Shared → Prop} {m : Str → Option Value} {adr : List Addr} {M K R : Led}
theorem cmp_block (o : c.Ok2) (hs : c.sub = none) {sc : Scope} {cl : List (Str × Addr)} {t elt iter : PySem.Expr} {pos : Pos} {cts : List PySem.Expr} {ks : List Str} {I : Addr} {fp : List Addr} {item : Nat → Value → Prop} {l : List AV} {S : Nat → Heap → Prop} {J : List AV → List AV → List Cell → Prop} {P : List AV → List Cell → Prop} {RR : Value → Addr → Result → Shared → Prop}
    (W : Walks pg c.w c.A I fp [I] l.length item S) (hfp : ∀ b ∈ fp, b = I ∨ ∃ ob, (b, ob) ∈ R ++ c.fr) (hIo : ∀ i h, S i h → ∃ ob, h.get? I = some ob)
    (hgo : ∀ i v (s : Shared) (Q : Unit → Shared → Prop) (E : Value → Shared → Prop), S i s.heap → Q () s → wpAny c.M c.A (letOwnedTupleGo t (.ref I) v) Q E s)
    (hsc : cmpScope c sc t ks cl) (r : RelD c σ T s m adr M K R) (hl : ∀ i v, i < l.length → item i v → ∃ x, l[i]? = some x ∧ Ri c.w R x v) (hz : l.length ≤ 16000000) (hS : S 0 s.heap) (hoff : ∀ p ∈ M ++ (K ++ (R ++ c.fr)), p.1 ≠ I) (hI : I ≠ c.L ∧ c.h₀.get? I = none)
    (hcts : cts.length ≤ 1) (G : Comp c sc cl t elt cts ks J l σ P)
    (fin : ∀ D C s'' mC ys us cs adr' M' R', RelD c ⟨σ.m, cs⟩ T s'' m adr' M' K R' → Rl c.w R' ys us → News c.h₀ c.L s''.heap ((D, listOf us.toArray us.length) :: (M' ++ (K ++ (R' ++ c.fr)))) → (∀ p ∈ M' ++ (K ++ (R' ++ c.fr)), p.1 ≠ D ∧ p.1 ≠ C) → s''.heap.Ns C mC → C ≠ c.L → c.h₀.get? C = none → C ≠ D → P ys cs → ys.length ≤ 16000000 → RR (.ref D) C (.ok .next) s'') :
    wpAny c.M c.A (newList []) (fun acc s₃ => wpAny c.M c.A (newFunctionEnv sc c.fenv.globals cl [] c.fenv.qual none .none (some c.fenv)) (fun cenv s₄ =>
      codeAny c.M c.A (.compStart (.ListComp elt [⟨t, iter, cts, 0⟩] sc pos) 0 (.ref I) acc { cenv with scope := relabel sc c.fenv }) (RR acc cenv.locals) s₄) E s₃) E s := by
  have hsc' := hsc.1
  unfold cmpB at hsc'
  simp only [Bool.and_eq_true] at hsc'
  refine x02 hsc' fun j91 g7 => ?_
  try clear hsc'
  refine x02 j91 fun j92 g6 => ?_
  try clear j91
  refine x02 j92 fun j93 g5 => ?_
  try clear j92
  refine x02 j93 fun j94 g4 => ?_
  try clear j93
  refine x02 j94 fun j95 g3 => ?_
  try clear j94
  refine x02 j95 fun g1 g2 => ?_
  try clear j95
  have hcell : ∀ y ∈ sc.names, y.2 ≠ .cell := fun y hy => bne_iff_ne.mp (List.all_eq_true.mp g2 y hy)
  refine wpAny_newObj_type (wpAny_newFunctionEnv hcell (by intro y hy; simp at hy) (fun h₁ hns₁ hsb₁ => ?_) (eq_of_beq g1))
  dsimp only at hns₁ hsb₁ ⊢
  generalize hH2 : s.heap.push { cls := .type "list", dict := none, data := .seq ([] : List Value).toArray } = H2 at hns₁ hsb₁ ⊢
  have hC : H2.objs.size = s.heap.objs.size + 1 := by rw [← hH2, Heap.size_push]
  have hCD : H2.objs.size ≠ s.heap.objs.size := by rw [hC]; exact Nat.ne_of_gt (Nat.lt_succ_self _)
  have below : ∀ b, b < s.heap.objs.size → b ≠ H2.objs.size ∧ b ≠ s.heap.objs.size := fun b hb => ⟨by rw [hC]; exact Nat.ne_of_lt (Nat.lt_succ_of_lt hb), Nat.ne_of_lt hb⟩
  have old : ∀ b ob, s.heap.get? b = some ob → h₁.get? b = some ob := fun b ob e => hsb₁.extBut b ob (below b (Heap.lt_size e)).1 (Heap.get?_push_of_some _ (hH2 ▸ Heap.get?_push_of_some _ e))
  have hacc : h₁.get? s.heap.objs.size = some (listOf ([] : List Value).toArray 0) := hsb₁.extBut _ _ hCD.symm (Heap.get?_push_of_some _ (hH2 ▸ Heap.get?_push_size _ rfl))
  have fresh₀ : ∀ a, s.heap.objs.size ≤ a → c.h₀.get? a = none := fun a ha => by
    cases e : c.h₀.get? a with
    | none => rfl
    | some o' => exact absurd (Heap.lt_size (r.F.keep a o' e)) (Nat.not_lt.mpr ha)
  have hlt : ∀ p ∈ M ++ (K ++ (R ++ c.fr)), p.1 < s.heap.objs.size := fun p hp => Heap.lt_size (r.N p hp).1
  have hLlt : c.L < s.heap.objs.size := r.F.ns.lt
  refine x11 (hIo _ _ hS) fun obI hIget => ?_
  have hIlt : I < s.heap.objs.size := Heap.lt_size hIget
  refine x12 r.hold fun H hH hHv => ?_
  have r₁ : RelD c σ T { s with heap := h₁, toks := s.toks + ([] : List (Str × Value)).length } m adr M K R := r.heap (r.F.keeps old) (fun p hp => ⟨old _ _ (r.N p hp).1, (r.N p hp).2⟩) rfl rfl
  have off3 : ∀ p ∈ M ++ (K ++ (R ++ c.fr)), p.1 ≠ I ∧ p.1 ≠ H2.objs.size ∧ p.1 ≠ s.heap.objs.size := fun p hp => ⟨hoff p hp, (below _ (hlt p hp)).1, (below _ (hlt p hp)).2⟩
  have hHT : ∀ q ∈ H ++ T, Rv c.w adr R q.1 q.2 := fun q hq => (List.mem_append.mp hq).elim (hHv q) (r.T q)
  have rH : RelD c σ (H ++ T) { s with heap := h₁, toks := s.toks + ([] : List (Str × Value)).length } m adr M K R := ⟨r₁.F, r₁.N, r₁.U, r₁.UK, r₁.C, r₁.V, hHT, r₁.os, r₁.gens, r₁.KC, r₁.UF⟩
  have Z : CmpS c σ T { s with heap := h₁, toks := s.toks + ([] : List (Str × Value)).length } m adr M K R sc cl t ks H I H2.objs.size s.heap.objs.size fp item l S :=
    { o := o, hs := hs, W := W, hfp := hfp, hIo := hIo, hgo := hgo, hsc := hsc, r := r₁, hl := hl, hz := hz, hH := hH, hHn := rH.tcell, hI := hI,
      hC := ⟨fun e => (by have := below _ hLlt; exact this.1 e.symm), fresh₀ _ (by rw [hC]; exact Nat.le_succ _)⟩, hD := ⟨fun e => (below _ hLlt).2 e.symm, fresh₀ _ (Nat.le_refl _)⟩, hIC := (below _ hIlt).1, hID := (below _ hIlt).2, hCD := hCD,
      offR := fun p hp => off3 p (List.mem_append_right _ (List.mem_append_right _ hp)), offK := fun p hp => off3 p (List.mem_append_right _ (List.mem_append_left _ hp)) }
  have r₀ : RelD (c.wf (R ++ c.fr) c.mf) σ (H ++ T) { s with heap := h₁, toks := s.toks + ([] : List (Str × Value)).length } m adr M K R := rH.more hs (fun p hp => r₁.N p (by simp only [List.mem_append] at hp ⊢; grind)) (fun q hq p hp => r.U.1 q hq p (List.mem_append_right _ hp)) (fun q hq p hp => r.UK.1 q hq p hp) (fun q hq => List.mem_append_right _ (r.UF.1 q hq)) r.UF.2.1
  have hS₁ : S 0 h₁ := W.frame _ _ _ hS fun b _ ob e => old b ob e
  have inv : CmpI c σ T m K R H I H2.objs.size s.heap.objs.size S J l l.length (l.length + 1) { s with heap := h₁, toks := s.toks + ([] : List (Str × Value)).length } :=
    ⟨0, [], [], σ.cs, adr, M, R, _, r₀, hacc, hns₁, fun p hp => off3 p (by simp only [List.mem_append] at hp ⊢; grind), hS₁, by rw [List.drop_zero]; exact G.h0, rfl, Nat.le_refl _, fun _ h => (by cases h), Nat.zero_le _, rfl⟩
  have loop := cmp_loop (iter := iter) (pos := pos) (RR := RR (.ref s.heap.objs.size) H2.objs.size) Z G hcts inv fun s'' ys us cs adr' M' R' mC r' hD' hn' off hP hlen hyl hyn => by
    have r2 : RelD c ⟨σ.m, cs⟩ (ys.zip us ++ (H ++ T)) s'' m adr' M' K R' := r'.less hs (fun p hp => List.mem_append_right _ hp) (fun p hp => hp) r.UF.1
    have hrl : Rl c.w R' ys us := r2.rl (fun q hq => List.mem_append_left _ hq) hlen hyn
    have off2 : ∀ p ∈ M' ++ (K ++ (R' ++ c.fr)), p.1 ≠ s.heap.objs.size ∧ p.1 ≠ H2.objs.size := fun p hp => by
      have := off p (by simp only [List.mem_append] at hp ⊢; grind)
      exact ⟨this.2.2, this.2.1⟩
    refine fin s.heap.objs.size H2.objs.size s'' mC ys us cs adr' M' R' ⟨r2.F, r2.N, r2.U, r2.UK, r2.C, r2.V, fun q hq => r2.T q (List.mem_append_right _ (List.mem_append_right _ hq)), r2.os, r2.gens, r2.KC, r2.UF⟩ hrl ?_ off2 hn' Z.hC.1 Z.hC.2 hCD hP (by omega)
    intro p hp
    rcases List.mem_cons.mp hp with rfl | hp
    · exact ⟨hD', Z.hD⟩
    · exact r2.N p hp
  exact codeAny_compStart_list loop (W.self 0 _ _ _ hS₁ loop)
inductive cmpL (c : Cx) (sc : Scope) (cl : List (Str × Addr)) (t elt : PySem.Expr) (cts : List PySem.Expr) (ks : List Str) (P : List AV → List Cell → St → Prop) : AV → St → Prop
  | mk {l : List AV} {σ : St} (J : List AV → List AV → List Cell → Prop) (h : Comp c sc cl t elt cts ks J l σ fun ys cs => P ys cs σ) : cmpL c sc cl t elt cts ks P (.lst l) σ
  | rng {n : Int} {σ : St} (J : List AV → List AV → List Cell → Prop) (h : Comp c sc cl t elt cts ks J (intsR n) σ fun ys cs => P ys cs σ) : cmpL c sc cl t elt cts ks P (.rng n) σ
theorem cmp_iter (o : c.Ok2) (hs : c.sub = none) {sc : Scope} {cl : List (Str × Addr)} {t elt iter : PySem.Expr} {pos : Pos} {cts : List PySem.Expr} {ks : List Str} {v : AV} {u : Value} {P : List AV → List Cell → St → Prop} {RR : Value → Addr → Result → Shared → Prop} {KK : Value → Shared → Prop}
    (hsc : cmpScope c sc t ks cl) (hcts : cts.length ≤ 1) (r : Rel c σ ((v, u) :: T) s) (nv : NC v) (h : cmpL c sc cl t elt cts ks P v σ)
    (fin : ∀ D C s'' mC ys us cs m adr' M' K R', RelD c ⟨σ.m, cs⟩ T s'' m adr' M' K R' → Rl c.w R' ys us → News c.h₀ c.L s''.heap ((D, listOf us.toArray us.length) :: (M' ++ (K ++ (R' ++ c.fr)))) → (∀ p ∈ M' ++ (K ++ (R' ++ c.fr)), p.1 ≠ D ∧ p.1 ≠ C) → s''.heap.Ns C mC → C ≠ c.L → c.h₀.get? C = none → C ≠ D → P ys cs σ → ys.length ≤ 16000000 → RR (.ref D) C (.ok .next) s'')
    (hK : ∀ I s₂, wpAny c.M c.A (newList []) (fun acc s₃ => wpAny c.M c.A (newFunctionEnv sc c.fenv.globals cl [] c.fenv.qual none .none (some c.fenv)) (fun cenv s₄ =>
      codeAny c.M c.A (.compStart (.ListComp elt [⟨t, iter, cts, 0⟩] sc pos) 0 (.ref I) acc { cenv with scope := relabel sc c.fenv }) (RR acc cenv.locals) s₄) E s₃) E s₂ → KK (.ref I) s₂) :
    wpAny c.M c.A (pyIter u) KK E s := by
  cases h with
  | @mk l _ J G =>
    refine Rel.out r fun m adr M K R r2 => ?_
    have hv := r2.ri List.mem_cons_self nv
    cases hv with
    | @lst _ vs a n hz hm hl =>
      have r3 : RelD c σ T s m adr M K R := r2.tail
      have hmem : (a, listOf vs.toArray n) ∈ M ++ (K ++ (R ++ c.fr)) := List.mem_append_right _ (List.mem_append_right _ (List.mem_append_left _ hm))
      have hli : s.heap.IsList a vs.toArray := News.isList r3.N hmem
      have hlt : ∀ p ∈ M ++ (K ++ (R ++ c.fr)), p.1 < s.heap.objs.size := fun p hp => Heap.lt_size (r3.N p hp).1
      have hne : a ≠ s.heap.objs.size := Nat.ne_of_lt (hlt _ hmem)
      refine wpAny_pyIter_list hli (hK _ _ ?_)
      have W := Walks.list (prog := pg) (w := c.w) (A := c.A) rfl s.heap.objs.size a hne vs.toArray
      have e1 : vs.toArray.size = vs.length := by simp
      rw [e1] at W
      have W' : Walks pg c.w c.A s.heap.objs.size [s.heap.objs.size, a] [s.heap.objs.size] vs.length (fun i v => vs[i]? = some v) (fun i h => h.IsListIter s.heap.objs.size a i ∧ h.IsList a vs.toArray) := by
        have e2 : (fun (i : Nat) (v : Value) => vs.toArray[i]? = some v) = fun i v => vs[i]? = some v := by funext i v; simp
        rw [e2] at W; exact W
      have r4 : RelD c σ T { s with heap := s.heap.push { cls := .type "list_iterator", data := .fields #[.ref a, .int 0 0] } } m adr M K R :=
        r3.heap (r3.F.push _) (fun p hp => ⟨Heap.get?_push_of_some _ (r3.N p hp).1, (r3.N p hp).2⟩) rfl rfl
      rw [hl.len] at W'
      refine cmp_block o hs W' ?_ (fun i h hh => ?_) (fun i v s Q E st q => letGo_listiter st.1 q) hsc r4 (fun i v hlt hv => ?_) hz ⟨⟨_, Heap.get?_push_size _ rfl, rfl, rfl⟩, hli.at fun ob e => Heap.get?_push_of_some _ e⟩ (fun p hp => Nat.ne_of_lt (hlt p hp)) ⟨fun e => ?_, next_is_new r3.F⟩ hcts G
        fun D C s'' mC ys us cs adr' M' R' => fin D C s'' mC ys us cs m adr' M' K R'
      · intro b hb
        rcases List.mem_cons.mp hb with rfl | hb
        · exact .inl rfl
        · rcases List.mem_singleton.mp hb with rfl
          exact .inr ⟨_, List.mem_append_left _ hm⟩
      · refine x12 hh.1 fun ob h1 _ => ?_
        exact ⟨ob, h1⟩
      · refine x12 (hl.get (List.getElem?_eq_getElem hlt)) fun u hu hr => ?_
        rw [hv] at hu; cases hu
        exact i12 _ (List.getElem?_eq_getElem hlt) hr
      · exact absurd r3.F.ns.lt (by rw [← e]; exact Nat.lt_irrefl _)
  | @rng z _ J G =>
    refine Rel.out r fun m adr M K R r2 => ?_
    have hv := r2.ri List.mem_cons_self nv
    cases hv with
    | @rng a _ t0 u0 v0 z0 z1 hm =>
      have r3 : RelD c σ T s m adr M K R := r2.tail
      have hir : IsRange s.heap a 0 z 1 t0 u0 v0 := (r3.N _ (r3.still? hm)).1
      have hlt : ∀ p ∈ M ++ (K ++ (R ++ c.fr)), p.1 < s.heap.objs.size := fun p hp => Heap.lt_size (r3.N p hp).1
      refine wpAny_pyIter_range hir (small_one (by omega) (by omega) (by omega) (by omega)) (hK _ _ ?_)
      have W := Walks.range (prog := pg) (w := c.w) (A := c.A) rfl s.heap.objs.size 0 1 (intsR z).length
      have hlen : (intsR z).length = z.toNat := by unfold intsR; simp
      have hsz : Builtin.Range.rangeSize 0 z 1 = ((intsR z).length : Int) - (0 : Nat) := by rw [rangeSize_one, hlen]; split <;> omega
      have r4 : RelD c σ T { s with heap := s.heap.push { cls := .type "range_iterator", data := .fields #[rawInt 0, rawInt (Builtin.Range.rangeSize 0 z 1), rawInt 1] } } m adr M K R :=
        r3.heap (r3.F.push _) (fun p hp => ⟨Heap.get?_push_of_some _ (r3.N p hp).1, (r3.N p hp).2⟩) rfl rfl
      refine cmp_block o hs W (fun b hb => .inl (List.mem_singleton.mp hb)) (fun i h hh => ⟨_, hh⟩) (fun i v s Q E st q => letGo_rangeiter st q) hsc r4 (fun i v hi hv => ?_) (by rw [hlen]; omega) ?_ (fun p hp => Nat.ne_of_lt (hlt p hp)) ⟨fun e => ?_, next_is_new r3.F⟩ hcts G
        fun D C s'' mC ys us cs adr' M' R' => fin D C s'' mC ys us cs m adr' M' K R'
      · refine x11 hv fun tt e96 => ?_
        try clear hv
        obtain rfl := e96
        rw [hlen] at hi
        refine i12 (.int (i : Int)) ?_ ?_
        · unfold intsR
          rw [List.getElem?_map, List.getElem?_range hi]; rfl
        · have e : (0 : Int) + (i : Int) * 1 = (i : Int) := by omega
          rw [e]; exact .int
      · rw [hsz]; exact Heap.get?_push_size _ rfl
      · exact absurd r3.F.ns.lt (by rw [← e]; exact Nat.lt_irrefl _)
theorem AE_comp {L : Lvl} {t it elt : PySem.Expr} {cts : List PySem.Expr} {sc : Scope} {cl : List (Str × Addr)} {pos : Pos} {P : KV} (ks : List Str) (g : L.Good c) (o : c.Ok2) (hs : c.sub = none) (hset : isSet it = false) (hcts : cts.length ≤ 1)
    (hclos : closureFor sc c.fenv = pure cl) (hsc : cmpScope c sc t ks cl) (h : L.ev it σ fun v σ1 => imm v σ1 fun v' σ2 => cmpL c sc cl t elt cts ks (fun ys cs σ => P (.cell cs.length) ⟨σ.m, cs ++ [.list ys]⟩) v' σ2) : AE c (.ListComp elt [⟨t, it, cts, 0⟩] sc pos) σ P := by
  refine ⟨fun T s Q E hE r k => ?_⟩
  have ee : c.env = c.fenv := by unfold Cx.env; rw [hs]
  have hsc' := hsc.1
  unfold cmpB at hsc'
  simp only [Bool.and_eq_true] at hsc'
  refine x02 hsc' fun j97 g7 => ?_
  try clear hsc'
  refine x02 j97 fun j98 g6 => ?_
  try clear j97
  refine x02 j98 fun j99 g5 => ?_
  try clear j98
  refine x02 j99 fun j910 g4 => ?_
  try clear j99
  refine x02 j910 fun j911 g3 => ?_
  try clear j910
  refine x02 j911 fun g1 g2 => ?_
  try clear j911
  have hev : ∀ Q, Po c T (fun v σ1 => imm v σ1 fun v' σ2 => cmpL c sc cl t elt cts ks (fun ys cs σ => P (.cell cs.length) ⟨σ.m, cs ++ [.list ys]⟩) v' σ2) Q → wpAny c.M c.A (eval it c.env) Q E s := fun Q hQ => g.ev _ _ _ h T s Q E hE r hQ
  rw [ee] at hev ⊢
  rw [eval_ListComp]
  refine wpAny_comprehension_free (use := none) rfl (noSet hset) hclos (eq_of_beq g1) (fun x hx hl => ?_) (hev _ fun v u σ1 s1 h1 r1 => ?_)
  · have := List.all_eq_true.mp g3 x hx
    rw [hl] at this
    exact eq_of_beq this
  · refine x23 (imm_ok r1 List.mem_cons_self h1) fun v' σ2 h2 r2 n2 => ?_
    refine cmp_iter (T := (v, u) :: T) o hs hsc hcts r2 n2 h2 ?_ fun _ _ z => z
    intro D C s'' mC ys us cs m adr' M' K R' r3 hrl N off hn hCL hC₀ hCD hP hz
    refine i12 mC hn (fun h' hs' => k _ _ _ _ hP ?_)
    have F' : Fr c.h₀ c.L h' m := r3.F.change hs' hCL hC₀
    have N' : News c.h₀ c.L h' ((D, listOf us.toArray us.length) :: (M' ++ (K ++ (R' ++ c.fr)))) := fun p hp => ⟨hs'.extBut _ _ (by
      rcases List.mem_cons.mp hp with rfl | hp
      · exact hCD.symm
      · exact (off p hp).2) (N p hp).1, (N p hp).2⟩
    have := r3.live (s' := { s'' with heap := h' }) (q := (D, listOf us.toArray us.length)) F' N' (fun p hp => (off p hp).1) (.list hz hrl) rfl rfl
    exact this.sub fun q hq => by
      rcases List.mem_cons.mp hq with rfl | hq
      · exact List.mem_cons_self
      · exact List.mem_cons_of_mem _ (List.mem_cons_of_mem _ hq)
theorem AS_comp {L : Lvl} {t it elt : PySem.Expr} {cts : List PySem.Expr} {sc : Scope} {cl : List (Str × Addr)} {pos spos py : Pos} {y : Str} {P : KF} (ks : List Str) (g : L.Good c) (o : c.Ok2) (hs : c.sub = none) (hset : isSet it = false) (hcts : cts.length ≤ 1)
    (hsw : swapsWith (.ListComp elt [⟨t, it, cts, 0⟩] sc pos) (some (.Name y py)) spos.line c.fenv = pure true)
    (hclos : closureFor sc c.fenv = pure cl) (hsc : cmpScope c sc t ks cl) (h : L.ev it σ fun v σ1 => imm v σ1 fun v' σ2 => cmpL c sc cl t elt cts ks (fun ys cs σ => storeA c y (.cell cs.length) ⟨σ.m, cs ++ [.list ys]⟩ (P .next)) v' σ2) :
    AS c (.Assign [.Name y py] (.ListComp elt [⟨t, it, cts, 0⟩] sc pos) spos) σ P := by
  refine ⟨fun T s Q E hE r k => ?_⟩
  have ee : c.env = c.fenv := by unfold Cx.env; rw [hs]
  have hsc' := hsc.1
  unfold cmpB at hsc'
  simp only [Bool.and_eq_true] at hsc'
  refine x02 hsc' fun j912 g7 => ?_
  try clear hsc'
  refine x02 j912 fun j913 g6 => ?_
  try clear j912
  refine x02 j913 fun j914 g5 => ?_
  try clear j913
  refine x02 j914 fun j915 g4 => ?_
  try clear j914
  refine x02 j915 fun j916 g3 => ?_
  try clear j915
  refine x02 j916 fun g1 g2 => ?_
  try clear j916
  have hev : ∀ Q, Po c T (fun v σ1 => imm v σ1 fun v' σ2 => cmpL c sc cl t elt cts ks (fun ys cs σ => storeA c y (.cell cs.length) ⟨σ.m, cs ++ [.list ys]⟩ (P .next)) v' σ2) Q → wpAny c.M c.A (eval it c.env) Q E s := fun Q hQ => g.ev _ _ _ h T s Q E hE r hQ
  rw [ee] at hev ⊢
  rw [exec_Assign_Name_used _ _ _ _ hsw]
  refine wpAny_bind (wpAny_standAt (wpAny_bind ?_))
  show wpAny _ c.A (do let _ ← comprehension (.ListComp elt [⟨t, it, cts, 0⟩] sc pos) sc c.fenv _ (newList []) false (eval it c.fenv) (some (assign (.Name y py) c.fenv))) _ _ s
  refine wpAny_bind (wpAny_mono (wpAny_comprehension_free (use := some (assign (.Name y py) c.fenv)) (Q := fun _ s' => Q .next s') rfl (noSet hset) hclos (eq_of_beq g1) (fun x hx hl => ?_) (hev _ fun v u σ1 s1 h1 r1 => ?_)) (fun _ s' hq => wpAny_pure (wpAny_pure hq)) fun _ _ e => e)
  · have := List.all_eq_true.mp g3 x hx
    rw [hl] at this
    exact eq_of_beq this
  · refine x23 (imm_ok r1 List.mem_cons_self h1) fun v' σ2 h2 r2 n2 => ?_
    refine cmp_iter (T := (v, u) :: T) o hs hsc hcts r2 n2 h2 ?_ fun _ _ z => z
    intro D C s'' mC ys us cs m adr' M' K R' r3 hrl N off hn hCL hC₀ hCD hP hz
    show wpAny _ c.A (assign (.Name y py) c.fenv (.ref D)) _ _ _
    refine x12 (ns_obj hn) fun oC heC hoC => ?_
    have offC : ∀ p ∈ M' ++ (K ++ (R' ++ c.fr)), p.1 ≠ C := fun p hp => (off p hp).2
    have r4 := r3.more hs (fr := (C, oC) :: c.fr) (mf := (C, oC) :: c.mf) (fun p hp => by
        by_cases e : p = (C, oC)
        · subst e; exact ⟨heC, hCL, hC₀⟩
        · refine r3.N p ?_
          simp only [List.mem_append, List.mem_cons] at hp ⊢
          rcases hp with hp | hp | hp | hp | hp
          · exact .inl hp
          · exact .inr (.inl hp)
          · exact .inr (.inr (.inl hp))
          · exact absurd hp e
          · exact .inr (.inr (.inr hp)))
      (fun q hq p hp => by
        rcases List.mem_cons.mp hp with rfl | hp
        · exact (offC q (List.mem_append_left _ hq)).symm
        · exact r3.U.1 q hq p (List.mem_append_right _ (List.mem_append_right _ hp)))
      (fun q hq p hp => by
        rcases List.mem_cons.mp hp with rfl | hp
        · exact (offC q (List.mem_append_right _ (List.mem_append_left _ hq))).symm
        · exact r3.UK.1 q hq p (List.mem_append_right _ hp))
      (fun q hq => by
        rcases List.mem_cons.mp hq with rfl | hq
        · exact List.mem_cons_self
        · exact List.mem_cons_of_mem _ (r3.UF.1 q hq))
      (fun q hq p hp => by
        rcases List.mem_cons.mp hq with rfl | hq
        · exact offC p (List.mem_append_right _ (List.mem_append_right _ (List.mem_append_left _ hp)))
        · exact r3.UF.2.1 q hq p hp)
    have r5 := r4.live (s' := s'') (q := (D, listOf us.toArray us.length)) r4.F (fun p hp => by
        rcases List.mem_cons.mp hp with rfl | hp
        · exact N _ List.mem_cons_self
        · exact r4.N p hp) (fun p hp => by
        have hp : p ∈ M' ++ (K ++ (R' ++ ((C, oC) :: c.fr))) := hp
        by_cases e : p = (C, oC)
        · subst e; exact hCD
        · refine (off p ?_).1
          simp only [List.mem_append, List.mem_cons] at hp ⊢
          rcases hp with hp | hp | hp | hp | hp
          · exact .inl hp
          · exact .inr (.inl hp)
          · exact .inr (.inr (.inl hp))
          · exact absurd hp e
          · exact .inr (.inr (.inr hp))) (.list hz hrl) rfl rfl
    have o4 : (c.wf ((C, oC) :: c.fr) ((C, oC) :: c.mf)).Ok2 := Ok2.wf o fun p hp => List.mem_cons_of_mem _ hp
    have e4 : (c.wf ((C, oC) :: c.fr) ((C, oC) :: c.mf)).env = c.fenv := ee
    refine wpAny_assign_Name ?_
    have st := storeA_ok (E := E) (Q := fun _ s'' => ∃ m, s''.heap.Ns C m ∧ ∀ h', Heap.SameBut C s''.heap h' → Q .next { s'' with heap := h' }) o4 r5 hP (fun σ6 s6 h6 r6 => by
      refine Rel.out r6 fun m6 adr6 M6 K6 R6 r6 => ?_
      have hIm : (C, oC) ∈ (c.wf ((C, oC) :: c.fr) ((C, oC) :: c.mf)).fr := List.mem_cons_self
      have zC := r6.N (C, oC) (List.mem_append_right _ (List.mem_append_right _ (List.mem_append_right _ hIm)))
      refine i12 mC (hoC.ns zC.1) (fun h' hs' => k _ _ _ _ h6 (.next (Rel.sub (RelD.rel (RelD.heap (s' := { s6 with heap := h' }) (r6.less hs (fun p hp => List.mem_cons_of_mem _ hp) (fun p hp => List.mem_cons_of_mem _ hp) r3.UF.1) (r6.F.change hs' hCL hC₀) (fun p hp => ?_) rfl rfl)) fun q hq => List.mem_cons_of_mem _ hq)))
      have offp : p.1 ≠ C := by
        simp only [List.mem_append] at hp
        rcases hp with hp | hp | hp | hp
        · exact (r6.U.1 p hp _ (List.mem_append_right _ (List.mem_append_right _ hIm))).symm
        · exact (r6.UK.1 p hp _ (List.mem_append_right _ hIm)).symm
        · exact r6.UF.2.1 (C, oC) List.mem_cons_self p hp
        · exact offC p (by simp only [List.mem_append]; exact .inr (.inr (.inr hp)))
      have z := r6.N p (by
        show p ∈ M6 ++ (K6 ++ (R6 ++ ((C, oC) :: c.fr)))
        simp only [List.mem_append, List.mem_cons] at hp ⊢
        rcases hp with hp | hp | hp | hp
        · exact .inl hp
        · exact .inr (.inl hp)
        · exact .inr (.inr (.inl hp))
        · exact .inr (.inr (.inr (.inr hp))))
      exact ⟨hs'.extBut _ _ offp z.1, z.2⟩)
    rw [e4] at st
    exact st
theorem AS_name {y : Str} {py pos : Pos} {e : PySem.Expr} {P : KF} (o : c.Ok2) (hsw : swapsWith e (some (.Name y py)) pos.line c.env = pure false) (h : AE c e σ (kSt c y P)) : AS c (.Assign [.Name y py] e pos) σ P := by
  refine ⟨fun T s Q E hE r k => ?_⟩
  exact wpAny_Assign_Name (h.ap T s _ E hE r (kSt_ok o k)) hsw
end
end Mine
end
section
open PySem PySem.W PyProof.Rows PySem.Calls PySem.Spec
set_option tactic.hygienic false
set_option maxHeartbeats 400000
namespace Mine
section
variable {c : Cx} {σ : St} {P : KV}
theorem f42 (w : World) : FnOk w 42 [Str.ofString "self"] := .of (by kernel_rfl) (bd1 fun _ => by kernel_rfl)
theorem f84 (w : World) : FnOk w 84 [Str.ofString "self"] := .of (by kernel_rfl) (bd1 fun _ => by kernel_rfl)
theorem f166 (w : World) : FnOk w 166 [Str.ofString "self"] := .of (by kernel_rfl) (bd1 fun _ => by kernel_rfl)
theorem f303 (w : World) : FnOk w 303 [Str.ofString "self"] := .of (by kernel_rfl) (bd1 fun _ => by kernel_rfl)
theorem parts_var {a : Addr} {n : Str} (o : c.Ok2) (hr : Room c 3) (ret : P (.lst []) σ) : AC c (.ref 42) [oVar a n] σ P := by
  refine enter0 o (f42 _) hr (List.forall_mem_cons.mpr ⟨nc_obj, List.forall_mem_nil _⟩) rfl fun d KK _ od rd kr => (lvl_good od 60).ex _ _ _ ?_
  exact kr.rt _ _ ret
theorem parts_lit {a : Addr} {n : Int} (o : c.Ok2) (hr : Room c 3) (ret : P (.lst []) σ) : AC c (.ref 84) [oLit a n] σ P := by
  refine enter0 o (f84 _) hr (List.forall_mem_cons.mpr ⟨nc_obj, List.forall_mem_nil _⟩) rfl fun d KK _ od rd kr => (lvl_good od 60).ex _ _ _ ?_
  exact kr.rt _ _ ret
theorem parts_lam {a : Addr} {ps : List AV} {b : AV} (o : c.Ok2) (hr : Room c 3) (hb : NC b) (ret : P (.lst [.tup [b, .tup [.int 0]]]) σ) : AC c (.ref 166) [oLam a ps b] σ P := by
  refine enter0 o (f166 _) hr (List.forall_mem_cons.mpr ⟨nc_obj, List.forall_mem_nil _⟩) rfl fun d KK _ od rd kr => (lvl_good od 60).ex _ _ _ ?_
  refine imm_nc hb ?_
  exact kr.rt _ _ ret
theorem f343 (w : World) : FnOk w 343 [Str.ofString "self"] := .of (by kernel_rfl) (bd1 fun _ => by kernel_rfl)
theorem f124 (w : World) : FnOk w 124 [Str.ofString "self"] := .of (by kernel_rfl) (bd1 fun _ => by kernel_rfl)
noncomputable abbrev part (x : AV) : AV := .tup [x, .tup []]
theorem parts_con {a : Addr} {xs : List AV} (o : c.Ok2) (hr : Room c 3) (hb : ∀ x ∈ xs, NC x) (ret : P (.lst (xs.map part)) σ) : AC c (.ref 303) [oCon a xs] σ P := by
  refine enter0 o (f303 _) hr (List.forall_mem_cons.mpr ⟨nc_obj, List.forall_mem_nil _⟩) rfl fun d KK _ od rd kr => (lvl_good od 60).ex _ _ _ ?_
  refine AE_comp [] (lvl_good od 60) od rfl rfl (by decide) rfl ⟨by kernel_rfl, trivial⟩ ?_
  refine cmpL.mk (fun l ys cs => ∃ dn, xs = dn ++ l ∧ ys = dn.map part ∧ cs = []) ⟨⟨[], rfl, rfl, rfl⟩, ?_, ?_, ?_⟩
  · intro l ys cs j91
    refine x13 j91 fun dn e1 e2 e92 => ?_
    try clear j91
    obtain rfl := e92
    rfl
  · refine hide2 ?_
    intro G9 hG9 ys cs j93
    refine x13 j93 fun dn e1 e94 e95 => ?_
    try clear j93
    obtain rfl := e94
    obtain rfl := e95
    refine hG9 _ _ ?_
    clear hG9 G9
    rw [List.append_nil] at e1
    subst e1
    exact kr.rt _ _ ret
  · intro C oC m fr mf
    refine hide6 ?_
    intro G9 hG9 x r ys cs KE KN ok j96
    refine x13 j96 fun dn e97 e98 e99 => ?_
    try clear j96
    obtain rfl := e97
    obtain rfl := e98
    obtain rfl := e99
    refine hG9 _ _ _ _ _ _ ?_
    clear hG9 G9
    intro nx nk
    refine i12 _ rfl ?_
    refine imm_nc nx ?_
    exact nk.el _ _ (i13 (dn ++ [x]) (by simp) (by simp) rfl)
theorem parts_prim {a : Addr} {xs : List AV} (o : c.Ok2) (hr : Room c 3) (hb : ∀ x ∈ xs, NC x) (ret : P (.lst (xs.map part)) σ) : AC c (.ref 343) [oPrim a xs] σ P := by
  refine enter0 o (f343 _) hr (List.forall_mem_cons.mpr ⟨nc_obj, List.forall_mem_nil _⟩) rfl fun d KK _ od rd kr => (lvl_good od 60).ex _ _ _ ?_
  refine AE_comp [] (lvl_good od 60) od rfl rfl (by decide) rfl ⟨by kernel_rfl, trivial⟩ ?_
  refine cmpL.mk (fun l ys cs => ∃ dn, xs = dn ++ l ∧ ys = dn.map part ∧ cs = []) ⟨⟨[], rfl, rfl, rfl⟩, ?_, ?_, ?_⟩
  · intro l ys cs j910
    refine x13 j910 fun dn e1 e2 e911 => ?_
    try clear j910
    obtain rfl := e911
    rfl
  · refine hide2 ?_
    intro G9 hG9 ys cs j912
    refine x13 j912 fun dn e1 e913 e914 => ?_
    try clear j912
    obtain rfl := e913
    obtain rfl := e914
    refine hG9 _ _ ?_
    clear hG9 G9
    rw [List.append_nil] at e1
    subst e1
    exact kr.rt _ _ ret
  · intro C oC m fr mf
    refine hide6 ?_
    intro G9 hG9 x r ys cs KE KN ok j915
    refine x13 j915 fun dn e916 e917 e918 => ?_
    try clear j915
    obtain rfl := e916
    obtain rfl := e917
    obtain rfl := e918
    refine hG9 _ _ _ _ _ _ ?_
    clear hG9 G9
    intro nx nk
    refine i12 _ rfl ?_
    refine imm_nc nx ?_
    exact nk.el _ _ (i13 (dn ++ [x]) (by simp) (by simp) rfl)
theorem parts_app {a : Addr} {f : AV} {xs : List AV} (o : c.Ok2) (hr : Room c 3) (hf : NC f) (hb : ∀ x ∈ xs, NC x) (hz : xs.length ≤ 1000) (ret : P (.lst ((f :: xs).map part)) σ) : AC c (.ref 124) [oApp a f xs] σ P := by
  refine enter0 o (f124 _) hr (List.forall_mem_cons.mpr ⟨nc_obj, List.forall_mem_nil _⟩) rfl fun d KK _ od rd kr => (lvl_good od 60).ex _ _ _ ?_
  refine imm_nc hf ?_
  refine AE_comp [] (lvl_good od 60) od rfl rfl (by decide) rfl ⟨by kernel_rfl, trivial⟩ ?_
  refine cmpL.mk (fun l ys cs => ∃ dn, xs = dn ++ l ∧ ys = dn.map part ∧ cs = [.list [part f]]) ⟨⟨[], rfl, rfl, rfl⟩, ?_, ?_, ?_⟩
  · intro l ys cs j919
    refine x13 j919 fun dn e1 e2 e920 => ?_
    try clear j919
    obtain rfl := e920
    rfl
  · refine hide2 ?_
    intro G9 hG9 ys cs j921
    refine x13 j921 fun dn e1 e922 e923 => ?_
    try clear j921
    obtain rfl := e922
    obtain rfl := e923
    refine hG9 _ _ ?_
    clear hG9 G9
    rw [List.append_nil] at e1
    subst e1
    refine Need.mk (by simp only [List.length_cons, List.length_nil, List.length_map]; omega) ?_
    exact kr.rt _ _ ret
  · intro C oC m fr mf
    refine hide6 ?_
    intro G9 hG9 x r ys cs KE KN ok j924
    refine x13 j924 fun dn e925 e926 e927 => ?_
    try clear j924
    obtain rfl := e925
    obtain rfl := e926
    obtain rfl := e927
    refine hG9 _ _ _ _ _ _ ?_
    clear hG9 G9
    intro nx nk
    refine i12 _ rfl ?_
    refine imm_nc nx ?_
    exact nk.el _ _ (i13 (dn ++ [x]) (by simp) (by simp) rfl)
theorem Binds.len {bs : List AV} {ns : List Str} {es : List AV} (h : Binds bs ns es) : bs.length = es.length := by
  induction h with
  | nil => rfl
  | cons _ ih => exact congrArg (· + 1) ih
theorem f204 (w : World) : FnOk w 204 [Str.ofString "self"] := .of (by kernel_rfl) (bd1 fun _ => by kernel_rfl)
theorem parts_let {a : Addr} {b : AV} {bs : List AV} {ns : List Str} {es : List AV} {rc : Bool} (o : c.Ok2) (hr : Room c 3) (hb : NC b) (hB : Binds bs ns es) (hn : ∀ x ∈ es, NC x) (hz : bs.length ≤ 1000)
    (ret : P (.lst (es.map (fun x => .tup [x, cond rc (.tup [.int 0]) (.tup [])]) ++ [.tup [b, .tup [.int 0]]])) σ) : AC c (.ref 204) [oLet a bs b rc] σ P := by
  refine enter0 o (f204 _) hr (List.forall_mem_cons.mpr ⟨nc_obj, List.forall_mem_nil _⟩) rfl fun d KK _ od rd kr => (lvl_good od 60).ex _ _ _ ?_
  cases rc
  · refine Br.ff ?_
    refine AE_comp [Str.ofString "scope"] (lvl_good od 60) od rfl rfl (by decide) rfl ⟨by kernel_rfl, by kernel_rfl, trivial⟩ ?_
    refine cmpL.mk (fun l ys cs => ∃ es1 es2 ns2, Binds l ns2 es2 ∧ es = es1 ++ es2 ∧ ys = es1.map (fun x => .tup [x, .tup []]) ∧ cs = []) ⟨⟨[], es, ns, hB, rfl, rfl, rfl⟩, ?_, ?_, ?_⟩
    · intro l ys cs j928
      refine x34 j928 fun es1 es2 ns2 h1 h2 h3 e929 => ?_
      try clear j928
      obtain rfl := e929
      rfl
    · refine hide2 ?_
      intro G9 hG9 ys cs j930
      refine x34 j930 fun es1 es2 ns2 h1 h2 e931 e932 => ?_
      try clear j930
      obtain rfl := e931
      obtain rfl := e932
      refine hG9 _ _ ?_
      clear hG9 G9
      cases h1
      rw [List.append_nil] at h2
      subst h2
      refine imm_nc hb ?_
      refine Need.mk (by rw [List.length_map, ← hB.len]; simp only [List.length_cons, List.length_nil]; omega) ?_
      exact kr.rt _ _ ret
    · intro C oC m fr mf
      refine hide6 ?_
      intro G9 hG9 x r ys cs KE KN ok j933
      refine x34 j933 fun es1 es2 ns2 h1 e934 e935 e936 => ?_
      try clear j933
      obtain rfl := e934
      obtain rfl := e935
      obtain rfl := e936
      refine hG9 _ _ _ _ _ _ ?_
      clear hG9 G9
      intro nx nk
      cases h1 with | @cons n e _ _ es3 h1 => ?_
      refine i12 _ rfl ?_
      refine imm_nc (hn e (by simp)) ?_
      exact nk.el _ _ (i34 (es1 ++ [e]) es3 _ h1 (by simp) (by simp) rfl)
  · refine Br.tt ?_
    refine AE_comp [Str.ofString "scope"] (lvl_good od 60) od rfl rfl (by decide) rfl ⟨by kernel_rfl, by kernel_rfl, trivial⟩ ?_
    refine cmpL.mk (fun l ys cs => ∃ es1 es2 ns2, Binds l ns2 es2 ∧ es = es1 ++ es2 ∧ ys = es1.map (fun x => .tup [x, .tup [.int 0]]) ∧ cs = []) ⟨⟨[], es, ns, hB, rfl, rfl, rfl⟩, ?_, ?_, ?_⟩
    · intro l ys cs j937
      refine x34 j937 fun es1 es2 ns2 h1 h2 h3 e938 => ?_
      try clear j937
      obtain rfl := e938
      rfl
    · refine hide2 ?_
      intro G9 hG9 ys cs j939
      refine x34 j939 fun es1 es2 ns2 h1 h2 e940 e941 => ?_
      try clear j939
      obtain rfl := e940
      obtain rfl := e941
      refine hG9 _ _ ?_
      clear hG9 G9
      cases h1
      rw [List.append_nil] at h2
      subst h2
      refine imm_nc hb ?_
      refine Need.mk (by rw [List.length_map, ← hB.len]; simp only [List.length_cons, List.length_nil]; omega) ?_
      exact kr.rt _ _ ret
    · intro C oC m fr mf
      refine hide6 ?_
      intro G9 hG9 x r ys cs KE KN ok j942
      refine x34 j942 fun es1 es2 ns2 h1 e943 e944 e945 => ?_
      try clear j942
      obtain rfl := e943
      obtain rfl := e944
      obtain rfl := e945
      refine hG9 _ _ _ _ _ _ ?_
      clear hG9 G9
      intro nx nk
      cases h1 with | @cons n e _ _ es3 h1 => ?_
      refine i12 _ rfl ?_
      refine imm_nc (hn e (by simp)) ?_
      exact nk.el _ _ (i34 (es1 ++ [e]) es3 _ h1 (by simp) (by simp) rfl)
end
end Mine
end
section
open PySem PySem.W PyProof.Rows PySem.Calls PySem.Spec
set_option tactic.hygienic false
set_option maxHeartbeats 400000
namespace Mine
theorem Alts.len {as : List AV} {ks : List (AV × List AV)} {bs : List AV} (h : Alts as ks bs) : as.length = bs.length := by
  induction h with
  | nil => rfl
  | cons _ ih => exact congrArg (· + 1) ih
theorem Alts.klen {as : List AV} {ks : List (AV × List AV)} {bs : List AV} (h : Alts as ks bs) : as.length = ks.length := by
  induction h with
  | nil => rfl
  | cons _ ih => exact congrArg (· + 1) ih
theorem Alts.get {as : List AV} {ks : List (AV × List AV)} {bs : List AV} (h : Alts as ks bs) : ∀ {i : Nat} {b : AV}, bs[i]? = some b → ∃ a k ns, as[i]? = some (oAlt a k ns b) := by
  induction h with
  | nil => intro i b e; simp at e
  | cons _ ih =>
    intro i b e
    cases i with
    | zero => cases e; exact ⟨_, _, _, rfl⟩
    | succ i => exact ih (i := i) e
theorem Prs.app {ps ks : List AV} (h : Prs ps ks) {k sc : AV} : Prs (ps ++ [.tup [k, sc]]) (ks ++ [k]) := by
  induction h with
  | nil => exact .cons .nil
  | cons _ ih => exact .cons ih
theorem Prs.len9 {ps ks : List AV} (h : Prs ps ks) : ps.length = ks.length := by
  induction h with
  | nil => rfl
  | cons _ ih => exact congrArg (· + 1) ih
section
variable {c : Cx} {σ : St} {P : KV}
theorem f263 (w : World) : FnOk w 263 [Str.ofString "self"] := .of (by kernel_rfl) (bd1 fun _ => by kernel_rfl)
theorem parts_case {a : Addr} {v ot : AV} {n : Str} {as : List AV} {ks : List (AV × List AV)} {bs : List AV} (o : c.Ok2) (hr : Room c 3) (hv : NC v) (hA : Alts as ks bs) (hb : ∀ x ∈ bs, NC x) (hz : as.length ≤ 1000)
    (hot : ot = .none ∨ ∃ a C fs, ot = .obj a C fs) (ret : ∀ ps, Prs ps (v :: (match ot with | .none => bs | _ => bs ++ [ot])) → P (.lst ps) σ) : AC c (.ref 263) [oCase a v n as ot] σ P := by
  refine enter0 o (f263 _) hr (List.forall_mem_cons.mpr ⟨nc_obj, List.forall_mem_nil _⟩) rfl fun d KK _ od rd kr => (lvl_good od 60).ex _ _ _ ?_
  refine imm_nc hv ?_
  refine AS_for (lvl_good od 60) od rfl rfl ?_
  refine Need.mk (by constructor <;> omega) ?_
  have hl := hA.len
  refine forL.rng [Str.ofString "self", Str.ofString "found"] (fun l σ => ∃ ps bs1 bs2, bs = bs1 ++ bs2 ∧ l = (List.range' bs1.length bs2.length).map (fun j : Nat => AV.int (j : Int)) ∧ Prs ps (v :: bs1) ∧ σ = ⟨[(Str.ofString "self", oCase a v n as ot), (Str.ofString "found", .cell 0)], [.list ps]⟩) ⟨?_, ?_, ?_⟩
  · exact i34 [part v] [] bs rfl (by unfold intsR; rw [Int.toNat_natCast, List.range_eq_range', hl]; rfl) (.cons .nil) rfl
  · refine hide1 ?_
    intro G9 hG9 σ' j91
    refine x34 j91 fun ps bs1 bs2 e92 h1 h2 e93 => ?_
    try clear j91
    obtain rfl := e92
    obtain rfl := e93
    refine hG9 _ ?_
    clear hG9 G9
    cases bs2 with
    | cons => cases h1
    | nil =>
      rw [List.append_nil] at *
      rcases hot with rfl | ⟨a', C', fs', rfl⟩
      · refine Br.tt ?_
        exact kr.rt _ _ (ret ps h2)
      · refine Br.ff ?_
        refine Need.mk (by rw [h2.len9]; simp only [List.length_cons, List.length_nil]; omega) ?_
        exact kr.rt _ _ (ret _ (h2.app (sc := .tup [.int 0])))
  · intro fr mf
    refine hide4 ?_
    intro G9 hG9 p r σ' KK o' j94
    refine x34 j94 fun ps bs1 bs2 e95 h1 h2 e96 => ?_
    try clear j94
    obtain rfl := e95
    obtain rfl := e96
    refine hG9 _ _ _ _ ?_
    clear hG9 G9
    intro np nk
    cases bs2 with
    | nil => cases h1
    | cons b bs2 =>
      refine x02 (List.cons.inj (show p :: r = AV.int (bs1.length : Int) :: (List.range' (bs1.length + 1) bs2.length).map (fun j : Nat => AV.int (j : Int)) from h1)) fun e97 e98 => ?_
      obtain rfl := e97
      obtain rfl := e98
      refine x31 (hA.get (i := bs1.length) (b := b) (by simp)) fun a' k' ns' e => ?_
      have nb := hb b (by simp)
      refine Item.at (i := (bs1.length : Int)) (x := oAlt a' k' ns' b) (Int.natCast_nonneg _) (by rw [Int.toNat_natCast]; exact e) ?_
      refine imm_nc nb ?_
      refine Need.mk (by rw [h2.len9]; simp only [List.length_cons, List.length_append] at hl ⊢; omega) ?_
      exact nk.nx _ (i34 _ (bs1 ++ [b]) bs2 (by simp) (by rw [List.length_append]; rfl) (h2.app (sc := .tup [.int 0, .int (bs1.length + 1)])) rfl)
end
end Mine
end
section
open PySem PySem.W PyProof.Rows PySem.Calls PySem.Spec
set_option tactic.hygienic false
set_option maxHeartbeats 400000
namespace Mine
theorem Prs.parts {xs : List AV} {g : AV → AV} : Prs (xs.map fun x => .tup [x, g x]) xs := by
  induction xs with
  | nil => exact .nil
  | cons x xs ih => exact .cons ih
theorem parts_ac {c : Cx} {σ : St} {P : KV} {v : AV} {ks : List AV} (o : c.Ok2) (hr : Room c 3) (h : Node v ks) (hk : ∀ k ∈ ks, NC k) (hz : ks.length ≤ 1000) (ret : ∀ ps, Prs ps ks → P (.lst ps) σ) : AC c (.ref (partsFn v)) [v] σ P := by
  cases h with
  | var => exact parts_var o hr (ret _ .nil)
  | lit => exact parts_lit o hr (ret _ .nil)
  | app => exact parts_app o hr (hk _ List.mem_cons_self) (fun x hx => hk x (List.mem_cons_of_mem _ hx)) (by simp only [List.length_cons] at hz; omega) (ret _ Prs.parts)
  | lam => exact parts_lam o hr (hk _ List.mem_cons_self) (ret _ (.cons .nil))
  | let_ hB => exact parts_let o hr (hk _ (List.mem_append_right _ List.mem_cons_self)) hB (fun x hx => hk x (List.mem_append_left _ hx)) (by rw [hB.len]; simp only [List.length_append] at hz; omega) (ret _ (Prs.parts.app))
  | case hA => exact parts_case o hr (hk _ List.mem_cons_self) hA (fun x hx => hk x (List.mem_cons_of_mem _ hx)) (by rw [hA.len]; simp only [List.length_cons] at hz; omega) (.inl rfl) ret
  | caseO hA => exact parts_case o hr (hk _ List.mem_cons_self) hA (fun x hx => hk x (List.mem_cons_of_mem _ (List.mem_append_left _ hx))) (by rw [hA.len]; simp only [List.length_cons, List.length_append] at hz; omega) (.inr ⟨_, _, _, rfl⟩) ret
  | con => exact parts_con o hr hk (ret _ Prs.parts)
  | prim => exact parts_prim o hr hk (ret _ Prs.parts)
theorem m_parts {L : Lvl} {c : Cx} {σ : St} {P : KV} {v : AV} {ks : List AV} (o : c.Ok2) (hr : Room c 3) (h : Node v ks) (hk : ∀ k ∈ ks, NC k) (hz : ks.length ≤ 1000) (ret : ∀ ps, Prs ps ks → P (.lst ps) σ) : methE L c v (Str.ofString "parts") [] σ P := by
  have := parts_ac o hr h hk hz ret
  cases h <;> exact this
end Mine
end
section
open PySem PySem.W PyProof.Rows
set_option tactic.hygienic false
set_option maxHeartbeats 400000
namespace Mine
theorem f444 (w : World) : FnOk w 444 [Str.ofString "expr", Str.ofString "most"] := .of (by kernel_rfl) (bd2 fun _ _ => by kernel_rfl)
noncomputable def SzJ (most : Int) (tot : Nat) (k : Nat) (σ : St) : Prop := ∃ (stk : List Tr) (many : Int), σ = ⟨[(Str.ofString "most", .int most), (Str.ofString "many", .int many), (Str.ofString "tasks", .cell 0)], [.list (stk.map Tr.v)]⟩ ∧
  (∀ t ∈ stk, Wf t) ∧ many + sizeL stk = tot ∧ 0 ≤ many ∧ many ≤ most + 1 ∧ k = sizeL stk
theorem size_ac {c : Cx} {σ : St} {P : KV} {t : Tr} {most : Int} (o : c.Ok2) (hr : Room c 5) (ht : Wf t) (hsz : size t ≤ 1000) (hm0 : 0 ≤ most) (hm1 : most ≤ 100) (ret : P (.int (min (size t : Int) (most + 1))) σ) : AC c (.ref 444) [t.v, .int most] σ P := by
  refine enter0 o (f444 _) hr (List.forall_mem_cons.mpr ⟨ht.nc, List.forall_mem_cons.mpr ⟨nc_int, List.forall_mem_nil _⟩⟩) rfl fun d KK _ od rd kr => (lvl_good od 60).ex _ _ _ ?_
  refine isTup_f (names := [Str.ofString "many", Str.ofString "tasks"]) (lvl_good od 60) od rfl rfl rfl (by kernel_rfl) ?_
  refine imm_nc ht.nc ?_
  refine AS_while [Str.ofString "most", Str.ofString "many", Str.ofString "tasks"] (SzJ most (size t)) (lvl_good od 60) (size t) ?_ ?_
  · exact i26 [t] 0 rfl (fun x hx => List.mem_singleton.mp hx ▸ ht) (by simp [sizeL]) (Int.le_refl _) (by omega) (by simp [sizeL])
  · refine hide3 ?_
    intro G9 hG9 k σ' KK j91
    refine x26 j91 fun stk many e92 hw he h0 h1 hk => ?_
    try clear j91
    obtain rfl := e92
    refine hG9 _ _ _ ?_
    clear hG9 G9
    intro nk
    rcases List.eq_nil_or_concat stk with rfl | ⟨pre, x, rfl⟩
    · refine Br.ff ?_
      refine Br.ff ?_
      refine Br.tt ?_
      have : many = min (size t : Int) (most + 1) := by simp only [sizeL] at he; omega
      subst this
      exact kr.rt _ _ ret
    · rw [List.concat_eq_append] at *
      rw [List.map_append, List.map_cons, List.map_nil]
      have hx := hw x (by simp)
      obtain ⟨v, ks⟩ := x
      cases hx with | node hn hks => ?_
      simp only [sizeL_app, sizeL, size, Nat.add_zero] at he hk
      refine Br.t (by simp) ?_
      refine Br.mk (fun h => ?_) (fun h => ?_)
      · refine Br.tt ?_
        refine Pop.mk ?_
        refine AS_for (lvl_good od 60) od rfl rfl ?_
        have hkn : ∀ k ∈ ks.map Tr.v, NC k := fun k hk => (by obtain ⟨t', ht', rfl⟩ := List.mem_map.mp hk; exact (hks t' ht').nc)
        refine m_parts od (rd.le (by decide)) hn hkn (by rw [List.length_map]; have := len_size ks; omega) fun ps hps => ?_
        refine forL.mk [Str.ofString "most", Str.ofString "many", Str.ofString "tasks"] (fun l σ => ∃ dn ks', σ = ⟨[(Str.ofString "most", .int most), (Str.ofString "many", .int (many + 1)), (Str.ofString "tasks", .cell 0)], [.list ((pre ++ dn).map Tr.v)]⟩ ∧ Prs l (ks'.map Tr.v) ∧ dn ++ ks' = ks) ⟨?_, ?_, ?_⟩
        · exact i23 [] ks (by rw [List.append_nil]; rfl) hps rfl
        · refine hide1 ?_
          intro G9 hG9 σ' j93
          refine x23 j93 fun dn ks' e94 hp e95 => ?_
          try clear j93
          obtain rfl := e94
          obtain rfl := e95
          refine hG9 _ ?_
          clear hG9 G9
          cases ks' with | cons _ _ => cases hp | nil => ?_
          rw [List.append_nil] at *
          exact nk.nx _ ⟨sizeL (pre ++ dn), by rw [sizeL_app]; omega, pre ++ dn, many + 1, rfl, List.forall_mem_append.mpr ⟨fun x hx => hw x (List.mem_append_left _ hx), hks⟩, by rw [sizeL_app]; omega, by omega, by have := of_decide_eq_true h; omega, rfl⟩
        · intro fr mf
          refine hide4 ?_
          intro G9 hG9 p r σ' KJ o' j96
          refine x23 j96 fun dn ks' e97 hp e98 => ?_
          try clear j96
          obtain rfl := e97
          obtain rfl := e98
          refine hG9 _ _ _ _ ?_
          clear hG9 G9
          intro np nj
          cases ks' with | nil => cases hp | cons k1 ks' => ?_
          cases hp with | cons hp => ?_
          refine imm_nc (hks k1 (by simp)).nc ?_
          refine Need.mk ?_ ?_
          · have e1 := len_size (pre ++ (dn ++ k1 :: ks'))
            simp only [List.length_map, List.length_append, List.length_cons, sizeL_app] at e1 he ⊢
            omega
          · have e : (pre ++ (dn ++ [k1])).map Tr.v = (pre ++ dn).map Tr.v ++ [k1.v] := by simp
            exact nj.nx _ (i23 (dn ++ [k1]) ks' (by rw [e]; rfl) hp (by simp))
      · refine Br.ff ?_
        refine Br.f (by simp) ?_
        have : most + 1 = min (size t : Int) (most + 1) := by have := size_pos t; have h := of_decide_eq_false h; omega
        rw [← this] at ret
        exact kr.rt _ _ ret
end Mine
end
section
open PySem PySem.W PyProof.Rows PySem.Calls PySem.Spec
set_option tactic.hygienic false
set_option maxHeartbeats 400000
namespace Mine
inductive Grp : AV → List AV → Prop
  | var {a n} : Grp (oVar a n) []
  | lit {a k} : Grp (oLit a k) []
  | app {a f xs} : Grp (oApp a f xs) []
  | lam {a ps b} : Grp (oLam a ps b) [.lst ps]
  | let_ {a bs b r ns es} : Binds bs ns es → Grp (oLet a bs b r) [.lst (ns.map .str)]
  | case {a v n as ot ks bs} : Alts as ks bs → Grp (oCase a v n as ot) (.lst [.str n] :: ks.map fun k => .lst k.2)
  | con {a xs} : Grp (oCon a xs) []
  | prim {a xs} : Grp (oPrim a xs) []
noncomputable def grpFn (v : AV) : Addr := match v with
  | .obj _ C _ => (lk (Str.ofString "groups") (lkN C meths)).getD 0
  | _ => 0
theorem f1 {w : World} {f : Addr} {x : Str} (h : fnB w f [x] = true) (bd : ∀ u1, bindArgs (datOf (hp w) f) ⟨[u1], []⟩ = pure [(x, u1)]) : FnOk w f [x] := .of h (bd1 bd)
section
variable {c : Cx} {σ : St} {P : KV}
theorem ent1 {f : Addr} {x : Str} {v : AV} {n : Nat} (o : c.Ok2) (h1 : fnB c.w f [x] = true) (bd : ∀ u1, bindArgs (datOf (hp c.w) f) ⟨[u1], []⟩ = pure [(x, u1)]) (hr : Room c (n + 1)) (nv : NC v)
    (h : ∀ (d : Cx) (KK : KF), (d.fn f).Ok2 → Room (d.fn f) n → Rt0 P σ KK → (lvl (d.fn f) 60).ex (bodyOf (hp d.w) f) ⟨[(x, v)], []⟩ KK) : AC c (.ref f) [v] σ P :=
  enter0 o (f1 h1 bd) hr (List.forall_mem_cons.mpr ⟨nv, List.forall_mem_nil _⟩) rfl fun d KK _ od rd kr => (lvl_good od 60).ex _ _ _ (h d KK od rd kr)
noncomputable abbrev sSelf : Str := Str.ofString "self"
theorem grp_lam {a : Addr} {ps : List AV} {b : AV} (o : c.Ok2) (hr : Room c 3) (ret : P (.lst [.lst ps]) σ) : AC c (.ref 159) [oLam a ps b] σ P := by
  refine ent1 (x := sSelf) o (by kernel_rfl) (fun _ => by kernel_rfl) hr nc_obj fun d KK od rd kr => ?_
  exact kr.rt _ _ ret
theorem grp_let {a : Addr} {b : AV} {bs : List AV} {ns : List Str} {es : List AV} {rc : Bool} (o : c.Ok2) (hr : Room c 3) (hB : Binds bs ns es) (ret : P (.lst [.lst (ns.map .str)]) σ) : AC c (.ref 199) [oLet a bs b rc] σ P := by
  refine ent1 (x := sSelf) o (by kernel_rfl) (fun _ => by kernel_rfl) hr nc_obj fun d KK od rd kr => ?_
  refine AE_comp [] (lvl_good od 60) od rfl rfl (by decide) rfl ⟨by kernel_rfl, trivial⟩ ?_
  refine cmpL.mk (fun l ys cs => ∃ n1 n2 e2, Binds l n2 e2 ∧ ns = n1 ++ n2 ∧ ys = n1.map .str ∧ cs = []) ⟨⟨[], ns, es, hB, rfl, rfl, rfl⟩, ?_, ?_, ?_⟩
  · intro l ys cs j91
    refine x34 j91 fun _ _ _ _ _ _ e92 => ?_
    try clear j91
    obtain rfl := e92
    rfl
  · refine hide2 ?_
    intro G9 hG9 ys cs j93
    refine x34 j93 fun n1 n2 e2 h1 h2 e94 e95 => ?_
    try clear j93
    obtain rfl := e94
    obtain rfl := e95
    refine hG9 _ _ ?_
    clear hG9 G9
    cases h1
    rw [List.append_nil] at h2
    subst h2
    exact kr.rt _ _ ret
  · intro C oC m fr mf
    refine hide6 ?_
    intro G9 hG9 x r ys cs KE KN ok j96
    refine x34 j96 fun n1 n2 e2 h1 e97 e98 e99 => ?_
    try clear j96
    obtain rfl := e97
    obtain rfl := e98
    obtain rfl := e99
    refine hG9 _ _ _ _ _ _ ?_
    clear hG9 G9
    intro nx nk
    cases h1 with | @cons n e _ n3 e3 h1 => ?_
    refine i12 _ rfl ?_
    exact nk.el _ _ (i34 (n1 ++ [n]) n3 e3 h1 (by simp) (by simp) rfl)
theorem grp_case {a : Addr} {v ot : AV} {n : Str} {as : List AV} {ks : List (AV × List AV)} {bs : List AV} (o : c.Ok2) (hr : Room c 3) (hA : Alts as ks bs) (hz : as.length ≤ 1000) (ret : P (.lst (.lst [.str n] :: ks.map fun k => .lst k.2)) σ) : AC c (.ref 256) [oCase a v n as ot] σ P := by
  refine ent1 (x := sSelf) o (by kernel_rfl) (fun _ => by kernel_rfl) hr nc_obj fun d KK od rd kr => ?_
  refine AE_comp [] (lvl_good od 60) od rfl rfl (by decide) rfl ⟨by kernel_rfl, trivial⟩ ?_
  refine cmpL.mk (fun l ys cs => ∃ k1 k2 b2, Alts l k2 b2 ∧ ks = k1 ++ k2 ∧ ys = k1.map (fun k => .lst k.2) ∧ cs = [.fro (.lst [.str n]), .list [.lst [.str n]]]) ⟨⟨[], ks, bs, hA, rfl, rfl, rfl⟩, ?_, ?_, ?_⟩
  · intro l ys cs j910
    refine x34 j910 fun _ _ _ _ _ _ e911 => ?_
    try clear j910
    obtain rfl := e911
    rfl
  · refine hide2 ?_
    intro G9 hG9 ys cs j912
    refine x34 j912 fun k1 k2 b2 h1 h2 e913 e914 => ?_
    try clear j912
    obtain rfl := e913
    obtain rfl := e914
    refine hG9 _ _ ?_
    clear hG9 G9
    cases h1
    rw [List.append_nil] at h2
    subst h2
    refine Need.mk (by have := hA.klen; rw [List.length_map, ← this]; simp only [List.length_cons, List.length_nil]; omega) ?_
    exact kr.rt _ _ ret
  · intro C oC m fr mf
    refine hide6 ?_
    intro G9 hG9 x r ys cs KE KN ok j915
    refine x34 j915 fun k1 k2 b2 h1 e916 e917 e918 => ?_
    try clear j915
    obtain rfl := e916
    obtain rfl := e917
    obtain rfl := e918
    refine hG9 _ _ _ _ _ _ ?_
    clear hG9 G9
    intro nx nk
    cases h1 with | @cons a' k' ns' b' _ k3 b3 h1 => ?_
    refine i12 _ rfl ?_
    exact nk.el _ _ (i34 (k1 ++ [(.tup k', ns')]) k3 b3 h1 (by simp) (by simp) rfl)
theorem grp_none {f : Addr} {v : AV} (o : c.Ok2) (hr : Room c 3) (hf : f ∈ [35, 77, 119, 298, 338]) (nv : NC v) (ret : P (.lst []) σ) : AC c (.ref f) [v] σ P := by
  simp only [List.mem_cons, List.not_mem_nil, or_false] at hf
  rcases hf with rfl | rfl | rfl | rfl | rfl
  all_goals
    refine ent1 (x := sSelf) o (by kernel_rfl) (fun _ => by kernel_rfl) hr nv fun d KK od rd kr => ?_
    exact kr.rt _ _ ret
theorem groups_ac {v : AV} {ks : List AV} (o : c.Ok2) (hr : Room c 3) (h : Node v ks) (hz : ks.length ≤ 1000) (ret : ∀ gs, Grp v gs → P (.lst gs) σ) : AC c (.ref (grpFn v)) [v] σ P := by
  cases h with
  | var => exact grp_none (f := 35) o hr (by decide) nc_obj (ret _ .var)
  | lit => exact grp_none (f := 77) o hr (by decide) nc_obj (ret _ .lit)
  | app => exact grp_none (f := 119) o hr (by decide) nc_obj (ret _ .app)
  | lam => exact grp_lam o hr (ret _ .lam)
  | let_ hB => exact grp_let o hr hB (ret _ (.let_ hB))
  | case hA => exact grp_case o hr hA (by rw [hA.len]; simp only [List.length_cons] at hz; omega) (ret _ (.case hA))
  | caseO hA => exact grp_case o hr hA (by rw [hA.len]; simp only [List.length_cons, List.length_append] at hz; omega) (ret _ (.case hA))
  | con => exact grp_none (f := 298) o hr (by decide) nc_obj (ret _ .con)
  | prim => exact grp_none (f := 338) o hr (by decide) nc_obj (ret _ .prim)
theorem m_groups {L : Lvl} {v : AV} {ks : List AV} (o : c.Ok2) (hr : Room c 3) (h : Node v ks) (hz : ks.length ≤ 1000) (ret : ∀ gs, Grp v gs → P (.lst gs) σ) : methE L c v (Str.ofString "groups") [] σ P := by
  have := groups_ac o hr h hz ret
  cases h <;> exact this
end
end Mine
end
section
open PySem PySem.W PyProof.Rows PySem.Calls PySem.Spec
set_option tactic.hygienic false
set_option maxHeartbeats 400000
namespace Mine
noncomputable def AV.dct? (v : AV) : Option (List (Str × AV)) := match v with
  | .dct l => some l
  | _ => Option.none
noncomputable def Cell.dict? (c : Cell) : Option (List (Str × AV)) := match c with
  | .dict l => some l
  | _ => none
noncomputable def Cell.dct? (c : Cell) : Option (List (Str × AV)) := match c with
  | .dict l => some l
  | .fro v => v.dct?
  | _ => none
noncomputable def dctOf (v : AV) (σ : St) : Option (List (Str × AV)) := match v with
  | .cell k => σ.cs[k]?.bind Cell.dct?
  | v => v.dct?
noncomputable def dsto {α : Type} (l : List (Str × α)) (k : Str) (v : α) : List (Str × α) := if l.any (fun q => q.1 = k) then l.map (fun q => if q.1 = k then (q.1, v) else q) else l ++ [(k, v)]
theorem Rk.map {w : World} {R : Led} {k : Str} {v : AV} {u : Value} (h : Ri w R v u) {l : List (Str × AV)} : ∀ {kvs : List (Str × Value)}, Rk w R l kvs → Rk w R (l.map fun q => if q.1 = k then (q.1, v) else q) (kvs.map fun q => if q.1 = k then (q.1, u) else q) := by
  induction l with
  | nil => intro kvs z; cases z; exact .nil
  | cons q l ih =>
    intro kvs z
    cases z with
    | @cons k' _ u' _ vs a b =>
      rw [List.map_cons, List.map_cons]
      dsimp only
      by_cases e : k' = k
      · rw [if_pos e, if_pos e]; exact .cons h (ih b)
      · rw [if_neg e, if_neg e]; exact .cons a (ih b)
theorem Rk.app {w : World} {R : Led} {k : Str} {v : AV} {u : Value} (h : Ri w R v u) {l : List (Str × AV)} : ∀ {kvs : List (Str × Value)}, Rk w R l kvs → Rk w R (l ++ [(k, v)]) (kvs ++ [(k, u)]) := by
  induction l with
  | nil => intro kvs z; cases z; exact .cons h .nil
  | cons q l ih => intro kvs z; cases z with | cons a b => exact .cons a (ih b)
theorem Rk.keys {w : World} {R : Led} {l : List (Str × AV)} : ∀ {kvs : List (Str × Value)}, Rk w R l kvs → kvs.map (·.1) = l.map (·.1) := by
  induction l with
  | nil => intro kvs z; cases z; rfl
  | cons q l ih => intro kvs z; cases z with | cons a b => exact congrArg (_ :: ·) (ih b)
theorem Rk.any {w : World} {R : Led} {k : Str} {l : List (Str × AV)} {kvs : List (Str × Value)} (h : Rk w R l kvs) : kvs.any (fun q => q.1 = k) = l.any (fun q => q.1 = k) := by
  have e1 : kvs.any (fun q => q.1 = k) = (kvs.map (·.1)).any (fun x => x = k) := by rw [List.any_map]; rfl
  have e2 : l.any (fun q => q.1 = k) = (l.map (·.1)).any (fun x => x = k) := by rw [List.any_map]; rfl
  rw [e1, e2, h.keys]
theorem Rk.stored {w : World} {R : Led} {k : Str} {v : AV} {u : Value} (h : Ri w R v u) {l : List (Str × AV)} {kvs : List (Str × Value)} (z : Rk w R l kvs) : Rk w R (dsto l k v) (PySem.stored kvs k u) := by
  unfold dsto PySem.stored
  rw [z.any]
  split
  · exact z.map h
  · exact z.app h
theorem Rk.find {w : World} {R : Led} {k : Str} {l : List (Str × AV)} : ∀ {kvs : List (Str × Value)}, Rk w R l kvs → (lk k l = none ∧ valueAt kvs k = none) ∨ ∃ v u, lk k l = some v ∧ valueAt kvs k = some u ∧ Ri w R v u := by
  induction l with
  | nil => intro kvs z; cases z; exact .inl ⟨rfl, rfl⟩
  | cons q l ih =>
    intro kvs z
    cases z with
    | @cons k' v u _ vs a b =>
      have e1 : lk k ((k', v) :: l) = cond (seq k k') (some v) (lk k l) := rfl
      have e2 : valueAt ((k', u) :: vs) k = if k' = k then some u else valueAt vs k := by
        unfold valueAt
        rw [List.find?_cons]
        by_cases e : k' = k
        · rw [if_pos e, decide_eq_true e]; rfl
        · rw [if_neg e, decide_eq_false e]
      rw [e1, e2]
      cases q : seq k k' with
      | true => rw [if_pos (seq_eq q).symm]; exact .inr ⟨v, u, rfl, rfl, a⟩
      | false =>
        have : k' ≠ k := fun e => by rw [e, seq_iff, beq_self_eq_true] at q; cases q
        rw [if_neg this]; exact ih b
section
variable {c : Cx} {σ : St} {T : List (AV × Value)} {s : Shared} {E : Value → Shared → Prop} {m : Str → Option Value} {adr : List Addr} {M K R : Led} {P : KV}
theorem dictB {o : Option Cell} {l : List (Str × AV)} (h : o.bind Cell.dict? = some l) : o = some (.dict l) := by
  cases o with
  | none => cases h
  | some ce => cases ce with
    | dict => exact congrArg (fun l => some (Cell.dict l)) (Option.some.inj h)
    | _ => cases h
theorem RelD.dct {Q : Value → Prop} (r : RelD c σ T s m adr M K R) {v : AV} {u : Value} {l : List (Str × AV)} (h : (v, u) ∈ T) (e : dctOf v σ = some l)
    (kk : ∀ a kvs o, Rk c.w R l kvs → o.IsDictOf (skd c.w) kvs → (a == sysModules) = false → (a, o) ∈ M ++ (K ++ (R ++ c.fr)) → Q (.ref a)) : Q u := by
  have frozen : ∀ {u : Value}, Ri c.w R (.dct l) u → Q u := fun hh => hh.dctI fun kvs a o hm z z2 hl => kk a kvs o hl z z2 (r.still? hm)
  have dd : ∀ {v : AV}, v.dct? = some l → v = .dct l := by
    intro v e
    cases v with
    | dct => cases e; rfl
    | _ => cases e
  cases r.T _ h with
  | imm hh =>
    cases v with
    | cell => exact hh.noCell
    | dct => cases e; exact frozen hh
    | _ => cases e
  | clo => cases e
  | @cell k a hk =>
    refine x12 (Option.bind_eq_some_iff.mp (show σ.cs[k]?.bind Cell.dct? = some l from e)) fun ce hc e => ?_
    cases ce with
    | dict l' =>
      cases e
      exact r.atM hc (fun v hv => by cases hv) hk fun q h2 hq => by cases h2 with | dict z z2 hl => exact kk a _ _ hl z z2 hq
    | fro v =>
      obtain rfl := dd e
      exact frozen (r.C.frozenA hc hk)
    | _ => cases e
theorem AE_dict {pos : Pos} (o : c.Ok2) (h : P (.cell σ.cs.length) (σ.push (.dict []))) : AE c (.Dict [] [] pos) σ P := by
  refine ⟨fun T s Q E hE r k => ?_⟩
  refine Rel.out r fun m adr M K R r => ?_
  refine newDict_K r.F r.N o.T.nolimit fun d h' ob F' N' hlt lo hd _ _ _ => ?_
  exact k _ _ _ _ h (r.live (s' := { s with heap := h' }) (q := (d, ob)) F' N' (fun p hp => Nat.ne_of_lt (hlt p hp)) (.dict hd lo .nil) rfl rfl)
theorem SI_dict {k : Nat} {x : Str} {v : AV} {P : St → Prop} (h : imm v σ fun v' σ1 => optL (σ1.cs[k]?.bind Cell.dict?) (fun l => Need (l.length ≤ 16000000) (P (σ1.setc k (.dict (dsto l x v'))))) False) : SI c (.cell k) (.str x) v σ P := by
  intro T s u1 u2 u3 Q E r kk
  refine x11 (r.str List.mem_cons_self) fun t e91 => ?_
  obtain rfl := e91
  refine x23 (imm_ok r (u := u3) (List.mem_cons_of_mem _ (List.mem_cons_of_mem _ List.mem_cons_self)) h) fun v' σ1 h1 r1 n1 => ?_
  refine x13 (optL_out h1) fun l hk hn hp => ?_
  refine Rel.out r1 fun m adr M K R r1 => ?_
  have hy := r1.ri List.mem_cons_self n1
  refine (r1.T (AV.cell k, u1) (List.mem_cons_of_mem _ (List.mem_cons_of_mem _ List.mem_cons_self))).cellI (Q := fun u1 => wpAny c.M c.A (setItem u1 (Value.str x t) u3) Q E s) fun a ha => ?_
  refine r1.atDict (dictB hk) ha fun kvs o rest z z2 hl g3 g4 _ g6 => ?_
  have hlen := congrArg List.length hl.keys
  rw [List.length_map, List.length_map] at hlen
  refine kda_set (knd := skd c.w) r1.F g3 (UpdF.head g4) z (strKind_is _ _ x t) (by rw [sizeLine_eq, hlen]; omega) fun h' o' F' N' hd => ?_
  refine x11 (g6 (dsto l x v') _ o' { s with heap := h', toks := s.toks + 1 } hd (hl.stored hy) F' N' rfl rfl) fun M' r2 => ?_
  exact kk _ _ hp r2.tail.tail.tail.tail.rel
theorem SU_dict {x : AV} {i : Str} {l : List (Str × AV)} {v : AV} (e : dctOf x σ = some l) (e2 : lk i l = some v) (h : P v σ) : SU c x (.str i) σ P := by
  intro value slice T s u1 u2 Q E hs r k
  have hsub : ∀ a u, subscripted slice false (.ref a) u = operate [.ref a, u] (getItem (.ref a) u) := by
    intro a u
    cases slice <;> first | rfl | cases hs
  refine x11 (r.str List.mem_cons_self) fun t e92 => ?_
  obtain rfl := e92
  refine Rel.out r fun m adr M K R r => ?_
  refine r.dct (Q := fun u1 => wpAny c.M c.A (subscriptTail value slice u1 (Value.str i t)) Q E s) (List.mem_cons_of_mem _ List.mem_cons_self) e fun a kvs o hl z z2 hm => ?_
  rcases hl.find (k := i) with ⟨e3, _⟩ | ⟨v', u, e3, e4, hr⟩
  · rw [e2] at e3; cases e3
  · rw [e2] at e3; cases e3
    exact kdt_tail (knd := skd c.w) r.N hm z (kdt_getItem (knd := skd c.w) r.N hm z (strKind_is _ _ i t) e4 (k _ _ _ _ h ((r.tail.tail.tok _).add (.imm hr)).rel)) (hsub _ _)
theorem OP_in {x : AV} {i : Str} {l : List (Str × AV)} (e : dctOf x σ = some l) (h : P (.bool (lk i l).isSome) σ) : OP c (compareOp .In) (.str i) x σ P := by
  intro T s u1 u2 Q E r k
  refine x11 (r.str (List.mem_cons_of_mem _ List.mem_cons_self)) fun t e94 => ?_
  obtain rfl := e94
  refine Rel.out r fun m adr M K R r => ?_
  refine r.dct (Q := fun u2 => wpAny c.M c.A (compareOp CmpOp.In (Value.str i t) u2) Q E s) List.mem_cons_self e fun a kvs o hl z z2 hm => ?_
  refine kda_in (knd := skd c.w) r.N hm z z2 (strKind_is _ _ i t) (lk i l).isSome ?_ (k _ _ _ _ h (Rel.imm (r.tail.tail.tok _).rel fun _ => .bool))
  rcases hl.find (k := i) with ⟨e3, e4⟩ | ⟨v', u, e3, e4, _⟩ <;> (rw [e3, e4]; rfl)
theorem OP_notin {x : AV} {i : Str} {l : List (Str × AV)} (e : dctOf x σ = some l) (h : P (.bool (!(lk i l).isSome)) σ) : OP c (compareOp .NotIn) (.str i) x σ P := by
  intro T s u1 u2 Q E r k
  refine x11 (r.str (List.mem_cons_of_mem _ List.mem_cons_self)) fun t e96 => ?_
  obtain rfl := e96
  refine Rel.out r fun m adr M K R r => ?_
  refine r.dct (Q := fun u2 => wpAny c.M c.A (compareOp CmpOp.NotIn (Value.str i t) u2) Q E s) List.mem_cons_self e fun a kvs o hl z z2 hm => ?_
  refine kdg_notin (knd := skd c.w) r.N hm z z2 (strKind_is _ _ i t) (lk i l).isSome ?_ (k _ _ _ _ h (Rel.imm (r.tail.tail.tok _).rel fun _ => .bool))
  rcases hl.find (k := i) with ⟨e3, e4⟩ | ⟨v', u, e3, e4, _⟩ <;> (rw [e3, e4]; rfl)
end
end Mine
end
section
open PySem PySem.W PyProof.Rows PySem.Calls PySem.Spec
set_option tactic.hygienic false
set_option maxHeartbeats 400000
namespace Mine
theorem isiT {C D : Addr} (hC : isCls C = true) (hD : isCls D = true) {X F : Prop} (h : X) : cnd (isCls C && isCls D) X F := by rw [hC, hD]; exact h
theorem Node.obj {v : AV} {ks : List AV} (h : Node v ks) : ∃ a C fs, v = .obj a C fs ∧ isCls C = true ∧ (C = 52 → ∃ n, fs = [(Str.ofString "name", .str n)] ∧ ks = []) := by
  cases h with
  | var => exact ⟨_, _, _, rfl, rfl, fun _ => ⟨_, rfl, rfl⟩⟩
  | _ => exact ⟨_, _, _, rfl, rfl, fun e => by cases e⟩
noncomputable def vnameF (C : Addr) (fs : List (Str × AV)) : Option Str := cond (Nat.beq C 52) (match fs with
  | (_, .str n) :: _ => some n
  | _ => none) none
noncomputable def vname (v : AV) : Option Str := match v with
  | .obj _ C fs => vnameF C fs
  | _ => none
mutual
noncomputable def nodes : Tr → List AV
  | .node v ks => v :: nodesL ks
noncomputable def nodesL : List Tr → List AV
  | [] => []
  | k :: r => nodes k ++ nodesL r
end
theorem nodesL_app {a b : List Tr} : nodesL (a ++ b) = nodesL a ++ nodesL b := by
  induction a with
  | nil => rfl
  | cons x a ih => simp only [List.cons_append, nodesL, ih, List.append_assoc]
noncomputable def vars (l : List AV) : List Str := l.filterMap vname
theorem vname_none {a C : Addr} {fs : List (Str × AV)} (h : Nat.beq C 52 = false) : vname (.obj a C fs) = none := by
  show cond (Nat.beq C 52) _ none = none
  rw [h]; rfl
set_option tactic.hygienic true in
theorem dsto_keys {l : List (Str × AV)} {k : Str} {v : AV} {x : Str} : x ∈ (dsto l k v).map (·.1) ↔ x = k ∨ x ∈ l.map (·.1) := by
  unfold dsto
  split
  · rename_i h
    have e : (l.map fun q => if q.1 = k then (q.1, v) else q).map (·.1) = l.map (·.1) := by
      rw [List.map_map]
      refine List.map_congr_left fun q _ => ?_
      show (if q.1 = k then (q.1, v) else q).1 = q.1
      split <;> rfl
    rw [e]
    refine x12 (List.any_eq_true.mp h) fun q h1 h2 => ?_
    have h2 := of_decide_eq_true h2
    exact ⟨.inr, fun h => h.elim (fun e => e ▸ h2 ▸ List.mem_map_of_mem h1) id⟩
  · rw [List.map_append, List.mem_append, List.map_cons, List.map_nil, List.mem_singleton]
    exact Or.comm
theorem dsto_vals {l : List (Str × AV)} {k : Str} {v : AV} (h : ∀ q ∈ l, q.2 = v) : ∀ q ∈ dsto l k v, q.2 = v := by
  unfold dsto
  split
  · intro q hq
    refine x12 (List.mem_map.mp hq) fun z hz e91 => ?_
    obtain rfl := e91
    split
    · rfl
    · exact h z hz
  · intro q hq
    rcases List.mem_append.mp hq with hq | hq
    · exact h q hq
    · rw [List.mem_singleton.mp hq]
theorem dsto_len {l : List (Str × AV)} {k : Str} {v : AV} : (dsto l k v).length ≤ l.length + 1 := by
  unfold dsto
  split
  · rw [List.length_map]; exact Nat.le_succ _
  · rw [List.length_append, List.length_singleton]; exact Nat.le_refl _
noncomputable def UsJ (t : Tr) (k : Nat) (σ : St) : Prop := ∃ (stk : List Tr) (l : List (Str × AV)) , σ = ⟨[(Str.ofString "found", .cell 0), (Str.ofString "tasks", .cell 1)], [.dict l, .list (stk.map Tr.v)]⟩ ∧
  (∀ t ∈ stk, Wf t) ∧ (∀ q ∈ l, q.2 = .bool true) ∧ (∀ x, x ∈ vars (nodes t) ↔ x ∈ l.map (·.1) ∨ x ∈ vars (nodesL stk)) ∧ l.length + sizeL stk ≤ size t ∧ k = sizeL stk
set_option maxHeartbeats 4000000 in
theorem used_ac {c : Cx} {σ : St} {P : KV} {t : Tr} (o : c.Ok2) (hr : Room c 5) (ht : Wf t) (hsz : size t ≤ 1000) (ret : ∀ l, (∀ q ∈ l, q.2 = .bool true) → (∀ x, x ∈ vars (nodes t) ↔ x ∈ l.map (·.1)) → l.length ≤ size t → P (.dct l) σ) : AC c (.ref 413) [t.v] σ P := by
  refine ent1 (x := Str.ofString "expr") o (by kernel_rfl) (fun _ => by kernel_rfl) hr ht.nc fun d KK od rd kr => ?_
  refine isTup_f (names := [Str.ofString "found", Str.ofString "tasks"]) (lvl_good od 60) od rfl rfl rfl (by kernel_rfl) ?_
  refine AE_dict od ?_
  refine imm_nc ht.nc ?_
  refine AS_while [Str.ofString "found", Str.ofString "tasks"] (UsJ t) (lvl_good od 60) (size t) ?_ ?_
  · exact i26 [t] [] rfl (fun x hx => List.mem_singleton.mp hx ▸ ht) (fun _ h => (by cases h)) (fun x => by simp [nodesL]) (by simp [sizeL]) (by simp [sizeL])
  · refine hide3 ?_
    intro G9 hG9 k σ' KW j92
    refine x26 j92 fun stk l e93 hw hl hv hz hk => ?_
    try clear j92
    obtain rfl := e93
    refine hG9 _ _ _ ?_
    clear hG9 G9
    intro nk
    rcases List.eq_nil_or_concat stk with rfl | ⟨pre, x, rfl⟩
    · refine Br.ff ?_
      exact kr.rt _ _ (ret l hl (fun x => by rw [hv]; simp [nodesL, vars]) (by simp only [sizeL] at hz; omega))
    · rw [List.concat_eq_append] at *
      rw [List.map_append, List.map_cons, List.map_nil]
      have hx := hw x (by simp)
      obtain ⟨v, ks⟩ := x
      cases hx with | node hn hks => ?_
      refine x33 hn.obj fun a C fs e94 hC h52 => ?_
      obtain rfl := e94
      simp only [sizeL_app, sizeL, size, Nat.add_zero] at hz hk
      refine Br.t (by simp) ?_
      refine Pop.mk ?_
      refine IfK.join (fun σ' => ∃ l', σ' = ⟨[(Str.ofString "found", .cell 0), (Str.ofString "tasks", .cell 1), (Str.ofString "node", .obj a C fs)], [.dict l', .list (pre.map Tr.v)]⟩ ∧ (∀ q ∈ l', q.2 = .bool true) ∧ (∀ x, x ∈ vars (nodes t) ↔ x ∈ l'.map (·.1) ∨ x ∈ vars (nodesL (pre ++ ks))) ∧ l'.length ≤ l.length + 1) ?_ (fun KI ki => ?_)
      · refine hide1 ?_
        intro G9 hG9 σ' j95
        refine x14 j95 fun l' e96 h1 h2 h3 => ?_
        try clear j95
        obtain rfl := e96
        refine hG9 _ ?_
        clear hG9 G9
        refine AS_for (lvl_good od 60) od rfl rfl ?_
        have hkn : ∀ k ∈ ks.map Tr.v, NC k := fun k hk => (by obtain ⟨t', ht', rfl⟩ := List.mem_map.mp hk; exact (hks t' ht').nc)
        refine m_parts od (rd.le (by decide)) hn hkn (by rw [List.length_map]; have := len_size ks; omega) fun ps hps => ?_
        refine forL.mk [Str.ofString "found", Str.ofString "tasks"] (fun l σ => ∃ dn ks', σ = ⟨[(Str.ofString "found", .cell 0), (Str.ofString "tasks", .cell 1)], [.dict l', .list ((pre ++ dn).map Tr.v)]⟩ ∧ Prs l (ks'.map Tr.v) ∧ dn ++ ks' = ks) ⟨?_, ?_, ?_⟩
        · exact i23 [] ks (by rw [List.append_nil]; rfl) hps rfl
        · refine hide1 ?_
          intro G9 hG9 σ' j97
          refine x23 j97 fun dn ks' e98 hp e99 => ?_
          try clear j97
          obtain rfl := e98
          obtain rfl := e99
          refine hG9 _ ?_
          clear hG9 G9
          cases ks' with | cons _ _ => cases hp | nil => ?_
          rw [List.append_nil] at *
          exact nk.nx _ ⟨sizeL (pre ++ dn), by rw [sizeL_app]; omega, pre ++ dn, l', rfl, List.forall_mem_append.mpr ⟨fun x hx => hw x (List.mem_append_left _ hx), hks⟩, h1, h2, by rw [sizeL_app]; omega, rfl⟩
        · intro fr mf
          refine hide4 ?_
          intro G9 hG9 p r σ' KJ o' j910
          refine x23 j910 fun dn ks' e911 hp e912 => ?_
          try clear j910
          obtain rfl := e911
          obtain rfl := e912
          refine hG9 _ _ _ _ ?_
          clear hG9 G9
          intro np nj
          cases ks' with | nil => cases hp | cons k1 ks' => ?_
          cases hp with | cons hp => ?_
          refine imm_nc (hks k1 (by simp)).nc ?_
          refine Need.mk ?_ ?_
          · have e1 := len_size (pre ++ (dn ++ k1 :: ks'))
            simp only [List.length_map, List.length_append, List.length_cons, sizeL_app] at e1 hz ⊢
            omega
          · have e : (pre ++ (dn ++ [k1])).map Tr.v = (pre ++ dn).map Tr.v ++ [k1.v] := by simp
            exact nj.nx _ (i23 (dn ++ [k1]) ks' (by rw [e]; rfl) hp (by simp))
      · refine isiT hC rfl ?_
        refine Br.mk (fun hb => ?_) (fun hb => ?_)
        rotate_left
        · refine ki _ (i14 l rfl hl (fun x => ?_) (Nat.le_succ _))
          rw [hv]
          have e : vars (nodesL (pre ++ [Tr.node (.obj a C fs) ks])) = vars (nodesL (pre ++ ks)) := by
            rw [nodesL_app, nodesL_app]; simp [nodesL, nodes, vars, vname_none hb]
          rw [e]
        obtain rfl := Nat.eq_of_beq_eq_true hb
        refine x12 (h52 rfl) fun n e913 hks0 => ?_
        obtain rfl := e913
        refine SI_dict ?_
        refine Need.mk (by omega) ?_
        refine ki _ (i14 (dsto l n (.bool true)) rfl (dsto_vals hl) (fun x => ?_) dsto_len)
        rw [hv, dsto_keys]
        have e : vars (nodesL (pre ++ [Tr.node (.obj a 52 [(Str.ofString "name", .str n)]) ks])) = vars (nodesL (pre ++ ks)) ++ [n] := by
          rw [List.map_eq_nil_iff.mp hks0, nodesL_app, nodesL_app]; simp [nodesL, nodes, vars, vname, vnameF]
        rw [e, List.mem_append, List.mem_singleton]
        exact ⟨fun h => h.elim (fun h => .inl (.inr h)) fun h => h.elim .inr fun h => .inl (.inl h), fun h => h.elim (fun h => h.elim (fun h => .inr (.inr h)) .inl) fun h => .inr (.inl h)⟩
end Mine
end
section
open PySem PySem.W PyProof.Rows PySem.Calls PySem.Spec
set_option tactic.hygienic false
set_option maxHeartbeats 400000
namespace Mine
section
variable {c : Cx} {σ : St} {T : List (AV × Value)} {s : Shared} {E : Value → Shared → Prop}
theorem letGo_reviter {A : Around} {target : PySem.Expr} {I t : Addr} {i : Int} {v : Value} {Q' : Unit → Shared → Prop} {s' : Shared} (hit : s'.heap.IsRevIter I t i) (h : Q' () s') :
    wpAny c.M A (letOwnedTupleGo target (.ref I) v) Q' E s' := by
  refine x13 hit fun o ho hc hd => ?_
  try clear hit
  unfold letOwnedTupleGo
  cases target <;> first
    | exact wpAny_pure h
    | (cases v <;> first
        | exact wpAny_pure h
        | (refine wpAny_bind (wpAny_load ho ?_)
           rw [hc, hd]
           exact wpAny_pure h))
inductive revL (c : Cx) (t : PySem.Expr) (body : List Stmt) (P : KF) : AV → St → Prop
  | mk {l : List AV} {σ : St} (ks : List Str) (J : List AV → St → Prop) (h : Turns c t body ks P J l.reverse σ) : revL c t body P (.lst l) σ
theorem AS_forRev {L : Lvl} {t e : PySem.Expr} {body : List Stmt} {pos p p2 : Pos} {P : KF} (g : L.Good c) (o : c.Ok2) (hs : c.sub = none) (hst : isStar e = false) (hn : nameA c (Str.ofString "reversed") p σ fun v σ1 => v = .typ .reversed ∧ σ1 = σ)
    (h : L.ev e σ fun v σ1 => imm v σ1 fun v' σ2 => revL c t body P v' σ2) : AS c (.For t (.Call (.Name (Str.ofString "reversed") p) [e] [] p2) body [] pos) σ P := by
  refine ⟨fun T s Q E hE r k => ?_⟩
  refine wpAny_For (Call_ (nameA_ok o hn T s _ E hE r fun v u σ0 s0 hv r0 => ?_) rfl) (noSet rfl)
  refine x02 hv fun e91 e92 => ?_
  try clear hv
  obtain rfl := e91
  obtain rfl := e92
  obtain rfl := r0.typ List.mem_cons_self
  have h' : evs L [e] σ0 fun vs σ1 => arg1 vs (fun v => imm v σ1 fun v' σ2 => revL c t body P v' σ2) False := h
  refine callWith_typeE (evs_ok g (by rw [List.any_cons, hst]; rfl) hE r0.drop h' fun vs us σ1 s1 h1 hl1 _ r1 => ?_) (star_cons hst) rfl
  refine x12 ((arg1_out h1).elim id False.elim) fun v e93 h1 => ?_
  obtain rfl := e93
  refine x11 (us1 hl1) fun u e94 => ?_
  obtain rfl := e94
  clear hl1
  refine x23 (imm_ok r1 List.mem_cons_self h1) fun v' σ2 h2 r2 n2 => ?_
  cases h2 with
  | @mk l _ ks J H =>
    refine Rel.out r2 fun m adr M K R r2 => ?_
    cases r2.ri List.mem_cons_self n2 with
    | @lst _ vs a n hz hm hl =>
      have r3 : RelD c σ2 T s1 m adr M K R := r2.tail.tail
      have hmem := r3.still? hm
      have hli : s1.heap.IsList a vs.toArray := News.isList r3.N hmem
      have hlt : ∀ p ∈ M ++ (K ++ (R ++ c.fr)), p.1 < s1.heap.objs.size := fun p hp => Heap.lt_size (r3.N p hp).1
      have hne : a ≠ s1.heap.objs.size := Nat.ne_of_lt (hlt _ hmem)
      refine call_reversed_list hli ?_
      have hit : (s1.heap.push (revObj a ((vs.toArray.size : Int) - 1))).IsRevIter s1.heap.objs.size a ((vs.toArray.size : Int) - 1) := ⟨_, Heap.get?_push_size _ rfl, rfl, rfl⟩
      refine wpAny_pyIter_revIter (s := { s1 with heap := s1.heap.push (revObj a ((vs.toArray.size : Int) - 1)) }) hit ?_
      have W := Walks.listRev (prog := pg) (w := c.w) (A := c.A) rfl s1.heap.objs.size a hne vs.toArray
      have e1 : vs.toArray.size = l.reverse.length := by rw [List.size_toArray, hl.len, List.length_reverse]
      have W' : Walks pg c.w c.A s1.heap.objs.size [s1.heap.objs.size, a] [s1.heap.objs.size] l.reverse.length (fun i v => vs.toArray[vs.toArray.size - 1 - i]? = some v) (fun i h => i ≤ vs.toArray.size ∧ h.IsRevIter s1.heap.objs.size a ((vs.toArray.size : Int) - 1 - (i : Int)) ∧ h.IsList a vs.toArray) := e1 ▸ W
      have r4 : RelD c σ2 T { s1 with heap := s1.heap.push (revObj a ((vs.toArray.size : Int) - 1)) } m adr M K R :=
        r3.heap (r3.F.push _) (fun p hp => ⟨Heap.get?_push_of_some _ (r3.N p hp).1, (r3.N p hp).2⟩) rfl rfl
      refine x02 (Cut.out H.h0) fun hk0 h0 => ?_
      refine x12 (r4.cut r4.tcell hk0) fun M0 r5 hM0 => ?_
      refine for_core o hs W' ?_ (fun i h hh => ?_) (fun i v s Q E st q => letGo_reviter st.2.1 q) (by show (σ2.cs.take _).length = σ2.cs.length; rw [List.length_take, Nat.min_self]) J hE r5 (fun i v hi hv => ?_) ⟨Nat.zero_le _, ?_, hli.at fun ob e => Heap.get?_push_of_some _ e⟩ (fun p hp => Nat.ne_of_lt (hlt p (by simp only [List.mem_append] at hp ⊢; rcases hp with hp | hp; exact .inl (hM0 p hp); exact .inr hp))) (next_is_new r3.F) ?_ h0 H.hnil H.turn k
      · intro b hb
        rcases List.mem_cons.mp hb with rfl | hb
        · exact .inl rfl
        · rcases List.mem_singleton.mp hb with rfl
          exact .inr ⟨_, List.mem_append_left _ hm⟩
      · refine x12 hh.2.1 fun ob h1 _ => ?_
        exact ⟨ob, h1⟩
      · have hi' : i < l.length := by rwa [List.length_reverse] at hi
        rw [List.getElem?_toArray, List.size_toArray, hl.len] at hv
        refine x12 (hl.get (List.getElem?_eq_getElem (show l.length - 1 - i < l.length by omega))) fun u hu hr => ?_
        rw [hv] at hu; cases hu
        exact i12 _ (by rw [List.getElem?_reverse hi', List.getElem?_eq_getElem (show l.length - 1 - i < l.length by omega)]) hr
      · have e : (vs.toArray.size : Int) - 1 - ((0 : Nat) : Int) = (vs.toArray.size : Int) - 1 := by omega
        rw [e]; exact hit
      · exact fun e => absurd r3.F.ns.lt (by rw [← e]; exact Nat.lt_irrefl _)
end
theorem Prs.rev {ps ks : List AV} (h : Prs ps ks) : Prs ps.reverse ks.reverse := by
  induction h with
  | nil => exact .nil
  | cons _ ih => rw [List.reverse_cons, List.reverse_cons]; exact ih.app
noncomputable def NdJ (t : Tr) (k : Nat) (σ : St) : Prop := ∃ (stk : List Tr) (l : List AV), σ = ⟨[(Str.ofString "found", .cell 0), (Str.ofString "tasks", .cell 1)], [.list l, .list (stk.map Tr.v)]⟩ ∧
  (∀ t ∈ stk, Wf t) ∧ nodes t = l ++ nodesL stk.reverse ∧ l.length + sizeL stk = size t ∧ k = sizeL stk
theorem nodesL_one {t : Tr} : nodesL [t] = nodes t := by simp [nodesL]
theorem sizeL_rev {l : List Tr} : sizeL l.reverse = sizeL l := by
  induction l with
  | nil => rfl
  | cons x l ih => rw [List.reverse_cons, sizeL_app, ih]; simp [sizeL]; omega
set_option maxHeartbeats 4000000 in
theorem nodes_ac {c : Cx} {σ : St} {P : KV} {t : Tr} (o : c.Ok2) (hr : Room c 5) (ht : Wf t) (hsz : size t ≤ 1000) (ret : P (.lst (nodes t)) σ) : AC c (.ref 437) [t.v] σ P := by
  refine ent1 (x := Str.ofString "expr") o (by kernel_rfl) (fun _ => by kernel_rfl) hr ht.nc fun d KK od rd kr => ?_
  refine isTup_f (names := [Str.ofString "found", Str.ofString "tasks"]) (lvl_good od 60) od rfl rfl rfl (by kernel_rfl) ?_
  refine imm_nc ht.nc ?_
  refine AS_while [Str.ofString "found", Str.ofString "tasks"] (NdJ t) (lvl_good od 60) (size t) ?_ ?_
  · exact i25 [t] [] rfl (fun x hx => List.mem_singleton.mp hx ▸ ht) nodesL_one.symm (by simp [sizeL]) (by simp [sizeL])
  · refine hide3 ?_
    intro G9 hG9 k σ' KW j95
    refine x25 j95 fun stk l e96 hw hl hz hk => ?_
    try clear j95
    obtain rfl := e96
    refine hG9 _ _ _ ?_
    clear hG9 G9
    intro nk
    rcases List.eq_nil_or_concat stk with rfl | ⟨pre, x, rfl⟩
    · refine Br.ff ?_
      rw [show nodes t = l by rw [hl]; simp [nodesL]] at ret
      exact kr.rt _ _ ret
    · rw [List.concat_eq_append] at *
      rw [List.map_append, List.map_cons, List.map_nil]
      have hx := hw x (by simp)
      obtain ⟨v, ks⟩ := x
      cases hx with | node hn hks => ?_
      simp only [sizeL_app, sizeL, size, Nat.add_zero] at hz hk
      refine Br.t (by simp) ?_
      refine Pop.mk ?_
      refine imm_nc hn.nc ?_
      refine Need.mk (by omega) ?_
      refine AS_forRev (lvl_good od 60) od rfl rfl ⟨rfl, rfl⟩ ?_
      have hkn : ∀ k ∈ ks.map Tr.v, NC k := fun k hk => (by obtain ⟨t', ht', rfl⟩ := List.mem_map.mp hk; exact (hks t' ht').nc)
      refine m_parts od (rd.le (by decide)) hn hkn (by rw [List.length_map]; have := len_size ks; omega) fun ps hps => ?_
      have hrv : Prs ps.reverse (ks.reverse.map Tr.v) := by rw [List.map_reverse]; exact hps.rev
      refine revL.mk [Str.ofString "found", Str.ofString "tasks"] (fun q σ => ∃ dn ks', σ = ⟨[(Str.ofString "found", .cell 0), (Str.ofString "tasks", .cell 1)], [.list (l ++ [v]), .list ((pre ++ dn).map Tr.v)]⟩ ∧ Prs q (ks'.map Tr.v) ∧ dn ++ ks' = ks.reverse) ⟨?_, ?_, ?_⟩
      · exact i23 [] ks.reverse (by rw [List.append_nil]; rfl) hrv rfl
      · refine hide1 ?_
        intro G9 hG9 σ' j97
        refine x23 j97 fun dn ks' e98 hp he => ?_
        try clear j97
        obtain rfl := e98
        refine hG9 _ ?_
        clear hG9 G9
        cases ks' with | cons _ _ => cases hp | nil => ?_
        rw [List.append_nil] at he
        subst he
        exact nk.nx _ ⟨sizeL (pre ++ ks.reverse), by rw [sizeL_app, sizeL_rev]; omega, pre ++ ks.reverse, l ++ [v], rfl, List.forall_mem_append.mpr ⟨fun x hx => hw x (List.mem_append_left _ hx), fun x hx => hks x (List.mem_reverse.mp hx)⟩, by
          rw [hl, List.reverse_append, List.reverse_append, List.reverse_reverse, nodesL_app, nodesL_app]; simp [nodesL, nodes], by rw [List.length_append, List.length_singleton, sizeL_app, sizeL_rev]; omega, rfl⟩
      · intro fr mf
        refine hide4 ?_
        intro G9 hG9 p r σ' KJ o' j99
        refine x23 j99 fun dn ks' e910 hp he => ?_
        try clear j99
        obtain rfl := e910
        refine hG9 _ _ _ _ ?_
        clear hG9 G9
        intro np nj
        cases ks' with | nil => cases hp | cons k1 ks' => ?_
        cases hp with | cons hp => ?_
        have hk1 : k1 ∈ ks := List.mem_reverse.mp (he ▸ List.mem_append_right _ List.mem_cons_self)
        refine imm_nc (hks k1 hk1).nc ?_
        refine Need.mk ?_ ?_
        · have e1 := len_size (pre ++ (dn ++ k1 :: ks'))
          rw [he] at e1
          have e2 := congrArg List.length he
          simp only [List.length_map, List.length_append, List.length_cons, List.length_reverse, sizeL_app, sizeL_rev] at e1 e2 hz ⊢
          omega
        · have e : (pre ++ (dn ++ [k1])).map Tr.v = (pre ++ dn).map Tr.v ++ [k1.v] := by simp
          exact nj.nx _ (i23 (dn ++ [k1]) ks' (by rw [e]; rfl) hp (by rw [← he]; simp))
end Mine
end
section
open PySem PySem.W PyProof.Rows PySem.Calls PySem.Spec
set_option tactic.hygienic false
set_option maxHeartbeats 400000
namespace Mine
theorem or_join {b x : Bool} {Y : Prop} {P : KV} {σ : St} (h : P (.bool (b || x)) σ) (h2 : P (.bool x) σ → Y) : Br b (P (.bool b) σ) Y := by
  cases b
  · exact Br.ff (h2 h)
  · exact Br.tt h
section
variable {c : Cx} {σ : St} {P : KV}
theorem AS_augAttr {L : Lvl} {ob e : PySem.Expr} {x : Str} {tp pos : Pos} {op : Operator} {P : KF} (g : L.Good c) (o : c.Ok2) (h : L.ev ob σ fun ov σ1 => attrA ov x σ1 fun old σ2 => L.ev e σ2 fun v σ3 => augA c op old v σ3 fun nw σ4 => setAttrA ov x nw σ4 (P .next)) :
    AS c (.AugAssign (.Attribute ob x tp) op e pos) σ P := by
  refine ⟨fun T s Q E hE r k => ?_⟩
  refine wpAny_AugAssign_AttributeAny (g.ev _ _ _ h T s _ E hE r fun ov uo σ1 s1 h1 r1 => ?_)
  refine attrA_ok (T := (ov, uo) :: T) o (r1.sub fun t ht => (List.mem_cons.mp ht).elim (fun e => e ▸ List.mem_cons_self) id) h1 fun old u2 σ2 s2 h2 r2 => ?_
  refine g.ev _ _ _ h2 _ s2 _ E hE r2 fun v u3 σ3 s3 h3 r3 => augA_ok r3 h3 fun nw u4 σ4 s4 h4 r4 => ?_
  refine setAttrA_ok (T := T) o (r4.sub fun t ht => ?_) h4 (hst k)
  simp only [List.mem_cons] at ht ⊢
  rcases ht with ht | ht | ht
  · exact .inr (.inl ht)
  · exact .inl ht
  · exact .inr (.inr ht)
noncomputable abbrev useF (m : Int) (f : Bool) : List (Str × AV) := [(Str.ofString "many", .int m), (Str.ofString "in_function", .bool f)]
theorem live_inst {C : Addr} {fs : List (Str × AV)} : ∀ v, Cell.inst C fs ≠ .fro v := fun _ e => by cases e
theorem ren_self {k : Nat} : ren k (.cell k) = .cell 0 := by show cond (Nat.beq k k) _ _ = _; rw [Nat.beq_refl]; rfl
theorem note_ac {k : Nat} {m : Int} {f b : Bool} (o : c.Ok2) (hr : Room c 3) (hk : σ.cs[k]? = some (.inst 395 (useF m f))) (ret : P .none (σ.setc k (.inst 395 (useF (m + 1) (f || b))))) : AC c (.ref 392) [.cell k, .bool b] σ P := by
  refine enter1 (ns := [Str.ofString "self", Str.ofString "in_function"]) o (.of (by kernel_rfl) (bd2 fun _ _ => by kernel_rfl)) hr hk live_inst (List.forall_mem_cons.mpr ⟨.inr (.inl rfl), List.forall_mem_cons.mpr ⟨.inl nc_bool, List.forall_mem_nil _⟩⟩) rfl fun d KK _ od rd kr => (lvl_good od 30).ex _ _ _ ?_
  rw [List.map_cons, ren_self]
  refine AS_augAttr (lvl_good od 29) od ?_
  cases f
  · refine Br.ff ?_
    exact kr.nx _ ret
  · refine Br.tt ?_
    exact kr.nx _ ret
end
noncomputable def isLam (v : AV) : Bool := match v with
  | .obj _ C _ => Nat.beq C 176
  | _ => false
mutual
noncomputable def rows : Bool → Tr → List (AV × Bool)
  | b, .node v ks => (v, b) :: rowsL (b || isLam v) ks
noncomputable def rowsL : Bool → List Tr → List (AV × Bool)
  | _, [] => []
  | b, k :: r => rows b k ++ rowsL b r
end
theorem rowsL_app {b : Bool} {x y : List Tr} : rowsL b (x ++ y) = rowsL b x ++ rowsL b y := by
  induction x with
  | nil => rfl
  | cons k x ih => simp only [List.cons_append, rowsL, ih, List.append_assoc]
mutual
theorem rows_len (b : Bool) : ∀ t : Tr, (rows b t).length = size t
  | .node v ks => by rw [rows, size, List.length_cons, rowsL_len]; omega
theorem rowsL_len (b : Bool) : ∀ l : List Tr, (rowsL b l).length = sizeL l
  | [] => rfl
  | k :: r => by rw [rowsL, sizeL, List.length_append, rows_len, rowsL_len]
end
noncomputable def plc (n : Str) (l : List (AV × Bool)) : List Bool := l.filterMap fun r => cond (vname r.1 == some n) (some r.2) none
theorem plc_app {n : Str} {x y : List (AV × Bool)} : plc n (x ++ y) = plc n x ++ plc n y := List.filterMap_append
noncomputable def plcS (n : Str) (stk : List (Tr × Bool)) : List Bool := @List.rec _ (fun _ => List Bool) [] (fun q _ ih => plc n (rows q.2 q.1) ++ ih) stk
theorem plcS_app {n : Str} {x y : List (Tr × Bool)} : plcS n (x ++ y) = plcS n x ++ plcS n y := by
  induction x with
  | nil => rfl
  | cons q x ih => show plc n (rows q.2 q.1) ++ plcS n (x ++ y) = (plc n (rows q.2 q.1) ++ plcS n x) ++ plcS n y; rw [ih, List.append_assoc]
theorem plcS_map {n : Str} {b : Bool} {ks : List Tr} : plcS n (ks.map fun k => (k, b)) = plc n (rowsL b ks) := by
  induction ks with
  | nil => rfl
  | cons k ks ih => show plc n (rows b k) ++ plcS n (ks.map fun k => (k, b)) = plc n (rows b k ++ rowsL b ks); rw [ih, plc_app]
noncomputable def tsk (q : Tr × Bool) : AV := .tup [q.1.v, .bool q.2]
noncomputable def sizeS (stk : List (Tr × Bool)) : Nat := sizeL (stk.map (·.1))
noncomputable def UbJ (n : Str) (t : Tr) (k : Nat) (σ : St) : Prop := ∃ (stk : List (Tr × Bool)) (m : Nat) (f : Bool), σ = ⟨[(Str.ofString "name", .str n), (Str.ofString "found", .cell 0), (Str.ofString "tasks", .cell 1)], [.inst 395 (useF m f), .list (stk.map tsk)]⟩ ∧
  (∀ q ∈ stk, Wf q.1) ∧ m + (plcS n stk).length = (plc n (rows false t)).length ∧ (f || (plcS n stk).any id) = (plc n (rows false t)).any id ∧ sizeS stk ≤ size t ∧ k = sizeS stk
set_option maxHeartbeats 8000000 in
theorem uses_ac {c : Cx} {σ : St} {P : KV} {t : Tr} {n : Str} (o : c.Ok2) (hr : Room c 5) (ht : Wf t) (hsz : size t ≤ 1000) (ret : ∀ a, P (.obj a 395 (useF (plc n (rows false t)).length ((plc n (rows false t)).any id))) σ) : AC c (.ref 406) [.str n, t.v] σ P := by
  refine enter0 (ns := [Str.ofString "name", Str.ofString "expr"]) o (.of (by kernel_rfl) (bd2 fun _ _ => by kernel_rfl)) hr (List.forall_mem_cons.mpr ⟨nc_str, List.forall_mem_cons.mpr ⟨ht.nc, List.forall_mem_nil _⟩⟩) rfl fun d KK _ od rd kr => (lvl_good od 60).ex _ _ _ ?_
  refine isTup_f (names := [Str.ofString "found", Str.ofString "tasks"]) (lvl_good od 60) od rfl rfl rfl (by kernel_rfl) ?_
  refine mkUses od (rd.le (by decide)) ?_
  refine imm_nc ht.nc ?_
  refine AS_while [Str.ofString "name", Str.ofString "found", Str.ofString "tasks"] (UbJ n t) (lvl_good od 60) (size t) ?_ ?_
  · exact i36 [(t, false)] 0 false rfl (fun x hx => List.mem_singleton.mp hx ▸ ht) (by simp [plcS]) (by simp [plcS]) (by simp [sizeS, sizeL]) (by simp [sizeS, sizeL])
  · refine hide3 ?_
    intro G9 hG9 k σ' KW j91
    refine x36 j91 fun stk m f e92 hw hm hf hz hk => ?_
    try clear j91
    obtain rfl := e92
    refine hG9 _ _ _ ?_
    clear hG9 G9
    intro nk
    rcases List.eq_nil_or_concat stk with rfl | ⟨pre, x, rfl⟩
    · refine Br.ff ?_
      have e1 : (m : Int) = ((plc n (rows false t)).length : Nat) := by rw [← hm]; simp [plcS]
      have e2 : f = (plc n (rows false t)).any id := by rw [← hf]; simp [plcS]
      rw [← e1, ← e2] at ret
      exact kr.rt _ _ ret
    · rw [List.concat_eq_append] at *
      rw [List.map_append, List.map_cons, List.map_nil]
      have hx := hw x (by simp)
      obtain ⟨⟨v, ks⟩, b⟩ := x
      have hx : Wf (.node v ks) := hx
      cases hx with | node hn hks => ?_
      refine x33 hn.obj fun a C fs e94 hC h52 => ?_
      obtain rfl := e94
      have hz' : sizeS pre + (1 + sizeL ks) ≤ size t := by simpa [sizeS, sizeL_app, sizeL, size] using hz
      have hk' : k = sizeS pre + (1 + sizeL ks) := by simpa [sizeS, sizeL_app, sizeL, size] using hk
      refine Br.t (by simp) ?_
      refine Pop.mk ?_
      have own : plcS n [(Tr.node (.obj a C fs) ks, b)] = cond (vname (.obj a C fs) == some n) [b] [] ++ plc n (rowsL (b || isLam (.obj a C fs)) ks) := by
        show plc n ((.obj a C fs, b) :: rowsL _ ks) ++ [] = _
        rw [List.append_nil]
        show List.filterMap _ _ = _
        rw [List.filterMap_cons]
        cases vname (.obj a C fs) == some n <;> rfl
      rw [plcS_app, own] at hm hf
      refine IfK.join (fun σ' => ∃ (m' : Nat) (f' : Bool), σ' = ⟨[(Str.ofString "name", .str n), (Str.ofString "found", .cell 0), (Str.ofString "tasks", .cell 1), (Str.ofString "node", .obj a C fs), (Str.ofString "inside", .bool b)], [.inst 395 (useF m' f'), .list (pre.map tsk)]⟩ ∧
        m' + ((plcS n pre).length + (plc n (rowsL (b || isLam (.obj a C fs)) ks)).length) = (plc n (rows false t)).length ∧ (f' || ((plcS n pre).any id || (plc n (rowsL (b || isLam (.obj a C fs)) ks)).any id)) = (plc n (rows false t)).any id) ?_ ?_
      · refine hide1 ?_
        intro G9 hG9 σ' j95
        refine x23 j95 fun m' f' e96 h1 h2 => ?_
        try clear j95
        obtain rfl := e96
        refine hG9 _ ?_
        clear hG9 G9
        have hkn : ∀ k ∈ ks.map Tr.v, NC k := fun k hk => (by obtain ⟨t', ht', rfl⟩ := List.mem_map.mp hk; exact (hks t' ht').nc)
        refine or_join (x := Nat.beq C 176) ?_ (fun h => isiT hC rfl h)
        refine AS_for (lvl_good od 60) od rfl rfl ?_
        refine m_parts od (rd.le (by decide)) hn hkn (by rw [List.length_map]; have := len_size ks; omega) fun ps hps => ?_
        refine forL.mk [Str.ofString "name", Str.ofString "found", Str.ofString "tasks", Str.ofString "within"] (fun l σ => ∃ dn ks', σ = ⟨[(Str.ofString "name", .str n), (Str.ofString "found", .cell 0), (Str.ofString "tasks", .cell 1), (Str.ofString "within", .bool (b || Nat.beq C 176))], [.inst 395 (useF m' f'), .list ((pre ++ dn.map fun k => (k, b || Nat.beq C 176)).map tsk)]⟩ ∧ Prs l (ks'.map Tr.v) ∧ dn ++ ks' = ks) ⟨?_, ?_, ?_⟩
        · exact i23 [] ks (by rw [List.map_nil, List.append_nil]; rfl) hps rfl
        · refine hide1 ?_
          intro G9 hG9 σ' j97
          refine x23 j97 fun dn ks' e98 hp e99 => ?_
          try clear j97
          obtain rfl := e98
          obtain rfl := e99
          refine hG9 _ ?_
          clear hG9 G9
          cases ks' with | cons _ _ => cases hp | nil => ?_
          rw [List.append_nil] at *
          have es : sizeS (pre ++ dn.map fun k => (k, b || Nat.beq C 176)) = sizeS pre + sizeL dn := by
            unfold sizeS
            rw [List.map_append, sizeL_app, List.map_map]
            exact congrArg (_ + sizeL ·) (List.map_id dn)
          refine nk.nx _ ⟨_, by rw [hk']; exact Nat.add_lt_add_left (Nat.lt_add_of_pos_left Nat.one_pos) _, pre ++ dn.map fun k => (k, b || Nat.beq C 176), m', f', rfl, List.forall_mem_append.mpr ⟨fun x hx => hw x (List.mem_append_left _ hx), fun q hq => ?_⟩, ?_, ?_, ?_, es.symm⟩
          · refine x12 (List.mem_map.mp hq) fun k hk e910 => ?_
            obtain rfl := e910
            exact hks k hk
          · rw [plcS_app, plcS_map, List.length_append]; exact h1
          · rw [plcS_app, plcS_map, List.any_append]; exact h2
          · rw [es]; omega
        · intro fr mf
          refine hide4 ?_
          intro G9 hG9 p r σ' KJ o' j911
          refine x23 j911 fun dn ks' e912 hp e913 => ?_
          try clear j911
          obtain rfl := e912
          obtain rfl := e913
          refine hG9 _ _ _ _ ?_
          clear hG9 G9
          intro np nj
          cases ks' with | nil => cases hp | cons k1 ks' => ?_
          cases hp with | cons hp => ?_
          refine imm_nc (hks k1 (by simp)).nc ?_
          refine Need.mk ?_ ?_
          · have e1 := len_size (pre.map (·.1) ++ (dn ++ k1 :: ks'))
            have e2 : sizeS pre = sizeL (pre.map (·.1)) := rfl
            simp only [List.length_map, List.length_append, List.length_cons, sizeL_app] at e1 e2 hz' ⊢
            omega
          · have e : (pre ++ ((dn ++ [k1]).map fun k => (k, b || Nat.beq C 176))).map tsk = (pre ++ dn.map fun k => (k, b || Nat.beq C 176)).map tsk ++ [tsk (k1, b || Nat.beq C 176)] := by simp
            exact nj.nx _ (i23 (dn ++ [k1]) ks' (by rw [e]; rfl) hp (by simp))
      · intro K' hK'
        have no : vname (.obj a C fs) ≠ some n → ∃ (m' : Nat) (f' : Bool), (m : Int) = m' ∧ f = f' ∧ m' + ((plcS n pre).length + (plc n (rowsL (b || isLam (.obj a C fs)) ks)).length) = (plc n (rows false t)).length ∧ (f' || ((plcS n pre).any id || (plc n (rowsL (b || isLam (.obj a C fs)) ks)).any id)) = (plc n (rows false t)).any id := by
          intro h
          have h : (vname (.obj a C fs) == some n) = false := beq_false_of_ne h
          rw [h] at hm hf
          exact i24 m f rfl rfl (by rw [← hm]; simp) (by rw [← hf]; simp)
        refine isiT hC rfl ?_
        refine Br.mk (fun hb => ?_) (fun hb => ?_)
        · obtain rfl := Nat.eq_of_beq_eq_true hb
          refine x12 (h52 rfl) fun n' e914 hks0 => ?_
          obtain rfl := e914
          refine Br.mk (fun h2 => ?_) (fun h2 => ?_)
          · refine Br.tt ?_
            refine note_ac od (rd.le (by decide)) rfl ?_
            have h : (vname (.obj a 52 [(Str.ofString "name", .str n')]) == some n) = true := by rw [eq_of_beq h2]; exact beq_self_eq_true _
            rw [h] at hm hf
            refine hK' _ ⟨m + 1, f || b, rfl, ?_, ?_⟩
            · rw [← hm]; simp; omega
            · rw [← hf]; simp [Bool.or_assoc, Bool.or_comm, Bool.or_left_comm]
          · refine Br.ff ?_
            refine x24 (no (fun h => by have := Option.some.inj (show some n' = some n from h); rw [this, beq_self_eq_true] at h2; cases h2)) fun m' f' e1 e915 h3 h4 => ?_
            obtain rfl := e915
            rw [e1]
            exact hK' _ (i23 m' f rfl h3 h4)
        · refine Br.ff ?_
          refine x24 (no (fun h => by rw [vname_none hb] at h; cases h)) fun m' f' e1 e916 h3 h4 => ?_
          obtain rfl := e916
          rw [e1]
          exact hK' _ (i23 m' f rfl h3 h4)
end Mine
end
section
open PySem PySem.W PyProof.Rows PySem.Calls PySem.Spec
set_option tactic.hygienic false
set_option maxHeartbeats 400000
namespace Mine
noncomputable def pickA (l : List AV) (lo hi : Option Int) : List AV := (l.drop (kms_lo lo l.length)).take (kms_hi hi l.length - kms_lo lo l.length)
theorem Rl.drop {w : World} {R : Led} {l : List AV} : ∀ {vs : List Value} {n : Nat}, Rl w R l vs → Rl w R (l.drop n) (vs.drop n) := by
  induction l with
  | nil => intro vs n h; cases h; rw [List.drop_nil, List.drop_nil]; exact .nil
  | cons x l ih =>
    intro vs n h
    cases h with
    | cons a b => cases n with
      | zero => exact .cons a b
      | succ n => exact ih b
theorem Rl.take {w : World} {R : Led} {l : List AV} : ∀ {vs : List Value} {n : Nat}, Rl w R l vs → Rl w R (l.take n) (vs.take n) := by
  induction l with
  | nil => intro vs n h; cases h; rw [List.take_nil, List.take_nil]; exact .nil
  | cons x l ih =>
    intro vs n h
    cases h with
    | cons a b => cases n with
      | zero => exact .nil
      | succ n => exact .cons a (ih b)
theorem Rl.pick {w : World} {R : Led} {l : List AV} {vs : List Value} {lo hi : Option Int} (h : Rl w R l vs) : Rl w R (pickA l lo hi) (kms_pick vs lo hi) := by
  unfold pickA kms_pick
  rw [h.len]
  exact h.drop.take
theorem pickA_len {l : List AV} {lo hi : Option Int} : (pickA l lo hi).length ≤ l.length := by
  unfold pickA
  rw [List.length_take, List.length_drop]; omega
theorem pickA_from {l : List AV} {i : Int} (h0 : 0 ≤ i) : pickA l (some i) none = l.drop i.toNat := by
  unfold pickA kms_lo kms_hi
  dsimp only
  rw [if_neg (by omega)]
  by_cases h : i.toNat ≤ l.length
  · rw [Nat.min_eq_left h]; exact List.take_of_length_le (by rw [List.length_drop]; exact Nat.le_refl _)
  · rw [Nat.min_eq_right (by omega), List.drop_of_length_le (Nat.le_refl _), List.drop_of_length_le (by omega), List.take_nil]
theorem pickA_to {l : List AV} {i : Int} (h0 : 0 ≤ i) : pickA l none (some i) = l.take i.toNat := by
  unfold pickA kms_lo kms_hi
  dsimp only
  rw [if_neg (by omega), List.drop_zero, Nat.sub_zero, ← List.take_take, List.take_length]
noncomputable def evP (L : Lvl) (e : Option PySem.Expr) (σ : St) (P : Option Int → St → Prop) : Prop := optL e (fun e => L.ev e σ fun v σ1 => int1 v (fun i => P (some i) σ1) False) (P none σ)
section
variable {c : Cx} {σ : St} {P : KV} {L : Lvl}
theorem evP_ok (g : L.Good c) {e : Option PySem.Expr} {F : Option Int → St → Prop} {T : List (AV × Value)} {s : Shared} {Q : Value → Shared → Prop} {E : Value → Shared → Prop} (hE : PassesOwn c.M c.A c.env E) (r : Rel c σ T s) (h : evP L e σ F)
    (k : ∀ i u σ' s', F i σ' → IsPart u i → Rel c σ' T s' → Q u s') : wpAny c.M c.A (evalPart e c.env) Q E s := by
  cases e with
  | none => rw [evalPart_none]; exact wpAny_pure (k _ _ _ _ h .none r)
  | some e =>
    refine g.ev _ _ _ h T s Q E hE r fun v u σ1 s1 h1 r1 => ?_
    refine x23 ((int1_ok r1 h1).elim id False.elim) fun i t e91 e92 h1 => ?_
    obtain rfl := e91
    obtain rfl := e92
    exact k _ _ _ _ h1 (.int i t) r1.drop
theorem AE_slice {a : PySem.Expr} {lo hi : Option PySem.Expr} {p pos : Pos} (g : L.Good c) (ht : ∀ o r, letTemporaryGo a o r = pure ())
    (h : L.ev a σ fun v σ1 => evP L lo σ1 fun x σ2 => evP L hi σ2 fun y σ3 => optL (lstOf v σ3) (fun l => P (.cell σ3.cs.length) (σ3.push (.list (pickA l x y)))) False) : AE c (.Subscript a (.Slice lo hi none p) pos) σ P := by
  refine ⟨fun T s Q E hE r k => ?_⟩
  refine wpAny_Subscript_list_slice (g.ev _ _ _ h T s _ E hE r fun v u σ1 s1 h1 r1 => evP_ok g hE r1 h1 fun x ux σ2 s2 h2 px r2 => evP_ok g hE r2 h2 fun y uy σ3 s3 h3 py r3 => ?_) ht
  refine x12 (optL_out h3) fun l e h3 => ?_
  refine Rel.out r3 fun m adr M K R r => ?_
  refine r.lst (Q := fun u => ∃ l items lo hi, u = Value.ref l ∧ s3.heap.IsList l items ∧ items.size ≤ sizeLine ∧ IsPart ux lo ∧ IsPart uy hi ∧ Q (Value.ref (s3.heap.objs.size + 1)) { heap := (s3.heap.push { cls := Value.type "slice", data := Data.fields #[ux, uy, Value.none] }).push { cls := Value.type "list", data := Data.seq (slicePick items lo hi none) }, gens := s3.gens, drawn := s3.drawn, toks := s3.toks, os := s3.os }) List.mem_cons_self e fun a vs n led hl hz N hm => ?_
  refine i46 a vs.toArray x y rfl (N.isList hm) (by rw [List.size_toArray, hl.len, sizeLine_eq]; omega) px py ?_
  have r1 : RelD c σ3 T { s3 with heap := s3.heap.push { cls := .type "slice", data := .fields #[ux, uy, .none] } } m adr M K R := r.tail.heap (r.F.push _) (fun p hp => ⟨Heap.get?_push_of_some _ (r.N p hp).1, (r.N p hp).2⟩) rfl rfl
  have hlt : ∀ p ∈ M ++ (K ++ (R ++ c.fr)), p.1 < s3.heap.objs.size := fun p hp => Heap.lt_size (r.N p hp).1
  have e9 : slicePick vs.toArray x y none = (kms_pick vs x y).toArray := kms_pick_eq vs.toArray x y
  rw [e9]
  refine k _ _ _ _ h3 (r1.live (s' := { s3 with heap := (s3.heap.push { cls := .type "slice", data := .fields #[ux, uy, .none] }).push (listOf (kms_pick vs x y).toArray 0) }) (q := (s3.heap.objs.size + 1, listOf (kms_pick vs x y).toArray 0)) (r1.F.push _) (fun p hp => ?_) (fun p hp => Nat.ne_of_lt (Nat.lt_succ_of_lt (hlt p hp))) (.list (Nat.le_trans pickA_len hz) hl.pick) rfl rfl)
  rcases List.mem_cons.mp hp with rfl | hp
  · have e2 : s3.heap.objs.size + 1 = (s3.heap.push { cls := .type "slice", data := .fields #[ux, uy, .none] }).objs.size := (Heap.size_push ..).symm
    exact ⟨by rw [e2]; exact Heap.get?_push_size _ rfl, fun e => absurd r.F.ns.lt (by have e : s3.heap.objs.size + 1 = c.L := e; rw [← e]; exact Nat.not_lt.mpr (Nat.le_succ _)), by
      have := next_is_new r1.F
      rw [← e2] at this; exact this⟩
  · exact ⟨Heap.get?_push_of_some _ (r1.N p hp).1, (r1.N p hp).2⟩
end
theorem nc_none : NC .none := rfl
end Mine
end
section
open PySem PySem.W PyProof.Rows PySem.Calls PySem.Spec
set_option tactic.hygienic false
set_option maxHeartbeats 400000
namespace Mine
inductive Frm : AV → AV → List AV → Prop
  | app {a a' f xs f' xs'} : xs'.length = xs.length → Frm (oApp a f xs) (oApp a' f' xs') (f' :: xs')
  | lam {a a' ps b b'} : Frm (oLam a ps b) (oLam a' ps b') [b']
  | let_ {a a' bs b r ns es bs' es' b'} : Binds bs ns es → Binds bs' ns es' → Frm (oLet a bs b r) (oLet a' bs' b' r) (es' ++ [b'])
  | case {a a' v n as ks bs as' v' bs'} : Alts as ks bs → Alts as' ks bs' → Frm (oCase a v n as .none) (oCase a' v' n as' .none) (v' :: bs')
  | caseO {a a' v n as ks bs as' v' bs' o1 C1 f1 o2 C2 f2} : Alts as ks bs → Alts as' ks bs' → Frm (oCase a v n as (.obj o1 C1 f1)) (oCase a' v' n as' (.obj o2 C2 f2)) (v' :: (bs' ++ [.obj o2 C2 f2]))
  | con {a a' xs xs'} : xs'.length = xs.length → Frm (oCon a xs) (oCon a' xs') xs'
  | prim {a a' xs xs'} : Frm (oPrim a xs) (oPrim a' xs') xs'
section
variable {c : Cx} {σ : St} {P : KV}
noncomputable abbrev sGroups : Str := Str.ofString "groups"
noncomputable abbrev sParts : Str := Str.ofString "parts"
theorem entR {f : Addr} {v g x : AV} (o : c.Ok2) (h1 : fnB c.w f [sSelf, sGroups, sParts] = true) (bd : ∀ u1 u2 u3, bindArgs (datOf (hp c.w) f) ⟨[u1, u2, u3], []⟩ = pure [(sSelf, u1), (sGroups, u2), (sParts, u3)]) (hr : Room c 5) (nv : NC v) (ng : NC g) (nx : NC x)
    (h : ∀ (d : Cx) (KK : KF), (d.fn f).Ok2 → Room (d.fn f) 4 → Rt0 P σ KK → (lvl (d.fn f) 60).ex (bodyOf (hp d.w) f) ⟨[(sSelf, v), (sGroups, g), (sParts, x)], []⟩ KK) : AC c (.ref f) [v, g, x] σ P :=
  enter0 o (.of h1 (bd3 bd)) hr (List.forall_mem_cons.mpr ⟨nv, List.forall_mem_cons.mpr ⟨ng, List.forall_mem_cons.mpr ⟨nx, List.forall_mem_nil _⟩⟩⟩) rfl fun d KK _ od rd kr => (lvl_good od 60).ex _ _ _ (h d KK od rd kr)
theorem reb_app {a : Addr} {f f' g : AV} {xs xs' : List AV} (o : c.Ok2) (hr : Room c 5) (ng : NC g) (nf : NC f') (ret : ∀ a', P (oApp a' f' xs') σ) : AC c (.ref 131) [oApp a f xs, g, .lst (f' :: xs')] σ P := by
  refine entR o (by kernel_rfl) (fun _ _ _ => by kernel_rfl) hr nc_obj ng nc_lst fun d KK od rd kr => ?_
  refine Item.at (by decide) rfl ?_
  refine AE_slice (lvl_good od 50) (fun _ _ => rfl) ?_
  refine AC.imms ?_
  refine imm_nc nf ?_
  refine ⟨rfl, ?_⟩
  rw [show pickA (f' :: xs') (some 1) none = xs' from pickA_from (by decide)]
  exact mk134 od (rd.le (by decide)) nf nc_lst fun a' => kr.rt _ _ (ret a')
theorem reb_lam {a : Addr} {b b' : AV} {ps gr : List AV} (o : c.Ok2) (hr : Room c 5) (nb : NC b') (ret : ∀ a', P (oLam a' ps b') σ) : AC c (.ref 173) [oLam a ps b, .lst (.lst ps :: gr), .lst [b']] σ P := by
  refine entR o (by kernel_rfl) (fun _ _ _ => by kernel_rfl) hr nc_obj nc_lst nc_lst fun d KK od rd kr => ?_
  refine Item.at (by decide) rfl ?_
  refine Item.at (by decide) rfl ?_
  exact mk176 od (rd.le (by decide)) nc_lst nb fun a' => kr.rt _ _ (ret a')
theorem reb_con {a : Addr} {g : AV} {xs xs' : List AV} (o : c.Ok2) (hr : Room c 5) (ng : NC g) (ret : ∀ a', P (oCon a' xs') σ) : AC c (.ref 310) [oCon a xs, g, .lst xs'] σ P := by
  refine entR o (by kernel_rfl) (fun _ _ _ => by kernel_rfl) hr nc_obj ng nc_lst fun d KK od rd kr => ?_
  exact mk313 od (rd.le (by decide)) nc_str nc_lst fun a' => kr.rt _ _ (ret a')
theorem reb_prim {a : Addr} {g : AV} {xs xs' : List AV} (o : c.Ok2) (hr : Room c 5) (ng : NC g) (ret : ∀ a', P (oPrim a' xs') σ) : AC c (.ref 350) [oPrim a xs, g, .lst xs'] σ P := by
  refine entR o (by kernel_rfl) (fun _ _ _ => by kernel_rfl) hr nc_obj ng nc_lst fun d KK od rd kr => ?_
  exact mk353 od (rd.le (by decide)) nc_str nc_lst fun a' => kr.rt _ _ (ret a')
theorem Binds.snoc {bs : List AV} {ns : List Str} {es : List AV} (h : Binds bs ns es) {n : Str} {e : AV} : Binds (bs ++ [.tup [.str n, e]]) (ns ++ [n]) (es ++ [e]) := by
  induction h with
  | nil => exact .cons .nil
  | cons _ ih => exact .cons ih
theorem Binds.len2 {bs : List AV} {ns : List Str} {es : List AV} (h : Binds bs ns es) : bs.length = ns.length := by
  induction h with
  | nil => rfl
  | cons _ ih => exact congrArg (· + 1) ih
theorem reb_let {a : Addr} {b b' : AV} {bs gr : List AV} {ns : List Str} {es es' : List AV} {r : Bool} (o : c.Ok2) (hr : Room c 5) (hB : Binds bs ns es) (hl : es'.length = es.length) (nb : NC b') (he : ∀ e ∈ es', NC e) (hz : es.length ≤ 1000) (ret : ∀ a' bs', Binds bs' ns es' → P (oLet a' bs' b' r) σ) :
    AC c (.ref 209) [oLet a bs b r, .lst (.lst (ns.map .str) :: gr), .lst (es' ++ [b'])] σ P := by
  refine entR o (by kernel_rfl) (fun _ _ _ => by kernel_rfl) hr nc_obj nc_lst nc_lst fun d KK od rd kr => ?_
  have hb1 := hB.len
  have hb2 := hB.len2
  refine AS_comp [sGroups, sParts] (lvl_good od 50) od rfl rfl (by decide) rfl rfl ⟨by kernel_rfl, by kernel_rfl, by kernel_rfl, trivial⟩ ?_
  refine Need.mk (by constructor <;> omega) ?_
  refine cmpL.rng (fun l ys cs => ∃ n1 n2 e1 e2, ns = n1 ++ n2 ∧ es' = e1 ++ e2 ∧ n1.length = e1.length ∧ n2.length = e2.length ∧ Binds ys n1 e1 ∧ l = (List.range' n1.length n2.length).map (fun j : Nat => AV.int (j : Int)) ∧ cs = []) ⟨⟨[], ns, [], es', rfl, rfl, rfl, by omega, .nil, by unfold intsR; rw [Int.toNat_natCast, List.range_eq_range', hb2]; rfl, rfl⟩, ?_, ?_, ?_⟩
  · intro l ys cs j91
    refine x47 j91 fun _ _ _ _ _ _ _ _ _ _ e92 => ?_
    try clear j91
    obtain rfl := e92
    rfl
  · refine hide2 ?_
    intro G9 hG9 ys cs j93
    refine x47 j93 fun n1 n2 e1 e2 e94 e95 h1 h2 h3 h4 e96 => ?_
    try clear j93
    obtain rfl := e94
    obtain rfl := e95
    obtain rfl := e96
    refine hG9 _ _ ?_
    clear hG9 G9
    cases n2 with | cons => cases h4 | nil => ?_
    obtain rfl := List.length_eq_zero_iff.mp h2.symm
    rw [List.append_nil n1] at *
    refine Item.last ?_
    refine AC.imms ?_
    refine imm_nc (v := b') nb ?_
    refine ⟨rfl, ?_⟩
    exact mk212 od (rd.le (by decide)) nc_lst nb nc_bool fun a' => kr.rt _ _ (ret a' ys (by rw [List.append_nil]; exact h3))
  · intro C oC m fr mf
    refine hide6 ?_
    intro G9 hG9 x r ys cs KE KN ok j97
    refine x47 j97 fun n1 n2 e1 e2 e98 e99 h1 h2 h3 h4 e910 => ?_
    try clear j97
    obtain rfl := e98
    obtain rfl := e99
    obtain rfl := e910
    refine hG9 _ _ _ _ _ _ ?_
    clear hG9 G9
    intro nx nk
    cases n2 with | nil => cases h4 | cons n n2 => ?_
    cases e2 with | nil => cases h2 | cons e e2 => ?_
    refine x02 (List.cons.inj (show x :: r = AV.int (n1.length : Int) :: (List.range' (n1.length + 1) n2.length).map (fun j : Nat => AV.int (j : Int)) from h4)) fun e911 e912 => ?_
    obtain rfl := e911
    obtain rfl := e912
    refine i12 _ rfl ?_
    refine Item.at (by decide) rfl ?_
    refine Item.at (i := (n1.length : Int)) (x := .str n) (Int.natCast_nonneg _) (by rw [Int.toNat_natCast, List.map_append, List.getElem?_append_right (by rw [List.length_map]; exact Nat.le_refl _), List.length_map, Nat.sub_self]; rfl) ?_
    refine Item.at (i := (n1.length : Int)) (x := e) (Int.natCast_nonneg _) (by rw [Int.toNat_natCast, h1, List.append_assoc, List.getElem?_append_right (Nat.le_refl _), Nat.sub_self]; rfl) ?_
    refine imm_nc (he e (by simp)) ?_
    exact nk.el _ _ (i47 (n1 ++ [n]) n2 (e1 ++ [e]) e2 (by simp) (by simp) (by simp [h1]) (Nat.succ.inj h2) h3.snoc (by rw [List.length_append]; rfl) rfl)
set_option tactic.hygienic true in
theorem Alts.snoc {as : List AV} {ks : List (AV × List AV)} {bs : List AV} (h : Alts as ks bs) {a : Addr} {k : AV × List AV} {b : AV} (hk : ∃ kl, k.1 = .tup kl) : Alts (as ++ [oAlt a k.1 k.2 b]) (ks ++ [k]) (bs ++ [b]) := by
  obtain ⟨k1, k2⟩ := k
  refine x11 hk fun kl _ => ?_
  try clear hk
  rename_i hk
  have hk : k1 = .tup kl := hk
  subst hk
  induction h with
  | nil => exact .cons .nil
  | cons _ ih => exact .cons ih
theorem Alts.key {as : List AV} {ks : List (AV × List AV)} {bs : List AV} (h : Alts as ks bs) : ∀ k ∈ ks, ∃ kl, k.1 = .tup kl := by
  induction h with
  | nil => intro k e; cases e
  | cons _ ih => intro k e; exact (List.mem_cons.mp e).elim (fun e => e ▸ ⟨_, rfl⟩) (ih k)
theorem Alts.getk {as : List AV} {ks : List (AV × List AV)} {bs : List AV} (h : Alts as ks bs) : ∀ {i : Nat} {k : AV × List AV}, ks[i]? = some k → ∃ a b, as[i]? = some (oAlt a k.1 k.2 b) := by
  induction h with
  | nil => intro i k e; cases i <;> cases e
  | cons _ ih =>
    intro i k e
    cases i with
    | zero => cases e; exact ⟨_, _, rfl⟩
    | succ i => exact ih (i := i) e
theorem get_mid {α : Type} {a b : List α} {x : α} {n : Nat} (h : n = a.length) : (a ++ x :: b)[n]? = some x := by
  rw [h, List.getElem?_append_right (Nat.le_refl _), Nat.sub_self]; rfl
set_option maxHeartbeats 4000000 in
theorem reb_case {a : Addr} {v v' ot : AV} {n : Str} {as : List AV} {ks : List (AV × List AV)} {bs bs' tl : List AV} (o : c.Ok2) (hr : Room c 5) (hA : Alts as ks bs) (hl : bs'.length = bs.length) (nv : NC v') (hb : ∀ e ∈ bs', NC e) (hz : bs.length ≤ 1000)
    (hot : (ot = .none ∧ tl = []) ∨ ∃ o1 C1 f1 o2 C2 f2, ot = .obj o1 C1 f1 ∧ tl = [.obj o2 C2 f2]) (ret : ∀ a' as', Alts as' ks bs' → P (oCase a' v' n as' (tl.headD .none)) σ) :
    AC c (.ref 270) [oCase a v n as ot, .lst (.lst [.str n] :: ks.map fun k => .lst k.2), .lst (v' :: (bs' ++ tl))] σ P := by
  refine entR o (by kernel_rfl) (fun _ _ _ => by kernel_rfl) hr nc_obj nc_lst nc_lst fun d KK od rd kr => ?_
  have hb1 := hA.len
  have hb2 := hA.klen
  refine AS_for (lvl_good od 60) od rfl rfl ?_
  refine Need.mk (by constructor <;> omega) ?_
  refine forL.rng [sSelf, sGroups, sParts, Str.ofString "alts"] (fun l σ => ∃ k1 k2 e1 e2 ys, ks = k1 ++ k2 ∧ bs' = e1 ++ e2 ∧ k1.length = e1.length ∧ k2.length = e2.length ∧ Alts ys k1 e1 ∧ l = (List.range' k1.length k2.length).map (fun j : Nat => AV.int (j : Int)) ∧
    σ = ⟨[(sSelf, oCase a v n as ot), (sGroups, .lst (.lst [.str n] :: ks.map fun k => .lst k.2)), (sParts, .lst (v' :: (bs' ++ tl))), (Str.ofString "alts", .cell 0)], [.list ys]⟩) ⟨?_, ?_, ?_⟩
  · exact i57 [] ks [] bs' [] rfl rfl rfl (by omega) .nil (by unfold intsR; rw [Int.toNat_natCast, List.range_eq_range', hb2]; rfl) rfl
  · refine hide1 ?_
    intro G9 hG9 σ' j913
    refine x57 j913 fun k1 k2 e1 e2 ys h8 h9 h1 h2 h3 h4 e914 => ?_
    try clear j913
    obtain rfl := e914
    refine hG9 _ ?_
    clear hG9 G9
    cases k2 with | cons => cases h4 | nil => ?_
    obtain rfl := List.length_eq_zero_iff.mp h2.symm
    rw [List.append_nil] at h8 h9
    subst h8 h9
    refine Item.at (by decide) rfl ?_
    refine Item.at (by decide) rfl ?_
    refine Item.at (by decide) rfl ?_
    rcases hot with ⟨rfl, rfl⟩ | ⟨o1, C1, f1, o2, C2, f2, rfl, rfl⟩
    · refine Br.tt ?_
      refine AC.imms ?_
      refine imm_nc (v := v') nv ?_
      refine ⟨rfl, ?_⟩
      exact mk273 od (rd.le (by decide)) nv nc_str nc_lst nc_none fun a' => kr.rt _ _ (ret a' ys h3)
    · refine Br.ff ?_
      rw [← List.cons_append]
      refine Item.last ?_
      refine AC.imms ?_
      refine imm_nc (v := v') nv ?_
      refine ⟨rfl, ?_⟩
      exact mk273 od (rd.le (by decide)) nv nc_str nc_lst nc_obj fun a' => kr.rt _ _ (ret a' ys h3)
  · intro fr mf
    refine hide4 ?_
    intro G9 hG9 x r σ' KJ o' j915
    refine x57 j915 fun k1 k2 e1 e2 ys h8 h9 h1 h2 h3 h4 e916 => ?_
    try clear j915
    obtain rfl := e916
    refine hG9 _ _ _ _ ?_
    clear hG9 G9
    intro nx nj
    cases k2 with | nil => cases h4 | cons k k2 => ?_
    cases e2 with | nil => cases h2 | cons e e2 => ?_
    refine x02 (List.cons.inj (show x :: r = AV.int (k1.length : Int) :: (List.range' (k1.length + 1) k2.length).map (fun j : Nat => AV.int (j : Int)) from h4)) fun e917 e918 => ?_
    obtain rfl := e917
    obtain rfl := e918
    refine x21 (hA.getk (i := k1.length) (k := k) (by rw [h8]; exact get_mid rfl)) fun a1 b1 ea => ?_
    have tn : ((k1.length : Int) + 1).toNat = k1.length + 1 := by omega
    refine Item.at (i := (k1.length : Int)) (x := oAlt a1 k.1 k.2 b1) (Int.natCast_nonneg _) (by rw [Int.toNat_natCast]; exact ea) ?_
    refine Item.at (i := (k1.length : Int) + 1) (x := .lst k.2) (by omega) (by rw [tn, h8, List.map_append, List.map_cons]; exact get_mid (a := AV.lst [.str n] :: k1.map fun k => AV.lst k.2) (by rw [List.length_cons, List.length_map])) ?_
    refine Item.at (i := (k1.length : Int) + 1) (x := e) (by omega) (by rw [tn, h9, List.append_assoc]; exact get_mid (a := v' :: e1) (by rw [List.length_cons, h1])) ?_
    have hkt := hA.key k (by rw [h8]; simp)
    refine mk233 o' (rd.le (by decide)) (hkt.elim fun kl e => e ▸ nc_tup) nc_lst (hb e (by rw [h9]; simp)) fun a2 => ?_
    refine Need.mk (by have := h3.len; have := congrArg List.length h9; simp only [List.length_append, List.length_cons] at this; omega) ?_
    exact nj.nx _ (i57 (k1 ++ [k]) k2 (e1 ++ [e]) e2 (ys ++ [oAlt a2 k.1 k.2 e]) (by rw [h8]; simp) (by rw [h9]; simp) (by simp [h1]) (Nat.succ.inj h2) (h3.snoc hkt) (by rw [List.length_append]; rfl) rfl)
theorem Frm.node {v v' : AV} {ks : List AV} (h : Frm v v' ks) : Node v' ks := by
  cases h with
  | app => exact .app
  | lam => exact .lam
  | let_ _ h => exact .let_ h
  | case _ h => exact .case h
  | caseO _ h => exact .caseO h
  | con => exact .con
  | prim => exact .prim
noncomputable def rebFn (v : AV) : Addr := match v with
  | .obj _ C _ => (lk (Str.ofString "rebuilt") (lkN C meths)).getD 0
  | _ => 0
noncomputable def isObj (v : AV) : Bool := match v with
  | .obj .. => true
  | _ => false
theorem isObj_eq {v : AV} (h : isObj v = true) : ∃ a C fs, v = .obj a C fs := by
  cases v with
  | obj => exact ⟨_, _, _, rfl⟩
  | _ => cases h
theorem isObj_nc {v : AV} (h : isObj v = true) : NC v := by
  refine x31 (isObj_eq h) fun a C fs e919 => ?_
  obtain rfl := e919
  exact nc_obj
theorem split_last {α : Type} {l : List α} {n : Nat} (h : l.length = n + 1) : ∃ l' x, l = l' ++ [x] ∧ l'.length = n := by
  rcases List.eq_nil_or_concat l with rfl | ⟨l', x, rfl⟩
  · cases h
  · exact i22 l' x List.concat_eq_append (by simpa using h)
theorem rebuilt_ac {v : AV} {ks ks' gs : List AV} (o : c.Ok2) (hr : Room c 5) (h : Node v ks) (hg : Grp v gs) (hl : ks'.length = ks.length) (hne : ks ≠ []) (hk : ∀ k ∈ ks', isObj k = true) (hz : ks.length ≤ 1000) (ret : ∀ v', Frm v v' ks' → isObj v' = true → P v' σ) : AC c (.ref (rebFn v)) [v, .lst gs, .lst ks'] σ P := by
  have hn : ∀ k ∈ ks', NC k := fun k h => isObj_nc (hk k h)
  cases h with
  | var => exact absurd rfl hne
  | lit => exact absurd rfl hne
  | app =>
    cases ks' with
    | nil => cases hl
    | cons f' xs' => exact reb_app o hr nc_lst (hn _ List.mem_cons_self) fun a' => ret _ (.app (Nat.succ.inj hl)) rfl
  | lam =>
    cases hg
    refine x11 (List.length_eq_one_iff.mp hl) fun b' e920 => ?_
    obtain rfl := e920
    exact reb_lam o hr (hn _ List.mem_cons_self) fun a' => ret _ .lam rfl
  | let_ hB =>
    cases hg with | let_ hB2 => ?_
    refine x22 (split_last (hl.trans List.length_append)) fun es' b' e921 hl2 => ?_
    obtain rfl := e921
    exact reb_let o hr hB2 (hl2.trans (hB.len.symm.trans hB2.len)) (hn _ (by simp)) (fun e he => hn e (by simp [he])) (by have := hB.len; have := hB2.len; simp only [List.length_append] at hz; omega) fun a' bs' hB' => ret _ (.let_ hB2 hB') rfl
  | case hA =>
    cases hg with | case hA2 => ?_
    cases ks' with
    | nil => cases hl
    | cons v' bs' =>
      rw [show v' :: bs' = v' :: (bs' ++ []) from by rw [List.append_nil]]
      exact reb_case (tl := []) o hr hA2 (bs' := bs') (Nat.succ.inj hl |>.trans (hA.len.symm.trans hA2.len)) (hn _ List.mem_cons_self) (fun e he => hn e (List.mem_cons_of_mem _ he)) (by have := hA.len; have := hA2.len; simp only [List.length_cons] at hz; omega) (.inl ⟨rfl, rfl⟩) fun a' as' hA' => ret _ (.case hA2 hA') rfl
  | caseO hA =>
    cases hg with | case hA2 => ?_
    cases ks' with
    | nil => cases hl
    | cons v' r =>
      refine x22 (split_last ((Nat.succ.inj hl).trans List.length_append)) fun bs' x e922 hl2 => ?_
      obtain rfl := e922
      refine x31 (isObj_eq (hk x (by simp))) fun o2 C2 f2 e923 => ?_
      obtain rfl := e923
      exact reb_case o hr hA2 (hl2.trans (hA.len.symm.trans hA2.len)) (hn _ List.mem_cons_self) (fun e he => hn e (by simp [he])) (by have := hA.len; have := hA2.len; simp only [List.length_cons, List.length_append] at hz; omega) (.inr ⟨_, _, _, _, _, _, rfl, rfl⟩) fun a' as' hA' => ret _ (.caseO hA2 hA') rfl
  | con => exact reb_con o hr nc_lst fun a' => ret _ (.con hl) rfl
  | prim => exact reb_prim o hr nc_lst fun a' => ret _ .prim rfl
end
end Mine
end
section
open PySem PySem.W PyProof.Rows PySem.Spec
set_option tactic.hygienic false
set_option maxHeartbeats 2000000
namespace Mine
theorem strs_get {vs : List Value} {ss : List Str} (h : StrsAre vs ss) : ∀ {j : Nat} {x : Value}, vs[j]? = some x → ∃ c t, ss[j]? = some c ∧ x = .str c t := by
  induction h with
  | nil => intro j x h; cases j <;> cases h
  | cons c t _ ih =>
    intro j x h
    cases j with
    | zero => cases h; exact ⟨c, t, rfl, rfl⟩
    | succ j => exact ih (j := j) h
theorem strs_len {vs : List Value} {ss : List Str} (h : StrsAre vs ss) : vs.length = ss.length := by
  induction h with
  | nil => rfl
  | cons _ _ _ ih => exact congrArg (· + 1) ih
noncomputable def valStr (e : Int × Value) : Str := match e.2 with
  | .str s _ => s
  | _ => Str.ofString ""
theorem isStr_val {prog : Program} {w : World} {k : Str} {e : Int × Value} (h : (PySem.strKind prog w).is k e.2 = true) : valStr e = k := by
  refine x11 (Value.isStrOf_shape h) fun t ht => ?_
  simp [valStr, ht]
theorem val_isStr {prog : Program} {w : World} {es : List (Int × Value)} (h : ElemsOf (PySem.strKind prog w) es) {e : Int × Value} (he : e ∈ es) : (PySem.strKind prog w).is (valStr e) e.2 = true := by
  refine x02 (h e he) fun j91 _ => ?_
  refine x12 j91 fun k hk _ => ?_
  try clear j91
  rw [isStr_val hk]; exact hk
noncomputable def SetT (prog : Program) (w : World) (led : Bool) (h : Heap) (a : Addr) (ks : List Str) : Prop :=
  ∃ o es ep t, h.get? a = some o ∧ o.ExactSet ∧ o.data = .set es ep t ∧ ElemsOf (PySem.strKind prog w) es.toList ∧ t.fits es.size = true ∧ t.led = led ∧ (es.size ≠ 0 → t.plain = false) ∧ ks.Nodup ∧ (es.toList.map valStr).Perm ks
theorem layNew_led (t : SetTable) (es : Array (Int × Value)) (h : Int) (x : Value) : (layNew t es h x).2.1.led = t.led := by
  unfold layNew
  split
  · dsimp only
    unfold SetTable.orStandIn
    split
    · rfl
    · rfl
  · rfl
set_option tactic.hygienic true in
theorem relaid_led {t t' : SetTable} {hs : Array Int} {n : Nat} {o : Array Nat} (h : t.relaid hs n = some (t', o)) : t'.led = t.led ∧ t'.plain = t.plain := by
  unfold SetTable.relaid SetTable.laid at h
  simp only [Option.bind_eq_bind, Option.bind_eq_some_iff, Option.pure_def, Option.some.injEq, Prod.mk.injEq] at h
  refine x13 h fun _ _ _ _ => ?_
  try clear h
  rename_i h _
  subst h; exact ⟨rfl, rfl⟩
set_option tactic.hygienic true in
theorem relayAll_led (t : SetTable) (es : Array (Int × Value)) (n : Nat) : (relayAll t es n).2.1.led = t.led ∧ (t.plain = false → (relayAll t es n).2.1.plain = false) := by
  unfold relayAll
  split
  · rename_i t' o h
    refine x02 (relaid_led h) fun h1 h2 => ?_
    dsimp only
    split
    · exact ⟨h1, fun h => h2.trans h⟩
    · exact ⟨rfl, fun _ => rfl⟩
  · exact ⟨rfl, fun _ => rfl⟩
section
variable {prog : Program} {w : World} {A : Around} {E : Value → Shared → Prop} {s : Shared} {led : Bool}
theorem setT_store {h : Heap} {a : Addr} {o : Obj} {es : Array (Int × Value)} {ep : Nat} {t : SetTable} (ho : h.get? a = some o) (hex : o.ExactSet) (hd : o.data = .set es ep t) {es' : Array (Int × Value)} {t' : SetTable} {ks : List Str}
    (hel : ElemsOf (PySem.strKind prog w) es'.toList) (hf : t'.fits es'.size = true) (hl : t'.led = led) (hp : t'.plain = false) (hn : ks.Nodup) (hk : (es'.toList.map valStr).Perm ks) :
    (h.update a (Obj.putSet es' t')).get? a = some { o with data := .set es' (ep + 1) t' } ∧ SetT prog w led (h.update a (Obj.putSet es' t')) a ks := by
  have hg : (h.update a (Obj.putSet es' t')).get? a = some { o with data := .set es' (ep + 1) t' } := by
    have := Heap.get?_update_self (Obj.putSet es' t') ho (by rw [putSet_of es' t' hd]; rfl)
    rw [putSet_of es' t' hd] at this; exact this
  exact ⟨hg, _, es', ep + 1, t', hg, hex, rfl, hel, hf, hl, fun _ => hp, hn, hk⟩
theorem addTail_T {g : Bool → Sem Unit} (hg : ∀ (b : Bool) (s₁ : Shared) (Q' : Unit → Shared → Prop), Q' () s₁ → wpAny (model prog w) A (g b) Q' E s₁)
    {a : Addr} {o : Obj} {es : Array (Int × Value)} {ep : Nat} {t : SetTable} (ho : s.heap.get? a = some o) (hex : o.ExactSet) (hd : o.data = .set es ep t)
    {es1 : Array (Int × Value)} {t2 : SetTable} {ks : List Str} (hel1 : ElemsOf (PySem.strKind prog w) es1.toList) (hb1 : es1.size < scanBound) (hf2 : t2.fits es1.size = true) (hl : t2.led = led) (hp : t2.plain = false) (hn : ks.Nodup) (hk : (es1.toList.map valStr).Perm ks)
    {wasDummy : Bool} {R : Option Bool → Shared → Prop}
    (h : ∀ h', Heap.SameBut a s.heap h' → SetT prog w led h' a ks → R (some true) { s with heap := h' }) :
    wpAny (model prog w) A (do
        storeSet a es1 t2
        if (!wasDummy && t2.tooFull) = true then do
            g (relayAll t2 es1 (SetTable.grown es1.size)).2.2
            storeSet a (relayAll t2 es1 (SetTable.grown es1.size)).1 (relayAll t2 es1 (SetTable.grown es1.size)).2.1
            pure (some true)
          else pure (some true)) R E s := by
  refine wpAny_bind (wpAny_storeSet_of ho hd ?_ (fits_of_scanBound hb1))
  refine x02 (setT_store (prog := prog) (w := w) (led := led) ho hex hd hel1 hf2 hl hp hn hk) fun ho1 hS1 => ?_
  have hsb1 := Heap.SameBut.update s.heap a (Obj.putSet es1 t2)
  split
  · have hpm := relayAll_perm t2 es1 (SetTable.grown es1.size)
    have hfr := relayAll_fits t2 es1 (SetTable.grown es1.size)
    refine x02 (relayAll_led t2 es1 (SetTable.grown es1.size)) fun hl3 hp3 => ?_
    generalize hRl : relayAll t2 es1 (SetTable.grown es1.size) = Rl at hpm hfr hl3 hp3 ⊢
    obtain ⟨es2, t3, gave2⟩ := Rl
    dsimp only at hpm hfr hl3 hp3 ⊢
    have hsz : es2.size = es1.size := by rw [← Array.length_toList, hpm.length_eq, Array.length_toList]
    refine wpAny_bind (hg _ _ _ ?_)
    refine wpAny_bind (wpAny_storeSet_of ho1 rfl ?_ (fits_of_scanBound (by rw [hsz]; exact hb1)))
    refine x02 (setT_store (prog := prog) (w := w) (led := led) ho1 hex rfl (hel1.perm hpm) hfr (hl3.trans hl) (hp3 hp) hn ((hpm.map valStr).trans hk)) fun _ hS2 => ?_
    exact wpAny_pure (h _ (hsb1.trans (Heap.SameBut.update _ a _)) hS2)
  · exact wpAny_pure (h _ hsb1 hS1)
set_option tactic.hygienic true in
theorem setAdd_T {a : Addr} {ks : List Str} {c : Str} {u : Tok} {Q : Bool → Shared → Prop} (hS : SetT prog w led s.heap a ks) (hroom : ks.length + 1 < scanBound)
    (h : ∀ b h', Heap.SameBut a s.heap h' → SetT prog w led h' a (if c ∈ ks then ks else ks ++ [c]) → Q b { s with heap := h' }) :
    wpAny (model prog w) A (setAddHashed a (.str c u) ((PySem.strKind prog w).hash c)) Q E s := by
  refine x49 hS fun o es ep t ho hex hd hel hf hl hp hn hk => ?_
  try clear hS
  have hkey : (PySem.strKind prog w).is c (.str c u) = true := strKind_is prog w c u
  have hsz : es.size = ks.length := by rw [← hk.length_eq, List.length_map, Array.length_toList]
  have hb : es.size < scanBound := by omega
  have hsc : (Value.str c u).scannable = true := rfl
  unfold setAddHashed setAddHashedIn
  refine wpAny_holding (wpAny_bind (wpAny_setState_of ho hd hf ?_))
  dsimp only
  rw [byScan_of hsc hb hel]
  simp only [↓reduceIte]
  unfold setAddByScan
  refine wpAny_bind ?_
  refine wpAny_bind (wpAny_rule ?_)
  refine wpAny_bind (wpAny_setScan_of hkey ho hd hf hel ?_)
  cases hr : List.findIdx? (fun e => (PySem.strKind prog w).is c e.2) es.toList with
  | some j =>
    dsimp only
    obtain ⟨hj, hpj, _⟩ := List.findIdx?_eq_some_iff_getElem.mp hr
    have hc : c ∈ ks := hk.mem_iff.mp (by rw [← isStr_val hpj]; exact List.mem_map_of_mem (List.getElem_mem hj))
    refine wpAny_pure (wpAny_pure ?_)
    have e : s = { s with heap := s.heap } := by cases s; rfl
    rw [e]
    exact h false s.heap (Heap.SameBut.refl a s.heap) (by rw [if_pos hc]; exact ⟨o, es, ep, t, ho, hex, hd, hel, hf, hl, hp, hn, hk⟩)
  | none =>
    dsimp only
    have hc : c ∉ ks := fun hm => by
      refine x12 (List.mem_map.mp (hk.mem_iff.mpr hm)) fun e he hv => ?_
      have z := List.findIdx?_eq_none_iff.mp hr e he
      have z2 := val_isStr hel he
      rw [hv, z] at z2; cases z2
    rw [if_neg hc] at h
    have hgw : ∀ (b : Bool) {s₁ : Shared} {Q' : Unit → Shared → Prop}, Q' () s₁ → wpAny (model prog w) A (match b with | true => rule "set.scan.the-table-gave-way" | false => pure ()) Q' E s₁ :=
      fun b s₁ Q' hq => by cases b <;> first | exact wpAny_pure hq | exact wpAny_rule hq
    have hperm := layNew_perm t es ((PySem.strKind prog w).hash c) (.str c u)
    have hfits := layNew_fits t es ((PySem.strKind prog w).hash c) (.str c u)
    have hled := layNew_led t es ((PySem.strKind prog w).hash c) (.str c u)
    generalize hL : layNew t es ((PySem.strKind prog w).hash c) (.str c u) = Lx at hperm hfits hled ⊢
    obtain ⟨es1, t1, wasDummy, gave⟩ := Lx
    dsimp only at hperm hfits hled ⊢
    rw [Array.toList_push] at hperm
    have hel1 : ElemsOf (PySem.strKind prog w) es1.toList := (hel.push hkey hsc).perm hperm
    have hk1 : (es1.toList.map valStr).Perm (ks ++ [c]) := (hperm.map valStr).trans (by rw [List.map_append]; exact hk.append_right [c])
    have hn1 : (ks ++ [c]).Nodup := by
      rw [List.nodup_append]
      exact i03 hn (by simp) (fun x hx y hy => by rw [List.mem_singleton.mp hy]; exact fun e => hc (e ▸ hx))
    have hb1 : es1.size < scanBound := by rw [← Array.length_toList, hperm.length_eq, List.length_append, Array.length_toList, hsz]; exact hroom
    refine wpAny_bind (hgw _ ?_)
    split
    · refine wpAny_bind ?_
      rw [hashByValue_scannable 8 hsc]
      refine wpAny_pure ?_
      have e9 : plainKind (Value.str c u) = false := rfl
      rw [e9]
      simp only [Bool.false_eq_true, ↓reduceIte]
      refine addTail_T (led := led) ?_ ho hex hd hel1 hb1 (SetTable.fits_plain_off hfits) (hled.trans hl) rfl hn1 hk1 ?_
      · intro b s₁ Q' hq; cases b <;> first | exact wpAny_pure hq | exact wpAny_rule hq
      · intro h' hsb hS'; dsimp only; exact wpAny_pure (h true h' hsb hS')
    · rename_i hpl
      refine wpAny_bind (wpAny_pure ?_)
      simp only [↓reduceIte]
      refine addTail_T (led := led) ?_ ho hex hd hel1 hb1 hfits (hled.trans hl) (by simpa using hpl) hn1 hk1 ?_
      · intro b s₁ Q' hq; cases b <;> first | exact wpAny_pure hq | exact wpAny_rule hq
      · intro h' hsb hS'; dsimp only; exact wpAny_pure (h true h' hsb hS')
end
end Mine
end
section
open PySem PySem.W PyProof.Rows PySem.Spec
set_option tactic.hygienic false
set_option maxHeartbeats 4000000
namespace Mine
noncomputable def ledB (w : World) : Bool := !w.params.followText "set-order"
section
variable {prog : Program} {w : World} {A : Around} {E : Value → Shared → Prop} {s : Shared}
theorem setT_stay {led : Bool} {h h' : Heap} {a : Addr} {ks : List Str} (hS : SetT prog w led h a ks) (k : ∀ o, h.get? a = some o → h'.get? a = some o) : SetT prog w led h' a ks := by
  refine x42 hS fun o es ep t ho r => ?_
  try clear hS
  exact i42 o es ep t (k o ho) r
set_option tactic.hygienic true in
theorem update_loop_T {led : Bool} {R : Result → Shared → Prop} {I : Addr} {fp wr : List Addr} {G : Array GenState → Array GenState → Prop} {n : Nat} {P : Nat → Value → Prop} {St : Nat → Shared → Prop}
    (W : WalksS prog w A.in1 I fp wr G n P St) (S : Addr) (hSf : S ∉ fp) (val : Nat → Str) (hval : ∀ i v, P i v → ∃ t, v = .str (val i) t) (hb : n + 1 < scanBound) :
    ∀ (k i : Nat) (s : Shared) (ks : List Str), n - i = k → i ≤ n → St i s → SetT prog w led s.heap S ks → (∀ x, x ∈ ks ↔ ∃ j, j < i ∧ val j = x) → ks.length ≤ i →
      (∀ s' ks', Moved (S :: wr) G s s' → SetT prog w led s'.heap S ks' → (∀ x, x ∈ ks' ↔ ∃ j, j < n ∧ val j = x) → R (.ok (.ret .none)) s') →
      codeAny (model prog w) A (.builtin "set.update.loop" ⟨[.ref S, .ref I], []⟩) R s := by
  have hSw : S ∉ wr := fun h => hSf (W.sub _ h)
  have hsub : ∀ b ∈ wr, b ∈ S :: wr := fun b hb => List.mem_cons_of_mem _ hb
  intro k
  induction k with
  | zero =>
    intro i s ks hk hi hst hS hx hl hR
    obtain rfl : i = n := by omega
    refine codeAny_builtin PyProof.Rows.F.entry_set_update_loop ?_
    rw [Around.under_plainId PyProof.Rows.F.plain_set_update_loop _]
    show wpAny _ A.in1 (pyNext (.ref I) >>= _) _ _ s
    refine wpAny_bind (W.done s _ _ hst fun s' hm => ?_)
    show wpAny _ A.in1 (ret Value.none) _ _ s'
    exact wpAny_pure (hR s' ks (hm.mono hsub) (setT_stay hS fun o ho => hm.heap S _ hSw ho) hx)
  | succ k ih =>
    intro i s ks hk hi hst hS hx hl hR
    have hlt : i < n := by omega
    refine codeAny_builtin PyProof.Rows.F.entry_set_update_loop ?_
    rw [Around.under_plainId PyProof.Rows.F.plain_set_update_loop _]
    show wpAny _ A.in1 (pyNext (.ref I) >>= _) _ _ s
    refine wpAny_bind (W.item i s _ _ hlt hst fun v s' hP hst' hm => ?_)
    refine x11 (hval i v hP) fun t e91 => ?_
    obtain rfl := e91
    have hS' : SetT prog w led s'.heap S ks := setT_stay hS fun o ho => hm.heap S _ hSw ho
    show wpAny _ A.in1 (holding [Value.str (val i) t] (setAdd S (.str (val i) t)) >>= _) _ _ s'
    refine wpAny_bind (wpAny_holding ?_)
    unfold setAdd
    refine wpAny_holding ?_
    refine wpAny_bind ((PySem.strKind prog w).pyHash (k := val i) (strKind_is _ _ _ _) ?_)
    refine setAdd_T (s := { s' with toks := s'.toks + 1 }) (led := led) hS' (by omega) fun b h' hsb hS2 => ?_
    refine wpAny_pure ⟨plainId_quiet PyProof.Rows.F.plain_set_update_loop _, ih (i + 1) _ (if val i ∈ ks then ks else ks ++ [val i]) (by omega) hlt (W.frame _ s' _ _ hst' (Nat.le_succ _) fun b hb o e => ?_) hS2 (fun x => ?_) ?_ fun s'' ks' hm'' hS'' hx'' => ?_⟩
    · rw [hsb.2 b (fun h : b = S => hSf (by rw [← h]; exact hb))]; exact e
    · split
      · rename_i hc
        rw [hx x]
        constructor
        · intro j92
          refine x12 j92 fun j hj e => ?_
          try clear j92
          exact i12 j (by omega) e
        · intro j93
          refine x12 j93 fun j hj e => ?_
          try clear j93
          by_cases hji : j = i
          · subst hji; obtain ⟨j', h1, h2⟩ := (hx _).mp hc; exact ⟨j', h1, h2.trans e⟩
          · exact i12 j (by omega) e
      · rw [List.mem_append, List.mem_singleton, hx x]
        constructor
        · rintro (⟨j, hj, e⟩ | e)
          · exact i12 j (by omega) e
          · exact i12 i (by omega) e.symm
        · intro j94
          refine x12 j94 fun j hj e => ?_
          try clear j94
          by_cases hji : j = i
          · subst hji; exact .inr e.symm
          · exact .inl (i12 j (by omega) e)
    · split
      · omega
      · rw [List.length_append, List.length_singleton]; omega
    · refine hR s'' ks' (Moved.trans W.gtrans ((hm.mono hsub).then_heap (Nat.le_succ _) fun b o hb e => ?_) hm'') hS'' hx''
      rw [hsb.2 b (fun h : b = S => hb (by rw [h]; exact List.mem_cons_self))]; exact e
theorem code_set_new_L (a : Value) {Q₁ : Value → Shared → Prop}
    (h : Q₁ (.ref s.heap.objs.size) { s with heap := s.heap.push { cls := .type "set", dict := none, data := .set #[] 0 (.fresh 0 0 (ledB w)) } }) :
    codeAny (model prog w) A (.call (.builtin "set.__new__") ⟨[.type "set", a], []⟩) (wants Q₁ E) s := by
  refine codeAny_of_tree ?_
  show wpAny _ A.in1 (do checkBuiltinCall "set.__new__" ⟨[.type "set", a], []⟩; again (.builtin "set.__new__" ⟨[.type "set", a], []⟩)) _ _ s
  refine wpAny_bind (wpAny_of_eq (PySem.F.newCall_set_1 a) (wpAny_pure ⟨plainId_quiet PySem.F.plain_set_new _, codeAny_builtin PySem.F.entry_set_new ?_⟩))
  rw [Around.under_plainId PySem.F.plain_set_new _]
  unfold Builtin.«set.__new__» Builtin.Frozenset.newClass
  have hsub := sub_set_self
  obtain ⟨hp, g, d, tk, os⟩ := s
  dsimp only
  wp_walk
  refine wpAny_askSetting (wpAny_pure ?_)
  dsimp only
  simp only [newObj]
  refine wpAny_bind (wpAny_alloc (wpAny_pure ?_))
  exact wpAny_pure h
theorem setT_fresh {h : Heap} {a : Addr} {led : Bool} (e : h.get? a = some { cls := .type "set", dict := none, data := .set #[] 0 (.fresh 0 0 led) }) : SetT prog w led h a [] :=
  ⟨_, #[], 0, _, e, ⟨rfl, rfl, rfl⟩, rfl, fun e he => by simp at he, by rfl, rfl, fun h => absurd rfl h, List.nodup_nil, by simp⟩
theorem call_set_strs {l : Addr} {vs : List Value} {ss : List Str} {Q : Value → Shared → Prop}
    (hh : A.handled = none) (hl : s.heap.IsList l vs.toArray) (hi : StrsAre vs ss) (hb : vs.length + 1 < scanBound)
    (h : ∀ (h' : Heap) (tk : Nat) (ks : List Str), SetT prog w (ledB w) h' s.heap.objs.size ks → (∀ x, x ∈ ks ↔ x ∈ ss) →
      (∀ b o, b < s.heap.objs.size → s.heap.get? b = some o → h'.get? b = some o) → Q (.ref s.heap.objs.size) { s with heap := h', toks := tk }) :
    wpAny (model prog w) A (call (.type "set") [.ref l]) Q E s := by
  refine x21 PySem.F.called_set.mro fun c tl hmro => ?_
  have hmade := PySem.F.called_set.made
  have hsub := PySem.F.called_set.sub
  refine wpAny_call (codeAny_of_tree ?_)
  show wpAny _ _ (callAny (.type "set") _) _ _ _
  refine wpAny_pure ⟨Code.quiet_builtin _ (by decide +kernel), codeAny_builtin PySem.F.entry_type_call ?_⟩
  rw [Around.under_plain (weight_type_call_type "set" [.ref l] []) rfl]
  have h1 := PySem.F.called_set.notType
  have h2 := PySem.F.called_set.canCreate
  have hct := PySem.F.typeCall_set_1 (.ref l)
  repeat (any_goals (first | assumption | wp_step))
  refine codeAny_mono (code_set_new_L (.ref l) (E := E) (Q₁ := fun obj s₁ => obj = .ref s.heap.objs.size ∧ s₁ = { s with heap := s.heap.push { cls := .type "set", dict := none, data := .set #[] 0 (.fresh 0 0 (ledB w)) } }) ⟨rfl, rfl⟩) fun r s₁ hr => ?_
  cases r with
  | error e => exact hr
  | ok fl =>
    cases fl with
    | ret obj =>
      refine x02 hr fun e95 e96 => ?_
      try clear hr
      obtain rfl := e95
      obtain rfl := e96
      have hS : (s.heap.push { cls := .type "set", dict := none, data := .set #[] 0 (.fresh 0 0 (ledB w)) }).get? s.heap.objs.size = some { cls := .type "set", dict := none, data := .set #[] 0 (.fresh 0 0 (ledB w)) } := Heap.get?_push_size _ rfl
      have hT : Shared.TypeIs { s with heap := s.heap.push { cls := .type "set", dict := none, data := .set #[] 0 (.fresh 0 0 (ledB w)) } } (.ref s.heap.objs.size) "set" := ⟨_, hS, rfl⟩
      have hli := PySem.F.called_set.init.lookup
      have hbi := PySem.F.called_set.init.bind (.ref s.heap.objs.size)
      repeat (any_goals (first | assumption | wp_step))
      refine codeAny_mono (codeAny_call_builtin (R := wants (fun r s₂ => r = .none ∧ ∃ h' tk ks, s₂ = { s with heap := h', toks := tk } ∧ SetT prog w (ledB w) h' s.heap.objs.size ks ∧ (∀ x, x ∈ ks ↔ x ∈ ss) ∧
          (∀ b o, b < s.heap.objs.size → s.heap.get? b = some o → h'.get? b = some o)) E) PySem.F.called_set.init.plain PySem.F.entry_set_init (check_set_init_1 hT ?_)) fun r₂ s₂ hr₂ => ?_
      · obtain ⟨ol, hol, hcl, nl, hdl⟩ := hl
        obtain ⟨ocls, odict, odata, oslots⟩ := ol
        simp only at hcl hdl
        subst hcl; subst hdl
        have hol' : (s.heap.push { cls := .type "set", dict := none, data := .set #[] 0 (.fresh 0 0 (ledB w)) }).get? l = some { cls := .type "list", dict := odict, data := .seq vs.toArray nl, slots := oslots } := Heap.get?_push_of_some _ hol
        have hsls := PySem.F.sub_list_set
        have hslf := PySem.F.sub_list_frozenset
        have hne : (Value.type "list" == Value.type "dict") = false := by decide
        have hl1 : (s.heap.push { cls := .type "set", dict := none, data := .set #[] 0 (.fresh 0 0 (ledB w)) }).IsList l vs.toArray := ⟨_, hol', rfl, nl, rfl⟩
        unfold Builtin.«set.__init__» noKeywords Builtin.Frozenset.updateFrom
        generalize hPI : pyIter = PI
        wp_walk
        subst hPI
        refine wpAny_pyIter_list hl1 ?_
        refine wpAny_bind (wpAny_runValue ?_)
        have hlS : l < s.heap.objs.size := Heap.lt_size hol
        have hh3 : A.in1.in1.in1.handled = none := by simp [hh]
        have hneI : l ≠ (s.heap.push { cls := .type "set", dict := none, data := .set #[] 0 (.fresh 0 0 (ledB w)) }).objs.size := by
          rw [Heap.size_push]; exact Nat.ne_of_lt (Nat.lt_succ_of_lt hlS)
        have hSf : s.heap.objs.size ∉ [(s.heap.push { cls := .type "set", dict := none, data := .set #[] 0 (.fresh 0 0 (ledB w)) }).objs.size, l] := by
          rw [Heap.size_push]; simp only [List.mem_cons, List.mem_singleton, List.not_mem_nil, or_false, not_or]
          exact ⟨Nat.ne_of_lt (Nat.lt_succ_self _), Nat.ne_of_gt hlS⟩
        have hval : ∀ (i : Nat) (v : Value), vs.toArray[i]? = some v → ∃ t, v = .str ((fun i => ss.getD i (Str.ofString "")) i) t := fun i v hv => by
          refine x22 (strs_get hi (by simpa using hv)) fun c t e1 e2 => ?_
          exact ⟨t, by rw [e2]; simp [List.getD, e1]⟩
        have hmem : ∀ x, (∃ j, j < vs.toArray.size ∧ (fun i => ss.getD i (Str.ofString "")) j = x) ↔ x ∈ ss := fun x => by
          rw [List.size_toArray, strs_len hi]
          constructor
          · intro j97
            refine x12 j97 fun j hj e98 => ?_
            try clear j97
            obtain rfl := e98
            simp only [List.getD, List.getElem?_eq_getElem hj, Option.getD_some]
            exact List.getElem_mem hj
          · intro hx
            obtain ⟨j, hj, e⟩ := List.mem_iff_getElem.mp hx
            exact i12 j hj (by simp [List.getD, List.getElem?_eq_getElem hj, e])
        refine update_loop_T (led := ledB w) ((Walks.list hh3 _ l hneI vs.toArray).toS) s.heap.objs.size
          hSf (fun i => ss.getD i (Str.ofString "")) hval (by rw [List.size_toArray]; exact hb) (vs.toArray.size - 0) 0 _ [] (by omega) (Nat.zero_le _)
          ⟨⟨_, Heap.get?_push_size _ rfl, rfl, rfl⟩, (hl1.push _)⟩ ?hS0 (fun x => by simp) (Nat.le_refl _) ?hR
        case hS0 => exact setT_fresh (Heap.get?_push_of_some _ hS)
        case hR =>
          intro s' ks hm hS' hx
          obtain ⟨h', g', d', tk', os'⟩ := s'
          have eg : g' = s.gens := hm.gens
          have ed : d' = s.drawn := hm.drawn
          have eo : os' = s.os := hm.os
          subst eg; subst ed; subst eo
          show wpAny _ _ _ _ _ _
          refine wpAny_pure ?_
          show wpAny _ _ (ret Value.none) _ _ _
          refine wpAny_pure ⟨rfl, h', tk', ks, rfl, hS', fun x => (hx x).trans (hmem x), fun b o hb e => ?_⟩
          have hb1 : b ≠ s.heap.objs.size := Nat.ne_of_lt hb
          have hb2 : b ≠ (s.heap.push { cls := .type "set", dict := none, data := .set #[] 0 (.fresh 0 0 (ledB w)) }).objs.size := by
            rw [Heap.size_push]; exact Nat.ne_of_lt (Nat.lt_succ_of_lt hb)
          exact hm.heap b o (by simp only [List.mem_cons, List.mem_singleton, List.not_mem_nil, or_false, not_or]; exact ⟨hb1, hb2⟩) (Heap.get?_push_of_some _ (Heap.get?_push_of_some _ e))
      · cases r₂ with
        | error e => exact hr₂
        | ok fl₂ =>
          cases fl₂ with
          | ret r =>
            obtain ⟨rfl, h', tk, ks, rfl, hS', hx, hk'⟩ := hr₂
            repeat (any_goals (first | assumption | wp_step))
            exact h _ _ ks hS' hx hk'
          | _ => exact hr₂.elim
    | _ => exact hr.elim
end
end Mine
end
section
open PySem PySem.W PyProof.Rows PySem.Spec
set_option tactic.hygienic false
set_option maxHeartbeats 4000000
namespace Mine
theorem entry_set_iter9 : entryFor table "set.__iter__" = some Builtin.«frozenset.__iter__» := entryFor_alias (id' := "frozenset.__iter__") (by kernel_rfl) rfl (by decide +kernel) (by kernel_rfl)
theorem slot_seti_next9 : Slot "set_iterator" "__next__" "set_iterator.__next__" :=
  .of (owner := "set_iterator") (n := "__next__") (by rw [typeLookup_type, builtinLookup_eq_fast]; kernel_rfl) (by decide +kernel) (by decide +kernel) (by decide +kernel)
    (by first | exact .inl (by decide +kernel) | exact .inr (by decide +kernel)) (by rw [isSubtype_type]; kernel_rfl)
theorem entry_seti_next9 : entryFor table "set_iterator.__next__" = some Builtin.«set_iterator.__next__» := entryFor_of_tree (by kernel_rfl)
theorem owner_seti9 : Manifest.owners.lookup (String.ofList ['r', 'o', 't', 'a', 'r', 'e', 't', 'i', '_', 't', 'e', 's'].reverse) = some Manifest.sig_set_iterator := by kernel_rfl
theorem args_seti_next9 (a : Value) : argsOk "set_iterator.__next__" ⟨[a], []⟩ := by
  unfold argsOk; rw [signature?_of (id := "set_iterator.__next__") (n := ['_', '_', 't', 'x', 'e', 'n', '_', '_']) (o := ['r', 'o', 't', 'a', 'r', 'e', 't', 'i', '_', 't', 'e', 's']) (by kernel_rfl) owner_seti9]; kernel_rfl
theorem lookup_set_len9 : typeLookup (.type "set") "__len__" = pure (some (.builtin "set.__len__")) := by rw [typeLookup_type, builtinLookup_eq_fast]; kernel_rfl
section
variable {prog : Program} {w : World} {A : Around} {E : Value → Shared → Prop} {s : Shared}
theorem hint_set9 {r : Addr} {Q : Bool → Shared → Prop} (hT : s.TypeIs (.ref r) "set") (h : Q false s) : wpAny (model prog w) A (Builtin.List.listLengthHint (.ref r)) Q E s := by
  unfold Builtin.List.listLengthHint
  refine wpAny_bind (wpAny_specialOf hT lookup_set_len9 ?_)
  generalize hid : ("set.__len__" : String) = id0
  wp_delta
  rw [show splitId id0 = some ("set", "__len__") from by subst hid; decide +kernel]
  subst hid
  refine wpAny_bind (wpAny_isInstance (T := "set") (b := true) hT (by rw [isSubtype_type]; kernel_rfl) ?_)
  refine wpAny_ite_split (fun hab => absurd hab (by decide)) (fun _ => ?_)
  refine wpAny_ite_split (fun _ => ?_) (fun hab => absurd (by decide +kernel) hab)
  refine wpAny_bind (wpAny_typeOf hT ?_)
  exact wpAny_pure h
theorem wpAny_choose9 {src : Source} {n : Nat} {Q : Nat → Shared → Prop} (hn : 0 < n) (h : ∀ k d, k < n → Q k { s with drawn := d }) : wpAny (model prog w) A (choose src n) Q E s := by
  intro Γ p hΓ
  unfold choose
  rw [Sem.wp_choose]
  refine ⟨Nat.ne_of_gt hn, ?_⟩
  show Sem.wp _ _ (Sem.pure _) _ _ _ _
  rw [Sem.wp_pure]
  exact h _ _ (Nat.mod_lt _ hn)
theorem drawOrder9 {α : Type} (n : Nat) : ∀ (xs : List α) (s : Shared) {Q : List α → Shared → Prop}, xs.length = n → (∀ ys d, ys.Perm xs → Q ys { s with drawn := d }) → wpAny (model prog w) A (drawOrder n xs) Q E s := by
  induction n with
  | zero =>
    intro xs s Q hl h
    obtain rfl := List.length_eq_zero_iff.mp hl
    show wpAny (model prog w) A (pure [] : Sem (List α)) Q E s
    exact wpAny_pure (h [] s.drawn (List.Perm.refl _))
  | succ n ih =>
    intro xs s Q hl h
    cases xs with
    | nil => cases hl
    | cons x xs =>
      show wpAny (model prog w) A (do
        let i ← choose .order (x :: xs).length
        match (x :: xs)[i]? with
        | some y => return y :: (← drawOrder n ((x :: xs).eraseIdx i))
        | none => unsupported "internal:drawOrder") Q E s
      refine wpAny_bind (wpAny_choose9 (by simp) fun k d hk => ?_)
      have e : (x :: xs)[k]? = some (x :: xs)[k] := List.getElem?_eq_getElem hk
      rw [e]
      dsimp only
      refine wpAny_bind (ih ((x :: xs).eraseIdx k) { s with drawn := d } (by rw [List.length_eraseIdx_of_lt hk]; simpa using hl) fun ys d' hp => ?_)
      refine wpAny_pure (h _ d' ?_)
      exact (hp.cons _).trans (by
        rw [List.eraseIdx_eq_take_drop_succ]
        have e2 : x :: xs = (x :: xs).take k ++ (x :: xs)[k] :: (x :: xs).drop (k + 1) := by
          rw [← List.drop_eq_getElem_cons hk, List.take_append_drop]
        conv => rhs; rw [e2]
        exact List.perm_middle.symm)
noncomputable def SIt (h : Heap) (I a : Addr) (first : Value) (i n ep : Nat) : Prop := ∃ o, h.get? I = some o ∧ o.cls = .type "set_iterator" ∧ o.data = .fields #[first, .int i 0, .ref a, .int n 0, .int ep 0]
noncomputable def SAt (h : Heap) (a : Addr) (es : Array (Int × Value)) (ep : Nat) (t : SetTable) : Prop := ∃ o, h.get? a = some o ∧ o.data = .set es ep t ∧ t.fits es.size = true
theorem SIt.type {s : Shared} {I a : Addr} {first : Value} {i n ep : Nat} (x : SIt s.heap I a first i n ep) : s.TypeIs (.ref I) "set_iterator" := let ⟨o, ho, hc, _⟩ := x; ⟨o, ho, hc⟩
theorem pyIter_set9 {a : Addr} {es : Array (Int × Value)} {ep : Nat} {t : SetTable} {Q : Value → Shared → Prop} (hT : s.TypeIs (.ref a) "set") (hS : SAt s.heap a es ep t)
    (hi : (w.params.followText "set-order" = true ∨ es.size ≤ 1) → Q (.ref s.heap.objs.size) { s with heap := s.heap.push { cls := .type "set_iterator", data := .fields #[.int 0 0, .int 0 0, .ref a, .int es.size 0, .int ep 0] } })
    (hd : ∀ (ys : List Nat) d, ys.Perm (List.range es.size) → Q (.ref (s.heap.objs.size + 1)) { s with heap := (s.heap.push { cls := .type "tuple", data := .seq (ys.map fun (i : Nat) => rawInt i).toArray }).push { cls := .type "set_iterator", data := .fields #[.ref s.heap.objs.size, .int 0 0, .ref a, .int es.size 0, .int ep 0] }, drawn := d })
    (hp : w.params.followText "set-order" = false → 1 < es.size → t.plain = false) (hz : es.size < scanBound) :
    wpAny (model prog w) A (pyIter (.ref a)) Q E s := by
  refine x13 (id hS) fun o ho hdt hf => ?_
  refine wpAny_pyIter_slot hT PySem.F.slot_set_iter (wpAny_call_entry PySem.F.slot_set_iter hT entry_set_iter9 ?_ (PySem.F.args_set_iter_1 _))
  unfold Builtin.«frozenset.__iter__»
  refine wpAny_bind ?_
  unfold Builtin.Frozenset.slot0
  refine wpAny_bind (wpAny_pure ?_)
  show wpAny _ _ (pure a) _ _ s
  refine wpAny_pure ?_
  refine wpAny_bind ?_
  unfold Builtin.Frozenset.sizeOf
  refine wpAny_bind (wpAny_setEntries_of ho hdt hf (wpAny_pure ?_))
  refine wpAny_bind ?_
  refine wpAny_bind (wpAny_setState_of ho hdt hf ?_)
  dsimp only
  refine wpAny_bind ?_
  unfold setsByText
  refine wpAny_bind (wpAny_askSetting (wpAny_pure ?_))
  refine wpAny_pure ?_
  dsimp only
  have hep : ∀ {s' : Shared} {Q' : Nat → Shared → Prop}, s'.heap.get? a = some o → Q' ep s' → wpAny (model prog w) A.in1 (setEpoch a) Q' E s' := fun ho' hq => wpAny_setEpoch_of ho' hdt hf hq
  have go1 : (w.params.followText "set-order" = true ∨ es.size ≤ 1) → wpAny (model prog w) A.in1 (do
      let __do_lift ← setEpoch a
      let __do_lift ← newFields "set_iterator" [rawInt 0, rawInt 0, Value.ref a, rawInt ↑es.size, rawInt ↑__do_lift]
      ret __do_lift) (fun fin s' => ∃ v, fin = Fin.done (Flow.ret v) ∧ ∃ T' r, s'.TypeIs v T' ∧ typeLookup (Value.type T') (Str.ofString "__next__") = pure (some r) ∧ Q v s') E s := fun hc => by
    refine wpAny_bind (hep ho ?_)
    refine wpAny_bind ?_
    unfold newFields
    refine wpAny_newObj_type ?_
    exact wpAny_pure ⟨_, rfl, "set_iterator", _, ⟨_, Heap.get?_push_size _ rfl, rfl⟩, slot_seti_next9.lookup, hi hc⟩
  cases hb : w.params.followText "set-order" with
  | true =>
    rw [if_neg (by
        show ¬ ((!w.params.followText "set-order" && (!t.plain && decide (es.size > 1))) = true)
        rw [hb]; simp)]
    exact wpAny_bind (wpAny_pure (go1 (.inl hb)))
  | false =>
    by_cases h1 : 1 < es.size
    · rw [if_pos (by
        show (!w.params.followText "set-order" && (!t.plain && decide (es.size > 1))) = true
        rw [hb, hp hb h1]; simp [h1])]
      refine wpAny_bind (drawOrder9 es.size (List.range es.size) s (List.length_range) fun ys d hy => ?_)
      refine wpAny_bind ?_
      unfold newTuple
      refine wpAny_newObj_type ?_ (by
        show (List.map _ ys).toArray.size ≤ sizeLine
        rw [List.size_toArray, List.length_map, hy.length_eq, List.length_range]; exact fits_of_scanBound hz)
      refine wpAny_bind (hep (Heap.get?_push_of_some _ ho) ?_)
      refine wpAny_bind ?_
      unfold newFields
      refine wpAny_newObj_type ?_
      refine wpAny_pure ⟨_, rfl, "set_iterator", _, ⟨_, Heap.get?_push_size _ rfl, rfl⟩, slot_seti_next9.lookup, ?_⟩
      have z := hd ys d hy
      rw [← Heap.size_push] at z
      exact z
    · rw [if_neg (by
        show ¬ ((!w.params.followText "set-order" && (!t.plain && decide (es.size > 1))) = true)
        rw [hb]; simp [h1])]
      exact wpAny_bind (wpAny_pure (go1 (.inr (by omega))))
end
end Mine
end
section
open PySem PySem.W PyProof.Rows PySem.Spec
set_option tactic.hygienic false
set_option maxHeartbeats 4000000
namespace Mine
section
variable {prog : Program} {w : World} {A : Around} {E : Value → Shared → Prop} {s : Shared}
theorem next_int9 {I a : Addr} {i n ep slot : Nat} {es : Array (Int × Value)} {t : SetTable} {Q : Option Value → Shared → Prop} {r : Option (Value × Nat)} (hh : A.handled = none) (hI : SIt s.heap I a (.int slot 0) i n ep) (hS : SAt s.heap a es ep t) (hn : es.size = n)
    (hnx : ∀ (Q' : Option (Value × Nat) → Shared → Prop) (E' : Value → Shared → Prop), Q' r s → wpAny (model prog w) A.in1 (setNext a slot i ep) Q' E' s)
    (h1 : ∀ x nx h', r = some (x, nx) → SIt h' I a (.int nx 0) (i + 1) n ep → Heap.SameBut I s.heap h' → Q (some x) { s with heap := h' })
    (h0 : ∀ h', r = none → Heap.ExtBut I s.heap h' → Q none { s with heap := h' }) : wpAny (model prog w) A (pyNext (.ref I)) Q E s := by
  refine x13 (id hI) fun o ho hc hd => ?_
  refine x13 (id hS) fun oa hoa hda hf => ?_
  unfold pyNext
  refine wpAny_bind (wpAny_attempt (wpAny_callSpecial?_slot (name := Str.ofString "__next__") hI.type slot_seti_next9
    (wpAny_call_entry slot_seti_next9 hI.type entry_seti_next9 ?_ (args_seti_next9 _))))
  unfold Builtin.«set_iterator.__next__»
  refine wpAny_bind (wpAny_pure ?_)
  refine wpAny_bind (wpAny_fieldsOf ho hd ?_)
  dsimp only
  refine wpAny_bind (wpAny_setEntries_of hoa hda hf ?_)
  rw [if_neg (by simp [hn])]
  simp only [Int.toNat_natCast]
  refine wpAny_bind (hnx _ _ ?_)
  cases r with
  | some p =>
    obtain ⟨x, nx⟩ := p
    dsimp only
    refine wpAny_bind (wpAny_setField ho hd (by simp) ?_)
    have hg := Heap.get?_update_self (Obj.mapFields (·.setIfInBounds 0 (rawInt (nx : Int)))) ho (Obj.isFreed_of_fields (Obj.data_mapFields hd _))
    have hd2 := Obj.data_mapFields hd (·.setIfInBounds 0 (rawInt (nx : Int)))
    refine wpAny_bind (wpAny_setField hg hd2 (by simp) ?_)
    have hg2 := Heap.get?_update_self (Obj.mapFields (·.setIfInBounds 1 (rawInt ((i : Int) + 1)))) hg (Obj.isFreed_of_fields (Obj.data_mapFields hd2 _))
    refine wpAny_pure (i12 _ rfl (wpAny_pure (h1 x nx _ rfl ⟨_, hg2, (Obj.cls_mapFields ..).trans ((Obj.cls_mapFields ..).trans hc), ?_⟩ ((Heap.SameBut.update ..).trans (Heap.SameBut.update ..)))))
    rw [Obj.data_mapFields hd2]
    simp [rawInt]
  | none =>
    dsimp only
    refine wpAny_bind (wpAny_setField ho hd (by simp) ?_)
    show wpAny _ _ (newExc (.type "StopIteration") [] >>= _) _ _ _
    refine wpAny_bind ?_
    simp only [newExc, newTuple]
    refine wpAny_bind (wpAny_newObj_type ?_ (by size_fits))
    refine wpAny_bind (m := firstArgMember _ _) (wpAny_of_eq (a := Value.none) (by first | rfl | (simp only [firstArgMember]; rfl)) ?_)
    refine wpAny_newObj_type ?_ (by size_fits)
    simp only [raiseNew]
    refine wpAny_bind (wpAny_handled ?_)
    rw [show A.in1.handled = none from hh]
    refine wpAny_bind (wpAny_pure (wpAny_throw ?_))
    refine wpAny_bind (wpAny_isInstance (T := "StopIteration") (b := true) ⟨_, Heap.get?_push_size _ rfl, rfl⟩ isSubtype_stop ?_)
    exact wpAny_pure (h0 _ rfl (((Heap.SameBut.update ..).extBut.push _).push _))
theorem next_tup9 {I a T : Addr} {i n ep : Nat} {es : Array (Int × Value)} {t : SetTable} {oT : Obj} {ys : List Nat} {eT : Nat} {Q : Option Value → Shared → Prop} (hh : A.handled = none) (hI : SIt s.heap I a (.ref T) i n ep) (hS : SAt s.heap a es ep t) (hn : es.size = n)
    (hT : s.heap.get? T = some oT) (hTd : oT.data = .seq (ys.map fun (i : Nat) => rawInt i).toArray eT) (hys : ∀ y ∈ ys, y < es.size)
    (h1 : ∀ y x h', ys[i]? = some y → es[y]?.map (·.2) = some x → SIt h' I a (.ref T) (i + 1) n ep → Heap.SameBut I s.heap h' → Q (some x) { s with heap := h' })
    (h0 : ∀ h', ys[i]? = none → Heap.ExtBut I s.heap h' → Q none { s with heap := h' }) : wpAny (model prog w) A (pyNext (.ref I)) Q E s := by
  refine x13 (id hI) fun o ho hc hd => ?_
  refine x13 (id hS) fun oa hoa hda hf => ?_
  unfold pyNext
  refine wpAny_bind (wpAny_attempt (wpAny_callSpecial?_slot (name := Str.ofString "__next__") hI.type slot_seti_next9
    (wpAny_call_entry slot_seti_next9 hI.type entry_seti_next9 ?_ (args_seti_next9 _))))
  unfold Builtin.«set_iterator.__next__»
  refine wpAny_bind (wpAny_pure ?_)
  refine wpAny_bind (wpAny_fieldsOf ho hd ?_)
  dsimp only
  refine wpAny_bind (wpAny_setEntries_of hoa hda hf ?_)
  rw [if_neg (by simp [hn])]
  refine wpAny_bind ?_
  unfold seqItems?
  refine wpAny_bind (wpAny_load hT ?_)
  rw [hTd]
  refine wpAny_pure ?_
  dsimp only
  rw [Int.toNat_natCast, List.getElem?_toArray, List.getElem?_map]
  cases hy : ys[i]? with
  | some y =>
    have hlt := hys y (List.mem_of_getElem? hy)
    have hx : es[y]? = some es[y] := by simp [hlt]
    dsimp only [Option.map, rawInt]
    refine wpAny_bind ?_
    unfold setNextDrawn
    refine wpAny_bind (wpAny_setState_of hoa hda hf ?_)
    dsimp only
    rw [if_neg (by simp)]
    simp only [Int.toNat_natCast]
    rw [hx]
    dsimp only
    refine wpAny_pure ?_
    refine wpAny_bind (wpAny_setField ho hd (by simp) ?_)
    have hg2 := Heap.get?_update_self (Obj.mapFields (·.setIfInBounds 1 (rawInt ((i : Int) + 1)))) ho (Obj.isFreed_of_fields (Obj.data_mapFields hd _))
    refine wpAny_pure (i12 _ rfl (wpAny_pure (h1 y _ _ hy (by rw [hx]; rfl) ⟨_, hg2, (Obj.cls_mapFields ..).trans hc, ?_⟩ (Heap.SameBut.update ..))))
    rw [Obj.data_mapFields hd]
    simp [rawInt]
  | none =>
    dsimp only [Option.map]
    refine wpAny_bind (wpAny_setField ho hd (by simp) ?_)
    have hg := Heap.get?_update_self (Obj.mapFields (·.setIfInBounds 0 (rawInt 0))) ho (Obj.isFreed_of_fields (Obj.data_mapFields hd _))
    have hd2 := Obj.data_mapFields hd (·.setIfInBounds 0 (rawInt 0))
    refine wpAny_bind (wpAny_setField hg hd2 (by simp) ?_)
    show wpAny _ _ (newExc (.type "StopIteration") [] >>= _) _ _ _
    refine wpAny_bind ?_
    simp only [newExc, newTuple]
    refine wpAny_bind (wpAny_newObj_type ?_ (by size_fits))
    refine wpAny_bind (m := firstArgMember _ _) (wpAny_of_eq (a := Value.none) (by first | rfl | (simp only [firstArgMember]; rfl)) ?_)
    refine wpAny_newObj_type ?_ (by size_fits)
    simp only [raiseNew]
    refine wpAny_bind (wpAny_handled ?_)
    rw [show A.in1.handled = none from hh]
    refine wpAny_bind (wpAny_pure (wpAny_throw ?_))
    refine wpAny_bind (wpAny_isInstance (T := "StopIteration") (b := true) ⟨_, Heap.get?_push_size _ rfl, rfl⟩ isSubtype_stop ?_)
    exact wpAny_pure (h0 _ hy ((((Heap.SameBut.update ..).trans (Heap.SameBut.update ..)).extBut.push _).push _))
end
end Mine
end
section
open PySem PySem.W PyProof.Rows PySem.Spec
set_option tactic.hygienic false
set_option maxHeartbeats 4000000
namespace Mine
theorem pick_go {α : Type} (next : Nat → Nat) : ∀ (fuel k : Nat) (left : List α) (out : Array α), fuel = left.length → (pickOrder.go next fuel k left out).toList.Perm (out.toList ++ left)
  | 0, k, left, out, h => by
    have : left = [] := List.length_eq_zero_iff.mp h.symm
    subst this
    show out.toList.Perm (out.toList ++ [])
    rw [List.append_nil]
  | fuel + 1, k, left, out, h => by
    have hlt : next k % left.length < left.length := Nat.mod_lt _ (by omega)
    have e : left[next k % left.length]? = some left[next k % left.length] := List.getElem?_eq_getElem hlt
    have e3 : pickOrder.go next (fuel + 1) k left out = pickOrder.go next fuel (k + 1) (left.eraseIdx (next k % left.length)) (out.push left[next k % left.length]) := by
      show (match left[next k % left.length]? with
        | some x => pickOrder.go next fuel (k + 1) (left.eraseIdx (next k % left.length)) (out.push x)
        | none => out) = _
      rw [e]
    rw [e3]
    refine (pick_go next fuel (k + 1) (left.eraseIdx (next k % left.length)) _ (by rw [List.length_eraseIdx_of_lt hlt]; omega)).trans ?_
    rw [Array.toList_push, List.append_assoc]
    refine List.Perm.append_left _ ?_
    rw [List.eraseIdx_eq_take_drop_succ, List.singleton_append]
    have e2 : left = left.take (next k % left.length) ++ left[next k % left.length] :: left.drop (next k % left.length + 1) := by
      rw [← List.drop_eq_getElem_cons hlt, List.take_append_drop]
    conv => rhs; rw [e2]
    exact List.perm_middle.symm
theorem pick_perm {α : Type} (next : Nat → Nat) (xs : Array α) : (pickOrder next xs).toList.Perm xs.toList := by
  exact pick_go next xs.size 0 xs.toList #[] (by simp)
section
variable {prog : Program} {w : World} {A : Around} {E : Value → Shared → Prop} {s : Shared}
theorem byText9 {Q : Bool → Shared → Prop} (h : Q (w.params.followText "set-order") s) : wpAny (model prog w) A setsByText Q E s := by
  unfold setsByText
  exact wpAny_bind (wpAny_askSetting (wpAny_pure h))
theorem setNext_text {a : Addr} {slot i ep : Nat} {es : Array (Int × Value)} {t : SetTable} (hS : SAt s.heap a es ep t) (hb : w.params.followText "set-order" = true) {Q : Option (Value × Nat) → Shared → Prop}
    (h : Q (((pickOrder (w.params.setOrder a ep) es)[i]?).map fun e => (e.2, slot)) s) : wpAny (model prog w) A (setNext a slot i ep) Q E s := by
  refine x13 hS fun o ho hd hf => ?_
  try clear hS
  unfold setNext
  refine wpAny_bind (wpAny_setState_of ho hd hf ?_)
  dsimp only
  refine wpAny_bind (byText9 ?_)
  rw [if_pos hb]
  rw [if_neg (by simp)]
  refine wpAny_bind ?_
  unfold setWalk
  refine wpAny_bind (wpAny_setState_of ho hd hf ?_)
  dsimp only
  refine wpAny_bind (byText9 ?_)
  rw [if_pos hb]
  refine wpAny_bind (wpAny_askSetting ?_)
  exact wpAny_pure (wpAny_pure h)
theorem setNext_small {a : Addr} {slot i ep : Nat} {es : Array (Int × Value)} {t : SetTable} (hS : SAt s.heap a es ep t) (hb : w.params.followText "set-order" = false) (h1 : es.size ≤ 1) (hl : t.led = true) {Q : Option (Value × Nat) → Shared → Prop}
    (h : Q (match es[SetTable.below t.place slot]?, t.place[SetTable.below t.place slot]? with | some (_, x), some j => some (x, j + 1) | _, _ => none) s) : wpAny (model prog w) A (setNext a slot i ep) Q E s := by
  refine x13 hS fun o ho hd hf => ?_
  try clear hS
  unfold setNext
  refine wpAny_bind (wpAny_setState_of ho hd hf ?_)
  dsimp only
  refine wpAny_bind (byText9 ?_)
  rw [if_neg (by rw [hb]; exact Bool.false_ne_true)]
  rw [if_neg (by
    show ¬ ((!t.plain && decide (es.size > 1)) = true)
    simp; intro _; omega)]
  refine wpAny_bind ?_
  show wpAny _ _ (if (!t.led && !es.isEmpty) = true then unsupported "set:maker-not-led" else pure ()) _ _ _
  rw [if_neg (by rw [hl]; simp)]
  exact wpAny_pure (wpAny_pure h)
end
theorem below_none {slot : Nat} {es : Array (Int × Value)} (h : es.size = 0) {p : Array Nat} : es[SetTable.below p slot]? = none := by
  rw [Array.getElem?_eq_none]; omega
theorem below_one {p : Nat} : SetTable.below #[p] 0 = 0 ∧ SetTable.below #[p] (p + 1) = 1 := by
  constructor <;> simp [SetTable.below, SetTable.below.go]
end Mine
end
section
open PySem PySem.W PyProof.Rows PySem.Spec
set_option tactic.hygienic false
set_option maxHeartbeats 4000000
namespace Mine
theorem slot_seti_iter9 : Slot "set_iterator" "__iter__" "set_iterator.__iter__" :=
  .of (owner := "set_iterator") (n := "__iter__") (by rw [typeLookup_type, builtinLookup_eq_fast]; kernel_rfl) (by decide +kernel) (by decide +kernel) (by decide +kernel)
    (by first | exact .inl (by decide +kernel) | exact .inr (by decide +kernel)) (by rw [isSubtype_type]; kernel_rfl)
theorem entry_seti_iter9 : entryFor table "set_iterator.__iter__" = some Builtin.«dict_keyiterator.__iter__» :=
  entryFor_alias (id' := "dict_keyiterator.__iter__") (by kernel_rfl) rfl (by decide +kernel) (by kernel_rfl)
theorem args_seti_iter9 (a : Value) : argsOk "set_iterator.__iter__" ⟨[a], []⟩ := by
  unfold argsOk; rw [signature?_of (id := "set_iterator.__iter__") (n := ['_', '_', 'r', 'e', 't', 'i', '_', '_']) (o := ['r', 'o', 't', 'a', 'r', 'e', 't', 'i', '_', 't', 'e', 's']) (by kernel_rfl) owner_seti9]; kernel_rfl
theorem SIt.at' {h h' : Heap} {I a : Addr} {first : Value} {i n ep : Nat} (x : SIt h I a first i n ep) (e : ∀ o, h.get? I = some o → h'.get? I = some o) : SIt h' I a first i n ep := let ⟨o, ho, r⟩ := x; ⟨o, e _ ho, r⟩
theorem SAt.at' {h h' : Heap} {a : Addr} {es : Array (Int × Value)} {ep : Nat} {t : SetTable} (x : SAt h a es ep t) (e : ∀ o, h.get? a = some o → h'.get? a = some o) : SAt h' a es ep t := let ⟨o, ho, r⟩ := x; ⟨o, e _ ho, r⟩
section
variable {prog : Program} {w : World} {A : Around} {E : Value → Shared → Prop} {s : Shared}
theorem pyIter_self9 {I a : Addr} {first : Value} {i n ep : Nat} {Q : Value → Shared → Prop} (hit : SIt s.heap I a first i n ep) (h : Q (.ref I) s) : wpAny (model prog w) A (pyIter (.ref I)) Q E s := by
  refine wpAny_pyIter_slot hit.type slot_seti_iter9 (wpAny_call_entry slot_seti_iter9 hit.type entry_seti_iter9 ?_ (args_seti_iter9 _))
  show wpAny _ _ (ret (.ref I)) _ _ s
  exact wpAny_pure ⟨_, rfl, "set_iterator", _, hit.type, slot_seti_next9.lookup, h⟩
theorem walks_text (hh : A.handled = none) (I a : Addr) (hne : a ≠ I) (hb : w.params.followText "set-order" = true) (es : Array (Int × Value)) (ep : Nat) (t : SetTable) :
    Walks prog w A I [I, a] [I] es.size (fun i v => ((pickOrder (w.params.setOrder a ep) es).toList.map (·.2))[i]? = some v) (fun i h => SIt h I a (.int ((0 : Nat) : Int) 0) i es.size ep ∧ SAt h a es ep t) where
  sub := fun b hb => by simp at hb; simp [hb]
  frame := fun _ _ _ st hk => ⟨st.1.at' fun o e => hk I (by simp) o e, st.2.at' fun o e => hk a (by simp) o e⟩
  item := fun i s Q E hi st hQ => by
    have hsz : (pickOrder (w.params.setOrder a ep) es).size = es.size := by
      have := (pick_perm (w.params.setOrder a ep) es).length_eq
      simpa using this
    refine next_int9 hh st.1 st.2 rfl (fun Q' E' hq => setNext_text st.2 hb hq) (fun x nx h' e hit hs => ?_) fun h' e _ => ?_
    · rw [Option.map_eq_some_iff] at e
      refine x12 e fun p e1 e2 => ?_
      try clear e
      cases e2
      exact hQ p.2 h' s.toks (by rw [List.getElem?_map, Array.getElem?_toList, e1]; rfl) ⟨hit, st.2.at' fun o e => hs.extBut a o hne e⟩ fun b o hb e => hs.extBut b o (fun h => hb (by simp [h])) e
    · rw [Option.map_eq_none_iff, Array.getElem?_eq_none_iff] at e
      omega
  done := fun s Q E st hQ => by
    have hsz : (pickOrder (w.params.setOrder a ep) es).size = es.size := by
      have := (pick_perm (w.params.setOrder a ep) es).length_eq
      simpa using this
    refine next_int9 hh st.1 st.2 rfl (fun Q' E' hq => setNext_text st.2 hb hq) (fun x nx h' e hit hs => ?_) fun h' e he => hQ h' s.toks fun b o hb e => he b o (fun h => hb (by simp [h])) e
    rw [Array.getElem?_eq_none (by omega)] at e; cases e
  self := fun _ _ _ _ st hQ => pyIter_self9 st.1 hQ
theorem walks_small (hh : A.handled = none) (I a : Addr) (hne : a ≠ I) (hb : w.params.followText "set-order" = false) (es : Array (Int × Value)) (ep : Nat) (t : SetTable) (h1 : es.size ≤ 1) (hl : t.led = true) (hf : t.fits es.size = true) :
    Walks prog w A I [I, a] [I] es.size (fun i v => (es.toList.map (·.2))[i]? = some v)
      (fun i h => (∃ slot : Nat, SIt h I a (.int (slot : Int) 0) i es.size ep ∧ (i = 0 → slot = 0) ∧ (i = 1 → ∃ p, t.place = #[p] ∧ slot = p + 1)) ∧ SAt h a es ep t) where
  sub := fun b hb => by simp at hb; simp [hb]
  frame := fun _ _ _ st hk => ⟨let ⟨sl, x, r⟩ := st.1; ⟨sl, x.at' fun o e => hk I (by simp) o e, r⟩, st.2.at' fun o e => hk a (by simp) o e⟩
  item := fun i s Q E hi st hQ => by
    refine x02 st fun j91 hS => ?_
    try clear st
    refine x13 j91 fun sl hit h0 _ => ?_
    try clear j91
    have hes : es.size = 1 := by omega
    have hi0 : i = 0 := by omega
    subst hi0
    obtain rfl := h0 rfl
    have hp : t.place.size = 1 := by
      simp only [SetTable.fits, Bool.and_eq_true, beq_iff_eq] at hf
      omega
    refine x11 (Array.size_eq_one_iff.mp hp) fun p hpl => ?_
    have hx : es[0]? = some es[0] := by simp [hes]
    refine next_int9 hh hit hS rfl (fun Q' E' hq => setNext_small hS hb h1 hl hq) (fun x nx h' e hit' hs => ?_) fun h' e _ => ?_
    · rw [hpl, below_one.1, hx] at e
      simp only [List.getElem?_toArray, List.getElem?_cons_zero, Option.some.injEq, Prod.mk.injEq] at e
      refine x02 e fun e1 e2 => ?_
      try clear e
      refine hQ x h' s.toks (by rw [List.getElem?_map, Array.getElem?_toList, hx, ← e1]; rfl) ⟨⟨nx, hit', fun h => by omega, fun _ => ⟨p, hpl, e2.symm⟩⟩, hS.at' fun o e => hs.extBut a o hne e⟩ fun b o hb e => hs.extBut b o (fun h => hb (by simp [h])) e
    · rw [hpl, below_one.1, hx] at e
      simp at e
  done := fun s Q E st hQ => by
    refine x02 st fun j92 hS => ?_
    try clear st
    refine x13 j92 fun sl hit h0 hi1 => ?_
    try clear j92
    refine next_int9 hh hit hS rfl (fun Q' E' hq => setNext_small hS hb h1 hl hq) (fun x nx h' e hit' hs => ?_) fun h' e he => hQ h' s.toks fun b o hb e => he b o (fun h => hb (by simp [h])) e
    have hn : es[SetTable.below t.place sl]? = none := by
      by_cases hz : es.size = 0
      · exact below_none hz
      · refine x12 (hi1 (by omega)) fun p hpl e93 => ?_
        obtain rfl := e93
        rw [hpl, below_one.2, Array.getElem?_eq_none (by omega)]
    rw [hn] at e
    simp at e
  self := fun _ _ _ _ st hQ => by
    refine x02 st fun j94 _ => ?_
    try clear st
    refine x12 j94 fun sl hit _ => ?_
    try clear j94
    exact pyIter_self9 hit hQ
noncomputable def ordT (es : Array (Int × Value)) (ys : List Nat) : List Value := ys.map fun y => (es[y]?.map (·.2)).getD .none
theorem walks_drawn (hh : A.handled = none) (I a T : Addr) (hne : a ≠ I) (hTI : T ≠ I) (es : Array (Int × Value)) (ep : Nat) (t : SetTable) (ys : List Nat) (hys : ys.Perm (List.range es.size)) :
    Walks prog w A I [I, a, T] [I] es.size (fun i v => (ordT es ys)[i]? = some v)
      (fun i h => SIt h I a (.ref T) i es.size ep ∧ SAt h a es ep t ∧ h.get? T = some { cls := .type "tuple", data := .seq (ys.map fun (i : Nat) => rawInt i).toArray }) where
  sub := fun b hb => by simp at hb; simp [hb]
  frame := fun _ _ _ st hk => ⟨st.1.at' fun o e => hk I (by simp) o e, st.2.1.at' fun o e => hk a (by simp) o e, hk T (by simp) _ st.2.2⟩
  item := fun i s Q E hi st hQ => by
    refine next_tup9 hh st.1 st.2.1 rfl st.2.2 rfl (fun y hy => List.mem_range.mp (hys.mem_iff.mp hy)) (fun y x h' e1 e2 hit hs => ?_) fun h' e _ => ?_
    · refine hQ x h' s.toks (by unfold ordT; rw [List.getElem?_map, e1]; simp only [Option.map_some, e2, Option.getD_some]) ⟨hit, st.2.1.at' fun o e => hs.extBut a o hne e, hs.extBut T _ hTI st.2.2⟩ fun b o hb e => hs.extBut b o (fun h => hb (by simp [h])) e
    · rw [List.getElem?_eq_none_iff, hys.length_eq, List.length_range] at e
      omega
  done := fun s Q E st hQ => by
    refine next_tup9 hh st.1 st.2.1 rfl st.2.2 rfl (fun y hy => List.mem_range.mp (hys.mem_iff.mp hy)) (fun y x h' e1 e2 hit hs => ?_) fun h' e he => hQ h' s.toks fun b o hb e => he b o (fun h => hb (by simp [h])) e
    rw [List.getElem?_eq_none (by rw [hys.length_eq, List.length_range]; exact Nat.le_refl _)] at e1; cases e1
  self := fun _ _ _ _ st hQ => pyIter_self9 st.1 hQ
end
theorem range_ord (es : Array (Int × Value)) : ordT es (List.range es.size) = es.toList.map (·.2) := by
  apply List.ext_getElem?
  intro j
  unfold ordT
  rw [List.getElem?_map, List.getElem?_map]
  have e2 : es.toList[j]? = es[j]? := Array.getElem?_toList
  rw [e2]
  by_cases h : j < es.size
  · rw [List.getElem?_range h]
    simp [h]
  · rw [List.getElem?_eq_none (l := List.range es.size) (by rw [List.length_range]; omega), Array.getElem?_eq_none (by omega)]; rfl
theorem ordT_perm {es : Array (Int × Value)} {ys : List Nat} (hys : ys.Perm (List.range es.size)) : (ordT es ys).Perm (es.toList.map (·.2)) := by
  rw [← range_ord]; exact hys.map _
end Mine
end
section
open PySem PySem.W PyProof.Rows PySem.Spec PySem.Calls
set_option tactic.hygienic false
set_option maxHeartbeats 4000000
namespace Mine
theorem cps_inj {a b : Str} (h : a.cps.toList = b.cps.toList) : a = b := by
  obtain ⟨x⟩ := a
  obtain ⟨y⟩ := b
  congr
  exact Array.toList_inj.mp h
theorem sortedS_pair : ∀ {l : List Str}, sortedS l = true → l.Pairwise (fun a b => ltCps b.cps.toList a.cps.toList = false)
  | [], _ => .nil
  | x :: r, h => by
    have key : ∀ (r : List Str) (p : Str), risingS p r = true → (p :: r).Pairwise (fun a b => ltCps b.cps.toList a.cps.toList = false) := by
      intro r
      induction r with
      | nil => intro p _; simp
      | cons y t ih =>
        intro p hp
        simp only [risingS, Bool.and_eq_true, Bool.not_eq_true'] at hp
        have h1 := ih y hp.2
        refine List.pairwise_cons.mpr ⟨fun z hz => ?_, h1⟩
        rcases List.mem_cons.mp hz with rfl | hz
        · exact hp.1
        · have h2 := (List.pairwise_cons.mp h1).1 z hz
          have h3 := hp.1
          rw [ltCps_eq, decide_eq_false_iff_not] at h2 h3 ⊢
          exact fun hh => h3 (Std.lt_of_le_of_lt (Std.not_lt.mp h2) hh)
    exact key r x h
theorem sorted_unique : ∀ {a b : List Str}, a.Perm b → sortedS a = true → sortedS b = true → a = b := by
  intro a b p ha hb
  refine List.Perm.eq_of_pairwise (le := fun a b => ltCps b.cps.toList a.cps.toList = false) ?_ (sortedS_pair ha) (sortedS_pair hb) p
  intro x y _ _ h1 h2
  rw [ltCps_eq, decide_eq_false_iff_not] at h1 h2
  exact cps_inj (Std.le_antisymm (Std.not_lt.mp h1) (Std.not_lt.mp h2))
section
variable {prog : Program} {w : World} {A : Around} {E : Value → Shared → Prop} {s : Shared} {h₀ : Heap} {L : Addr} {m : Str → Option Value} {news : List (Addr × Obj)}
noncomputable def SrtOf (vs : List Value) (ks : List Str) : Prop := ∃ ss, StrsAre vs ss ∧ ss.Perm ks ∧ sortedS ss = true
theorem sort_led {D : Addr} {vs : List Value} {ss : List Str} {n : Nat} {Q : Value → Shared → Prop} (F : Fr h₀ L s.heap m) (N : News h₀ L s.heap ((D, listOf vs.toArray n) :: news)) (off : ∀ p ∈ news, p.1 ≠ D) (hS : StrsAre vs ss) (h64 : vs.length < 64)
    (h : ∀ h' vs' n', Fr h₀ L h' m → News h₀ L h' ((D, listOf vs'.toArray n') :: news) → SrtOf vs' ss → Q .none { s with heap := h' }) : wpAny (model prog w) A (call (.builtin "list.sort") [.ref D]) Q E s := by
  have z := N _ (List.mem_cons_self ..)
  have ho : s.heap.get? D = some (seqObj "list" vs.toArray n) := z.1
  refine wpAny_call_entry PyProof.Rows.slot_list_sort ⟨_, ho, rfl⟩ PyProof.Rows.entry_list_sort
    (list_sort_treeK strKind_oneLt ho hS.keysOf (fun v₁ v₂ rest e => keyKind_strs (by rw [← e]; exact hS)) h64 fun st' hp hs => ⟨.none, rfl, ?_⟩) (PyProof.Rows.args_list_sort _)
  refine x13 (sorted_out_str hS hp hs) fun ss' h1 h2 h3 => ?_
  refine x11 (sortedHeap_at (out := (arrOf st').map (·.2)) ho) fun e he => ?_
  have old : ∀ b o, b ≠ D → s.heap.get? b = some o → (sortedHeap s.heap D vs ((arrOf st').map (·.2))).get? b = some o := fun b o hb eo => by
    rw [sortedHeap_old hb (Heap.lt_size eo)]; exact eo
  refine h _ ((arrOf st').map (·.2)).toList e ⟨F.ns.at' fun o eo => old L o z.2.1.symm eo, fun b o eo => old b o (fun q => by rw [q, z.2.2] at eo; cases eo) (F.keep b o eo), F.above⟩ (fun p hp => ?_) ⟨ss', h1, h2, h3⟩
  rcases List.mem_cons.mp hp with rfl | hp
  · refine ⟨?_, z.2⟩
    rw [Array.toArray_toList]
    exact he
  · have y := N p (List.mem_cons_of_mem _ hp)
    exact ⟨old _ _ (off p hp) y.1, y.2⟩
theorem strs_of_get : ∀ {vs : List Value} {f : Nat → Str}, (∀ (j : Nat) (v : Value), vs[j]? = some v → ∃ t, v = Value.str (f j) t) → StrsAre vs ((List.range vs.length).map f)
  | [], _, _ => .nil
  | v :: vs, f, h => by
    refine x11 (h 0 v rfl) fun t e91 => ?_
    obtain rfl := e91
    rw [List.length_cons, List.range_succ_eq_map, List.map_cons, List.map_map]
    exact .cons _ _ (strs_of_get (f := fun j => f (j + 1)) fun j v hv => h (j + 1) v (by simpa using hv))
theorem sorted_dict9 {d : Addr} {o : Obj} {kvs : List (Str × Value)} {Q : Value → Shared → Prop} (hh : A.handled = none) (F : Fr h₀ L s.heap m) (N : News h₀ L s.heap news) (hm : (d, o) ∈ news) (ho : o.IsDictOf (PySem.strKind prog w) kvs) (lo : (d == sysModules) = false) (h64 : kvs.length < 64)
    (h : ∀ D h' tk vs n, Fr h₀ L h' m → News h₀ L h' ((D, listOf vs.toArray n) :: news) → (∀ q ∈ news, q.1 < D) → SrtOf vs (kvs.map (·.1)) → Q (.ref D) { s with heap := h', toks := tk }) :
    wpAny (model prog w) A (call (.builtin "sorted") [.ref d]) Q E s := by
  have hD : s.heap.DictOf (PySem.strKind prog w) d kvs := Heap.dictOf_iff.mpr ⟨o, (N _ hm).1, ho⟩
  refine x11 hD.dictAt fun ep hat => ?_
  refine kdu_sorted (kdl_dict (knd := PySem.strKind prog w) (kvs := kvs) (ep := ep) lo) hh F N hat (by rw [sizeLine_eq]; omega) fun B h' tk vs F' N' l1 hl hv => ?_
  have hS := strs_of_get (vs := vs) (f := fun j => (kvs.map (·.1)).getD j (Str.ofString "")) fun j v hj => by
    refine x22 (hv j v hj) fun k x hx hk => ?_
    refine x11 (Value.isStrOf_shape hk) fun t e92 => ?_
    obtain rfl := e92
    exact ⟨t, by simp [List.getD, hx]⟩
  have e : (List.range vs.length).map (fun j => (kvs.map (·.1)).getD j (Str.ofString "")) = kvs.map (·.1) := by
    rw [hl]
    apply List.ext_getElem?
    intro j
    by_cases hj : j < kvs.length
    · rw [List.getElem?_map, List.getElem?_range hj]
      simp [List.getD, hj]
    · rw [List.getElem?_eq_none (by simp; omega), List.getElem?_eq_none (by simp; omega)]
  rw [e] at hS
  refine sort_led (s := { s with heap := h', toks := tk }) F' N' (fun q hq => Nat.ne_of_lt (l1 q hq)) hS (by omega) fun h'' vs' n' F'' N'' hs => ?_
  exact h B h'' tk vs' n' F'' N'' l1 hs
end
end Mine
end
section
open PySem PySem.W PyProof.Rows PySem.Spec PySem.Calls
set_option tactic.hygienic false
set_option maxHeartbeats 4000000
namespace Mine
section
variable {prog : Program} {w : World} {A : Around} {E : Value → Shared → Prop} {s : Shared}
theorem ext_tail {q : Bool} {R : Result → Shared → Prop} {I a S : Addr} {fp : List Addr} {n : Nat} {P : Nat → Value → Prop} {St : Nat → Heap → Prop} (W : Walks prog w A.in1 I fp [I] n P St) (hn : n ≤ sizeLine) (hSf : S ∉ fp) (res : Value) (c₀ : Nat) (hT : s.TypeIs (.ref a) "set") (st : St 0 s.heap)
    (hS : s.heap.get? S = some { cls := .type "list", data := .seq #[] c₀ })
    (hR : ∀ h' tk acc' c', (∀ b o, b ≠ S → b ≠ I → s.heap.get? b = some o → h'.get? b = some o) → h'.get? S = some { cls := .type "list", dict := none, data := .seq acc' c', slots := #[] } → ItemsOf P acc' n → R (.ok (.ret res)) { s with heap := h', toks := tk }) :
    wpAny (model prog w) A.in1 (do
        let room ← holding [.ref I] (Builtin.List.listLengthHint (.ref a))
        if (room || q) = true then do
          rule "list.extend.makes-room"
          Builtin.List.listTouch (.ref S)
          again (.builtin "list.extend.loop" ⟨[.ref S, .ref I, res], []⟩)
        else again (.builtin "list.extend.loop" ⟨[.ref S, .ref I, res], []⟩))
      (fun fin s' => match fin with | .done f => R (.ok f) s' | .again c' => c'.quiet = true ∧ codeAny (model prog w) A c' R s') (fun e s' => R (.error e) s') s := by
  have key : ∀ (h : Heap) (c₁ tk : Nat), St 0 h → (∀ b o, b ≠ S → s.heap.get? b = some o → h.get? b = some o) →
      h.get? S = some { cls := .type "list", data := .seq #[] c₁ } → codeAny (model prog w) A (.builtin "list.extend.loop" ⟨[.ref S, .ref I, res], []⟩) R { s with heap := h, toks := tk } := by
    intro h c₁ tk hst hk hS₁
    refine codeAny_extend_loopS W.toS hn S hSf res n 0 _ #[] c₁ rfl (Nat.zero_le _) hst hS₁ (ItemsOf.nil _) fun s' acc' c' hm hS' hacc => ?_
    rw [Moved.eq_with hm]
    refine hR s'.heap s'.toks acc' c' (fun b o hb hb2 e => hm.heap b o (fun hmem => ?_) (hk b o hb e)) hS' hacc
    rcases List.mem_cons.mp hmem with e' | hmem
    · exact hb e'
    · exact hb2 (List.mem_singleton.mp hmem)
  refine wpAny_bind (wpAny_holding (hint_set9 hT ?_))
  refine wpAny_ite_split (fun _ => ?_) (fun _ => wpAny_pure ⟨plainId_quiet PySem.F.plain_extend_loop _, key _ c₀ _ st (fun b o _ e => e) hS⟩)
  refine wpAny_bind (wpAny_rule ?_)
  refine wpAny_bind ?_
  show wpAny _ _ (updateSeq S (·.push .none) >>= fun _ => updateSeq S (·.pop)) _ _ _
  refine wpAny_bind (wpAny_updateSeq hS rfl ?_)
  have hS₂ := Heap.get?_update_self (Obj.mapSeq (·.push Value.none)) hS rfl
  refine wpAny_updateSeq (hz := by seq_fits) hS₂ rfl ?_
  have hS₃ := Heap.get?_update_self (Obj.mapSeq (·.pop)) hS₂ rfl
  refine wpAny_pure ⟨plainId_quiet PySem.F.plain_extend_loop _, key _ _ _ ?_ (fun b o hb e => ?_) hS₃⟩
  · refine W.frame 0 _ _ st fun b hb o e => ?_
    have hbS : b ≠ S := fun h => hSf (h ▸ hb)
    exact (Heap.get?_update_other _ _ (Ne.symm hbS)).trans ((Heap.get?_update_other _ _ (Ne.symm hbS)).trans e)
  · exact (Heap.get?_update_other _ _ (Ne.symm hb)).trans ((Heap.get?_update_other _ _ (Ne.symm hb)).trans e)
theorem items_eq {ord : List Value} {acc : Array Value} (h : ItemsOf (fun i v => ord[i]? = some v) acc ord.length) : acc.toList = ord := by
  apply List.ext_getElem?
  intro j
  by_cases hj : j < ord.length
  · have hj2 : j < acc.size := by rw [h.1]; exact hj
    have e : acc[j]? = some acc[j] := by simp [hj2]
    rw [Array.getElem?_toList, e]
    exact (h.2 j _ e).symm
  · rw [Array.getElem?_toList, Array.getElem?_eq_none (by rw [h.1]; omega), List.getElem?_eq_none (by omega)]
noncomputable def ValsOf (es : Array (Int × Value)) (vs : List Value) : Prop := vs.Perm (es.toList.map (·.2))
theorem set_extend {R : Result → Shared → Prop} {a S : Addr} {es : Array (Int × Value)} {ep : Nat} {t : SetTable} (hh : A.handled = none) (hSA : SAt s.heap a es ep t) (hT : s.TypeIs (.ref a) "set") (hl : t.led = ledB w) (hf : t.fits es.size = true) (hp : es.size ≠ 0 → t.plain = false) (hz : es.size < scanBound)
    (hSa : S ≠ a) (res : Value) (c₀ : Nat) (hS : s.heap.get? S = some { cls := .type "list", data := .seq #[] c₀ })
    (hR : ∀ h' tk d acc' c', (∀ b o, b ≠ S → s.heap.get? b = some o → h'.get? b = some o) → h'.get? S = some { cls := .type "list", dict := none, data := .seq acc' c', slots := #[] } → ValsOf es acc'.toList → R (.ok (.ret res)) { s with heap := h', toks := tk, drawn := d }) :
    wpAny (model prog w) A.in1 (Builtin.List.listExtendWith (.ref S) (.ref a) res)
      (fun fin s' => match fin with | .done f => R (.ok f) s' | .again c' => c'.quiet = true ∧ codeAny (model prog w) A c' R s') (fun e s' => R (.error e) s') s := by
  have hlt : a < s.heap.objs.size := let ⟨_, ho, _⟩ := hSA; Heap.lt_size ho
  have hSlt : S < s.heap.objs.size := Heap.lt_size hS
  have hn := fits_of_scanBound hz
  unfold Builtin.List.listExtendWith
  refine wpAny_bind (wpAny_typeOf (T := "set") hT ?_)
  have h1 : Builtin.List.listSameRef (.ref S) (.ref a) = false := by simp [Builtin.List.listSameRef, hSa]
  have h2 : (Value.type "set" == Value.type "list") = false := by decide
  have h3 : (Value.type "set" == Value.type "tuple") = false := by decide
  simp only [h1, h2, h3, Bool.or_false, Bool.false_eq_true, if_false]
  refine wpAny_bind (pyIter_set9 hT hSA (fun hc => ?_) (fun ys d hy => ?_) (fun _ h1 => hp (by omega)) hz)
  · have up : ∀ b o, s.heap.get? b = some o → (s.heap.push { cls := .type "set_iterator", data := .fields #[.int 0 0, .int 0 0, .ref a, .int es.size 0, .int ep 0] }).get? b = some o := fun b o e => Heap.get?_push_of_some _ e
    have hIt : SIt (s.heap.push { cls := .type "set_iterator", data := .fields #[.int 0 0, .int 0 0, .ref a, .int es.size 0, .int ep 0] }) s.heap.objs.size a (.int ((0 : Nat) : Int) 0) 0 es.size ep := ⟨_, Heap.get?_push_size _ rfl, rfl, rfl⟩
    have hSA' := hSA.at' fun o e => up a o e
    have hT' : Shared.TypeIs { s with heap := s.heap.push { cls := .type "set_iterator", data := .fields #[.int 0 0, .int 0 0, .ref a, .int es.size 0, .int ep 0] } } (.ref a) "set" := let ⟨o, ho, hc⟩ := hT; ⟨o, up a o ho, hc⟩
    have hSf : S ∉ [s.heap.objs.size, a] := by
      simp only [List.mem_cons, List.not_mem_nil, or_false, not_or]; exact ⟨Nat.ne_of_lt hSlt, hSa⟩
    by_cases hb : w.params.followText "set-order" = true
    · refine ext_tail (walks_text (A := A.in1) hh s.heap.objs.size a (Nat.ne_of_lt hlt) hb es ep t) hn hSf res c₀ hT' ⟨hIt, hSA'⟩ (up S _ hS) fun h' tk acc' c' keep hS' hacc => ?_
      refine hR h' tk s.drawn acc' c' (fun b o hb e => keep b o hb (fun q => by rw [q] at e; exact absurd (Heap.lt_size e) (Nat.lt_irrefl _)) (up b o e)) hS' ?_
      have hpm := (pick_perm (w.params.setOrder a ep) es).map (·.2)
      have hle : ((pickOrder (w.params.setOrder a ep) es).toList.map (·.2)).length = es.size := by rw [hpm.length_eq, List.length_map, Array.length_toList]
      rw [← hle] at hacc
      unfold ValsOf
      rw [items_eq hacc]; exact hpm
    · have hb' : w.params.followText "set-order" = false := by simpa using hb
      have h1s : es.size ≤ 1 := hc.resolve_left hb
      refine ext_tail (walks_small (A := A.in1) hh s.heap.objs.size a (Nat.ne_of_lt hlt) hb' es ep t h1s (by rw [hl]; unfold ledB; rw [hb']; rfl) hf) hn hSf res c₀ hT' ⟨⟨0, hIt, fun _ => rfl, fun h => by omega⟩, hSA'⟩ (up S _ hS) fun h' tk acc' c' keep hS' hacc => ?_
      refine hR h' tk s.drawn acc' c' (fun b o hb e => keep b o hb (fun q => by rw [q] at e; exact absurd (Heap.lt_size e) (Nat.lt_irrefl _)) (up b o e)) hS' ?_
      have hle : (es.toList.map (·.2)).length = es.size := by rw [List.length_map, Array.length_toList]
      rw [← hle] at hacc
      unfold ValsOf
      rw [items_eq hacc]
  · have up : ∀ b o, s.heap.get? b = some o → ((s.heap.push { cls := .type "tuple", data := .seq (ys.map fun (i : Nat) => rawInt i).toArray }).push { cls := .type "set_iterator", data := .fields #[.ref s.heap.objs.size, .int 0 0, .ref a, .int es.size 0, .int ep 0] }).get? b = some o := fun b o e => Heap.get?_push_of_some _ (Heap.get?_push_of_some _ e)
    have hsz : (s.heap.push { cls := .type "tuple", data := .seq (ys.map fun (i : Nat) => rawInt i).toArray }).objs.size = s.heap.objs.size + 1 := Heap.size_push ..
    have hIt : SIt ((s.heap.push { cls := .type "tuple", data := .seq (ys.map fun (i : Nat) => rawInt i).toArray }).push { cls := .type "set_iterator", data := .fields #[.ref s.heap.objs.size, .int 0 0, .ref a, .int es.size 0, .int ep 0] }) (s.heap.objs.size + 1) a (.ref s.heap.objs.size) 0 es.size ep :=
      ⟨_, by rw [← hsz]; exact Heap.get?_push_size _ rfl, rfl, rfl⟩
    have hSA' := hSA.at' fun o e => up a o e
    have hT' : Shared.TypeIs { s with heap := ((s.heap.push { cls := .type "tuple", data := .seq (ys.map fun (i : Nat) => rawInt i).toArray }).push { cls := .type "set_iterator", data := .fields #[.ref s.heap.objs.size, .int 0 0, .ref a, .int es.size 0, .int ep 0] }), drawn := d } (.ref a) "set" := let ⟨o, ho, hc⟩ := hT; ⟨o, up a o ho, hc⟩
    have hTu : ((s.heap.push { cls := .type "tuple", data := .seq (ys.map fun (i : Nat) => rawInt i).toArray }).push { cls := .type "set_iterator", data := .fields #[.ref s.heap.objs.size, .int 0 0, .ref a, .int es.size 0, .int ep 0] }).get? s.heap.objs.size = some { cls := .type "tuple", data := .seq (ys.map fun (i : Nat) => rawInt i).toArray } := Heap.get?_push_of_some _ (Heap.get?_push_size _ rfl)
    have hSf : S ∉ [s.heap.objs.size + 1, a, s.heap.objs.size] := by
      simp only [List.mem_cons, List.not_mem_nil, or_false, not_or]; exact ⟨Nat.ne_of_lt (Nat.lt_succ_of_lt hSlt), hSa, Nat.ne_of_lt hSlt⟩
    refine ext_tail (walks_drawn (A := A.in1) hh (s.heap.objs.size + 1) a s.heap.objs.size (Nat.ne_of_lt (Nat.lt_succ_of_lt hlt)) (Nat.ne_of_lt (Nat.lt_succ_self _)) es ep t ys hy) hn hSf res c₀ hT' ⟨hIt, hSA', hTu⟩ (up S _ hS) fun h' tk acc' c' keep hS' hacc => ?_
    refine hR h' tk d acc' c' (fun b o hb e => keep b o hb (fun q => by rw [q] at e; exact absurd (Heap.lt_size e) (Nat.not_lt.mpr (Nat.le_succ _))) (up b o e)) hS' ?_
    have hle : (ordT es ys).length = es.size := by rw [(ordT_perm hy).length_eq, List.length_map, Array.length_toList]
    rw [← hle] at hacc
    unfold ValsOf
    rw [items_eq hacc]; exact ordT_perm hy
end
end Mine
end
section
open PySem PySem.W PyProof.Rows PySem.Spec PySem.Calls
set_option tactic.hygienic false
set_option maxHeartbeats 4000000
namespace Mine
section
variable {prog : Program} {w : World} {A : Around} {E : Value → Shared → Prop} {s : Shared} {h₀ : Heap} {L : Addr} {m : Str → Option Value} {news : List (Addr × Obj)}
noncomputable def SetOb (prog : Program) (w : World) (o : Obj) (ks : List Str) : Prop :=
  o.ExactSet ∧ ks.Nodup ∧ ∃ es ep t, o.data = .set es ep t ∧ ElemsOf (PySem.strKind prog w) es.toList ∧ t.fits es.size = true ∧ t.led = ledB w ∧ (es.size ≠ 0 → t.plain = false) ∧ (es.toList.map valStr).Perm ks
theorem set_made {l : Addr} {vs : List Value} {n : Nat} {ss : List Str} {Q : Value → Shared → Prop} (hh : A.handled = none) (F : Fr h₀ L s.heap m) (N : News h₀ L s.heap news) (hm : (l, listOf vs.toArray n) ∈ news) (hi : StrsAre vs ss) (hb : vs.length + 1 < scanBound)
    (h : ∀ a h' tk o ks, Fr h₀ L h' m → News h₀ L h' ((a, o) :: news) → (∀ q ∈ news, q.1 < a) → SetOb prog w o ks → (∀ x, x ∈ ks ↔ x ∈ ss) → Q (.ref a) { s with heap := h', toks := tk }) :
    wpAny (model prog w) A (call (.type "set") [.ref l]) Q E s := by
  have hl : s.heap.IsList l vs.toArray := ⟨_, (N _ hm).1, rfl, ⟨_, rfl⟩⟩
  refine call_set_strs hh hl hi hb fun h' tk ks hT hk keep => ?_
  refine x49 hT fun o es ep t ho hex hd hel hf hled hp hn hpm => ?_
  try clear hT
  have keep' : ∀ b o, s.heap.get? b = some o → h'.get? b = some o := fun b o e => keep b o (Heap.lt_size e) e
  refine h s.heap.objs.size h' tk o ks (F.keeps keep') (fun p hp => ?_) (fun q hq => Heap.lt_size (N q hq).1) ⟨hex, hn, es, ep, t, hd, hel, hf, hled, hp, hpm⟩ hk
  rcases List.mem_cons.mp hp with rfl | hp
  · refine x32 F.ns fun oL _ _ hL _ => ?_
    refine i03 ho (Nat.ne_of_gt (Heap.lt_size hL)) ?_
    rcases e : h₀.get? s.heap.objs.size with _ | o'
    · rfl
    · exact absurd (Heap.lt_size (F.keep _ _ e)) (Nat.lt_irrefl _)
  · exact ⟨keep' _ _ (N p hp).1, (N p hp).2⟩
theorem strs_of_els : ∀ {vs : List Value}, (∀ v ∈ vs, ∃ k t, v = Value.str k t) → StrsAre vs (vs.map fun v => valStr (0, v))
  | [], _ => .nil
  | v :: vs, h => by
    refine x21 (h v (List.mem_cons_self ..)) fun k t e91 => ?_
    obtain rfl := e91
    exact .cons k t (strs_of_els fun v hv => h v (List.mem_cons_of_mem _ hv))
theorem collect_set {a : Addr} {es : Array (Int × Value)} {ep : Nat} {t : SetTable} {R : List Value → Shared → Prop} (hh : A.handled = none) (hSA : SAt s.heap a es ep t) (hT : s.TypeIs (.ref a) "set") (hl : t.led = ledB w) (hf : t.fits es.size = true) (hp : es.size ≠ 0 → t.plain = false) (hz : es.size < scanBound)
    (h : ∀ (h' : Heap) (tk : Nat) (d : Drawn) (vs : List Value), (∀ b o, s.heap.get? b = some o → h'.get? b = some o) → ValsOf es vs → R vs { s with heap := h', toks := tk, drawn := d }) :
    wpAny (model prog w) A (collect (.ref a)) R E s := by
  have hlt : a < s.heap.objs.size := let ⟨_, ho, _⟩ := hSA; Heap.lt_size ho
  unfold collect
  refine wpAny_bind (wpAny_runValue (codeAny_builtin entry_proto_collect' ?_))
  rw [Around.under_plainId PySem.F.plain_proto_collect _]
  show wpAny _ A.in1 (newList [] >>= fun l => again (.builtin "list.__iadd__" ⟨[l, .ref a], []⟩)) _ _ s
  refine wpAny_bind (wpAny_newObj_type ?_)
  refine wpAny_pure ⟨plainId_quiet PySem.F.plain_list_iadd _, codeAny_builtin entry_list_iadd' ?_⟩
  rw [Around.under_plainId PySem.F.plain_list_iadd _]
  have hS₁ : (s.heap.push { cls := .type "list", data := .seq ([] : List Value).toArray }).get? s.heap.objs.size = some { cls := .type "list", data := .seq #[] } := Heap.get?_push_size _ rfl
  show wpAny _ A.in1 (Builtin.List.listExtendWith (.ref s.heap.objs.size) (.ref a) (.ref s.heap.objs.size)) _ _ _
  have key := set_extend (prog := prog) (w := w) (A := A) (s := { s with heap := s.heap.push { cls := .type "list", data := .seq ([] : List Value).toArray } })
    (R := fun (q : Result) (s' : Shared) => ∃ (h' : Heap) (tk : Nat) (d : Drawn) (acc' : Array Value) (c' : Nat), q = .ok (.ret (.ref s.heap.objs.size)) ∧ s' = { s with heap := h', toks := tk, drawn := d } ∧
      (∀ b o, s.heap.get? b = some o → h'.get? b = some o) ∧ h'.get? s.heap.objs.size = some { cls := .type "list", dict := none, data := .seq acc' c', slots := #[] } ∧ ValsOf es acc'.toList)
    hh (hSA.at' fun o e => Heap.get?_push_of_some _ e) (let ⟨o, ho, hc⟩ := hT; ⟨o, Heap.get?_push_of_some _ ho, hc⟩) hl hf hp hz (Nat.ne_of_gt hlt) (.ref s.heap.objs.size) 0 hS₁
    (fun h' tk d acc' c' hk hS' hacc => ⟨h', tk, d, acc', c', rfl, rfl, fun b o e => hk b o (Nat.ne_of_lt (Heap.lt_size e)) (Heap.get?_push_of_some _ e), hS', hacc⟩)
  refine wpAny_mono key (fun fin s' x => ?_) fun e s' x => ?_
  · cases fin with
    | done f =>
      refine x55 x fun h' tk d acc' c' e e92 hk hS' hacc => ?_
      try clear x
      obtain rfl := e92
      cases e
      show wpAny _ A (load s.heap.objs.size >>= _) _ _ _
      refine wpAny_bind (wpAny_load hS' ?_)
      exact wpAny_pure (h h' tk d acc'.toList hk hacc)
    | again c₁ =>
      refine ⟨x.1, codeAny_mono x.2 fun q s₂ y => ?_⟩
      refine x55 y fun h' tk d acc' c' e93 e94 hk hS' hacc => ?_
      try clear y
      obtain rfl := e93
      obtain rfl := e94
      show wpAny _ A (load s.heap.objs.size >>= _) _ _ _
      refine wpAny_bind (wpAny_load hS' ?_)
      exact wpAny_pure (h h' tk d acc'.toList hk hacc)
  · refine x52 x fun _ _ _ _ _ e' _ => ?_
    try clear x
    cases e'
theorem sorted_set9 {a : Addr} {o : Obj} {ks : List Str} {Q : Value → Shared → Prop} (hh : A.handled = none) (F : Fr h₀ L s.heap m) (N : News h₀ L s.heap news) (hm : (a, o) ∈ news) (ho : SetOb prog w o ks) (h64 : ks.length < 64)
    (h : ∀ D h' tk (d : Drawn) vs n, Fr h₀ L h' m → News h₀ L h' ((D, listOf vs.toArray n) :: news) → (∀ q ∈ news, q.1 < D) → SrtOf vs ks → Q (.ref D) { s with heap := h', toks := tk, drawn := d }) :
    wpAny (model prog w) A (call (.builtin "sorted") [.ref a]) Q E s := by
  obtain ⟨hex, hn, es, ep, t, hd, hel, hf, hled, hp, hpm⟩ := ho
  have hoa := (N _ hm).1
  have hlen : es.size = ks.length := by rw [← hpm.length_eq, List.length_map, Array.length_toList]
  have hz : es.size < scanBound := by have : 64 ≤ scanBound := by decide
                                      omega
  refine call_function_entry kind_sorted plain_sorted entry_sorted (args_sorted1 _) ?_
  unfold Builtin.«sorted»
  refine wpAny_bind (m := checkCount "sorted" 1 1 _) (wpAny_pure ?_)
  refine wpAny_bind (collect_set (A := A.in1) hh ⟨o, hoa, hd, hf⟩ ⟨o, hoa, hex.1⟩ hled hf hp hz fun h' tk d vs hk hv => ?_)
  have hl : vs.length = es.size := by rw [hv.length_eq, List.length_map, Array.length_toList]
  have hS : StrsAre vs (vs.map fun v => valStr (0, v)) := strs_of_els fun v hvm => by
    refine x12 (List.mem_map.mp (hv.mem_iff.mp hvm)) fun e he e95 => ?_
    obtain rfl := e95
    refine x02 (hel e he) fun j96 _ => ?_
    refine x12 j96 fun k hk _ => ?_
    try clear j96
    refine x11 (Value.isStrOf_shape hk) fun t ht => ?_
    exact i21 k t ht
  have hp2 : (vs.map fun v => valStr (0, v)).Perm ks := by
    refine ((hv.map _).trans ?_).trans hpm
    rw [List.map_map]
    exact .refl _
  refine wpAny_bind (wpAny_newList ?_ (by rw [hl, sizeLine_eq]; omega))
  have F' := (F.keeps hk).push { cls := .type "list", data := .seq vs.toArray }
  have N' := News.push (F.keeps hk) (fun p hp => ⟨hk _ _ (N p hp).1, (N p hp).2⟩) { cls := .type "list", data := .seq vs.toArray } rfl
  have l1 : ∀ q ∈ news, q.1 < h'.objs.size := fun q hq => Heap.lt_size (hk _ _ (N q hq).1)
  refine wpAny_bind (wpAny_holding (wpAny_mono (sort_led (A := A.in1) (n := 0) (s := { s with heap := h'.push { cls := .type "list", data := .seq vs.toArray }, toks := tk, drawn := d }) (Q := fun _ s' => Q (.ref h'.objs.size) s') F' N' (fun q hq => Nat.ne_of_lt (l1 q hq)) hS (by omega) fun h'' vs' n' F'' N'' hs => ?_) (fun _ s' x => ?_) fun _ _ e => e))
  · refine x13 hs fun ss' e1 e2 e3 => ?_
    try clear hs
    exact h h'.objs.size h'' tk d vs' n' F'' N'' l1 (i13 ss' e1 (e2.trans hp2) e3)
  · exact wpAny_pure (i12 _ rfl x)
end
end Mine
end
section
open PySem PySem.W PyProof.Rows PySem.Calls PySem.Spec PySem.SeqAt
set_option tactic.hygienic false
set_option maxHeartbeats 400000
namespace Mine
inductive Dat : Nat → AV → Prop
  | none {n} : Dat n .none
  | bool {n b} : Dat n (.bool b)
  | int {n i} : Dat n (.int i)
  | str {n u} : Dat n (.str u)
  | obj {n a C fs} : Dat n (.obj a C fs)
  | tup {n l} : (∀ v ∈ l, Dat n v) → Dat (n + 1) (.tup l)
  | lst {n l} : (∀ v ∈ l, Dat n v) → Dat (n + 1) (.lst l)
theorem allT {n : Nat} : (List.range n).all (fun _ => true) = true := by rw [List.all_eq_true]; intro _ _; rfl
section
variable {c : Cx} {σ : St} {T : List (AV × Value)} {s : Shared} {E : Value → Shared → Prop} {m : Str → Option Value} {adr : List Addr} {M K R : Led} {P : KV}
theorem Rl.two {w : World} {R : Led} {l : List AV} {xs ys : List Value} (hx : Rl w R l xs) (hy : Rl w R l ys) {j : Nat} {h1 : j < xs.toArray.size} {h2 : j < ys.toArray.size} : ∃ v ∈ l, Ri w R v xs.toArray[j] ∧ Ri w R v ys.toArray[j] := by
  have h1' : j < l.length := by rw [List.size_toArray, hx.len] at h1; exact h1
  refine x12 (hx.get (List.getElem?_eq_getElem h1')) fun u hu ru => ?_
  refine x12 (hy.get (List.getElem?_eq_getElem h1')) fun u' hu' ru' => ?_
  refine i13 (l[j]) (List.getElem_mem h1') ?_ ?_
  · rw [List.getElem_toArray]; obtain ⟨_, e⟩ := List.getElem?_eq_some_iff.mp hu; rw [e]; exact ru
  · rw [List.getElem_toArray]; obtain ⟨_, e⟩ := List.getElem?_eq_some_iff.mp hu'; rw [e]; exact ru'
theorem Dat.eq {w : World} {R led : Led} {h₀ : Heap} {L : Addr} (N : News h₀ L s.heap led) (hR : ∀ p ∈ R, p ∈ led) {n : Nat} {x : AV} (h : Dat n x) : ∀ {A : Around} {u1 u2 : Value}, Ri w R x u1 → Ri w R x u2 → A.units + n < cLine → EqAt A s u1 u2 true := by
  have rf : ∀ {A : Around} {a b : Addr}, RcAt A s (.ref a) (.ref b) true → EqAt A s (.ref a) (.ref b) true := fun {A a b} h => by
    by_cases e : a = b
    · rw [e]; exact EqAt.same _
    · exact EqAt.of_refs e h
  induction h with
  | none => intro A u1 u2 h1 h2 _; rw [h1.noneI, h2.noneI]; exact EqAt.same _
  | bool => intro A u1 u2 h1 h2 _; rw [h1.boolI, h2.boolI]; exact EqAt.same _
  | @int _ i =>
    intro A u1 u2 h1 h2 _
    refine h1.intI (Q := fun u => EqAt A s u u2 true) fun t1 => h2.intI (Q := fun u => EqAt A s _ u true) fun t2 => ?_
    have z := EqAt.int_int (A := A) (s := s) i t1 i t2
    rwa [beq_self_eq_true] at z
  | @str _ u =>
    intro A u1 u2 h1 h2 _
    refine h1.strI (Q := fun u => EqAt A s u u2 true) fun t1 => h2.strI (Q := fun u => EqAt A s _ u true) fun t2 => ?_
    have z := EqAt.str_str (A := A) (s := s) u t1 u t2
    rwa [beq_self_eq_true] at z
  | obj => intro A u1 u2 h1 h2 _; exact h1.objI (Q := fun u => EqAt A s u u2 true) fun _ _ _ _ _ _ _ _ => h2.objI (Q := fun u => EqAt A s _ u true) fun _ _ _ _ _ _ _ _ => EqAt.same _
  | @tup n l _ ih =>
    intro A u1 u2 h1 h2 hu
    refine h1.tupI (Q := fun u => EqAt A s u u2 true) fun xs a ha hl => h2.tupI (Q := fun u => EqAt A s _ u true) fun ys b hb hl2 => rf ?_
    have z := RcAt.tuples (A := A) (s := s) (e := fun _ => true) (News.isTup N (hR _ ha)) (News.isTup N (hR _ hb)) (by omega) (fun j k1 k2 => by
      refine x13 (hl.two hl2 (j := j) (h1 := k1) (h2 := k2)) fun v hv r1 r2 => ?_
      exact ih v hv r1 r2 (by rw [Around.in1_units]; omega))
    rw [allT, Bool.true_and, List.size_toArray, List.size_toArray, hl.len, hl2.len, beq_self_eq_true] at z
    exact z
  | @lst n l _ ih =>
    intro A u1 u2 h1 h2 hu
    refine h1.lstI (Q := fun u => EqAt A s u u2 true) fun xs a n1 _ ha hl => h2.lstI (Q := fun u => EqAt A s _ u true) fun ys b n2 _ hb hl2 => rf ?_
    have z := RcAt.lists (A := A) (s := s) (e := fun _ => true) (News.isList N (hR _ ha)) (News.isList N (hR _ hb)) (by rw [List.size_toArray, List.size_toArray, hl.len, hl2.len]) (by omega) (fun j k1 k2 => by
      refine x13 (hl.two hl2 (j := j) (h1 := k1) (h2 := k2)) fun v hv r1 r2 => ?_
      exact ih v hv r1 r2 (by rw [Around.in1_units]; omega))
    rw [allT] at z
    exact z
theorem RelD.in_led (r : RelD c σ T s m adr M K R) : ∀ p ∈ R, p ∈ M ++ (K ++ (R ++ c.fr)) := fun _ h => r.still? h
theorem OP_same {x y : AV} {l : List AV} {n : Nat} (hr : Room c 1) (hn : n ≤ 10) (ex : lstOf x σ = some l) (ey : lstOf y σ = some l) (hd : ∀ v ∈ l, Dat n v) : (P (.bool true) σ → OP c (compareOp .Eq) x y σ P) ∧ (P (.bool false) σ → OP c (compareOp .NotEq) x y σ P) := by
  have hu := hr.2
  have both : ∀ {T : List (AV × Value)} {s : Shared} {u1 u2 : Value} {Q : Value → Value → Prop}, Rel c σ ((y, u2) :: (x, u1) :: T) s → (∀ a b xs ys, s.heap.IsList a xs → s.heap.IsList b ys → xs.size = ys.size → (∀ j (h1 : j < xs.size) (h2 : j < ys.size), EqAt c.A.in1 s xs[j] ys[j] true) → Q (.ref a) (.ref b)) → Q u1 u2 := by
    intro T s u1 u2 Q r kk
    refine Rel.out r fun m adr M K R r => ?_
    refine r.lst (Q := fun u => Q u u2) (List.mem_cons_of_mem _ List.mem_cons_self) ex fun a xs n1 _ hl1 _ N1 m1 => ?_
    refine r.lst (Q := fun u => Q (.ref a) u) List.mem_cons_self ey fun b ys n2 _ hl2 _ N2 m2 => ?_
    refine kk a b _ _ (News.isList N1 m1) (News.isList N2 m2) (by rw [List.size_toArray, List.size_toArray, hl1.len, hl2.len]) (fun j k1 k2 => ?_)
    refine x13 (hl1.two hl2 (j := j) (h1 := k1) (h2 := k2)) fun v hv r1 r2 => ?_
    exact (hd v hv).eq r.N r.in_led r1 r2 (by rw [Around.in1_units]; show c.un + 1 + n < _; omega)
  refine ⟨fun h T s u1 u2 Q E r k => ?_, fun h T s u1 u2 Q E r k => ?_⟩
  · refine both (Q := fun u1 u2 => wpAny c.M c.A (compareOp .Eq u1 u2) Q E s) r fun a b xs ys h1 h2 hs he => ?_
    exact RcAt.lists (e := fun _ => true) h1 h2 hs (by show c.un < _; omega) he pg c.w E Q (by rw [allT]; exact k _ _ _ _ h (r.drop.drop.imm fun _ => .bool))
  · refine both (Q := fun u1 u2 => wpAny c.M c.A (compareOp .NotEq u1 u2) Q E s) r fun a b xs ys h1 h2 hs he => ?_
    exact RcNeAt.lists (e := fun _ => true) h1 h2 hs (by show c.un < _; omega) he pg c.w E Q (by rw [allT]; exact k _ _ _ _ h (r.drop.drop.imm fun _ => .bool))
theorem OP_nil {x y : AV} {l : List AV} (hr : Room c 1) (ex : lstOf x σ = some l) (ey : lstOf y σ = some []) : (P (.bool l.isEmpty) σ → OP c (compareOp .Eq) x y σ P) ∧ (P (.bool !l.isEmpty) σ → OP c (compareOp .NotEq) x y σ P) := by
  have hu := hr.2
  have hu1 : c.A.units < cLine := by show c.un < _; omega
  cases l with
  | nil => exact OP_same hr (n := 0) (by decide) ex ey (fun _ h => (by cases h))
  | cons v l =>
    have both : ∀ {T : List (AV × Value)} {s : Shared} {u1 u2 : Value} {X : Value → Value → Prop}, Rel c σ ((y, u2) :: (x, u1) :: T) s → (∀ a b xs ys, s.heap.IsList a xs → s.heap.IsList b ys → (xs.size != ys.size) = true → X (.ref a) (.ref b)) → X u1 u2 := by
      intro T s u1 u2 X r kk
      refine Rel.out r fun m adr M K R r => ?_
      refine r.lst (Q := fun u => X u u2) (List.mem_cons_of_mem _ List.mem_cons_self) ex fun a xs n1 _ hl1 _ Na m1 => ?_
      refine r.lst (Q := fun u => X (.ref a) u) List.mem_cons_self ey fun b ys n2 _ hl2 _ Nb m2 => ?_
      exact kk _ _ _ _ (News.isList Na m1) (News.isList Nb m2) (by rw [List.size_toArray, List.size_toArray, hl1.len, hl2.len]; rfl)
    refine ⟨fun h T s u1 u2 Q E r k => ?_, fun h T s u1 u2 Q E r k => ?_⟩
    · exact both (X := fun u1 u2 => wpAny c.M c.A (compareOp .Eq u1 u2) Q E s) r fun a b xs ys h1 h2 hsz => RcAt.lists_lengths h1 h2 hsz hu1 pg c.w E Q (k _ _ _ _ h (r.drop.drop.imm fun _ => .bool))
    · exact both (X := fun u1 u2 => wpAny c.M c.A (compareOp .NotEq u1 u2) Q E s) r fun a b xs ys h1 h2 hsz => RcNeAt.lists_lengths h1 h2 hsz hu1 pg c.w E Q (k _ _ _ _ h (r.drop.drop.imm fun _ => .bool))
end
end Mine
end
section
open PySem PySem.W PyProof.Rows PySem.Calls PySem.Spec PySem.SeqAt
set_option tactic.hygienic false
set_option maxHeartbeats 400000
namespace Mine
noncomputable abbrev strsA (ks : List Str) : List AV := ks.map AV.str
theorem Rl.strs {w : World} {R : Led} {ks : List Str} : ∀ {vs : List Value}, Rl w R (strsA ks) vs → StrsAre vs ks := by
  induction ks with
  | nil => intro vs h; cases h; exact .nil
  | cons k ks ih => intro vs h; cases h with | cons a b => cases a; exact .cons _ _ (ih b)
theorem Rl.ofStrs {w : World} {R : Led} {vs : List Value} {ks : List Str} (h : StrsAre vs ks) : Rl w R (strsA ks) vs := by
  induction h with
  | nil => exact .nil
  | cons _ _ _ ih => exact .cons .str ih
section
variable {c : Cx} {σ : St} {P : KV}
theorem AC_str {i : Int} (h0 : 0 ≤ i) (h1 : i ≤ 1000) (h : P (.str (toString i)) σ) : AC c (.type "str") [.int i] σ P := by
  intro T s us Q E hl r k
  refine x11 (us1 hl) fun u e91 => ?_
  obtain rfl := e91
  refine x11 (r.int List.mem_cons_self) fun t e92 => ?_
  obtain rfl := e92
  refine PySem.P.str_of_int ?_ (k _ _ _ _ h (Rel.imm (r.drop.tok _) fun _ => .str))
  have : i.natAbs < 2 ^ 1920 := Nat.lt_of_le_of_lt (show i.natAbs ≤ 1000 by omega) (by decide)
  by_cases e : i.natAbs = 0
  · rw [e]; decide
  · exact (Nat.log2_lt e).mpr this
theorem AC_sortL {v : AV} {ks : List Str} (e : lstOf v σ = some (strsA ks)) (h64 : ks.length < 64) (h : ∀ ss : List Str, ss.Perm ks → sortedS ss = true → P (.cell σ.cs.length) (σ.push (.list (strsA ss)))) : AC c (.builtin "sorted") [v] σ P := by
  intro T s us Q E hl r k
  refine x11 (us1 hl) fun u e93 => ?_
  obtain rfl := e93
  refine Rel.out r fun m adr M K R r => ?_
  refine r.lstM (Q := fun u => wpAny c.M c.A (call (Value.builtin "sorted") [u]) Q E s) List.mem_cons_self e fun a vs n hl1 _ hm => ?_
  have hS := hl1.strs
  refine sorted_N_str r.F r.N (News.isList r.N hm) hS (by rw [strs_len hS]; exact h64) fun h' vs' ss' e' F' N' a1 a2 a3 => ?_
  exact k _ _ _ _ (h ss' a2 a3) (r.tail.live (s' := { s with heap := h' }) F' N' (fun p hp => Nat.ne_of_lt (Nat.lt_succ_of_lt (Heap.lt_size (r.N p hp).1))) (.list (by rw [List.length_map, a2.length_eq]; omega) (Rl.ofStrs a1)) rfl rfl)
theorem AC_sortD {v : AV} {l : List (Str × AV)} (e : dctOf v σ = some l) (h64 : (l.map (·.1)).Nodup → l.length < 64) (h : ∀ ss : List Str, ss.Perm (l.map (·.1)) → sortedS ss = true → (l.map (·.1)).Nodup → P (.cell σ.cs.length) (σ.push (.list (strsA ss)))) : AC c (.builtin "sorted") [v] σ P := by
  intro T s us Q E hl r k
  refine x11 (us1 hl) fun u e95 => ?_
  obtain rfl := e95
  refine Rel.out r fun m adr M K R r => ?_
  refine r.dct (Q := fun u => wpAny c.M c.A (call (Value.builtin "sorted") [u]) Q E s) List.mem_cons_self e fun a kvs o hk z z2 hm => ?_
  have hn : (l.map (·.1)).Nodup := by
    refine x25 z fun _ _ _ _ _ _ hn => ?_
    try clear z
    rw [← hk.keys]; exact hn
  have hlen := congrArg List.length hk.keys
  rw [List.length_map, List.length_map] at hlen
  have h64 := h64 hn
  refine sorted_dict9 rfl r.F r.N hm z z2 (by omega) fun D h' tk vs n F' N' l1 hs => ?_
  refine x13 hs fun ss a1 a2 a3 => ?_
  try clear hs
  rw [hk.keys] at a2
  exact k _ _ _ _ (h ss a2 a3 hn) (r.tail.live (s' := { s with heap := h', toks := tk }) F' N' (fun p hp => Nat.ne_of_lt (l1 p hp)) (.list (by rw [List.length_map, a2.length_eq, List.length_map]; omega) (Rl.ofStrs a1)) rfl rfl)
theorem AC_set {v : AV} {ks : List Str} (e : lstOf v σ = some (strsA ks)) (hb : ks.length ≤ 1000) (h : ∀ a o ls, SetOb pg c.w o ls → (∀ x, x ∈ ls ↔ x ∈ ks) → P (.opq a o) σ) : AC c (.type "set") [v] σ P := by
  intro T s us Q E hl r k
  refine x11 (us1 hl) fun u e97 => ?_
  obtain rfl := e97
  refine Rel.out r fun m adr M K R r => ?_
  refine r.lstM (Q := fun u => wpAny c.M c.A (call (Value.type "set") [u]) Q E s) List.mem_cons_self e fun a vs n hl1 _ hm => ?_
  have hS := hl1.strs
  have hsb : 2000 ≤ scanBound := by decide
  refine set_made rfl r.F r.N hm hS (by rw [strs_len hS]; omega) fun a h' tk o ls F' N' l1 hO hx => ?_
  have r2 := r.tail.still (s' := { s with heap := h', toks := tk }) (q := (a, o)) F' N' (fun p hp => Nat.ne_of_lt (l1 p hp)) rfl rfl
  exact k _ _ _ _ (h a o ls hO hx) (r2.add (.imm (.opq List.mem_cons_self))).rel
theorem AC_sortS {a : Addr} {o : Obj} {ls : List Str} (hO : SetOb pg c.w o ls) (h64 : ls.Nodup → ls.length < 64) (h : ∀ ss : List Str, ss.Perm ls → sortedS ss = true → ls.Nodup → P (.cell σ.cs.length) (σ.push (.list (strsA ss)))) : AC c (.builtin "sorted") [.opq a o] σ P := by
  intro T s us Q E hl r k
  refine x11 (us1 hl) fun u e99 => ?_
  obtain rfl := e99
  refine Rel.out r fun m adr M K R r => ?_
  cases r.T _ List.mem_cons_self with
  | imm z =>
    cases z with
    | opq hm =>
      have hn : ls.Nodup := hO.2.1
      have h64 := h64 hn
      refine sorted_set9 rfl r.F r.N (r.still? hm) hO h64 fun D h' tk dd vs n F' N' l1 hs => ?_
      refine x13 hs fun ss a1 a2 a3 => ?_
      try clear hs
      exact k _ _ _ _ (h ss a2 a3 hn) (r.tail.live (s' := { s with heap := h', toks := tk, drawn := dd }) F' N' (fun p hp => Nat.ne_of_lt (l1 p hp)) (.list (by rw [List.length_map, a2.length_eq]; omega) (Rl.ofStrs a1)) rfl rfl)
noncomputable def strEq9 (x : Str) (v : Value) : Bool := match v with
  | .str a _ => a == x
  | _ => false
theorem strs_any {vs : List Value} {ss : List Str} (h : StrsAre vs ss) (x : Str) : vs.toArray.any (strEq9 x) = decide (x ∈ ss) := by
  rw [List.any_toArray]
  induction h with
  | nil => rfl
  | cons a t _ ih =>
    rw [List.any_cons, ih]
    show ((a == x) || _) = _
    by_cases h : a = x
    · rw [h, beq_self_eq_true, Bool.true_or]; exact (decide_eq_true List.mem_cons_self).symm
    · rw [beq_false_of_ne h, Bool.false_or]
      exact decide_eq_decide.mpr ⟨fun q => List.mem_cons_of_mem _ q, fun q => (List.mem_cons.mp q).elim (fun e => absurd e.symm h) id⟩
theorem OP_inL {x : Str} {v : AV} {ks : List Str} (e : lstOf v σ = some (strsA ks)) : (P (.bool (decide (x ∈ ks))) σ → OP c (compareOp .In) (.str x) v σ P) ∧ (P (.bool (!decide (x ∈ ks))) σ → OP c (compareOp .NotIn) (.str x) v σ P) := by
  have both : ∀ {T : List (AV × Value)} {s : Shared} {u1 u2 : Value}, Rel c σ ((v, u2) :: (.str x, u1) :: T) s → ∃ t a vs, u1 = .str x t ∧ u2 = .ref a ∧ s.heap.IsList a vs.toArray ∧ StrsAre vs ks ∧ ∀ y, y ∈ vs.toArray → EqAt c.A.in1 s y (.str x t) (strEq9 x y) := by
    intro T s u1 u2 r
    refine x11 (r.str (List.mem_cons_of_mem _ List.mem_cons_self)) fun t e910 => ?_
    obtain rfl := e910
    refine Rel.out r fun m adr M K R r => ?_
    refine r.lstM (Q := fun u2 => ∃ t_1 a vs, Value.str x t = Value.str x t_1 ∧ u2 = Value.ref a ∧ s.heap.IsList a vs.toArray ∧ StrsAre vs ks ∧ ∀ (y : Value), y ∈ vs.toArray → EqAt c.A.in1 s y (Value.str x t_1) (strEq9 x y)) List.mem_cons_self e fun a vs n hl1 _ hm => ?_
    refine i35 t a vs rfl rfl (News.isList r.N hm) hl1.strs (fun y hy => ?_)
    rw [List.mem_toArray] at hy
    obtain ⟨j, hj, e⟩ := List.mem_iff_getElem.mp hy
    refine x22 (strs_get hl1.strs (j := j) (x := y) (by rw [List.getElem?_eq_getElem hj, e])) fun c' u f1 e912 => ?_
    obtain rfl := e912
    exact EqAt.str_str c' u x t
  refine ⟨fun h T s u1 u2 Q E r k => ?_, fun h T s u1 u2 Q E r k => ?_⟩
  · refine x35 (both r) fun t a vs e913 e914 hl hS he => ?_
    obtain rfl := e913
    obtain rfl := e914
    exact in_listAt (strEq9 x) hl he (by rw [strs_any hS]; exact k _ _ _ _ h (r.drop.drop.imm fun _ => .bool))
  · refine x35 (both r) fun t a vs e915 e916 hl hS he => ?_
    obtain rfl := e915
    obtain rfl := e916
    exact notIn_listAt (strEq9 x) hl he (by rw [strs_any hS]; exact k _ _ _ _ h (r.drop.drop.imm fun _ => .bool))
theorem cons_prim (w : World) : (clsL.all fun C => kitAny (hp w) (.ref C) [.ref 313, .ref 353] == some (Nat.beq C 313 || Nat.beq C 353)) = true := by kernel_rfl
theorem AC_isi2 {a C : Addr} {fs : List (Str × AV)} (o : c.Ok2) (hC : isCls C = true) (h : P (.bool (Nat.beq C 313 || Nat.beq C 353)) σ) : AC c (.builtin "isinstance") [.obj a C fs, .tup [.fn 313, .fn 353]] σ P := by
  intro T s us Q E hl r k
  refine x21 (us2 hl) fun u1 u2 e917 => ?_
  obtain rfl := e917
  refine Rel.out r fun m adr M K R r => ?_
  refine (r.ri List.mem_cons_self rfl).objI (Q := fun u => wpAny c.M c.A (call (.builtin "isinstance") [u, u2]) Q E s) fun _ _ _ y _ ha hb _ => (r.ri (List.mem_cons_of_mem _ List.mem_cons_self) rfl).tupI (Q := fun u => wpAny c.M c.A (call (.builtin "isinstance") [.ref a, u]) Q E s) fun vs tp ht hlt => ?_
  obtain rfl := hlt.fn2
  exact kia_tup (kitx_own y.k4 y.k5 y.k6 y.k7 y.k8 y.k9) (o.X.keeps r.F.keep) (r.inst ha hb) (r.N _ (r.still? ht)).1 (eq_of_beq (List.all_eq_true.mp (cons_prim c.w) C (isCls_mem hC))) (fun e => by cases e) fun tk => k _ _ _ _ h (Rel.imm (r.tail.tail.tok tk).rel fun _ => .bool)
theorem AC_extend {k : Nat} {v : AV} (h : imm v σ fun v' σ1 => optL v'.lst? (fun l2 => optL (σ1.cs[k]?.bind Cell.list?) (fun l => Need (l.length + l2.length ≤ 1000000) (P .none (σ1.setc k (.list (l ++ l2))))) False) False) : AC c (.builtin "list.extend") [.cell k, v] σ P := by
  intro T s us Q E hl r kk
  refine x21 (us2 hl) fun u1 u2 e918 => ?_
  obtain rfl := e918
  refine x23 (imm_ok r (u := u2) (List.mem_cons_of_mem _ List.mem_cons_self) h) fun v' σ1 h1 r1 n1 => ?_
  refine x12 (optL_out h1) fun l2 e2 h1 => ?_
  refine x13 (optL_out h1) fun l hk hz hp => ?_
  obtain rfl := lst?_eq e2
  refine Rel.out r1 fun m adr M K R r1 => ?_
  refine (r1.ri List.mem_cons_self n1).lstI (Q := fun u2 => wpAny c.M c.A (call (Value.builtin "list.extend") [u1, u2]) Q E s) fun us b n2 hz2 hb hl2 => ?_
  refine (r1.T (AV.cell k, u1) (List.mem_cons_of_mem _ List.mem_cons_self)).cellI (Q := fun u1 => wpAny c.M c.A (call (Value.builtin "list.extend") [u1, Value.ref b]) Q E s) fun a9 ha => ?_
  refine r1.atList (listB hk) ha fun vs n rest z hl g3 g4 g5 g6 => ?_
  have hlt : ¬(!vs.toArray.isEmpty && Builtin.List.listTooLong (vs.toArray.size + us.toArray.size)) = true := by
    simp only [Builtin.List.listTooLong, List.size_toArray, Bool.and_eq_true, decide_eq_true_eq, not_and, hl.len, hl2.len]
    intro _
    rw [sizeLine_eq]; omega
  have z1 : vs.length ≤ 1000000 := by rw [hl.len]; omega
  have z2 : us.length ≤ 1000000 := by rw [hl2.len]; omega
  have hb' := g5 _ hb
  have fin : ∀ h' n', Fr c.h₀ c.L h' m → News c.h₀ c.L h' ((a9, listOf (vs ++ us).toArray n') :: rest) → Q .none { s with heap := h' } := fun h' n' F' N' => by
    refine x11 (g6 (l ++ l2) (vs ++ us) n' { s with heap := h' } (by rw [List.length_append]; omega) (Rl.app hl2 hl) F' N' rfl rfl) fun M' r2 => ?_
    exact kk _ _ _ _ hp (Rel.imm (Rel.sub r2.rel fun t ht => List.mem_cons_of_mem _ (List.mem_cons_of_mem _ (List.mem_cons_of_mem _ ht))) fun _ => .none)
  by_cases e : us = []
  · subst e
    refine kxn_extend r1.F g3 (List.mem_cons_of_mem _ hb') rfl (Upd.head g4) hlt (by rw [sizeLine_eq]; simp; omega) (by rw [sizeLine_eq]; simp; omega) fun h' F' N' => fin h' n F' ?_
    rw [List.append_nil]; exact N'
  · exact kl_extend r1.F g3 (List.mem_cons_of_mem _ hb') rfl (by simpa using e) (Upd.head g4) hlt (by rw [sizeLine_eq]; simp; omega) (by rw [sizeLine_eq]; simp; omega) fun h' F' N' => fin h' _ F' N'
end
end Mine
end
section
open PySem PySem.W PyProof.Rows PySem.Calls PySem.Spec
set_option tactic.hygienic false
set_option maxHeartbeats 400000
namespace Mine
section
variable {c : Cx} {σ : St} {P : KV}
set_option maxHeartbeats 4000000 in
theorem inner_ac {v : AV} {ks : List AV} (o : c.Ok2) (hr : Room c 3) (h : Node v ks) (hk : ∀ k ∈ ks, NC k) (hz : ks.length ≤ 1000) (ret : P (.lst ks) σ) : AC c (.ref 475) [v] σ P := by
  refine ent1 (x := Str.ofString "expr") o (by kernel_rfl) (fun _ => by kernel_rfl) hr h.nc fun d KK od rd kr => ?_
  have hC2 : ∀ {C : Addr}, isCls C = true → True := fun _ => trivial
  cases h with
  | @app a f xs =>
    refine IfK.mk ?_
    refine Br.tt ?_
    refine imm_nc (v := f) (hk _ List.mem_cons_self) ?_
    refine Need.mk (by simp only [List.length_cons, List.length_nil] at hz ⊢; omega) ?_
    exact kr.rt _ _ ret
  | @lam a ps b =>
    refine IfK.mk ?_
    refine Br.ff ?_
    refine IfK.mk ?_
    refine Br.tt ?_
    refine imm_nc (v := b) (hk _ List.mem_cons_self) ?_
    exact kr.rt _ _ ret
  | @let_ a bs b r ns es hB =>
    refine IfK.mk ?_
    refine Br.ff ?_
    refine IfK.mk ?_
    refine Br.ff ?_
    refine IfK.mk ?_
    refine Br.tt ?_
    refine AE_comp [] (lvl_good od 50) od rfl rfl (by decide) rfl ⟨by kernel_rfl, trivial⟩ ?_
    refine cmpL.mk (fun l ys cs => ∃ n2 e1 e2, Binds l n2 e2 ∧ es = e1 ++ e2 ∧ ys = e1 ∧ cs = []) ⟨⟨ns, [], es, hB, rfl, rfl, rfl⟩, ?_, ?_, ?_⟩
    · intro l ys cs j91
      refine x34 j91 fun _ _ _ _ _ _ e92 => ?_
      try clear j91
      obtain rfl := e92
      rfl
    · refine hide2 ?_
      intro G9 hG9 ys cs j93
      refine x34 j93 fun n2 e1 e2 h1 h2 e94 e95 => ?_
      try clear j93
      obtain rfl := e94
      obtain rfl := e95
      refine hG9 _ _ ?_
      clear hG9 G9
      cases h1
      rw [List.append_nil] at h2
      subst h2
      refine imm_nc (v := b) (hk _ (by simp)) ?_
      refine Need.mk (by simp only [List.length_append] at hz ⊢; omega) ?_
      exact kr.rt _ _ ret
    · intro C oC m fr mf
      refine hide6 ?_
      intro G9 hG9 x r ys cs KE KN ok j96
      refine x34 j96 fun n2 e1 e2 h1 e97 e98 e99 => ?_
      try clear j96
      obtain rfl := e97
      obtain rfl := e98
      obtain rfl := e99
      refine hG9 _ _ _ _ _ _ ?_
      clear hG9 G9
      intro nx nk
      cases h1 with | @cons n e _ n3 e3 h1 => ?_
      refine i12 _ rfl ?_
      refine nk.el _ _ ?_
      refine imm_nc (hk e (by simp)) ?_
      exact i34 n3 (ys ++ [e]) e3 h1 (by simp) rfl rfl
  | @case a v n as ks bs hA =>
    refine IfK.mk ?_
    refine Br.ff ?_
    refine IfK.mk ?_
    refine Br.ff ?_
    refine IfK.mk ?_
    refine Br.ff ?_
    refine IfK.mk ?_
    refine Br.tt ?_
    refine imm_nc (v := v) (hk _ List.mem_cons_self) ?_
    refine AE_comp [] (lvl_good od 50) od rfl rfl (by decide) rfl ⟨by kernel_rfl, trivial⟩ ?_
    refine cmpL.mk (fun l ys cs => ∃ k2 b1 b2, Alts l k2 b2 ∧ bs = b1 ++ b2 ∧ ys = b1 ∧ cs = [.list [v]]) ⟨⟨ks, [], bs, hA, rfl, rfl, rfl⟩, ?_, ?_, ?_⟩
    · intro l ys cs j910
      refine x34 j910 fun _ _ _ _ _ _ e911 => ?_
      try clear j910
      obtain rfl := e911
      rfl
    · refine hide2 ?_
      intro G9 hG9 ys cs j912
      refine x34 j912 fun k2 b1 b2 h1 h2 e913 e914 => ?_
      try clear j912
      obtain rfl := e913
      obtain rfl := e914
      refine hG9 _ _ ?_
      clear hG9 G9
      cases h1
      rw [List.append_nil] at h2
      subst h2
      refine Need.mk (by simp only [List.length_cons, List.length_nil] at hz ⊢; omega) ?_
      refine Br.tt ?_
      refine Need.mk (by simp only [List.length_cons, List.length_append, List.length_nil] at hz ⊢; omega) ?_
      rw [show v :: bs = [v] ++ bs ++ [] by simp] at ret
      exact kr.rt _ _ ret
    · intro C oC m fr mf
      refine hide6 ?_
      intro G9 hG9 x r ys cs KE KN ok j915
      refine x34 j915 fun k2 b1 b2 h1 e916 e917 e918 => ?_
      try clear j915
      obtain rfl := e916
      obtain rfl := e917
      obtain rfl := e918
      refine hG9 _ _ _ _ _ _ ?_
      clear hG9 G9
      intro nx nk
      cases h1 with | @cons a' k' ns' b' _ k3 b3 h1 => ?_
      refine i12 _ rfl ?_
      refine nk.el _ _ ?_
      refine imm_nc (v := b') (hk b' (by simp)) ?_
      exact i34 k3 (ys ++ [b']) b3 h1 (by simp) rfl rfl
  | @caseO a v n as ks bs a' C fs hA =>
    refine IfK.mk ?_
    refine Br.ff ?_
    refine IfK.mk ?_
    refine Br.ff ?_
    refine IfK.mk ?_
    refine Br.ff ?_
    refine IfK.mk ?_
    refine Br.tt ?_
    refine imm_nc (v := v) (hk _ List.mem_cons_self) ?_
    refine AE_comp [] (lvl_good od 50) od rfl rfl (by decide) rfl ⟨by kernel_rfl, trivial⟩ ?_
    refine cmpL.mk (fun l ys cs => ∃ k2 b1 b2, Alts l k2 b2 ∧ bs = b1 ++ b2 ∧ ys = b1 ∧ cs = [.list [v]]) ⟨⟨ks, [], bs, hA, rfl, rfl, rfl⟩, ?_, ?_, ?_⟩
    · intro l ys cs j919
      refine x34 j919 fun _ _ _ _ _ _ e920 => ?_
      try clear j919
      obtain rfl := e920
      rfl
    · refine hide2 ?_
      intro G9 hG9 ys cs j921
      refine x34 j921 fun k2 b1 b2 h1 h2 e922 e923 => ?_
      try clear j921
      obtain rfl := e922
      obtain rfl := e923
      refine hG9 _ _ ?_
      clear hG9 G9
      cases h1
      rw [List.append_nil] at h2
      subst h2
      refine Need.mk (by simp only [List.length_cons, List.length_append, List.length_nil] at hz ⊢; omega) ?_
      refine Br.ff ?_
      refine Need.mk (by simp only [List.length_cons, List.length_append, List.length_nil] at hz ⊢; omega) ?_
      rw [show v :: (bs ++ [AV.obj a' C fs]) = [v] ++ bs ++ [AV.obj a' C fs] by simp] at ret
      exact kr.rt _ _ ret
    · intro C oC m fr mf
      refine hide6 ?_
      intro G9 hG9 x r ys cs KE KN ok j924
      refine x34 j924 fun k2 b1 b2 h1 e925 e926 e927 => ?_
      try clear j924
      obtain rfl := e925
      obtain rfl := e926
      obtain rfl := e927
      refine hG9 _ _ _ _ _ _ ?_
      clear hG9 G9
      intro nx nk
      cases h1 with | @cons a' k' ns' b' _ k3 b3 h1 => ?_
      refine i12 _ rfl ?_
      refine nk.el _ _ ?_
      refine imm_nc (v := b') (hk b' (by simp)) ?_
      exact i34 k3 (ys ++ [b']) b3 h1 (by simp) rfl rfl
  | con =>
    iterate 4
      refine IfK.mk ?_
      refine Br.ff ?_
    refine AC_isi2 od rfl ?_
    refine Br.tt ?_
    exact kr.rt _ _ ret
  | prim =>
    iterate 4
      refine IfK.mk ?_
      refine Br.ff ?_
    refine AC_isi2 od rfl ?_
    refine Br.tt ?_
    exact kr.rt _ _ ret
  | var =>
    iterate 4
      refine IfK.mk ?_
      refine Br.ff ?_
    refine AC_isi2 od rfl ?_
    refine Br.ff ?_
    exact kr.rt _ _ ret
  | lit =>
    iterate 4
      refine IfK.mk ?_
      refine Br.ff ?_
    refine AC_isi2 od rfl ?_
    refine Br.ff ?_
    exact kr.rt _ _ ret
end
end Mine
end
section
open PySem PySem.W PyProof.Rows PySem.Calls PySem.Spec
set_option tactic.hygienic false
set_option maxHeartbeats 400000
namespace Mine
noncomputable def Ht (n : Nat) : Tr → Prop := @Nat.rec (fun _ => Tr → Prop) (fun _ => False) (fun _ ih t => match t with | .node _ ks => ∀ k ∈ ks, ih k) n
noncomputable def row (q : AV × Bool) : AV := .tup [q.1, .bool q.2]
set_option maxHeartbeats 4000000 in
theorem all_ac (n : Nat) : ∀ {c : Cx} {σ : St} {P : KV} {t : Tr} {b : Bool} {k : Nat} {l : List AV} (_ : c.Ok2) (_ : Room c (4 + n)) (_ : Ht n t) (_ : Wf t) (_ : l.length + size t ≤ 1000) (_ : σ.cs[k]? = some (.list l))
    (_ : P (.cell k) (σ.setc k (.list (l ++ (rows b t).map row)))), AC c (.ref 482) [t.v, .bool b, .cell k] σ P := by
  induction n with
  | zero => intro c σ P t b k l _ _ h; exact h.elim
  | succ n ih =>
    intro c σ P t b k l o hr hh ht hz hk ret
    obtain ⟨v, ks⟩ := t
    have hh : ∀ k ∈ ks, Ht n k := hh
    cases ht with | node hn hks => ?_
    refine x33 hn.obj fun a C fs e91 hC _ => ?_
    obtain rfl := e91
    have hz : l.length + (1 + sizeL ks) ≤ 1000 := hz
    refine enter1 (n := 4 + n) (ns := [Str.ofString "expr", Str.ofString "within", Str.ofString "found"]) o (.of (by kernel_rfl) (bd3 fun _ _ _ => by kernel_rfl)) hr hk live_list (List.forall_mem_cons.mpr ⟨.inl nc_obj, List.forall_mem_cons.mpr ⟨.inl nc_bool, List.forall_mem_cons.mpr ⟨.inr (.inl rfl), List.forall_mem_nil _⟩⟩⟩) rfl fun d KK _ od rd kr => (lvl_good od 60).ex _ _ _ ?_
    rw [List.map_cons, List.map_cons, List.map_cons, ren_self]
    refine Need.mk (by omega) ?_
    refine AS_for (lvl_good od 60) od rfl rfl ?_
    have hkn : ∀ k ∈ ks.map Tr.v, NC k := fun k hk => (by obtain ⟨t', ht', rfl⟩ := List.mem_map.mp hk; exact (hks t' ht').nc)
    refine inner_ac od (rd.le (by omega)) hn hkn (by rw [List.length_map]; have := len_size ks; omega) ?_
    refine forL.mk [Str.ofString "expr", Str.ofString "within", Str.ofString "found"] (fun q σ => ∃ dn ks', σ = ⟨[(Str.ofString "expr", .obj a C fs), (Str.ofString "within", .bool b), (Str.ofString "found", .cell 0)], [.list (l ++ row (.obj a C fs, b) :: (rowsL (b || isLam (.obj a C fs)) dn).map row)]⟩ ∧ q = ks'.map Tr.v ∧ dn ++ ks' = ks) ⟨?_, ?_, ?_⟩
    · exact i23 [] ks rfl rfl rfl
    · refine hide1 ?_
      intro G9 hG9 σ' j92
      refine x23 j92 fun dn ks' e93 hq e94 => ?_
      try clear j92
      obtain rfl := e93
      obtain rfl := e94
      refine hG9 _ ?_
      clear hG9 G9
      obtain rfl := List.map_eq_nil_iff.mp hq.symm
      rw [List.append_nil] at *
      exact kr.rt _ _ ret
    · intro fr mf
      refine hide4 ?_
      intro G9 hG9 p r σ' KJ o' j95
      refine x23 j95 fun dn ks' e96 hq e97 => ?_
      try clear j95
      obtain rfl := e96
      obtain rfl := e97
      refine hG9 _ _ _ _ ?_
      clear hG9 G9
      intro np nj
      cases ks' with | nil => cases hq | cons k1 ks' => ?_
      refine x02 (List.cons.inj hq) fun e98 e99 => ?_
      obtain rfl := e98
      obtain rfl := e99
      have hk1 : k1 ∈ dn ++ k1 :: ks' := by simp
      have e : rowsL (b || isLam (.obj a C fs)) (dn ++ [k1]) = rowsL (b || isLam (.obj a C fs)) dn ++ rows (b || isLam (.obj a C fs)) k1 := by rw [rowsL_app]; simp [rowsL]
      have hlen : ∀ bb, (l ++ row (.obj a C fs, b) :: (rowsL bb dn).map row).length + size k1 ≤ 1000 := by
        intro bb
        rw [List.length_append, List.length_cons, List.length_map, rowsL_len]
        rw [sizeL_app] at hz
        simp only [sizeL] at hz
        omega
      have fin : ∀ bb, bb = (b || isLam (.obj a C fs)) → KJ .next ⟨[(Str.ofString "expr", .obj a C fs), (Str.ofString "within", .bool b), (Str.ofString "found", .cell 0), (Str.ofString "inner", k1.v)], [.list ((l ++ row (.obj a C fs, b) :: (rowsL bb dn).map row) ++ (rows bb k1).map row)]⟩ := by
        rintro bb rfl
        refine nj.nx _ (i23 (dn ++ [k1]) ks' ?_ rfl (by simp))
        rw [e, List.map_append, List.append_assoc, List.cons_append]; rfl
      cases b with
      | true =>
        refine Br.tt ?_
        exact ih o' (rd.le (by omega)) (hh k1 hk1) (hks k1 hk1) (hlen true) rfl (fin true rfl)
      | false =>
        refine Br.ff ?_
        refine isiT hC rfl ?_
        exact ih o' (rd.le (by omega)) (hh k1 hk1) (hks k1 hk1) (hlen _) rfl (fin _ rfl)
end Mine
end
section
open PySem PySem.W PyProof.Rows PySem.Calls PySem.Spec
set_option tactic.hygienic false
set_option maxHeartbeats 400000
namespace Mine
noncomputable def fld (fs : List (Str × AV)) (i : Nat) : AV := @Option.rec _ (fun _ => AV) .none (fun q => q.2) fs[i]?
noncomputable def lsA (v : AV) (f : List AV → AV) : AV := @Option.rec _ (fun _ => AV) .none f v.lst?
noncomputable def bnm (b : AV) : AV := @Option.rec _ (fun _ => AV) .none (fun l => l.headD .none) b.tup?
noncomputable def altk (v : AV) : AV := match v with
  | .obj _ _ fs => .tup [fld fs 0, fld fs 1]
  | _ => .none
noncomputable def isNoneA (v : AV) : Bool := match v with
  | .none => true
  | _ => false
noncomputable def lenA (v : AV) : AV := lsA v fun l => .int l.length
noncomputable def hdC (C : Addr) (fs : List (Str × AV)) : AV :=
  cond (Nat.beq C 52) (.tup [.str (Str.ofString "var"), fld fs 0])
  (cond (Nat.beq C 94) (.tup [.str (Str.ofString "lit"), fld fs 0])
  (cond (Nat.beq C 134) (.tup [.str (Str.ofString "app"), lenA (fld fs 1)])
  (cond (Nat.beq C 176) (.tup [.str (Str.ofString "lam"), fld fs 0])
  (cond (Nat.beq C 212) (.tup [.str (Str.ofString "let"), lsA (fld fs 0) fun l => .lst (l.map bnm), fld fs 2])
  (cond (Nat.beq C 273) (.tup [.str (Str.ofString "case"), fld fs 1, lsA (fld fs 2) fun l => .lst (l.map altk), .bool (isNoneA (fld fs 3))])
  (cond (Nat.beq C 313) (.tup [.str (Str.ofString "con"), fld fs 0, lenA (fld fs 1)])
  (.tup [.str (Str.ofString "prim"), fld fs 0])))))))
noncomputable def hdf (v : AV) : AV := match v with
  | .obj _ C fs => hdC C fs
  | _ => .none
section
variable {c : Cx} {σ : St} {P : KV}
theorem map_snoc {α β : Type} {f : α → β} {l : List α} {x : α} {y : β} (h : f x = y) : l.map f ++ [y] = (l ++ [x]).map f := by rw [List.map_append, ← h]; rfl
theorem head_case {d : Cx} {a : Addr} {v ot : AV} {n : Str} {as : List AV} {ks : List (AV × List AV)} {bs : List AV} {KK : KF} (od : (d.fn 487).Ok2) (hA : Alts as ks bs) (hot : ot = .none ∨ ∃ a C f, ot = .obj a C f) (kr : Rt0 P σ KK) (ret : P (hdf (oCase a v n as ot)) σ) :
    (lvl (d.fn 487) 60).ex (bodyOf (hp d.w) 487) ⟨[(Str.ofString "node", oCase a v n as ot)], []⟩ KK := by
  iterate 2
    refine IfK.mk ?_
    refine Br.ff ?_
  refine IfK.mk ?_
  refine Br.tt ?_
  refine AE_comp [] (lvl_good od 50) od rfl rfl (by decide) rfl ⟨by kernel_rfl, trivial⟩ ?_
  refine cmpL.mk (fun l ys cs => ∃ a1 k2 b2, Alts l k2 b2 ∧ as = a1 ++ l ∧ ys = a1.map altk ∧ cs = []) ⟨⟨[], ks, bs, hA, rfl, rfl, rfl⟩, ?_, ?_, ?_⟩
  · intro l ys cs j91
    refine x34 j91 fun _ _ _ _ _ _ e92 => ?_
    try clear j91
    obtain rfl := e92
    rfl
  · refine hide2 ?_
    intro G9 hG9 ys cs j93
    refine x34 j93 fun a1 k2 b2 h1 h2 e94 e95 => ?_
    try clear j93
    obtain rfl := e94
    obtain rfl := e95
    refine hG9 _ _ ?_
    clear hG9 G9
    rw [List.append_nil] at h2
    subst h2
    rcases hot with rfl | ⟨a', C', f', rfl⟩ <;> exact kr.rt _ _ ret
  · intro C oC m fr mf
    refine hide6 ?_
    intro G9 hG9 x r ys cs KE KN ok j96
    refine x34 j96 fun a1 k2 b2 h1 h2 e97 e98 => ?_
    try clear j96
    obtain rfl := e97
    obtain rfl := e98
    refine hG9 _ _ _ _ _ _ ?_
    clear hG9 G9
    intro nx nk
    cases h1 with | @cons a' k' ns' b' _ k3 b3 h1 => ?_
    refine i12 _ rfl ?_
    exact nk.el _ _ (i34 (a1 ++ [_]) k3 b3 h1 (h2.trans (List.append_cons ..)) (map_snoc rfl) rfl)
set_option maxHeartbeats 4000000 in
theorem head_ac {v : AV} {ks : List AV} (o : c.Ok2) (hr : Room c 3) (h : Node v ks) (ret : P (hdf v) σ) : AC c (.ref 487) [v] σ P := by
  refine ent1 (x := Str.ofString "node") o (by kernel_rfl) (fun _ => by kernel_rfl) hr h.nc fun d KK od rd kr => ?_
  cases h with
  | var =>
    refine IfK.mk ?_
    refine Br.tt ?_
    exact kr.rt _ _ ret
  | @let_ a bs b r ns es hB =>
    refine IfK.mk ?_
    refine Br.ff ?_
    refine IfK.mk ?_
    refine Br.tt ?_
    refine AE_comp [] (lvl_good od 50) od rfl rfl (by decide) rfl ⟨by kernel_rfl, trivial⟩ ?_
    refine cmpL.mk (fun l ys cs => ∃ b1 n2 e2, Binds l n2 e2 ∧ bs = b1 ++ l ∧ ys = b1.map bnm ∧ cs = []) ⟨⟨[], ns, es, hB, rfl, rfl, rfl⟩, ?_, ?_, ?_⟩
    · intro l ys cs j99
      refine x34 j99 fun _ _ _ _ _ _ e910 => ?_
      try clear j99
      obtain rfl := e910
      rfl
    · refine hide2 ?_
      intro G9 hG9 ys cs j911
      refine x34 j911 fun b1 n2 e2 h1 h2 e912 e913 => ?_
      try clear j911
      obtain rfl := e912
      obtain rfl := e913
      refine hG9 _ _ ?_
      clear hG9 G9
      rw [List.append_nil] at h2
      subst h2
      exact kr.rt _ _ ret
    · intro C oC m fr mf
      refine hide6 ?_
      intro G9 hG9 x r ys cs KE KN ok j914
      refine x34 j914 fun b1 n2 e2 h1 h2 e915 e916 => ?_
      try clear j914
      obtain rfl := e915
      obtain rfl := e916
      refine hG9 _ _ _ _ _ _ ?_
      clear hG9 G9
      intro nx nk
      cases h1 with | @cons n e _ n3 e3 h1 => ?_
      refine i12 _ rfl ?_
      exact nk.el _ _ (i34 (b1 ++ [_]) n3 e3 h1 (h2.trans (List.append_cons ..)) (map_snoc rfl) rfl)
  | case hA => exact head_case od hA (.inl rfl) kr ret
  | caseO hA => exact head_case od hA (.inr ⟨_, _, _, rfl⟩) kr ret
  | lam =>
    iterate 3
      refine IfK.mk ?_
      refine Br.ff ?_
    refine IfK.mk ?_
    refine Br.tt ?_
    exact kr.rt _ _ ret
  | con =>
    iterate 4
      refine IfK.mk ?_
      refine Br.ff ?_
    refine IfK.mk ?_
    refine Br.tt ?_
    exact kr.rt _ _ ret
  | app =>
    iterate 5
      refine IfK.mk ?_
      refine Br.ff ?_
    refine IfK.mk ?_
    refine Br.tt ?_
    exact kr.rt _ _ ret
  | lit =>
    iterate 6
      refine IfK.mk ?_
      refine Br.ff ?_
    refine Br.tt ?_
    exact kr.rt _ _ ret
  | prim =>
    iterate 6
      refine IfK.mk ?_
      refine Br.ff ?_
    refine Br.ff ?_
    exact kr.rt _ _ ret
end
end Mine
end
section
open PySem PySem.W PyProof.Rows PySem.Calls PySem.Spec
set_option tactic.hygienic false
set_option maxHeartbeats 400000
namespace Mine
inductive Vrs : List AV → List Str → Prop
  | nil : Vrs [] []
  | cons {a n vs ns} : Vrs vs ns → Vrs (oVar a n :: vs) (n :: ns)
theorem Vrs.snoc {vs : List AV} {ns : List Str} (h : Vrs vs ns) {a : Addr} {n : Str} : Vrs (vs ++ [oVar a n]) (ns ++ [n]) := by
  induction h with
  | nil => exact .cons .nil
  | cons _ ih => exact .cons ih
theorem Vrs.len {vs : List AV} {ns : List Str} (h : Vrs vs ns) : vs.length = ns.length := by
  induction h with
  | nil => rfl
  | cons _ ih => exact congrArg (· + 1) ih
theorem strsA_snoc {ns : List Str} {x : Str} : strsA ns ++ [.str x] = strsA (ns ++ [x]) := by simp
structure Src (a b : Int) : Prop where
  h0 : 0 ≤ a
  h1 : 0 ≤ b
  h2 : b < 2147483647
noncomputable abbrev srcC (a b : Int) : Cell := .list [.int a, .int b]
theorem take_src {c : Cx} {σ : St} {P : KV} {k : Nat} {a b t : Int} (o : c.Ok2) (hr : Room c 1) (hk : σ.cs[k]? = some (srcC a b)) (hs : Src a b) (ht : 1 ≤ t) (ht2 : t ≤ 100) (ret : ∀ r a' b', 0 ≤ r → r < t → Src a' b' → P (.int r) (σ.setc k (srcC a' b'))) : AC c (.ref 458) [.cell k, .int t] σ P :=
  take_ac o hr hk hs.h0 hs.h1 hs.h2 ht ht2 fun r a' b' h0 h1 h2 _ h4 h5 => ret r a' b' h0 h1 ⟨h2, h4, h5⟩
theorem one_src {c : Cx} {σ : St} {P : KV} {k : Nat} {a b : Int} {vs : List AV} (o : c.Ok2) (hr : Room c 2) (hk : σ.cs[k]? = some (srcC a b)) (hs : Src a b) (hl : 1 ≤ vs.length) (hl2 : vs.length ≤ 100) (hnc : ∀ v ∈ vs, NC v) (ret : ∀ v a' b', v ∈ vs → Src a' b' → P v (σ.setc k (srcC a' b'))) : AC c (.ref 465) [.cell k, .lst vs] σ P :=
  one_ac o hr hk hs.h0 hs.h1 hs.h2 hl hl2 hnc fun v a' b' h1 h2 _ h4 h5 => ret v a' b' h1 ⟨h2, h4, h5⟩
noncomputable abbrev sSource : Str := Str.ofString "source"
set_option maxHeartbeats 4000000 in
theorem small_ac {c : Cx} {σ : St} {P : KV} {k : Nat} {a b : Int} (o : c.Ok2) (hr : Room c 4) (hk : σ.cs[k]? = some (srcC a b)) (hs : Src a b) (ret : ∀ ad vs ns a' b', Vrs vs ns → ns.length ≤ 2 → Src a' b' → P (oCon ad vs) (σ.setc k (srcC a' b'))) : AC c (.ref 497) [.cell k] σ P := by
  refine enter1 (n := 3) (ns := [sSource]) o (f1 (by kernel_rfl) fun _ => by kernel_rfl) hr hk live_list (List.forall_mem_cons.mpr ⟨.inr (.inl rfl), List.forall_mem_nil _⟩) rfl fun d KK _ od rd kr => (lvl_good od 60).ex _ _ _ ?_
  rw [List.map_cons, ren_self]
  refine AS_comp [sSource] (lvl_good od 50) od rfl rfl (by decide) rfl rfl ⟨by kernel_rfl, by kernel_rfl, trivial⟩ ?_
  refine take_src od (rd.le (by decide)) rfl hs (by decide) (by decide) fun r a1 b1 h0 h1 hs1 => ?_
  refine Need.mk (by constructor <;> omega) ?_
  refine cmpL.rng (fun l ys cs => ∃ ns a' b', ys = strsA ns ∧ l.length + ns.length = r.toNat ∧ cs = [srcC a' b'] ∧ Src a' b') ⟨⟨[], a1, b1, rfl, by unfold intsR; simp, rfl, hs1⟩, ?_, ?_, ?_⟩
  · intro l ys cs j91
    refine x34 j91 fun _ _ _ _ _ e92 _ => ?_
    try clear j91
    obtain rfl := e92
    rfl
  · refine hide2 ?_
    intro G9 hG9 ys cs j93
    refine x34 j93 fun ns a2 b2 e94 hl e95 hs2 => ?_
    try clear j93
    obtain rfl := e94
    obtain rfl := e95
    refine hG9 _ _ ?_
    clear hG9 G9
    have hl : ns.length ≤ 2 := by simp only [List.length_nil] at hl; omega
    refine AE_comp [] (lvl_good od 50) od rfl rfl (by decide) rfl ⟨by kernel_rfl, trivial⟩ ?_
    refine cmpL.mk (fun l ys cs => ∃ n1 n2, ns = n1 ++ n2 ∧ l = strsA n2 ∧ Vrs ys n1 ∧ cs = [srcC a2 b2, .fro (.lst (strsA ns))]) ⟨⟨[], ns, rfl, rfl, .nil, rfl⟩, ?_, ?_, ?_⟩
    · intro l ys cs j96
      refine x24 j96 fun _ _ _ _ _ e97 => ?_
      try clear j96
      obtain rfl := e97
      rfl
    · refine hide2 ?_
      intro G9 hG9 ys cs j98
      refine x24 j98 fun n1 n2 h1 h2 h3 e99 => ?_
      try clear j98
      obtain rfl := e99
      refine hG9 _ _ ?_
      clear hG9 G9
      obtain rfl := List.map_eq_nil_iff.mp h2.symm
      rw [List.append_nil] at h1
      subst h1
      refine AC.imms ?_
      refine ⟨rfl, ?_⟩
      refine mk313 od (rd.le (by decide)) nc_str nc_lst fun ad => ?_
      exact kr.rt _ _ (ret ad ys ns a2 b2 h3 hl hs2)
    · intro C oC m fr mf
      refine hide6 ?_
      intro G9 hG9 x r ys cs KE KN ok j910
      refine x24 j910 fun n1 n2 h1 h2 h3 e911 => ?_
      try clear j910
      obtain rfl := e911
      refine hG9 _ _ _ _ _ _ ?_
      clear hG9 G9
      intro nx nk
      cases n2 with | nil => cases h2 | cons n n2 => ?_
      refine x02 (List.cons.inj h2) fun e912 e913 => ?_
      obtain rfl := e912
      obtain rfl := e913
      refine i12 _ rfl ?_
      refine mk52 ok (rd.le (by decide)) nc_str fun ad => ?_
      exact nk.el _ _ (i24 (n1 ++ [n]) n2 (by rw [h1]; simp) rfl h3.snoc rfl)
  · intro C oC m fr mf
    refine hide6 ?_
    intro G9 hG9 x r ys cs KE KN ok j914
    refine x34 j914 fun ns a2 b2 e915 hl e916 hs2 => ?_
    try clear j914
    obtain rfl := e915
    obtain rfl := e916
    refine hG9 _ _ _ _ _ _ ?_
    clear hG9 G9
    intro nx nk
    refine i12 _ rfl ?_
    refine take_src ok (rd.le (by decide)) rfl hs2 (by decide) (by decide) fun r2 a3 b3 h2 h3 hs3 => ?_
    refine AC_str h2 (by omega) ?_
    refine Need.mk ?_ ?_
    · have e1 : (Str.ofString (toString r2)).length ≤ 10 := toString_length_le h2 (by decide) (by omega)
      have e2 : (Str.ofString "t").length = 1 := by decide
      show (Str.ofString "t").length + (Str.ofString (toString r2)).length ≤ 1000000
      omega
    · exact nk.el _ _ (i34 (ns ++ [Str.ofString "t" ++ Str.ofString (toString r2)]) a3 b3 strsA_snoc (by simp only [List.length_cons, List.length_append, List.length_nil] at hl ⊢; omega) rfl hs3)
end Mine
end
section
open PySem PySem.W PyProof.Rows PySem.Calls PySem.Spec
set_option tactic.hygienic false
set_option maxHeartbeats 400000
namespace Mine
theorem nodup_le {l : List Str} : ∀ m : List Str, l.Nodup → (∀ x ∈ l, x ∈ m) → l.length ≤ m.length := by
  induction l with
  | nil => intro m _ _; exact Nat.zero_le _
  | cons x r ih =>
    intro m hn h
    have hx := h x List.mem_cons_self
    have hn' := List.nodup_cons.mp hn
    have i := ih (m.erase x) hn'.2 fun y hy => (List.mem_erase_of_ne (fun e => hn'.1 (by rw [← e]; exact hy))).mpr (h y (List.mem_cons_of_mem _ hy))
    have hl := List.length_erase_of_mem hx
    have hp := List.length_pos_of_mem hx
    rw [List.length_cons]
    omega
/-! what the binds reach -/
noncomputable def Bnd (bs : List (Str × List Str)) (x : Str) : Prop := ∃ us, (x, us) ∈ bs
inductive Reach (bs : List (Str × List Str)) (ns : List Str) : Str → Prop
  | base {x : Str} : x ∈ ns → Bnd bs x → Reach bs ns x
  | step {y x : Str} {us : List Str} : Reach bs ns y → (y, us) ∈ bs → x ∈ us → Bnd bs x → Reach bs ns x
theorem Reach.bnd {bs : List (Str × List Str)} {ns : List Str} {x : Str} (h : Reach bs ns x) : Bnd bs x := by cases h <;> assumption
theorem Reach.congr {bs : List (Str × List Str)} {ns ms : List Str} (e : ∀ x, x ∈ ns ↔ x ∈ ms) {x : Str} (h : Reach bs ns x) : Reach bs ms x := by
  induction h with
  | base h b => exact .base ((e _).mp h) b
  | step _ h hx b ih => exact .step ih h hx b
structure RInv (bs : List (Str × List Str)) (ns found todo : List Str) : Prop where
  nd : found.Nodup
  fr : ∀ x ∈ found, Reach bs ns x
  tr : ∀ x ∈ todo, Bnd bs x → Reach bs ns x
  ns' : ∀ x ∈ ns, Bnd bs x → x ∈ found ∨ x ∈ todo
  cl : ∀ y ∈ found, ∀ us, (y, us) ∈ bs → ∀ x ∈ us, Bnd bs x → x ∈ found ∨ x ∈ todo
theorem RInv.start {bs : List (Str × List Str)} {ns ms : List Str} (e : ∀ x, x ∈ ms ↔ x ∈ ns) : RInv bs ns [] ms :=
  ⟨.nil, (fun _ h => nomatch h), (fun x h b => .base ((e x).mp h) b), (fun x h _ => Or.inr ((e x).mpr h)), (fun _ h => nomatch h)⟩
theorem RInv.skip {bs : List (Str × List Str)} {ns found todo : List Str} {x : Str} (I : RInv bs ns found (todo ++ [x])) (h : x ∈ found ∨ ¬ Bnd bs x) : RInv bs ns found todo := by
  have key : ∀ z, Bnd bs z → (z ∈ found ∨ z ∈ todo ++ [x]) → z ∈ found ∨ z ∈ todo := by
    rintro z hb (hz | hz)
    · exact Or.inl hz
    · rcases List.mem_append.mp hz with hz | hz
      · exact Or.inr hz
      · rw [List.mem_singleton] at hz
        subst hz
        exact h.elim Or.inl (fun k => absurd hb k)
  exact ⟨I.nd, I.fr, fun z hz b => I.tr z (List.mem_append_left _ hz) b, fun z hz b => key z b (I.ns' z hz b), fun y hy us hu z hz b => key z b (I.cl y hy us hu z hz b)⟩
theorem RInv.take {bs : List (Str × List Str)} {ns found todo us ws : List Str} {x : Str} (I : RInv bs ns found (todo ++ [x])) (hx : x ∉ found) (hb : (x, us) ∈ bs) (hone : ∀ us', (x, us') ∈ bs → us' = us) (hw : ∀ z, z ∈ ws ↔ z ∈ us) : RInv bs ns (found ++ [x]) (todo ++ ws) := by
  have hr : Reach bs ns x := I.tr x (List.mem_append_right _ (List.mem_singleton.mpr rfl)) ⟨us, hb⟩
  have key : ∀ z, (z ∈ found ∨ z ∈ todo ++ [x]) → z ∈ found ++ [x] ∨ z ∈ todo ++ ws := by
    rintro z (hz | hz)
    · exact Or.inl (List.mem_append_left _ hz)
    · rcases List.mem_append.mp hz with hz | hz
      · exact Or.inr (List.mem_append_left _ hz)
      · exact Or.inl (List.mem_append_right _ hz)
  refine ⟨?_, fun z hz => ?_, fun z hz b => ?_, fun z hz b => key z (I.ns' z hz b), fun y hy vs hv z hz b => ?_⟩
  · rw [List.nodup_append]
    refine i03 I.nd (by simp) (fun a ha c hc e => ?_)
    rw [List.mem_singleton] at hc
    subst hc; subst e
    exact hx ha
  · rcases List.mem_append.mp hz with hz | hz
    · exact I.fr z hz
    · rw [List.mem_singleton] at hz; subst hz; exact hr
  · rcases List.mem_append.mp hz with hz | hz
    · exact I.tr z (List.mem_append_left _ hz) b
    · exact .step hr hb ((hw z).mp hz) b
  · rcases List.mem_append.mp hy with hy | hy
    · exact key z (I.cl y hy vs hv z hz b)
    · rw [List.mem_singleton] at hy
      subst hy
      rw [hone vs hv] at hz
      exact Or.inr (List.mem_append_right _ ((hw z).mpr hz))
theorem RInv.done {bs : List (Str × List Str)} {ns found : List Str} (I : RInv bs ns found []) (x : Str) : x ∈ found ↔ Reach bs ns x := by
  refine ⟨I.fr x, fun h => ?_⟩
  induction h with
  | base h b => exact (I.ns' _ h b).resolve_right fun k => nomatch k
  | step _ h hx b ih => exact (I.cl _ ih _ h _ hx b).resolve_right fun k => nomatch k
theorem RInv.len {bs : List (Str × List Str)} {ns found todo : List Str} (I : RInv bs ns found todo) : found.length ≤ bs.length := by
  have h := nodup_le (l := found) (bs.map (·.1)) I.nd fun x hx => by
    refine x11 ((I.fr x hx).bnd) fun us hu => ?_
    exact List.mem_map.mpr (i12 _ hu rfl)
  simpa using h
theorem RInv.room {bs : List (Str × List Str)} {ns found todo us : List Str} {x : Str} (I : RInv bs ns found todo) (hx : x ∉ found) (hb : (x, us) ∈ bs) : found.length + 1 ≤ bs.length := by
  have h := nodup_le (l := x :: found) (bs.map (·.1)) (List.nodup_cons.mpr ⟨hx, I.nd⟩) fun z hz => by
    rcases List.mem_cons.mp hz with rfl | hz
    · exact List.mem_map.mpr (i12 _ hb rfl)
    · refine x11 ((I.fr z hz).bnd) fun vs hv => ?_
      exact List.mem_map.mpr (i12 _ hv rfl)
  simpa using h
end Mine
end
section
open PySem PySem.W PyProof.Rows PySem.Calls PySem.Spec
set_option tactic.hygienic false
set_option maxHeartbeats 400000
namespace Mine
inductive Bds : List AV → List (Str × List Str) → Prop
  | nil : Bds [] []
  | cons {n ad vs us bs xs} : Vrs vs us → us.length ≤ 2 → Bds bs xs → Bds (.tup [.str n, oCon ad vs] :: bs) ((n, us) :: xs)
theorem Bds.len {bs : List AV} {xs : List (Str × List Str)} (h : Bds bs xs) : bs.length = xs.length := by
  induction h with
  | nil => rfl
  | cons _ _ _ ih => exact congrArg (· + 1) ih
section
variable {c : Cx} {σ : St} {P : KV}
theorem at_app {cs ds : List Cell} {j : Nat} {x : Cell} (h : cs[j]? = some x) : (cs ++ ds)[j]? = some x := by
  rw [List.getElem?_append_left (List.getElem?_eq_some_iff.mp h).1]; exact h
theorem at_push {cs : List Cell} {x : Cell} : (cs ++ [x])[cs.length]? = some x := by
  rw [List.getElem?_append_right (Nat.le_refl _), Nat.sub_self]; rfl
theorem at_set {cs : List Cell} {j : Nat} {x y : Cell} (h : cs[j]? = some x) : (cs.set j y)[j]? = some y := by
  rw [List.getElem?_set_self (List.getElem?_eq_some_iff.mp h).1]
theorem lst_at {j : Nat} {l : List AV} (h : σ.cs[j]? = some (.list l)) : lstOf (.cell j) σ = some l := by
  show σ.cs[j]?.bind Cell.lst? = some l
  rw [h]; rfl
theorem OP_neNil {x y : AV} {l : List AV} (hr : Room c 1) (ex : lstOf x σ = some l) (ey : lstOf y σ = some []) (h : P (.bool !l.isEmpty) σ) : OP c (compareOp .NotEq) x y σ P := (OP_nil hr ex ey).2 h
theorem OP_eqNil {x y : AV} {l : List AV} (hr : Room c 1) (ex : lstOf x σ = some l) (ey : lstOf y σ = some []) (h : P (.bool l.isEmpty) σ) : OP c (compareOp .Eq) x y σ P := (OP_nil hr ex ey).1 h
theorem OP_strIn {x : Str} {v : AV} {ks : List Str} (e : lstOf v σ = some (strsA ks)) (h : P (.bool (decide (x ∈ ks))) σ) : OP c (compareOp .In) (.str x) v σ P := (OP_inL e).1 h
theorem OP_strNin {x : Str} {v : AV} {ks : List Str} (e : lstOf v σ = some (strsA ks)) (h : P (.bool (!decide (x ∈ ks))) σ) : OP c (compareOp .NotIn) (.str x) v σ P := (OP_inL e).2 h
theorem AC_list {v : AV} {l : List AV} (e : lstOf v σ = some l) (h : P (.cell σ.cs.length) (σ.push (.list l))) : AC c (.type "list") [v] σ P := by
  intro T s us Q E hl r k
  refine x11 (us1 hl) fun u e91 => ?_
  obtain rfl := e91
  refine Rel.out r fun m adr M K R r => ?_
  refine r.lstM (Q := fun u => wpAny c.M c.A (call (Value.type "list") [u]) Q E s) List.mem_cons_self e fun a vs n hl1 hz hm => ?_
  refine kup_listOf r.F r.N hm rfl (fun D n' h' F' N' l1 => ?_) (by rw [List.toList_toArray, hl1.len, sizeLine_eq]; omega)
  exact k _ _ _ _ h (r.tail.live (s' := { s with heap := h' }) F' N' (fun p hp => Nat.ne_of_lt (l1 p hp)) (.list hz (by rw [List.toList_toArray]; exact hl1)) rfl rfl)
theorem m_popL {L : Lvl} {k : Nat} {l : List AV} {x : AV} (e : σ.cs[k]? = some (.list (l ++ [x]))) (h : P x (σ.setc k (.list l))) : methE L c (.cell k) (Str.ofString "pop") [] σ P := by
  have e1 : (AV.cell k).ins σ = none := by show σ.cs[k]?.bind Cell.inst? = none; rw [e]; rfl
  have e2 : σ.cs[k]?.bind Cell.list? = some (l ++ [x]) := by rw [e]; rfl
  have h2 : optL (σ.cs[k]?.bind Cell.list?) (fun l => Pop l fun l' y => P y (σ.setc k (.list l'))) False := by rw [e2]; exact ⟨l, x, rfl, h⟩
  show optL ((AV.cell k).ins σ) _ (optL (σ.cs[k]?.bind Cell.list?) _ False)
  rw [e1, e2]
  exact h2
theorem bin_addL {x y : AV} {l l' : List AV} (hx : lstOf x σ = some l) (hy : lstOf y σ = some l') (nx : x.lv = true) (hz : l.length + l'.length ≤ 16000000) (h : P (.cell σ.cs.length) (σ.push (.list (l ++ l')))) : binA c .Add x y σ P := by
  have h2 : optL (lstOf x σ) (fun l => optL (lstOf y σ) (fun l' => Need (l.length + l'.length ≤ 16000000) (P (.cell σ.cs.length) (σ.push (.list (l ++ l'))))) False) False := by rw [hx, hy]; exact ⟨hz, h⟩
  cases x <;> first | exact h2 | cases nx
theorem isTup_p {L : Lvl} {es : List PySem.Expr} {k k2 : Nat} {tp p2 pos : Pos} {ts : List PySem.Expr} {names : List Str} {P : KF} (g : L.Good c) (o : c.Ok2) (hs : es.any isStar = false) (hz : Nat.ble es.length 1000 = true) (hnm : namesOf ts = some names)
    (hw : swappedStores [.Tuple ts k tp] (.Tuple es k2 p2) c.env = pure none) (h : evs L es σ fun vs σ1 => storesN c names vs σ1 (P .next)) : AS c (.Assign [.Tuple ts k tp] (.Tuple es k2 p2) pos) σ P := by
  refine ⟨fun T s Q E hE r kk => ?_⟩
  refine Assign_Tuple (Tuple_ (evs_ok g hs hE r h fun vs us σ' s' h' hl hl2 r' => ?_)) (sole_none rfl) hw
  refine Rel.out r' fun m adr M K R r' => ?_
  refine x03 (namesOf_out (c := c) hnm) fun e1 e2 e3 => ?_
  refine kup_newTuple r'.F r'.N (fun D h1 F1 N1 hlt => ?_) (by rw [sizeLine_eq]; have := Nat.le_of_ble_eq_true hz; omega)
  have r2 := r'.still (s' := { s' with heap := h1 }) (q := (D, tupOf us)) F1 N1 (fun p hp => Nat.ne_of_lt (hlt p hp)) rfl rfl
  refine unpackN_ r2.F r2.N (News.isTup r2.N (r2.still? List.mem_cons_self)) rfl (by rw [e1, List.size_toArray, ← hl, storesN_len h']) e2 fun h2 F2 N2 => ?_
  have r3 : RelD c σ' (vs.zip us ++ T) { s' with heap := h2 } m adr M K ((D, tupOf us) :: R) := r2.heap F2 N2 rfl rfl
  exact storesN_ok (T := T) o e3 h' hl r3.rel (hst kk)
end
noncomputable abbrev sFound : Str := Str.ofString "found"
noncomputable abbrev sLeft : Str := Str.ofString "left"
noncomputable abbrev sBinds : Str := Str.ofString "binds"
noncomputable abbrev sName : Str := Str.ofString "name"
noncomputable def LeJ (bs : List AV) (xs : List (Str × List Str)) (nm : List Str) (k : Nat) (σ : St) : Prop := ∃ (fs ts : List Str) (cs : List Cell) (j : Nat), σ = ⟨[(sBinds, .lst bs), (sFound, .cell 0), (sLeft, .cell (j + 1))], .list (strsA fs) :: cs⟩ ∧
  cs[j]? = some (.list (strsA ts)) ∧ RInv xs nm fs ts ∧ 3 * (xs.length - fs.length) + ts.length = k ∧ k ≤ 200
noncomputable def LeK (bs : List AV) (xs : List (Str × List Str)) (nm : List Str) (y : Str) (k : Nat) (l : List AV) (σ : St) : Prop := ∃ (fs ts : List Str) (cs : List Cell) (j : Nat) (x1 x2 : List (Str × List Str)), σ = ⟨[(sBinds, .lst bs), (sFound, .cell 0), (sLeft, .cell (j + 1)), (sName, .str y)], .list (strsA fs) :: cs⟩ ∧
  cs[j]? = some (.list (strsA ts)) ∧ Bds l x2 ∧ xs = x1 ++ x2 ∧ ((RInv xs nm fs (ts ++ [y]) ∧ (y ∈ fs ∨ ∀ us, (y, us) ∈ xs → (y, us) ∈ x2)) ∨ (RInv xs nm fs ts ∧ y ∈ fs)) ∧ 3 * (xs.length - fs.length) + ts.length < k ∧ fs.length ≤ xs.length ∧ k ≤ 200
theorem nodup_val {xs : List (Str × List Str)} (h : (xs.map (·.1)).Nodup) {n : Str} {a b : List Str} (ha : (n, a) ∈ xs) (hb : (n, b) ∈ xs) : a = b := by
  induction xs with
  | nil => cases ha
  | cons c r ih =>
    rw [List.map_cons, List.nodup_cons] at h
    rcases List.mem_cons.mp ha with h1 | h1 <;> rcases List.mem_cons.mp hb with h2 | h2
    · rw [← h1] at h2; exact (Prod.mk.inj h2).2.symm
    · exact absurd (List.mem_map.mpr ⟨_, h2, by rw [← h1]⟩) h.1
    · exact absurd (List.mem_map.mpr ⟨_, h1, by rw [← h2]⟩) h.1
    · exact ih h.2 h1 h2
set_option maxHeartbeats 8000000 in
theorem led_ac {c : Cx} {σ : St} {P : KV} {bs : List AV} {xs : List (Str × List Str)} {nm : List Str} (o : c.Ok2) (hr : Room c 3) (hB : Bds bs xs) (hn : (xs.map (·.1)).Nodup) (hz : xs.length ≤ 50) (hm : nm.length ≤ 50) (ret : ∀ fs, (∀ x, x ∈ fs ↔ Reach xs nm x) → fs.length ≤ xs.length → P (.lst (strsA fs)) σ) : AC c (.ref 502) [.lst bs, .lst (strsA nm)] σ P := by
  refine enter0 (ns := [sBinds, Str.ofString "names"]) o (.of (by kernel_rfl) (bd2 fun _ _ => by kernel_rfl)) hr (List.forall_mem_cons.mpr ⟨nc_lst, List.forall_mem_cons.mpr ⟨nc_lst, List.forall_mem_nil _⟩⟩) rfl fun d KK _ od rd kr => (lvl_good od 60).ex _ _ _ ?_
  refine AC_list rfl ?_
  refine AS_while [sBinds, sFound, sLeft] (LeJ bs xs nm) (lvl_good od 60) (3 * xs.length + nm.length) ?_ ?_
  · exact i45 [] nm [.list (strsA nm)] 0 rfl rfl (.start fun _ => Iff.rfl) rfl (by omega)
  · refine hide3 ?_
    intro G9 hG9 k σ' KW j93
    refine x45 j93 fun fs ts cs j e94 hj hI hk h2 => ?_
    try clear j93
    obtain rfl := e94
    refine hG9 _ _ _ ?_
    clear hG9 G9
    intro nk
    have hf := hI.len
    refine OP_neNil (l := strsA ts) (rd.le (by decide)) ?ex ?ey ?_
    case ex => exact lst_at (show (cs ++ [Cell.list []])[j]? = _ from at_app hj)
    case ey => exact lst_at (show (cs ++ [Cell.list []])[cs.length]? = _ from at_push)
    rcases List.eq_nil_or_concat ts with rfl | ⟨ts, y, rfl⟩
    · refine Br.ff ?_
      exact kr.rt _ _ (ret fs hI.done hf)
    · rw [List.concat_eq_append] at *
      rw [strsA, List.map_append] at hj
      refine Br.t (by simp) ?_
      refine m_popL (l := strsA ts) (x := .str y) (show (cs ++ [Cell.list []])[j]? = _ from at_app hj) ?_
      refine AS_for (lvl_good od 60) od rfl rfl ?_
      refine forL.mk [sBinds, sFound, sLeft, sName] (LeK bs xs nm y k) ⟨?_, ?_, ?_⟩
      · refine Cut.all ?_ ?_
        · have hlt := (List.getElem?_eq_some_iff.mp hj).1
          refine List.all_eq_true.mpr (List.forall_mem_cons.mpr ⟨rfl, List.forall_mem_cons.mpr ⟨?_, List.forall_mem_cons.mpr ⟨?_, List.forall_mem_cons.mpr ⟨rfl, List.forall_mem_nil _⟩⟩⟩⟩)
          · exact Nat.ble_eq_true_of_le (Nat.succ_le_succ (Nat.zero_le _))
          · refine Nat.ble_eq_true_of_le (Nat.succ_le_succ (Nat.succ_le_of_lt ?_))
            show j < ((cs ++ [Cell.list []]).set j _).length
            rw [List.length_set, List.length_append]; exact Nat.lt_add_right _ hlt
        · exact i68 fs ts _ j [] xs rfl (at_set (at_app hj)) hB rfl (.inl ⟨hI, .inr fun _ h => h⟩) (by rw [List.length_append] at hk; simp only [List.length_cons, List.length_nil] at hk; omega) hf h2
      · refine hide1 ?_
        intro G9 hG9 σ' j95
        refine x68 j95 fun fs ts cs j x1 x2 e96 hj hb e97 hst hlt hf hk2 => ?_
        try clear j95
        obtain rfl := e96
        obtain rfl := e97
        refine hG9 _ ?_
        clear hG9 G9
        cases hb
        refine nk.nk _ ⟨_, hlt, fs, ts, cs, j, rfl, hj, ?_, rfl, by omega⟩
        rcases hst with ⟨hR, hy⟩ | ⟨hR, _⟩
        · exact hR.skip (hy.imp id fun h hb => by obtain ⟨us, hu⟩ := hb; cases h us hu)
        · exact hR
      · intro fr mf
        refine hide4 ?_
        intro G9 hG9 p r σ' KJ o' j98
        refine x68 j98 fun fs ts cs j x1 x2 e99 hj hb e910 hst hlt hf hk2 => ?_
        try clear j98
        obtain rfl := e99
        obtain rfl := e910
        refine hG9 _ _ _ _ ?_
        clear hG9 G9
        intro np nj
        cases hb with | @cons n ad vs us _ x3 hv hu hb => ?_
        have hin : (n, us) ∈ x1 ++ (n, us) :: x3 := by simp
        refine IfK.join (fun σ' => ∃ (fs ts : List Str) (cs : List Cell) (j : Nat), σ' = ⟨[(sBinds, .lst bs), (sFound, .cell 0), (sLeft, .cell (j + 1)), (sName, .str y), (Str.ofString "own", .str n), (Str.ofString "value", oCon ad vs)], .list (strsA fs) :: cs⟩ ∧
          cs[j]? = some (.list (strsA ts)) ∧ ((RInv (x1 ++ (n, us) :: x3) nm fs (ts ++ [y]) ∧ (y ∈ fs ∨ ∀ us', (y, us') ∈ x1 ++ (n, us) :: x3 → (y, us') ∈ x3)) ∨ (RInv (x1 ++ (n, us) :: x3) nm fs ts ∧ y ∈ fs)) ∧ 3 * ((x1 ++ (n, us) :: x3).length - fs.length) + ts.length < k ∧ fs.length ≤ (x1 ++ (n, us) :: x3).length) ?_ ?_
        · refine hide1 ?_
          intro G9 hG9 σ' j911
          refine x45 j911 fun fs ts cs j e912 hj hst hlt hf => ?_
          try clear j911
          obtain rfl := e912
          refine hG9 _ ?_
          clear hG9 G9
          exact nj.nk _ (i68 fs ts cs j (x1 ++ [(n, us)]) x3 rfl hj hb (by simp) hst hlt hf hk2)
        · intro K' hK'
          have stay : (n = y → y ∈ fs) → K' .next ⟨[(sBinds, .lst bs), (sFound, .cell 0), (sLeft, .cell (j + 1)), (sName, .str y), (Str.ofString "own", .str n), (Str.ofString "value", oCon ad vs)], .list (strsA fs) :: cs⟩ := fun hne =>
            hK' _ ⟨fs, ts, cs, j, rfl, hj, hst.imp (fun ⟨hR, h⟩ => ⟨hR, h.elim .inl fun h => (Classical.em (n = y)).imp hne fun hn us' hu' => (List.mem_cons.mp (h us' hu')).elim (fun e => absurd (Prod.mk.inj e).1.symm hn) id⟩) id, hlt, hf⟩
          refine Br.mk (fun h1 => ?_) (fun h1 => ?_)
          · have e := eq_of_beq h1
            have hin : (y, us) ∈ x1 ++ (n, us) :: x3 := by rw [← e]; exact hin
            refine OP_strNin (ks := fs) rfl ?_
            refine Br.mk (fun h3 => ?_) (fun h3 => ?_)
            · have hy : y ∉ fs := by simpa using h3
              have hR := (hst.resolve_right fun h => hy h.2).1
              refine Br.tt ?_
              have hrm := hR.room hy hin
              refine Need.mk (by rw [List.length_map]; omega) ?_
              refine AE_comp [] (lvl_good o' 50) o' rfl rfl (by decide) rfl ⟨by kernel_rfl, trivial⟩ ?_
              refine cmpL.mk (fun l ys cs' => ∃ u1 u2, us = u1 ++ u2 ∧ Vrs l u2 ∧ ys = strsA u1 ∧ cs' = .list (strsA fs ++ [.str y]) :: cs) ⟨⟨[], us, rfl, hv, rfl, rfl⟩, ?_, ?_, ?_⟩
              · intro l ys cs' j913
                refine x24 j913 fun _ _ _ _ _ e914 => ?_
                try clear j913
                obtain rfl := e914
                rfl
              · refine hide2 ?_
                intro G9 hG9 ys cs' j915
                refine x24 j915 fun u1 u2 h5 h6 e916 e917 => ?_
                try clear j915
                obtain rfl := e916
                obtain rfl := e917
                refine hG9 _ _ ?_
                clear hG9 G9
                cases h6
                rw [List.append_nil] at h5
                subst h5
                refine bin_addL (l := strsA ts) (l' := strsA us) ?_ ?_ rfl ?_ ?_
                · exact lst_at (show (cs ++ [Cell.list (strsA us)])[j]? = _ from at_app hj)
                · exact lst_at (show (cs ++ [Cell.list (strsA us)])[cs.length]? = _ from at_push)
                · simp only [List.length_map]; omega
                · refine hK' _ (i45 (fs ++ [y]) (ts ++ us) _ ((cs ++ [Cell.list (strsA us)]).length) ?_ at_push (.inr ⟨hR.take hy hin (fun us' hu' => nodup_val hn hu' hin) fun _ => Iff.rfl, by simp⟩) ?_ ?_)
                  · rw [← strsA_snoc, show strsA (ts ++ us) = strsA ts ++ strsA us from List.map_append]; rfl
                  · simp only [List.length_append, List.length_cons, List.length_nil] at hlt hf hrm ⊢
                    omega
                  · rw [List.length_append]; exact hrm
              · intro C oC m fr mf
                refine hide6 ?_
                intro G9 hG9 x r ys cs' KE KN ok j918
                refine x24 j918 fun u1 u2 h5 h6 e919 e920 => ?_
                try clear j918
                obtain rfl := e919
                obtain rfl := e920
                refine hG9 _ _ _ _ _ _ ?_
                clear hG9 G9
                intro nx nk2
                cases h6 with | @cons a9 n9 vs9 ns9 h6 => ?_
                refine i12 _ rfl ?_
                exact nk2.el _ _ (i24 (u1 ++ [n9]) ns9 (by rw [h5]; simp) h6 strsA_snoc List.take_length)
            · refine Br.ff ?_
              exact stay fun _ => by simpa using h3
          · refine Br.ff ?_
            exact stay fun e => by rw [e, beq_self_eq_true] at h1; cases h1
end Mine
end
section
open PySem PySem.W PyProof.Rows PySem.Calls PySem.Spec
set_option tactic.hygienic false
set_option maxHeartbeats 400000
namespace Mine
theorem Vrs.mem {vs : List AV} {us : List Str} (h : Vrs vs us) : ∀ v ∈ vs, ∃ a n, v = oVar a n := by
  induction h with
  | nil => intro v h; cases h
  | cons _ ih => intro v hv; exact (List.mem_cons.mp hv).elim (fun e => ⟨_, _, e⟩) (ih v)
noncomputable def conT (ad : Addr) (vs : List AV) : Tr := .node (oCon ad vs) (vs.map fun v => .node v [])
theorem conT_wf {ad : Addr} {vs : List AV} {us : List Str} (h : Vrs vs us) : Wf (conT ad vs) := by
  refine .node (by rw [List.map_map]; rw [show (Tr.v ∘ fun v => Tr.node v []) = id from rfl, List.map_id]; exact .con) fun k hk => ?_
  refine x12 (List.mem_map.mp hk) fun v hv e91 => ?_
  obtain rfl := e91
  refine .node ?_ (fun _ h => (by cases h))
  refine x21 (h.mem v hv) fun a n e92 => ?_
  obtain rfl := e92
  exact .var
theorem conT_size {ad : Addr} {vs : List AV} {us : List Str} (h : Vrs vs us) : size (conT ad vs) = 1 + us.length := by
  show 1 + sizeL (vs.map fun v => Tr.node v []) = _
  congr 1
  induction h with
  | nil => rfl
  | cons _ ih => show 1 + 0 + sizeL _ = _; rw [ih, List.length_cons]; omega
theorem conT_vars {ad : Addr} {vs : List AV} {us : List Str} (h : Vrs vs us) : vars (nodes (conT ad vs)) = us := by
  show List.filterMap vname (oCon ad vs :: nodesL (vs.map fun v => Tr.node v [])) = us
  rw [List.filterMap_cons]
  show List.filterMap vname (nodesL (vs.map fun v => Tr.node v [])) = us
  induction h with
  | nil => rfl
  | @cons a n vs ns _ ih =>
    show List.filterMap vname (oVar a n :: nodesL (vs.map fun v => Tr.node v [])) = _
    rw [List.filterMap_cons]
    show n :: _ = _
    rw [ih]
noncomputable def keepB (p : Str → Bool) (bs : List AV) (xs : List (Str × List Str)) : List AV := ((bs.zip xs).filter fun q => p q.2.1).map (·.1)
theorem keepB_snoc {p : Str → Bool} {b1 : List AV} {x1 : List (Str × List Str)} (h : b1.length = x1.length) {v : AV} {n : Str} {us : List Str} : keepB p (b1 ++ [v]) (x1 ++ [(n, us)]) = keepB p b1 x1 ++ cond (p n) [v] [] := by
  unfold keepB
  rw [List.zip_append h, List.filter_append, List.map_append]
  congr 1
  show List.map _ (List.filter _ [(v, (n, us))]) = _
  rw [List.filter_cons]
  cases p n <;> rfl
inductive Dx : List (Str × AV) → List (Str × List Str) → Prop
  | nil : Dx [] []
  | cons {n ad vs us l xs} : Vrs vs us → us.length ≤ 2 → Dx l xs → Dx ((n, oCon ad vs) :: l) ((n, us) :: xs)
theorem Dx.snoc {l : List (Str × AV)} {xs : List (Str × List Str)} (h : Dx l xs) {n : Str} {ad : Addr} {vs : List AV} {us : List Str} (hv : Vrs vs us) (hu : us.length ≤ 2) : Dx (l ++ [(n, oCon ad vs)]) (xs ++ [(n, us)]) := by
  induction h with
  | nil => exact .cons hv hu .nil
  | cons a b _ ih => exact .cons a b ih
theorem Dx.keys {l : List (Str × AV)} {xs : List (Str × List Str)} (h : Dx l xs) : l.map (·.1) = xs.map (·.1) := by
  induction h with
  | nil => rfl
  | cons _ _ _ ih => exact congrArg (_ :: ·) ih
theorem Dx.find {l : List (Str × AV)} {xs : List (Str × List Str)} (h : Dx l xs) (y : Str) : (lk y l = none ∧ ¬ Bnd xs y) ∨ ∃ ad vs us, lk y l = some (oCon ad vs) ∧ (y, us) ∈ xs ∧ Vrs vs us ∧ us.length ≤ 2 := by
  induction h with
  | nil => exact .inl ⟨rfl, fun ⟨_, h⟩ => by cases h⟩
  | @cons n ad vs us l xs hv hu _ ih =>
    have e1 : lk y ((n, oCon ad vs) :: l) = cond (seq y n) (some (oCon ad vs)) (lk y l) := rfl
    rw [e1]
    cases q : seq y n with
    | true => exact .inr ⟨ad, vs, us, rfl, by rw [seq_eq q]; exact List.mem_cons_self, hv, hu⟩
    | false =>
      rcases ih with ⟨h1, h2⟩ | ⟨ad', vs', us', h1, h2, h3⟩
      · refine .inl ⟨h1, fun ⟨us', h⟩ => ?_⟩
        rcases List.mem_cons.mp h with h | h
        · rw [(Prod.mk.inj h).1, seq_iff, beq_self_eq_true] at q; cases q
        · exact h2 ⟨us', h⟩
      · exact .inr (i33 ad' vs' us' h1 (List.mem_cons_of_mem _ h2) h3)
theorem dsto_new {l : List (Str × AV)} {k : Str} {v : AV} (h : k ∉ l.map (·.1)) : dsto l k v = l ++ [(k, v)] := by
  unfold dsto
  rw [if_neg]
  intro e
  refine x12 (List.any_eq_true.mp e) fun q h1 h2 => ?_
  exact h (List.mem_map.mpr ⟨q, h1, of_decide_eq_true h2⟩)
theorem lk_some {l : List (Str × AV)} {y : Str} : (lk y l).isSome = decide (y ∈ l.map (·.1)) := by
  induction l with
  | nil => rfl
  | cons q l ih =>
    have e1 : lk y (q :: l) = cond (seq y q.1) (some q.2) (lk y l) := rfl
    rw [e1]
    cases h : seq y q.1 with
    | true => exact (decide_eq_true (by rw [seq_eq h]; exact List.mem_cons_self)).symm
    | false =>
      rw [cond_false, ih]
      refine decide_eq_decide.mpr ⟨fun q => List.mem_cons_of_mem _ q, fun z => (List.mem_cons.mp z).elim (fun e => ?_) id⟩
      rw [e, seq_iff, beq_self_eq_true] at h; cases h
noncomputable abbrev sExprs : Str := Str.ofString "exprs"
noncomputable abbrev sWanted : Str := Str.ofString "wanted"
noncomputable abbrev sTasks : Str := Str.ofString "tasks"
noncomputable def ReJ (bs : List AV) (xs : List (Str × List Str)) (nm : List Str) (l : List (Str × AV)) (k : Nat) (σ : St) : Prop := ∃ (lw : List (Str × AV)) (ts : List Str), σ = ⟨[(sBinds, .lst bs), (sTasks, .cell 2), (sWanted, .cell 1), (sExprs, .cell 0)], [.dict l, .dict lw, .list (strsA ts)]⟩ ∧
  RInv xs nm (lw.map (·.1)) ts ∧ 3 * (xs.length - lw.length) + ts.length = k ∧ k ≤ 1000
set_option maxHeartbeats 8000000 in
theorem reach_ac {c : Cx} {σ : St} {P : KV} {bs : List AV} {xs : List (Str × List Str)} {nm : List Str} (o : c.Ok2) (hr : Room c 7) (hB : Bds bs xs) (hn : (xs.map (·.1)).Nodup) (hz : xs.length ≤ 50) (hm : nm.length ≤ 50) (ret : ∀ fs : List Str, (∀ x, x ∈ fs ↔ Reach xs nm x) → P (.lst (keepB (fun x => decide (x ∈ fs)) bs xs)) σ) : AC c (.ref 418) [.lst bs, .lst (strsA nm)] σ P := by
  refine enter0 (ns := [sBinds, Str.ofString "names"]) o (.of (by kernel_rfl) (bd2 fun _ _ => by kernel_rfl)) hr (List.forall_mem_cons.mpr ⟨nc_lst, List.forall_mem_cons.mpr ⟨nc_lst, List.forall_mem_nil _⟩⟩) rfl fun d KK _ od rd kr => (lvl_good od 60).ex _ _ _ ?_
  refine isTup_p (names := [sExprs, sWanted, sTasks]) (lvl_good od 60) od rfl rfl rfl (by kernel_rfl) ?_
  refine AE_dict od ?_
  refine AE_dict od ?_
  refine AC_sortL (ks := nm) rfl (by omega) fun ss hp _ => ?_
  refine AS_for (lvl_good od 60) od rfl rfl ?_
  refine forL.mk [sBinds, sTasks, sWanted, sExprs] (fun q σ => ∃ l x1 x2, σ = ⟨[(sBinds, .lst bs), (sTasks, .cell 2), (sWanted, .cell 1), (sExprs, .cell 0)], [.dict l, .dict [], .list (strsA ss)]⟩ ∧ Dx l x1 ∧ Bds q x2 ∧ xs = x1 ++ x2) ⟨?_, ?_, ?_⟩
  · exact i34 [] [] xs rfl .nil hB rfl
  · refine hide1 ?_
    intro G9 hG9 σ' j93
    refine x34 j93 fun l x1 x2 e94 hD hb he => ?_
    try clear j93
    obtain rfl := e94
    refine hG9 _ ?_
    clear hG9 G9
    cases hb
    rw [List.append_nil] at he
    subst he
    have hlen : ss.length = nm.length := hp.length_eq
    refine AS_while [sBinds, sTasks, sWanted, sExprs] (ReJ bs xs nm l) (lvl_good od 60) (3 * xs.length + ss.length) ?_ ?_
    · exact i24 [] ss rfl (.start fun x => hp.mem_iff) rfl (by omega)
    · refine hide3 ?_
      intro G9 hG9 k σ' KW j95
      refine x24 j95 fun lw ts e96 hI hk hk2 => ?_
      try clear j95
      obtain rfl := e96
      refine hG9 _ _ _ ?_
      clear hG9 G9
      intro nk
      have hf := hI.len
      rw [List.length_map] at hf
      rcases List.eq_nil_or_concat ts with rfl | ⟨ts, y, rfl⟩
      · refine Br.ff ?_
        refine AE_comp [sWanted] (lvl_good od 50) od rfl rfl (by decide) rfl ⟨by kernel_rfl, by kernel_rfl, trivial⟩ ?_
        refine cmpL.mk (fun q ys cs => ∃ b1 x1 x2, Bds q x2 ∧ xs = x1 ++ x2 ∧ b1 ++ q = bs ∧ b1.length = x1.length ∧ ys = keepB (fun x => decide (x ∈ lw.map (·.1))) b1 x1 ∧ cs = [.dict l, .dict lw, .list []]) ⟨⟨[], [], xs, hB, rfl, rfl, rfl, rfl, rfl⟩, ?_, ?_, ?_⟩
        · intro q ys cs j97
          refine x36 j97 fun _ _ _ _ _ _ _ _ e98 => ?_
          try clear j97
          obtain rfl := e98
          rfl
        · refine hide2 ?_
          intro G9 hG9 ys cs j99
          refine x36 j99 fun b1 x1 x2 h1 h2 h3 h4 e910 e911 => ?_
          try clear j99
          obtain rfl := e910
          obtain rfl := e911
          refine hG9 _ _ ?_
          clear hG9 G9
          cases h1
          rw [List.append_nil] at h2 h3
          subst h2 h3
          exact kr.rt _ _ (ret _ hI.done)
        · intro C oC m fr mf
          refine hide6 ?_
          intro G9 hG9 x r ys cs KE KN ok j912
          refine x36 j912 fun b1 x1 x2 h1 h2 h3 h4 e913 e914 => ?_
          try clear j912
          obtain rfl := e913
          obtain rfl := e914
          refine hG9 _ _ _ _ _ _ ?_
          clear hG9 G9
          intro nx nk2
          cases h1 with | @cons n ad vs us _ x3 hv hu h1 => ?_
          refine i12 _ rfl ?_
          refine OP_in rfl ?_
          rw [lk_some]
          refine Br.mk (fun hb => ?_) (fun hb => ?_)
          · refine nk2.el _ _ (i36 (b1 ++ [.tup [.str n, oCon ad vs]]) (x1 ++ [(n, us)]) x3 h1 (by rw [h2]; simp) (by rw [← h3]; simp) (by simp [h4]) ?_ rfl)
            rw [keepB_snoc h4, hb]; rfl
          · refine nk2.no _ (i36 (b1 ++ [.tup [.str n, oCon ad vs]]) (x1 ++ [(n, us)]) x3 h1 (by rw [h2]; simp) (by rw [← h3]; simp) (by simp [h4]) ?_ rfl)
            rw [keepB_snoc h4, hb, cond_false, List.append_nil]
      · rw [List.concat_eq_append] at *
        rw [strsA, List.map_append]
        refine Br.t (by simp) ?_
        refine Pop.mk (xs := strsA ts) (x := .str y) ?_
        have skip : (y ∈ lw.map (·.1) ∨ ¬ Bnd xs y) → KW .next ⟨[(sBinds, .lst bs), (sTasks, .cell 2), (sWanted, .cell 1), (sExprs, .cell 0), (sName, .str y)], [.dict l, .dict lw, .list (strsA ts)]⟩ := fun h =>
          nk.nx _ ⟨3 * (xs.length - lw.length) + ts.length, by rw [List.length_append] at hk; simp only [List.length_cons, List.length_nil] at hk; omega, lw, ts, rfl, hI.skip h, rfl, by rw [List.length_append] at hk; omega⟩
        refine IfK.mk ?_
        refine OP_in rfl ?_
        rcases hD.find y with ⟨h1, h2⟩ | ⟨ad, vs, us, h1, h2, hv, hu⟩
        · rw [h1]
          refine Br.ff ?_
          refine Br.ff ?_
          exact skip (.inr h2)
        · rw [h1]
          refine Br.tt ?_
          refine OP_notin rfl ?_
          rw [lk_some]
          by_cases hy : y ∈ lw.map (·.1)
          · rw [decide_eq_true hy]
            refine Br.ff ?_
            refine Br.ff ?_
            exact skip (.inl hy)
          · rw [decide_eq_false hy]
            refine Br.tt ?_
            refine Br.tt ?_
            have hrm := hI.room hy h2
            rw [List.length_map] at hrm
            refine SI_dict ?_
            refine Need.mk (by omega) ?_
            refine SU_dict (l := l) rfl h1 ?_
            refine used_ac (t := conT ad vs) od (rd.le (by decide)) (conT_wf hv) (by rw [conT_size hv]; omega) fun l2 hl2 hx2 hz2 => ?_
            rw [conT_vars hv] at hx2
            rw [conT_size hv] at hz2
            refine AC_sortD (l := l2) rfl (fun _ => by omega) fun ws hws _ _ => ?_
            refine AC_extend ?_
            have hwl : ws.length = l2.length := hws.length_eq.trans (List.length_map ..)
            refine Need.mk (by rw [List.length_append] at hk; simp only [List.length_map]; omega) ?_
            refine nk.nx _ ⟨3 * (xs.length - (lw.length + 1)) + (ts ++ ws).length, ?_, dsto lw y (.bool true), ts ++ ws, ?_, ?_, ?_, ?_⟩
            · rw [List.length_append] at hk ⊢; simp only [List.length_cons, List.length_nil] at hk; omega
            · rw [show strsA (ts ++ ws) = strsA ts ++ strsA ws from List.map_append]; rfl
            · rw [dsto_new hy, List.map_append]
              exact hI.take hy h2 (fun us' hu' => nodup_val hn hu' h2) fun z => hws.mem_iff.trans (hx2 z).symm
            · rw [dsto_new hy, List.length_append]; rfl
            · rw [List.length_append] at hk ⊢; simp only [List.length_cons, List.length_nil] at hk; omega
  · intro fr mf
    refine hide4 ?_
    intro G9 hG9 p r σ' KJ o' j915
    refine x34 j915 fun l x1 x2 e916 hD hb he => ?_
    try clear j915
    obtain rfl := e916
    refine hG9 _ _ _ _ ?_
    clear hG9 G9
    intro np nj
    cases hb with | @cons n ad vs us _ x3 hv hu hb => ?_
    refine SI_dict ?_
    have hlen : l.length = x1.length := by have := congrArg List.length hD.keys; rwa [List.length_map, List.length_map] at this
    refine Need.mk (by have := congrArg List.length he; rw [List.length_append] at this; omega) ?_
    refine nj.nx _ (i34 (dsto l n (oCon ad vs)) (x1 ++ [(n, us)]) x3 rfl ?_ hb (by rw [he]; simp))
    rw [dsto_new]
    · exact hD.snoc hv hu
    · rw [hD.keys]
      rw [he, List.map_append, List.map_cons] at hn
      intro h
      exact (List.nodup_append.mp hn).2.2 n h n List.mem_cons_self rfl
end Mine
end
section
open PySem PySem.W PyProof.Rows PySem.Calls PySem.Spec PySem.SeqAt
set_option tactic.hygienic false
set_option maxHeartbeats 400000
namespace Mine
section
variable {c : Cx} {σ : St} {P : KV}
theorem OP_tup0 (hr : Room c 1) (h : P (.bool true) σ) : OP c (compareOp .Eq) (.tup []) (.tup []) σ P := by
  intro T s u1 u2 Q E r k
  refine Rel.out r fun m adr M K R r => ?_
  have hu := hr.2
  refine (r.ri (List.mem_cons_of_mem _ List.mem_cons_self) rfl).tupI (Q := fun u => wpAny c.M c.A (compareOp .Eq u u2) Q E s) fun xs a ha hl => (r.ri List.mem_cons_self rfl).tupI (Q := fun u => wpAny c.M c.A (compareOp .Eq (.ref a) u) Q E s) fun ys b hb hl2 => ?_
  cases hl
  cases hl2
  have z := RcAt.tuples (A := c.A) (s := s) (e := fun _ => true) (News.isTup r.N (r.still? ha)) (News.isTup r.N (r.still? hb)) (by show c.un < _; omega) (fun j k1 _ => absurd k1 (Nat.not_lt_zero _))
  exact z pg c.w E Q (k _ _ _ _ h (Rel.imm r.tail.tail.rel fun _ => .bool))
theorem scoped_ac {v g : AV} (o : c.Ok2) (hr : Room c 3) (nv : NC v) (ng : NC g) (ret : P v σ) : AC c (.ref 364) [v, g, .tup []] σ P := by
  refine enter0 (ns := [Str.ofString "names", Str.ofString "groups", Str.ofString "scope"]) o (.of (by kernel_rfl) (bd3 fun _ _ _ => by kernel_rfl)) hr (List.forall_mem_cons.mpr ⟨nv, List.forall_mem_cons.mpr ⟨ng, List.forall_mem_cons.mpr ⟨nc_tup, List.forall_mem_nil _⟩⟩⟩) rfl fun d KK _ od rd kr => (lvl_good od 60).ex _ _ _ ?_
  refine IfK.mk ?_
  refine OP_tup0 (rd.le (by decide)) ?_
  refine Br.tt ?_
  exact kr.rt _ _ (imm_nc nv ret)
theorem Vrs.last {v1 : List AV} {u1 : List Str} (h : Vrs v1 u1) : (v1 = [] ∧ u1 = []) ∨ ∃ v2 u2 a n, v1 = v2 ++ [oVar a n] ∧ u1 = u2 ++ [n] ∧ Vrs v2 u2 := by
  induction h with
  | nil => exact .inl ⟨rfl, rfl⟩
  | @cons a n vs ns h ih =>
    rcases ih with ⟨rfl, rfl⟩ | ⟨v2, u2, a', n', rfl, rfl, h2⟩
    · exact .inr (i43 [] [] a n rfl rfl .nil)
    · exact .inr (i43 (_ :: v2) (_ :: u2) a' n' rfl rfl (.cons h2))
noncomputable abbrev tk0 (v : AV) : AV := .tup [v, .dct []]
noncomputable abbrev sExpr : Str := Str.ofString "expr"
noncomputable def FrJ (ad : Addr) (vs : List AV) (us : List Str) (k : Nat) (σ : St) : Prop := ∃ (l : List (Str × AV)) (st : List AV), σ = ⟨[(sTasks, .cell 2), (sFound, .cell 0)], [.dict l, .fro (.dct []), .list st]⟩ ∧
  ((l = [] ∧ st = [tk0 (oCon ad vs)] ∧ k = us.length + 1) ∨ ∃ v1 u1, Vrs v1 u1 ∧ st = v1.map tk0 ∧ k = u1.length ∧ (∀ x, x ∈ us ↔ x ∈ l.map (·.1) ∨ x ∈ u1) ∧ l.length + u1.length ≤ us.length)
set_option maxHeartbeats 8000000 in
theorem free_ac {ad : Addr} {vs : List AV} {us : List Str} (o : c.Ok2) (hr : Room c 5) (hv : Vrs vs us) (hz : us.length ≤ 50) (ret : ∀ ss : List Str, (∀ x, x ∈ ss ↔ x ∈ us) → ss.Nodup → sortedS ss = true → ss.length ≤ us.length → P (.lst (strsA ss)) σ) : AC c (.ref 371) [oCon ad vs] σ P := by
  refine ent1 (x := sExpr) o (by kernel_rfl) (fun _ => by kernel_rfl) hr nc_obj fun d KK od rd kr => ?_
  refine isTup_f (names := [sFound, sTasks]) (lvl_good od 60) od rfl rfl rfl (by kernel_rfl) ?_
  refine AE_dict od ?_
  refine AE_dict od ?_
  refine AS_while [sTasks, sFound] (FrJ ad vs us) (lvl_good od 60) (us.length + 1) ?_ ?_
  · exact i22 [] [tk0 (oCon ad vs)] rfl (.inl ⟨rfl, rfl, rfl⟩)
  · refine hide3 ?_
    intro G9 hG9 k σ' KW j91
    refine x22 j91 fun l st e92 hst => ?_
    try clear j91
    obtain rfl := e92
    refine hG9 _ _ _ ?_
    clear hG9 G9
    intro nk
    rcases hst with ⟨rfl, rfl, rfl⟩ | ⟨v1, u1, hv1, rfl, rfl, hx, hl⟩
    · refine Br.tt ?_
      refine Pop.mk (xs := []) (x := tk0 (oCon ad vs)) ?_
      refine IfK.mk ?_
      refine Br.ff ?_
      have hvn : ∀ v ∈ vs, NC v := fun v h => by obtain ⟨_, _, rfl⟩ := hv.mem v h; rfl
      have hn : Node (oCon ad vs) vs := .con
      have hlen := hv.len
      refine grp_none (f := 298) od (rd.le (by decide)) (by decide) nc_obj ?_
      refine AS_for (lvl_good od 60) od rfl rfl ?_
      refine parts_con od (rd.le (by decide)) hvn ?_
      refine forL.mk [sTasks, sFound, Str.ofString "bound", Str.ofString "groups"] (fun q σ => ∃ v1 v2, vs = v1 ++ v2 ∧ q = v2.map part ∧ σ = ⟨[(sTasks, .cell 2), (sFound, .cell 0), (Str.ofString "bound", .dct []), (Str.ofString "groups",   .lst [])], [.dict [], .fro (.dct []), .list (v1.map tk0)]⟩) ⟨?_, ?_, ?_⟩
      · exact i23 [] vs rfl rfl rfl
      · refine hide1 ?_
        intro G9 hG9 σ' j93
        refine x23 j93 fun v1 v2 h1 h2 e94 => ?_
        try clear j93
        obtain rfl := e94
        refine hG9 _ ?_
        clear hG9 G9
        obtain rfl := List.map_eq_nil_iff.mp h2.symm
        rw [List.append_nil] at h1
        subst h1
        exact nk.nx _ ⟨us.length, Nat.lt_succ_self _, [], _, rfl, .inr ⟨vs, us, hv, rfl, rfl, fun x => by simp, by simp⟩⟩
      · intro fr mf
        refine hide4 ?_
        intro G9 hG9 p r σ' KJ o' j95
        refine x23 j95 fun v1 v2 h1 h2 e96 => ?_
        try clear j95
        obtain rfl := e96
        refine hG9 _ _ _ _ ?_
        clear hG9 G9
        intro np nj
        cases v2 with | nil => cases h2 | cons v v2 => ?_
        refine x02 (List.cons.inj h2) fun e97 e98 => ?_
        obtain rfl := e97
        obtain rfl := e98
        have nv : NC v := hvn v (by rw [h1]; simp)
        refine scoped_ac o' (rd.le (by decide)) rfl nc_lst ?_
        refine imm_nc nv ?_
        refine Need.mk (by have := congrArg List.length h1; simp only [List.length_append, List.length_cons, List.length_map] at this ⊢; omega) ?_
        exact nj.nx _ (i23 (v1 ++ [v]) v2 (by rw [h1]; simp) rfl (by rw [List.map_append]; rfl))
    · rcases hv1.last with ⟨rfl, rfl⟩ | ⟨v2, u2, a, n, rfl, rfl, hv2⟩
      · refine Br.ff ?_
        refine AC_sortD (l := l) rfl (fun _ => by simp only [List.length_nil] at hl; omega) fun ss hp hs hnd => ?_
        have hx : ∀ x, x ∈ ss ↔ x ∈ us := fun x => hp.mem_iff.trans ((hx x).trans (by simp)).symm
        exact kr.rt _ _ (ret ss hx (hp.nodup_iff.mpr hnd) hs (by have := hp.length_eq; rw [List.length_map] at this; simp only [List.length_nil] at hl; omega))
      · rw [List.map_append, List.map_cons, List.map_nil]
        rw [List.length_append, List.length_cons, List.length_nil] at hl
        refine Br.t (by simp) ?_
        refine Pop.mk (xs := v2.map tk0) (x := tk0 (oVar a n)) ?_
        refine IfK.mk ?_
        refine Br.tt ?_
        refine IfK.mk ?_
        refine OP_notin (l := []) rfl ?_
        refine Br.tt ?_
        refine SI_dict ?_
        refine Need.mk (by omega) ?_
        refine nk.ct _ ⟨u2.length, by rw [List.length_append]; exact Nat.lt_succ_self _, dsto l n (.bool true), _, rfl, .inr ⟨v2, u2, hv2, rfl, rfl, fun x => ?_, ?_⟩⟩
        · rw [hx, dsto_keys, List.mem_append, List.mem_singleton]
          exact ⟨fun h => h.elim (fun h => .inl (.inr h)) fun h => h.elim .inr fun h => .inl (.inl h), fun h => h.elim (fun h => h.elim (fun h => .inr (.inr h)) .inl) fun h => .inr (.inl h)⟩
        · have := dsto_len (l := l) (k := n) (v := .bool true); omega
end
end Mine
end
section
open PySem PySem.W PyProof.Rows PySem.Calls PySem.Spec
set_option tactic.hygienic false
set_option maxHeartbeats 400000
namespace Mine
section
variable {c : Cx} {σ : St} {P : KV}
noncomputable def KpOf (r : Bool) (xs : List (Str × List Str)) (us fs : List Str) : Prop := ∀ x, x ∈ fs ↔ cond r (Reach xs us x) (x ∈ us)
set_option maxHeartbeats 4000000 in
theorem dead_ac {a ad : Addr} {vs bs : List AV} {us : List Str} {xs : List (Str × List Str)} {r : Bool} (o : c.Ok2) (hr : Room c 9) (hv : Vrs vs us) (hu : us.length ≤ 50) (hB : Bds bs xs) (hn : (xs.map (·.1)).Nodup) (hz : xs.length ≤ 50)
    (ret0 : ∀ fs, KpOf r xs us fs → keepB (fun x => decide (x ∈ fs)) bs xs = [] → P (oCon ad vs) σ) (ret1 : ∀ fs a', KpOf r xs us fs → keepB (fun x => decide (x ∈ fs)) bs xs ≠ [] → P (oLet a' (keepB (fun x => decide (x ∈ fs)) bs xs) (oCon ad vs) r) σ) : AC c (.ref 423) [oLet a bs (oCon ad vs) r] σ P := by
  refine ent1 (x := sExpr) o (by kernel_rfl) (fun _ => by kernel_rfl) hr nc_obj fun d KK od rd kr => ?_
  refine IfK.mk ?_
  refine Br.ff ?_
  refine free_ac od (rd.le (by decide)) hv hu fun ss hss _ _ hsl => ?_
  refine IfK.join (fun σ' => ∃ (fs : List Str) (v : AV) (cs : List Cell), KpOf r xs us fs ∧ σ' = ⟨[(sExpr, oLet a bs (oCon ad vs) r), (Str.ofString "used", .lst (strsA ss)), (Str.ofString "kept", v)], cs⟩ ∧ ((v = .lst (keepB (fun x => decide (x ∈ fs)) bs xs) ∧ cs = []) ∨ (v = .cell 0 ∧ cs = [.list (keepB (fun x => decide (x ∈ fs)) bs xs)]))) ?_ ?_
  · refine hide1 ?_
    intro G9 hG9 σ' j91
    refine x33 j91 fun fs v cs hk e92 hv => ?_
    try clear j91
    obtain rfl := e92
    refine hG9 _ ?_
    clear hG9 G9
    have kn : ∀ {l : List AV}, l.isEmpty = true → l = [] := fun h => List.isEmpty_iff.mp h
    rcases hv with ⟨rfl, rfl⟩ | ⟨rfl, rfl⟩
    · refine OP_eqNil (l := keepB (fun x => decide (x ∈ fs)) bs xs) (rd.le (by decide)) rfl rfl ?_
      refine Br.mk (fun h => ?_) (fun h => ?_)
      · exact kr.rt _ _ (ret0 fs hk (kn h))
      · exact mk212 od (rd.le (by decide)) nc_lst nc_obj nc_bool fun a' => kr.rt _ _ (ret1 fs a' hk fun e => by rw [e] at h; cases h)
    · refine OP_eqNil (l := keepB (fun x => decide (x ∈ fs)) bs xs) (rd.le (by decide)) rfl rfl ?_
      refine Br.mk (fun h => ?_) (fun h => ?_)
      · exact kr.rt _ _ (ret0 fs hk (kn h))
      · refine AC.imms ?_
        refine ⟨rfl, ?_⟩
        exact mk212 od (rd.le (by decide)) nc_lst nc_obj nc_bool fun a' => kr.rt _ _ (ret1 fs a' hk fun e => by rw [e] at h; cases h)
  · intro K' hK'
    cases r with
    | true =>
      refine Br.tt ?_
      refine reach_ac od (rd.le (by decide)) hB hn hz (by omega) fun fs hf => ?_
      exact hK' _ (i33 fs (.lst _) [] (fun x => (hf x).trans ⟨fun h => h.congr hss, fun h => h.congr fun x => (hss x).symm⟩) rfl (.inl ⟨rfl, rfl⟩))
    | false =>
      refine Br.ff ?_
      refine AS_comp [Str.ofString "used"] (lvl_good od 50) od rfl rfl (by decide) rfl rfl ⟨by kernel_rfl, by kernel_rfl, trivial⟩ ?_
      refine cmpL.mk (fun q ys cs => ∃ b1 x1 x2, Bds q x2 ∧ xs = x1 ++ x2 ∧ b1 ++ q = bs ∧ b1.length = x1.length ∧ ys = keepB (fun x => decide (x ∈ ss)) b1 x1 ∧ cs = []) ⟨⟨[], [], xs, hB, rfl, rfl, rfl, rfl, rfl⟩, ?_, ?_, ?_⟩
      · intro q ys cs j93
        refine x36 j93 fun _ _ _ _ _ _ _ _ e94 => ?_
        try clear j93
        obtain rfl := e94
        rfl
      · refine hide2 ?_
        intro G9 hG9 ys cs j95
        refine x36 j95 fun b1 x1 x2 h1 h2 h3 h4 e96 e97 => ?_
        try clear j95
        obtain rfl := e96
        obtain rfl := e97
        refine hG9 _ _ ?_
        clear hG9 G9
        cases h1
        rw [List.append_nil] at h2 h3
        subst h2 h3
        exact hK' _ (i33 ss (.cell 0) [.list _] hss rfl (.inr ⟨rfl, rfl⟩))
      · intro C oC m fr mf
        refine hide6 ?_
        intro G9 hG9 x r ys cs KE KN ok j98
        refine x36 j98 fun b1 x1 x2 h1 h2 h3 h4 e99 e910 => ?_
        try clear j98
        obtain rfl := e99
        obtain rfl := e910
        refine hG9 _ _ _ _ _ _ ?_
        clear hG9 G9
        intro nx nk2
        cases h1 with | @cons n ad' vs' us' _ x3 hv' hu' h1 => ?_
        refine i12 _ rfl ?_
        refine OP_strIn (ks := ss) rfl ?_
        refine Br.mk (fun hb => ?_) (fun hb => ?_)
        · refine nk2.el _ _ (i36 (b1 ++ [.tup [.str n, oCon ad' vs']]) (x1 ++ [(n, us')]) x3 h1 (by rw [h2]; simp) (by rw [← h3]; simp) (by simp [h4]) ?_ rfl)
          rw [keepB_snoc h4, hb]; rfl
        · refine nk2.no _ (i36 (b1 ++ [.tup [.str n, oCon ad' vs']]) (x1 ++ [(n, us')]) x3 h1 (by rw [h2]; simp) (by rw [← h3]; simp) (by simp [h4]) ?_ rfl)
          rw [keepB_snoc h4, hb, cond_false, List.append_nil]
end
end Mine
end
section
open PySem PySem.W PyProof.Rows PySem.Calls PySem.Spec
set_option tactic.hygienic false
set_option maxHeartbeats 400000
namespace Mine
noncomputable def tN (i : Int) : Str := Str.ofString "t" ++ Str.ofString (toString i)
theorem tN_len {i : Int} (h0 : 0 ≤ i) (h1 : i < 100) : (Str.ofString "t").length + (Str.ofString (toString i)).length ≤ 1000000 := by
  have e1 : (Str.ofString (toString i)).length ≤ 10 := toString_length_le h0 (by decide) (by omega)
  have e2 : (Str.ofString "t").length = 1 := by decide
  omega
theorem tN_nodup {n : Nat} (h : n ≤ 5) : ((List.range n).map fun j : Nat => tN (j : Int)).Nodup := by
  have h5 : ((List.range 5).map fun j : Nat => tN (j : Int)).Nodup := by
    have : ((List.range 5).map fun j : Nat => tN (j : Int)) = [tN 0, tN 1, tN 2, tN 3, tN 4] := rfl
    rw [this]; decide +kernel
  exact h5.sublist (List.Sublist.map _ (List.range_sublist.mpr h))
theorem Bds.snoc {bs : List AV} {xs : List (Str × List Str)} (h : Bds bs xs) {n : Str} {ad : Addr} {vs : List AV} {us : List Str} (hv : Vrs vs us) (hu : us.length ≤ 2) : Bds (bs ++ [.tup [.str n, oCon ad vs]]) (xs ++ [(n, us)]) := by
  induction h with
  | nil => exact .cons hv hu .nil
  | cons a b _ ih => exact .cons a b ih
theorem Bds.dat {bs : List AV} {xs : List (Str × List Str)} (h : Bds bs xs) : ∀ v ∈ bs, Dat 1 v := by
  induction h with
  | nil => intro v h; cases h
  | cons _ _ _ ih => exact List.forall_mem_cons.mpr ⟨.tup (List.forall_mem_cons.mpr ⟨.str, List.forall_mem_cons.mpr ⟨.obj, List.forall_mem_nil _⟩⟩), ih⟩
theorem keepB_sub {p : Str → Bool} {bs : List AV} {xs : List (Str × List Str)} : ∀ v ∈ keepB p bs xs, v ∈ bs := by
  intro v h
  refine x12 (List.mem_map.mp h) fun q hq e91 => ?_
  obtain rfl := e91
  exact (List.of_mem_zip (List.mem_filter.mp hq).1).1
theorem keepB_congr {p q : Str → Bool} (h : ∀ x, p x = q x) {bs : List AV} {xs : List (Str × List Str)} : keepB p bs xs = keepB q bs xs := by
  rw [show p = q from funext h]
theorem keepB_nil {p : Str → Bool} {bs : List AV} {xs : List (Str × List Str)} (hl : bs.length = xs.length) : keepB p bs xs = [] ↔ ∀ n us, (n, us) ∈ xs → p n = false := by
  induction xs generalizing bs with
  | nil => exact ⟨fun _ _ _ h => (by cases h), fun _ => by cases bs <;> rfl⟩
  | cons x xs ih =>
    cases bs with
    | nil => cases hl
    | cons b bs =>
      obtain ⟨n, us⟩ := x
      have e : keepB p (b :: bs) ((n, us) :: xs) = cond (p n) (b :: keepB p bs xs) (keepB p bs xs) := by
        unfold keepB
        rw [List.zip_cons_cons, List.filter_cons]
        cases p n <;> rfl
      rw [e]
      cases h : p n with
      | true => exact ⟨fun q => (by cases q), fun q => by rw [q n us List.mem_cons_self] at h; cases h⟩
      | false =>
        refine (ih (Nat.succ.inj hl)).trans ⟨fun q n' us' h' => (List.mem_cons.mp h').elim (fun e => by rw [(Prod.mk.inj e).1]; exact h) (q n' us'), fun q n' us' h' => q n' us' (List.mem_cons_of_mem _ h')⟩
theorem Reach.seed {xs : List (Str × List Str)} {nm : List Str} {x : Str} (h : Reach xs nm x) : ∃ y ∈ nm, Bnd xs y := by
  induction h with
  | base h b => exact ⟨_, h, b⟩
  | step _ _ _ _ ih => exact ih
section
variable {c : Cx} {σ : St} {P : KV}
theorem OP_neSame {x y : AV} {l : List AV} {n : Nat} (hr : Room c 1) (hn : n ≤ 10) (ex : lstOf x σ = some l) (ey : lstOf y σ = some l) (hd : ∀ v ∈ l, Dat n v) (h : P (.bool false) σ) : OP c (compareOp .NotEq) x y σ P := (OP_same hr hn ex ey hd).2 h
theorem OP_eqSame {x y : AV} {l : List AV} {n : Nat} (hr : Room c 1) (hn : n ≤ 10) (ex : lstOf x σ = some l) (ey : lstOf y σ = some l) (hd : ∀ v ∈ l, Dat n v) (h : P (.bool true) σ) : OP c (compareOp .Eq) x y σ P := (OP_same hr hn ex ey hd).1 h
theorem OP_is {a C : Addr} {f g : List (Str × AV)} {D : Addr} (h : P (.bool true) σ) : OP c (compareOp .Is) (.obj a C f) (.obj a D g) σ P := by
  intro T s u1 u2 Q E r k
  obtain rfl := r.obj (List.mem_cons_of_mem _ List.mem_cons_self)
  obtain rfl := r.obj List.mem_cons_self
  exact wpAny_is_ref_self (k _ _ _ _ h (r.drop.drop.imm fun _ => .bool))
theorem OP_isNot {a C : Addr} {f g : List (Str × AV)} {D : Addr} (h : P (.bool false) σ) : OP c (compareOp .IsNot) (.obj a C f) (.obj a D g) σ P := by
  intro T s u1 u2 Q E r k
  obtain rfl := r.obj (List.mem_cons_of_mem _ List.mem_cons_self)
  obtain rfl := r.obj List.mem_cons_self
  exact wpAny_isNot_ref_self (k _ _ _ _ h (r.drop.drop.imm fun _ => .bool))
noncomputable abbrev sNames : Str := Str.ofString "names"
noncomputable abbrev sLed : Str := Str.ofString "led"
set_option maxHeartbeats 16000000 in
theorem binds_ac {k : Nat} {a b : Int} (o : c.Ok2) (hr : Room c 12) (hk : σ.cs[k]? = some (srcC a b)) (hs : Src a b) (ret : ∀ a' b', Src a' b' → P (.bool true) (σ.setc k (srcC a' b'))) : AC c (.ref 507) [.cell k] σ P := by
  refine enter1 (n := 11) (ns := [sSource]) o (f1 (by kernel_rfl) fun _ => by kernel_rfl) hr hk live_list (List.forall_mem_cons.mpr ⟨.inr (.inl rfl), List.forall_mem_nil _⟩) rfl fun d KK _ od rd kr => (lvl_good od 60).ex _ _ _ ?_
  rw [List.map_cons, ren_self]
  refine AS_comp [sSource] (lvl_good od 50) od rfl rfl (by decide) rfl rfl ⟨by kernel_rfl, by kernel_rfl, trivial⟩ ?_
  refine take_src od (rd.le (by decide)) rfl hs (by decide) (by decide) fun r a1 b1 h0 h1 hs1 => ?_
  refine Need.mk (by constructor <;> omega) ?_
  refine cmpL.rng (fun q ys cs => ∃ (x1 : List (Str × List Str)) (m : Nat) (a' b' : Int), Bds ys x1 ∧ (x1.map fun x => x.1) = ((List.range x1.length).map fun j : Nat => tN (j : Int)) ∧ q = (List.range' x1.length m).map (fun j : Nat => AV.int (j : Int)) ∧ x1.length + m = r.toNat ∧ Src a' b' ∧ cs = [srcC a' b']) ⟨⟨[], r.toNat, a1, b1, .nil, rfl, by unfold intsR; rw [List.range_eq_range']; rfl, by simp, hs1, rfl⟩, ?_, ?_, ?_⟩
  · intro q ys cs j92
    refine x46 j92 fun _ _ _ _ _ _ _ _ _ e93 => ?_
    try clear j92
    obtain rfl := e93
    rfl
  · refine hide2 ?_
    intro G9 hG9 ys cs j94
    refine x46 j94 fun xs m a2 b2 hB hxs hq hm hs2 e95 => ?_
    try clear j94
    obtain rfl := e95
    refine hG9 _ _ ?_
    clear hG9 G9
    have hm0 : m = 0 := by cases m with | zero => rfl | succ => cases hq
    have hlen : xs.length ≤ 5 := by omega
    have hn : (xs.map fun x => x.1).Nodup := hxs ▸ tN_nodup hlen
    have hbl := hB.len
    refine AS_name od rfl ?_
    refine AE_comp [sSource] (lvl_good od 50) od rfl rfl (by decide) rfl ⟨by kernel_rfl, by kernel_rfl, trivial⟩ ?_
    refine take_src od (rd.le (by decide)) rfl hs2 (by decide) (by decide) fun r2 a3 b3 h2 h3 hs3 => ?_
    refine Need.mk (by constructor <;> omega) ?_
    refine cmpL.rng (fun q ys' cs => ∃ (nm : List Str) (a' b' : Int), ys' = strsA nm ∧ q.length + nm.length = (1 + r2).toNat ∧ Src a' b' ∧ cs = [srcC a' b', .list ys]) ⟨⟨[], a3, b3, rfl, by unfold intsR; simp, hs3, rfl⟩, ?_, ?_, ?_⟩
    · intro q ys' cs j96
      refine x34 j96 fun _ _ _ _ _ _ e97 => ?_
      try clear j96
      obtain rfl := e97
      rfl
    · refine hide2 ?_
      intro G9 hG9 ys' cs j98
      refine x34 j98 fun nm a4 b4 e99 hnl hs4 e910 => ?_
      try clear j98
      obtain rfl := e99
      obtain rfl := e910
      refine hG9 _ _ ?_
      clear hG9 G9
      have hnl : nm.length ≤ 2 := by simp only [List.length_nil] at hnl; omega
      refine AC.imms ?_
      refine ⟨rfl, ?_⟩
      refine led_ac od (rd.le (by decide)) hB hn (by omega) (by omega) fun fs hf hfl => ?_
      refine AS_comp [sLed] (lvl_good od 50) od rfl rfl (by decide) rfl rfl ⟨by kernel_rfl, by kernel_rfl, trivial⟩ ?_
      refine cmpL.mk (fun q zs cs => ∃ b1 x1 x2, Bds q x2 ∧ xs = x1 ++ x2 ∧ b1 ++ q = ys ∧ b1.length = x1.length ∧ zs = keepB (fun x => decide (x ∈ fs)) b1 x1 ∧ cs = [srcC a4 b4, .fro (.lst ys), .fro (.lst (strsA nm))]) ⟨⟨[], [], xs, hB, rfl, rfl, rfl, rfl, rfl⟩, ?_, ?_, ?_⟩
      · intro q zs cs j911
        refine x36 j911 fun _ _ _ _ _ _ _ _ e912 => ?_
        try clear j911
        obtain rfl := e912
        rfl
      · refine hide2 ?_
        intro G9 hG9 zs cs j913
        refine x36 j913 fun b1' x1 x2 h4 h5 h6 h7 e914 e915 => ?_
        try clear j913
        obtain rfl := e914
        obtain rfl := e915
        refine hG9 _ _ ?_
        clear hG9 G9
        cases h4
        rw [List.append_nil] at h5 h6
        subst h5 h6
        refine IfK.mk ?_
        refine AC.imms ?_
        refine ⟨rfl, ?_⟩
        refine reach_ac od (rd.le (by decide)) hB hn (by omega) (by omega) fun f2 hf2 => ?_
        rw [keepB_congr (p := fun x => decide (x ∈ f2)) (q := fun x => decide (x ∈ fs)) fun x => decide_eq_decide.mpr ((hf2 x).trans (hf x).symm)]
        refine OP_neSame (l := keepB (fun x => decide (x ∈ fs)) b1' xs) (n := 1) (rd.le (by decide)) (by decide) rfl rfl (fun v hv => hB.dat v (keepB_sub v hv)) ?_
        refine Br.ff ?_
        refine IfK.mk ?_
        refine OP_eqNil (l := b1') (rd.le (by decide)) rfl rfl ?_
        refine Br.mk (fun h8 => ?_) (fun h8 => ?_)
        · exact kr.rt _ _ (ret a4 b4 hs4)
        · -- body
          refine AE_comp [] (lvl_good od 50) od rfl rfl (by decide) rfl ⟨by kernel_rfl, trivial⟩ ?_
          refine cmpL.mk (fun q zs cs => ∃ n1 n2, nm = n1 ++ n2 ∧ q = strsA n2 ∧ Vrs zs n1 ∧ cs = [srcC a4 b4, .fro (.lst b1'), .fro (.lst (strsA nm)), .list (keepB (fun x => decide (x ∈ fs)) b1' xs), .list []]) ⟨⟨[], nm, rfl, rfl, .nil, rfl⟩, ?_, ?_, ?_⟩
          · intro q zs cs j916
            refine x24 j916 fun _ _ _ _ _ e917 => ?_
            try clear j916
            obtain rfl := e917
            rfl
          · refine hide2 ?_
            intro G9 hG9 zs cs j918
            refine x24 j918 fun n1 n2 h9 h10 hv e919 => ?_
            try clear j918
            obtain rfl := e919
            refine hG9 _ _ ?_
            clear hG9 G9
            obtain rfl := List.map_eq_nil_iff.mp h10.symm
            rw [List.append_nil] at h9
            subst h9
            refine AC.imms ?_
            refine ⟨rfl, ?_⟩
            refine mk313 od (rd.le (by decide)) nc_str nc_lst fun ab => ?_
            have hd1 : ∀ {p : Str → Bool}, ∀ v ∈ keepB p b1' xs, Dat 1 v := fun v hv => hB.dat v (keepB_sub v hv)
            have both : ∀ f4 : List Str, (∀ x, x ∈ f4 ↔ x ∈ nm) → (keepB (fun x => decide (x ∈ f4)) b1' xs = [] ↔ keepB (fun x => decide (x ∈ fs)) b1' xs = []) := fun f4 h4 => by
              rw [keepB_nil hbl, keepB_nil hbl]
              refine ⟨fun q n us hu => decide_eq_false fun hx => ?_, fun q n us hu => decide_eq_false fun hx => ?_⟩
              · obtain ⟨y, hy, vs', hv'⟩ := ((hf n).mp hx).seed
                exact of_decide_eq_false (q y vs' hv') ((h4 y).mpr hy)
              · exact of_decide_eq_false (q n us hu) ((hf n).mpr (.base ((h4 n).mp hx) ⟨us, hu⟩))
            refine AC.imms ?_
            refine ⟨rfl, ?_⟩
            refine mk212 od (rd.le (by decide)) nc_lst nc_obj nc_bool fun a1 => ?_
            refine dead_ac (r := true) od (rd.le (by decide)) hv (by omega) hB hn (by omega) (fun f3 h11 hnil => ?_) (fun f3 a2 h11 hnn => ?_)
            · have h11 : ∀ x, x ∈ f3 ↔ Reach xs nm x := h11
              rw [keepB_congr (p := fun x => decide (x ∈ f3)) (q := fun x => decide (x ∈ fs)) fun x => decide_eq_decide.mpr ((h11 x).trans (hf x).symm)] at hnil
              refine IfK.mk ?_
              refine OP_eqNil (l := keepB (fun x => decide (x ∈ fs)) b1' xs) (rd.le (by decide)) rfl rfl ?_
              refine Br.t (by rw [hnil]; rfl) ?_
              refine OP_is ?_
              refine Br.tt ?_
              refine AC.imms ?_
              refine ⟨rfl, ?_⟩
              refine mk212 od (rd.le (by decide)) nc_lst nc_obj nc_bool fun a3 => ?_
              refine dead_ac (r := false) od (rd.le (by decide)) hv (by omega) hB hn (by omega) (fun f4 h12 _ => ?_) (fun f4 a5 h12 hne => absurd ((both f4 h12).mpr hnil) hne)
              refine OP_is ?_
              exact kr.rt _ _ (ret a4 b4 hs4)
            · have h11 : ∀ x, x ∈ f3 ↔ Reach xs nm x := h11
              rw [keepB_congr (p := fun x => decide (x ∈ f3)) (q := fun x => decide (x ∈ fs)) fun x => decide_eq_decide.mpr ((h11 x).trans (hf x).symm)] at hnn ⊢
              have hne : (keepB (fun x => decide (x ∈ fs)) b1' xs).isEmpty = false := by
                cases q : keepB (fun x => decide (x ∈ fs)) b1' xs with
                | nil => exact absurd q hnn
                | cons => rfl
              refine IfK.mk ?_
              refine OP_eqNil (l := keepB (fun x => decide (x ∈ fs)) b1' xs) (rd.le (by decide)) rfl rfl ?_
              refine Br.f hne ?_
              refine IfK.mk ?_
              refine OP_neSame (l := keepB (fun x => decide (x ∈ fs)) b1' xs) (n := 1) (rd.le (by decide)) (by decide) rfl rfl hd1 ?_
              refine Br.ff ?_
              refine OP_isNot ?_
              refine Br.ff ?_
              refine Br.ff ?_
              refine Br.ff ?_
              refine AS_comp [sNames] (lvl_good od 50) od rfl rfl (by decide) rfl rfl ⟨by kernel_rfl, by kernel_rfl, trivial⟩ ?_
              refine cmpL.mk (fun q ws cs => ∃ c1 x1 x2, Bds q x2 ∧ xs = x1 ++ x2 ∧ c1 ++ q = b1' ∧ c1.length = x1.length ∧ ws = keepB (fun x => decide (x ∈ nm)) c1 x1 ∧ cs = [srcC a4 b4, .fro (.lst b1'), .fro (.lst (strsA nm)), .list (keepB (fun x => decide (x ∈ fs)) b1' xs), .list [], .fro (.lst zs), .list []]) ⟨⟨[], [], xs, hB, rfl, rfl, rfl, rfl, rfl⟩, ?_, ?_, ?_⟩
              · intro q ws cs j920
                refine x36 j920 fun _ _ _ _ _ _ _ _ e921 => ?_
                try clear j920
                obtain rfl := e921
                rfl
              · refine hide2 ?_
                intro G9 hG9 ws cs j922
                refine x36 j922 fun c1 x1 x2 h13 h14 h15 h16 e923 e924 => ?_
                try clear j922
                obtain rfl := e923
                obtain rfl := e924
                refine hG9 _ _ ?_
                clear hG9 G9
                cases h13
                rw [List.append_nil] at h14 h15
                subst h14 h15
                refine AC.imms ?_
                refine ⟨rfl, ?_⟩
                refine mk212 od (rd.le (by decide)) nc_lst nc_obj nc_bool fun a6 => ?_
                refine dead_ac (r := false) od (rd.le (by decide)) hv (by omega) hB hn (by omega) (fun f4 h12 hnil => absurd ((both f4 h12).mp hnil) hnn) (fun f4 a7 h12 _ => ?_)
                have h12 : ∀ x, x ∈ f4 ↔ x ∈ nm := h12
                rw [keepB_congr (p := fun x => decide (x ∈ f4)) (q := fun x => decide (x ∈ nm)) fun x => decide_eq_decide.mpr (h12 x)]
                refine OP_eqSame (l := keepB (fun x => decide (x ∈ nm)) c1 xs) (n := 1) (rd.le (by decide)) (by decide) rfl rfl hd1 ?_
                refine Br.tt ?_
                refine OP_is ?_
                refine Br.tt ?_
                refine Br.tt ?_
                refine free_ac od (rd.le (by decide)) hv (by omega) fun ss h17 hnd hso hsl => ?_
                refine AC_set (ks := nm) rfl (by omega) fun a8 o8 ls hO hls => ?_
                refine AC_sortS hO (fun hnd => by have := nodup_le nm hnd fun x hx => (hls x).mp hx; omega) fun s2 hp hso2 hnd2 => ?_
                have e : s2 = ss := sorted_unique (hp.trans ((List.perm_ext_iff_of_nodup hnd2 hnd).mpr fun x => (hls x).trans (h17 x).symm)) hso2 hso
                rw [e]
                refine OP_eqSame (l := strsA ss) (n := 0) (rd.le (by decide)) (by decide) rfl rfl (fun v hv => by obtain ⟨x, _, rfl⟩ := List.mem_map.mp hv; exact .str) ?_
                exact kr.rt _ _ (ret a4 b4 hs4)
              · intro C oC m' fr mf
                refine hide6 ?_
                intro G9 hG9 x q ws cs KE KN ok j925
                refine x36 j925 fun c1 x1 x2 h13 h14 h15 h16 e926 e927 => ?_
                try clear j925
                obtain rfl := e926
                obtain rfl := e927
                refine hG9 _ _ _ _ _ _ ?_
                clear hG9 G9
                intro nx nk2
                cases h13 with | @cons n ad' vs' us' _ x3 hv' hu' h13 => ?_
                refine i12 _ rfl ?_
                refine OP_strIn (ks := nm) rfl ?_
                refine Br.mk (fun hb => ?_) (fun hb => ?_)
                · refine nk2.el _ _ (i36 (c1 ++ [.tup [.str n, oCon ad' vs']]) (x1 ++ [(n, us')]) x3 h13 (by rw [h14]; simp) (by rw [← h15]; simp) (by simp [h16]) ?_ rfl)
                  rw [keepB_snoc h16, hb]; rfl
                · refine nk2.no _ (i36 (c1 ++ [.tup [.str n, oCon ad' vs']]) (x1 ++ [(n, us')]) x3 h13 (by rw [h14]; simp) (by rw [← h15]; simp) (by simp [h16]) ?_ rfl)
                  rw [keepB_snoc h16, hb, cond_false, List.append_nil]
          · intro C oC m' fr mf
            refine hide6 ?_
            intro G9 hG9 x q zs cs KE KN ok j928
            refine x24 j928 fun n1 n2 h9 h10 hv e929 => ?_
            try clear j928
            obtain rfl := e929
            refine hG9 _ _ _ _ _ _ ?_
            clear hG9 G9
            intro nx nk
            cases n2 with | nil => cases h10 | cons n n2 => ?_
            refine x02 (List.cons.inj h10) fun e930 e931 => ?_
            obtain rfl := e930
            obtain rfl := e931
            refine i12 _ rfl ?_
            refine mk52 ok (rd.le (by decide)) nc_str fun ad => ?_
            exact nk.el _ _ (i24 (n1 ++ [n]) n2 (by rw [h9]; simp) rfl hv.snoc rfl)
      · intro C oC m' fr mf
        refine hide6 ?_
        intro G9 hG9 x q zs cs KE KN ok j932
        refine x36 j932 fun b1' x1 x2 h4 h5 h6 h7 e933 e934 => ?_
        try clear j932
        obtain rfl := e933
        obtain rfl := e934
        refine hG9 _ _ _ _ _ _ ?_
        clear hG9 G9
        intro nx nk2
        cases h4 with | @cons n ad' vs' us' _ x3 hv' hu' h4 => ?_
        refine i12 _ rfl ?_
        refine OP_strIn (ks := fs) rfl ?_
        refine Br.mk (fun hb => ?_) (fun hb => ?_)
        · refine nk2.el _ _ (i36 (b1' ++ [.tup [.str n, oCon ad' vs']]) (x1 ++ [(n, us')]) x3 h4 (by rw [h5]; simp) (by rw [← h6]; simp) (by simp [h7]) ?_ rfl)
          rw [keepB_snoc h7, hb]; rfl
        · refine nk2.no _ (i36 (b1' ++ [.tup [.str n, oCon ad' vs']]) (x1 ++ [(n, us')]) x3 h4 (by rw [h5]; simp) (by rw [← h6]; simp) (by simp [h7]) ?_ rfl)
          rw [keepB_snoc h7, hb, cond_false, List.append_nil]
    · intro C oC m' fr mf
      refine hide6 ?_
      intro G9 hG9 x q ys' cs KE KN ok j935
      refine x34 j935 fun nm a4 b4 e936 hnl hs4 e937 => ?_
      try clear j935
      obtain rfl := e936
      obtain rfl := e937
      refine hG9 _ _ _ _ _ _ ?_
      clear hG9 G9
      intro nx nk
      refine i12 _ rfl ?_
      refine take_src ok (rd.le (by decide)) rfl hs4 (by decide) (by decide) fun r3 a5 b5 h4 h5 hs5 => ?_
      refine AC_str h4 (by omega) ?_
      refine Need.mk (tN_len h4 (by omega)) ?_
      exact nk.el _ _ (i34 (nm ++ [tN r3]) a5 b5 strsA_snoc (by simp only [List.length_cons, List.length_append, List.length_nil] at hnl ⊢; omega) hs5 rfl)
  · intro C oC m' fr mf
    refine hide6 ?_
    intro G9 hG9 x q ys cs KE KN ok j938
    refine x46 j938 fun x1 m a2 b2 hB hx hq hm hs2 e939 => ?_
    try clear j938
    obtain rfl := e939
    refine hG9 _ _ _ _ _ _ ?_
    clear hG9 G9
    intro nx nk
    cases m with | zero => cases hq | succ m => ?_
    refine x02 (List.cons.inj (show x :: q = AV.int (x1.length : Int) :: (List.range' (x1.length + 1) m).map (fun j : Nat => AV.int (j : Int)) from hq)) fun e940 e941 => ?_
    obtain rfl := e940
    obtain rfl := e941
    refine i12 _ rfl ?_
    have hx5 : (x1.length : Int) < 100 := by omega
    refine AC_str (Int.natCast_nonneg _) (by omega) ?_
    refine Need.mk (tN_len (Int.natCast_nonneg _) hx5) ?_
    refine small_ac ok (rd.le (by decide)) rfl hs2 fun ad vs ns a3 b3 hv hu hs3 => ?_
    refine nk.el _ _ (i46 (x1 ++ [(tN x1.length, ns)]) m a3 b3 (hB.snoc hv hu) ?_ (by rw [List.length_append]; rfl) (by rw [List.length_append, List.length_singleton]; omega) hs3 rfl)
    rw [List.map_append, hx, List.length_append, List.length_singleton, List.range_succ, List.map_append]; rfl
end
end Mine
end
section
open PySem PySem.W PyProof.Rows PySem.Calls PySem.Spec
set_option tactic.hygienic false
set_option maxHeartbeats 400000
namespace Mine
structure RtA (P : KV) (σ : St) (KK : KF) : Prop where
  rt : ∀ v σ', P v ⟨σ.m, σ'.cs⟩ → KK (.ret v) σ'
  nx : ∀ σ', P .none ⟨σ.m, σ'.cs⟩ → KK .next σ'
section
variable {c : Cx} {σ : St} {T : List (AV × Value)} {s : Shared} {E : Value → Shared → Prop} {m : Str → Option Value} {adr : List Addr} {M K R : Led}
theorem RelD.backA {d : Cx} {σ' : St} {v : AV} {u : Value} {H : List (AV × Value)} {s' : Shared} {m2 : Str → Option Value} {adr2 : List Addr} {M2 K2 R2 : Led} (r : RelD c σ T s m adr M K R) (hH : ∀ x v, σ.m.lookup x = some v → ∃ u, Loc c m K x u ∧ (v, u) ∈ H)
    (r2 : RelD d σ' ((v, u) :: (H ++ T)) s' m2 adr2 M2 K2 R2) (hw : d.w = c.w) (hos : d.os = c.os) (hg : d.gens = c.gens) (hfr : d.fr = R ++ (K ++ c.fr)) (hmf : d.mf = K ++ c.mf) (F : Fr c.h₀ c.L s'.heap m) (N : News c.h₀ c.L s'.heap (M2 ++ (K2 ++ (R2 ++ d.fr)))) :
    RelD c ⟨σ.m, σ'.cs⟩ ((v, u) :: T) s' m adr2 M2 K (R2 ++ R) := by
  have hR2 : ∀ p ∈ R2, p ∈ R2 ++ R := fun p hp => List.mem_append_left _ hp
  have hUM := r2.U
  have hU : ∀ q ∈ d.mf, ∀ p ∈ R2, p.1 ≠ q.1 := r2.UF.2.1
  have hC := r2.C
  have hT := r2.T
  rw [hfr] at hUM N
  rw [hmf] at hU
  rw [hw] at hC hT
  refine ⟨F, fun p hp => N p ?_, ⟨fun q hq p hp => hUM.1 q hq p ?_, hUM.2⟩, ⟨fun q hq p hp => ?_, r.UK.2⟩, hC.mono hR2, fun x v e => ?_, fun t ht => ?_, r2.os.trans hos, r2.gens.trans hg, r.KC, r.UF.1, fun q hq p hp => ?_, r.UF.2.2⟩
  · simp only [List.mem_append] at hp ⊢
    rcases hp with hp | hp | (hp | hp) | hp
    · exact .inl hp
    · exact .inr (.inr (.inr (.inr (.inl hp))))
    · exact .inr (.inr (.inl hp))
    · exact .inr (.inr (.inr (.inl hp)))
    · exact .inr (.inr (.inr (.inr (.inr hp))))
  · simp only [List.mem_append] at hp ⊢
    rcases hp with hp | (hp | hp) | hp
    · exact .inr (.inr (.inr (.inl hp)))
    · exact .inr (.inl hp)
    · exact .inr (.inr (.inl hp))
    · exact .inr (.inr (.inr (.inr hp)))
  · simp only [List.mem_append] at hp
    rcases hp with (hp | hp) | hp
    · exact hU q (List.mem_append_left _ hq) p hp
    · exact r.UK.1 q hq p (List.mem_append_left _ hp)
    · exact r.UK.1 q hq p (List.mem_append_right _ hp)
  · refine x12 (hH x v e) fun u' l h => ?_
    exact i12 u' l ((hT _ (List.mem_cons_of_mem _ (List.mem_append_left _ h))).mono hR2)
  · rcases List.mem_cons.mp ht with rfl | ht
    · exact (hT _ List.mem_cons_self).mono hR2
    · exact (hT t (List.mem_cons_of_mem _ (List.mem_append_right _ ht))).mono hR2
  · rcases List.mem_append.mp hp with hp | hp
    · exact hU q (List.mem_append_right _ hq) p hp
    · exact r.UF.2.1 q hq p hp
theorem goA {d : Cx} {body : List Stmt} {mm : List (Str × AV)} {P : KV} {Q : Value → Shared → Prop} {s1 : Shared} {m1 : Str → Option Value} {Kc : Led} (r : RelD c σ T s m adr M K R) (kk : ∀ {v u σ2 s2}, P v ⟨σ.m, σ2⟩ → Rel c ⟨σ.m, σ2⟩ ((v, u) :: T) s2 → Q u s2) (hw : d.w = c.w) (hos : d.os = c.os) (hg : d.gens = c.gens) (hfr : d.fr = R ++ (K ++ c.fr)) (hmf : d.mf = K ++ c.mf) (hsub : d.sub = none)
    (F' : Fr d.h₀ d.L s1.heap m1) (N' : News d.h₀ d.L s1.heap (Kc ++ (M ++ (R ++ (R ++ (K ++ c.fr)))))) (hS1 : s1.os = s.os) (hS2 : s1.gens = s.gens) (AK : Apart Kc (M ++ (R ++ (R ++ (K ++ c.fr)))))
    (hV : ∀ x v, mm.lookup x = some v → ∃ u, Loc d m1 Kc x u ∧ Rv c.w adr R v u) (hKC : ∀ x, d.cs.names.lookup x = some .cell → ∃ ca o v₀, d.cl.lookup x = some ca ∧ (ca, o) ∈ Kc ∧ o.data = .cell v₀)
    (h : ∀ KK, RtA P σ KK → AX d body ⟨mm, σ.cs⟩ KK) {R9 : Result → Shared → Prop} (hR9 : ∀ u s', Q u s' → R9 (.ok (.ret u)) s') {EE : Value → Shared → Prop} (hE : PassesOwn d.M d.A d.env EE) :
    wpAny d.M d.A (execs body d.env) (fun fl s' => LeaveK c.h₀ c.L m d.h₀ R9 (match fl with | .ret v => v | _ => .none) s') EE s1 := by
  refine x12 r.hold fun H hH hHv => ?_
  have rd : RelD d ⟨mm, σ.cs⟩ (H ++ T) s1 m1 adr M Kc R := by
    refine ⟨F', fun p hp => N' p ?_, ⟨fun z hz p hp => ?_, r.U.2⟩, ⟨fun z hz p hp => AK.1 z hz p (List.mem_append_right _ (by rw [hfr] at hp; exact hp)), AK.2⟩, hw ▸ r.C, fun x v e => hw ▸ hV x v e, fun t ht => hw ▸ ((List.mem_append.mp ht).elim (hHv t) (r.T t)), hS1.trans (r.os.trans hos.symm), hS2.trans (r.gens.trans hg.symm), fun _ => hKC, ?_, ?_, fun _ e => by rw [hsub] at e; cases e⟩
    · rw [hfr] at hp
      rcases List.mem_append.mp hp with hp | hp
      · exact List.mem_append_right _ (List.mem_append_left _ hp)
      · rcases List.mem_append.mp hp with hp | hp
        · exact List.mem_append_left _ hp
        · exact List.mem_append_right _ (List.mem_append_right _ hp)
    · rw [hfr] at hp
      simp only [List.mem_append] at hp
      rcases hp with hp | hp | hp | hp | hp
      · exact (AK.1 p hp z (List.mem_append_left _ hz)).symm
      · exact r.U.1 z hz p (List.mem_append_right _ (List.mem_append_left _ hp))
      · exact r.U.1 z hz p (List.mem_append_right _ (List.mem_append_left _ hp))
      · exact r.U.1 z hz p (List.mem_append_left _ hp)
      · exact r.U.1 z hz p (List.mem_append_right _ (List.mem_append_right _ hp))
    · rw [hmf, hfr]
      intro z hz
      rcases List.mem_append.mp hz with hz | hz
      · exact List.mem_append_right _ (List.mem_append_left _ hz)
      · exact List.mem_append_right _ (List.mem_append_right _ (r.UF.1 z hz))
    · rw [hmf]
      intro z hz p hp
      rcases List.mem_append.mp hz with hz | hz
      · exact r.UK.1 z hz p (List.mem_append_left _ hp)
      · exact r.UF.2.1 z hz p hp
  refine h (kRt fun v σ' => P v ⟨σ.m, σ'.cs⟩) ⟨fun _ _ h => h, fun _ h => h⟩ _ _ _ _ hE rd.rel ?_
  intro fl σ' s' fl' hp hfl
  have fin : ∀ {v u}, P v ⟨σ.m, σ'.cs⟩ → Rel d σ' ((v, u) :: (H ++ T)) s' → LeaveK c.h₀ c.L m d.h₀ R9 u s' := by
    intro v u hp j91
    refine x51 j91 fun m2 adr2 M2 K2 R2 r2 => ?_
    try clear j91
    exact leaveK_ r2.F r2.N fun F9 N9 => hR9 _ _ (kk hp (r.backA hH r2 hw hos hg hfr hmf F9 N9).rel)
  cases hfl with
  | ret hr => exact fin hp hr
  | next hr => exact fin (v := .none) (u := .none) hp (hr.imm fun _ => .none)
  | brk _ => exact (show False from hp).elim
  | cont _ => exact (show False from hp).elim
theorem enterA {f : Addr} {ns : List Str} {vs : List AV} {P : KV} {n : Nat} (o : c.Ok2) (hf : FnOk c.w f ns) (hr : Room c (n + 1)) (hlen : vs.length = ns.length)
    (h : ∀ (d : Cx) (KK : KF), d.w = c.w → d.base = c.base → (d.fn f).Ok2 → Room (d.fn f) n → RtA P σ KK → AX (d.fn f) (bodyOf (hp d.w) f) ⟨ns.zip vs, σ.cs⟩ KK) : AC c (.ref f) vs σ P := by
  intro T s us Q E hl r k
  refine Rel.out r fun m adr M K R r => ?_
  have hus : us.length = ns.length := hl.symm.trans hlen
  have N2 : News c.h₀ c.L s.heap (M ++ (R ++ (R ++ (K ++ c.fr)))) := fun p hp => r.N p (by simp only [List.mem_append] at hp ⊢; grind)
  refine wpAny_call (ent (fr := R ++ (K ++ c.fr)) (mf := K ++ c.mf) o hf rfl (by have := hr.1; show c.dp < _; omega) r.F N2 hus ?_)
  intro g L' h₁ tk Kc m' ok F' N' AK hloc hKC
  refine goA (P := P) (Q := Q) (mm := ns.zip vs) (R9 := fun r s' => match r with | .ok (.ret v) => Q v s' | .ok _ => False | .error e => E e s') (s1 := { s with heap := h₁, toks := tk }) (d := c.inn f L' g (R ++ (K ++ c.fr)) (K ++ c.mf)) r ?_ rfl rfl rfl rfl rfl rfl F' N' rfl rfl AK ?_ hKC ?_ (fun _ _ h => h) PassesOwn.leaving
  · intro v u σ2 s2 hp r2
    exact k _ _ _ _ hp (r2.sub fun t ht => (List.mem_cons.mp ht).elim (fun e => e ▸ List.mem_cons_self) fun ht => List.mem_cons_of_mem _ (List.mem_append_right _ ht))
  · intro x v hx
    refine x12 (zip_two hl hx) fun u h1 h2 => ?_
    exact i12 u (hloc x u h1) (r.T _ (List.mem_append_left _ h2))
  · intro KK kr
    exact h (c.base' L' g (R ++ (K ++ c.fr)) (K ++ c.mf)) KK rfl rfl ok ⟨by have := hr.1; show c.dp + 1 + n < _; omega, by have := hr.2; show c.un + 3 + 20 * n < _; omega⟩ kr
noncomputable def Cx.clo9 (d : Cx) (sc : Scope) (x : Str) (ca S : Addr) : Cx := { d with cs := sc, cl := [(x, ca)], fc := [(x, ca, .ref S)], sub := none }
noncomputable def Cx.clo (c : Cx) (f L' : Addr) (g : Heap) (fr mf : Led) (qual : Str) (sc : Scope) (c' : Addr) (x : Str) (ca S : Addr) : Cx :=
  ({ c with dp := c.dp + 1, un := c.un + 3, L := L', outer := c.fenv :: c.outer, A₀ := c.A, h₀ := g, fr := fr, mf := mf, cn := qual, ax := f, ccd := .ref c' } : Cx).clo9 sc x ca S
theorem entC {L : Lvl} {name : Str} {params : Arguments} {body : List Stmt} {sc : Scope} {pos0 : Pos} {f k S ca : Addr} {e : PySem.Expr} {P : KV} {n : Nat} {pn x : Str} (g : L.Good c) (o : c.Ok2) (hr : Room c (n + 1)) (hst : isStar e = false)
    (hb : ∀ qual doc pm c' ctv u, bindArgs (fnX name qual params body sc [(x, ca)] .none .none doc pm none (.ref c') ctv) ⟨[u], []⟩ = pure [(pn, u)]) (hx : freesOf sc = [x]) (hpn : sc.names.lookup pn = some .local) (hxk : sc.names.lookup x = some .free)
    (hk : sc.kind = .function) (hco : sc.isCoroutine = false) (hge : sc.isGenerator = false) (hcell : (sc.names.all fun q => !(q.2 == .cell)) = true) (hd : sc.names.lookup ("__debug__" : Str) = none) (hcd : sc.names.lookup ("__classdict__" : Str) = none)
    (hca : ∃ oS, (ca, oS) ∈ c.fr ∧ oS.data = .cell (some (.ref S)))
    (h : L.ev e σ fun v σ1 => ∀ (d : Cx) (KK : KF), d.w = c.w → (d.clo9 sc x ca S).Ok2 → Room (d.clo9 sc x ca S) n → RtA P σ1 KK → AX (d.clo9 sc x ca S) body ⟨[(pn, v), (x, .cell k)], σ1.cs⟩ KK) : CL c (.clo (.FunctionDef name params body [] none [] sc none name pos0) f k S ca) [e] σ P := by
  intro pos T s u Q E hE r kk
  have clo : ∀ {σ1 : St} {T1 : List (AV × Value)} {s1 : Shared} {Q : Value → Prop} {u : Value}, Rel c σ1 T1 s1 → (AV.clo (.FunctionDef name params body [] none [] sc none name pos0) f k S ca, u) ∈ T1 →
      (∀ m adr M K R qual doc pm c' ctv oc vs t, RelD c σ1 T1 s1 m adr M K R → adr[k]? = some S → (f, fnMade name qual params body sc [(x, ca)] doc pm c' ctv) ∈ R → (c', oc) ∈ R → oc.data = .fields vs → vs[1]? = some (.str qual t) → Q (.ref f)) → Q u := by
    intro σ1 T1 s1 Q u r1 hm kk
    refine Rel.out r1 fun m adr M K R r1 => ?_
    have z := r1.T _ hm
    cases z with
    | imm z => exact z.noClo
    | clo e q =>
      cases q with | mk _ _ _ _ _ qual doc pm c' ctv oc vs t e1 h2 h3 h4 h5 => ?_
      cases e1
      rw [hx] at h2
      exact kk m adr M K R qual doc pm c' ctv oc vs t r1 e h2 h3 h4 h5
  refine clo (Q := fun u => Rel c σ ((.clo (.FunctionDef name params body [] none [] sc none name pos0) f k S ca, u) :: T) s → wpAny c.M c.A (callWith pos u [] (backTo pos (starEach [e] c.env)) []) Q E s) r List.mem_cons_self (fun _ _ _ _ _ _ _ _ _ _ _ _ _ r0 _ h0 _ _ _ r => ?_) r
  have h' : evs L [e] σ fun vs σ1 => arg1 vs (fun v => ∀ (d : Cx) (KK : KF), d.w = c.w → (d.clo9 sc x ca S).Ok2 → Room (d.clo9 sc x ca S) n → RtA P σ1 KK → AX (d.clo9 sc x ca S) body ⟨[(pn, v), (x, .cell k)], σ1.cs⟩ KK) False := h
  refine callWith_F (FnAt.of r0.N (r0.still? h0)) (evs_ok g (by rw [List.any_cons, hst]; rfl) hE r h' fun vs us σ1 s1 h1 hl1 _ r1 => ?_) (star_cons hst) rfl
  clear h0 r0 r
  refine x12 ((arg1_out h1).elim id False.elim) fun v e94 h1 => ?_
  obtain rfl := e94
  refine x11 (us1 hl1) fun u e95 => ?_
  obtain rfl := e95
  refine clo (Q := fun _ => _) r1 (List.mem_cons_of_mem _ List.mem_cons_self) fun m adr M K R qual doc pm c' ctv oc vs t r hadr h0 h2 h3 h4 => ?_
  refine ⟨FnAt.of r.N (r.still? h0), wpAny_call ?_⟩
  have N2 : News c.h₀ c.L s1.heap (M ++ (R ++ (R ++ (K ++ c.fr)))) := fun p hp => r.N p (by simp only [List.mem_append] at hp ⊢; grind)
  refine code_nest (A := c.A) (env := c.fenv) (outer := c.outer) (binds := [(pn, u)]) o.B r.F o.X N2 o.T rfl rfl o.k (List.mem_append_right _ (List.mem_append_left _ h0)) (codeRec_news r.N (r.still? h2) h3 h4) (by have := hr.1; show c.dp < _; omega) (BindsTo.of_eq (hb _ _ _ _ _ _)) (fun y hy => by rcases List.mem_singleton.mp hy with rfl; exact hpn) ?_ hco hge hk (fun q hq e9 => by have := List.all_eq_true.mp hcell q hq; rw [e9] at this; cases this)
  intro g9 L' h₁ FG F' N' B' X' T'
  refine goA (P := P) (Q := Q) (mm := [(pn, v), (x, .cell k)]) (Kc := []) (R9 := fun r s' => match r with | .ok (.ret v) => Q v s' | .ok _ => False | .error e => E e s') (s1 := { s1 with heap := h₁, toks := s1.toks + [(pn, u)].length }) (d := c.clo f L' g9 (R ++ (K ++ c.fr)) (K ++ c.mf) qual sc c' x ca S) r ?_ rfl rfl rfl rfl rfl rfl F' N' rfl rfl ⟨fun _ h => (by cases h), .nil⟩ ?_ ?_ ?_ (fun _ _ h => h) PassesOwn.leaving
  · intro v u σ2 s2 hp r2
    exact kk _ _ _ _ hp (r2.sub fun t ht => (List.mem_cons.mp ht).elim (fun e => e ▸ List.mem_cons_self) fun ht => List.mem_cons_of_mem _ (List.mem_cons_of_mem _ (List.mem_cons_of_mem _ ht)))
  · intro y w hy
    rw [List.lookup_cons] at hy
    cases e1 : y == pn with
    | true =>
      rw [e1] at hy; cases hy
      obtain rfl := eq_of_beq e1
      refine i12 u (.loc rfl hpn ?_) (r.T _ List.mem_cons_self)
      show List.lookup y [(y, u)] = _
      rw [List.lookup_cons, beq_self_eq_true]
    | false =>
      rw [e1] at hy
      have hy : List.lookup y [(x, AV.cell k)] = some w := hy
      rw [List.lookup_cons] at hy
      cases e2 : y == x with
      | true => rw [e2] at hy; cases hy; exact ⟨_, .fix (ca := ca) (by rw [eq_of_beq e2]; exact List.mem_cons_self), .cell hadr⟩
      | false => rw [e2] at hy; cases hy
  · intro y hy
    have := List.all_eq_true.mp hcell _ (lookup_mem9 hy)
    cases this
  · intro KK kr
    refine x12 hca fun oS hS1 hS2 => ?_
    try clear hca
    refine h1 _ KK rfl { B := B', X := X', T := T', k := hk, sk := fun _ _ _ _ _ e => (by cases e), fx := fun q hq => ?_, nd := hd, nc := hcd, ci := fun a b ca' ha hb' => ?_ } ⟨by have := hr.1; show c.dp + 1 + n < _; omega, by have := hr.2; show c.un + 3 + 20 * n < _; omega⟩ kr
    · rcases List.mem_singleton.mp hq with rfl
      refine ⟨hxk, ?_, oS, List.mem_append_right _ (List.mem_append_right _ hS1), hS2⟩
      show List.lookup x [(x, ca)] = _
      rw [List.lookup_cons, beq_self_eq_true]
    · have one : ∀ z, List.lookup z [(x, ca)] = some ca' → z = x := fun z hz => by
        rw [List.lookup_cons] at hz
        cases e : z == x with
        | true => exact eq_of_beq e
        | false => rw [e] at hz; cases hz
      rw [one a ha, one b hb']
theorem AS_def {name x : Str} {params : Arguments} {body : List Stmt} {sc : Scope} {pos : Pos} {kt k : Nat} {ca : Addr} {P : KF} (o : c.Ok2) (hsub : c.sub = none) (hC : CodeHd c.base 491 489) (hcd : c.ccd = .ref 491) (hd0 : params.defaults = []) (hk0 : params.kw_defaults = []) (ha : annTrees params none c.fenv = [])
    (hkt : σ.cs[kt]? = some (.raw 489 (tabObj #[]))) (hcl : closureFor sc c.fenv = pure ((freesOf sc).map fun x => (x, ca))) (hx : σ.m.lookup x = some (.cell k))
    (h : ∀ f S ps, storeA c name (.clo (.FunctionDef name params body [] none [] sc none name pos) f k S ca) (σ.setc kt (.raw 489 (tabObj ps))) (P .next)) : AS c (.FunctionDef name params body [] none [] sc none name pos) σ P := by
  refine ⟨fun T s Q E hE r kk => ?_⟩
  refine Rel.out r fun m adr M K R r => ?_
  refine x12 (r.V x _ hx) fun u l hv => ?_
  obtain ⟨S, hS⟩ : ∃ S, adr[k]? = some S := by
    cases hv with
    | imm z => cases z
    | cell e => exact ⟨_, e⟩
  refine r.C.at (fun v e => by cases e) hkt fun a q M1 M2 h1 h2 e96 h4 _ => ?_
  obtain rfl := e96
  cases h2
  have U3 := List.pairwise_append.mp r.U.2
  have U4 := List.pairwise_cons.mp U3.2.1
  have N1 : News c.h₀ c.L s.heap ((489, tabObj #[]) :: (M1 ++ M2 ++ (K ++ (R ++ c.fr)))) := fun p hp => r.N p (by simp only [List.mem_append, List.mem_cons] at hp ⊢; grind)
  have off : ∀ p ∈ M1 ++ M2 ++ (K ++ (R ++ c.fr)), p.1 ≠ 489 := by
    intro p hp
    rcases List.mem_append.mp hp with hp | hp
    · rcases List.mem_append.mp hp with hp | hp
      · exact U3.2.2 _ hp _ List.mem_cons_self
      · exact (U4.1 _ hp).symm
    · exact r.U.1 _ (List.mem_append_right _ List.mem_cons_self) _ hp
  have ee : c.env = c.fenv := by unfold Cx.env; rw [hsub]
  rw [ee]
  refine nestDef_K hd0 hk0 ha ?_
  refine nest_K r.F N1 o.T (hC.keeps fun b ob e => o.B.stays b ob e) hcd (UpdF.head off) trivial rfl hcl ?_
  intro f c' oc vs t ctv doc h' tk F' N' e1 e2 lt1 lt2
  rw [← ee]
  have lt1 : ∀ p ∈ (489, tabObj #[]) :: (M1 ++ M2 ++ (K ++ (R ++ c.fr))), p.1 < c' := lt1
  have ltM : ∀ z ∈ M1 ++ (489, tabObj (#[] ++ #[rawInt pos.line, rawInt pos.col, .ref c'])) :: M2, z.1 < c' := by
    intro z hz
    rcases List.mem_append.mp hz with hz | hz
    · exact lt1 z (List.mem_cons_of_mem _ (List.mem_append_left _ (List.mem_append_left _ hz)))
    · rcases List.mem_cons.mp hz with rfl | hz
      · exact lt1 (489, tabObj #[]) List.mem_cons_self
      · exact lt1 z (List.mem_cons_of_mem _ (List.mem_append_left _ (List.mem_append_right _ hz)))
  have new : ∀ {z : Addr × Obj}, z.1 < c' → ∀ p ∈ [(f, fnMade name (qualnameIn c.fenv name name) params body sc ((freesOf sc).map fun x => (x, ca)) doc ((c.mg "__name__").getD .none) c' ctv), (c', oc)], p.1 ≠ z.1 := by
    intro z hz p hp
    rcases List.mem_cons.mp hp with rfl | hp
    · exact Nat.ne_of_gt (Nat.lt_trans hz lt2)
    · rcases List.mem_singleton.mp hp with rfl
      exact Nat.ne_of_gt hz
  generalize hfm : (f, fnMade name (qualnameIn c.fenv name name) params body sc ((freesOf sc).map fun x => (x, ca)) doc ((c.mg "__name__").getD .none) c' ctv) = fm at N' new
  have hR : ∀ p ∈ R, p ∈ [fm, (c', oc)] ++ R := fun p hp => List.mem_append_right _ hp
  refine storeA_ok (σ := σ.setc kt (.raw 489 (tabObj (#[] ++ #[rawInt pos.line, rawInt pos.col, .ref c'])))) (T := T) (v := .clo (.FunctionDef name params body [] none [] sc none name pos) f k S ca) o ⟨m, adr, M1 ++ (489, tabObj (#[] ++ #[rawInt pos.line, rawInt pos.col, .ref c'])) :: M2, K, [fm, (c', oc)] ++ R, F', fun p hp => N' p ?_, ⟨fun z hz p hp => ?_, ?_⟩, ⟨fun z hz p hp => ?_, r.UK.2⟩, h4 _ _ _ hR .raw, Vmono hR r.V, fun t ht => ?_, r.os, r.gens, r.KC, r.UF.1, fun z hz p hp => ?_, r.UF.2.2⟩ (h f S _) (hst kk)
  · simp only [List.mem_append, List.mem_cons, List.not_mem_nil, or_false] at hp ⊢
    grind
  · simp only [List.append_assoc] at hp
    rcases List.mem_append.mp hp with hp | hp
    · rcases List.mem_append.mp hz with hz | hz
      · exact r.U.1 z (List.mem_append_left _ hz) p (List.mem_append_left _ hp)
      · rcases List.mem_cons.mp hz with rfl | hz
        · exact off p (List.mem_append_right _ (List.mem_append_left _ hp))
        · exact r.U.1 z (List.mem_append_right _ (List.mem_cons_of_mem _ hz)) p (List.mem_append_left _ hp)
    · rcases List.mem_append.mp hp with hp | hp
      · exact new (ltM z hz) p hp
      · rcases List.mem_append.mp hz with hz | hz
        · exact r.U.1 z (List.mem_append_left _ hz) p (List.mem_append_right _ hp)
        · rcases List.mem_cons.mp hz with rfl | hz
          · exact off p (List.mem_append_right _ (List.mem_append_right _ hp))
          · exact r.U.1 z (List.mem_append_right _ (List.mem_cons_of_mem _ hz)) p (List.mem_append_right _ hp)
  · exact List.pairwise_append.mpr (i03 U3.1 (List.pairwise_cons.mpr ⟨fun z hz => U4.1 z hz, U4.2⟩) (fun z hz y hy => (List.mem_cons.mp hy).elim (fun e => by subst e; exact U3.2.2 z hz (489, tabObj #[]) List.mem_cons_self) fun hy => U3.2.2 z hz y (List.mem_cons_of_mem _ hy)))
  · rw [List.append_assoc] at hp
    rcases List.mem_append.mp hp with hp | hp
    · exact new (lt1 z (List.mem_cons_of_mem _ (List.mem_append_right _ (List.mem_append_left _ hz)))) p hp
    · exact r.UK.1 z hz p hp
  · rcases List.mem_cons.mp ht with rfl | ht
    · refine .clo hS (.mk name params body sc pos (qualnameIn c.fenv name name) doc ((c.mg "__name__").getD .none) c' ctv oc vs t rfl ?_ (List.mem_append_left _ (List.mem_cons_of_mem _ List.mem_cons_self)) e1 e2)
      rw [hfm]
      exact List.mem_append_left _ List.mem_cons_self
    · exact (r.T t ht).mono hR
  · rcases List.mem_append.mp hp with hp | hp
    · exact new (lt1 z (List.mem_cons_of_mem _ (List.mem_append_right _ (List.mem_append_right _ (List.mem_append_right _ (r.UF.1 z hz)))))) p hp
    · exact r.UF.2.1 z hz p hp
end
end Mine
end
section
open PySem PySem.W PyProof.Rows PySem.Calls PySem.Spec
set_option tactic.hygienic false
set_option maxHeartbeats 400000
namespace Mine
theorem sub_plain {slice : PySem.Expr} (h : isSlice slice = false) {a : Addr} {u : Value} : subscripted slice false (.ref a) u = operate [.ref a, u] (getItem (.ref a) u) := by
  cases slice <;> first | rfl | cases h
section
variable {c : Cx} {σ : St} {P : KV}
theorem SU_tup0 {x : AV} {l : List AV} (h : P x σ) : SU c (.tup (x :: l)) (.int 0) σ P := by
  intro value slice T s u1 u2 Q E hs r k
  refine x11 (r.int List.mem_cons_self) fun t e91 => ?_
  obtain rfl := e91
  refine Rel.out r fun m adr M K R r => ?_
  cases r.ri (List.mem_cons_of_mem _ List.mem_cons_self) rfl with
  | @tup _ vs a hm hl =>
    cases hl with
    | @cons _ u _ vs ha hl =>
      exact item_tupleT (j := 0) (x := u) (News.isTup r.N (r.still? hm)) (by decide) (by decide) (by unfold seqIndex?; simp) rfl (k _ _ _ _ h ((RelD.tail (RelD.tail r)).add (.imm ha)).rel) (sub_plain hs)
theorem SU_base {sa : Addr} {vs : List Value} {x : Int} {t : Tok} (o : c.Ok2) (hl : c.base.IsList sa vs.toArray) (hx : vs[0]? = some (.int x t)) (h : P (.int x) σ) : SU c (.fn sa) (.int 0) σ P := by
  intro value slice T s u1 u2 Q E hs r k
  refine x11 (r.int List.mem_cons_self) fun t2 e92 => ?_
  obtain rfl := e92
  obtain rfl := r.fn (List.mem_cons_of_mem _ List.mem_cons_self)
  have r0 := r.drop.drop
  refine Rel.out r fun m adr M K R r => ?_
  exact item_litK (hl.at fun ob e => r.F.keep _ ob (o.B.stays _ ob e)) (by decide) (by decide) hx (k _ _ _ _ h (r0.imm fun _ => .int)) (sub_plain hs)
theorem AC_lenB {sa : Addr} {vs : List Value} (o : c.Ok2) (hl : c.base.IsList sa vs.toArray) (hz : vs.length ≤ 16777216) (h : P (.int vs.length) σ) : AC c (.builtin "len") [.fn sa] σ P := by
  intro T s us Q E he r k
  refine x11 (us1 he) fun u1 e93 => ?_
  obtain rfl := e93
  obtain rfl := r.fn List.mem_cons_self
  have r0 := r.drop
  refine Rel.out r fun m adr M K R r => ?_
  refine len_list (hl.at fun ob e => r.F.keep _ ob (o.B.stays _ ob e)) (by simp only [List.size_toArray]; omega) ?_
  exact k _ _ _ _ (by rw [List.size_toArray]; exact h) ((r0.tok _).imm fun _ => .int)
theorem AC_max {a b : Int} (h : P (.int (if b > a then b else a)) σ) : AC c (.builtin "max") [.int a, .int b] σ P := by
  intro T s us Q E hl r k
  refine x21 (us2 hl) fun u1 u2 e94 => ?_
  obtain rfl := e94
  refine x11 (r.int List.mem_cons_self) fun t1 e95 => ?_
  obtain rfl := e95
  refine x11 (r.int (List.mem_cons_of_mem _ List.mem_cons_self)) fun t2 e96 => ?_
  obtain rfl := e96
  refine Rel.out r fun m adr M K R r => ?_
  exact max_two_N rfl r.F r.N fun h' tk F' N' => k _ _ _ _ h (Rel.imm (r.tail.tail.heap (s' := { s with heap := h', toks := tk }) F' N' rfl rfl).rel fun _ => .int)
theorem AC_intB {b : Bool} (h : P (.int (if b then 1 else 0)) σ) : AC c (.type "int") [.bool b] σ P := by
  intro T s us Q E hl r k
  refine x11 (us1 hl) fun u1 e97 => ?_
  obtain rfl := e97
  obtain rfl := r.bool List.mem_cons_self
  exact call_int_bool (k _ _ _ _ h ((r.drop.tok _).imm fun _ => .int))
theorem OP_pow {a n : Int} (h0 : 0 ≤ n) (h1 : n ≤ 1000000) (ha : a.natAbs < 2 ^ 64) (h : P (.int (a ^ n.toNat)) σ) : OP c (binaryOp .Pow) (.int a) (.int n) σ P := by
  intro T s u1 u2 Q E r k
  refine x11 (r.int (List.mem_cons_of_mem _ List.mem_cons_self)) fun t1 e98 => ?_
  obtain rfl := e98
  refine x11 (r.int List.mem_cons_self) fun t2 e99 => ?_
  obtain rfl := e99
  exact pow_int_small h0 h1 ha (k _ _ _ _ h ((r.drop.drop.tok _).imm fun _ => .int))
theorem bit01 {b : Bool} : Builtin.Int.intBits (if b = true then 1 else 0) ≤ 64 ∧ (0 : Int) ≤ (if b = true then 1 else 0) := by cases b <;> decide
theorem pool_ac {sa : Addr} {vs : List Value} {ns : List Int} (o : c.Ok2) (hr : Room c 3) (hl : c.base.IsList sa vs.toArray) (hI : IntsAre vs ns) (h63 : ¬ 63 < ns.length) (ret : ∀ a b, 0 ≤ a → 0 ≤ b → b < 2147483647 → P (.cell σ.cs.length) ⟨σ.m, σ.cs ++ [.list [.int a, .int b]]⟩) : AC c (.ref 451) [.fn sa, .int 0] σ P := by
  refine enterA (n := 2) (ns := [Str.ofString "script", Str.ofString "k"]) o (.of (by kernel_rfl) (bd2 fun _ _ => by kernel_rfl)) hr rfl fun d KK _ hbase od rd kr => (lvl_good od 60).ex _ _ _ ?_
  have hl' : (d.fn 451).base.IsList sa vs.toArray := by show d.base.IsList sa vs.toArray; rw [hbase]; exact hl
  have hlen : vs.length = ns.length := by
    clear hl hl' h63 ret
    induction hI with
    | nil => rfl
    | cons _ _ _ ih => exact congrArg (· + 1) ih
  refine IfK.join (fun σ' => ∃ z : Int, σ' = ⟨[(Str.ofString "script", .fn sa), (Str.ofString "k", .int 0), (Str.ofString "cell", .int z)], σ.cs⟩) ?_ ?_
  · refine hide1 ?_
    intro G9 hG9 σ' j910
    refine x11 j910 fun z e911 => ?_
    try clear j910
    obtain rfl := e911
    refine hG9 _ ?_
    clear hG9 G9
    refine AC_max ?_
    have hm := fmod_bnd (a := if -1 - z > z then -1 - z else z) (t := 2147483629) (by decide)
    refine Need.mk (by decide) ?_
    refine Need.mk (mulOk_of (by decide) (by decide)) ?_
    refine Need.mk (mulOk_of (by decide) (by decide)) ?_
    refine Need.mk (mulOk_of (by decide) (by decide)) ?_
    refine Need.mk (mulOk_of (by omega) (by omega)) ?_
    refine Need.mk (by decide) ?_
    refine OP_pow (by decide) (by decide) (by decide) ?_
    refine AC_intB ?_
    refine Need.mk (IntMulOk.of_right ?_) ?_
    · exact bit01.1
    refine kr.rt _ _ (ret _ _ ?_ (fmod_bnd (by decide)).1 (fmod_bnd (by decide)).2)
    refine Int.mul_nonneg ?_ ?_
    · split <;> omega
    · exact bit01.2
  · intro K' hK'
    refine AC_lenB od hl' (by omega) ?_
    refine Br.mk (fun h => ?_) (fun h => ?_)
    · have h := of_decide_eq_true h
      cases hI with
      | nil => exact absurd h (by decide)
      | cons z t hI =>
        refine SU_base od hl' rfl ?_
        exact hK' _ ⟨z, rfl⟩
    · exact hK' _ ⟨0, rfl⟩
end
end Mine
end
section
open PySem PySem.W PyProof.Rows PySem.Calls PySem.Spec
set_option tactic.hygienic false
set_option maxHeartbeats 400000
namespace Mine
noncomputable def sel1 (start stop step : Int) (i : Nat) : Bool :=
  if step > 0 then start ≤ i && i < stop && (i - start) % step == 0
  else stop < i && i ≤ start && (start - i) % (-step) == 0
theorem sel1_from {a n k : Nat} (h : k < n) : sel1 (a : Int) (n : Int) 1 k = decide (a ≤ k) := by
  unfold sel1
  have e : ((k : Int) - (a : Int)) % 1 = 0 := Int.emod_one _
  rw [if_pos (by decide), e]
  simp [h]
theorem cut_from {vs : List Value} {a n : Nat} (hn : vs.length ≤ n) : ∀ (k : Nat), k + vs.length ≤ n → ((vs.zipIdx k).filterMap fun x => if sel1 (a : Int) (n : Int) 1 x.2 = true then none else some x.1) = vs.take (a - k) := by
  induction vs with
  | nil => intro k _; simp
  | cons v r ih =>
    intro k hk
    simp only [List.length_cons] at hk hn
    rw [List.zipIdx_cons, List.filterMap_cons]
    have z := ih (by omega) (k + 1) (by omega)
    simp only [sel1_from (a := a) (n := n) (k := k) (by omega)]
    by_cases h : a ≤ k
    · simp only [h, decide_true, if_true]
      rw [z, show a - k = 0 by omega, show a - (k + 1) = 0 by omega]; simp
    · simp only [h, decide_false, Bool.false_eq_true, if_false]
      rw [z, show a - k = (a - (k + 1)) + 1 by omega]; simp
section
variable {prog : Program} {w : World} {A : Around} {E : Value → Shared → Prop} {s : Shared} {h₀ : Heap} {L : Addr} {m : Str → Option Value} {led : Led}
set_option maxHeartbeats 4000000 in
theorem wpAny_upd9 {prog : Program} {w : World} {A : Around} {s : Shared} {l : Addr} {f g : Array Value → Array Value} {Q E} (e : ∀ xs, g xs = f xs) (h : wpAny (model prog w) A (updateSeq l f) Q E s) : wpAny (model prog w) A (updateSeq l g) Q E s := (funext e : g = f) ▸ h
theorem delItem_from {l sl : Addr} {vs : List Value} {n : Nat} {a : Nat} {t : Tok} {Q : Unit → Shared → Prop} (F : Fr h₀ L s.heap m) (N1 : News h₀ L s.heap ((l, listOf vs.toArray n) :: led)) (off : ∀ p ∈ led, p.1 ≠ l)
    (hs : s.heap.IsSliceOf sl (.int (a : Int) t) .none .none) (ha : a ≤ vs.length) (hz : vs.length ≤ 16777216)
    (h : ∀ h' n', Fr h₀ L h' m → News h₀ L h' ((l, listOf (vs.take a).toArray n') :: led) → Q () { s with heap := h' }) :
    wpAny (model prog w) A (delItem (.ref l) (.ref sl)) Q E s := by
  have z := N1 _ (List.mem_cons_self ..)
  have ho := z.1
  have hl : s.heap.IsList l vs.toArray := ⟨_, ho, rfl, n, rfl⟩
  have hsz : vs.toArray.size ≤ sizeLine := by rw [List.size_toArray, sizeLine_eq]; omega
  refine x13 (id hs) fun os hos hcs hds => ?_
  have hTs : s.TypeIs (.ref sl) "slice" := ⟨os, hos, hcs⟩
  refine wpAny_delItem_slot hl.typeIs (by decide) PySem.F.slot_list_delitem (wpAny_call_entry PySem.F.slot_list_delitem hl.typeIs PySem.F.entry_list_delitem ?_ (PySem.F.args_list_delitem_2 _ _))
  show wpAny _ _ (Builtin.List.listSubscript? (.ref sl) >>= _) _ _ s
  refine wpAny_bind ?_
  unfold Builtin.List.listSubscript?
  refine wpAny_bind (wpAny_specialOf hTs slice_no_index ?_)
  simp only [Option.isNone_none, if_true]
  refine wpAny_pure ?_
  show wpAny _ _ (typeOf (.ref sl) >>= _) _ _ s
  refine wpAny_bind (wpAny_typeOf hTs ?_)
  rw [if_neg (by decide)]
  rw [listSliceParts_eq]
  refine wpAny_bind (wpAny_bind (wpAny_field hos hds (x := .none) rfl (wpAny_bind (wpAny_listPart .none ?_))))
  rw [if_neg (by decide)]
  refine wpAny_bind (wpAny_field hos hds (x := .int (a : Int) t) rfl (wpAny_bind (wpAny_listPart (.int _ _) ?_)))
  refine wpAny_bind (wpAny_field hos hds (x := .none) rfl (wpAny_bind (wpAny_listPart .none (wpAny_pure ?_))))
  refine wpAny_bind (m := Builtin.List.listItems (.ref l)) ?_
  unfold Builtin.List.listItems
  refine wpAny_bind (wpAny_seqItems ho rfl (wpAny_pure ?_))
  refine wpAny_bind (wpAny_of_eq (sliceIndices_raw (some (a : Int)) none none vs.toArray.size (by simp)) ?_)
  refine wpAny_bind (wpAny_rule ?_)
  have e9 : sliceBounds (some (a : Int)) none none vs.toArray.size = ((a : Int), (vs.length : Int), 1) := by
    rw [kms_bounds]
    simp only [kms_lo, kms_hi, List.size_toArray]
    rw [if_neg (by omega), Int.toNat_natCast, Nat.min_eq_left ha]
  rw [e9]
  refine wpAny_bind ?_
  show wpAny _ _ (updateSeq l _) _ _ s
  refine wpAny_upd9 (f := fun xs => (List.filterMap (fun x => if sel1 (a : Int) (vs.length : Int) 1 x.2 = true then none else some x.1) xs.toList.zipIdx).toArray) (by intro xs; kernel_rfl) ?_
  have e8 : (List.filterMap (fun x => if sel1 (a : Int) (vs.length : Int) 1 x.2 = true then none else some x.1) vs.toArray.toList.zipIdx).toArray = (vs.take a).toArray := by
    rw [cut_from (Nat.le_refl _) 0 (by omega)]
    rfl
  refine wpAny_updateSeq ho rfl ?_ hsz (by rw [e8, List.size_toArray, List.length_take, sizeLine_eq]; omega)
  refine wpAny_bind (wpAny_letGo (wpAny_pure ⟨_, rfl, ?_⟩))
  have hs9 := Heap.SameBut.update s.heap l (Obj.mapSeq (fun xs => (List.filterMap (fun x => if sel1 (a : Int) (vs.length : Int) 1 x.2 = true then none else some x.1) xs.toList.zipIdx).toArray))
  refine h _ (if (vs.take a).toArray.size == vs.toArray.size then n else n + 1) (F.change hs9 z.2.1 z.2.2) ?_
  refine N1.setHead off hs9 ?_
  rw [Heap.get?_update_self _ ho rfl]
  show some _ = some _
  congr 1
  show Obj.mapSeq _ ⟨_, _, .seq vs.toArray n, _⟩ = _
  unfold Obj.mapSeq
  simp only [e8]
end
section
variable {c : Cx} {σ : St} {P : KF} {L : Lvl}
theorem AS_delFrom {a lo : PySem.Expr} {p pos pos2 : Pos} (g : L.Good c) (h : L.ev a σ fun v σ1 => L.ev lo σ1 fun x σ2 => int1 x (fun i => cellK v (fun k => optL (σ2.cs[k]?.bind Cell.list?) (fun l => Need (0 ≤ i ∧ i ≤ l.length) (P .next (σ2.setc k (.list (l.take i.toNat))))) False) False) False) :
    AS c (.Delete [.Subscript a (.Slice (some lo) none none p) pos] pos2) σ P := by
  refine ⟨fun T s Q E hE r kk => ?_⟩
  refine wpAny_Delete (wpAny_deleteEach_cons (wpAny_delete_Subscript (g.ev _ _ _ h T s _ E hE r fun v u σ1 s1 h1 r1 => wpAny_Slice ?_)))
  rw [evalPart_some]
  refine g.ev _ _ _ h1 _ s1 _ E hE r1 fun x ux σ2 s2 h2 r2 => ?_
  refine x23 ((int1_ok r2 h2).elim id False.elim) fun i t e91 e92 h2 => ?_
  obtain rfl := e91
  obtain rfl := e92
  rw [evalPart_none]
  refine wpAny_pure (wpAny_pure ?_)
  cases v with
  | cell k =>
    refine x12 (optL_out h2) fun l e h2 => ?_
    refine x02 h2 fun j93 h4 => ?_
    try clear h2
    refine x02 j93 fun h0 h3 => ?_
    try clear j93
    refine x11 (Int.eq_ofNat_of_zero_le h0) fun n e94 => ?_
    obtain rfl := e94
    refine Rel.out r2 fun m adr M K R r2 => ?_
    have r3 : RelD c σ2 ((.int n, .int n t) :: (.cell k, u) :: T) { s2 with heap := s2.heap.push { cls := .type "slice", data := .fields #[.int n t, .none, .none] } } m adr M K R := r2.heap (r2.F.push _) (fun p hp => ⟨Heap.get?_push_of_some _ (r2.N p hp).1, (r2.N p hp).2⟩) rfl rfl
    refine r3.listV (Q := fun u => wpAny c.M c.A (delItem u (Value.ref s2.heap.objs.size)) (fun x s₁ => wpAny c.M c.A (deleteEach [] c.env) (fun x s₁ => Q Flow.next s₁) E s₁) E { heap := s2.heap.push { cls := Value.type "slice", data := Data.fields #[Value.int (↑n) t, Value.none, Value.none] }, gens := s2.gens, drawn := s2.drawn, toks := s2.toks, os := s2.os }) (List.mem_cons_of_mem _ List.mem_cons_self) e fun b vs n1 rest hl z N1 off up => ?_
    have hn : n ≤ vs.length := by rw [hl.len]; omega
    refine delItem_from r3.F N1 off (Heap.IsSliceOf.new ..) hn (by rw [hl.len]; omega) fun h' n' F' N' => ?_
    refine x11 (up (l.take n) (vs.take n) n' { s2 with heap := h' } (by rw [List.length_take]; omega) hl.take F' N' rfl rfl) fun M' r4 => ?_
    exact wpAny_deleteEach_nil (kk _ _ _ _ (show P .next (σ2.setc k (.list (l.take n))) from h4) (.next r4.tail.tail.rel))
  | _ => exact h2.elim
end
end Mine
end
section
open PySem PySem.W PyProof.Rows PySem.Calls PySem.Spec
set_option tactic.hygienic false
set_option maxHeartbeats 400000
namespace Mine
noncomputable def turnSt : Stmt := ((fnB9 (pgA 32))[10]?).getD (.Pass noPos)
noncomputable def posOf : Stmt → Pos
  | .FunctionDef _ _ _ _ _ _ _ _ _ p => p
  | _ => noPos
noncomputable abbrev sTurn : Str := Str.ofString "turn"
noncomputable abbrev sSeen : Str := Str.ofString "seen"
noncomputable abbrev sNode : Str := Str.ofString "node"
theorem turn_eq : turnSt = .FunctionDef sTurn (fnA turnSt) (fnB9 turnSt) [] none [] (fnS turnSt) none sTurn (posOf turnSt) := by kernel_rfl
section
variable {c : Cx} {σ : St} {P : KV}
theorem turn_cl {L : Lvl} {f S ca C a : Addr} {fs : List (Str × AV)} {ks sn : List AV} {mm : List (Str × AV)} {cs : List Cell} {e : PySem.Expr} (g : L.Good c) (o : c.Ok2) (hr : Room c 4) (hst : isStar e = false) (hca : ∃ oS, (ca, oS) ∈ c.fr ∧ oS.data = .cell (some (.ref S))) (hv : Node (.obj a C fs) ks) (hz : sn.length ≤ 1000)
    (he : ∀ F : KV, F (.obj a C fs) ⟨mm, .list sn :: cs⟩ → L.ev e ⟨mm, .list sn :: cs⟩ F) (h1 : Nat.beq C 94 = false → P (.obj a C fs) ⟨mm, .list (sn ++ [.obj a C fs]) :: cs⟩) (h2 : ∀ i, AV.obj a C fs = oLit a i → ∀ a', P (oLit a' (i + 5)) ⟨mm, .list (sn ++ [.obj a C fs]) :: cs⟩) : CL c (.clo turnSt f 0 S ca) [e] ⟨mm, .list sn :: cs⟩ P := by
  rw [turn_eq]
  refine entC (n := 3) (x := sSeen) (pn := sNode) g o hr hst (fun _ _ _ _ _ _ => by kernel_rfl) (by kernel_rfl) (by kernel_rfl) (by kernel_rfl) (by kernel_rfl) (by kernel_rfl) (by kernel_rfl) (by kernel_rfl) (by kernel_rfl) (by kernel_rfl) hca (he _ ?_)
  intro d KK _ od rd kr
  refine (lvl_good od 60).ex _ _ _ ?_
  refine Need.mk (by omega) ?_
  refine x33 hv.obj fun _ _ _ e0 hC _ => ?_
  cases e0
  refine isiT hC rfl ?_
  cases hL : Nat.beq C 94 with
  | false =>
    refine Br.ff ?_
    exact kr.rt _ _ (h1 hL)
  | true =>
    refine Br.tt ?_
    cases hv with
    | lit =>
      refine mk94 od (rd.le (by decide)) nc_str nc_int fun a' => ?_
      exact kr.rt _ _ (h2 _ rfl a')
    | _ => cases hL
end
end Mine
end
section
open PySem PySem.W PyProof.Rows PySem.Calls PySem.Spec
set_option tactic.hygienic false
set_option maxHeartbeats 400000
namespace Mine
inductive Mpd : Tr → Tr → Prop
  | leaf {v : AV} : (∀ a i, v ≠ oLit a i) → Mpd (.node v []) (.node v [])
  | lit {a a' : Addr} {i : Int} : Mpd (.node (oLit a i) []) (.node (oLit a' (i + 5)) [])
  | node {v v' : AV} {ks ks' : List Tr} : ks ≠ [] → Frm v v' (ks'.map Tr.v) → ks'.length = ks.length → (∀ q ∈ ks.zip ks', Mpd q.1 q.2) → Mpd (.node v ks) (.node v' ks')
noncomputable abbrev tkm (q : Tr × Bool) : AV := .tup [q.1.v, .bool q.2]
noncomputable def Tr.ks : Tr → List Tr
  | .node _ ks => ks
noncomputable def Fin (t : Tr) (l : List (Tr × Bool)) : List Tr → Prop := @List.rec _ (fun _ => List Tr → Prop) (fun dn => ∃ x, dn = [x] ∧ Mpd t x) (fun q _ ih dn => @Bool.rec (fun _ => Prop) (∀ x, Mpd q.1 x → ih (dn ++ [x])) (∃ dn0 xs, dn = dn0 ++ xs ∧ q.1.ks ≠ [] ∧ xs.length = q.1.ks.length ∧ (∀ z ∈ q.1.ks.zip xs, Mpd z.1 z.2) ∧ ∀ x, Mpd q.1 x → ih (dn0 ++ [x])) q.2) l
theorem Fin.kids {t : Tr} {r : List (Tr × Bool)} {ks : List Tr} : ∀ {dn : List Tr}, (∀ xs : List Tr, xs.length = ks.length → (∀ z ∈ ks.zip xs, Mpd z.1 z.2) → Fin t r (dn ++ xs)) → Fin t (ks.map (fun k => (k, false)) ++ r) dn := by
  induction ks with
  | nil => intro dn h; have := h [] rfl (fun _ h => by cases h); rwa [List.append_nil] at this
  | cons k ks ih =>
    intro dn h x hx
    refine ih fun xs hl hz => ?_
    rw [List.append_assoc]
    exact h (x :: xs) (congrArg (· + 1) hl) fun z hz' => (List.mem_cons.mp hz').elim (fun e => e ▸ hx) (hz z)
noncomputable def wgt (l : List (Tr × Bool)) : Nat := @List.rec _ (fun _ => Nat) 0 (fun q _ ih => @Bool.rec (fun _ => Nat) (size q.1) 1 q.2 + ih) l
noncomputable def wg2 (l : List (Tr × Bool)) : Nat := @List.rec _ (fun _ => Nat) 0 (fun q _ ih => @Bool.rec (fun _ => Nat) (2 * size q.1) 1 q.2 + ih) l
theorem wgt_app {a b : List (Tr × Bool)} : wgt (a ++ b) = wgt a + wgt b ∧ wg2 (a ++ b) = wg2 a + wg2 b ∧ a.length ≤ wgt a := by
  induction a with
  | nil => exact ⟨(Nat.zero_add _).symm, (Nat.zero_add _).symm, Nat.le_refl _⟩
  | cons q a ih =>
    obtain ⟨t, b1⟩ := q
    refine x03 ih fun i1 i2 i3 => ?_
    try clear ih
    have := size_pos t
    cases b1
    · exact i03 ((congrArg (size t + ·) i1).trans (Nat.add_assoc ..).symm) ((congrArg (2 * size t + ·) i2).trans (Nat.add_assoc ..).symm) (show a.length + 1 ≤ size t + wgt a by omega)
    · exact i03 ((congrArg (1 + ·) i1).trans (Nat.add_assoc ..).symm) ((congrArg (1 + ·) i2).trans (Nat.add_assoc ..).symm) (show a.length + 1 ≤ 1 + wgt a by omega)
theorem wgt_kids {ks : List Tr} : wgt (ks.map fun k => (k, false)) = sizeL ks ∧ wg2 (ks.map fun k => (k, false)) = 2 * sizeL ks := by
  induction ks with
  | nil => exact ⟨rfl, rfl⟩
  | cons k ks ih => exact ⟨congrArg (size k + ·) ih.1, show 2 * size k + wg2 (ks.map fun k => (k, false)) = 2 * (size k + sizeL ks) by rw [ih.2]; omega⟩
theorem NC.ren {k : Nat} {v : AV} (h : v.lv = false) : Mine.ren k v = v := by cases v <;> first | rfl | cases h
theorem Frm.nl {v v' : AV} {ks : List AV} (h : Frm v v' ks) : ∀ a i, v' ≠ oLit a i := by
  intro a i e
  cases h <;> (injection e with _ e2; exact absurd e2 (by decide))
theorem beq_nl {a C : Addr} {fs : List (Str × AV)} (h : Nat.beq C 94 = false) : ∀ a' i, AV.obj a C fs ≠ oLit a' i := by
  intro a' i e
  injection e with _ e2
  rw [e2] at h
  cases h
noncomputable abbrev sChange : Str := Str.ofString "change"
noncomputable abbrev sDone : Str := Str.ofString "done"
noncomputable def MpJ (cl : AV) (n0 : Nat) (t : Tr) (k : Nat) (σ : St) : Prop := ∃ (sn : List AV) (stk : List (Tr × Bool)) (dn : List Tr), σ = ⟨[(sChange, cl), (sTasks, .cell 1), (sDone, .cell 2)], [.list sn, .list (stk.map tkm), .list (dn.map Tr.v)]⟩ ∧
  (∀ q ∈ stk, Wf q.1) ∧ (∀ x ∈ dn, isObj x.v = true) ∧ Fin t stk.reverse dn ∧ sn.length + wgt stk = n0 + size t ∧ n0 + dn.length ≤ sn.length ∧ k = wg2 stk
section
variable {c : Cx} {σ : St} {P : KV}
theorem m_reb {L : Lvl} {v : AV} {ks : List AV} {es : List PySem.Expr} (h : Node v ks) (h1 : evs L es σ fun vs σ2 => AC c (.ref (rebFn v)) (v :: vs) σ2 P) : methE L c v (Str.ofString "rebuilt") es σ P := by
  cases h <;> exact h1
set_option maxHeartbeats 8000000 in
theorem mapped_ac {t : Tr} {k : Nat} {f S ca : Addr} {sn : List AV} (o : c.Ok2) (hr : Room c 7) (ht : Wf t) (hsz : size t ≤ 1000) (hn0 : sn.length = 0) (hk : σ.cs[k]? = some (.list sn)) (hca : ∀ T s m adr M K R, RelD c σ T s m adr M K R → ∃ oS, (ca, oS) ∈ R ++ (K ++ c.fr) ∧ oS.data = .cell (some (.ref S)))
    (ret : ∀ t' sn', Mpd t t' → sn'.length = size t → P t'.v (σ.setc k (.list sn'))) : AC c (.ref 430) [t.v, .clo turnSt f k S ca] σ P := by
  refine enter1W (n := 6) (ns := [sExpr, sChange]) o (.of (by kernel_rfl) (bd2 fun _ _ => by kernel_rfl)) hr hk live_list (List.forall_mem_cons.mpr ⟨.inl ht.nc, List.forall_mem_cons.mpr ⟨.inr (.inr ⟨_, _, _, _, rfl⟩), List.forall_mem_nil _⟩⟩) rfl fun d KK _ od rd kr was => (lvl_good od 60).ex _ _ _ ?_
  have hca' : ∃ oS, (ca, oS) ∈ (d.fn 430).fr ∧ oS.data = .cell (some (.ref S)) := by
    obtain ⟨T, s, m, adr, M, K, R, r, hs⟩ := was
    refine x12 (hca _ _ _ _ _ _ _ r) fun oS h1 h2 => ?_
    exact i12 oS (hs _ h1) h2
  rw [List.map_cons, List.map_cons, show ren k (.clo turnSt f k S ca) = .clo turnSt f 0 S ca from by show cond (Nat.beq k k) _ _ = _; rw [Nat.beq_refl]; rfl, NC.ren ht.nc]
  refine isTup_f (names := [sTasks, sDone]) (lvl_good od 60) od rfl rfl rfl (by kernel_rfl) ?_
  refine imm_nc ht.nc ?_
  refine AS_while [sChange, sTasks, sDone] (MpJ (.clo turnSt f 0 S ca) 0 t) (lvl_good od 60) (2 * size t) ?_ ?_
  · exact i37 sn [(t, false)] [] rfl (fun x hx => List.mem_singleton.mp hx ▸ ht) (fun _ h => (by cases h)) (fun x hx => ⟨x, rfl, hx⟩) (by simp [wgt, hn0]) (by simp [hn0]) (by simp [wg2])
  · refine hide3 ?_
    intro G9 hG9 k9 σ' KW j91
    refine x37 j91 fun sn stk dn e92 hw hdo hF hz hd hk' => ?_
    try clear j91
    obtain rfl := e92
    refine hG9 _ _ _ ?_
    clear hG9 G9
    intro nk
    rcases List.eq_nil_or_concat stk with rfl | ⟨pre, x, rfl⟩
    · refine Br.ff ?_
      refine x12 hF fun x e93 hx => ?_
      try clear hF
      obtain rfl := e93
      refine Item.at (by decide) rfl ?_
      refine kr.rt _ _ ?_
      refine ret1_nc (P := fun v' ce' => P v' (σ.setc k ce')) (isObj_nc (hdo x (by simp))) rfl (ret x sn hx ?_)
      simpa [wgt] using hz
    · rw [List.concat_eq_append] at *
      rw [List.map_append, List.map_cons, List.map_nil]
      have hx := hw x (by simp)
      obtain ⟨⟨v, ks⟩, b⟩ := x
      have hx : Wf (.node v ks) := hx
      cases hx with | node hn hks => ?_
      refine Br.t (by simp) ?_
      refine Pop.mk ?_
      have hkn : ∀ k ∈ ks.map Tr.v, NC k := fun k hk => (by obtain ⟨t', ht', rfl⟩ := List.mem_map.mp hk; exact (hks t' ht').nc)
      rw [List.reverse_append, List.reverse_singleton, List.singleton_append] at hF
      refine x03 (wgt_app (a := pre) (b := [(.node v ks, b)])) fun e1 e2 _ => ?_
      have e3 := (wgt_app (a := pre) (b := [])).2.2
      refine x33 hn.obj fun a C fs e95 hC _ => ?_
      obtain rfl := e95
      have hsn : sn.length ≤ 1000 := by omega
      have hdn : dn.length ≤ 1000 := by omega
      cases b with
      | false =>
        have e1 : wgt (pre ++ [(.node (.obj a C fs) ks, false)]) = wgt pre + (1 + sizeL ks + 0) := e1
        have e2 : wg2 (pre ++ [(.node (.obj a C fs) ks, false)]) = wg2 pre + (2 * (1 + sizeL ks) + 0) := e2
        refine m_parts od (rd.le (by decide)) hn hkn (by rw [List.length_map]; have := len_size ks; omega) fun ps hps => ?_
        refine IfK.mk ?_
        refine Br.tt ?_
        refine (OP_nil (rd.le (by decide)) rfl rfl).2 ?_
        cases ks with
        | nil =>
          cases hps
          refine Br.ff ?_
          refine Br.ff ?_
          refine IfK.mk ?_
          refine (OP_nil (rd.le (by decide)) rfl rfl).2 ?_
          refine Br.ff ?_
          have fin : ∀ x : Tr, isObj x.v = true → Mpd (.node (.obj a C fs) []) x → ∃ k', k' < k9 ∧ MpJ (.clo turnSt f 0 S ca) 0 t k' ⟨[(sChange, .clo turnSt f 0 S ca), (sTasks, .cell 1), (sDone, .cell 2)], [.list (sn ++ [.obj a C fs]), .list (pre.map tkm), .list (dn.map Tr.v ++ [x.v])]⟩ := by
            intro x hx hm
            have hf := hF x hm
            refine ⟨wg2 pre, by rw [hk', e2]; simp [sizeL], sn ++ [.obj a C fs], pre, dn ++ [x], by rw [List.map_append]; rfl, fun q hq => hw q (List.mem_append_left _ hq), fun y hy => (List.mem_append.mp hy).elim (hdo y) fun hy => by rcases List.mem_singleton.mp hy with rfl; exact hx, hf, ?_, ?_, rfl⟩
            · simp only [List.length_append, List.length_singleton, sizeL] at e1 hz ⊢; omega
            · simp only [List.length_append, List.length_singleton]; omega
          have dl : (dn.map Tr.v).length < 16000000 := by rw [List.length_map]; omega
          refine turn_cl (lvl_good od 50) od (rd.le (by decide)) rfl hca' hn hsn (fun _ h => h) (fun hL => ?_) fun i e a' => ?_
          · refine Need.mk dl ?_
            exact nk.nx _ (fin (.node (.obj a C fs) []) rfl (.leaf (beq_nl hL)))
          · refine Need.mk dl ?_
            exact nk.nx _ (fin (.node (oLit a' (i + 5)) []) rfl (by rw [e]; exact .lit))
        | cons k1 kr =>
          cases hps with | @cons _ sc ps _ hps => ?_
          refine Br.tt ?_
          refine Br.tt ?_
          refine Need.mk (by rw [List.length_map]; omega) ?_
          refine AS_forRev (lvl_good od 60) od rfl rfl ⟨rfl, rfl⟩ ?_
          have hps : Prs (.tup [k1.v, sc] :: ps) ((k1 :: kr).map Tr.v) := .cons hps
          have hrv : Prs (AV.tup [k1.v, sc] :: ps).reverse ((k1 :: kr).reverse.map Tr.v) := by rw [List.map_reverse]; exact hps.rev
          refine revL.mk [sChange, sTasks, sDone] (fun q σ => ∃ dn9 ks', σ = ⟨[(sChange, .clo turnSt f 0 S ca), (sTasks, .cell 1), (sDone, .cell 2)], [.list sn, .list ((pre ++ (.node (.obj a C fs) (k1 :: kr), true) :: dn9.map fun k => (k, false)).map tkm), .list (dn.map Tr.v), .list []]⟩ ∧ Prs q (ks'.map Tr.v) ∧ dn9 ++ ks' = (k1 :: kr).reverse) ⟨?_, ?_, ?_⟩
          · exact i23 [] ((k1 :: kr).reverse) (by rw [List.map_append]; rfl) hrv rfl
          · refine hide1 ?_
            intro G9 hG9 σ' j96
            refine x23 j96 fun dn9 ks' e97 hp he => ?_
            try clear j96
            obtain rfl := e97
            refine hG9 _ ?_
            clear hG9 G9
            cases ks' with | cons _ _ => cases hp | nil => ?_
            rw [List.append_nil] at he
            subst he
            refine x03 (wgt_app (a := pre) (b := (.node (.obj a C fs) (k1 :: kr), true) :: ((k1 :: kr).reverse.map fun k => (k, false)))) fun f1 f2 _ => ?_
            refine x02 (wgt_kids (ks := (k1 :: kr).reverse)) fun f3 f4 => ?_
            rw [sizeL_rev] at f3 f4
            have f1 : wgt (pre ++ (.node (.obj a C fs) (k1 :: kr), true) :: ((k1 :: kr).reverse.map fun k => (k, false))) = wgt pre + (1 + wgt ((k1 :: kr).reverse.map fun k => (k, false))) := f1
            have f2 : wg2 (pre ++ (.node (.obj a C fs) (k1 :: kr), true) :: ((k1 :: kr).reverse.map fun k => (k, false))) = wg2 pre + (1 + wg2 ((k1 :: kr).reverse.map fun k => (k, false))) := f2
            refine nk.ct _ ⟨_, ?_, sn, pre ++ (.node (.obj a C fs) (k1 :: kr), true) :: ((k1 :: kr).reverse.map fun k => (k, false)), dn, rfl, fun q hq => ?_, hdo, ?_, ?_, hd, rfl⟩
            · omega
            · rcases List.mem_append.mp hq with hq | hq
              · exact hw q (List.mem_append_left _ hq)
              · rcases List.mem_cons.mp hq with rfl | hq
                · exact .node hn hks
                · refine x12 (List.mem_map.mp hq) fun k' hk' e98 => ?_
                  obtain rfl := e98
                  exact hks k' (List.mem_reverse.mp hk')
            · have e : (pre ++ (Tr.node (.obj a C fs) (k1 :: kr), true) :: ((k1 :: kr).reverse.map fun k => (k, false))).reverse = (k1 :: kr).map (fun k => (k, false)) ++ (Tr.node (.obj a C fs) (k1 :: kr), true) :: pre.reverse := by simp
              rw [e]
              exact Fin.kids fun xs hl hz => (i25 dn xs rfl (List.cons_ne_nil _ _) hl hz hF)
            · omega
          · intro fr mf
            refine hide4 ?_
            intro G9 hG9 p r σ' KJ o' j99
            refine x23 j99 fun dn9 ks' e910 hp he => ?_
            try clear j99
            obtain rfl := e910
            refine hG9 _ _ _ _ ?_
            clear hG9 G9
            intro np nj
            cases ks' with | nil => cases hp | cons k2 ks' => ?_
            cases hp with | cons hp => ?_
            have hk2 : k2 ∈ k1 :: kr := List.mem_reverse.mp (he ▸ List.mem_append_right _ List.mem_cons_self)
            refine imm_nc (hks k2 hk2).nc ?_
            refine Need.mk ?_ ?_
            · have e5 := congrArg List.length he
              have e6 := len_size (k1 :: kr)
              simp only [List.length_map, List.length_append, List.length_cons, List.length_reverse] at e5 e6 ⊢
              omega
            · have e : (pre ++ (Tr.node (.obj a C fs) (k1 :: kr), true) :: (dn9 ++ [k2]).map fun k => (k, false)).map tkm = (pre ++ (Tr.node (.obj a C fs) (k1 :: kr), true) :: dn9.map fun k => (k, false)).map tkm ++ [.tup [k2.v, .bool false]] := by simp
              exact nj.nx _ (i23 (dn9 ++ [k2]) ks' (by rw [e]; rfl) hp (by rw [← he]; simp))
      | true =>
        have e1 : wgt (pre ++ [(.node (.obj a C fs) ks, true)]) = wgt pre + (1 + 0) := e1
        have e2 : wg2 (pre ++ [(.node (.obj a C fs) ks, true)]) = wg2 pre + (1 + 0) := e2
        obtain ⟨dn0, xs, rfl, hne, hlx, hmx, hF⟩ := (show ∃ dn0 xs, dn = dn0 ++ xs ∧ ks ≠ [] ∧ xs.length = ks.length ∧ (∀ z ∈ ks.zip xs, Mpd z.1 z.2) ∧ ∀ x, Mpd (.node (.obj a C fs) ks) x → Fin t pre.reverse (dn0 ++ [x]) from hF)
        refine m_parts od (rd.le (by decide)) hn hkn (by rw [List.length_map, ← hlx]; simp only [List.length_append] at hdn; omega) fun ps hps => ?_
        refine IfK.mk ?_
        refine Br.ff ?_
        refine Br.ff ?_
        refine IfK.mk ?_
        refine (OP_nil (rd.le (by decide)) rfl rfl).2 ?_
        have hpl : ps.length = ks.length := hps.len9.trans (List.length_map _)
        refine Br.t (by cases ps with | nil => exact absurd (List.length_eq_zero_iff.mp hpl.symm) hne | cons => rfl) ?_
        refine m_reb hn ?_
        refine m_groups od (rd.le (by decide)) hn (by rw [List.length_map, ← hlx]; simp only [List.length_append] at hdn; omega) fun gs hgs => ?_
        refine AE_slice (lvl_good od 50) (fun _ _ => rfl) ?_
        refine AC.imms ?_
        refine ⟨rfl, ?_⟩
        have hlo : ((((dn0 ++ xs).map Tr.v).length : Int) - (ps.length : Int)) = (dn0.length : Int) := by rw [List.length_map, List.length_append, hpl, hlx]; omega
        have hpk : pickA ((dn0 ++ xs).map Tr.v) (some ((((dn0 ++ xs).map Tr.v).length : Int) - (ps.length : Int))) none = xs.map Tr.v := by
          rw [hlo, pickA_from (Int.natCast_nonneg _), Int.toNat_natCast, List.map_append, List.drop_left' (List.length_map _)]
        rw [hpk]
        have hox : ∀ x ∈ xs, isObj x.v = true := fun x hx => hdo x (List.mem_append_right _ hx)
        refine rebuilt_ac od (rd.le (by decide)) hn hgs (by rw [List.length_map, List.length_map, hlx]) (fun e => hne (List.map_eq_nil_iff.mp e)) (fun k hk => by obtain ⟨x, hx, rfl⟩ := List.mem_map.mp hk; exact hox x hx) (by rw [List.length_map, ← hlx]; simp only [List.length_append] at hdn; omega) fun v' hfm hob => ?_
        refine AS_delFrom (lvl_good od 50) ?_
        refine Need.mk (by rw [hlo]; exact ⟨Int.natCast_nonneg _, by rw [List.length_map, List.length_append]; omega⟩) ?_
        have htk : ((dn0 ++ xs).map Tr.v).take ((((dn0 ++ xs).map Tr.v).length : Int) - (ps.length : Int)).toNat = dn0.map Tr.v := by
          rw [hlo, Int.toNat_natCast, List.map_append, List.take_left' (List.length_map _)]
        rw [htk]
        refine x31 (isObj_eq hob) fun a' C' f' e911 => ?_
        obtain rfl := e911
        refine turn_cl (lvl_good od 50) od (rd.le (by decide)) rfl hca' hfm.node hsn (fun _ h => h) (fun hL => ?_) fun i e => absurd e (hfm.nl _ _)
        refine Need.mk (by rw [List.length_map]; simp only [List.length_append] at hdn; omega) ?_
        have hf := hF _ (.node hne hfm hlx hmx)
        have e9 : (dn0 ++ [Tr.node (.obj a' C' f') xs]).map Tr.v = dn0.map Tr.v ++ [.obj a' C' f'] := List.map_append
        refine nk.nx _ ⟨wg2 pre, by rw [hk', e2]; omega, sn ++ [.obj a' C' f'], pre, dn0 ++ [.node (.obj a' C' f') xs], by rw [e9]; rfl, fun q hq => hw q (List.mem_append_left _ hq), fun y hy => (List.mem_append.mp hy).elim (fun h => hdo y (List.mem_append_left _ h)) fun hy => by rcases List.mem_singleton.mp hy with rfl; rfl, hf, ?_, ?_, rfl⟩
        · simp only [List.length_append, List.length_singleton] at e1 hz ⊢; omega
        · simp only [List.length_append, List.length_singleton] at hd ⊢
          have : 1 ≤ xs.length := by rw [hlx]; exact List.length_pos_iff.mpr hne
          omega
end
end Mine
end
section
open PySem PySem.W PyProof.Rows PySem.Calls PySem.Spec
set_option tactic.hygienic false
set_option maxHeartbeats 400000
namespace Mine
noncomputable abbrev nm5 : List Str := [Str.ofString "x", Str.ofString "y", Str.ofString "z", Str.ofString "w", Str.ofString "q"]
noncomputable def szB (n : Nat) : Nat := @Nat.rec (fun _ => Nat) 1 (fun _ s => 1 + 4 * s) n
noncomputable def DN (v : AV) : Prop := Dat 4 (hdf v)
theorem dat_strs {n : Nat} {l : List Str} : ∀ v ∈ strsA l, Dat n v := fun v h => by obtain ⟨x, _, rfl⟩ := List.mem_map.mp h; exact .str
theorem dat1 {n : Nat} {a : Str} {b : AV} (h : Dat n b) : Dat (n + 1) (.tup [.str a, b]) := .tup (List.forall_mem_cons.mpr ⟨.str, List.forall_mem_cons.mpr ⟨h, List.forall_mem_nil _⟩⟩)
theorem dat2 {n : Nat} {a : Str} {b c : AV} (h : Dat n b) (h2 : Dat n c) : Dat (n + 1) (.tup [.str a, b, c]) := .tup (List.forall_mem_cons.mpr ⟨.str, List.forall_mem_cons.mpr ⟨h, List.forall_mem_cons.mpr ⟨h2, List.forall_mem_nil _⟩⟩⟩)
theorem dn_var {a : Addr} {n : Str} : DN (oVar a n) := dat1 .str
theorem dn_lit {a : Addr} {i : Int} : DN (oLit a i) := dat1 .str
theorem dn_app {a : Addr} {f : AV} {xs : List AV} : DN (oApp a f xs) := dat1 .int
theorem dn_prim {a : Addr} {xs : List AV} : DN (oPrim a xs) := dat1 .str
theorem dn_lam {a : Addr} {l : List Str} {b : AV} : DN (oLam a (strsA l) b) := dat1 (.lst (dat_strs (n := 2)))
theorem dn_con {a : Addr} {xs : List AV} : DN (oCon a xs) := dat2 .str .int
theorem Binds.nm {bs : List AV} {ns : List Str} {es : List AV} (h : Binds bs ns es) : bs.map bnm = strsA ns := by
  induction h with
  | nil => rfl
  | cons _ ih => exact congrArg (_ :: ·) ih
theorem dn_let {a : Addr} {bs : List AV} {b : AV} {r : Bool} {ns : List Str} {es : List AV} (h : Binds bs ns es) : DN (oLet a bs b r) := by
  refine dat2 (b := .lst (bs.map bnm)) (c := .bool r) ?_ .bool
  rw [h.nm]
  exact .lst (dat_strs (n := 2))
noncomputable def AltD (as : List AV) : Prop := ∀ v ∈ as, ∃ a k ns b, v = oAlt a (.tup k) ns b ∧ (∀ x ∈ k, Dat 0 x) ∧ ∀ x ∈ ns, Dat 0 x
theorem dn_case {a : Addr} {v ot : AV} {n : Str} {as : List AV} (hd : AltD as) : DN (oCase a v n as ot) := by
  refine .tup (l := [.str (Str.ofString "case"), .str n, .lst (as.map altk), .bool (isNoneA ot)]) (List.forall_mem_cons.mpr ⟨.str, List.forall_mem_cons.mpr ⟨.str, List.forall_mem_cons.mpr ⟨.lst fun v hv => ?_, List.forall_mem_cons.mpr ⟨.bool, List.forall_mem_nil _⟩⟩⟩⟩)
  refine x12 (List.mem_map.mp hv) fun x hx e91 => ?_
  obtain rfl := e91
  refine x43 (hd x hx) fun a k ns b e92 h3 h4 => ?_
  obtain rfl := e92
  exact .tup (n := 1) (l := [.tup k, .lst ns]) (List.forall_mem_cons.mpr ⟨.tup h3, List.forall_mem_cons.mpr ⟨.lst h4, List.forall_mem_nil _⟩⟩)
structure Drw (n : Nat) (t : Tr) : Prop where
  wf : Wf t
  ht : Ht (n + 1) t
  sz : size t ≤ szB n
  nm : ∀ x ∈ vars (nodes t), x ∈ nm5
  dn : ∀ v ∈ nodes t, DN v
theorem szB_pos {n : Nat} : 1 ≤ szB n := by
  cases n with
  | zero => exact Nat.le_refl _
  | succ n => show 1 ≤ 1 + 4 * szB n; omega
theorem vars_nil {a C : Addr} {fs : List (Str × AV)} {l : List AV} (h : Nat.beq C 52 = false) : vars (.obj a C fs :: l) = vars l := by
  unfold vars
  rw [List.filterMap_cons, vname_none h]
theorem Drw.node {n : Nat} {a C : Addr} {fs : List (Str × AV)} {ks : List Tr} (hn : Node (.obj a C fs) (ks.map Tr.v)) (hC : Nat.beq C 52 = false) (hk : ∀ k ∈ ks, Drw n k) (hl : ks.length ≤ 4) (hdn : DN (.obj a C fs)) : Drw (n + 1) (.node (.obj a C fs) ks) := by
  refine ⟨.node hn fun k h => (hk k h).wf, fun k h => (hk k h).ht, ?_, fun x hx => ?_, fun v hv => ?_⟩
  · show 1 + sizeL ks ≤ 1 + 4 * szB n
    have : ∀ l : List Tr, (∀ k ∈ l, size k ≤ szB n) → sizeL l ≤ l.length * szB n := by
      intro l
      induction l with
      | nil => intro _; exact Nat.zero_le _
      | cons k l ih =>
        intro h
        have h1 := h k List.mem_cons_self
        have h2 := ih fun k hk => h k (List.mem_cons_of_mem _ hk)
        show size k + sizeL l ≤ (l.length + 1) * szB n
        rw [Nat.add_mul, Nat.one_mul]; omega
    have h1 := this ks fun k h => (hk k h).sz
    have h2 := Nat.mul_le_mul_right (szB n) hl
    omega
  · rw [show nodes (.node (.obj a C fs) ks) = .obj a C fs :: nodesL ks from rfl, vars_nil hC] at hx
    clear hn hl
    induction ks with
    | nil => cases hx
    | cons k ks ih =>
      rw [show nodesL (k :: ks) = nodes k ++ nodesL ks from rfl, vars, List.filterMap_append] at hx
      rcases List.mem_append.mp hx with hx | hx
      · exact (hk k List.mem_cons_self).nm x hx
      · exact ih (fun k h => hk k (List.mem_cons_of_mem _ h)) hx
  · rcases List.mem_cons.mp (show v ∈ .obj a C fs :: nodesL ks from hv) with rfl | hv
    · exact hdn
    · clear hn hl
      induction ks with
      | nil => cases hv
      | cons k ks ih =>
        rcases List.mem_append.mp (show v ∈ nodes k ++ nodesL ks from hv) with hx | hx
        · exact (hk k List.mem_cons_self).dn v hx
        · exact ih (fun k h => hk k (List.mem_cons_of_mem _ h)) (List.mem_cons_of_mem _ hx) hx
theorem Drw.leaf {n : Nat} {v : AV} (hn : Node v []) (h : ∀ x, vname v = some x → x ∈ nm5) (hdn : DN v) : Drw n (.node v []) := by
  refine ⟨.node hn (fun _ h => (by cases h)), fun _ h => (by cases h), szB_pos, fun x hx => ?_, fun y hy => List.mem_singleton.mp (show y ∈ [v] from hy) ▸ hdn⟩
  rw [show nodes (.node v []) = [v] from rfl, vars] at hx
  refine x12 (List.mem_filterMap.mp hx) fun y hy e => ?_
  rw [List.mem_singleton.mp hy] at e
  exact h x e
section
variable {c : Cx} {σ : St} {P : KV}
theorem AC.snd {f : Value} {a v : AV} (h : imm v σ fun v' σ' => AC c f [a, v'] σ' P) : AC c f [a, v] σ P := by
  intro T s us Q E hl r k
  refine x21 (us2 hl) fun u1 u2 e93 => ?_
  obtain rfl := e93
  refine x23 (imm_ok r (u := u2) (List.mem_cons_of_mem _ List.mem_cons_self) h) fun v' σ' h' r2 n2 => ?_
  refine h' T s [u1, u2] Q E rfl (r2.sub fun t ht => ?_) k
  simp only [List.zip_cons_cons, List.zip_nil_right, List.cons_append, List.nil_append, List.mem_cons] at ht ⊢
  rcases ht with ht | ht | ht
  · exact .inr (.inl ht)
  · exact .inl ht
  · exact .inr (.inr (.inr ht))
end
noncomputable abbrev sX : Str := Str.ofString "x"
noncomputable abbrev sY : Str := Str.ofString "y"
noncomputable abbrev sZ : Str := Str.ofString "z"
noncomputable abbrev sW : Str := Str.ofString "w"
noncomputable abbrev sQ : Str := Str.ofString "q"
noncomputable def TreeC (n : Nat) : Prop := ∀ {c : Cx} {σ : St} {P : KV} {k : Nat} {a b : Int}, c.Ok2 → Room c (4 + n) → σ.cs[k]? = some (srcC a b) → Src a b → ∀ dp : Int, dp = (n : Int) → (∀ t a' b', Drw n t → Src a' b' → P t.v (σ.setc k (srcC a' b'))) → AC c (.ref 470) [.cell k, .int dp] σ P
theorem nm_one {v : AV} {l : List Str} (h : v ∈ strsA l) (hl : ∀ x ∈ l, x ∈ nm5) : ∃ x, v = .str x ∧ x ∈ nm5 := by
  refine x12 (List.mem_map.mp h) fun x hx e94 => ?_
  obtain rfl := e94
  exact i12 x rfl (hl x hx)
theorem lsts_one {v : AV} {ls : List (List Str)} (h : v ∈ ls.map fun l => AV.lst (strsA l)) : ∃ l ∈ ls, v = .lst (strsA l) := by
  refine x12 (List.mem_map.mp h) fun l hl e95 => ?_
  obtain rfl := e95
  exact i12 l hl rfl
theorem nc_lsts {ls : List (List Str)} : ∀ v ∈ ls.map fun l => AV.lst (strsA l), NC v := fun v h => by obtain ⟨l, _, rfl⟩ := lsts_one h; rfl
theorem nc_strs {l : List Str} : ∀ v ∈ strsA l, NC v := fun v h => by obtain ⟨x, _, rfl⟩ := List.mem_map.mp h; rfl
theorem drw_var {n : Nat} {a : Addr} {x : Str} (h : x ∈ nm5) : Drw n (.node (oVar a x) []) := .leaf .var (fun y e => by cases (show some x = some y from e); exact h) dn_var
theorem drw_lit {n : Nat} {a : Addr} {i : Int} : Drw n (.node (oLit a i) []) := .leaf .lit (fun y e => by cases e) dn_lit
set_option maxHeartbeats 8000000 in
theorem tree_zero : TreeC 0 := by
  intro c σ P k a b o hr hk hs dp e ret
  subst e
  refine enter1 (n := 3) (ns := [sSource, Str.ofString "deep"]) o (.of (by kernel_rfl) (bd2 fun _ _ => by kernel_rfl)) hr hk live_list (List.forall_mem_cons.mpr ⟨.inr (.inl rfl), List.forall_mem_cons.mpr ⟨.inl nc_int, List.forall_mem_nil _⟩⟩) rfl fun d KK _ od rd kr => (lvl_good od 60).ex _ _ _ ?_
  rw [List.map_cons, ren_self]
  refine Br.ff ?_
  refine take_src od (rd.le (by decide)) rfl hs (by decide) (by decide) fun r a1 b1 h0 h1 hs1 => ?_
  refine IfK.mk ?_
  refine Br.mk (fun h2 => ?_) (fun h2 => ?_)
  · refine Need.mk (by decide) ?_
    refine AC.snd ?_
    refine one_src (vs := strsA [sX, sY, sZ, sW, sQ, sQ]) od (rd.le (by decide)) rfl hs1 (by decide) (by decide) nc_strs fun v a2 b2 hv hs2 => ?_
    refine x12 (nm_one hv (by decide)) fun x e96 hx => ?_
    obtain rfl := e96
    refine mk52 od (rd.le (by decide)) nc_str fun ad => ?_
    exact kr.rt _ _ (ret _ a2 b2 (drw_var hx) hs2)
  · have h2 := of_decide_eq_false h2
    obtain rfl : r = 2 := by omega
    refine IfK.mk ?_
    refine Br.tt ?_
    refine take_src od (rd.le (by decide)) rfl hs1 (by decide) (by decide) fun r a2 b2 h0 h1 hs2 => ?_
    refine mk94 od (rd.le (by decide)) nc_str nc_int fun ad => ?_
    exact kr.rt _ _ (ret _ a2 b2 drw_lit hs2)
theorem Drw.nc {n : Nat} {t : Tr} (h : Drw n t) : NC t.v := h.wf.nc
theorem Drw.obj {n : Nat} {t : Tr} (h : Drw n t) : ∃ a C fs, t.v = .obj a C fs := by
  cases h.wf with | node hn _ => ?_
  refine x32 hn.obj fun a C fs e _ => ?_
  exact i31 a C fs e
set_option maxHeartbeats 16000000 in
theorem tree_succ {n : Nat} (ih : TreeC n) : TreeC (n + 1) := by
  intro c σ P k a b o hr hk hs dp e ret
  refine enter1 (n := 4 + n) (ns := [sSource, Str.ofString "deep"]) o (.of (by kernel_rfl) (bd2 fun _ _ => by kernel_rfl)) hr hk live_list (List.forall_mem_cons.mpr ⟨.inr (.inl rfl), List.forall_mem_cons.mpr ⟨.inl nc_int, List.forall_mem_nil _⟩⟩) rfl fun d KK _ od rd kr => (lvl_good od 60).ex _ _ _ ?_
  rw [List.map_cons, ren_self]
  have e1 : dp - 1 = (n : Int) := by omega
  refine Br.t (decide_eq_true (show dp > 0 by omega)) ?_
  refine take_src od (rd.le (by omega)) rfl hs (by decide) (by decide) fun r a1 b1 h0 h1 hs1 => ?_
  refine IfK.mk ?_
  refine Br.mk (fun h2 => ?_) (fun h2 => ?_)
  · refine Need.mk (by decide) ?_
    refine AC.snd ?_
    refine one_src (vs := strsA [sX, sY, sZ, sW, sQ, sQ]) od (rd.le (by omega)) rfl hs1 (by decide) (by decide) nc_strs fun v a2 b2 hv hs2 => ?_
    refine x12 (nm_one hv (by decide)) fun x e97 hx => ?_
    obtain rfl := e97
    refine mk52 od (rd.le (by omega)) nc_str fun ad => ?_
    exact kr.rt _ _ (ret _ a2 b2 (drw_var hx) hs2)
  refine IfK.mk ?_
  refine Br.mk (fun h3 => ?_) (fun h3 => ?_)
  · refine take_src od (rd.le (by omega)) rfl hs1 (by decide) (by decide) fun r a2 b2 h0 h1 hs2 => ?_
    refine mk94 od (rd.le (by omega)) nc_str nc_int fun ad => ?_
    exact kr.rt _ _ (ret _ a2 b2 drw_lit hs2)
  refine IfK.mk ?_
  refine Br.mk (fun h4 => ?_) (fun h4 => ?_)
  · refine ih od rd rfl hs1 _ e1 fun t1 a2 b2 d1 hs2 => ?_
    refine ih od rd rfl hs2 _ e1 fun t2 a3 b3 d2 hs3 => ?_
    refine imm_nc d2.nc ?_
    refine AC.snd ?_
    refine mk134 od (rd.le (by omega)) d1.nc nc_lst fun ad => ?_
    exact kr.rt _ _ (ret (.node _ [t1, t2]) a3 b3 (.node .app rfl (List.forall_mem_cons.mpr ⟨d1, List.forall_mem_cons.mpr ⟨d2, List.forall_mem_nil _⟩⟩) (show 2 ≤ 4 by decide) dn_app) hs3)
  refine IfK.mk ?_
  refine Br.mk (fun h5 => ?_) (fun h5 => ?_)
  · refine AC.snd ?_
    refine one_src (vs := [[sX], [sY], [sX, sY], [sZ, sX]].map fun l => AV.lst (strsA l)) od (rd.le (by omega)) rfl hs1 (by decide) (by decide) nc_lsts fun v a2 b2 hv hs2 => ?_
    refine x12 (lsts_one hv) fun l _ e98 => ?_
    obtain rfl := e98
    refine ih od rd rfl hs2 _ e1 fun t1 a3 b3 d1 hs3 => ?_
    refine mk176 od (rd.le (by omega)) nc_lst d1.nc fun ad => ?_
    exact kr.rt _ _ (ret (.node _ [t1]) a3 b3 (.node .lam rfl (List.forall_mem_cons.mpr ⟨d1, List.forall_mem_nil _⟩) (show 1 ≤ 4 by decide) dn_lam) hs3)
  refine IfK.mk ?_
  refine Br.mk (fun h6 => ?_) (fun h6 => ?_)
  · refine AS_comp [sSource, Str.ofString "deep"] (lvl_good od 50) od rfl rfl (by decide) rfl rfl ⟨by kernel_rfl, by kernel_rfl, by kernel_rfl, trivial⟩ ?_
    refine AC.snd ?_
    refine one_src (vs := [[sX], [sY], [sX, sZ]].map fun l => AV.lst (strsA l)) od (rd.le (by omega)) rfl hs1 (by decide) (by decide) nc_lsts fun v a2 b2 hv hs2 => ?_
    refine x12 (lsts_one hv) fun l hl e99 => ?_
    obtain rfl := e99
    have hl2 : l.length ≤ 2 := (show ∀ l ∈ [[sX], [sY], [sX, sZ]], l.length ≤ 2 by decide) l hl
    refine cmpL.mk (fun q ys cs => ∃ n1 n2 ts a' b', l = n1 ++ n2 ∧ q = strsA n2 ∧ Binds ys n1 (ts.map Tr.v) ∧ (∀ t ∈ ts, Drw n t) ∧ Src a' b' ∧ cs = [srcC a' b', .list (strsA [sX, sY, sZ, sW]), .fro (.lst (strsA [sX])), .fro (.lst (strsA [sY])), .fro (.lst (strsA [sX, sZ])), .fro (.lst ([[sX], [sY], [sX, sZ]].map fun l => AV.lst (strsA l)))]) ⟨⟨[], l, [], a2, b2, rfl, rfl, .nil, List.forall_mem_nil _, hs2, rfl⟩, ?_, ?_, ?_⟩
    · intro q ys cs j910
      refine x56 j910 fun _ _ _ _ _ _ _ _ _ _ e911 => ?_
      try clear j910
      obtain rfl := e911
      rfl
    · refine hide2 ?_
      intro G9 hG9 ys cs j912
      refine x56 j912 fun n1 n2 ts a3 b3 h7 h8 hB hd hs3 e913 => ?_
      try clear j912
      obtain rfl := e913
      refine hG9 _ _ ?_
      clear hG9 G9
      obtain rfl := List.map_eq_nil_iff.mp h8.symm
      rw [List.append_nil] at h7
      subst h7
      refine ih od rd rfl hs3 _ e1 fun t1 a4 b4 d1 hs4 => ?_
      refine take_src od (rd.le (by omega)) rfl hs4 (by decide) (by decide) fun r2 a5 b5 h0 h1 hs5 => ?_
      refine AC.imms ?_
      refine imm_nc (v := t1.v) d1.nc ?_
      refine ⟨rfl, ?_⟩
      refine mk212 od (rd.le (by omega)) nc_lst d1.nc nc_bool fun ad => ?_
      refine kr.rt _ _ (ret (.node (oLet ad ys t1.v (r2 == 1)) (ts ++ [t1])) a5 b5 (.node ?_ rfl (fun t ht => (List.mem_append.mp ht).elim (hd t) fun h => List.mem_singleton.mp h ▸ d1) ?_ (dn_let hB)) hs5)
      · rw [List.map_append]; exact .let_ hB
      · have := hB.len.symm.trans hB.len2; rw [List.length_map] at this
        rw [List.length_append, List.length_singleton]; omega
    · intro C oC m fr mf
      refine hide6 ?_
      intro G9 hG9 x q ys cs KE KN ok j914
      refine x56 j914 fun n1 n2 ts a3 b3 h7 h8 hB hd hs3 e915 => ?_
      try clear j914
      obtain rfl := e915
      refine hG9 _ _ _ _ _ _ ?_
      clear hG9 G9
      intro nx nk
      cases n2 with | nil => cases h8 | cons n9 n2 => ?_
      refine x02 (List.cons.inj h8) fun e916 e917 => ?_
      obtain rfl := e916
      obtain rfl := e917
      refine i12 _ rfl ?_
      refine ih ok rd rfl hs3 _ e1 fun t1 a4 b4 d1 hs4 => ?_
      refine imm_nc d1.nc ?_
      refine nk.el _ _ (i56 (n1 ++ [n9]) n2 (ts ++ [t1]) a4 b4 (by rw [h7]; simp) rfl ?_ (fun t ht => (List.mem_append.mp ht).elim (hd t) fun h => List.mem_singleton.mp h ▸ d1) hs4 rfl)
      rw [List.map_append]; exact hB.snoc
  refine IfK.mk ?_
  refine Br.mk (fun h7 => ?_) (fun h7 => ?_)
  · refine AC.snd ?_
    refine one_src (vs := [[sX], [sY]].map fun l => AV.lst (strsA l)) od (rd.le (by omega)) rfl hs1 (by decide) (by decide) nc_lsts fun v a2 b2 hv hs2 => ?_
    refine x12 (lsts_one hv) fun l _ e918 => ?_
    obtain rfl := e918
    refine ih od rd rfl hs2 _ e1 fun t1 a3 b3 d1 hs3 => ?_
    refine mk233 od (rd.le (by omega)) nc_tup nc_lst d1.nc fun ad1 => ?_
    refine IfK.join (fun σ' => ∃ (as : List AV) (ks : List (AV × List AV)) (ts : List Tr) (a' b' : Int) (extra : List Cell), σ' = ⟨[(sSource, .cell 0), (Str.ofString "deep", .int dp), (Str.ofString "way", .int r), (Str.ofString "names", .cell 1), (Str.ofString "alts", .cell 5)], srcC a' b' :: .list (strsA [sX, sY, sZ, sW]) :: .fro (.lst (strsA [sX])) :: .fro (.lst (strsA [sY])) :: .fro (.lst ([[sX], [sY]].map fun l => AV.lst (strsA l))) :: .list as :: extra⟩ ∧ (Alts as ks (ts.map Tr.v) ∧ AltD as) ∧ (∀ t ∈ ts, Drw n t) ∧ ts.length ≤ 2 ∧ Src a' b') ?_ ?_
    · refine hide1 ?_
      intro G9 hG9 σ' j919
      refine x65 j919 fun as ks ts a4 b4 extra e920 j921 hd hl hs4 => ?_
      try clear j919
      obtain rfl := e920
      refine x02 j921 fun hA hAD => ?_
      try clear j921
      refine hG9 _ ?_
      clear hG9 G9
      refine take_src od (rd.le (by omega)) rfl hs4 (by decide) (by decide) fun r3 a5 b5 h0 h1 hs5 => ?_
      refine Br.mk (fun h8 => ?_) (fun h8 => ?_)
      · refine ih od rd rfl hs5 _ e1 fun t2 a6 b6 d2 hs6 => ?_
        refine x31 d2.obj fun a9 C9 f9 e9 => ?_
        rw [e9]
        refine ih od rd rfl hs6 _ e1 fun t3 a7 b7 d3 hs7 => ?_
        refine AC.snd ?_
        refine one_src (vs := strsA [sX, sY, sZ, sW]) od (rd.le (by omega)) rfl hs7 (by decide) (by decide) nc_strs fun v a8 b8 hv hs8 => ?_
        refine x12 (nm_one hv (by decide)) fun x e922 hx => ?_
        obtain rfl := e922
        refine AC.imms ?_
        refine imm_nc (v := t3.v) d3.nc ?_
        refine ⟨rfl, ?_⟩
        refine mk273 od (rd.le (by omega)) d3.nc nc_str nc_lst nc_obj fun ad => ?_
        refine kr.rt _ _ (ret (.node (oCase ad t3.v x as (.obj a9 C9 f9)) (t3 :: (ts ++ [t2]))) a8 b8 (.node ?_ rfl ?_ ?_ (dn_case hAD)) hs8)
        · rw [List.map_cons, List.map_append, List.map_cons, e9]; exact .caseO hA
        · exact List.forall_mem_cons.mpr ⟨d3, fun t ht => (List.mem_append.mp ht).elim (hd t) fun h => List.mem_singleton.mp h ▸ d2⟩
        · rw [List.length_cons, List.length_append, List.length_singleton]; omega
      · refine ih od rd rfl hs5 _ e1 fun t3 a7 b7 d3 hs7 => ?_
        refine AC.snd ?_
        refine one_src (vs := strsA [sX, sY, sZ, sW]) od (rd.le (by omega)) rfl hs7 (by decide) (by decide) nc_strs fun v a8 b8 hv hs8 => ?_
        refine x12 (nm_one hv (by decide)) fun x e923 hx => ?_
        obtain rfl := e923
        refine AC.imms ?_
        refine imm_nc (v := t3.v) d3.nc ?_
        refine ⟨rfl, ?_⟩
        refine mk273 od (rd.le (by omega)) d3.nc nc_str nc_lst nc_none fun ad => ?_
        refine kr.rt _ _ (ret (.node (oCase ad t3.v x as .none) (t3 :: ts)) a8 b8 (.node ?_ rfl ?_ ?_ (dn_case hAD)) hs8)
        · rw [List.map_cons]; exact .case hA
        · exact List.forall_mem_cons.mpr ⟨d3, hd⟩
        · rw [List.length_cons]; omega
    · intro K' hK'
      refine take_src od (rd.le (by omega)) rfl hs3 (by decide) (by decide) fun r2 a4 b4 h0 h1 hs4 => ?_
      have hk0 : ∀ v ∈ [AV.str (Str.ofString "con"), .str (Str.ofString "C")], Dat 0 v := List.forall_mem_cons.mpr ⟨.str, List.forall_mem_cons.mpr ⟨.str, List.forall_mem_nil _⟩⟩
      have hA1 : Alts [oAlt ad1 (.tup [.str (Str.ofString "con"), .str (Str.ofString "C")]) (strsA l) t1.v] [(.tup [.str (Str.ofString "con"), .str (Str.ofString "C")], strsA l)] ([t1].map Tr.v) := .cons .nil
      refine Br.mk (fun h8 => ?_) (fun h8 => ?_)
      · refine ih od rd rfl hs4 _ e1 fun t2 a5 b5 d2 hs5 => ?_
        refine AC.imms ?_
        refine imm_nc (v := t2.v) d2.nc ?_
        refine ⟨rfl, ?_⟩
        refine mk233 od (rd.le (by omega)) nc_tup nc_lst d2.nc fun ad2 => ?_
        refine Need.mk (by simp only [List.length_cons, List.length_nil]; omega) ?_
        exact hK' _ (i65 _ _ [t1, t2] a5 b5 _ rfl ⟨.cons (.cons .nil), List.forall_mem_cons.mpr ⟨⟨_, _, _, _, rfl, hk0, dat_strs⟩, List.forall_mem_cons.mpr ⟨⟨_, _, _, _, rfl, List.forall_mem_cons.mpr ⟨.str, List.forall_mem_cons.mpr ⟨.str, List.forall_mem_cons.mpr ⟨.int, List.forall_mem_nil _⟩⟩⟩, List.forall_mem_nil _⟩, List.forall_mem_nil _⟩⟩⟩ (List.forall_mem_cons.mpr ⟨d1, List.forall_mem_cons.mpr ⟨d2, List.forall_mem_nil _⟩⟩) (Nat.le_refl _) hs5)
      · exact hK' _ (i65 _ _ [t1] a4 b4 _ rfl ⟨hA1, List.forall_mem_cons.mpr ⟨⟨_, _, _, _, rfl, hk0, dat_strs⟩, List.forall_mem_nil _⟩⟩ (List.forall_mem_cons.mpr ⟨d1, List.forall_mem_nil _⟩) (show 1 ≤ 2 by decide) hs4)
  refine AS_comp [sSource, Str.ofString "deep"] (lvl_good od 50) od rfl rfl (by decide) rfl rfl ⟨by kernel_rfl, by kernel_rfl, by kernel_rfl, trivial⟩ ?_
  refine Need.mk (by constructor <;> omega) ?_
  refine cmpL.rng (fun q ys cs => ∃ (ts : List Tr) (a' b' : Int), ys = ts.map Tr.v ∧ q.length + ts.length = 2 ∧ (∀ t ∈ ts, Drw n t) ∧ Src a' b' ∧ cs = [srcC a' b', .list (strsA [sX, sY, sZ, sW])]) ⟨⟨[], a1, b1, rfl, by unfold intsR; simp, List.forall_mem_nil _, hs1, rfl⟩, ?_, ?_, ?_⟩
  · intro q ys cs j924
    refine x35 j924 fun _ _ _ _ _ _ _ e925 => ?_
    try clear j924
    obtain rfl := e925
    rfl
  · refine hide2 ?_
    intro G9 hG9 ys cs j926
    refine x35 j926 fun ts a2 b2 e927 hl hd hs2 e928 => ?_
    try clear j926
    obtain rfl := e927
    obtain rfl := e928
    refine hG9 _ _ ?_
    clear hG9 G9
    have hl : ts.length = 2 := by simp only [List.length_nil] at hl; omega
    refine Br.mk (fun h8 => ?_) (fun h8 => ?_)
    · refine AE_slice (lvl_good od 50) (fun _ _ => rfl) ?_
      refine AC.imms ?_
      refine ⟨rfl, ?_⟩
      rw [show pickA (ts.map Tr.v) none (some 1) = (ts.take 1).map Tr.v from (pickA_to (by decide)).trans List.map_take.symm]
      refine mk313 od (rd.le (by omega)) nc_str nc_lst fun ad => ?_
      exact kr.rt _ _ (ret (.node (oCon ad _) (ts.take 1)) a2 b2 (.node .con rfl (fun t ht => hd t (List.mem_of_mem_take ht)) (by rw [List.length_take]; omega) dn_con) hs2)
    · refine AC.imms ?_
      refine ⟨rfl, ?_⟩
      refine mk353 od (rd.le (by omega)) nc_str nc_lst fun ad => ?_
      exact kr.rt _ _ (ret (.node (oPrim ad _) ts) a2 b2 (.node .prim rfl hd (by omega) dn_prim) hs2)
  · intro C oC m fr mf
    refine hide6 ?_
    intro G9 hG9 x q ys cs KE KN ok j929
    refine x35 j929 fun ts a2 b2 e930 hl hd hs2 e931 => ?_
    try clear j929
    obtain rfl := e930
    obtain rfl := e931
    refine hG9 _ _ _ _ _ _ ?_
    clear hG9 G9
    intro nx nk
    refine i12 _ rfl ?_
    refine ih ok rd rfl hs2 _ e1 fun t1 a4 b4 d1 hs4 => ?_
    refine nk.el _ _ (imm_nc d1.nc ?_)
    exact i35 (ts ++ [t1]) a4 b4 (by rw [List.map_append]; rfl) (by rw [List.length_append]; simp only [List.length_cons, List.length_nil] at hl ⊢; omega) (fun t ht => (List.mem_append.mp ht).elim (hd t) fun h => List.mem_singleton.mp h ▸ d1) hs4 rfl
end Mine
end
section
open PySem PySem.W PyProof.Rows PySem.Calls PySem.Spec
set_option tactic.hygienic false
set_option maxHeartbeats 400000
namespace Mine
mutual
theorem nodes_rows (b : Bool) : ∀ t : Tr, (rows b t).map (·.1) = nodes t
  | .node v ks => congrArg (v :: ·) (nodes_rowsL _ ks)
theorem nodes_rowsL (b : Bool) : ∀ l : List Tr, (rowsL b l).map (·.1) = nodesL l
  | [] => rfl
  | k :: r => by rw [rowsL, nodesL, List.map_append, nodes_rows, nodes_rowsL]
end
noncomputable def litv (v : AV) : Option Int := match v with
  | .obj _ C fs => cond (Nat.beq C 94) (match fs with
    | [_, (_, .int i)] => some i
    | _ => none) none
  | _ => none
structure Lk1 (v v' : AV) : Prop where
  nd : (∃ ks, Node v ks) ∧ ∃ ks, Node v' ks
  lv : litv v' = (litv v).map (· + 5)
  hd : hdf v' = hdf v
  lm : isLam v' = isLam v
inductive Lik : List (AV × Bool) → List (AV × Bool) → Prop
  | nil : Lik [] []
  | cons {v v' b l l'} : Lk1 v v' → Lik l l' → Lik ((v, b) :: l) ((v', b) :: l')
theorem Lik.app {a a' b b' : List (AV × Bool)} (h : Lik a a') (h2 : Lik b b') : Lik (a ++ b) (a' ++ b') := by
  induction h with
  | nil => exact h2
  | cons h _ ih => exact .cons h ih
theorem Alts.ky {as : List AV} {ks : List (AV × List AV)} {bs : List AV} (h : Alts as ks bs) : as.map altk = ks.map fun k => .tup [k.1, .lst k.2] := by
  induction h with
  | nil => rfl
  | cons _ ih => exact congrArg (_ :: ·) ih
theorem Frm.hd {v v' : AV} {l : List AV} (h : Frm v v' l) : hdf v' = hdf v := by
  cases h with
  | app h => exact congrArg (fun n : Nat => AV.tup [.str (Str.ofString "app"), .int n]) h
  | con h => exact congrArg (fun n : Nat => AV.tup [.str (Str.ofString "con"), .str (Str.ofString "C"), .int n]) h
  | @let_ _ _ _ _ r _ _ _ _ _ h h' => exact congrArg (fun l => AV.tup [.str (Str.ofString "let"), .lst l, .bool r]) (h'.nm.trans h.nm.symm)
  | @case _ _ _ n _ _ _ _ _ _ h h' => exact congrArg (fun l => AV.tup [.str (Str.ofString "case"), .str n, .lst l, .bool true]) (h'.ky.trans h.ky.symm)
  | @caseO _ _ _ n _ _ _ _ _ _ _ _ _ _ _ _ h h' => exact congrArg (fun l => AV.tup [.str (Str.ofString "case"), .str n, .lst l, .bool false]) (h'.ky.trans h.ky.symm)
  | _ => rfl
theorem Frm.lit {v v' : AV} {l : List AV} (h : Frm v v' l) : litv v = none ∧ litv v' = none ∧ isLam v' = isLam v := by
  cases h <;> exact ⟨rfl, rfl, rfl⟩
theorem Mpd.facts {t t' : Tr} (h : Mpd t t') : Wf t → Wf t' ∧ size t' = size t ∧ (∀ n, Ht n t → Ht n t') ∧ ∀ b, Lik (rows b t) (rows b t') := by
  induction h with
  | @leaf v hv =>
    intro ht
    refine i04 ht rfl (fun _ h => h) (fun b => .cons ⟨?_, ?_, rfl, rfl⟩ .nil)
    · cases ht with | node hn _ => exact ⟨⟨_, hn⟩, _, hn⟩
    · cases ht with | node hn _ =>
        refine x11 (show ∃ l0, Node v l0 from ⟨_, hn⟩) fun l0 hn => ?_
        cases hn with
        | lit => exact absurd rfl (hv _ _)
        | _ => rfl
  | lit =>
    intro ht
    exact ⟨.node .lit (fun _ h => by cases h), rfl, fun n h => (by cases n with | zero => exact h | succ n => exact fun _ h => (by cases h)), fun b => .cons ⟨⟨⟨_, .lit⟩, _, .lit⟩, rfl, rfl, rfl⟩ .nil⟩
  | @node v v' ks ks' hne hf hl _ ih =>
    intro ht
    cases ht with | node hn hks => ?_
    have kids : ∀ {ks ks' : List Tr}, ks'.length = ks.length → (∀ k ∈ ks, Wf k) → (∀ q ∈ ks.zip ks', Wf q.1 → Wf q.2 ∧ size q.2 = size q.1 ∧ (∀ n, Ht n q.1 → Ht n q.2) ∧ ∀ b, Lik (rows b q.1) (rows b q.2)) → (∀ k ∈ ks', Wf k) ∧ sizeL ks' = sizeL ks ∧ (∀ n, (∀ k ∈ ks, Ht n k) → ∀ k ∈ ks', Ht n k) ∧ ∀ b, Lik (rowsL b ks) (rowsL b ks') := by
      intro ks
      induction ks with
      | nil => intro ks' hl _ _; rw [List.length_eq_zero_iff.mp hl]; exact ⟨fun _ h => (by cases h), rfl, fun _ _ _ h => (by cases h), fun _ => .nil⟩
      | cons k ks ih2 =>
        intro ks' hl hw hz
        cases ks' with
        | nil => cases hl
        | cons k' ks' =>
          refine x04 (hz (k, k') List.mem_cons_self (hw k List.mem_cons_self)) fun a1 a2 a3 a4 => ?_
          refine x04 (ih2 (Nat.succ.inj hl) (fun k h => hw k (List.mem_cons_of_mem _ h)) fun q h => hz q (List.mem_cons_of_mem _ h)) fun b1 b2 b3 b4 => ?_
          exact i04 (List.forall_mem_cons.mpr ⟨a1, b1⟩) (show size k' + sizeL ks' = size k + sizeL ks by rw [a2, b2]) (fun n h => List.forall_mem_cons.mpr ⟨a3 n (h k List.mem_cons_self), b3 n fun k h' => h k (List.mem_cons_of_mem _ h')⟩) (fun b => (a4 b).app (b4 b))
    refine x04 (kids hl hks ih) fun b1 b2 b3 b4 => ?_
    refine x03 hf.lit fun l1 l2 l3 => ?_
    refine i04 (.node hf.node b1) (congrArg (1 + ·) b2) (fun n h => ?_) (fun b => .cons ⟨⟨⟨_, hn⟩, _, hf.node⟩, by rw [l1, l2]; rfl, hf.hd, l3⟩ (by rw [l3]; exact b4 _))
    cases n with
    | zero => exact h
    | succ n => exact b3 n h
end Mine
end
section
open PySem PySem.W PyProof.Rows PySem.Calls PySem.Spec PySem.SeqAt
set_option tactic.hygienic false
set_option maxHeartbeats 400000
namespace Mine
section
variable {c : Cx} {σ : St} {P : KV}
theorem AC_min {a b : Int} (h : P (.int (if b < a then b else a)) σ) : AC c (.builtin "min") [.int a, .int b] σ P := by
  intro T s us Q E hl r k
  refine x21 (us2 hl) fun u1 u2 e91 => ?_
  obtain rfl := e91
  refine x11 (r.int List.mem_cons_self) fun t1 e92 => ?_
  obtain rfl := e92
  refine x11 (r.int (List.mem_cons_of_mem _ List.mem_cons_self)) fun t2 e93 => ?_
  obtain rfl := e93
  refine Rel.out r fun m adr M K R r => ?_
  exact min_two_N rfl r.F r.N fun h' tk F' N' => k _ _ _ _ h (Rel.imm (r.tail.tail.heap (s' := { s with heap := h', toks := tk }) F' N' rfl rfl).rel fun _ => .int)
theorem OP_neBool {a b : Bool} (h : P (.bool (a != b)) σ) : OP c (compareOp .NotEq) (.bool a) (.bool b) σ P := by
  intro T s u1 u2 Q E r k
  obtain rfl := r.bool (List.mem_cons_of_mem _ List.mem_cons_self)
  obtain rfl := r.bool List.mem_cons_self
  exact PyProof.Rows.ne_bool (k _ _ _ _ h (r.drop.drop.imm fun _ => .bool))
theorem Rl.bools {w : World} {R : Led} {bs : List Bool} : ∀ {vs : List Value}, Rl w R (bs.map AV.bool) vs → vs = bs.map Value.bool := by
  induction bs with
  | nil => intro vs h; cases h; rfl
  | cons b bs ih => intro vs h; cases h with | cons a b' => cases a; rw [ih b']; rfl
noncomputable def boolIs9 (x : Bool) (v : Value) : Bool := match v with
  | .bool b => b == x
  | _ => false
theorem OP_inB {x : Bool} {v : AV} {bs : List Bool} (e : lstOf v σ = some (bs.map AV.bool)) (h : P (.bool (decide (x ∈ bs))) σ) : OP c (compareOp .In) (.bool x) v σ P := by
  intro T s u1 u2 Q E r k
  obtain rfl := r.bool (List.mem_cons_of_mem _ List.mem_cons_self)
  refine Rel.out r fun m adr M K R r => ?_
  refine r.lstM (Q := fun u2 => wpAny c.M c.A (compareOp CmpOp.In (Value.bool x) u2) Q E s) List.mem_cons_self e fun a vs n hl1 hz hm => ?_
  obtain rfl := hl1.bools
  refine in_listAt (boolIs9 x) (News.isList r.N hm) (fun y hy => ?_) ?_
  · rw [List.mem_toArray] at hy
    refine x12 (List.mem_map.mp hy) fun b _ e95 => ?_
    obtain rfl := e95
    exact EqAt.bool_bool b x
  · have e : (bs.map Value.bool).toArray.any (boolIs9 x) = decide (x ∈ bs) := by
      rw [List.any_toArray]
      clear hl1 hm h e hz
      induction bs with
      | nil => simp
      | cons b r ih => rw [List.map_cons, List.any_cons, ih]; cases b <;> cases x <;> simp [boolIs9]
    rw [e]
    exact k _ _ _ _ h (Rel.imm r.tail.tail.rel fun _ => .bool)
theorem tree3 : TreeC 3 := tree_succ (tree_succ (tree_succ tree_zero))
theorem any_id (l : List Bool) : l.any id = decide (true ∈ l) := by
  induction l with
  | nil => simp
  | cons b r ih => rw [List.any_cons, ih]; cases b <;> simp
theorem clo_at {x tn : Str} {k : Nat} {st : Stmt} {f S ca : Addr} (hs : c.sub = none) (hfc : c.fc = []) (hk : c.fenv.kindOf x = some .cell) (hca : c.cl.lookup x = some ca) (h1 : σ.m.lookup x = some (.cell k)) (h2 : σ.m.lookup tn = some (.clo st f k S ca)) :
    ∀ T s m adr M K R, RelD c σ T s m adr M K R → ∃ oS, (ca, oS) ∈ R ++ (K ++ c.fr) ∧ oS.data = .cell (some (.ref S)) := by
  intro T s m adr M K R r
  have ee : c.env = c.fenv := by unfold Cx.env; rw [hs]
  refine x12 (r.V _ _ h1) fun u l hv => ?_
  refine x12 (r.V _ _ h2) fun u2 _ hv2 => ?_
  cases hv with
  | imm z => cases z
  | cell e => cases hv2 with
    | imm z => cases z
    | clo e2 _ =>
      rw [e] at e2
      cases e2
      cases l with
      | loc _ hk' => rw [ee, hk] at hk'; cases hk'
      | @cel ca2 o2 _ hc hm hd =>
        rw [ee] at hc
        cases hca.symm.trans hc
        exact i12 o2 (List.mem_append_right _ (List.mem_append_left _ hm)) hd
      | fre z => rw [hs] at z; cases z
      | own z => rw [hs] at z; cases z
      | fix z => rw [hfc] at z; cases z
noncomputable def caOf (d : Cx) : Addr := ((d.fn 492).cl.lookup sSeen).getD 0
theorem ca_look (d : Cx) : (d.fn 492).cl.lookup sSeen = some (caOf d) := by kernel_rfl
theorem AS_turn {d : Cx} {k : Nat} {P : KF} (o : (d.fn 492).Ok2) (hC : CodeHd (d.fn 492).base 491 489) (hkt : σ.cs[0]? = some (.raw 489 (tabObj #[]))) (hx : σ.m.lookup sSeen = some (.cell k))
    (h : ∀ f S ps, P .next ((σ.setc 0 (.raw 489 (tabObj ps))).put sTurn (.clo turnSt f k S (caOf d)))) : AS (d.fn 492) turnSt σ P := by
  have h' := h
  rw [turn_eq] at h' ⊢
  refine AS_def (x := sSeen) (kt := 0) (k := k) (ca := caOf d) o rfl hC (by kernel_rfl) (by kernel_rfl) (by kernel_rfl) (by kernel_rfl) hkt (by kernel_rfl) hx fun f S ps => ?_
  have e : ((d.fn 492).sub.isNone && isLC (lk sTurn (d.fn 492).cs.names)) = true := by kernel_rfl
  unfold storeA
  rw [e]
  exact h' f S ps
noncomputable def lits (l : List (AV × Bool)) : List Int := l.filterMap fun r => litv r.1
theorem lits_snoc {l : List (AV × Bool)} {r : AV × Bool} : lits (l ++ [r]) = lits l ++ (litv r.1).toList := by
  unfold lits
  rw [List.filterMap_append, List.filterMap_cons]
  cases litv r.1 <;> rfl
theorem vars_snoc {l : List (AV × Bool)} {r : AV × Bool} : vars ((l ++ [r]).map (·.1)) = vars (l.map (·.1)) ++ (vname r.1).toList := by
  unfold vars
  rw [List.map_append, List.filterMap_append, List.map_singleton, List.filterMap_cons]
  cases vname r.1 <;> rfl
theorem Lik.lits {l l' : List (AV × Bool)} (h : Lik l l') : Mine.lits l' = (Mine.lits l).map (· + 5) := by
  induction h with
  | nil => rfl
  | @cons v v' b l l' h _ ih =>
    unfold Mine.lits at ih ⊢
    rw [List.filterMap_cons, List.filterMap_cons]
    dsimp only
    rw [h.lv]
    cases litv v with
    | none => exact ih
    | some i => exact congrArg (_ :: ·) ih
theorem Lik.nd {l l' : List (AV × Bool)} (h : Lik l l') : ∀ r ∈ l', ∃ ks, Node r.1 ks := by
  induction h with
  | nil => intro r h; cases h
  | cons h _ ih => exact List.forall_mem_cons.mpr ⟨h.nd.2, ih⟩
theorem hd_nc {v : AV} : NC (hdf v) := by
  cases v with
  | obj a C fs =>
    show NC (hdC C fs)
    unfold hdC
    repeat' first | exact nc_tup | (cases Nat.beq C _)
  | _ => rfl
theorem Lik.hds {l l' : List (AV × Bool)} (h : Lik l l') : l'.map (fun r => hdf r.1) = l.map fun r => hdf r.1 := by
  induction h with
  | nil => rfl
  | cons h _ ih => rw [List.map_cons, List.map_cons, ih, h.hd]
mutual
theorem rows_node (b : Bool) : ∀ t : Tr, Wf t → ∀ r ∈ rows b t, ∃ ks, Node r.1 ks
  | .node v ks, h, r, hr => by
    cases h with | node hn hks => ?_
    rcases List.mem_cons.mp (show r ∈ (v, b) :: rowsL (b || isLam v) ks from hr) with rfl | hr
    · exact ⟨_, hn⟩
    · exact rowsL_node _ ks hks r hr
theorem rowsL_node (b : Bool) : ∀ l : List Tr, (∀ k ∈ l, Wf k) → ∀ r ∈ rowsL b l, ∃ ks, Node r.1 ks
  | [], _, r, hr => by cases hr
  | k :: l, h, r, hr => by
    rcases List.mem_append.mp (show r ∈ rows b k ++ rowsL b l from hr) with hr | hr
    · exact rows_node b k (h k List.mem_cons_self) r hr
    · exact rowsL_node b l (fun k h' => h k (List.mem_cons_of_mem _ h')) r hr
end
noncomputable abbrev sUses : Str := Str.ofString "uses"
noncomputable abbrev sRows : Str := Str.ofString "rows"
noncomputable abbrev sTold : Str := Str.ofString "told"
set_option maxHeartbeats 16000000 in
theorem expr_ac {a b : Int} (o : c.Ok2) (hr : Room c 12) (hC : CodeHd c.base 491 489) (hcs : σ.cs = [.raw 489 (tabObj #[]), srcC a b]) (hs : Src a b) (ret : ∀ ps a' b' rest, Src a' b' → P (.bool true) ⟨σ.m, .raw 489 (tabObj ps) :: srcC a' b' :: rest⟩) : AC c (.ref 492) [.cell 1] σ P := by
  refine enterA (n := 11) (ns := [sSource]) o (f1 (by kernel_rfl) fun _ => by kernel_rfl) hr rfl fun d KK _ hbase od rd kr => (lvl_good od 60).ex _ _ _ ?_
  have hC9 : CodeHd (d.fn 492).base 491 489 := by show CodeHd d.base 491 489; rw [hbase]; exact hC
  rw [hcs]
  refine tree3 od (rd.le (by decide)) rfl hs _ rfl fun t a1 b1 dr hs1 => ?_
  have hsz : size t ≤ 85 := dr.sz
  generalize hR : rows false t = RW
  have hnd : ∀ r ∈ RW, ∃ ks, Node r.1 ks := hR ▸ rows_node false t dr.wf
  have hRl : RW.length = size t := hR ▸ rows_len false t
  refine isTup_p (names := [sRows, sUses]) (lvl_good od 60) od rfl rfl rfl (by kernel_rfl) ?_
  refine all_ac 4 od (rd.le (by decide)) dr.ht dr.wf (by rw [List.length_nil]; omega) rfl ?_
  refine uses_ac od (rd.le (by decide)) dr.wf (by omega) fun au => ?_
  rw [hR]
  refine AS_comp [] (lvl_good od 50) od rfl rfl (by decide) rfl rfl ⟨by kernel_rfl, trivial⟩ ?_
  refine cmpL.mk (fun q ys cs => ∃ l1 l2, RW = l1 ++ l2 ∧ q = l2.map row ∧ ys = (plc sQ l1).map .bool ∧ cs = [.raw 489 (tabObj #[]), srcC a1 b1, .fro (.lst (RW.map row))]) ⟨⟨[], RW, rfl, rfl, rfl, rfl⟩, ?_, ?_, ?_⟩
  · intro q ys cs j96
    refine x24 j96 fun _ _ _ _ _ e97 => ?_
    try clear j96
    obtain rfl := e97
    rfl
  rotate_left
  · intro C oC m fr mf
    refine hide6 ?_
    intro G9 hG9 x q ys cs KE KN ok j98
    refine x24 j98 fun l1 l2 h1 h2 e99 e910 => ?_
    try clear j98
    obtain rfl := e99
    obtain rfl := e910
    refine hG9 _ _ _ _ _ _ ?_
    clear hG9 G9
    intro nx nk
    cases l2 with | nil => cases h2 | cons r l2 => ?_
    refine x02 (List.cons.inj h2) fun e911 e912 => ?_
    obtain rfl := e911
    obtain rfl := e912
    refine x11 (hnd r (by rw [h1]; simp)) fun ks hn => ?_
    obtain ⟨v, w⟩ := r
    refine x33 hn.obj fun a9 C9 fs e913 hC9 h52 => ?_
    obtain rfl := e913
    refine i12 _ rfl ?_
    refine isiT hC9 rfl ?_
    have no : vname (.obj a9 C9 fs) ≠ some sQ → plc sQ (l1 ++ [(.obj a9 C9 fs, w)]) = plc sQ l1 := fun h => by
      rw [plc_app]
      show _ ++ List.filterMap _ _ = _
      rw [List.filterMap_cons, beq_false_of_ne h]; simp
    refine Br.mk (fun hb => ?_) (fun hb => ?_)
    · obtain rfl := Nat.eq_of_beq_eq_true hb
      refine x12 (h52 rfl) fun n' e914 _ => ?_
      obtain rfl := e914
      refine Br.mk (fun h3 => ?_) (fun h3 => ?_)
      · refine Br.tt ?_
        refine nk.el _ _ (i24 (l1 ++ [(oVar a9 n', w)]) l2 (by rw [h1]; simp) rfl ?_ rfl)
        rw [plc_app, List.map_append]
        show _ = _ ++ List.map AV.bool (List.filterMap _ _)
        rw [List.filterMap_cons, show (vname (oVar a9 n') == some sQ) = true from by rw [eq_of_beq h3]; exact beq_self_eq_true _]; rfl
      · refine Br.ff ?_
        refine nk.no _ (i24 (l1 ++ [(oVar a9 n', w)]) l2 (by rw [h1]; simp) rfl ?_ rfl)
        rw [no fun h => by have := Option.some.inj (show some n' = some sQ from h); rw [this, beq_self_eq_true] at h3; cases h3]
    · refine Br.ff ?_
      refine nk.no _ (i24 (l1 ++ [(.obj a9 C9 fs, w)]) l2 (by rw [h1]; simp) rfl ?_ rfl)
      rw [no fun h => by rw [vname_none hb] at h; cases h]
  refine hide2 ?_
  intro G9 hG9 ys cs j915
  refine x24 j915 fun l1 l2 h1 h2 e916 e917 => ?_
  try clear j915
  obtain rfl := e916
  obtain rfl := e917
  refine hG9 _ _ ?_
  clear hG9 G9
  obtain rfl := List.map_eq_nil_iff.mp h2.symm
  rw [List.append_nil] at h1
  subst h1
  generalize hp : plc sQ RW = pl
  refine IfK.mk ?_
  refine Br.f (by simp) ?_
  refine OP_inB (bs := pl) rfl ?_
  refine OP_neBool ?_
  refine Br.f (by rw [any_id]; exact bne_self_eq_false _) ?_
  refine Br.ff ?_
  refine nodes_ac od (rd.le (by decide)) dr.wf (by omega) ?_
  have hN : nodes t = RW.map (·.1) := by rw [← hR, nodes_rows]
  rw [hN]
  refine IfK.mk ?_
  refine Br.f (by simp) ?_
  refine AE_comp [sTold, sRows] (lvl_good od 50) od rfl rfl (by decide) rfl ⟨by kernel_rfl, by kernel_rfl, by kernel_rfl, trivial⟩ ?_
  refine Need.mk (by rw [List.length_map]; constructor <;> omega) ?_
  refine cmpL.rng (fun q ys cs => ∃ j m : Nat, j + m = RW.length ∧ q = (List.range' j m).map (fun j : Nat => AV.int (j : Int)) ∧ ys = [] ∧ cs = [.raw 489 (tabObj #[]), srcC a1 b1, .fro (.lst (RW.map row)), .list (pl.map .bool)]) ⟨⟨0, RW.length, Nat.zero_add _, by unfold intsR; rw [List.length_map, List.range_eq_range']; rfl, rfl, rfl⟩, ?_, ?_, ?_⟩
  · intro q ys cs j918
    refine x24 j918 fun _ _ _ _ _ e919 => ?_
    try clear j918
    obtain rfl := e919
    rfl
  rotate_left
  · intro C oC m fr mf
    refine hide6 ?_
    intro G9 hG9 x q ys cs KE KN ok j920
    refine x24 j920 fun j m9 h1 h2 e921 e922 => ?_
    try clear j920
    obtain rfl := e921
    obtain rfl := e922
    refine hG9 _ _ _ _ _ _ ?_
    clear hG9 G9
    intro nx nk
    cases m9 with | zero => cases h2 | succ m9 => ?_
    refine x02 (List.cons.inj (show x :: q = AV.int (j : Int) :: (List.range' (j + 1) m9).map (fun j : Nat => AV.int (j : Int)) from h2)) fun e923 e924 => ?_
    obtain rfl := e923
    obtain rfl := e924
    have hj : j < RW.length := by omega
    refine x11 (hnd RW[j] (List.getElem_mem hj)) fun ks hn => ?_
    refine x33 hn.obj fun a9 C9 fs e9 hC9 _ => ?_
    have e8 : RW[j]? = some (.obj a9 C9 fs, RW[j].2) := by rw [List.getElem?_eq_getElem hj, ← e9]
    refine i12 _ rfl ?_
    refine Item.at (i := (j : Int)) (x := .obj a9 C9 fs) (Int.natCast_nonneg _) (by rw [Int.toNat_natCast, List.getElem?_map, e8]; rfl) ?_
    refine Item.at (i := (j : Int)) (x := row (.obj a9 C9 fs, RW[j].2)) (Int.natCast_nonneg _) (by rw [Int.toNat_natCast, List.getElem?_map, e8]; rfl) ?_
    refine SU_tup0 ?_
    refine OP_isNot ?_
    refine Br.ff ?_
    exact nk.no _ (i24 (j + 1) m9 (by omega) rfl rfl rfl)
  refine hide2 ?_
  intro G9 hG9 ys cs j925
  refine x24 j925 fun j m h1 h2 e926 e927 => ?_
  try clear j925
  obtain rfl := e926
  obtain rfl := e927
  refine hG9 _ _ ?_
  clear hG9 G9
  refine (OP_nil (rd.le (by decide)) rfl rfl).2 ?_
  refine Br.ff ?_
  refine Br.ff ?_
  refine take_src od (rd.le (by decide)) rfl hs1 (by decide) (by decide) fun r a2 b2 h0 h3 hs2 => ?_
  refine IfK.mk ?_
  refine size_ac od (rd.le (by decide)) dr.wf (by omega) h0 (by omega) ?_
  refine AC_min ?_
  refine Br.f ?_ ?_
  · rw [List.length_map, hRl]
    rw [show (if r + 1 < (size t : Int) then r + 1 else (size t : Int)) = min (size t : Int) (r + 1) by split <;> omega, beq_self_eq_true]; rfl
  refine IfK.mk ?_
  have hvn : ∀ x ∈ vars (nodes t), x ∈ nm5 := dr.nm
  refine used_ac od (rd.le (by decide)) dr.wf (by omega) fun ul hu1 hu2 hu3 => ?_
  refine AC_sortD rfl (fun hn => by have h5 : nm5.length = 5 := rfl; have := nodup_le nm5 hn fun x hx => hvn x ((hu2 x).mpr hx); rw [List.length_map] at this; omega) fun ss hp1 hso1 hnd1 => ?_
  refine AE_comp [] (lvl_good od 50) od rfl rfl (by decide) rfl ⟨by kernel_rfl, trivial⟩ ?_
  refine cmpL.mk (fun q ys cs => ∃ l1 l2, RW = l1 ++ l2 ∧ q = l2.map row ∧ ys = strsA (vars (l1.map (·.1))) ∧ cs = [.raw 489 (tabObj #[]), srcC a2 b2, .fro (.lst (RW.map row)), .list (pl.map .bool), .list [], .list [], .list (strsA ss)]) ⟨⟨[], RW, rfl, rfl, rfl, rfl⟩, ?_, ?_, ?_⟩
  · intro q ys cs j928
    refine x24 j928 fun _ _ _ _ _ e929 => ?_
    try clear j928
    obtain rfl := e929
    rfl
  rotate_left
  · intro C oC m fr mf
    refine hide6 ?_
    intro G9 hG9 x q ys cs KE KN ok j930
    refine x24 j930 fun l1 l2 h1 h2 e931 e932 => ?_
    try clear j930
    obtain rfl := e931
    obtain rfl := e932
    refine hG9 _ _ _ _ _ _ ?_
    clear hG9 G9
    intro nx nk
    cases l2 with | nil => cases h2 | cons r l2 => ?_
    refine x02 (List.cons.inj h2) fun e933 e934 => ?_
    obtain rfl := e933
    obtain rfl := e934
    refine x11 (hnd r (by rw [h1]; simp)) fun ks hn => ?_
    obtain ⟨v, w⟩ := r
    refine x33 hn.obj fun a9 C9 fs e935 hC9 h52 => ?_
    obtain rfl := e935
    refine i12 _ rfl ?_
    refine isiT hC9 rfl ?_
    refine Br.mk (fun hb => ?_) (fun hb => ?_)
    · obtain rfl := Nat.eq_of_beq_eq_true hb
      refine x12 (h52 rfl) fun n' e936 _ => ?_
      obtain rfl := e936
      refine nk.el _ _ (i24 (l1 ++ [(oVar a9 n', w)]) l2 (by rw [h1]; simp) rfl ?_ rfl)
      rw [vars_snoc]
      exact strsA_snoc
    · refine nk.no _ (i24 (l1 ++ [(.obj a9 C9 fs, w)]) l2 (by rw [h1]; simp) rfl ?_ rfl)
      rw [vars_snoc, vname_none hb]
      show _ = strsA (_ ++ [])
      rw [List.append_nil]
  refine hide2 ?_
  intro G9 hG9 ys cs j937
  refine x24 j937 fun l1 l2 h1' h2' e938 e939 => ?_
  try clear j937
  obtain rfl := e938
  obtain rfl := e939
  refine hG9 _ _ ?_
  clear hG9 G9
  obtain rfl := List.map_eq_nil_iff.mp h2'.symm
  rw [List.append_nil] at h1'
  subst h1'
  rw [← hN]
  refine AC_set (ks := vars (nodes t)) rfl ?_ fun a8 o8 ls hO hls => ?_
  · exact Nat.le_trans (List.length_filterMap_le _ _) (by rw [hN, List.length_map, hRl]; omega)
  refine AC_sortS hO (fun hn => by have h5 : nm5.length = 5 := rfl; have := nodup_le nm5 hn fun x hx => hvn x ((hls x).mp hx); omega) fun s2 hp2 hso2 hnd2 => ?_
  obtain rfl : s2 = ss := sorted_unique (hp2.trans ((List.perm_ext_iff_of_nodup hnd2 hnd1).mpr fun x => (hls x).trans (hu2 x)) |>.trans hp1.symm) hso2 hso1
  refine OP_neSame (l := strsA s2) (n := 0) (rd.le (by decide)) (by decide) rfl rfl dat_strs ?_
  refine Br.ff ?_
  refine AS_turn od hC9 rfl rfl fun f S ps => ?_
  refine mapped_ac od (rd.le (by decide)) dr.wf (by omega) rfl rfl (clo_at (x := sSeen) (tn := sTurn) rfl rfl (by kernel_rfl) (ca_look d) rfl rfl) fun t' sn hm hsn => ?_
  refine x04 (hm.facts dr.wf) fun hw' hs' hh' hlik => ?_
  have hlik := hlik false
  rw [hR] at hlik
  refine all_ac 4 od (rd.le (by decide)) (hh' _ dr.ht) hw' (by rw [List.length_nil]; omega) rfl ?_
  generalize rows false t' = RW' at hlik
  have hnd' := hlik.nd
  refine AS_comp [] (lvl_good od 50) od rfl rfl (by decide) rfl rfl ⟨by kernel_rfl, trivial⟩ ?_
  refine cmpL.mk (fun q ys cs => ∃ l1 l2, RW = l1 ++ l2 ∧ q = l2.map row ∧ ys = (lits l1).map (fun i => .int (i + 5)) ∧ cs = [.raw 489 (tabObj ps), srcC a2 b2, .fro (.lst (RW.map row)), .list (pl.map .bool), .list [], .list [], .list (strsA s2), .list (strsA (vars (nodes t))), .list (strsA s2), .list sn, .list (RW'.map row)]) ⟨⟨[], RW, rfl, rfl, rfl, rfl⟩, ?_, ?_, ?_⟩
  · intro q ys cs j940
    refine x24 j940 fun _ _ _ _ _ e941 => ?_
    try clear j940
    obtain rfl := e941
    rfl
  rotate_left
  · intro C oC m fr mf
    refine hide6 ?_
    intro G9 hG9 x q ys cs KE KN ok j942
    refine x24 j942 fun l1 l2 h1 h2 e943 e944 => ?_
    try clear j942
    obtain rfl := e943
    obtain rfl := e944
    refine hG9 _ _ _ _ _ _ ?_
    clear hG9 G9
    intro nx nk
    cases l2 with | nil => cases h2 | cons r l2 => ?_
    refine x02 (List.cons.inj h2) fun e945 e946 => ?_
    obtain rfl := e945
    obtain rfl := e946
    refine x11 (hnd r (by rw [h1]; simp)) fun ks hn => ?_
    obtain ⟨v, w⟩ := r
    have e9 := lits_snoc (l := l1) (r := (v, w))
    refine i12 _ rfl ?_
    cases hn with
    | @lit a9 i =>
      refine Br.tt ?_
      refine nk.el _ _ (i24 (l1 ++ [(oLit a9 i, w)]) l2 (by rw [h1]; simp) rfl ?_ rfl)
      rw [e9, List.map_append]; rfl
    | _ =>
      refine Br.ff ?_
      refine nk.no _ (i24 (l1 ++ [(_, w)]) l2 (by rw [h1]; exact (List.append_assoc _ [_] _).symm) rfl ?_ rfl)
      rw [e9]
      show _ = List.map _ (_ ++ [])
      rw [List.append_nil]
  refine hide2 ?_
  intro G9 hG9 ys cs j947
  refine x24 j947 fun l1 l2 h1' h2' e948 e949 => ?_
  try clear j947
  obtain rfl := e948
  obtain rfl := e949
  refine hG9 _ _ ?_
  clear hG9 G9
  obtain rfl := List.map_eq_nil_iff.mp h2'.symm
  rw [List.append_nil] at h1'
  subst h1'
  refine IfK.mk ?_
  refine AE_comp [] (lvl_good od 50) od rfl rfl (by decide) rfl ⟨by kernel_rfl, trivial⟩ ?_
  refine cmpL.mk (fun q ys cs => ∃ l1 l2, RW' = l1 ++ l2 ∧ q = l2.map row ∧ ys = (lits l1).map .int ∧ cs = [.raw 489 (tabObj ps), srcC a2 b2, .fro (.lst (RW.map row)), .list (pl.map .bool), .list [], .list [], .list (strsA s2), .list (strsA (vars (nodes t))), .list (strsA s2), .list sn, .fro (.lst (RW'.map row)), .list ((lits RW).map (fun i => .int (i + 5)))]) ⟨⟨[], RW', rfl, rfl, rfl, rfl⟩, ?_, ?_, ?_⟩
  · intro q ys cs j950
    refine x24 j950 fun _ _ _ _ _ e951 => ?_
    try clear j950
    obtain rfl := e951
    rfl
  rotate_left
  · intro C oC m fr mf
    refine hide6 ?_
    intro G9 hG9 x q ys cs KE KN ok j952
    refine x24 j952 fun l1 l2 h1 h2 e953 e954 => ?_
    try clear j952
    obtain rfl := e953
    obtain rfl := e954
    refine hG9 _ _ _ _ _ _ ?_
    clear hG9 G9
    intro nx nk
    cases l2 with | nil => cases h2 | cons r l2 => ?_
    refine x02 (List.cons.inj h2) fun e955 e956 => ?_
    obtain rfl := e955
    obtain rfl := e956
    refine x11 (hnd' r (by rw [h1]; simp)) fun ks hn => ?_
    obtain ⟨v, w⟩ := r
    have e9 := lits_snoc (l := l1) (r := (v, w))
    refine i12 _ rfl ?_
    cases hn with
    | @lit a9 i =>
      refine Br.tt ?_
      refine nk.el _ _ (i24 (l1 ++ [(oLit a9 i, w)]) l2 (by rw [h1]; simp) rfl ?_ rfl)
      rw [e9, List.map_append]; rfl
    | _ =>
      refine Br.ff ?_
      refine nk.no _ (i24 (l1 ++ [(_, w)]) l2 (by rw [h1]; exact (List.append_assoc _ [_] _).symm) rfl ?_ rfl)
      rw [e9]
      show _ = List.map _ (_ ++ [])
      rw [List.append_nil]
  refine hide2 ?_
  intro G9 hG9 ys cs j957
  refine x24 j957 fun l1 l2 h1' h2' e958 e959 => ?_
  try clear j957
  obtain rfl := e958
  obtain rfl := e959
  refine hG9 _ _ ?_
  clear hG9 G9
  obtain rfl := List.map_eq_nil_iff.mp h2'.symm
  rw [List.append_nil] at h1'
  subst h1'
  have e9 : (lits RW').map AV.int = (lits RW).map (fun i => AV.int (i + 5)) := by rw [hlik.lits, List.map_map]; rfl
  rw [e9]
  refine OP_neSame (l := (lits RW).map (fun i => AV.int (i + 5))) (n := 0) (rd.le (by decide)) (by decide) rfl rfl (fun v hv => by obtain ⟨x, _, rfl⟩ := List.mem_map.mp hv; exact .int) ?_
  refine Br.ff ?_
  refine Br.f ?_ ?_
  · rw [List.length_map, hsn, hRl, beq_self_eq_true]; rfl
  refine Br.ff ?_
  refine AE_comp [] (lvl_good od 50) od rfl rfl (by decide) rfl ⟨by kernel_rfl, trivial⟩ ?_
  refine cmpL.mk (fun q ys cs => ∃ l1 l2, RW' = l1 ++ l2 ∧ q = l2.map row ∧ ys = l1.map (fun r => hdf r.1) ∧ cs = [.raw 489 (tabObj ps), srcC a2 b2, .fro (.lst (RW.map row)), .list (pl.map .bool), .list [], .list [], .list (strsA s2), .list (strsA (vars (nodes t))), .list (strsA s2), .list sn, .fro (.lst (RW'.map row)), .list ((lits RW).map (fun i => .int (i + 5))), .list ((lits RW).map (fun i => .int (i + 5)))]) ⟨⟨[], RW', rfl, rfl, rfl, rfl⟩, ?_, ?_, ?_⟩
  · intro q ys cs j960
    refine x24 j960 fun _ _ _ _ _ e961 => ?_
    try clear j960
    obtain rfl := e961
    rfl
  rotate_left
  · intro C oC m fr mf
    refine hide6 ?_
    intro G9 hG9 x q ys cs KE KN ok j962
    refine x24 j962 fun l1 l2 h1 h2 e963 e964 => ?_
    try clear j962
    obtain rfl := e963
    obtain rfl := e964
    refine hG9 _ _ _ _ _ _ ?_
    clear hG9 G9
    intro nx nk
    cases l2 with | nil => cases h2 | cons r l2 => ?_
    refine x02 (List.cons.inj h2) fun e965 e966 => ?_
    obtain rfl := e965
    obtain rfl := e966
    refine x11 (hnd' r (by rw [h1]; simp)) fun ks hn => ?_
    refine i12 _ rfl ?_
    refine head_ac ok (rd.le (by decide)) hn ?_
    exact nk.el _ _ (imm_nc hd_nc ⟨l1 ++ [r], l2, h1.trans (List.append_cons ..), rfl, map_snoc rfl, rfl⟩)
  refine hide2 ?_
  intro G9 hG9 zs cs j967
  refine x24 j967 fun l1 l2 h1' h2' e968 e969 => ?_
  try clear j967
  obtain rfl := e968
  obtain rfl := e969
  refine hG9 _ _ ?_
  clear hG9 G9
  obtain rfl := List.map_eq_nil_iff.mp h2'.symm
  rw [List.append_nil] at h1'
  subst h1'
  refine AE_comp [] (lvl_good od 50) od rfl rfl (by decide) rfl ⟨by kernel_rfl, trivial⟩ ?_
  refine cmpL.mk (fun q ys cs => ∃ l1 l2, RW = l1 ++ l2 ∧ q = l2.map row ∧ ys = l1.map (fun r => hdf r.1) ∧ cs = [.raw 489 (tabObj ps), srcC a2 b2, .fro (.lst (RW.map row)), .list (pl.map .bool), .list [], .list [], .list (strsA s2), .list (strsA (vars (nodes t))), .list (strsA s2), .list sn, .fro (.lst (RW'.map row)), .list ((lits RW).map (fun i => .int (i + 5))), .list ((lits RW).map (fun i => .int (i + 5))), .list (RW'.map fun r => hdf r.1)]) ⟨⟨[], RW, rfl, rfl, rfl, rfl⟩, ?_, ?_, ?_⟩
  · intro q ys cs j970
    refine x24 j970 fun _ _ _ _ _ e971 => ?_
    try clear j970
    obtain rfl := e971
    rfl
  rotate_left
  · intro C oC m fr mf
    refine hide6 ?_
    intro G9 hG9 x q ys cs KE KN ok j972
    refine x24 j972 fun l1 l2 h1 h2 e973 e974 => ?_
    try clear j972
    obtain rfl := e973
    obtain rfl := e974
    refine hG9 _ _ _ _ _ _ ?_
    clear hG9 G9
    intro nx nk
    cases l2 with | nil => cases h2 | cons r l2 => ?_
    refine x02 (List.cons.inj h2) fun e975 e976 => ?_
    obtain rfl := e975
    obtain rfl := e976
    refine x11 (hnd r (by rw [h1]; simp)) fun ks hn => ?_
    refine i12 _ rfl ?_
    refine head_ac ok (rd.le (by decide)) hn ?_
    exact nk.el _ _ (imm_nc hd_nc ⟨l1 ++ [r], l2, h1.trans (List.append_cons ..), rfl, map_snoc rfl, rfl⟩)
  refine hide2 ?_
  intro G9 hG9 xs cs j977
  refine x24 j977 fun l1 l2 h1' h2' e978 e979 => ?_
  try clear j977
  obtain rfl := e978
  obtain rfl := e979
  refine hG9 _ _ ?_
  clear hG9 G9
  obtain rfl := List.map_eq_nil_iff.mp h2'.symm
  rw [List.append_nil] at h1'
  subst h1'
  refine OP_eqSame (l := RW.map fun r => hdf r.1) (n := 4) (rd.le (by decide)) (by decide) (congrArg some hlik.hds) rfl (fun x hx => ?_) ?_
  · refine x12 (List.mem_map.mp hx) fun r hr e980 => ?_
    obtain rfl := e980
    exact dr.dn _ (by rw [hN]; exact List.mem_map_of_mem hr)
  exact kr.rt _ _ (ret _ a2 b2 _ hs2)
end
end Mine
end
section
open PySem PySem.W PyProof.Rows PySem.Calls PySem.Spec
set_option tactic.hygienic false
set_option maxHeartbeats 400000
namespace Mine
noncomputable def Cx.law (d : Cx) : Cx := { d with cs := fnS (pgA 36), cl := [], fc := [], sub := none }
noncomputable abbrev sScript : Str := Str.ofString "script"
theorem law_ax {d : Cx} {sa : Addr} {vs : List Value} {ns : List Int} {KK : KF} (o : d.law.Ok2) (hr : Room d.law 20) (hC : CodeHd d.base 491 489) (hl : d.base.IsList sa vs.toArray) (hI : IntsAre vs ns) (h63 : ¬ 63 < ns.length) (ret : ∀ m ps rest, KK (.ret (.bool true)) ⟨m, .raw 489 (tabObj ps) :: rest⟩) :
    AX d.law (fnB9 (pgA 36)) ⟨[(sScript, .fn sa)], [.raw 489 (tabObj #[])]⟩ KK := by
  refine (lvl_good o 60).ex _ _ _ ?_
  refine pool_ac o (hr.le (by decide)) hl hI h63 fun a b h0 h1 h2 => ?_
  refine expr_ac (a := a) (b := b) o (hr.le (by decide)) hC rfl ⟨h0, h1, h2⟩ fun ps a' b' rest hs => ?_
  refine Br.tt ?_
  refine binds_ac (k := 1) o (hr.le (by decide)) rfl hs fun a2 b2 hs2 => ?_
  exact ret _ _ _
theorem law_go {w : World} {base : Heap} {L fa sa : Addr} {mean : ExcName → Option Value} {mg mb m : Str → Option Value} {loose : List Str} {p : Program} {cn : Str} {cd : Value} {vs : List Value} {ns : List Int} {s : Shared} {Q : Flow → Shared → Prop} {E : Value → Shared → Prop}
    (B : Below callerA base [] base) (X : (heap9 w.params).In base) (T : Top p loose mean mg mb base) (F : Fr base L s.heap m) (N : News base L s.heap [(489, tabObj #[])]) (hm : m sScript = some (.ref sa)) (hl : base.IsList sa vs.toArray) (hI : IntsAre vs ns) (h63 : ¬ 63 < ns.length) (hC : CodeHd base 491 489)
    (hE : PassesOwn (model pg w) (callerA.deeper (envOf cn (fnS (pgA 36)) L fa cd)) (envOf cn (fnS (pgA 36)) L fa cd) E)
    (hQ : ∀ ps m' s', Fr base L s'.heap m' → News base L s'.heap [(489, tabObj ps)] → s'.os = s.os → s'.gens = s.gens → Q (.ret (.bool true)) s') :
    wpAny (model pg w) (callerA.deeper (envOf cn (fnS (pgA 36)) L fa cd)) (execs (fnB9 (pgA 36)) (envOf cn (fnS (pgA 36)) L fa cd)) Q E s := by
  let d : Cx := { w := w, p := p, loose := loose, mean := mean, mg := mg, mb := mb, dp := (callerA.deeper (envOf cn (fnS (pgA 36)) L fa cd)).depth, un := (callerA.deeper (envOf cn (fnS (pgA 36)) L fa cd)).units, gd := (callerA.deeper (envOf cn (fnS (pgA 36)) L fa cd)).guards, cn := cn, cs := fnS (pgA 36), L := L, ax := fa, ccd := cd, cl := [], outer := [], A₀ := callerA, base := base, h₀ := base, fr := [], mf := [], os := s.os, gens := s.gens, fc := [], sub := none }
  have o : d.law.Ok2 := { B := B, X := X, T := T, k := by kernel_rfl, sk := fun _ _ _ _ _ e => (by cases e), fx := fun _ h => (by cases h), nd := by kernel_rfl, nc := by kernel_rfl, ci := fun _ _ _ h => (by cases h) }
  have rd : RelD d.law ⟨[(sScript, .fn sa)], [.raw 489 (tabObj #[])]⟩ [(.cell 0, .ref 489)] s m [489] [(489, tabObj #[])] [] [] := by
    refine ⟨F, N, ⟨fun _ _ _ h => (by cases h), List.pairwise_singleton ..⟩, ⟨fun _ h => (by cases h), .nil⟩, .live .raw .nil, fun x v h => ?_, fun t ht => ?_, rfl, rfl, fun _ x h => ?_, fun _ h => (by cases h), fun _ h => (by cases h), fun _ e => (by cases e)⟩
    · rw [List.lookup_cons] at h
      cases e : x == sScript with
      | true =>
        rw [e] at h
        cases h
        rw [eq_of_beq e]
        exact i12 _ (.loc rfl (by kernel_rfl) hm) (.imm .fn)
      | false => rw [e] at h; cases h
    · rcases List.mem_singleton.mp ht with rfl; exact .cell rfl
    · have hc : ((fnS (pgA 36)).names.all fun q => !(q.2 == .cell)) = true := by kernel_rfl
      have := List.all_eq_true.mp hc _ (lookup_mem9 h)
      cases this
  refine law_ax (d := d) (KK := fun fl σ => fl = .ret (.bool true) ∧ ∃ ps rest, σ.cs = .raw 489 (tabObj ps) :: rest) o ⟨show callerA.depth + 1 + 20 < recursionLimit by decide, show callerA.units + 3 + 20 * 20 < cLine by decide⟩ hC hl hI h63 (fun m ps rest => ⟨rfl, ps, rest, rfl⟩) _ _ _ _ hE rd.rel ?_
  intro f σ' s' fl j91
  obtain ⟨rfl, ps, rest, hcs⟩ := j91
  intro hfl
  cases hfl with
  | ret hr =>
    refine x51 hr fun m' adr M K R r => ?_
    try clear hr
    have hb := r.T (.bool true, _) List.mem_cons_self
    have h0 := r.T (.cell 0, .ref 489) (List.mem_cons_of_mem _ List.mem_cons_self)
    cases hb with
    | imm z =>
      cases z
      refine r.C.at (c := .raw 489 (tabObj ps)) (k := 0) (fun v e => by cases e) (by rw [hcs]; rfl) fun a q M1 M2 h1 h2 h3 _ _ => ?_
      cases h2
      exact hQ ps m' s' r.F (fun x hx => by rcases List.mem_singleton.mp hx with rfl; exact r.N _ (List.mem_append_left _ (h3 ▸ List.mem_append_right _ List.mem_cons_self))) r.os r.gens
end Mine
end
section
open PySem PySem.W PyProof.Rows
set_option tactic.hygienic false
set_option maxHeartbeats 8000000
namespace Mine
noncomputable section
noncomputable def d9 : DefRec := match defOf view9 PySem.Challenge.rw_og0013_01.row.name with
  | some (d, _) => d
  | none => ⟨"", ⟨[], [], none, [], [], none, []⟩, [], ⟨.function, [], false, false, []⟩, noPos⟩
theorem said9 : PySem.Challenge.rw_og0013_01.wellSaid = true := by
  delta OpenLaw.wellSaid OpenRow.wellSaid OpenRow.partSaid looksOpen
  repeat' with_reducible refine Bool.and_eq_true_iff.mpr ⟨?_, ?_⟩
  all_goals decide +kernel
theorem hd {walk : Prop} (e : walk = WalkO view9 [] (XL view9 []) (kmHook heap9 adr9 adr9_ok [489]).says PySem.Challenge.rw_og0013_01.row.toRowW d9 [] fun f vs => PySem.call f vs) (h : walk) : PySem.Challenge.rw_og0013_01.Holds := by
  subst e
  w_on
  refine holds_law said9 fun said => ?_
  refine holds_open (q := view9) (loose := []) (Xt := fun s => xlAt view9 [] s && recOk (RowW.records PySem.Challenge.rw_og0013_01.row.toRowW) s) (XP := XL view9 []) (Yf := Hook.obs (kmHook heap9 adr9 adr9_ok [489])) (Ya := Hook.val (kmHook heap9 adr9 adr9_ok [489])) (YP := Hook.says (kmHook heap9 adr9 adr9_ok [489])) (N := 7546) left_ (Hook.of _) (Hook.keeps _) (fun s e => xl_of s (Bool.and_eq_true_iff.mp e).1) XL.keeps (d := d9) (kwd := []) (by kernel_rfl) (by kernel_rfl) (by kernel_rfl) (fun s e => recFacts_of (Bool.and_eq_true_iff.mp e).2) (by rfl) (by first | assumption | decide +kernel) (by decide +kernel) ⟨rfl, rfl, rfl, rfl, rfl, by decide +kernel⟩ ?hw ?hc
  case hw => w_witness2
  case hc => exact h
end
end Mine
end
section
open PySem PySem.W PyProof.Rows
set_option tactic.hygienic false
set_option maxHeartbeats 8000000
theorem Mine.law_holds : PySem.Challenge.rw_og0013_01.Holds := Mine.hd rfl (by
  intro w s₀ s₁ mg mb G Y fa o pm cd doc dV kV ho hd hcd hD hmg hg args vals as hpre hlay hrd hwl hlo
  have KX := km_in_of Y
  km_tabs Y
  have X := (Ground.X G).1
  have V := (Ground.X G).2
  refine Ground.open G ?_
  intro T B D TE TW
  try (refine guard_noD D (by decide +kernel) ?_; clear D)
  have hmg : mg (PySem.Str.ofString "law") = some (Value.ref fa) := hmg
  have hT9 : TabsAt ([(491, 489)] : List (Addr × Addr)) _ := List.forall_mem_cons.mpr ⟨⟨codeHd_of_K (c := 491) (P := 489) KX (by kernel_rfl), hT8 489 (by k_mem)⟩, fun _ h => nomatch h⟩
  clear hmg
  wrow_args hpre hlay hrd hwl hlo
  all_goals (
    first | refine callC_kw (enter_call ?_) | refine enter_call ?_
    w_top on
    kn_posts
    w_call any ho hd hcd hD T F
    clear hd
    kn_ghosts F T
    k_drop
    skip)
  rename IntsAre _ _ => hI
  rename Below _ _ _ _ => hB
  rename Top _ _ _ _ _ _ => hT
  rename (Mine.heap9 _).In _ => hX
  rename Fr _ _ _ _ => hF
  rename News _ _ _ _ => hN
  rename ¬ (63 : Int) < _ => h63
  have hb : Mine.d9.body = Mine.fnB9 (Mine.pgA 36) := by kernel_rfl
  have hsc : Mine.d9.scope = Mine.fnS (Mine.pgA 36) := by kernel_rfl
  rw [hb, hsc]
  refine Mine.law_go hB hX hT hF hN (by kernel_rfl) lifted hI (by omega) codeHd PassesOwn.leaving ?kQ
  case kQ =>
    intro ps m' s' F9 N9 e1 e2
    exact ⟨⟨.inl ⟨.bool true, _, [], rfl, fun _ => rfl, .bool true, by kernel_rfl, fun _ => ⟨.nil, fun _ h => nomatch h⟩⟩, F9.keep, e1, e2.trans hg⟩, GrownAt.of N9 (.head _), trivial⟩)
end
theorem PySem.Challenge.cw_og0013_01_holds : PySem.Challenge.rw_og0013_01.Holds :=
  Mine.law_holds
