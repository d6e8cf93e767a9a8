import PyProof.Rows.All
import Wide.All
import OpenK.AllK
import Wide.FinOn
import PySem.Challenge.RW_tk0064_01
open PySem PySem.W PyProof.Rows
set_option Elab.async false
set_option maxRecDepth 100000

namespace MineHead
/-- the row's program -/
abbrev pw : Program := PySem.Challenge.pw_tk0064_01
noncomputable def sOf (i : Nat) : Stmt := (pw.main.body[i]?).getD (.Pass ⟨0, 0, 0, 0⟩)
def inCls : Stmt → Nat → Stmt
  | .ClassDef _ _ _ body _ _ _ _ _ _ _, i => (body[i]?).getD (.Pass ⟨0, 0, 0, 0⟩)
  | s, _ => s
def dPar : Stmt → Arguments
  | .FunctionDef _ ps _ _ _ _ _ _ _ _ => ps
  | _ => ⟨[], [], none, [], [], none, []⟩
def dBody : Stmt → List Stmt
  | .FunctionDef _ _ body _ _ _ _ _ _ _ => body
  | _ => []
def dScope : Stmt → Scope
  | .FunctionDef _ _ _ _ _ _ sc _ _ _ => sc
  | _ => pw.main.scope
def de (P : Params) (k : String) (t : Nat) (v : Value) : DictEntry := ⟨PyData.keyHash P (.ofString k), .str (.ofString k) t, v⟩
noncomputable def o0 : Obj := ⟨(.type "tuple"), none, (.seq #[] 0), #[]⟩
noncomputable def o1 : Obj := ⟨.none, none, (.fields #[]), #[]⟩
noncomputable def o2 : Obj := ⟨(.type "code"), none, (.fields (List.toArray [(.str (.ofString "<module>") 182), (.str (.ofString "<module>") 183), (.str (.ofString "/claim/cut.py") 184), (.int (.ofNat 1) 0), (.int (.ofNat 0) 0), (.int (.ofNat 0) 0), (.int (.ofNat 0) 0), (.int (.ofNat 0) 0), (.ref 11), (.bool false), (.int (.ofNat 181) 0), (.ref 12), .none, .none, .none, .none, (.int (.ofNat 185) 0), (.int (.ofNat 1) 0), (.str (.ofString "/claim/cut.py") 186)])), #[]⟩
noncomputable def o3 : Obj := ⟨(.type "frame"), none, .plain, (List.toArray [(some (.ref 13)), (some (.ref 3)), (some (.ref 3)), none, (some (.str (.ofString "__main__") 164)), none, (some (.ref 0))])⟩
noncomputable def t0 (P : Params) : BT := (.node (boot_o_0 P) (.node (boot_o_1 P) (.node (boot_o_3 P) (.node (boot_o_7 P) .nil .nil) (.node o0 .nil .nil)) (.node (boot_o_5 P) (.node (boot_o_9 P) .nil .nil) (.node o2 .nil .nil))) (.node (boot_o_2 P) (.node (boot_o_4 P) (.node (boot_o_8 P) .nil .nil) (.node o1 .nil .nil)) (.node (boot_o_6 P) (.node (boot_o_10 P) .nil .nil) (.node o3 .nil .nil))))
noncomputable def o4 (P : Params) : Obj := ⟨.none, none, (.dict (List.toArray [de P "type.__subclasses__.Exception.0" 214 (.int (.ofNat 31) 0), de P "type.__subclasses__.Exception.n" 215 (.int (.ofNat 1) 0)]) 2), #[]⟩
noncomputable def o5 (P : Params) : Obj := ⟨(.type "dict"), none, (.dict (List.toArray [de P "__name__" 165 (.str (.ofString "perlcore.quotes") 269), de P "__doc__" 166 .none, de P "__package__" 167 .none, de P "__loader__" 168 (.builtin "__main__.__loader__#opaque"), de P "__spec__" 169 .none, de P "__annotations__" 170 (.ref 6), de P "__builtins__" 171 (.ref 4), de P "__file__" 173 (.str (.ofString "/claim/cut.py") 172), de P "__cached__" 174 .none, de P "PerlError" 217 (.ref 31), de P "Die" 242 (.ref 51), de P "SyntaxDie" 268 (.ref 70)]) 12), #[]⟩
noncomputable def o6 : Obj := ⟨.none, none, (.fields (List.toArray [(.int (.ofNat 2) 0), (.int (.ofNat 0) 0), (.ref 20), (.int (.ofNat 7) 0), (.int (.ofNat 0) 0), (.ref 40), (.int (.ofNat 12) 0), (.int (.ofNat 0) 0), (.ref 59)])), #[]⟩
noncomputable def o7 : Obj := ⟨(.type "tuple"), none, (.seq (List.toArray [(.type "Exception")]) 0), #[]⟩
noncomputable def o8 : Obj := ⟨(.type "builtin_function_or_method"), none, (.fields (List.toArray [(.builtin "type.__prepare__"), (.type "type")])), #[]⟩
noncomputable def o9 (P : Params) : Obj := ⟨(.type "dict"), none, (.dict (List.toArray [de P "__module__" 196 (.str (.ofString "perlcore.errors") 187), de P "__qualname__" 198 (.str (.ofString "PerlError") 197), de P "__firstlineno__" 200 (.int (.ofNat 2) 199), de P "__init__" 208 (.ref 28), de P "__static_attributes__" 210 (.ref 29)]) 5), #[]⟩
noncomputable def o10 : Obj := ⟨(.type "tuple"), none, (.seq #[] 0), #[]⟩
noncomputable def o11 : Obj := ⟨.none, none, (.fields (List.toArray [(.int (.ofNat 4) 0), (.int (.ofNat 4) 0), (.ref 27)])), #[]⟩
noncomputable def o12 : Obj := ⟨(.type "code"), none, (.fields (List.toArray [(.str (.ofString "PerlError") 191), (.str (.ofString "PerlError") 192), (.str (.ofString "/claim/cut.py") 193), (.int (.ofNat 2) 0), (.int (.ofNat 0) 0), (.int (.ofNat 0) 0), (.int (.ofNat 0) 0), (.int (.ofNat 0) 0), (.ref 18), (.bool false), (.int (.ofNat 181) 0), (.ref 19), .none, .none, .none, .none, (.int (.ofNat 194) 0), (.int (.ofNat 2) 0), (.str (.ofString "/claim/cut.py") 195)])), #[]⟩
noncomputable def o13 : Obj := ⟨(.type "frame"), none, .plain, (List.toArray [(some (.ref 20)), (some (.ref 3)), (some (.ref 17)), none, (some (.str (.ofString "perlcore.errors") 187)), none, (some (.ref 0))])⟩
noncomputable def o14 : Obj := ⟨(.type "tuple"), none, (.seq #[] 0), #[]⟩
noncomputable def o15 : Obj := ⟨.none, none, (.fields #[]), #[]⟩
noncomputable def o16 : Obj := ⟨(.type "tuple"), none, (.seq (List.toArray [(.str (.ofString "self") 204), (.str (.ofString "text") 205)]) 0), #[]⟩
noncomputable def o17 : Obj := ⟨(.type "tuple"), none, (.seq #[] 0), #[]⟩
noncomputable def o18 : Obj := ⟨.none, none, (.func ⟨(.ofString "__init__"), (.ofString "PerlError.__init__"), dPar (inCls (sOf 1) 0), .stmts (dBody (inCls (sOf 1) 0)), dScope (inCls (sOf 1) 0), 0, [], .none, .none, .none, .none, none, .none, .none, 0⟩), #[]⟩
noncomputable def o19 : Obj := ⟨(.type "code"), none, (.fields (List.toArray [(.str (.ofString "__init__") 201), (.str (.ofString "PerlError.__init__") 202), (.str (.ofString "/claim/cut.py") 203), (.int (.ofNat 4) 0), (.int (.ofNat 2) 0), (.int (.ofNat 0) 0), (.int (.ofNat 0) 0), (.int (.ofNat 3) 0), (.ref 22), (.bool true), (.int (.ofNat 181) 0), (.ref 23), .none, (.ref 24), (.ref 25), (.ref 26), (.int (.ofNat 206) 0), (.int (.ofNat 4) 0), (.str (.ofString "/claim/cut.py") 207)])), #[]⟩
noncomputable def o20 : Obj := ⟨(.type "function"), none, (.func ⟨(.ofString "__init__"), (.ofString "PerlError.__init__"), dPar (inCls (sOf 1) 0), .stmts (dBody (inCls (sOf 1) 0)), dScope (inCls (sOf 1) 0), 3, [], .none, .none, .none, (.str (.ofString "perlcore.errors") 187), none, (.ref 27), .none, 0⟩), #[]⟩
noncomputable def o21 : Obj := ⟨(.type "tuple"), none, (.seq (List.toArray [(.str (.ofString "text") 209)]) 0), #[]⟩
noncomputable def o22 (P : Params) : Obj := ⟨(.type "dict"), none, (.dict (List.toArray [de P "__module__" 196 (.str (.ofString "perlcore.errors") 187), de P "__firstlineno__" 200 (.int (.ofNat 2) 199), de P "__init__" 208 (.ref 28), de P "__static_attributes__" 210 (.ref 29), de P "__weakref__" 212 (.ref 32), de P "__doc__" 213 .none]) 3), #[]⟩
noncomputable def o23 : Obj := ⟨(.type "type"), none, (.cls ⟨(.ofString "PerlError"), [(.type "Exception")], [(.ref 31), (.type "Exception"), (.type "BaseException"), (.type "object")], 30, (.ofString "PerlError"), true, [], [(.ref 51), (.ref 70)], false, none, false⟩), (List.toArray [(some (.ref 15)), none, (some (.str (.ofString "PerlError") 189)), (some (.str (.ofString "PerlError") 197)), (some (.builtin "Exception.__new__")), (some (.bool true))])⟩
noncomputable def o24 : Obj := ⟨(.type "getset_descriptor"), none, (.fields (List.toArray [(.str (.ofString "__weakref__") 211), (.ref 31), (.builtin "ExceptionGroup.__weakref__"), .none])), #[]⟩
noncomputable def o25 : Obj := ⟨(.type "super"), none, (.fields (List.toArray [(.ref 31), (.ref 31), (.ref 31)])), #[]⟩
noncomputable def o26 : Obj := ⟨(.type "builtin_function_or_method"), none, (.fields (List.toArray [(.builtin "object.__init_subclass__"), (.ref 31)])), #[]⟩
noncomputable def o27 : Obj := ⟨(.type "tuple"), none, (.seq (List.toArray [(.ref 31)]) 0), #[]⟩
noncomputable def o28 : Obj := ⟨(.type "builtin_function_or_method"), none, (.fields (List.toArray [(.builtin "type.__prepare__"), (.type "type")])), #[]⟩
noncomputable def o29 (P : Params) : Obj := ⟨(.type "dict"), none, (.dict (List.toArray [de P "__module__" 225 (.str (.ofString "perlcore.errors") 187), de P "__qualname__" 227 (.str (.ofString "Die") 226), de P "__firstlineno__" 229 (.int (.ofNat 7) 228), de P "__init__" 237 (.ref 48), de P "__static_attributes__" 239 (.ref 49)]) 5), #[]⟩
noncomputable def o30 : Obj := ⟨(.type "tuple"), none, (.seq #[] 0), #[]⟩
noncomputable def o31 : Obj := ⟨.none, none, (.fields (List.toArray [(.int (.ofNat 9) 0), (.int (.ofNat 4) 0), (.ref 47)])), #[]⟩
noncomputable def o32 : Obj := ⟨(.type "code"), none, (.fields (List.toArray [(.str (.ofString "Die") 220), (.str (.ofString "Die") 221), (.str (.ofString "/claim/cut.py") 222), (.int (.ofNat 7) 0), (.int (.ofNat 0) 0), (.int (.ofNat 0) 0), (.int (.ofNat 0) 0), (.int (.ofNat 0) 0), (.ref 38), (.bool false), (.int (.ofNat 181) 0), (.ref 39), .none, .none, .none, .none, (.int (.ofNat 223) 0), (.int (.ofNat 7) 0), (.str (.ofString "/claim/cut.py") 224)])), #[]⟩
noncomputable def o33 : Obj := ⟨(.type "frame"), none, .plain, (List.toArray [(some (.ref 40)), (some (.ref 3)), (some (.ref 37)), none, (some (.str (.ofString "perlcore.errors") 187)), none, (some (.ref 0))])⟩
noncomputable def o34 : Obj := ⟨(.type "tuple"), none, (.seq #[] 0), #[]⟩
noncomputable def o35 : Obj := ⟨.none, none, (.fields #[]), #[]⟩
noncomputable def o36 : Obj := ⟨(.type "tuple"), none, (.seq (List.toArray [(.str (.ofString "self") 233), (.str (.ofString "value") 234)]) 0), #[]⟩
noncomputable def o37 : Obj := ⟨(.type "tuple"), none, (.seq #[] 0), #[]⟩
noncomputable def o38 : Obj := ⟨.none, none, (.func ⟨(.ofString "__init__"), (.ofString "Die.__init__"), dPar (inCls (sOf 2) 0), .stmts (dBody (inCls (sOf 2) 0)), dScope (inCls (sOf 2) 0), 0, [], .none, .none, .none, .none, none, .none, .none, 0⟩), #[]⟩
noncomputable def o39 : Obj := ⟨(.type "code"), none, (.fields (List.toArray [(.str (.ofString "__init__") 230), (.str (.ofString "Die.__init__") 231), (.str (.ofString "/claim/cut.py") 232), (.int (.ofNat 9) 0), (.int (.ofNat 2) 0), (.int (.ofNat 0) 0), (.int (.ofNat 0) 0), (.int (.ofNat 3) 0), (.ref 42), (.bool true), (.int (.ofNat 181) 0), (.ref 43), .none, (.ref 44), (.ref 45), (.ref 46), (.int (.ofNat 235) 0), (.int (.ofNat 9) 0), (.str (.ofString "/claim/cut.py") 236)])), #[]⟩
noncomputable def o40 : Obj := ⟨(.type "function"), none, (.func ⟨(.ofString "__init__"), (.ofString "Die.__init__"), dPar (inCls (sOf 2) 0), .stmts (dBody (inCls (sOf 2) 0)), dScope (inCls (sOf 2) 0), 3, [], .none, .none, .none, (.str (.ofString "perlcore.errors") 187), none, (.ref 47), .none, 0⟩), #[]⟩
noncomputable def o41 : Obj := ⟨(.type "tuple"), none, (.seq (List.toArray [(.str (.ofString "value") 238)]) 0), #[]⟩
noncomputable def o42 (P : Params) : Obj := ⟨(.type "dict"), none, (.dict (List.toArray [de P "__module__" 225 (.str (.ofString "perlcore.errors") 187), de P "__firstlineno__" 229 (.int (.ofNat 7) 228), de P "__init__" 237 (.ref 48), de P "__static_attributes__" 239 (.ref 49), de P "__doc__" 240 .none]) 2), #[]⟩
noncomputable def o43 : Obj := ⟨(.type "type"), none, (.cls ⟨(.ofString "Die"), [(.ref 31)], [(.ref 51), (.ref 31), (.type "Exception"), (.type "BaseException"), (.type "object")], 50, (.ofString "Die"), true, [], [], false, none, false⟩), (List.toArray [(some (.ref 35)), none, (some (.str (.ofString "Die") 218)), (some (.str (.ofString "Die") 226)), (some (.builtin "Exception.__new__")), (some (.bool true))])⟩
noncomputable def o44 : Obj := ⟨(.type "super"), none, (.fields (List.toArray [(.ref 51), (.ref 51), (.ref 51)])), #[]⟩
noncomputable def o45 : Obj := ⟨(.type "builtin_function_or_method"), none, (.fields (List.toArray [(.builtin "object.__init_subclass__"), (.ref 51)])), #[]⟩
noncomputable def o46 : Obj := ⟨(.type "tuple"), none, (.seq (List.toArray [(.ref 31)]) 0), #[]⟩
noncomputable def o47 : Obj := ⟨(.type "builtin_function_or_method"), none, (.fields (List.toArray [(.builtin "type.__prepare__"), (.type "type")])), #[]⟩
noncomputable def o48 (P : Params) : Obj := ⟨(.type "dict"), none, (.dict (List.toArray [de P "__module__" 250 (.str (.ofString "perlcore.errors") 187), de P "__qualname__" 252 (.str (.ofString "SyntaxDie") 251), de P "__firstlineno__" 254 (.int (.ofNat 12) 253), de P "__init__" 263 (.ref 67), de P "__static_attributes__" 265 (.ref 68)]) 5), #[]⟩
noncomputable def o49 : Obj := ⟨(.type "tuple"), none, (.seq #[] 0), #[]⟩
noncomputable def o50 : Obj := ⟨.none, none, (.fields (List.toArray [(.int (.ofNat 14) 0), (.int (.ofNat 4) 0), (.ref 66)])), #[]⟩
noncomputable def o51 : Obj := ⟨(.type "code"), none, (.fields (List.toArray [(.str (.ofString "SyntaxDie") 245), (.str (.ofString "SyntaxDie") 246), (.str (.ofString "/claim/cut.py") 247), (.int (.ofNat 12) 0), (.int (.ofNat 0) 0), (.int (.ofNat 0) 0), (.int (.ofNat 0) 0), (.int (.ofNat 0) 0), (.ref 57), (.bool false), (.int (.ofNat 181) 0), (.ref 58), .none, .none, .none, .none, (.int (.ofNat 248) 0), (.int (.ofNat 12) 0), (.str (.ofString "/claim/cut.py") 249)])), #[]⟩
noncomputable def o52 : Obj := ⟨(.type "frame"), none, .plain, (List.toArray [(some (.ref 59)), (some (.ref 3)), (some (.ref 56)), none, (some (.str (.ofString "perlcore.errors") 187)), none, (some (.ref 0))])⟩
noncomputable def o53 : Obj := ⟨(.type "tuple"), none, (.seq #[] 0), #[]⟩
noncomputable def o54 : Obj := ⟨.none, none, (.fields #[]), #[]⟩
noncomputable def o55 : Obj := ⟨(.type "tuple"), none, (.seq (List.toArray [(.str (.ofString "self") 258), (.str (.ofString "text") 259), (.str (.ofString "line") 260)]) 0), #[]⟩
noncomputable def o56 : Obj := ⟨(.type "tuple"), none, (.seq #[] 0), #[]⟩
noncomputable def o57 : Obj := ⟨.none, none, (.func ⟨(.ofString "__init__"), (.ofString "SyntaxDie.__init__"), dPar (inCls (sOf 3) 0), .stmts (dBody (inCls (sOf 3) 0)), dScope (inCls (sOf 3) 0), 0, [], .none, .none, .none, .none, none, .none, .none, 0⟩), #[]⟩
noncomputable def o58 : Obj := ⟨(.type "code"), none, (.fields (List.toArray [(.str (.ofString "__init__") 255), (.str (.ofString "SyntaxDie.__init__") 256), (.str (.ofString "/claim/cut.py") 257), (.int (.ofNat 14) 0), (.int (.ofNat 3) 0), (.int (.ofNat 0) 0), (.int (.ofNat 0) 0), (.int (.ofNat 3) 0), (.ref 61), (.bool true), (.int (.ofNat 181) 0), (.ref 62), .none, (.ref 63), (.ref 64), (.ref 65), (.int (.ofNat 261) 0), (.int (.ofNat 14) 0), (.str (.ofString "/claim/cut.py") 262)])), #[]⟩
noncomputable def o59 : Obj := ⟨(.type "function"), none, (.func ⟨(.ofString "__init__"), (.ofString "SyntaxDie.__init__"), dPar (inCls (sOf 3) 0), .stmts (dBody (inCls (sOf 3) 0)), dScope (inCls (sOf 3) 0), 3, [], .none, .none, .none, (.str (.ofString "perlcore.errors") 187), none, (.ref 66), .none, 0⟩), #[]⟩
noncomputable def o60 : Obj := ⟨(.type "tuple"), none, (.seq (List.toArray [(.str (.ofString "line") 264)]) 0), #[]⟩
noncomputable def o61 (P : Params) : Obj := ⟨(.type "dict"), none, (.dict (List.toArray [de P "__module__" 250 (.str (.ofString "perlcore.errors") 187), de P "__firstlineno__" 254 (.int (.ofNat 12) 253), de P "__init__" 263 (.ref 67), de P "__static_attributes__" 265 (.ref 68), de P "__doc__" 266 .none]) 2), #[]⟩
noncomputable def o62 : Obj := ⟨(.type "type"), none, (.cls ⟨(.ofString "SyntaxDie"), [(.ref 31)], [(.ref 70), (.ref 31), (.type "Exception"), (.type "BaseException"), (.type "object")], 69, (.ofString "SyntaxDie"), true, [], [], false, none, false⟩), (List.toArray [(some (.ref 54)), none, (some (.str (.ofString "SyntaxDie") 243)), (some (.str (.ofString "SyntaxDie") 251)), (some (.builtin "Exception.__new__")), (some (.bool true))])⟩
noncomputable def o63 : Obj := ⟨(.type "super"), none, (.fields (List.toArray [(.ref 70), (.ref 70), (.ref 70)])), #[]⟩
noncomputable def o64 : Obj := ⟨(.type "builtin_function_or_method"), none, (.fields (List.toArray [(.builtin "object.__init_subclass__"), (.ref 70)])), #[]⟩
noncomputable def t1 (P : Params) : BT := (.node (boot_o_0 P) (.node (boot_o_1 P) (.node (o5 P) (.node (boot_o_7 P) (.node o7 (.node o23 (.node o55 .nil .nil) .nil) (.node o39 .nil .nil)) (.node o15 (.node o31 (.node o63 .nil .nil) .nil) (.node o47 .nil .nil))) (.node o0 (.node o11 (.node o27 (.node o59 .nil .nil) .nil) (.node o43 .nil .nil)) (.node o19 (.node o35 .nil .nil) (.node o51 .nil .nil)))) (.node (boot_o_5 P) (.node (boot_o_9 P) (.node (o9 P) (.node o25 (.node o57 .nil .nil) .nil) (.node o41 .nil .nil)) (.node o17 (.node o33 .nil .nil) (.node o49 .nil .nil))) (.node o2 (.node o13 (.node (o29 P) (.node (o61 P) .nil .nil) .nil) (.node o45 .nil .nil)) (.node o21 (.node o37 .nil .nil) (.node o53 .nil .nil))))) (.node (o4 P) (.node (boot_o_4 P) (.node (boot_o_8 P) (.node o8 (.node o24 (.node o56 .nil .nil) .nil) (.node o40 .nil .nil)) (.node o16 (.node o32 (.node o64 .nil .nil) .nil) (.node (o48 P) .nil .nil))) (.node o6 (.node o12 (.node o28 (.node o60 .nil .nil) .nil) (.node o44 .nil .nil)) (.node o20 (.node o36 .nil .nil) (.node o52 .nil .nil)))) (.node (boot_o_6 P) (.node (boot_o_10 P) (.node o10 (.node o26 (.node o58 .nil .nil) .nil) (.node (o42 P) .nil .nil)) (.node o18 (.node o34 .nil .nil) (.node o50 .nil .nil))) (.node o3 (.node o14 (.node o30 (.node o62 .nil .nil) .nil) (.node o46 .nil .nil)) (.node (o22 P) (.node o38 .nil .nil) (.node o54 .nil .nil))))))
noncomputable def o65 (P : Params) : Obj := ⟨(.type "dict"), none, (.dict (List.toArray [de P "__name__" 165 (.str (.ofString "perlcore.quotes") 269), de P "__doc__" 166 .none, de P "__package__" 167 .none, de P "__loader__" 168 (.builtin "__main__.__loader__#opaque"), de P "__spec__" 169 .none, de P "__annotations__" 170 (.ref 6), de P "__builtins__" 171 (.ref 4), de P "__file__" 173 (.str (.ofString "/claim/cut.py") 172), de P "__cached__" 174 .none, de P "PerlError" 217 (.ref 31), de P "Die" 242 (.ref 51), de P "SyntaxDie" 268 (.ref 70), de P "SHORT_ESCAPES" 292 (.ref 73)]) 13), #[]⟩
noncomputable def o66 (P : Params) : Obj := ⟨(.type "dict"), none, (.dict (List.toArray [de P "n" 271 (.str (.ofString "\n") 272), de P "t" 273 (.str (.ofString "\t") 274), de P "r" 275 (.str (.ofString "\x0d") 276), de P "f" 277 (.str (.ofString "\x0c") 278), de P "b" 279 (.str (.ofString "\x08") 280), de P "a" 281 (.str (.ofString "\x07") 282), de P "e" 283 (.str (.ofString "\x1b") 284)]) 7), #[]⟩
noncomputable def t2 (P : Params) : BT := (.node (boot_o_0 P) (.node (boot_o_1 P) (.node (o65 P) (.node (boot_o_7 P) (.node o7 (.node o23 (.node o55 .nil .nil) .nil) (.node o39 .nil .nil)) (.node o15 (.node o31 (.node o63 .nil .nil) .nil) (.node o47 .nil .nil))) (.node o0 (.node o11 (.node o27 (.node o59 .nil .nil) .nil) (.node o43 .nil .nil)) (.node o19 (.node o35 .nil .nil) (.node o51 .nil .nil)))) (.node (boot_o_5 P) (.node (boot_o_9 P) (.node (o9 P) (.node o25 (.node o57 .nil .nil) .nil) (.node o41 .nil .nil)) (.node o17 (.node o33 (.node (o66 P) .nil .nil) .nil) (.node o49 .nil .nil))) (.node o2 (.node o13 (.node (o29 P) (.node (o61 P) .nil .nil) .nil) (.node o45 .nil .nil)) (.node o21 (.node o37 .nil .nil) (.node o53 .nil .nil))))) (.node (o4 P) (.node (boot_o_4 P) (.node (boot_o_8 P) (.node o8 (.node o24 (.node o56 .nil .nil) .nil) (.node o40 .nil .nil)) (.node o16 (.node o32 (.node o64 .nil .nil) .nil) (.node (o48 P) .nil .nil))) (.node o6 (.node o12 (.node o28 (.node o60 .nil .nil) .nil) (.node o44 .nil .nil)) (.node o20 (.node o36 .nil .nil) (.node o52 .nil .nil)))) (.node (boot_o_6 P) (.node (boot_o_10 P) (.node o10 (.node o26 (.node o58 .nil .nil) .nil) (.node (o42 P) .nil .nil)) (.node o18 (.node o34 .nil .nil) (.node o50 .nil .nil))) (.node o3 (.node o14 (.node o30 (.node o62 .nil .nil) .nil) (.node o46 .nil .nil)) (.node (o22 P) (.node o38 .nil .nil) (.node o54 .nil .nil))))))
noncomputable def o67 (P : Params) : Obj := ⟨(.type "dict"), none, (.dict (List.toArray [de P "__name__" 165 (.str (.ofString "perlcore.trans") 347), de P "__doc__" 166 .none, de P "__package__" 167 .none, de P "__loader__" 168 (.builtin "__main__.__loader__#opaque"), de P "__spec__" 169 .none, de P "__annotations__" 170 (.ref 6), de P "__builtins__" 171 (.ref 4), de P "__file__" 173 (.str (.ofString "/claim/cut.py") 172), de P "__cached__" 174 .none, de P "PerlError" 217 (.ref 31), de P "Die" 242 (.ref 51), de P "SyntaxDie" 268 (.ref 70), de P "SHORT_ESCAPES" 292 (.ref 73), de P "CODE_FIGURES" 294 (.str (.ofString "0123456789abcdef") 293), de P "TOP_CODE" 296 (.int (.ofNat 1114111) 295), de P "digits_value" 309 (.ref 80), de P "coded_sign" 316 (.ref 87), de P "braced_code" 328 (.ref 94), de P "escape_at" 339 (.ref 101), de P "great_letter" 346 (.ref 108), de P "KEPT_SIGN" 351 (.int (.negSucc 0) 350), de P "DROPPED_SIGN" 354 (.int (.negSucc 1) 353), de P "TransTable" 393 (.ref 125), de P "guarded_at" 402 (.ref 136), de P "trans_signs" 412 (.ref 143), de P "trans_codes" 426 (.ref 150), de P "plain_table" 438 (.ref 157), de P "sorted_once" 447 (.ref 164), de P "make_trans" 460 (.ref 171), de P "rank_outside" 471 (.ref 178), de P "turned_code" 480 (.ref 185), de P "trans_code" 488 (.ref 192), de P "run_trans" 501 (.ref 199), de P "trans_text" 512 (.ref 206)]) 34), #[]⟩
noncomputable def o68 : Obj := ⟨.none, none, (.fields (List.toArray [(.int (.ofNat 2) 0), (.int (.ofNat 0) 0), (.ref 20), (.int (.ofNat 7) 0), (.int (.ofNat 0) 0), (.ref 40), (.int (.ofNat 12) 0), (.int (.ofNat 0) 0), (.ref 59), (.int (.ofNat 21) 0), (.int (.ofNat 0) 0), (.ref 79), (.int (.ofNat 31) 0), (.int (.ofNat 0) 0), (.ref 86), (.int (.ofNat 35) 0), (.int (.ofNat 0) 0), (.ref 93), (.int (.ofNat 41) 0), (.int (.ofNat 0) 0), (.ref 100), (.int (.ofNat 64) 0), (.int (.ofNat 0) 0), (.ref 107), (.int (.ofNat 71) 0), (.int (.ofNat 0) 0), (.ref 114), (.int (.ofNat 80) 0), (.int (.ofNat 0) 0), (.ref 135), (.int (.ofNat 85) 0), (.int (.ofNat 0) 0), (.ref 142), (.int (.ofNat 96) 0), (.int (.ofNat 0) 0), (.ref 149), (.int (.ofNat 114) 0), (.int (.ofNat 0) 0), (.ref 156), (.int (.ofNat 129) 0), (.int (.ofNat 0) 0), (.ref 163), (.int (.ofNat 135) 0), (.int (.ofNat 0) 0), (.ref 170), (.int (.ofNat 142) 0), (.int (.ofNat 0) 0), (.ref 177), (.int (.ofNat 153) 0), (.int (.ofNat 0) 0), (.ref 184), (.int (.ofNat 164) 0), (.int (.ofNat 0) 0), (.ref 191), (.int (.ofNat 168) 0), (.int (.ofNat 0) 0), (.ref 198), (.int (.ofNat 184) 0), (.int (.ofNat 0) 0), (.ref 205)])), #[]⟩
noncomputable def o69 : Obj := ⟨(.type "tuple"), none, (.seq #[] 0), #[]⟩
noncomputable def o70 : Obj := ⟨.none, none, (.fields #[]), #[]⟩
noncomputable def o71 : Obj := ⟨(.type "tuple"), none, (.seq (List.toArray [(.str (.ofString "text") 300), (.str (.ofString "at") 301), (.str (.ofString "most") 302), (.str (.ofString "base") 303), (.str (.ofString "value") 304), (.str (.ofString "end") 305), (.str (.ofString "digit") 306)]) 0), #[]⟩
noncomputable def o72 : Obj := ⟨(.type "tuple"), none, (.seq #[] 0), #[]⟩
noncomputable def o73 : Obj := ⟨.none, none, (.func ⟨(.ofString "digits_value"), (.ofString "digits_value"), dPar (sOf 8), .stmts (dBody (sOf 8)), dScope (sOf 8), 0, [], .none, .none, .none, .none, none, .none, .none, 0⟩), #[]⟩
noncomputable def o74 : Obj := ⟨(.type "code"), none, (.fields (List.toArray [(.str (.ofString "digits_value") 297), (.str (.ofString "digits_value") 298), (.str (.ofString "/claim/cut.py") 299), (.int (.ofNat 21) 0), (.int (.ofNat 4) 0), (.int (.ofNat 0) 0), (.int (.ofNat 0) 0), (.int (.ofNat 3) 0), (.ref 74), (.bool true), (.int (.ofNat 181) 0), (.ref 75), .none, (.ref 76), (.ref 77), (.ref 78), (.int (.ofNat 307) 0), (.int (.ofNat 21) 0), (.str (.ofString "/claim/cut.py") 308)])), #[]⟩
noncomputable def o75 : Obj := ⟨(.type "function"), none, (.func ⟨(.ofString "digits_value"), (.ofString "digits_value"), dPar (sOf 8), .stmts (dBody (sOf 8)), dScope (sOf 8), 3, [], .none, .none, .none, (.str (.ofString "perlcore.quotes") 269), none, (.ref 79), .none, 0⟩), #[]⟩
noncomputable def o76 : Obj := ⟨(.type "tuple"), none, (.seq #[] 0), #[]⟩
noncomputable def o77 : Obj := ⟨.none, none, (.fields #[]), #[]⟩
noncomputable def o78 : Obj := ⟨(.type "tuple"), none, (.seq (List.toArray [(.str (.ofString "code") 313)]) 0), #[]⟩
noncomputable def o79 : Obj := ⟨(.type "tuple"), none, (.seq #[] 0), #[]⟩
noncomputable def o80 : Obj := ⟨.none, none, (.func ⟨(.ofString "coded_sign"), (.ofString "coded_sign"), dPar (sOf 9), .stmts (dBody (sOf 9)), dScope (sOf 9), 0, [], .none, .none, .none, .none, none, .none, .none, 0⟩), #[]⟩
noncomputable def o81 : Obj := ⟨(.type "code"), none, (.fields (List.toArray [(.str (.ofString "coded_sign") 310), (.str (.ofString "coded_sign") 311), (.str (.ofString "/claim/cut.py") 312), (.int (.ofNat 31) 0), (.int (.ofNat 1) 0), (.int (.ofNat 0) 0), (.int (.ofNat 0) 0), (.int (.ofNat 3) 0), (.ref 81), (.bool true), (.int (.ofNat 181) 0), (.ref 82), .none, (.ref 83), (.ref 84), (.ref 85), (.int (.ofNat 314) 0), (.int (.ofNat 31) 0), (.str (.ofString "/claim/cut.py") 315)])), #[]⟩
noncomputable def o82 : Obj := ⟨(.type "function"), none, (.func ⟨(.ofString "coded_sign"), (.ofString "coded_sign"), dPar (sOf 9), .stmts (dBody (sOf 9)), dScope (sOf 9), 3, [], .none, .none, .none, (.str (.ofString "perlcore.quotes") 269), none, (.ref 86), .none, 0⟩), #[]⟩
noncomputable def o83 : Obj := ⟨(.type "tuple"), none, (.seq #[] 0), #[]⟩
noncomputable def o84 : Obj := ⟨.none, none, (.fields #[]), #[]⟩
noncomputable def o85 : Obj := ⟨(.type "tuple"), none, (.seq (List.toArray [(.str (.ofString "text") 320), (.str (.ofString "at") 321), (.str (.ofString "base") 322), (.str (.ofString "end") 323), (.str (.ofString "value") 324), (.str (.ofString "behind") 325)]) 0), #[]⟩
noncomputable def o86 : Obj := ⟨(.type "tuple"), none, (.seq #[] 0), #[]⟩
noncomputable def o87 : Obj := ⟨.none, none, (.func ⟨(.ofString "braced_code"), (.ofString "braced_code"), dPar (sOf 10), .stmts (dBody (sOf 10)), dScope (sOf 10), 0, [], .none, .none, .none, .none, none, .none, .none, 0⟩), #[]⟩
noncomputable def o88 : Obj := ⟨(.type "code"), none, (.fields (List.toArray [(.str (.ofString "braced_code") 317), (.str (.ofString "braced_code") 318), (.str (.ofString "/claim/cut.py") 319), (.int (.ofNat 35) 0), (.int (.ofNat 3) 0), (.int (.ofNat 0) 0), (.int (.ofNat 0) 0), (.int (.ofNat 3) 0), (.ref 88), (.bool true), (.int (.ofNat 181) 0), (.ref 89), .none, (.ref 90), (.ref 91), (.ref 92), (.int (.ofNat 326) 0), (.int (.ofNat 35) 0), (.str (.ofString "/claim/cut.py") 327)])), #[]⟩
noncomputable def o89 : Obj := ⟨(.type "function"), none, (.func ⟨(.ofString "braced_code"), (.ofString "braced_code"), dPar (sOf 10), .stmts (dBody (sOf 10)), dScope (sOf 10), 3, [], .none, .none, .none, (.str (.ofString "perlcore.quotes") 269), none, (.ref 93), .none, 0⟩), #[]⟩
noncomputable def o90 : Obj := ⟨(.type "tuple"), none, (.seq #[] 0), #[]⟩
noncomputable def o91 : Obj := ⟨.none, none, (.fields #[]), #[]⟩
noncomputable def o92 : Obj := ⟨(.type "tuple"), none, (.seq (List.toArray [(.str (.ofString "text") 332), (.str (.ofString "at") 333), (.str (.ofString "sign") 334), (.str (.ofString "value") 335), (.str (.ofString "end") 336)]) 0), #[]⟩
noncomputable def o93 : Obj := ⟨(.type "tuple"), none, (.seq #[] 0), #[]⟩
noncomputable def o94 : Obj := ⟨.none, none, (.func ⟨(.ofString "escape_at"), (.ofString "escape_at"), dPar (sOf 11), .stmts (dBody (sOf 11)), dScope (sOf 11), 0, [], .none, .none, .none, .none, none, .none, .none, 0⟩), #[]⟩
noncomputable def o95 : Obj := ⟨(.type "code"), none, (.fields (List.toArray [(.str (.ofString "escape_at") 329), (.str (.ofString "escape_at") 330), (.str (.ofString "/claim/cut.py") 331), (.int (.ofNat 41) 0), (.int (.ofNat 2) 0), (.int (.ofNat 0) 0), (.int (.ofNat 0) 0), (.int (.ofNat 3) 0), (.ref 95), (.bool true), (.int (.ofNat 181) 0), (.ref 96), .none, (.ref 97), (.ref 98), (.ref 99), (.int (.ofNat 337) 0), (.int (.ofNat 41) 0), (.str (.ofString "/claim/cut.py") 338)])), #[]⟩
noncomputable def o96 : Obj := ⟨(.type "function"), none, (.func ⟨(.ofString "escape_at"), (.ofString "escape_at"), dPar (sOf 11), .stmts (dBody (sOf 11)), dScope (sOf 11), 3, [], .none, .none, .none, (.str (.ofString "perlcore.quotes") 269), none, (.ref 100), .none, 0⟩), #[]⟩
noncomputable def o97 : Obj := ⟨(.type "tuple"), none, (.seq #[] 0), #[]⟩
noncomputable def o98 : Obj := ⟨.none, none, (.fields #[]), #[]⟩
noncomputable def o99 : Obj := ⟨(.type "tuple"), none, (.seq (List.toArray [(.str (.ofString "sign") 343)]) 0), #[]⟩
noncomputable def o100 : Obj := ⟨(.type "tuple"), none, (.seq #[] 0), #[]⟩
noncomputable def o101 : Obj := ⟨.none, none, (.func ⟨(.ofString "great_letter"), (.ofString "great_letter"), dPar (sOf 12), .stmts (dBody (sOf 12)), dScope (sOf 12), 0, [], .none, .none, .none, .none, none, .none, .none, 0⟩), #[]⟩
noncomputable def o102 : Obj := ⟨(.type "code"), none, (.fields (List.toArray [(.str (.ofString "great_letter") 340), (.str (.ofString "great_letter") 341), (.str (.ofString "/claim/cut.py") 342), (.int (.ofNat 64) 0), (.int (.ofNat 1) 0), (.int (.ofNat 0) 0), (.int (.ofNat 0) 0), (.int (.ofNat 3) 0), (.ref 102), (.bool true), (.int (.ofNat 181) 0), (.ref 103), .none, (.ref 104), (.ref 105), (.ref 106), (.int (.ofNat 344) 0), (.int (.ofNat 64) 0), (.str (.ofString "/claim/cut.py") 345)])), #[]⟩
noncomputable def o103 : Obj := ⟨(.type "function"), none, (.func ⟨(.ofString "great_letter"), (.ofString "great_letter"), dPar (sOf 12), .stmts (dBody (sOf 12)), dScope (sOf 12), 3, [], .none, .none, .none, (.str (.ofString "perlcore.quotes") 269), none, (.ref 107), .none, 0⟩), #[]⟩
noncomputable def o104 : Obj := ⟨(.type "tuple"), none, (.seq #[] 0), #[]⟩
noncomputable def o105 : Obj := ⟨(.type "builtin_function_or_method"), none, (.fields (List.toArray [(.builtin "type.__prepare__"), (.type "type")])), #[]⟩
noncomputable def o106 (P : Params) : Obj := ⟨(.type "dict"), none, (.dict (List.toArray [de P "__module__" 362 (.str (.ofString "perlcore.trans") 347), de P "__qualname__" 364 (.str (.ofString "TransTable") 363), de P "__firstlineno__" 366 (.int (.ofNat 71) 365), de P "__init__" 379 (.ref 122), de P "__static_attributes__" 386 (.ref 123)]) 5), #[]⟩
noncomputable def o107 : Obj := ⟨(.type "tuple"), none, (.seq #[] 0), #[]⟩
noncomputable def o108 : Obj := ⟨.none, none, (.fields (List.toArray [(.int (.ofNat 73) 0), (.int (.ofNat 4) 0), (.ref 121)])), #[]⟩
noncomputable def o109 : Obj := ⟨(.type "code"), none, (.fields (List.toArray [(.str (.ofString "TransTable") 357), (.str (.ofString "TransTable") 358), (.str (.ofString "/claim/cut.py") 359), (.int (.ofNat 71) 0), (.int (.ofNat 0) 0), (.int (.ofNat 0) 0), (.int (.ofNat 0) 0), (.int (.ofNat 0) 0), (.ref 112), (.bool false), (.int (.ofNat 181) 0), (.ref 113), .none, .none, .none, .none, (.int (.ofNat 360) 0), (.int (.ofNat 71) 0), (.str (.ofString "/claim/cut.py") 361)])), #[]⟩
noncomputable def o110 : Obj := ⟨(.type "frame"), none, .plain, (List.toArray [(some (.ref 114)), (some (.ref 3)), (some (.ref 111)), none, (some (.str (.ofString "perlcore.trans") 347)), none, (some (.ref 0))])⟩
noncomputable def o111 : Obj := ⟨(.type "tuple"), none, (.seq #[] 0), #[]⟩
noncomputable def o112 : Obj := ⟨.none, none, (.fields #[]), #[]⟩
noncomputable def o113 : Obj := ⟨(.type "tuple"), none, (.seq (List.toArray [(.str (.ofString "self") 370), (.str (.ofString "codes") 371), (.str (.ofString "is_turned") 372), (.str (.ofString "barred") 373), (.str (.ofString "becomes") 374), (.str (.ofString "is_deleting") 375), (.str (.ofString "is_squeezing") 376)]) 0), #[]⟩
noncomputable def o114 : Obj := ⟨(.type "tuple"), none, (.seq #[] 0), #[]⟩
noncomputable def o115 : Obj := ⟨.none, none, (.func ⟨(.ofString "__init__"), (.ofString "TransTable.__init__"), dPar (inCls (sOf 16) 0), .stmts (dBody (inCls (sOf 16) 0)), dScope (inCls (sOf 16) 0), 0, [], .none, .none, .none, .none, none, .none, .none, 0⟩), #[]⟩
noncomputable def o116 : Obj := ⟨(.type "code"), none, (.fields (List.toArray [(.str (.ofString "__init__") 367), (.str (.ofString "TransTable.__init__") 368), (.str (.ofString "/claim/cut.py") 369), (.int (.ofNat 73) 0), (.int (.ofNat 7) 0), (.int (.ofNat 0) 0), (.int (.ofNat 0) 0), (.int (.ofNat 3) 0), (.ref 116), (.bool true), (.int (.ofNat 181) 0), (.ref 117), .none, (.ref 118), (.ref 119), (.ref 120), (.int (.ofNat 377) 0), (.int (.ofNat 73) 0), (.str (.ofString "/claim/cut.py") 378)])), #[]⟩
noncomputable def o117 : Obj := ⟨(.type "function"), none, (.func ⟨(.ofString "__init__"), (.ofString "TransTable.__init__"), dPar (inCls (sOf 16) 0), .stmts (dBody (inCls (sOf 16) 0)), dScope (inCls (sOf 16) 0), 3, [], .none, .none, .none, (.str (.ofString "perlcore.trans") 347), none, (.ref 121), .none, 0⟩), #[]⟩
noncomputable def o118 : Obj := ⟨(.type "tuple"), none, (.seq (List.toArray [(.str (.ofString "barred") 380), (.str (.ofString "becomes") 381), (.str (.ofString "codes") 382), (.str (.ofString "is_deleting") 383), (.str (.ofString "is_squeezing") 384), (.str (.ofString "is_turned") 385)]) 0), #[]⟩
noncomputable def o119 (P : Params) : Obj := ⟨(.type "dict"), none, (.dict (List.toArray [de P "__module__" 362 (.str (.ofString "perlcore.trans") 347), de P "__firstlineno__" 366 (.int (.ofNat 71) 365), de P "__init__" 379 (.ref 122), de P "__static_attributes__" 386 (.ref 123), de P "__dict__" 388 (.ref 126), de P "__weakref__" 390 (.ref 127), de P "__doc__" 391 .none]) 4), #[]⟩
noncomputable def o120 : Obj := ⟨(.type "type"), none, (.cls ⟨(.ofString "TransTable"), [(.type "object")], [(.ref 125), (.type "object")], 124, (.ofString "TransTable"), true, [], [], false, none, false⟩), (List.toArray [none, none, (some (.str (.ofString "TransTable") 355)), (some (.str (.ofString "TransTable") 363)), (some (.builtin "object.__new__")), (some (.bool true))])⟩
noncomputable def o121 : Obj := ⟨(.type "getset_descriptor"), none, (.fields (List.toArray [(.str (.ofString "__dict__") 387), (.ref 125), (.builtin "function.__dict__"), (.builtin "function.__dict__#set")])), #[]⟩
noncomputable def o122 : Obj := ⟨(.type "getset_descriptor"), none, (.fields (List.toArray [(.str (.ofString "__weakref__") 389), (.ref 125), (.builtin "ExceptionGroup.__weakref__"), .none])), #[]⟩
noncomputable def o123 : Obj := ⟨(.type "super"), none, (.fields (List.toArray [(.ref 125), (.ref 125), (.ref 125)])), #[]⟩
noncomputable def o124 : Obj := ⟨(.type "builtin_function_or_method"), none, (.fields (List.toArray [(.builtin "object.__init_subclass__"), (.ref 125)])), #[]⟩
noncomputable def o125 : Obj := ⟨(.type "tuple"), none, (.seq #[] 0), #[]⟩
noncomputable def o126 : Obj := ⟨.none, none, (.fields #[]), #[]⟩
noncomputable def o127 : Obj := ⟨(.type "tuple"), none, (.seq (List.toArray [(.str (.ofString "text") 397), (.str (.ofString "at") 398), (.str (.ofString "fault") 399)]) 0), #[]⟩
noncomputable def o128 : Obj := ⟨(.type "tuple"), none, (.seq #[] 0), #[]⟩
noncomputable def o129 : Obj := ⟨.none, none, (.func ⟨(.ofString "guarded_at"), (.ofString "guarded_at"), dPar (sOf 17), .stmts (dBody (sOf 17)), dScope (sOf 17), 0, [], .none, .none, .none, .none, none, .none, .none, 0⟩), #[]⟩
noncomputable def o130 : Obj := ⟨(.type "code"), none, (.fields (List.toArray [(.str (.ofString "guarded_at") 394), (.str (.ofString "guarded_at") 395), (.str (.ofString "/claim/cut.py") 396), (.int (.ofNat 80) 0), (.int (.ofNat 2) 0), (.int (.ofNat 0) 0), (.int (.ofNat 0) 0), (.int (.ofNat 3) 0), (.ref 130), (.bool true), (.int (.ofNat 181) 0), (.ref 131), .none, (.ref 132), (.ref 133), (.ref 134), (.int (.ofNat 400) 0), (.int (.ofNat 80) 0), (.str (.ofString "/claim/cut.py") 401)])), #[]⟩
noncomputable def o131 : Obj := ⟨(.type "function"), none, (.func ⟨(.ofString "guarded_at"), (.ofString "guarded_at"), dPar (sOf 17), .stmts (dBody (sOf 17)), dScope (sOf 17), 3, [], .none, .none, .none, (.str (.ofString "perlcore.trans") 347), none, (.ref 135), .none, 0⟩), #[]⟩
noncomputable def o132 : Obj := ⟨(.type "tuple"), none, (.seq #[] 0), #[]⟩
noncomputable def o133 : Obj := ⟨.none, none, (.fields #[]), #[]⟩
noncomputable def o134 : Obj := ⟨(.type "tuple"), none, (.seq (List.toArray [(.str (.ofString "text") 406), (.str (.ofString "found") 407), (.str (.ofString "at") 408), (.str (.ofString "sign") 409)]) 0), #[]⟩
noncomputable def o135 : Obj := ⟨(.type "tuple"), none, (.seq #[] 0), #[]⟩
noncomputable def o136 : Obj := ⟨.none, none, (.func ⟨(.ofString "trans_signs"), (.ofString "trans_signs"), dPar (sOf 18), .stmts (dBody (sOf 18)), dScope (sOf 18), 0, [], .none, .none, .none, .none, none, .none, .none, 0⟩), #[]⟩
noncomputable def o137 : Obj := ⟨(.type "code"), none, (.fields (List.toArray [(.str (.ofString "trans_signs") 403), (.str (.ofString "trans_signs") 404), (.str (.ofString "/claim/cut.py") 405), (.int (.ofNat 85) 0), (.int (.ofNat 1) 0), (.int (.ofNat 0) 0), (.int (.ofNat 0) 0), (.int (.ofNat 3) 0), (.ref 137), (.bool true), (.int (.ofNat 181) 0), (.ref 138), .none, (.ref 139), (.ref 140), (.ref 141), (.int (.ofNat 410) 0), (.int (.ofNat 85) 0), (.str (.ofString "/claim/cut.py") 411)])), #[]⟩
noncomputable def o138 : Obj := ⟨(.type "function"), none, (.func ⟨(.ofString "trans_signs"), (.ofString "trans_signs"), dPar (sOf 18), .stmts (dBody (sOf 18)), dScope (sOf 18), 3, [], .none, .none, .none, (.str (.ofString "perlcore.trans") 347), none, (.ref 142), .none, 0⟩), #[]⟩
noncomputable def o139 : Obj := ⟨(.type "tuple"), none, (.seq #[] 0), #[]⟩
noncomputable def o140 : Obj := ⟨.none, none, (.fields #[]), #[]⟩
noncomputable def o141 : Obj := ⟨(.type "tuple"), none, (.seq (List.toArray [(.str (.ofString "text") 416), (.str (.ofString "most") 417), (.str (.ofString "signs") 418), (.str (.ofString "found") 419), (.str (.ofString "at") 420), (.str (.ofString "code") 421), (.str (.ofString "last") 422), (.str (.ofString "one") 423)]) 0), #[]⟩
noncomputable def o142 : Obj := ⟨(.type "tuple"), none, (.seq #[] 0), #[]⟩
noncomputable def o143 : Obj := ⟨.none, none, (.func ⟨(.ofString "trans_codes"), (.ofString "trans_codes"), dPar (sOf 19), .stmts (dBody (sOf 19)), dScope (sOf 19), 0, [], .none, .none, .none, .none, none, .none, .none, 0⟩), #[]⟩
noncomputable def o144 : Obj := ⟨(.type "code"), none, (.fields (List.toArray [(.str (.ofString "trans_codes") 413), (.str (.ofString "trans_codes") 414), (.str (.ofString "/claim/cut.py") 415), (.int (.ofNat 96) 0), (.int (.ofNat 2) 0), (.int (.ofNat 0) 0), (.int (.ofNat 0) 0), (.int (.ofNat 3) 0), (.ref 144), (.bool true), (.int (.ofNat 181) 0), (.ref 145), .none, (.ref 146), (.ref 147), (.ref 148), (.int (.ofNat 424) 0), (.int (.ofNat 96) 0), (.str (.ofString "/claim/cut.py") 425)])), #[]⟩
noncomputable def o145 : Obj := ⟨(.type "function"), none, (.func ⟨(.ofString "trans_codes"), (.ofString "trans_codes"), dPar (sOf 19), .stmts (dBody (sOf 19)), dScope (sOf 19), 3, [], .none, .none, .none, (.str (.ofString "perlcore.trans") 347), none, (.ref 149), .none, 0⟩), #[]⟩
noncomputable def o146 : Obj := ⟨(.type "tuple"), none, (.seq #[] 0), #[]⟩
noncomputable def o147 : Obj := ⟨.none, none, (.fields #[]), #[]⟩
noncomputable def o148 : Obj := ⟨(.type "tuple"), none, (.seq (List.toArray [(.str (.ofString "sources") 430), (.str (.ofString "becomes") 431), (.str (.ofString "is_deleting") 432), (.str (.ofString "codes") 433), (.str (.ofString "place") 434), (.str (.ofString "code") 435)]) 0), #[]⟩
noncomputable def o149 : Obj := ⟨(.type "tuple"), none, (.seq #[] 0), #[]⟩
noncomputable def o150 : Obj := ⟨.none, none, (.func ⟨(.ofString "plain_table"), (.ofString "plain_table"), dPar (sOf 20), .stmts (dBody (sOf 20)), dScope (sOf 20), 0, [], .none, .none, .none, .none, none, .none, .none, 0⟩), #[]⟩
noncomputable def o151 : Obj := ⟨(.type "code"), none, (.fields (List.toArray [(.str (.ofString "plain_table") 427), (.str (.ofString "plain_table") 428), (.str (.ofString "/claim/cut.py") 429), (.int (.ofNat 114) 0), (.int (.ofNat 3) 0), (.int (.ofNat 0) 0), (.int (.ofNat 0) 0), (.int (.ofNat 3) 0), (.ref 151), (.bool true), (.int (.ofNat 181) 0), (.ref 152), .none, (.ref 153), (.ref 154), (.ref 155), (.int (.ofNat 436) 0), (.int (.ofNat 114) 0), (.str (.ofString "/claim/cut.py") 437)])), #[]⟩
noncomputable def o152 : Obj := ⟨(.type "function"), none, (.func ⟨(.ofString "plain_table"), (.ofString "plain_table"), dPar (sOf 20), .stmts (dBody (sOf 20)), dScope (sOf 20), 3, [], .none, .none, .none, (.str (.ofString "perlcore.trans") 347), none, (.ref 156), .none, 0⟩), #[]⟩
noncomputable def o153 : Obj := ⟨(.type "tuple"), none, (.seq #[] 0), #[]⟩
noncomputable def o154 : Obj := ⟨.none, none, (.fields #[]), #[]⟩
noncomputable def o155 : Obj := ⟨(.type "tuple"), none, (.seq (List.toArray [(.str (.ofString "codes") 442), (.str (.ofString "found") 443), (.str (.ofString "code") 444)]) 0), #[]⟩
noncomputable def o156 : Obj := ⟨(.type "tuple"), none, (.seq #[] 0), #[]⟩
noncomputable def o157 : Obj := ⟨.none, none, (.func ⟨(.ofString "sorted_once"), (.ofString "sorted_once"), dPar (sOf 21), .stmts (dBody (sOf 21)), dScope (sOf 21), 0, [], .none, .none, .none, .none, none, .none, .none, 0⟩), #[]⟩
noncomputable def o158 : Obj := ⟨(.type "code"), none, (.fields (List.toArray [(.str (.ofString "sorted_once") 439), (.str (.ofString "sorted_once") 440), (.str (.ofString "/claim/cut.py") 441), (.int (.ofNat 129) 0), (.int (.ofNat 1) 0), (.int (.ofNat 0) 0), (.int (.ofNat 0) 0), (.int (.ofNat 3) 0), (.ref 158), (.bool true), (.int (.ofNat 181) 0), (.ref 159), .none, (.ref 160), (.ref 161), (.ref 162), (.int (.ofNat 445) 0), (.int (.ofNat 129) 0), (.str (.ofString "/claim/cut.py") 446)])), #[]⟩
noncomputable def o159 : Obj := ⟨(.type "function"), none, (.func ⟨(.ofString "sorted_once"), (.ofString "sorted_once"), dPar (sOf 21), .stmts (dBody (sOf 21)), dScope (sOf 21), 3, [], .none, .none, .none, (.str (.ofString "perlcore.trans") 347), none, (.ref 163), .none, 0⟩), #[]⟩
noncomputable def o160 : Obj := ⟨(.type "tuple"), none, (.seq #[] 0), #[]⟩
noncomputable def o161 : Obj := ⟨.none, none, (.fields #[]), #[]⟩
noncomputable def o162 : Obj := ⟨(.type "tuple"), none, (.seq (List.toArray [(.str (.ofString "source") 451), (.str (.ofString "target") 452), (.str (.ofString "flags") 453), (.str (.ofString "most") 454), (.str (.ofString "sources") 455), (.str (.ofString "becomes") 456), (.str (.ofString "is_deleting") 457)]) 0), #[]⟩
noncomputable def o163 : Obj := ⟨(.type "tuple"), none, (.seq #[] 0), #[]⟩
noncomputable def o164 : Obj := ⟨.none, none, (.func ⟨(.ofString "make_trans"), (.ofString "make_trans"), dPar (sOf 22), .stmts (dBody (sOf 22)), dScope (sOf 22), 0, [], .none, .none, .none, .none, none, .none, .none, 0⟩), #[]⟩
noncomputable def o165 : Obj := ⟨(.type "code"), none, (.fields (List.toArray [(.str (.ofString "make_trans") 448), (.str (.ofString "make_trans") 449), (.str (.ofString "/claim/cut.py") 450), (.int (.ofNat 135) 0), (.int (.ofNat 4) 0), (.int (.ofNat 0) 0), (.int (.ofNat 0) 0), (.int (.ofNat 3) 0), (.ref 165), (.bool true), (.int (.ofNat 181) 0), (.ref 166), .none, (.ref 167), (.ref 168), (.ref 169), (.int (.ofNat 458) 0), (.int (.ofNat 135) 0), (.str (.ofString "/claim/cut.py") 459)])), #[]⟩
noncomputable def o166 : Obj := ⟨(.type "function"), none, (.func ⟨(.ofString "make_trans"), (.ofString "make_trans"), dPar (sOf 22), .stmts (dBody (sOf 22)), dScope (sOf 22), 3, [], .none, .none, .none, (.str (.ofString "perlcore.trans") 347), none, (.ref 170), .none, 0⟩), #[]⟩
noncomputable def o167 : Obj := ⟨(.type "tuple"), none, (.seq #[] 0), #[]⟩
noncomputable def o168 : Obj := ⟨.none, none, (.fields #[]), #[]⟩
noncomputable def o169 : Obj := ⟨(.type "tuple"), none, (.seq (List.toArray [(.str (.ofString "barred") 464), (.str (.ofString "code") 465), (.str (.ofString "below") 466), (.str (.ofString "beyond") 467), (.str (.ofString "middle") 468)]) 0), #[]⟩
noncomputable def o170 : Obj := ⟨(.type "tuple"), none, (.seq #[] 0), #[]⟩
noncomputable def o171 : Obj := ⟨.none, none, (.func ⟨(.ofString "rank_outside"), (.ofString "rank_outside"), dPar (sOf 23), .stmts (dBody (sOf 23)), dScope (sOf 23), 0, [], .none, .none, .none, .none, none, .none, .none, 0⟩), #[]⟩
noncomputable def o172 : Obj := ⟨(.type "code"), none, (.fields (List.toArray [(.str (.ofString "rank_outside") 461), (.str (.ofString "rank_outside") 462), (.str (.ofString "/claim/cut.py") 463), (.int (.ofNat 142) 0), (.int (.ofNat 2) 0), (.int (.ofNat 0) 0), (.int (.ofNat 0) 0), (.int (.ofNat 3) 0), (.ref 172), (.bool true), (.int (.ofNat 181) 0), (.ref 173), .none, (.ref 174), (.ref 175), (.ref 176), (.int (.ofNat 469) 0), (.int (.ofNat 142) 0), (.str (.ofString "/claim/cut.py") 470)])), #[]⟩
noncomputable def o173 : Obj := ⟨(.type "function"), none, (.func ⟨(.ofString "rank_outside"), (.ofString "rank_outside"), dPar (sOf 23), .stmts (dBody (sOf 23)), dScope (sOf 23), 3, [], .none, .none, .none, (.str (.ofString "perlcore.trans") 347), none, (.ref 177), .none, 0⟩), #[]⟩
noncomputable def o174 : Obj := ⟨(.type "tuple"), none, (.seq #[] 0), #[]⟩
noncomputable def o175 : Obj := ⟨.none, none, (.fields #[]), #[]⟩
noncomputable def o176 : Obj := ⟨(.type "tuple"), none, (.seq (List.toArray [(.str (.ofString "table") 475), (.str (.ofString "code") 476), (.str (.ofString "rank") 477)]) 0), #[]⟩
noncomputable def o177 : Obj := ⟨(.type "tuple"), none, (.seq #[] 0), #[]⟩
noncomputable def o178 : Obj := ⟨.none, none, (.func ⟨(.ofString "turned_code"), (.ofString "turned_code"), dPar (sOf 24), .stmts (dBody (sOf 24)), dScope (sOf 24), 0, [], .none, .none, .none, .none, none, .none, .none, 0⟩), #[]⟩
noncomputable def o179 : Obj := ⟨(.type "code"), none, (.fields (List.toArray [(.str (.ofString "turned_code") 472), (.str (.ofString "turned_code") 473), (.str (.ofString "/claim/cut.py") 474), (.int (.ofNat 153) 0), (.int (.ofNat 2) 0), (.int (.ofNat 0) 0), (.int (.ofNat 0) 0), (.int (.ofNat 3) 0), (.ref 179), (.bool true), (.int (.ofNat 181) 0), (.ref 180), .none, (.ref 181), (.ref 182), (.ref 183), (.int (.ofNat 478) 0), (.int (.ofNat 153) 0), (.str (.ofString "/claim/cut.py") 479)])), #[]⟩
noncomputable def o180 : Obj := ⟨(.type "function"), none, (.func ⟨(.ofString "turned_code"), (.ofString "turned_code"), dPar (sOf 24), .stmts (dBody (sOf 24)), dScope (sOf 24), 3, [], .none, .none, .none, (.str (.ofString "perlcore.trans") 347), none, (.ref 184), .none, 0⟩), #[]⟩
noncomputable def o181 : Obj := ⟨(.type "tuple"), none, (.seq #[] 0), #[]⟩
noncomputable def o182 : Obj := ⟨.none, none, (.fields #[]), #[]⟩
noncomputable def o183 : Obj := ⟨(.type "tuple"), none, (.seq (List.toArray [(.str (.ofString "table") 484), (.str (.ofString "code") 485)]) 0), #[]⟩
noncomputable def o184 : Obj := ⟨(.type "tuple"), none, (.seq #[] 0), #[]⟩
noncomputable def o185 : Obj := ⟨.none, none, (.func ⟨(.ofString "trans_code"), (.ofString "trans_code"), dPar (sOf 25), .stmts (dBody (sOf 25)), dScope (sOf 25), 0, [], .none, .none, .none, .none, none, .none, .none, 0⟩), #[]⟩
noncomputable def o186 : Obj := ⟨(.type "code"), none, (.fields (List.toArray [(.str (.ofString "trans_code") 481), (.str (.ofString "trans_code") 482), (.str (.ofString "/claim/cut.py") 483), (.int (.ofNat 164) 0), (.int (.ofNat 2) 0), (.int (.ofNat 0) 0), (.int (.ofNat 0) 0), (.int (.ofNat 3) 0), (.ref 186), (.bool true), (.int (.ofNat 181) 0), (.ref 187), .none, (.ref 188), (.ref 189), (.ref 190), (.int (.ofNat 486) 0), (.int (.ofNat 164) 0), (.str (.ofString "/claim/cut.py") 487)])), #[]⟩
noncomputable def o187 : Obj := ⟨(.type "function"), none, (.func ⟨(.ofString "trans_code"), (.ofString "trans_code"), dPar (sOf 25), .stmts (dBody (sOf 25)), dScope (sOf 25), 3, [], .none, .none, .none, (.str (.ofString "perlcore.trans") 347), none, (.ref 191), .none, 0⟩), #[]⟩
noncomputable def o188 : Obj := ⟨(.type "tuple"), none, (.seq #[] 0), #[]⟩
noncomputable def o189 : Obj := ⟨.none, none, (.fields #[]), #[]⟩
noncomputable def o190 : Obj := ⟨(.type "tuple"), none, (.seq (List.toArray [(.str (.ofString "table") 492), (.str (.ofString "text") 493), (.str (.ofString "out") 494), (.str (.ofString "count") 495), (.str (.ofString "last") 496), (.str (.ofString "sign") 497), (.str (.ofString "code") 498)]) 0), #[]⟩
noncomputable def o191 : Obj := ⟨(.type "tuple"), none, (.seq #[] 0), #[]⟩
noncomputable def o192 : Obj := ⟨.none, none, (.func ⟨(.ofString "run_trans"), (.ofString "run_trans"), dPar (sOf 26), .stmts (dBody (sOf 26)), dScope (sOf 26), 0, [], .none, .none, .none, .none, none, .none, .none, 0⟩), #[]⟩
noncomputable def o193 : Obj := ⟨(.type "code"), none, (.fields (List.toArray [(.str (.ofString "run_trans") 489), (.str (.ofString "run_trans") 490), (.str (.ofString "/claim/cut.py") 491), (.int (.ofNat 168) 0), (.int (.ofNat 2) 0), (.int (.ofNat 0) 0), (.int (.ofNat 0) 0), (.int (.ofNat 3) 0), (.ref 193), (.bool true), (.int (.ofNat 181) 0), (.ref 194), .none, (.ref 195), (.ref 196), (.ref 197), (.int (.ofNat 499) 0), (.int (.ofNat 168) 0), (.str (.ofString "/claim/cut.py") 500)])), #[]⟩
noncomputable def o194 : Obj := ⟨(.type "function"), none, (.func ⟨(.ofString "run_trans"), (.ofString "run_trans"), dPar (sOf 26), .stmts (dBody (sOf 26)), dScope (sOf 26), 3, [], .none, .none, .none, (.str (.ofString "perlcore.trans") 347), none, (.ref 198), .none, 0⟩), #[]⟩
noncomputable def o195 : Obj := ⟨(.type "tuple"), none, (.seq #[] 0), #[]⟩
noncomputable def o196 : Obj := ⟨.none, none, (.fields #[]), #[]⟩
noncomputable def o197 : Obj := ⟨(.type "tuple"), none, (.seq (List.toArray [(.str (.ofString "text") 505), (.str (.ofString "source") 506), (.str (.ofString "target") 507), (.str (.ofString "flags") 508), (.str (.ofString "most") 509)]) 0), #[]⟩
noncomputable def o198 : Obj := ⟨(.type "tuple"), none, (.seq #[] 0), #[]⟩
noncomputable def o199 : Obj := ⟨.none, none, (.func ⟨(.ofString "trans_text"), (.ofString "trans_text"), dPar (sOf 27), .stmts (dBody (sOf 27)), dScope (sOf 27), 0, [], .none, .none, .none, .none, none, .none, .none, 0⟩), #[]⟩
noncomputable def o200 : Obj := ⟨(.type "code"), none, (.fields (List.toArray [(.str (.ofString "trans_text") 502), (.str (.ofString "trans_text") 503), (.str (.ofString "/claim/cut.py") 504), (.int (.ofNat 184) 0), (.int (.ofNat 5) 0), (.int (.ofNat 0) 0), (.int (.ofNat 0) 0), (.int (.ofNat 3) 0), (.ref 200), (.bool true), (.int (.ofNat 181) 0), (.ref 201), .none, (.ref 202), (.ref 203), (.ref 204), (.int (.ofNat 510) 0), (.int (.ofNat 184) 0), (.str (.ofString "/claim/cut.py") 511)])), #[]⟩
noncomputable def o201 : Obj := ⟨(.type "function"), none, (.func ⟨(.ofString "trans_text"), (.ofString "trans_text"), dPar (sOf 27), .stmts (dBody (sOf 27)), dScope (sOf 27), 3, [], .none, .none, .none, (.str (.ofString "perlcore.trans") 347), none, (.ref 205), .none, 0⟩), #[]⟩
noncomputable def t3 (P : Params) : BT := (.node (boot_o_0 P) (.node (boot_o_1 P) (.node (o67 P) (.node (boot_o_7 P) (.node o7 (.node o23 (.node o55 (.node o122 .nil .nil) (.node o186 .nil .nil)) (.node o90 (.node o154 .nil .nil) .nil)) (.node o39 (.node o74 (.node o138 .nil .nil) .nil) (.node (o106 P) (.node o170 .nil .nil) .nil))) (.node o15 (.node o31 (.node o63 (.node o130 .nil .nil) (.node o194 .nil .nil)) (.node o98 (.node o162 .nil .nil) .nil)) (.node o47 (.node o82 (.node o146 .nil .nil) .nil) (.node o114 (.node o178 .nil .nil) .nil)))) (.node o0 (.node o11 (.node o27 (.node o59 (.node o126 .nil .nil) (.node o190 .nil .nil)) (.node o94 (.node o158 .nil .nil) .nil)) (.node o43 (.node o78 (.node o142 .nil .nil) .nil) (.node o110 (.node o174 .nil .nil) .nil))) (.node o19 (.node o35 (.node o70 (.node o134 .nil .nil) (.node o198 .nil .nil)) (.node o102 (.node o166 .nil .nil) .nil)) (.node o51 (.node o86 (.node o150 .nil .nil) .nil) (.node o118 (.node o182 .nil .nil) .nil))))) (.node (boot_o_5 P) (.node (boot_o_9 P) (.node (o9 P) (.node o25 (.node o57 (.node o124 .nil .nil) (.node o188 .nil .nil)) (.node o92 (.node o156 .nil .nil) .nil)) (.node o41 (.node o76 (.node o140 .nil .nil) .nil) (.node o108 (.node o172 .nil .nil) .nil))) (.node o17 (.node o33 (.node (o66 P) (.node o132 .nil .nil) (.node o196 .nil .nil)) (.node o100 (.node o164 .nil .nil) .nil)) (.node o49 (.node o84 (.node o148 .nil .nil) .nil) (.node o116 (.node o180 .nil .nil) .nil)))) (.node o2 (.node o13 (.node (o29 P) (.node (o61 P) (.node o128 .nil .nil) (.node o192 .nil .nil)) (.node o96 (.node o160 .nil .nil) .nil)) (.node o45 (.node o80 (.node o144 .nil .nil) .nil) (.node o112 (.node o176 .nil .nil) .nil))) (.node o21 (.node o37 (.node o72 (.node o136 .nil .nil) (.node o200 .nil .nil)) (.node o104 (.node o168 .nil .nil) .nil)) (.node o53 (.node o88 (.node o152 .nil .nil) .nil) (.node o120 (.node o184 .nil .nil) .nil)))))) (.node (o4 P) (.node (boot_o_4 P) (.node (boot_o_8 P) (.node o8 (.node o24 (.node o56 (.node o123 .nil .nil) (.node o187 .nil .nil)) (.node o91 (.node o155 .nil .nil) .nil)) (.node o40 (.node o75 (.node o139 .nil .nil) .nil) (.node o107 (.node o171 .nil .nil) .nil))) (.node o16 (.node o32 (.node o64 (.node o131 .nil .nil) (.node o195 .nil .nil)) (.node o99 (.node o163 .nil .nil) .nil)) (.node (o48 P) (.node o83 (.node o147 .nil .nil) .nil) (.node o115 (.node o179 .nil .nil) .nil)))) (.node o68 (.node o12 (.node o28 (.node o60 (.node o127 .nil .nil) (.node o191 .nil .nil)) (.node o95 (.node o159 .nil .nil) .nil)) (.node o44 (.node o79 (.node o143 .nil .nil) .nil) (.node o111 (.node o175 .nil .nil) .nil))) (.node o20 (.node o36 (.node o71 (.node o135 .nil .nil) (.node o199 .nil .nil)) (.node o103 (.node o167 .nil .nil) .nil)) (.node o52 (.node o87 (.node o151 .nil .nil) .nil) (.node (o119 P) (.node o183 .nil .nil) .nil))))) (.node (boot_o_6 P) (.node (boot_o_10 P) (.node o10 (.node o26 (.node o58 (.node o125 .nil .nil) (.node o189 .nil .nil)) (.node o93 (.node o157 .nil .nil) .nil)) (.node (o42 P) (.node o77 (.node o141 .nil .nil) .nil) (.node o109 (.node o173 .nil .nil) .nil))) (.node o18 (.node o34 (.node o69 (.node o133 .nil .nil) (.node o197 .nil .nil)) (.node o101 (.node o165 .nil .nil) .nil)) (.node o50 (.node o85 (.node o149 .nil .nil) .nil) (.node o117 (.node o181 .nil .nil) .nil)))) (.node o3 (.node o14 (.node o30 (.node o62 (.node o129 .nil .nil) (.node o193 .nil .nil)) (.node o97 (.node o161 .nil .nil) .nil)) (.node o46 (.node o81 (.node o145 .nil .nil) .nil) (.node o113 (.node o177 .nil .nil) .nil))) (.node (o22 P) (.node o38 (.node o73 (.node o137 .nil .nil) (.node o201 .nil .nil)) (.node o105 (.node o169 .nil .nil) .nil)) (.node o54 (.node o89 (.node o153 .nil .nil) .nil) (.node o121 (.node o185 .nil .nil) .nil)))))))
noncomputable def o202 (P : Params) : Obj := ⟨(.type "dict"), none, (.dict (List.toArray [de P "__name__" 165 (.str (.ofString "perlcore.values") 602), de P "__doc__" 166 .none, de P "__package__" 167 .none, de P "__loader__" 168 (.builtin "__main__.__loader__#opaque"), de P "__spec__" 169 .none, de P "__annotations__" 170 (.ref 6), de P "__builtins__" 171 (.ref 4), de P "__file__" 173 (.str (.ofString "/claim/cut.py") 172), de P "__cached__" 174 .none, de P "PerlError" 217 (.ref 31), de P "Die" 242 (.ref 51), de P "SyntaxDie" 268 (.ref 70), de P "SHORT_ESCAPES" 292 (.ref 73), de P "CODE_FIGURES" 294 (.str (.ofString "0123456789abcdef") 293), de P "TOP_CODE" 296 (.int (.ofNat 1114111) 295), de P "digits_value" 309 (.ref 80), de P "coded_sign" 316 (.ref 87), de P "braced_code" 328 (.ref 94), de P "escape_at" 339 (.ref 101), de P "great_letter" 346 (.ref 108), de P "KEPT_SIGN" 351 (.int (.negSucc 0) 350), de P "DROPPED_SIGN" 354 (.int (.negSucc 1) 353), de P "TransTable" 393 (.ref 125), de P "guarded_at" 402 (.ref 136), de P "trans_signs" 412 (.ref 143), de P "trans_codes" 426 (.ref 150), de P "plain_table" 438 (.ref 157), de P "sorted_once" 447 (.ref 164), de P "make_trans" 460 (.ref 171), de P "rank_outside" 471 (.ref 178), de P "turned_code" 480 (.ref 185), de P "trans_code" 488 (.ref 192), de P "run_trans" 501 (.ref 199), de P "trans_text" 512 (.ref 206), de P "FIGURES" 516 (.str (.ofString "0123456789") 515), de P "SPACES" 518 (.str (.ofString " \t\n\x0d\x0c\x0b") 517), de P "wrap_number" 526 (.ref 213), de P "shift_up" 535 (.ref 220), de P "shift_down" 544 (.ref 227), de P "and_numbers" 553 (.ref 234), de P "or_numbers" 562 (.ref 241), de P "xor_numbers" 571 (.ref 248), de P "number_head" 581 (.ref 255), de P "numeric_text" 593 (.ref 262), de P "number_text" 601 (.ref 269), de P "HEX_FIGURES" 605 (.str (.ofString "0123456789abcdef") 604), de P "Thing" 639 (.ref 286)]) 47), #[]⟩
noncomputable def o203 : Obj := ⟨.none, none, (.fields (List.toArray [(.int (.ofNat 2) 0), (.int (.ofNat 0) 0), (.ref 20), (.int (.ofNat 7) 0), (.int (.ofNat 0) 0), (.ref 40), (.int (.ofNat 12) 0), (.int (.ofNat 0) 0), (.ref 59), (.int (.ofNat 21) 0), (.int (.ofNat 0) 0), (.ref 79), (.int (.ofNat 31) 0), (.int (.ofNat 0) 0), (.ref 86), (.int (.ofNat 35) 0), (.int (.ofNat 0) 0), (.ref 93), (.int (.ofNat 41) 0), (.int (.ofNat 0) 0), (.ref 100), (.int (.ofNat 64) 0), (.int (.ofNat 0) 0), (.ref 107), (.int (.ofNat 71) 0), (.int (.ofNat 0) 0), (.ref 114), (.int (.ofNat 80) 0), (.int (.ofNat 0) 0), (.ref 135), (.int (.ofNat 85) 0), (.int (.ofNat 0) 0), (.ref 142), (.int (.ofNat 96) 0), (.int (.ofNat 0) 0), (.ref 149), (.int (.ofNat 114) 0), (.int (.ofNat 0) 0), (.ref 156), (.int (.ofNat 129) 0), (.int (.ofNat 0) 0), (.ref 163), (.int (.ofNat 135) 0), (.int (.ofNat 0) 0), (.ref 170), (.int (.ofNat 142) 0), (.int (.ofNat 0) 0), (.ref 177), (.int (.ofNat 153) 0), (.int (.ofNat 0) 0), (.ref 184), (.int (.ofNat 164) 0), (.int (.ofNat 0) 0), (.ref 191), (.int (.ofNat 168) 0), (.int (.ofNat 0) 0), (.ref 198), (.int (.ofNat 184) 0), (.int (.ofNat 0) 0), (.ref 205), (.int (.ofNat 189) 0), (.int (.ofNat 0) 0), (.ref 212), (.int (.ofNat 194) 0), (.int (.ofNat 0) 0), (.ref 219), (.int (.ofNat 200) 0), (.int (.ofNat 0) 0), (.ref 226), (.int (.ofNat 206) 0), (.int (.ofNat 0) 0), (.ref 233), (.int (.ofNat 208) 0), (.int (.ofNat 0) 0), (.ref 240), (.int (.ofNat 210) 0), (.int (.ofNat 0) 0), (.ref 247), (.int (.ofNat 212) 0), (.int (.ofNat 0) 0), (.ref 254), (.int (.ofNat 225) 0), (.int (.ofNat 0) 0), (.ref 261), (.int (.ofNat 234) 0), (.int (.ofNat 0) 0), (.ref 268), (.int (.ofNat 244) 0), (.int (.ofNat 0) 0), (.ref 275)])), #[]⟩
noncomputable def o204 : Obj := ⟨(.type "tuple"), none, (.seq #[] 0), #[]⟩
noncomputable def o205 : Obj := ⟨.none, none, (.fields #[]), #[]⟩
noncomputable def o206 : Obj := ⟨(.type "tuple"), none, (.seq (List.toArray [(.str (.ofString "n") 522), (.str (.ofString "width") 523)]) 0), #[]⟩
noncomputable def o207 : Obj := ⟨(.type "tuple"), none, (.seq #[] 0), #[]⟩
noncomputable def o208 : Obj := ⟨.none, none, (.func ⟨(.ofString "wrap_number"), (.ofString "wrap_number"), dPar (sOf 31), .stmts (dBody (sOf 31)), dScope (sOf 31), 0, [], .none, .none, .none, .none, none, .none, .none, 0⟩), #[]⟩
noncomputable def o209 : Obj := ⟨(.type "code"), none, (.fields (List.toArray [(.str (.ofString "wrap_number") 519), (.str (.ofString "wrap_number") 520), (.str (.ofString "/claim/cut.py") 521), (.int (.ofNat 189) 0), (.int (.ofNat 2) 0), (.int (.ofNat 0) 0), (.int (.ofNat 0) 0), (.int (.ofNat 3) 0), (.ref 207), (.bool true), (.int (.ofNat 181) 0), (.ref 208), .none, (.ref 209), (.ref 210), (.ref 211), (.int (.ofNat 524) 0), (.int (.ofNat 189) 0), (.str (.ofString "/claim/cut.py") 525)])), #[]⟩
noncomputable def o210 : Obj := ⟨(.type "function"), none, (.func ⟨(.ofString "wrap_number"), (.ofString "wrap_number"), dPar (sOf 31), .stmts (dBody (sOf 31)), dScope (sOf 31), 3, [], .none, .none, .none, (.str (.ofString "perlcore.numbers") 513), none, (.ref 212), .none, 0⟩), #[]⟩
noncomputable def o211 : Obj := ⟨(.type "tuple"), none, (.seq #[] 0), #[]⟩
noncomputable def o212 : Obj := ⟨.none, none, (.fields #[]), #[]⟩
noncomputable def o213 : Obj := ⟨(.type "tuple"), none, (.seq (List.toArray [(.str (.ofString "x") 530), (.str (.ofString "n") 531), (.str (.ofString "width") 532)]) 0), #[]⟩
noncomputable def o214 : Obj := ⟨(.type "tuple"), none, (.seq #[] 0), #[]⟩
noncomputable def o215 : Obj := ⟨.none, none, (.func ⟨(.ofString "shift_up"), (.ofString "shift_up"), dPar (sOf 32), .stmts (dBody (sOf 32)), dScope (sOf 32), 0, [], .none, .none, .none, .none, none, .none, .none, 0⟩), #[]⟩
noncomputable def o216 : Obj := ⟨(.type "code"), none, (.fields (List.toArray [(.str (.ofString "shift_up") 527), (.str (.ofString "shift_up") 528), (.str (.ofString "/claim/cut.py") 529), (.int (.ofNat 194) 0), (.int (.ofNat 3) 0), (.int (.ofNat 0) 0), (.int (.ofNat 0) 0), (.int (.ofNat 3) 0), (.ref 214), (.bool true), (.int (.ofNat 181) 0), (.ref 215), .none, (.ref 216), (.ref 217), (.ref 218), (.int (.ofNat 533) 0), (.int (.ofNat 194) 0), (.str (.ofString "/claim/cut.py") 534)])), #[]⟩
noncomputable def o217 : Obj := ⟨(.type "function"), none, (.func ⟨(.ofString "shift_up"), (.ofString "shift_up"), dPar (sOf 32), .stmts (dBody (sOf 32)), dScope (sOf 32), 3, [], .none, .none, .none, (.str (.ofString "perlcore.numbers") 513), none, (.ref 219), .none, 0⟩), #[]⟩
noncomputable def o218 : Obj := ⟨(.type "tuple"), none, (.seq #[] 0), #[]⟩
noncomputable def o219 : Obj := ⟨.none, none, (.fields #[]), #[]⟩
noncomputable def o220 : Obj := ⟨(.type "tuple"), none, (.seq (List.toArray [(.str (.ofString "x") 539), (.str (.ofString "n") 540), (.str (.ofString "width") 541)]) 0), #[]⟩
noncomputable def o221 : Obj := ⟨(.type "tuple"), none, (.seq #[] 0), #[]⟩
noncomputable def o222 : Obj := ⟨.none, none, (.func ⟨(.ofString "shift_down"), (.ofString "shift_down"), dPar (sOf 33), .stmts (dBody (sOf 33)), dScope (sOf 33), 0, [], .none, .none, .none, .none, none, .none, .none, 0⟩), #[]⟩
noncomputable def o223 : Obj := ⟨(.type "code"), none, (.fields (List.toArray [(.str (.ofString "shift_down") 536), (.str (.ofString "shift_down") 537), (.str (.ofString "/claim/cut.py") 538), (.int (.ofNat 200) 0), (.int (.ofNat 3) 0), (.int (.ofNat 0) 0), (.int (.ofNat 0) 0), (.int (.ofNat 3) 0), (.ref 221), (.bool true), (.int (.ofNat 181) 0), (.ref 222), .none, (.ref 223), (.ref 224), (.ref 225), (.int (.ofNat 542) 0), (.int (.ofNat 200) 0), (.str (.ofString "/claim/cut.py") 543)])), #[]⟩
noncomputable def o224 : Obj := ⟨(.type "function"), none, (.func ⟨(.ofString "shift_down"), (.ofString "shift_down"), dPar (sOf 33), .stmts (dBody (sOf 33)), dScope (sOf 33), 3, [], .none, .none, .none, (.str (.ofString "perlcore.numbers") 513), none, (.ref 226), .none, 0⟩), #[]⟩
noncomputable def o225 : Obj := ⟨(.type "tuple"), none, (.seq #[] 0), #[]⟩
noncomputable def o226 : Obj := ⟨.none, none, (.fields #[]), #[]⟩
noncomputable def o227 : Obj := ⟨(.type "tuple"), none, (.seq (List.toArray [(.str (.ofString "x") 548), (.str (.ofString "y") 549), (.str (.ofString "width") 550)]) 0), #[]⟩
noncomputable def o228 : Obj := ⟨(.type "tuple"), none, (.seq #[] 0), #[]⟩
noncomputable def o229 : Obj := ⟨.none, none, (.func ⟨(.ofString "and_numbers"), (.ofString "and_numbers"), dPar (sOf 34), .stmts (dBody (sOf 34)), dScope (sOf 34), 0, [], .none, .none, .none, .none, none, .none, .none, 0⟩), #[]⟩
noncomputable def o230 : Obj := ⟨(.type "code"), none, (.fields (List.toArray [(.str (.ofString "and_numbers") 545), (.str (.ofString "and_numbers") 546), (.str (.ofString "/claim/cut.py") 547), (.int (.ofNat 206) 0), (.int (.ofNat 3) 0), (.int (.ofNat 0) 0), (.int (.ofNat 0) 0), (.int (.ofNat 3) 0), (.ref 228), (.bool true), (.int (.ofNat 181) 0), (.ref 229), .none, (.ref 230), (.ref 231), (.ref 232), (.int (.ofNat 551) 0), (.int (.ofNat 206) 0), (.str (.ofString "/claim/cut.py") 552)])), #[]⟩
noncomputable def o231 : Obj := ⟨(.type "function"), none, (.func ⟨(.ofString "and_numbers"), (.ofString "and_numbers"), dPar (sOf 34), .stmts (dBody (sOf 34)), dScope (sOf 34), 3, [], .none, .none, .none, (.str (.ofString "perlcore.numbers") 513), none, (.ref 233), .none, 0⟩), #[]⟩
noncomputable def o232 : Obj := ⟨(.type "tuple"), none, (.seq #[] 0), #[]⟩
noncomputable def o233 : Obj := ⟨.none, none, (.fields #[]), #[]⟩
noncomputable def o234 : Obj := ⟨(.type "tuple"), none, (.seq (List.toArray [(.str (.ofString "x") 557), (.str (.ofString "y") 558), (.str (.ofString "width") 559)]) 0), #[]⟩
noncomputable def o235 : Obj := ⟨(.type "tuple"), none, (.seq #[] 0), #[]⟩
noncomputable def o236 : Obj := ⟨.none, none, (.func ⟨(.ofString "or_numbers"), (.ofString "or_numbers"), dPar (sOf 35), .stmts (dBody (sOf 35)), dScope (sOf 35), 0, [], .none, .none, .none, .none, none, .none, .none, 0⟩), #[]⟩
noncomputable def o237 : Obj := ⟨(.type "code"), none, (.fields (List.toArray [(.str (.ofString "or_numbers") 554), (.str (.ofString "or_numbers") 555), (.str (.ofString "/claim/cut.py") 556), (.int (.ofNat 208) 0), (.int (.ofNat 3) 0), (.int (.ofNat 0) 0), (.int (.ofNat 0) 0), (.int (.ofNat 3) 0), (.ref 235), (.bool true), (.int (.ofNat 181) 0), (.ref 236), .none, (.ref 237), (.ref 238), (.ref 239), (.int (.ofNat 560) 0), (.int (.ofNat 208) 0), (.str (.ofString "/claim/cut.py") 561)])), #[]⟩
noncomputable def o238 : Obj := ⟨(.type "function"), none, (.func ⟨(.ofString "or_numbers"), (.ofString "or_numbers"), dPar (sOf 35), .stmts (dBody (sOf 35)), dScope (sOf 35), 3, [], .none, .none, .none, (.str (.ofString "perlcore.numbers") 513), none, (.ref 240), .none, 0⟩), #[]⟩
noncomputable def o239 : Obj := ⟨(.type "tuple"), none, (.seq #[] 0), #[]⟩
noncomputable def o240 : Obj := ⟨.none, none, (.fields #[]), #[]⟩
noncomputable def o241 : Obj := ⟨(.type "tuple"), none, (.seq (List.toArray [(.str (.ofString "x") 566), (.str (.ofString "y") 567), (.str (.ofString "width") 568)]) 0), #[]⟩
noncomputable def o242 : Obj := ⟨(.type "tuple"), none, (.seq #[] 0), #[]⟩
noncomputable def o243 : Obj := ⟨.none, none, (.func ⟨(.ofString "xor_numbers"), (.ofString "xor_numbers"), dPar (sOf 36), .stmts (dBody (sOf 36)), dScope (sOf 36), 0, [], .none, .none, .none, .none, none, .none, .none, 0⟩), #[]⟩
noncomputable def o244 : Obj := ⟨(.type "code"), none, (.fields (List.toArray [(.str (.ofString "xor_numbers") 563), (.str (.ofString "xor_numbers") 564), (.str (.ofString "/claim/cut.py") 565), (.int (.ofNat 210) 0), (.int (.ofNat 3) 0), (.int (.ofNat 0) 0), (.int (.ofNat 0) 0), (.int (.ofNat 3) 0), (.ref 242), (.bool true), (.int (.ofNat 181) 0), (.ref 243), .none, (.ref 244), (.ref 245), (.ref 246), (.int (.ofNat 569) 0), (.int (.ofNat 210) 0), (.str (.ofString "/claim/cut.py") 570)])), #[]⟩
noncomputable def o245 : Obj := ⟨(.type "function"), none, (.func ⟨(.ofString "xor_numbers"), (.ofString "xor_numbers"), dPar (sOf 36), .stmts (dBody (sOf 36)), dScope (sOf 36), 3, [], .none, .none, .none, (.str (.ofString "perlcore.numbers") 513), none, (.ref 247), .none, 0⟩), #[]⟩
noncomputable def o246 : Obj := ⟨(.type "tuple"), none, (.seq #[] 0), #[]⟩
noncomputable def o247 : Obj := ⟨.none, none, (.fields #[]), #[]⟩
noncomputable def o248 : Obj := ⟨(.type "tuple"), none, (.seq (List.toArray [(.str (.ofString "text") 575), (.str (.ofString "at") 576), (.str (.ofString "end") 577), (.str (.ofString "first") 578)]) 0), #[]⟩
noncomputable def o249 : Obj := ⟨(.type "tuple"), none, (.seq #[] 0), #[]⟩
noncomputable def o250 : Obj := ⟨.none, none, (.func ⟨(.ofString "number_head"), (.ofString "number_head"), dPar (sOf 37), .stmts (dBody (sOf 37)), dScope (sOf 37), 0, [], .none, .none, .none, .none, none, .none, .none, 0⟩), #[]⟩
noncomputable def o251 : Obj := ⟨(.type "code"), none, (.fields (List.toArray [(.str (.ofString "number_head") 572), (.str (.ofString "number_head") 573), (.str (.ofString "/claim/cut.py") 574), (.int (.ofNat 212) 0), (.int (.ofNat 1) 0), (.int (.ofNat 0) 0), (.int (.ofNat 0) 0), (.int (.ofNat 3) 0), (.ref 249), (.bool true), (.int (.ofNat 181) 0), (.ref 250), .none, (.ref 251), (.ref 252), (.ref 253), (.int (.ofNat 579) 0), (.int (.ofNat 212) 0), (.str (.ofString "/claim/cut.py") 580)])), #[]⟩
noncomputable def o252 : Obj := ⟨(.type "function"), none, (.func ⟨(.ofString "number_head"), (.ofString "number_head"), dPar (sOf 37), .stmts (dBody (sOf 37)), dScope (sOf 37), 3, [], .none, .none, .none, (.str (.ofString "perlcore.numbers") 513), none, (.ref 254), .none, 0⟩), #[]⟩
noncomputable def o253 : Obj := ⟨(.type "tuple"), none, (.seq #[] 0), #[]⟩
noncomputable def o254 : Obj := ⟨.none, none, (.fields #[]), #[]⟩
noncomputable def o255 : Obj := ⟨(.type "tuple"), none, (.seq (List.toArray [(.str (.ofString "text") 585), (.str (.ofString "width") 586), (.str (.ofString "at") 587), (.str (.ofString "end") 588), (.str (.ofString "n") 589), (.str (.ofString "sign") 590)]) 0), #[]⟩
noncomputable def o256 : Obj := ⟨(.type "tuple"), none, (.seq #[] 0), #[]⟩
noncomputable def o257 : Obj := ⟨.none, none, (.func ⟨(.ofString "numeric_text"), (.ofString "numeric_text"), dPar (sOf 38), .stmts (dBody (sOf 38)), dScope (sOf 38), 0, [], .none, .none, .none, .none, none, .none, .none, 0⟩), #[]⟩
noncomputable def o258 : Obj := ⟨(.type "code"), none, (.fields (List.toArray [(.str (.ofString "numeric_text") 582), (.str (.ofString "numeric_text") 583), (.str (.ofString "/claim/cut.py") 584), (.int (.ofNat 225) 0), (.int (.ofNat 2) 0), (.int (.ofNat 0) 0), (.int (.ofNat 0) 0), (.int (.ofNat 3) 0), (.ref 256), (.bool true), (.int (.ofNat 181) 0), (.ref 257), .none, (.ref 258), (.ref 259), (.ref 260), (.int (.ofNat 591) 0), (.int (.ofNat 225) 0), (.str (.ofString "/claim/cut.py") 592)])), #[]⟩
noncomputable def o259 : Obj := ⟨(.type "function"), none, (.func ⟨(.ofString "numeric_text"), (.ofString "numeric_text"), dPar (sOf 38), .stmts (dBody (sOf 38)), dScope (sOf 38), 3, [], .none, .none, .none, (.str (.ofString "perlcore.numbers") 513), none, (.ref 261), .none, 0⟩), #[]⟩
noncomputable def o260 : Obj := ⟨(.type "tuple"), none, (.seq #[] 0), #[]⟩
noncomputable def o261 : Obj := ⟨.none, none, (.fields #[]), #[]⟩
noncomputable def o262 : Obj := ⟨(.type "tuple"), none, (.seq (List.toArray [(.str (.ofString "n") 597), (.str (.ofString "text") 598)]) 0), #[]⟩
noncomputable def o263 : Obj := ⟨(.type "tuple"), none, (.seq #[] 0), #[]⟩
noncomputable def o264 : Obj := ⟨.none, none, (.func ⟨(.ofString "number_text"), (.ofString "number_text"), dPar (sOf 39), .stmts (dBody (sOf 39)), dScope (sOf 39), 0, [], .none, .none, .none, .none, none, .none, .none, 0⟩), #[]⟩
noncomputable def o265 : Obj := ⟨(.type "code"), none, (.fields (List.toArray [(.str (.ofString "number_text") 594), (.str (.ofString "number_text") 595), (.str (.ofString "/claim/cut.py") 596), (.int (.ofNat 234) 0), (.int (.ofNat 1) 0), (.int (.ofNat 0) 0), (.int (.ofNat 0) 0), (.int (.ofNat 3) 0), (.ref 263), (.bool true), (.int (.ofNat 181) 0), (.ref 264), .none, (.ref 265), (.ref 266), (.ref 267), (.int (.ofNat 599) 0), (.int (.ofNat 234) 0), (.str (.ofString "/claim/cut.py") 600)])), #[]⟩
noncomputable def o266 : Obj := ⟨(.type "function"), none, (.func ⟨(.ofString "number_text"), (.ofString "number_text"), dPar (sOf 39), .stmts (dBody (sOf 39)), dScope (sOf 39), 3, [], .none, .none, .none, (.str (.ofString "perlcore.numbers") 513), none, (.ref 268), .none, 0⟩), #[]⟩
noncomputable def o267 : Obj := ⟨(.type "tuple"), none, (.seq #[] 0), #[]⟩
noncomputable def o268 : Obj := ⟨(.type "builtin_function_or_method"), none, (.fields (List.toArray [(.builtin "type.__prepare__"), (.type "type")])), #[]⟩
noncomputable def o269 (P : Params) : Obj := ⟨(.type "dict"), none, (.dict (List.toArray [de P "__module__" 613 (.str (.ofString "perlcore.values") 602), de P "__qualname__" 615 (.str (.ofString "Thing") 614), de P "__firstlineno__" 617 (.int (.ofNat 244) 616), de P "__init__" 625 (.ref 283), de P "__static_attributes__" 632 (.ref 284)]) 5), #[]⟩
noncomputable def o270 : Obj := ⟨(.type "tuple"), none, (.seq #[] 0), #[]⟩
noncomputable def o271 : Obj := ⟨.none, none, (.fields (List.toArray [(.int (.ofNat 246) 0), (.int (.ofNat 4) 0), (.ref 282)])), #[]⟩
noncomputable def o272 : Obj := ⟨(.type "code"), none, (.fields (List.toArray [(.str (.ofString "Thing") 608), (.str (.ofString "Thing") 609), (.str (.ofString "/claim/cut.py") 610), (.int (.ofNat 244) 0), (.int (.ofNat 0) 0), (.int (.ofNat 0) 0), (.int (.ofNat 0) 0), (.int (.ofNat 0) 0), (.ref 273), (.bool false), (.int (.ofNat 181) 0), (.ref 274), .none, .none, .none, .none, (.int (.ofNat 611) 0), (.int (.ofNat 244) 0), (.str (.ofString "/claim/cut.py") 612)])), #[]⟩
noncomputable def o273 : Obj := ⟨(.type "frame"), none, .plain, (List.toArray [(some (.ref 275)), (some (.ref 3)), (some (.ref 272)), none, (some (.str (.ofString "perlcore.values") 602)), none, (some (.ref 0))])⟩
noncomputable def o274 : Obj := ⟨(.type "tuple"), none, (.seq #[] 0), #[]⟩
noncomputable def o275 : Obj := ⟨.none, none, (.fields #[]), #[]⟩
noncomputable def o276 : Obj := ⟨(.type "tuple"), none, (.seq (List.toArray [(.str (.ofString "self") 621), (.str (.ofString "number") 622)]) 0), #[]⟩
noncomputable def o277 : Obj := ⟨(.type "tuple"), none, (.seq #[] 0), #[]⟩
noncomputable def o278 : Obj := ⟨.none, none, (.func ⟨(.ofString "__init__"), (.ofString "Thing.__init__"), dPar (inCls (sOf 42) 0), .stmts (dBody (inCls (sOf 42) 0)), dScope (inCls (sOf 42) 0), 0, [], .none, .none, .none, .none, none, .none, .none, 0⟩), #[]⟩
noncomputable def o279 : Obj := ⟨(.type "code"), none, (.fields (List.toArray [(.str (.ofString "__init__") 618), (.str (.ofString "Thing.__init__") 619), (.str (.ofString "/claim/cut.py") 620), (.int (.ofNat 246) 0), (.int (.ofNat 2) 0), (.int (.ofNat 0) 0), (.int (.ofNat 0) 0), (.int (.ofNat 3) 0), (.ref 277), (.bool true), (.int (.ofNat 181) 0), (.ref 278), .none, (.ref 279), (.ref 280), (.ref 281), (.int (.ofNat 623) 0), (.int (.ofNat 246) 0), (.str (.ofString "/claim/cut.py") 624)])), #[]⟩
noncomputable def o280 : Obj := ⟨(.type "function"), none, (.func ⟨(.ofString "__init__"), (.ofString "Thing.__init__"), dPar (inCls (sOf 42) 0), .stmts (dBody (inCls (sOf 42) 0)), dScope (inCls (sOf 42) 0), 3, [], .none, .none, .none, (.str (.ofString "perlcore.values") 602), none, (.ref 282), .none, 0⟩), #[]⟩
noncomputable def o281 : Obj := ⟨(.type "tuple"), none, (.seq (List.toArray [(.str (.ofString "blessed") 626), (.str (.ofString "count") 627), (.str (.ofString "is_destroyed") 628), (.str (.ofString "is_freed") 629), (.str (.ofString "number") 630), (.str (.ofString "weak") 631)]) 0), #[]⟩
noncomputable def o282 (P : Params) : Obj := ⟨(.type "dict"), none, (.dict (List.toArray [de P "__module__" 613 (.str (.ofString "perlcore.values") 602), de P "__firstlineno__" 617 (.int (.ofNat 244) 616), de P "__init__" 625 (.ref 283), de P "__static_attributes__" 632 (.ref 284), de P "__dict__" 634 (.ref 287), de P "__weakref__" 636 (.ref 288), de P "__doc__" 637 .none]) 4), #[]⟩
noncomputable def o283 : Obj := ⟨(.type "type"), none, (.cls ⟨(.ofString "Thing"), [(.type "object")], [(.ref 286), (.type "object")], 285, (.ofString "Thing"), true, [], [], false, none, false⟩), (List.toArray [none, none, (some (.str (.ofString "Thing") 606)), (some (.str (.ofString "Thing") 614)), (some (.builtin "object.__new__")), (some (.bool true))])⟩
noncomputable def o284 : Obj := ⟨(.type "getset_descriptor"), none, (.fields (List.toArray [(.str (.ofString "__dict__") 633), (.ref 286), (.builtin "function.__dict__"), (.builtin "function.__dict__#set")])), #[]⟩
noncomputable def o285 : Obj := ⟨(.type "getset_descriptor"), none, (.fields (List.toArray [(.str (.ofString "__weakref__") 635), (.ref 286), (.builtin "ExceptionGroup.__weakref__"), .none])), #[]⟩
noncomputable def o286 : Obj := ⟨(.type "super"), none, (.fields (List.toArray [(.ref 286), (.ref 286), (.ref 286)])), #[]⟩
noncomputable def o287 : Obj := ⟨(.type "builtin_function_or_method"), none, (.fields (List.toArray [(.builtin "object.__init_subclass__"), (.ref 286)])), #[]⟩
noncomputable def t4 (P : Params) : BT := (.node (boot_o_0 P) (.node (boot_o_1 P) (.node (o202 P) (.node (boot_o_7 P) (.node o7 (.node o23 (.node o55 (.node o122 (.node o252 .nil .nil) .nil) (.node o186 .nil .nil)) (.node o90 (.node o154 (.node o284 .nil .nil) .nil) (.node o220 .nil .nil))) (.node o39 (.node o74 (.node o138 (.node o268 .nil .nil) .nil) (.node o204 .nil .nil)) (.node (o106 P) (.node o170 .nil .nil) (.node o236 .nil .nil)))) (.node o15 (.node o31 (.node o63 (.node o130 (.node o260 .nil .nil) .nil) (.node o194 .nil .nil)) (.node o98 (.node o162 .nil .nil) (.node o228 .nil .nil))) (.node o47 (.node o82 (.node o146 (.node o276 .nil .nil) .nil) (.node o212 .nil .nil)) (.node o114 (.node o178 .nil .nil) (.node o244 .nil .nil))))) (.node o0 (.node o11 (.node o27 (.node o59 (.node o126 (.node o256 .nil .nil) .nil) (.node o190 .nil .nil)) (.node o94 (.node o158 .nil .nil) (.node o224 .nil .nil))) (.node o43 (.node o78 (.node o142 (.node o272 .nil .nil) .nil) (.node o208 .nil .nil)) (.node o110 (.node o174 .nil .nil) (.node o240 .nil .nil)))) (.node o19 (.node o35 (.node o70 (.node o134 (.node o264 .nil .nil) .nil) (.node o198 .nil .nil)) (.node o102 (.node o166 .nil .nil) (.node o232 .nil .nil))) (.node o51 (.node o86 (.node o150 (.node o280 .nil .nil) .nil) (.node o216 .nil .nil)) (.node o118 (.node o182 .nil .nil) (.node o248 .nil .nil)))))) (.node (boot_o_5 P) (.node (boot_o_9 P) (.node (o9 P) (.node o25 (.node o57 (.node o124 (.node o254 .nil .nil) .nil) (.node o188 .nil .nil)) (.node o92 (.node o156 (.node o286 .nil .nil) .nil) (.node o222 .nil .nil))) (.node o41 (.node o76 (.node o140 (.node o270 .nil .nil) .nil) (.node o206 .nil .nil)) (.node o108 (.node o172 .nil .nil) (.node o238 .nil .nil)))) (.node o17 (.node o33 (.node (o66 P) (.node o132 (.node o262 .nil .nil) .nil) (.node o196 .nil .nil)) (.node o100 (.node o164 .nil .nil) (.node o230 .nil .nil))) (.node o49 (.node o84 (.node o148 (.node o278 .nil .nil) .nil) (.node o214 .nil .nil)) (.node o116 (.node o180 .nil .nil) (.node o246 .nil .nil))))) (.node o2 (.node o13 (.node (o29 P) (.node (o61 P) (.node o128 (.node o258 .nil .nil) .nil) (.node o192 .nil .nil)) (.node o96 (.node o160 .nil .nil) (.node o226 .nil .nil))) (.node o45 (.node o80 (.node o144 (.node o274 .nil .nil) .nil) (.node o210 .nil .nil)) (.node o112 (.node o176 .nil .nil) (.node o242 .nil .nil)))) (.node o21 (.node o37 (.node o72 (.node o136 (.node o266 .nil .nil) .nil) (.node o200 .nil .nil)) (.node o104 (.node o168 .nil .nil) (.node o234 .nil .nil))) (.node o53 (.node o88 (.node o152 (.node (o282 P) .nil .nil) .nil) (.node o218 .nil .nil)) (.node o120 (.node o184 .nil .nil) (.node o250 .nil .nil))))))) (.node (o4 P) (.node (boot_o_4 P) (.node (boot_o_8 P) (.node o8 (.node o24 (.node o56 (.node o123 (.node o253 .nil .nil) .nil) (.node o187 .nil .nil)) (.node o91 (.node o155 (.node o285 .nil .nil) .nil) (.node o221 .nil .nil))) (.node o40 (.node o75 (.node o139 (.node (o269 P) .nil .nil) .nil) (.node o205 .nil .nil)) (.node o107 (.node o171 .nil .nil) (.node o237 .nil .nil)))) (.node o16 (.node o32 (.node o64 (.node o131 (.node o261 .nil .nil) .nil) (.node o195 .nil .nil)) (.node o99 (.node o163 .nil .nil) (.node o229 .nil .nil))) (.node (o48 P) (.node o83 (.node o147 (.node o277 .nil .nil) .nil) (.node o213 .nil .nil)) (.node o115 (.node o179 .nil .nil) (.node o245 .nil .nil))))) (.node o203 (.node o12 (.node o28 (.node o60 (.node o127 (.node o257 .nil .nil) .nil) (.node o191 .nil .nil)) (.node o95 (.node o159 .nil .nil) (.node o225 .nil .nil))) (.node o44 (.node o79 (.node o143 (.node o273 .nil .nil) .nil) (.node o209 .nil .nil)) (.node o111 (.node o175 .nil .nil) (.node o241 .nil .nil)))) (.node o20 (.node o36 (.node o71 (.node o135 (.node o265 .nil .nil) .nil) (.node o199 .nil .nil)) (.node o103 (.node o167 .nil .nil) (.node o233 .nil .nil))) (.node o52 (.node o87 (.node o151 (.node o281 .nil .nil) .nil) (.node o217 .nil .nil)) (.node (o119 P) (.node o183 .nil .nil) (.node o249 .nil .nil)))))) (.node (boot_o_6 P) (.node (boot_o_10 P) (.node o10 (.node o26 (.node o58 (.node o125 (.node o255 .nil .nil) .nil) (.node o189 .nil .nil)) (.node o93 (.node o157 (.node o287 .nil .nil) .nil) (.node o223 .nil .nil))) (.node (o42 P) (.node o77 (.node o141 (.node o271 .nil .nil) .nil) (.node o207 .nil .nil)) (.node o109 (.node o173 .nil .nil) (.node o239 .nil .nil)))) (.node o18 (.node o34 (.node o69 (.node o133 (.node o263 .nil .nil) .nil) (.node o197 .nil .nil)) (.node o101 (.node o165 .nil .nil) (.node o231 .nil .nil))) (.node o50 (.node o85 (.node o149 (.node o279 .nil .nil) .nil) (.node o215 .nil .nil)) (.node o117 (.node o181 .nil .nil) (.node o247 .nil .nil))))) (.node o3 (.node o14 (.node o30 (.node o62 (.node o129 (.node o259 .nil .nil) .nil) (.node o193 .nil .nil)) (.node o97 (.node o161 .nil .nil) (.node o227 .nil .nil))) (.node o46 (.node o81 (.node o145 (.node o275 .nil .nil) .nil) (.node o211 .nil .nil)) (.node o113 (.node o177 .nil .nil) (.node o243 .nil .nil)))) (.node (o22 P) (.node o38 (.node o73 (.node o137 (.node o267 .nil .nil) .nil) (.node o201 .nil .nil)) (.node o105 (.node o169 .nil .nil) (.node o235 .nil .nil))) (.node o54 (.node o89 (.node o153 (.node o283 .nil .nil) .nil) (.node o219 .nil .nil)) (.node o121 (.node o185 .nil .nil) (.node o251 .nil .nil))))))))
noncomputable def o288 (P : Params) : Obj := ⟨(.type "dict"), none, (.dict (List.toArray [de P "__name__" 165 (.str (.ofString "perlcore.values") 602), de P "__doc__" 166 .none, de P "__package__" 167 .none, de P "__loader__" 168 (.builtin "__main__.__loader__#opaque"), de P "__spec__" 169 .none, de P "__annotations__" 170 (.ref 6), de P "__builtins__" 171 (.ref 4), de P "__file__" 173 (.str (.ofString "/claim/cut.py") 172), de P "__cached__" 174 .none, de P "PerlError" 217 (.ref 31), de P "Die" 242 (.ref 51), de P "SyntaxDie" 268 (.ref 70), de P "SHORT_ESCAPES" 292 (.ref 73), de P "CODE_FIGURES" 294 (.str (.ofString "0123456789abcdef") 293), de P "TOP_CODE" 296 (.int (.ofNat 1114111) 295), de P "digits_value" 309 (.ref 80), de P "coded_sign" 316 (.ref 87), de P "braced_code" 328 (.ref 94), de P "escape_at" 339 (.ref 101), de P "great_letter" 346 (.ref 108), de P "KEPT_SIGN" 351 (.int (.negSucc 0) 350), de P "DROPPED_SIGN" 354 (.int (.negSucc 1) 353), de P "TransTable" 393 (.ref 125), de P "guarded_at" 402 (.ref 136), de P "trans_signs" 412 (.ref 143), de P "trans_codes" 426 (.ref 150), de P "plain_table" 438 (.ref 157), de P "sorted_once" 447 (.ref 164), de P "make_trans" 460 (.ref 171), de P "rank_outside" 471 (.ref 178), de P "turned_code" 480 (.ref 185), de P "trans_code" 488 (.ref 192), de P "run_trans" 501 (.ref 199), de P "trans_text" 512 (.ref 206), de P "FIGURES" 516 (.str (.ofString "0123456789") 515), de P "SPACES" 518 (.str (.ofString " \t\n\x0d\x0c\x0b") 517), de P "wrap_number" 526 (.ref 213), de P "shift_up" 535 (.ref 220), de P "shift_down" 544 (.ref 227), de P "and_numbers" 553 (.ref 234), de P "or_numbers" 562 (.ref 241), de P "xor_numbers" 571 (.ref 248), de P "number_head" 581 (.ref 255), de P "numeric_text" 593 (.ref 262), de P "number_text" 601 (.ref 269), de P "HEX_FIGURES" 605 (.str (.ofString "0123456789abcdef") 604), de P "Thing" 639 (.ref 286), de P "Array" 665 (.ref 307), de P "Hash" 692 (.ref 326), de P "Code" 722 (.ref 345)]) 50), #[]⟩
noncomputable def o289 : Obj := ⟨.none, none, (.fields (List.toArray [(.int (.ofNat 2) 0), (.int (.ofNat 0) 0), (.ref 20), (.int (.ofNat 7) 0), (.int (.ofNat 0) 0), (.ref 40), (.int (.ofNat 12) 0), (.int (.ofNat 0) 0), (.ref 59), (.int (.ofNat 21) 0), (.int (.ofNat 0) 0), (.ref 79), (.int (.ofNat 31) 0), (.int (.ofNat 0) 0), (.ref 86), (.int (.ofNat 35) 0), (.int (.ofNat 0) 0), (.ref 93), (.int (.ofNat 41) 0), (.int (.ofNat 0) 0), (.ref 100), (.int (.ofNat 64) 0), (.int (.ofNat 0) 0), (.ref 107), (.int (.ofNat 71) 0), (.int (.ofNat 0) 0), (.ref 114), (.int (.ofNat 80) 0), (.int (.ofNat 0) 0), (.ref 135), (.int (.ofNat 85) 0), (.int (.ofNat 0) 0), (.ref 142), (.int (.ofNat 96) 0), (.int (.ofNat 0) 0), (.ref 149), (.int (.ofNat 114) 0), (.int (.ofNat 0) 0), (.ref 156), (.int (.ofNat 129) 0), (.int (.ofNat 0) 0), (.ref 163), (.int (.ofNat 135) 0), (.int (.ofNat 0) 0), (.ref 170), (.int (.ofNat 142) 0), (.int (.ofNat 0) 0), (.ref 177), (.int (.ofNat 153) 0), (.int (.ofNat 0) 0), (.ref 184), (.int (.ofNat 164) 0), (.int (.ofNat 0) 0), (.ref 191), (.int (.ofNat 168) 0), (.int (.ofNat 0) 0), (.ref 198), (.int (.ofNat 184) 0), (.int (.ofNat 0) 0), (.ref 205), (.int (.ofNat 189) 0), (.int (.ofNat 0) 0), (.ref 212), (.int (.ofNat 194) 0), (.int (.ofNat 0) 0), (.ref 219), (.int (.ofNat 200) 0), (.int (.ofNat 0) 0), (.ref 226), (.int (.ofNat 206) 0), (.int (.ofNat 0) 0), (.ref 233), (.int (.ofNat 208) 0), (.int (.ofNat 0) 0), (.ref 240), (.int (.ofNat 210) 0), (.int (.ofNat 0) 0), (.ref 247), (.int (.ofNat 212) 0), (.int (.ofNat 0) 0), (.ref 254), (.int (.ofNat 225) 0), (.int (.ofNat 0) 0), (.ref 261), (.int (.ofNat 234) 0), (.int (.ofNat 0) 0), (.ref 268), (.int (.ofNat 244) 0), (.int (.ofNat 0) 0), (.ref 275), (.int (.ofNat 253) 0), (.int (.ofNat 0) 0), (.ref 296), (.int (.ofNat 259) 0), (.int (.ofNat 0) 0), (.ref 315), (.int (.ofNat 266) 0), (.int (.ofNat 0) 0), (.ref 334)])), #[]⟩
noncomputable def o290 : Obj := ⟨(.type "type"), none, (.cls ⟨(.ofString "Thing"), [(.type "object")], [(.ref 286), (.type "object")], 285, (.ofString "Thing"), true, [], [(.ref 307), (.ref 326), (.ref 345)], false, none, false⟩), (List.toArray [none, none, (some (.str (.ofString "Thing") 606)), (some (.str (.ofString "Thing") 614)), (some (.builtin "object.__new__")), (some (.bool true))])⟩
noncomputable def o291 : Obj := ⟨(.type "tuple"), none, (.seq (List.toArray [(.ref 286)]) 0), #[]⟩
noncomputable def o292 : Obj := ⟨(.type "builtin_function_or_method"), none, (.fields (List.toArray [(.builtin "type.__prepare__"), (.type "type")])), #[]⟩
noncomputable def o293 (P : Params) : Obj := ⟨(.type "dict"), none, (.dict (List.toArray [de P "__module__" 647 (.str (.ofString "perlcore.values") 602), de P "__qualname__" 649 (.str (.ofString "Array") 648), de P "__firstlineno__" 651 (.int (.ofNat 253) 650), de P "__init__" 659 (.ref 304), de P "__static_attributes__" 662 (.ref 305)]) 5), #[]⟩
noncomputable def o294 : Obj := ⟨(.type "tuple"), none, (.seq #[] 0), #[]⟩
noncomputable def o295 : Obj := ⟨.none, none, (.fields (List.toArray [(.int (.ofNat 255) 0), (.int (.ofNat 4) 0), (.ref 303)])), #[]⟩
noncomputable def o296 : Obj := ⟨(.type "code"), none, (.fields (List.toArray [(.str (.ofString "Array") 642), (.str (.ofString "Array") 643), (.str (.ofString "/claim/cut.py") 644), (.int (.ofNat 253) 0), (.int (.ofNat 0) 0), (.int (.ofNat 0) 0), (.int (.ofNat 0) 0), (.int (.ofNat 0) 0), (.ref 294), (.bool false), (.int (.ofNat 181) 0), (.ref 295), .none, .none, .none, .none, (.int (.ofNat 645) 0), (.int (.ofNat 253) 0), (.str (.ofString "/claim/cut.py") 646)])), #[]⟩
noncomputable def o297 : Obj := ⟨(.type "frame"), none, .plain, (List.toArray [(some (.ref 296)), (some (.ref 3)), (some (.ref 293)), none, (some (.str (.ofString "perlcore.values") 602)), none, (some (.ref 0))])⟩
noncomputable def o298 : Obj := ⟨(.type "tuple"), none, (.seq #[] 0), #[]⟩
noncomputable def o299 : Obj := ⟨.none, none, (.fields #[]), #[]⟩
noncomputable def o300 : Obj := ⟨(.type "tuple"), none, (.seq (List.toArray [(.str (.ofString "self") 655), (.str (.ofString "number") 656)]) 0), #[]⟩
noncomputable def o301 : Obj := ⟨(.type "tuple"), none, (.seq #[] 0), #[]⟩
noncomputable def o302 : Obj := ⟨.none, none, (.func ⟨(.ofString "__init__"), (.ofString "Array.__init__"), dPar (inCls (sOf 43) 0), .stmts (dBody (inCls (sOf 43) 0)), dScope (inCls (sOf 43) 0), 0, [], .none, .none, .none, .none, none, .none, .none, 0⟩), #[]⟩
noncomputable def o303 : Obj := ⟨(.type "code"), none, (.fields (List.toArray [(.str (.ofString "__init__") 652), (.str (.ofString "Array.__init__") 653), (.str (.ofString "/claim/cut.py") 654), (.int (.ofNat 255) 0), (.int (.ofNat 2) 0), (.int (.ofNat 0) 0), (.int (.ofNat 0) 0), (.int (.ofNat 3) 0), (.ref 298), (.bool true), (.int (.ofNat 181) 0), (.ref 299), .none, (.ref 300), (.ref 301), (.ref 302), (.int (.ofNat 657) 0), (.int (.ofNat 255) 0), (.str (.ofString "/claim/cut.py") 658)])), #[]⟩
noncomputable def o304 : Obj := ⟨(.type "function"), none, (.func ⟨(.ofString "__init__"), (.ofString "Array.__init__"), dPar (inCls (sOf 43) 0), .stmts (dBody (inCls (sOf 43) 0)), dScope (inCls (sOf 43) 0), 3, [], .none, .none, .none, (.str (.ofString "perlcore.values") 602), none, (.ref 303), .none, 0⟩), #[]⟩
noncomputable def o305 : Obj := ⟨(.type "tuple"), none, (.seq (List.toArray [(.str (.ofString "items") 660), (.str (.ofString "tied") 661)]) 0), #[]⟩
noncomputable def o306 (P : Params) : Obj := ⟨(.type "dict"), none, (.dict (List.toArray [de P "__module__" 647 (.str (.ofString "perlcore.values") 602), de P "__firstlineno__" 651 (.int (.ofNat 253) 650), de P "__init__" 659 (.ref 304), de P "__static_attributes__" 662 (.ref 305), de P "__doc__" 663 .none]) 2), #[]⟩
noncomputable def o307 : Obj := ⟨(.type "type"), none, (.cls ⟨(.ofString "Array"), [(.ref 286)], [(.ref 307), (.ref 286), (.type "object")], 306, (.ofString "Array"), true, [], [], false, none, false⟩), (List.toArray [(some (.ref 291)), none, (some (.str (.ofString "Array") 640)), (some (.str (.ofString "Array") 648)), (some (.builtin "object.__new__")), (some (.bool true))])⟩
noncomputable def o308 : Obj := ⟨(.type "super"), none, (.fields (List.toArray [(.ref 307), (.ref 307), (.ref 307)])), #[]⟩
noncomputable def o309 : Obj := ⟨(.type "builtin_function_or_method"), none, (.fields (List.toArray [(.builtin "object.__init_subclass__"), (.ref 307)])), #[]⟩
noncomputable def o310 : Obj := ⟨(.type "tuple"), none, (.seq (List.toArray [(.ref 286)]) 0), #[]⟩
noncomputable def o311 : Obj := ⟨(.type "builtin_function_or_method"), none, (.fields (List.toArray [(.builtin "type.__prepare__"), (.type "type")])), #[]⟩
noncomputable def o312 (P : Params) : Obj := ⟨(.type "dict"), none, (.dict (List.toArray [de P "__module__" 673 (.str (.ofString "perlcore.values") 602), de P "__qualname__" 675 (.str (.ofString "Hash") 674), de P "__firstlineno__" 677 (.int (.ofNat 259) 676), de P "__init__" 685 (.ref 323), de P "__static_attributes__" 689 (.ref 324)]) 5), #[]⟩
noncomputable def o313 : Obj := ⟨(.type "tuple"), none, (.seq #[] 0), #[]⟩
noncomputable def o314 : Obj := ⟨.none, none, (.fields (List.toArray [(.int (.ofNat 261) 0), (.int (.ofNat 4) 0), (.ref 322)])), #[]⟩
noncomputable def o315 : Obj := ⟨(.type "code"), none, (.fields (List.toArray [(.str (.ofString "Hash") 668), (.str (.ofString "Hash") 669), (.str (.ofString "/claim/cut.py") 670), (.int (.ofNat 259) 0), (.int (.ofNat 0) 0), (.int (.ofNat 0) 0), (.int (.ofNat 0) 0), (.int (.ofNat 0) 0), (.ref 313), (.bool false), (.int (.ofNat 181) 0), (.ref 314), .none, .none, .none, .none, (.int (.ofNat 671) 0), (.int (.ofNat 259) 0), (.str (.ofString "/claim/cut.py") 672)])), #[]⟩
noncomputable def o316 : Obj := ⟨(.type "frame"), none, .plain, (List.toArray [(some (.ref 315)), (some (.ref 3)), (some (.ref 312)), none, (some (.str (.ofString "perlcore.values") 602)), none, (some (.ref 0))])⟩
noncomputable def o317 : Obj := ⟨(.type "tuple"), none, (.seq #[] 0), #[]⟩
noncomputable def o318 : Obj := ⟨.none, none, (.fields #[]), #[]⟩
noncomputable def o319 : Obj := ⟨(.type "tuple"), none, (.seq (List.toArray [(.str (.ofString "self") 681), (.str (.ofString "number") 682)]) 0), #[]⟩
noncomputable def o320 : Obj := ⟨(.type "tuple"), none, (.seq #[] 0), #[]⟩
noncomputable def o321 : Obj := ⟨.none, none, (.func ⟨(.ofString "__init__"), (.ofString "Hash.__init__"), dPar (inCls (sOf 44) 0), .stmts (dBody (inCls (sOf 44) 0)), dScope (inCls (sOf 44) 0), 0, [], .none, .none, .none, .none, none, .none, .none, 0⟩), #[]⟩
noncomputable def o322 : Obj := ⟨(.type "code"), none, (.fields (List.toArray [(.str (.ofString "__init__") 678), (.str (.ofString "Hash.__init__") 679), (.str (.ofString "/claim/cut.py") 680), (.int (.ofNat 261) 0), (.int (.ofNat 2) 0), (.int (.ofNat 0) 0), (.int (.ofNat 0) 0), (.int (.ofNat 3) 0), (.ref 317), (.bool true), (.int (.ofNat 181) 0), (.ref 318), .none, (.ref 319), (.ref 320), (.ref 321), (.int (.ofNat 683) 0), (.int (.ofNat 261) 0), (.str (.ofString "/claim/cut.py") 684)])), #[]⟩
noncomputable def o323 : Obj := ⟨(.type "function"), none, (.func ⟨(.ofString "__init__"), (.ofString "Hash.__init__"), dPar (inCls (sOf 44) 0), .stmts (dBody (inCls (sOf 44) 0)), dScope (inCls (sOf 44) 0), 3, [], .none, .none, .none, (.str (.ofString "perlcore.values") 602), none, (.ref 322), .none, 0⟩), #[]⟩
noncomputable def o324 : Obj := ⟨(.type "tuple"), none, (.seq (List.toArray [(.str (.ofString "at") 686), (.str (.ofString "table") 687), (.str (.ofString "tied") 688)]) 0), #[]⟩
noncomputable def o325 (P : Params) : Obj := ⟨(.type "dict"), none, (.dict (List.toArray [de P "__module__" 673 (.str (.ofString "perlcore.values") 602), de P "__firstlineno__" 677 (.int (.ofNat 259) 676), de P "__init__" 685 (.ref 323), de P "__static_attributes__" 689 (.ref 324), de P "__doc__" 690 .none]) 2), #[]⟩
noncomputable def o326 : Obj := ⟨(.type "type"), none, (.cls ⟨(.ofString "Hash"), [(.ref 286)], [(.ref 326), (.ref 286), (.type "object")], 325, (.ofString "Hash"), true, [], [], false, none, false⟩), (List.toArray [(some (.ref 310)), none, (some (.str (.ofString "Hash") 666)), (some (.str (.ofString "Hash") 674)), (some (.builtin "object.__new__")), (some (.bool true))])⟩
noncomputable def o327 : Obj := ⟨(.type "super"), none, (.fields (List.toArray [(.ref 326), (.ref 326), (.ref 326)])), #[]⟩
noncomputable def o328 : Obj := ⟨(.type "builtin_function_or_method"), none, (.fields (List.toArray [(.builtin "object.__init_subclass__"), (.ref 326)])), #[]⟩
noncomputable def o329 : Obj := ⟨(.type "tuple"), none, (.seq (List.toArray [(.ref 286)]) 0), #[]⟩
noncomputable def o330 : Obj := ⟨(.type "builtin_function_or_method"), none, (.fields (List.toArray [(.builtin "type.__prepare__"), (.type "type")])), #[]⟩
noncomputable def o331 (P : Params) : Obj := ⟨(.type "dict"), none, (.dict (List.toArray [de P "__module__" 700 (.str (.ofString "perlcore.values") 602), de P "__qualname__" 702 (.str (.ofString "Code") 701), de P "__firstlineno__" 704 (.int (.ofNat 266) 703), de P "__init__" 714 (.ref 342), de P "__static_attributes__" 719 (.ref 343)]) 5), #[]⟩
noncomputable def o332 : Obj := ⟨(.type "tuple"), none, (.seq #[] 0), #[]⟩
noncomputable def o333 : Obj := ⟨.none, none, (.fields (List.toArray [(.int (.ofNat 268) 0), (.int (.ofNat 4) 0), (.ref 341)])), #[]⟩
noncomputable def o334 : Obj := ⟨(.type "code"), none, (.fields (List.toArray [(.str (.ofString "Code") 695), (.str (.ofString "Code") 696), (.str (.ofString "/claim/cut.py") 697), (.int (.ofNat 266) 0), (.int (.ofNat 0) 0), (.int (.ofNat 0) 0), (.int (.ofNat 0) 0), (.int (.ofNat 0) 0), (.ref 332), (.bool false), (.int (.ofNat 181) 0), (.ref 333), .none, .none, .none, .none, (.int (.ofNat 698) 0), (.int (.ofNat 266) 0), (.str (.ofString "/claim/cut.py") 699)])), #[]⟩
noncomputable def o335 : Obj := ⟨(.type "frame"), none, .plain, (List.toArray [(some (.ref 334)), (some (.ref 3)), (some (.ref 331)), none, (some (.str (.ofString "perlcore.values") 602)), none, (some (.ref 0))])⟩
noncomputable def o336 : Obj := ⟨(.type "tuple"), none, (.seq #[] 0), #[]⟩
noncomputable def o337 : Obj := ⟨.none, none, (.fields #[]), #[]⟩
noncomputable def o338 : Obj := ⟨(.type "tuple"), none, (.seq (List.toArray [(.str (.ofString "self") 708), (.str (.ofString "number") 709), (.str (.ofString "sub") 710), (.str (.ofString "captures") 711)]) 0), #[]⟩
noncomputable def o339 : Obj := ⟨(.type "tuple"), none, (.seq #[] 0), #[]⟩
noncomputable def o340 : Obj := ⟨.none, none, (.func ⟨(.ofString "__init__"), (.ofString "Code.__init__"), dPar (inCls (sOf 45) 0), .stmts (dBody (inCls (sOf 45) 0)), dScope (inCls (sOf 45) 0), 0, [], .none, .none, .none, .none, none, .none, .none, 0⟩), #[]⟩
noncomputable def o341 : Obj := ⟨(.type "code"), none, (.fields (List.toArray [(.str (.ofString "__init__") 705), (.str (.ofString "Code.__init__") 706), (.str (.ofString "/claim/cut.py") 707), (.int (.ofNat 268) 0), (.int (.ofNat 4) 0), (.int (.ofNat 0) 0), (.int (.ofNat 0) 0), (.int (.ofNat 3) 0), (.ref 336), (.bool true), (.int (.ofNat 181) 0), (.ref 337), .none, (.ref 338), (.ref 339), (.ref 340), (.int (.ofNat 712) 0), (.int (.ofNat 268) 0), (.str (.ofString "/claim/cut.py") 713)])), #[]⟩
noncomputable def o342 : Obj := ⟨(.type "function"), none, (.func ⟨(.ofString "__init__"), (.ofString "Code.__init__"), dPar (inCls (sOf 45) 0), .stmts (dBody (inCls (sOf 45) 0)), dScope (inCls (sOf 45) 0), 3, [], .none, .none, .none, (.str (.ofString "perlcore.values") 602), none, (.ref 341), .none, 0⟩), #[]⟩
noncomputable def o343 : Obj := ⟨(.type "tuple"), none, (.seq (List.toArray [(.str (.ofString "builtin") 715), (.str (.ofString "captures") 716), (.str (.ofString "package") 717), (.str (.ofString "sub") 718)]) 0), #[]⟩
noncomputable def o344 (P : Params) : Obj := ⟨(.type "dict"), none, (.dict (List.toArray [de P "__module__" 700 (.str (.ofString "perlcore.values") 602), de P "__firstlineno__" 704 (.int (.ofNat 266) 703), de P "__init__" 714 (.ref 342), de P "__static_attributes__" 719 (.ref 343), de P "__doc__" 720 .none]) 2), #[]⟩
noncomputable def o345 : Obj := ⟨(.type "type"), none, (.cls ⟨(.ofString "Code"), [(.ref 286)], [(.ref 345), (.ref 286), (.type "object")], 344, (.ofString "Code"), true, [], [], false, none, false⟩), (List.toArray [(some (.ref 329)), none, (some (.str (.ofString "Code") 693)), (some (.str (.ofString "Code") 701)), (some (.builtin "object.__new__")), (some (.bool true))])⟩
noncomputable def o346 : Obj := ⟨(.type "super"), none, (.fields (List.toArray [(.ref 345), (.ref 345), (.ref 345)])), #[]⟩
noncomputable def o347 : Obj := ⟨(.type "builtin_function_or_method"), none, (.fields (List.toArray [(.builtin "object.__init_subclass__"), (.ref 345)])), #[]⟩
noncomputable def t5 (P : Params) : BT := (.node (boot_o_0 P) (.node (boot_o_1 P) (.node (o288 P) (.node (boot_o_7 P) (.node o7 (.node o23 (.node o55 (.node o122 (.node o252 .nil .nil) .nil) (.node o186 (.node o319 .nil .nil) .nil)) (.node o90 (.node o154 (.node o284 .nil .nil) .nil) (.node o220 .nil .nil))) (.node o39 (.node o74 (.node o138 (.node o268 .nil .nil) .nil) (.node o204 (.node o335 .nil .nil) .nil)) (.node (o106 P) (.node o170 (.node o303 .nil .nil) .nil) (.node o236 .nil .nil)))) (.node o15 (.node o31 (.node o63 (.node o130 (.node o260 .nil .nil) .nil) (.node o194 (.node o327 .nil .nil) .nil)) (.node o98 (.node o162 (.node o295 .nil .nil) .nil) (.node o228 .nil .nil))) (.node o47 (.node o82 (.node o146 (.node o276 .nil .nil) .nil) (.node o212 (.node o343 .nil .nil) .nil)) (.node o114 (.node o178 (.node o311 .nil .nil) .nil) (.node o244 .nil .nil))))) (.node o0 (.node o11 (.node o27 (.node o59 (.node o126 (.node o256 .nil .nil) .nil) (.node o190 (.node o323 .nil .nil) .nil)) (.node o94 (.node o158 (.node o291 .nil .nil) .nil) (.node o224 .nil .nil))) (.node o43 (.node o78 (.node o142 (.node o272 .nil .nil) .nil) (.node o208 (.node o339 .nil .nil) .nil)) (.node o110 (.node o174 (.node o307 .nil .nil) .nil) (.node o240 .nil .nil)))) (.node o19 (.node o35 (.node o70 (.node o134 (.node o264 .nil .nil) .nil) (.node o198 (.node (o331 P) .nil .nil) .nil)) (.node o102 (.node o166 (.node o299 .nil .nil) .nil) (.node o232 .nil .nil))) (.node o51 (.node o86 (.node o150 (.node o280 .nil .nil) .nil) (.node o216 (.node o347 .nil .nil) .nil)) (.node o118 (.node o182 (.node o315 .nil .nil) .nil) (.node o248 .nil .nil)))))) (.node (boot_o_5 P) (.node (boot_o_9 P) (.node (o9 P) (.node o25 (.node o57 (.node o124 (.node o254 .nil .nil) .nil) (.node o188 (.node o321 .nil .nil) .nil)) (.node o92 (.node o156 (.node o286 .nil .nil) .nil) (.node o222 .nil .nil))) (.node o41 (.node o76 (.node o140 (.node o270 .nil .nil) .nil) (.node o206 (.node o337 .nil .nil) .nil)) (.node o108 (.node o172 (.node o305 .nil .nil) .nil) (.node o238 .nil .nil)))) (.node o17 (.node o33 (.node (o66 P) (.node o132 (.node o262 .nil .nil) .nil) (.node o196 (.node o329 .nil .nil) .nil)) (.node o100 (.node o164 (.node o297 .nil .nil) .nil) (.node o230 .nil .nil))) (.node o49 (.node o84 (.node o148 (.node o278 .nil .nil) .nil) (.node o214 (.node o345 .nil .nil) .nil)) (.node o116 (.node o180 (.node o313 .nil .nil) .nil) (.node o246 .nil .nil))))) (.node o2 (.node o13 (.node (o29 P) (.node (o61 P) (.node o128 (.node o258 .nil .nil) .nil) (.node o192 (.node (o325 P) .nil .nil) .nil)) (.node o96 (.node o160 (.node (o293 P) .nil .nil) .nil) (.node o226 .nil .nil))) (.node o45 (.node o80 (.node o144 (.node o274 .nil .nil) .nil) (.node o210 (.node o341 .nil .nil) .nil)) (.node o112 (.node o176 (.node o309 .nil .nil) .nil) (.node o242 .nil .nil)))) (.node o21 (.node o37 (.node o72 (.node o136 (.node o266 .nil .nil) .nil) (.node o200 (.node o333 .nil .nil) .nil)) (.node o104 (.node o168 (.node o301 .nil .nil) .nil) (.node o234 .nil .nil))) (.node o53 (.node o88 (.node o152 (.node (o282 P) .nil .nil) .nil) (.node o218 .nil .nil)) (.node o120 (.node o184 (.node o317 .nil .nil) .nil) (.node o250 .nil .nil))))))) (.node (o4 P) (.node (boot_o_4 P) (.node (boot_o_8 P) (.node o8 (.node o24 (.node o56 (.node o123 (.node o253 .nil .nil) .nil) (.node o187 (.node o320 .nil .nil) .nil)) (.node o91 (.node o155 (.node o285 .nil .nil) .nil) (.node o221 .nil .nil))) (.node o40 (.node o75 (.node o139 (.node (o269 P) .nil .nil) .nil) (.node o205 (.node o336 .nil .nil) .nil)) (.node o107 (.node o171 (.node o304 .nil .nil) .nil) (.node o237 .nil .nil)))) (.node o16 (.node o32 (.node o64 (.node o131 (.node o261 .nil .nil) .nil) (.node o195 (.node o328 .nil .nil) .nil)) (.node o99 (.node o163 (.node o296 .nil .nil) .nil) (.node o229 .nil .nil))) (.node (o48 P) (.node o83 (.node o147 (.node o277 .nil .nil) .nil) (.node o213 (.node (o344 P) .nil .nil) .nil)) (.node o115 (.node o179 (.node (o312 P) .nil .nil) .nil) (.node o245 .nil .nil))))) (.node o289 (.node o12 (.node o28 (.node o60 (.node o127 (.node o257 .nil .nil) .nil) (.node o191 (.node o324 .nil .nil) .nil)) (.node o95 (.node o159 (.node o292 .nil .nil) .nil) (.node o225 .nil .nil))) (.node o44 (.node o79 (.node o143 (.node o273 .nil .nil) .nil) (.node o209 (.node o340 .nil .nil) .nil)) (.node o111 (.node o175 (.node o308 .nil .nil) .nil) (.node o241 .nil .nil)))) (.node o20 (.node o36 (.node o71 (.node o135 (.node o265 .nil .nil) .nil) (.node o199 (.node o332 .nil .nil) .nil)) (.node o103 (.node o167 (.node o300 .nil .nil) .nil) (.node o233 .nil .nil))) (.node o52 (.node o87 (.node o151 (.node o281 .nil .nil) .nil) (.node o217 .nil .nil)) (.node (o119 P) (.node o183 (.node o316 .nil .nil) .nil) (.node o249 .nil .nil)))))) (.node (boot_o_6 P) (.node (boot_o_10 P) (.node o10 (.node o26 (.node o58 (.node o125 (.node o255 .nil .nil) .nil) (.node o189 (.node o322 .nil .nil) .nil)) (.node o93 (.node o157 (.node o287 .nil .nil) .nil) (.node o223 .nil .nil))) (.node (o42 P) (.node o77 (.node o141 (.node o271 .nil .nil) .nil) (.node o207 (.node o338 .nil .nil) .nil)) (.node o109 (.node o173 (.node (o306 P) .nil .nil) .nil) (.node o239 .nil .nil)))) (.node o18 (.node o34 (.node o69 (.node o133 (.node o263 .nil .nil) .nil) (.node o197 (.node o330 .nil .nil) .nil)) (.node o101 (.node o165 (.node o298 .nil .nil) .nil) (.node o231 .nil .nil))) (.node o50 (.node o85 (.node o149 (.node o279 .nil .nil) .nil) (.node o215 (.node o346 .nil .nil) .nil)) (.node o117 (.node o181 (.node o314 .nil .nil) .nil) (.node o247 .nil .nil))))) (.node o3 (.node o14 (.node o30 (.node o62 (.node o129 (.node o259 .nil .nil) .nil) (.node o193 (.node o326 .nil .nil) .nil)) (.node o97 (.node o161 (.node o294 .nil .nil) .nil) (.node o227 .nil .nil))) (.node o46 (.node o81 (.node o145 (.node o275 .nil .nil) .nil) (.node o211 (.node o342 .nil .nil) .nil)) (.node o113 (.node o177 (.node o310 .nil .nil) .nil) (.node o243 .nil .nil)))) (.node (o22 P) (.node o38 (.node o73 (.node o137 (.node o267 .nil .nil) .nil) (.node o201 (.node o334 .nil .nil) .nil)) (.node o105 (.node o169 (.node o302 .nil .nil) .nil) (.node o235 .nil .nil))) (.node o54 (.node o89 (.node o153 (.node o290 .nil .nil) .nil) (.node o219 .nil .nil)) (.node o121 (.node o185 (.node o318 .nil .nil) .nil) (.node o251 .nil .nil))))))))
noncomputable def o348 (P : Params) : Obj := ⟨(.type "dict"), none, (.dict (List.toArray [de P "__name__" 165 (.str (.ofString "perlcore.convert") 807), de P "__doc__" 166 .none, de P "__package__" 167 .none, de P "__loader__" 168 (.builtin "__main__.__loader__#opaque"), de P "__spec__" 169 .none, de P "__annotations__" 170 (.ref 6), de P "__builtins__" 171 (.ref 4), de P "__file__" 173 (.str (.ofString "/claim/cut.py") 172), de P "__cached__" 174 .none, de P "PerlError" 217 (.ref 31), de P "Die" 242 (.ref 51), de P "SyntaxDie" 268 (.ref 70), de P "SHORT_ESCAPES" 292 (.ref 73), de P "CODE_FIGURES" 294 (.str (.ofString "0123456789abcdef") 293), de P "TOP_CODE" 296 (.int (.ofNat 1114111) 295), de P "digits_value" 309 (.ref 80), de P "coded_sign" 316 (.ref 87), de P "braced_code" 328 (.ref 94), de P "escape_at" 339 (.ref 101), de P "great_letter" 346 (.ref 108), de P "KEPT_SIGN" 351 (.int (.negSucc 0) 350), de P "DROPPED_SIGN" 354 (.int (.negSucc 1) 353), de P "TransTable" 393 (.ref 125), de P "guarded_at" 402 (.ref 136), de P "trans_signs" 412 (.ref 143), de P "trans_codes" 426 (.ref 150), de P "plain_table" 438 (.ref 157), de P "sorted_once" 447 (.ref 164), de P "make_trans" 460 (.ref 171), de P "rank_outside" 471 (.ref 178), de P "turned_code" 480 (.ref 185), de P "trans_code" 488 (.ref 192), de P "run_trans" 501 (.ref 199), de P "trans_text" 512 (.ref 206), de P "FIGURES" 516 (.str (.ofString "0123456789") 515), de P "SPACES" 518 (.str (.ofString " \t\n\x0d\x0c\x0b") 517), de P "wrap_number" 526 (.ref 213), de P "shift_up" 535 (.ref 220), de P "shift_down" 544 (.ref 227), de P "and_numbers" 553 (.ref 234), de P "or_numbers" 562 (.ref 241), de P "xor_numbers" 571 (.ref 248), de P "number_head" 581 (.ref 255), de P "numeric_text" 593 (.ref 262), de P "number_text" 601 (.ref 269), de P "HEX_FIGURES" 605 (.str (.ofString "0123456789abcdef") 604), de P "Thing" 639 (.ref 286), de P "Array" 665 (.ref 307), de P "Hash" 692 (.ref 326), de P "Code" 722 (.ref 345), de P "Glob" 752 (.ref 364), de P "Ref" 783 (.ref 384), de P "thing_word" 790 (.ref 395), de P "hex_of" 798 (.ref 402), de P "ref_text" 806 (.ref 409), de P "LAST_CODE" 810 (.int (.ofNat 1114111) 809)]) 56), #[]⟩
noncomputable def o349 : Obj := ⟨.none, none, (.fields (List.toArray [(.int (.ofNat 2) 0), (.int (.ofNat 0) 0), (.ref 20), (.int (.ofNat 7) 0), (.int (.ofNat 0) 0), (.ref 40), (.int (.ofNat 12) 0), (.int (.ofNat 0) 0), (.ref 59), (.int (.ofNat 21) 0), (.int (.ofNat 0) 0), (.ref 79), (.int (.ofNat 31) 0), (.int (.ofNat 0) 0), (.ref 86), (.int (.ofNat 35) 0), (.int (.ofNat 0) 0), (.ref 93), (.int (.ofNat 41) 0), (.int (.ofNat 0) 0), (.ref 100), (.int (.ofNat 64) 0), (.int (.ofNat 0) 0), (.ref 107), (.int (.ofNat 71) 0), (.int (.ofNat 0) 0), (.ref 114), (.int (.ofNat 80) 0), (.int (.ofNat 0) 0), (.ref 135), (.int (.ofNat 85) 0), (.int (.ofNat 0) 0), (.ref 142), (.int (.ofNat 96) 0), (.int (.ofNat 0) 0), (.ref 149), (.int (.ofNat 114) 0), (.int (.ofNat 0) 0), (.ref 156), (.int (.ofNat 129) 0), (.int (.ofNat 0) 0), (.ref 163), (.int (.ofNat 135) 0), (.int (.ofNat 0) 0), (.ref 170), (.int (.ofNat 142) 0), (.int (.ofNat 0) 0), (.ref 177), (.int (.ofNat 153) 0), (.int (.ofNat 0) 0), (.ref 184), (.int (.ofNat 164) 0), (.int (.ofNat 0) 0), (.ref 191), (.int (.ofNat 168) 0), (.int (.ofNat 0) 0), (.ref 198), (.int (.ofNat 184) 0), (.int (.ofNat 0) 0), (.ref 205), (.int (.ofNat 189) 0), (.int (.ofNat 0) 0), (.ref 212), (.int (.ofNat 194) 0), (.int (.ofNat 0) 0), (.ref 219), (.int (.ofNat 200) 0), (.int (.ofNat 0) 0), (.ref 226), (.int (.ofNat 206) 0), (.int (.ofNat 0) 0), (.ref 233), (.int (.ofNat 208) 0), (.int (.ofNat 0) 0), (.ref 240), (.int (.ofNat 210) 0), (.int (.ofNat 0) 0), (.ref 247), (.int (.ofNat 212) 0), (.int (.ofNat 0) 0), (.ref 254), (.int (.ofNat 225) 0), (.int (.ofNat 0) 0), (.ref 261), (.int (.ofNat 234) 0), (.int (.ofNat 0) 0), (.ref 268), (.int (.ofNat 244) 0), (.int (.ofNat 0) 0), (.ref 275), (.int (.ofNat 253) 0), (.int (.ofNat 0) 0), (.ref 296), (.int (.ofNat 259) 0), (.int (.ofNat 0) 0), (.ref 315), (.int (.ofNat 266) 0), (.int (.ofNat 0) 0), (.ref 334), (.int (.ofNat 274) 0), (.int (.ofNat 0) 0), (.ref 353), (.int (.ofNat 283) 0), (.int (.ofNat 0) 0), (.ref 372), (.int (.ofNat 288) 0), (.int (.ofNat 0) 0), (.ref 394), (.int (.ofNat 300) 0), (.int (.ofNat 0) 0), (.ref 401), (.int (.ofNat 306) 0), (.int (.ofNat 0) 0), (.ref 408)])), #[]⟩
noncomputable def o350 : Obj := ⟨(.type "type"), none, (.cls ⟨(.ofString "Thing"), [(.type "object")], [(.ref 286), (.type "object")], 285, (.ofString "Thing"), true, [], [(.ref 307), (.ref 326), (.ref 345), (.ref 364)], false, none, false⟩), (List.toArray [none, none, (some (.str (.ofString "Thing") 606)), (some (.str (.ofString "Thing") 614)), (some (.builtin "object.__new__")), (some (.bool true))])⟩
noncomputable def o351 : Obj := ⟨(.type "tuple"), none, (.seq (List.toArray [(.ref 286)]) 0), #[]⟩
noncomputable def o352 : Obj := ⟨(.type "builtin_function_or_method"), none, (.fields (List.toArray [(.builtin "type.__prepare__"), (.type "type")])), #[]⟩
noncomputable def o353 (P : Params) : Obj := ⟨(.type "dict"), none, (.dict (List.toArray [de P "__module__" 730 (.str (.ofString "perlcore.values") 602), de P "__qualname__" 732 (.str (.ofString "Glob") 731), de P "__firstlineno__" 734 (.int (.ofNat 274) 733), de P "__init__" 743 (.ref 361), de P "__static_attributes__" 749 (.ref 362)]) 5), #[]⟩
noncomputable def o354 : Obj := ⟨(.type "tuple"), none, (.seq #[] 0), #[]⟩
noncomputable def o355 : Obj := ⟨.none, none, (.fields (List.toArray [(.int (.ofNat 276) 0), (.int (.ofNat 4) 0), (.ref 360)])), #[]⟩
noncomputable def o356 : Obj := ⟨(.type "code"), none, (.fields (List.toArray [(.str (.ofString "Glob") 725), (.str (.ofString "Glob") 726), (.str (.ofString "/claim/cut.py") 727), (.int (.ofNat 274) 0), (.int (.ofNat 0) 0), (.int (.ofNat 0) 0), (.int (.ofNat 0) 0), (.int (.ofNat 0) 0), (.ref 351), (.bool false), (.int (.ofNat 181) 0), (.ref 352), .none, .none, .none, .none, (.int (.ofNat 728) 0), (.int (.ofNat 274) 0), (.str (.ofString "/claim/cut.py") 729)])), #[]⟩
noncomputable def o357 : Obj := ⟨(.type "frame"), none, .plain, (List.toArray [(some (.ref 353)), (some (.ref 3)), (some (.ref 350)), none, (some (.str (.ofString "perlcore.values") 602)), none, (some (.ref 0))])⟩
noncomputable def o358 : Obj := ⟨(.type "tuple"), none, (.seq #[] 0), #[]⟩
noncomputable def o359 : Obj := ⟨.none, none, (.fields #[]), #[]⟩
noncomputable def o360 : Obj := ⟨(.type "tuple"), none, (.seq (List.toArray [(.str (.ofString "self") 738), (.str (.ofString "number") 739), (.str (.ofString "name") 740)]) 0), #[]⟩
noncomputable def o361 : Obj := ⟨(.type "tuple"), none, (.seq #[] 0), #[]⟩
noncomputable def o362 : Obj := ⟨.none, none, (.func ⟨(.ofString "__init__"), (.ofString "Glob.__init__"), dPar (inCls (sOf 46) 0), .stmts (dBody (inCls (sOf 46) 0)), dScope (inCls (sOf 46) 0), 0, [], .none, .none, .none, .none, none, .none, .none, 0⟩), #[]⟩
noncomputable def o363 : Obj := ⟨(.type "code"), none, (.fields (List.toArray [(.str (.ofString "__init__") 735), (.str (.ofString "Glob.__init__") 736), (.str (.ofString "/claim/cut.py") 737), (.int (.ofNat 276) 0), (.int (.ofNat 3) 0), (.int (.ofNat 0) 0), (.int (.ofNat 0) 0), (.int (.ofNat 3) 0), (.ref 355), (.bool true), (.int (.ofNat 181) 0), (.ref 356), .none, (.ref 357), (.ref 358), (.ref 359), (.int (.ofNat 741) 0), (.int (.ofNat 276) 0), (.str (.ofString "/claim/cut.py") 742)])), #[]⟩
noncomputable def o364 : Obj := ⟨(.type "function"), none, (.func ⟨(.ofString "__init__"), (.ofString "Glob.__init__"), dPar (inCls (sOf 46) 0), .stmts (dBody (inCls (sOf 46) 0)), dScope (inCls (sOf 46) 0), 3, [], .none, .none, .none, (.str (.ofString "perlcore.values") 602), none, (.ref 360), .none, 0⟩), #[]⟩
noncomputable def o365 : Obj := ⟨(.type "tuple"), none, (.seq (List.toArray [(.str (.ofString "array") 744), (.str (.ofString "code") 745), (.str (.ofString "hash") 746), (.str (.ofString "name") 747), (.str (.ofString "scalar") 748)]) 0), #[]⟩
noncomputable def o366 (P : Params) : Obj := ⟨(.type "dict"), none, (.dict (List.toArray [de P "__module__" 730 (.str (.ofString "perlcore.values") 602), de P "__firstlineno__" 734 (.int (.ofNat 274) 733), de P "__init__" 743 (.ref 361), de P "__static_attributes__" 749 (.ref 362), de P "__doc__" 750 .none]) 2), #[]⟩
noncomputable def o367 : Obj := ⟨(.type "type"), none, (.cls ⟨(.ofString "Glob"), [(.ref 286)], [(.ref 364), (.ref 286), (.type "object")], 363, (.ofString "Glob"), true, [], [], false, none, false⟩), (List.toArray [(some (.ref 348)), none, (some (.str (.ofString "Glob") 723)), (some (.str (.ofString "Glob") 731)), (some (.builtin "object.__new__")), (some (.bool true))])⟩
noncomputable def o368 : Obj := ⟨(.type "super"), none, (.fields (List.toArray [(.ref 364), (.ref 364), (.ref 364)])), #[]⟩
noncomputable def o369 : Obj := ⟨(.type "builtin_function_or_method"), none, (.fields (List.toArray [(.builtin "object.__init_subclass__"), (.ref 364)])), #[]⟩
noncomputable def o370 : Obj := ⟨(.type "tuple"), none, (.seq #[] 0), #[]⟩
noncomputable def o371 : Obj := ⟨(.type "builtin_function_or_method"), none, (.fields (List.toArray [(.builtin "type.__prepare__"), (.type "type")])), #[]⟩
noncomputable def o372 (P : Params) : Obj := ⟨(.type "dict"), none, (.dict (List.toArray [de P "__module__" 760 (.str (.ofString "perlcore.values") 602), de P "__qualname__" 762 (.str (.ofString "Ref") 761), de P "__firstlineno__" 764 (.int (.ofNat 283) 763), de P "__init__" 773 (.ref 381), de P "__static_attributes__" 776 (.ref 382)]) 5), #[]⟩
noncomputable def o373 : Obj := ⟨(.type "tuple"), none, (.seq #[] 0), #[]⟩
noncomputable def o374 : Obj := ⟨.none, none, (.fields (List.toArray [(.int (.ofNat 285) 0), (.int (.ofNat 4) 0), (.ref 380)])), #[]⟩
noncomputable def o375 : Obj := ⟨(.type "code"), none, (.fields (List.toArray [(.str (.ofString "Ref") 755), (.str (.ofString "Ref") 756), (.str (.ofString "/claim/cut.py") 757), (.int (.ofNat 283) 0), (.int (.ofNat 0) 0), (.int (.ofNat 0) 0), (.int (.ofNat 0) 0), (.int (.ofNat 0) 0), (.ref 370), (.bool false), (.int (.ofNat 181) 0), (.ref 371), .none, .none, .none, .none, (.int (.ofNat 758) 0), (.int (.ofNat 283) 0), (.str (.ofString "/claim/cut.py") 759)])), #[]⟩
noncomputable def o376 : Obj := ⟨(.type "frame"), none, .plain, (List.toArray [(some (.ref 372)), (some (.ref 3)), (some (.ref 369)), none, (some (.str (.ofString "perlcore.values") 602)), none, (some (.ref 0))])⟩
noncomputable def o377 : Obj := ⟨(.type "tuple"), none, (.seq (List.toArray [(.bool false)]) 0), #[]⟩
noncomputable def o378 : Obj := ⟨(.type "tuple"), none, (.seq #[] 0), #[]⟩
noncomputable def o379 : Obj := ⟨.none, none, (.fields #[]), #[]⟩
noncomputable def o380 : Obj := ⟨(.type "tuple"), none, (.seq (List.toArray [(.str (.ofString "self") 768), (.str (.ofString "target") 769), (.str (.ofString "is_weak") 770)]) 0), #[]⟩
noncomputable def o381 : Obj := ⟨(.type "tuple"), none, (.seq #[] 0), #[]⟩
noncomputable def o382 : Obj := ⟨.none, none, (.func ⟨(.ofString "__init__"), (.ofString "Ref.__init__"), dPar (inCls (sOf 47) 0), .stmts (dBody (inCls (sOf 47) 0)), dScope (inCls (sOf 47) 0), 0, [], .none, .none, .none, .none, none, .none, .none, 0⟩), #[]⟩
noncomputable def o383 : Obj := ⟨(.type "code"), none, (.fields (List.toArray [(.str (.ofString "__init__") 765), (.str (.ofString "Ref.__init__") 766), (.str (.ofString "/claim/cut.py") 767), (.int (.ofNat 285) 0), (.int (.ofNat 3) 0), (.int (.ofNat 0) 0), (.int (.ofNat 0) 0), (.int (.ofNat 3) 0), (.ref 375), (.bool true), (.int (.ofNat 181) 0), (.ref 376), .none, (.ref 377), (.ref 378), (.ref 379), (.int (.ofNat 771) 0), (.int (.ofNat 285) 0), (.str (.ofString "/claim/cut.py") 772)])), #[]⟩
noncomputable def o384 : Obj := ⟨(.type "function"), none, (.func ⟨(.ofString "__init__"), (.ofString "Ref.__init__"), dPar (inCls (sOf 47) 0), .stmts (dBody (inCls (sOf 47) 0)), dScope (inCls (sOf 47) 0), 3, [], (.ref 374), .none, .none, (.str (.ofString "perlcore.values") 602), none, (.ref 380), .none, 0⟩), #[]⟩
noncomputable def o385 : Obj := ⟨(.type "tuple"), none, (.seq (List.toArray [(.str (.ofString "is_weak") 774), (.str (.ofString "target") 775)]) 0), #[]⟩
noncomputable def o386 (P : Params) : Obj := ⟨(.type "dict"), none, (.dict (List.toArray [de P "__module__" 760 (.str (.ofString "perlcore.values") 602), de P "__firstlineno__" 764 (.int (.ofNat 283) 763), de P "__init__" 773 (.ref 381), de P "__static_attributes__" 776 (.ref 382), de P "__dict__" 778 (.ref 385), de P "__weakref__" 780 (.ref 386), de P "__doc__" 781 .none]) 4), #[]⟩
noncomputable def o387 : Obj := ⟨(.type "type"), none, (.cls ⟨(.ofString "Ref"), [(.type "object")], [(.ref 384), (.type "object")], 383, (.ofString "Ref"), true, [], [], false, none, false⟩), (List.toArray [none, none, (some (.str (.ofString "Ref") 753)), (some (.str (.ofString "Ref") 761)), (some (.builtin "object.__new__")), (some (.bool true))])⟩
noncomputable def o388 : Obj := ⟨(.type "getset_descriptor"), none, (.fields (List.toArray [(.str (.ofString "__dict__") 777), (.ref 384), (.builtin "function.__dict__"), (.builtin "function.__dict__#set")])), #[]⟩
noncomputable def o389 : Obj := ⟨(.type "getset_descriptor"), none, (.fields (List.toArray [(.str (.ofString "__weakref__") 779), (.ref 384), (.builtin "ExceptionGroup.__weakref__"), .none])), #[]⟩
noncomputable def o390 : Obj := ⟨(.type "super"), none, (.fields (List.toArray [(.ref 384), (.ref 384), (.ref 384)])), #[]⟩
noncomputable def o391 : Obj := ⟨(.type "builtin_function_or_method"), none, (.fields (List.toArray [(.builtin "object.__init_subclass__"), (.ref 384)])), #[]⟩
noncomputable def o392 : Obj := ⟨(.type "tuple"), none, (.seq #[] 0), #[]⟩
noncomputable def o393 : Obj := ⟨.none, none, (.fields #[]), #[]⟩
noncomputable def o394 : Obj := ⟨(.type "tuple"), none, (.seq (List.toArray [(.str (.ofString "thing") 787)]) 0), #[]⟩
noncomputable def o395 : Obj := ⟨(.type "tuple"), none, (.seq #[] 0), #[]⟩
noncomputable def o396 : Obj := ⟨.none, none, (.func ⟨(.ofString "thing_word"), (.ofString "thing_word"), dPar (sOf 48), .stmts (dBody (sOf 48)), dScope (sOf 48), 0, [], .none, .none, .none, .none, none, .none, .none, 0⟩), #[]⟩
noncomputable def o397 : Obj := ⟨(.type "code"), none, (.fields (List.toArray [(.str (.ofString "thing_word") 784), (.str (.ofString "thing_word") 785), (.str (.ofString "/claim/cut.py") 786), (.int (.ofNat 288) 0), (.int (.ofNat 1) 0), (.int (.ofNat 0) 0), (.int (.ofNat 0) 0), (.int (.ofNat 3) 0), (.ref 389), (.bool true), (.int (.ofNat 181) 0), (.ref 390), .none, (.ref 391), (.ref 392), (.ref 393), (.int (.ofNat 788) 0), (.int (.ofNat 288) 0), (.str (.ofString "/claim/cut.py") 789)])), #[]⟩
noncomputable def o398 : Obj := ⟨(.type "function"), none, (.func ⟨(.ofString "thing_word"), (.ofString "thing_word"), dPar (sOf 48), .stmts (dBody (sOf 48)), dScope (sOf 48), 3, [], .none, .none, .none, (.str (.ofString "perlcore.values") 602), none, (.ref 394), .none, 0⟩), #[]⟩
noncomputable def o399 : Obj := ⟨(.type "tuple"), none, (.seq #[] 0), #[]⟩
noncomputable def o400 : Obj := ⟨.none, none, (.fields #[]), #[]⟩
noncomputable def o401 : Obj := ⟨(.type "tuple"), none, (.seq (List.toArray [(.str (.ofString "number") 794), (.str (.ofString "text") 795)]) 0), #[]⟩
noncomputable def o402 : Obj := ⟨(.type "tuple"), none, (.seq #[] 0), #[]⟩
noncomputable def o403 : Obj := ⟨.none, none, (.func ⟨(.ofString "hex_of"), (.ofString "hex_of"), dPar (sOf 49), .stmts (dBody (sOf 49)), dScope (sOf 49), 0, [], .none, .none, .none, .none, none, .none, .none, 0⟩), #[]⟩
noncomputable def o404 : Obj := ⟨(.type "code"), none, (.fields (List.toArray [(.str (.ofString "hex_of") 791), (.str (.ofString "hex_of") 792), (.str (.ofString "/claim/cut.py") 793), (.int (.ofNat 300) 0), (.int (.ofNat 1) 0), (.int (.ofNat 0) 0), (.int (.ofNat 0) 0), (.int (.ofNat 3) 0), (.ref 396), (.bool true), (.int (.ofNat 181) 0), (.ref 397), .none, (.ref 398), (.ref 399), (.ref 400), (.int (.ofNat 796) 0), (.int (.ofNat 300) 0), (.str (.ofString "/claim/cut.py") 797)])), #[]⟩
noncomputable def o405 : Obj := ⟨(.type "function"), none, (.func ⟨(.ofString "hex_of"), (.ofString "hex_of"), dPar (sOf 49), .stmts (dBody (sOf 49)), dScope (sOf 49), 3, [], .none, .none, .none, (.str (.ofString "perlcore.values") 602), none, (.ref 401), .none, 0⟩), #[]⟩
noncomputable def o406 : Obj := ⟨(.type "tuple"), none, (.seq #[] 0), #[]⟩
noncomputable def o407 : Obj := ⟨.none, none, (.fields #[]), #[]⟩
noncomputable def o408 : Obj := ⟨(.type "tuple"), none, (.seq (List.toArray [(.str (.ofString "ref") 802), (.str (.ofString "text") 803)]) 0), #[]⟩
noncomputable def o409 : Obj := ⟨(.type "tuple"), none, (.seq #[] 0), #[]⟩
noncomputable def o410 : Obj := ⟨.none, none, (.func ⟨(.ofString "ref_text"), (.ofString "ref_text"), dPar (sOf 50), .stmts (dBody (sOf 50)), dScope (sOf 50), 0, [], .none, .none, .none, .none, none, .none, .none, 0⟩), #[]⟩
noncomputable def o411 : Obj := ⟨(.type "code"), none, (.fields (List.toArray [(.str (.ofString "ref_text") 799), (.str (.ofString "ref_text") 800), (.str (.ofString "/claim/cut.py") 801), (.int (.ofNat 306) 0), (.int (.ofNat 1) 0), (.int (.ofNat 0) 0), (.int (.ofNat 0) 0), (.int (.ofNat 3) 0), (.ref 403), (.bool true), (.int (.ofNat 181) 0), (.ref 404), .none, (.ref 405), (.ref 406), (.ref 407), (.int (.ofNat 804) 0), (.int (.ofNat 306) 0), (.str (.ofString "/claim/cut.py") 805)])), #[]⟩
noncomputable def o412 : Obj := ⟨(.type "function"), none, (.func ⟨(.ofString "ref_text"), (.ofString "ref_text"), dPar (sOf 50), .stmts (dBody (sOf 50)), dScope (sOf 50), 3, [], .none, .none, .none, (.str (.ofString "perlcore.values") 602), none, (.ref 408), .none, 0⟩), #[]⟩
noncomputable def t6 (P : Params) : BT := (.node (boot_o_0 P) (.node (boot_o_1 P) (.node (o348 P) (.node (boot_o_7 P) (.node o7 (.node o23 (.node o55 (.node o122 (.node o252 .nil .nil) (.node (o386 P) .nil .nil)) (.node o186 (.node o319 .nil .nil) .nil)) (.node o90 (.node o154 (.node o284 .nil .nil) .nil) (.node o220 (.node o354 .nil .nil) .nil))) (.node o39 (.node o74 (.node o138 (.node o268 .nil .nil) (.node o402 .nil .nil)) (.node o204 (.node o335 .nil .nil) .nil)) (.node (o106 P) (.node o170 (.node o303 .nil .nil) .nil) (.node o236 (.node o370 .nil .nil) .nil)))) (.node o15 (.node o31 (.node o63 (.node o130 (.node o260 .nil .nil) (.node o394 .nil .nil)) (.node o194 (.node o327 .nil .nil) .nil)) (.node o98 (.node o162 (.node o295 .nil .nil) .nil) (.node o228 (.node o362 .nil .nil) .nil))) (.node o47 (.node o82 (.node o146 (.node o276 .nil .nil) (.node o410 .nil .nil)) (.node o212 (.node o343 .nil .nil) .nil)) (.node o114 (.node o178 (.node o311 .nil .nil) .nil) (.node o244 (.node o378 .nil .nil) .nil))))) (.node o0 (.node o11 (.node o27 (.node o59 (.node o126 (.node o256 .nil .nil) (.node o390 .nil .nil)) (.node o190 (.node o323 .nil .nil) .nil)) (.node o94 (.node o158 (.node o291 .nil .nil) .nil) (.node o224 (.node o358 .nil .nil) .nil))) (.node o43 (.node o78 (.node o142 (.node o272 .nil .nil) (.node o406 .nil .nil)) (.node o208 (.node o339 .nil .nil) .nil)) (.node o110 (.node o174 (.node o307 .nil .nil) .nil) (.node o240 (.node o374 .nil .nil) .nil)))) (.node o19 (.node o35 (.node o70 (.node o134 (.node o264 .nil .nil) (.node o398 .nil .nil)) (.node o198 (.node (o331 P) .nil .nil) .nil)) (.node o102 (.node o166 (.node o299 .nil .nil) .nil) (.node o232 (.node (o366 P) .nil .nil) .nil))) (.node o51 (.node o86 (.node o150 (.node o280 .nil .nil) .nil) (.node o216 (.node o347 .nil .nil) .nil)) (.node o118 (.node o182 (.node o315 .nil .nil) .nil) (.node o248 (.node o382 .nil .nil) .nil)))))) (.node (boot_o_5 P) (.node (boot_o_9 P) (.node (o9 P) (.node o25 (.node o57 (.node o124 (.node o254 .nil .nil) (.node o388 .nil .nil)) (.node o188 (.node o321 .nil .nil) .nil)) (.node o92 (.node o156 (.node o286 .nil .nil) .nil) (.node o222 (.node o356 .nil .nil) .nil))) (.node o41 (.node o76 (.node o140 (.node o270 .nil .nil) (.node o404 .nil .nil)) (.node o206 (.node o337 .nil .nil) .nil)) (.node o108 (.node o172 (.node o305 .nil .nil) .nil) (.node o238 (.node (o372 P) .nil .nil) .nil)))) (.node o17 (.node o33 (.node (o66 P) (.node o132 (.node o262 .nil .nil) (.node o396 .nil .nil)) (.node o196 (.node o329 .nil .nil) .nil)) (.node o100 (.node o164 (.node o297 .nil .nil) .nil) (.node o230 (.node o364 .nil .nil) .nil))) (.node o49 (.node o84 (.node o148 (.node o278 .nil .nil) (.node o412 .nil .nil)) (.node o214 (.node o345 .nil .nil) .nil)) (.node o116 (.node o180 (.node o313 .nil .nil) .nil) (.node o246 (.node o380 .nil .nil) .nil))))) (.node o2 (.node o13 (.node (o29 P) (.node (o61 P) (.node o128 (.node o258 .nil .nil) (.node o392 .nil .nil)) (.node o192 (.node (o325 P) .nil .nil) .nil)) (.node o96 (.node o160 (.node (o293 P) .nil .nil) .nil) (.node o226 (.node o360 .nil .nil) .nil))) (.node o45 (.node o80 (.node o144 (.node o274 .nil .nil) (.node o408 .nil .nil)) (.node o210 (.node o341 .nil .nil) .nil)) (.node o112 (.node o176 (.node o309 .nil .nil) .nil) (.node o242 (.node o376 .nil .nil) .nil)))) (.node o21 (.node o37 (.node o72 (.node o136 (.node o266 .nil .nil) (.node o400 .nil .nil)) (.node o200 (.node o333 .nil .nil) .nil)) (.node o104 (.node o168 (.node o301 .nil .nil) .nil) (.node o234 (.node o368 .nil .nil) .nil))) (.node o53 (.node o88 (.node o152 (.node (o282 P) .nil .nil) .nil) (.node o218 (.node o352 .nil .nil) .nil)) (.node o120 (.node o184 (.node o317 .nil .nil) .nil) (.node o250 (.node o384 .nil .nil) .nil))))))) (.node (o4 P) (.node (boot_o_4 P) (.node (boot_o_8 P) (.node o8 (.node o24 (.node o56 (.node o123 (.node o253 .nil .nil) (.node o387 .nil .nil)) (.node o187 (.node o320 .nil .nil) .nil)) (.node o91 (.node o155 (.node o285 .nil .nil) .nil) (.node o221 (.node o355 .nil .nil) .nil))) (.node o40 (.node o75 (.node o139 (.node (o269 P) .nil .nil) (.node o403 .nil .nil)) (.node o205 (.node o336 .nil .nil) .nil)) (.node o107 (.node o171 (.node o304 .nil .nil) .nil) (.node o237 (.node o371 .nil .nil) .nil)))) (.node o16 (.node o32 (.node o64 (.node o131 (.node o261 .nil .nil) (.node o395 .nil .nil)) (.node o195 (.node o328 .nil .nil) .nil)) (.node o99 (.node o163 (.node o296 .nil .nil) .nil) (.node o229 (.node o363 .nil .nil) .nil))) (.node (o48 P) (.node o83 (.node o147 (.node o277 .nil .nil) (.node o411 .nil .nil)) (.node o213 (.node (o344 P) .nil .nil) .nil)) (.node o115 (.node o179 (.node (o312 P) .nil .nil) .nil) (.node o245 (.node o379 .nil .nil) .nil))))) (.node o349 (.node o12 (.node o28 (.node o60 (.node o127 (.node o257 .nil .nil) (.node o391 .nil .nil)) (.node o191 (.node o324 .nil .nil) .nil)) (.node o95 (.node o159 (.node o292 .nil .nil) .nil) (.node o225 (.node o359 .nil .nil) .nil))) (.node o44 (.node o79 (.node o143 (.node o273 .nil .nil) (.node o407 .nil .nil)) (.node o209 (.node o340 .nil .nil) .nil)) (.node o111 (.node o175 (.node o308 .nil .nil) .nil) (.node o241 (.node o375 .nil .nil) .nil)))) (.node o20 (.node o36 (.node o71 (.node o135 (.node o265 .nil .nil) (.node o399 .nil .nil)) (.node o199 (.node o332 .nil .nil) .nil)) (.node o103 (.node o167 (.node o300 .nil .nil) .nil) (.node o233 (.node o367 .nil .nil) .nil))) (.node o52 (.node o87 (.node o151 (.node o281 .nil .nil) .nil) (.node o217 (.node o351 .nil .nil) .nil)) (.node (o119 P) (.node o183 (.node o316 .nil .nil) .nil) (.node o249 (.node o383 .nil .nil) .nil)))))) (.node (boot_o_6 P) (.node (boot_o_10 P) (.node o10 (.node o26 (.node o58 (.node o125 (.node o255 .nil .nil) (.node o389 .nil .nil)) (.node o189 (.node o322 .nil .nil) .nil)) (.node o93 (.node o157 (.node o287 .nil .nil) .nil) (.node o223 (.node o357 .nil .nil) .nil))) (.node (o42 P) (.node o77 (.node o141 (.node o271 .nil .nil) (.node o405 .nil .nil)) (.node o207 (.node o338 .nil .nil) .nil)) (.node o109 (.node o173 (.node (o306 P) .nil .nil) .nil) (.node o239 (.node o373 .nil .nil) .nil)))) (.node o18 (.node o34 (.node o69 (.node o133 (.node o263 .nil .nil) (.node o397 .nil .nil)) (.node o197 (.node o330 .nil .nil) .nil)) (.node o101 (.node o165 (.node o298 .nil .nil) .nil) (.node o231 (.node o365 .nil .nil) .nil))) (.node o50 (.node o85 (.node o149 (.node o279 .nil .nil) .nil) (.node o215 (.node o346 .nil .nil) .nil)) (.node o117 (.node o181 (.node o314 .nil .nil) .nil) (.node o247 (.node o381 .nil .nil) .nil))))) (.node o3 (.node o14 (.node o30 (.node o62 (.node o129 (.node o259 .nil .nil) (.node o393 .nil .nil)) (.node o193 (.node o326 .nil .nil) .nil)) (.node o97 (.node o161 (.node o294 .nil .nil) .nil) (.node o227 (.node o361 .nil .nil) .nil))) (.node o46 (.node o81 (.node o145 (.node o275 .nil .nil) (.node o409 .nil .nil)) (.node o211 (.node o342 .nil .nil) .nil)) (.node o113 (.node o177 (.node o310 .nil .nil) .nil) (.node o243 (.node o377 .nil .nil) .nil)))) (.node (o22 P) (.node o38 (.node o73 (.node o137 (.node o267 .nil .nil) (.node o401 .nil .nil)) (.node o201 (.node o334 .nil .nil) .nil)) (.node o105 (.node o169 (.node o302 .nil .nil) .nil) (.node o235 (.node o369 .nil .nil) .nil))) (.node o54 (.node o89 (.node o153 (.node o350 .nil .nil) .nil) (.node o219 (.node (o353 P) .nil .nil) .nil)) (.node o121 (.node o185 (.node o318 .nil .nil) .nil) (.node o251 (.node o385 .nil .nil) .nil))))))))
noncomputable def o413 (P : Params) : Obj := ⟨(.type "dict"), none, (.dict (List.toArray [de P "__name__" 165 (.str (.ofString "perlcore.limits") 913), de P "__doc__" 166 .none, de P "__package__" 167 .none, de P "__loader__" 168 (.builtin "__main__.__loader__#opaque"), de P "__spec__" 169 .none, de P "__annotations__" 170 (.ref 6), de P "__builtins__" 171 (.ref 4), de P "__file__" 173 (.str (.ofString "/claim/cut.py") 172), de P "__cached__" 174 .none, de P "PerlError" 217 (.ref 31), de P "Die" 242 (.ref 51), de P "SyntaxDie" 268 (.ref 70), de P "SHORT_ESCAPES" 292 (.ref 73), de P "CODE_FIGURES" 294 (.str (.ofString "0123456789abcdef") 293), de P "TOP_CODE" 296 (.int (.ofNat 1114111) 295), de P "digits_value" 309 (.ref 80), de P "coded_sign" 316 (.ref 87), de P "braced_code" 328 (.ref 94), de P "escape_at" 339 (.ref 101), de P "great_letter" 346 (.ref 108), de P "KEPT_SIGN" 351 (.int (.negSucc 0) 350), de P "DROPPED_SIGN" 354 (.int (.negSucc 1) 353), de P "TransTable" 393 (.ref 125), de P "guarded_at" 402 (.ref 136), de P "trans_signs" 412 (.ref 143), de P "trans_codes" 426 (.ref 150), de P "plain_table" 438 (.ref 157), de P "sorted_once" 447 (.ref 164), de P "make_trans" 460 (.ref 171), de P "rank_outside" 471 (.ref 178), de P "turned_code" 480 (.ref 185), de P "trans_code" 488 (.ref 192), de P "run_trans" 501 (.ref 199), de P "trans_text" 512 (.ref 206), de P "FIGURES" 516 (.str (.ofString "0123456789") 515), de P "SPACES" 518 (.str (.ofString " \t\n\x0d\x0c\x0b") 517), de P "wrap_number" 526 (.ref 213), de P "shift_up" 535 (.ref 220), de P "shift_down" 544 (.ref 227), de P "and_numbers" 553 (.ref 234), de P "or_numbers" 562 (.ref 241), de P "xor_numbers" 571 (.ref 248), de P "number_head" 581 (.ref 255), de P "numeric_text" 593 (.ref 262), de P "number_text" 601 (.ref 269), de P "HEX_FIGURES" 605 (.str (.ofString "0123456789abcdef") 604), de P "Thing" 639 (.ref 286), de P "Array" 665 (.ref 307), de P "Hash" 692 (.ref 326), de P "Code" 722 (.ref 345), de P "Glob" 752 (.ref 364), de P "Ref" 783 (.ref 384), de P "thing_word" 790 (.ref 395), de P "hex_of" 798 (.ref 402), de P "ref_text" 806 (.ref 409), de P "LAST_CODE" 810 (.int (.ofNat 1114111) 809), de P "WIDE_TEXT" 812 (.str (.ofString "Use of strings with code points over 0xFF as arguments to ") 811), de P "to_text" 819 (.ref 416), de P "to_number" 827 (.ref 423), de P "text_bits" 843 (.ref 430), de P "by_numbers" 853 (.ref 437), de P "op_shift_up" 862 (.ref 444), de P "op_shift_down" 871 (.ref 451), de P "go_by_signs" 879 (.ref 458), de P "op_bit_and" 888 (.ref 465), de P "op_bit_or" 897 (.ref 472), de P "op_bit_xor" 906 (.ref 479), de P "bit_ops" 912 (.ref 486)]) 68), #[]⟩
noncomputable def o414 : Obj := ⟨.none, none, (.fields (List.toArray [(.int (.ofNat 2) 0), (.int (.ofNat 0) 0), (.ref 20), (.int (.ofNat 7) 0), (.int (.ofNat 0) 0), (.ref 40), (.int (.ofNat 12) 0), (.int (.ofNat 0) 0), (.ref 59), (.int (.ofNat 21) 0), (.int (.ofNat 0) 0), (.ref 79), (.int (.ofNat 31) 0), (.int (.ofNat 0) 0), (.ref 86), (.int (.ofNat 35) 0), (.int (.ofNat 0) 0), (.ref 93), (.int (.ofNat 41) 0), (.int (.ofNat 0) 0), (.ref 100), (.int (.ofNat 64) 0), (.int (.ofNat 0) 0), (.ref 107), (.int (.ofNat 71) 0), (.int (.ofNat 0) 0), (.ref 114), (.int (.ofNat 80) 0), (.int (.ofNat 0) 0), (.ref 135), (.int (.ofNat 85) 0), (.int (.ofNat 0) 0), (.ref 142), (.int (.ofNat 96) 0), (.int (.ofNat 0) 0), (.ref 149), (.int (.ofNat 114) 0), (.int (.ofNat 0) 0), (.ref 156), (.int (.ofNat 129) 0), (.int (.ofNat 0) 0), (.ref 163), (.int (.ofNat 135) 0), (.int (.ofNat 0) 0), (.ref 170), (.int (.ofNat 142) 0), (.int (.ofNat 0) 0), (.ref 177), (.int (.ofNat 153) 0), (.int (.ofNat 0) 0), (.ref 184), (.int (.ofNat 164) 0), (.int (.ofNat 0) 0), (.ref 191), (.int (.ofNat 168) 0), (.int (.ofNat 0) 0), (.ref 198), (.int (.ofNat 184) 0), (.int (.ofNat 0) 0), (.ref 205), (.int (.ofNat 189) 0), (.int (.ofNat 0) 0), (.ref 212), (.int (.ofNat 194) 0), (.int (.ofNat 0) 0), (.ref 219), (.int (.ofNat 200) 0), (.int (.ofNat 0) 0), (.ref 226), (.int (.ofNat 206) 0), (.int (.ofNat 0) 0), (.ref 233), (.int (.ofNat 208) 0), (.int (.ofNat 0) 0), (.ref 240), (.int (.ofNat 210) 0), (.int (.ofNat 0) 0), (.ref 247), (.int (.ofNat 212) 0), (.int (.ofNat 0) 0), (.ref 254), (.int (.ofNat 225) 0), (.int (.ofNat 0) 0), (.ref 261), (.int (.ofNat 234) 0), (.int (.ofNat 0) 0), (.ref 268), (.int (.ofNat 244) 0), (.int (.ofNat 0) 0), (.ref 275), (.int (.ofNat 253) 0), (.int (.ofNat 0) 0), (.ref 296), (.int (.ofNat 259) 0), (.int (.ofNat 0) 0), (.ref 315), (.int (.ofNat 266) 0), (.int (.ofNat 0) 0), (.ref 334), (.int (.ofNat 274) 0), (.int (.ofNat 0) 0), (.ref 353), (.int (.ofNat 283) 0), (.int (.ofNat 0) 0), (.ref 372), (.int (.ofNat 288) 0), (.int (.ofNat 0) 0), (.ref 394), (.int (.ofNat 300) 0), (.int (.ofNat 0) 0), (.ref 401), (.int (.ofNat 306) 0), (.int (.ofNat 0) 0), (.ref 408), (.int (.ofNat 314) 0), (.int (.ofNat 0) 0), (.ref 415), (.int (.ofNat 322) 0), (.int (.ofNat 0) 0), (.ref 422), (.int (.ofNat 330) 0), (.int (.ofNat 0) 0), (.ref 429), (.int (.ofNat 346) 0), (.int (.ofNat 0) 0), (.ref 436), (.int (.ofNat 348) 0), (.int (.ofNat 0) 0), (.ref 443), (.int (.ofNat 350) 0), (.int (.ofNat 0) 0), (.ref 450), (.int (.ofNat 352) 0), (.int (.ofNat 0) 0), (.ref 457), (.int (.ofNat 354) 0), (.int (.ofNat 0) 0), (.ref 464), (.int (.ofNat 358) 0), (.int (.ofNat 0) 0), (.ref 471), (.int (.ofNat 362) 0), (.int (.ofNat 0) 0), (.ref 478), (.int (.ofNat 366) 0), (.int (.ofNat 0) 0), (.ref 485)])), #[]⟩
noncomputable def o415 : Obj := ⟨(.type "tuple"), none, (.seq #[] 0), #[]⟩
noncomputable def o416 : Obj := ⟨.none, none, (.fields #[]), #[]⟩
noncomputable def o417 : Obj := ⟨(.type "tuple"), none, (.seq (List.toArray [(.str (.ofString "value") 816)]) 0), #[]⟩
noncomputable def o418 : Obj := ⟨(.type "tuple"), none, (.seq #[] 0), #[]⟩
noncomputable def o419 : Obj := ⟨.none, none, (.func ⟨(.ofString "to_text"), (.ofString "to_text"), dPar (sOf 54), .stmts (dBody (sOf 54)), dScope (sOf 54), 0, [], .none, .none, .none, .none, none, .none, .none, 0⟩), #[]⟩
noncomputable def o420 : Obj := ⟨(.type "code"), none, (.fields (List.toArray [(.str (.ofString "to_text") 813), (.str (.ofString "to_text") 814), (.str (.ofString "/claim/cut.py") 815), (.int (.ofNat 314) 0), (.int (.ofNat 1) 0), (.int (.ofNat 0) 0), (.int (.ofNat 0) 0), (.int (.ofNat 3) 0), (.ref 410), (.bool true), (.int (.ofNat 181) 0), (.ref 411), .none, (.ref 412), (.ref 413), (.ref 414), (.int (.ofNat 817) 0), (.int (.ofNat 314) 0), (.str (.ofString "/claim/cut.py") 818)])), #[]⟩
noncomputable def o421 : Obj := ⟨(.type "function"), none, (.func ⟨(.ofString "to_text"), (.ofString "to_text"), dPar (sOf 54), .stmts (dBody (sOf 54)), dScope (sOf 54), 3, [], .none, .none, .none, (.str (.ofString "perlcore.convert") 807), none, (.ref 415), .none, 0⟩), #[]⟩
noncomputable def o422 : Obj := ⟨(.type "tuple"), none, (.seq #[] 0), #[]⟩
noncomputable def o423 : Obj := ⟨.none, none, (.fields #[]), #[]⟩
noncomputable def o424 : Obj := ⟨(.type "tuple"), none, (.seq (List.toArray [(.str (.ofString "value") 823), (.str (.ofString "limits") 824)]) 0), #[]⟩
noncomputable def o425 : Obj := ⟨(.type "tuple"), none, (.seq #[] 0), #[]⟩
noncomputable def o426 : Obj := ⟨.none, none, (.func ⟨(.ofString "to_number"), (.ofString "to_number"), dPar (sOf 55), .stmts (dBody (sOf 55)), dScope (sOf 55), 0, [], .none, .none, .none, .none, none, .none, .none, 0⟩), #[]⟩
noncomputable def o427 : Obj := ⟨(.type "code"), none, (.fields (List.toArray [(.str (.ofString "to_number") 820), (.str (.ofString "to_number") 821), (.str (.ofString "/claim/cut.py") 822), (.int (.ofNat 322) 0), (.int (.ofNat 2) 0), (.int (.ofNat 0) 0), (.int (.ofNat 0) 0), (.int (.ofNat 3) 0), (.ref 417), (.bool true), (.int (.ofNat 181) 0), (.ref 418), .none, (.ref 419), (.ref 420), (.ref 421), (.int (.ofNat 825) 0), (.int (.ofNat 322) 0), (.str (.ofString "/claim/cut.py") 826)])), #[]⟩
noncomputable def o428 : Obj := ⟨(.type "function"), none, (.func ⟨(.ofString "to_number"), (.ofString "to_number"), dPar (sOf 55), .stmts (dBody (sOf 55)), dScope (sOf 55), 3, [], .none, .none, .none, (.str (.ofString "perlcore.convert") 807), none, (.ref 422), .none, 0⟩), #[]⟩
noncomputable def o429 : Obj := ⟨(.type "tuple"), none, (.seq #[] 0), #[]⟩
noncomputable def o430 : Obj := ⟨.none, none, (.fields #[]), #[]⟩
noncomputable def o431 : Obj := ⟨(.type "tuple"), none, (.seq (List.toArray [(.str (.ofString "op") 831), (.str (.ofString "x") 832), (.str (.ofString "y") 833), (.str (.ofString "size") 834), (.str (.ofString "out") 835), (.str (.ofString "at") 836), (.str (.ofString "a") 837), (.str (.ofString "b") 838), (.str (.ofString "code") 839), (.str (.ofString "word") 840)]) 0), #[]⟩
noncomputable def o432 : Obj := ⟨(.type "tuple"), none, (.seq #[] 0), #[]⟩
noncomputable def o433 : Obj := ⟨.none, none, (.func ⟨(.ofString "text_bits"), (.ofString "text_bits"), dPar (sOf 56), .stmts (dBody (sOf 56)), dScope (sOf 56), 0, [], .none, .none, .none, .none, none, .none, .none, 0⟩), #[]⟩
noncomputable def o434 : Obj := ⟨(.type "code"), none, (.fields (List.toArray [(.str (.ofString "text_bits") 828), (.str (.ofString "text_bits") 829), (.str (.ofString "/claim/cut.py") 830), (.int (.ofNat 330) 0), (.int (.ofNat 3) 0), (.int (.ofNat 0) 0), (.int (.ofNat 0) 0), (.int (.ofNat 3) 0), (.ref 424), (.bool true), (.int (.ofNat 181) 0), (.ref 425), .none, (.ref 426), (.ref 427), (.ref 428), (.int (.ofNat 841) 0), (.int (.ofNat 330) 0), (.str (.ofString "/claim/cut.py") 842)])), #[]⟩
noncomputable def o435 : Obj := ⟨(.type "function"), none, (.func ⟨(.ofString "text_bits"), (.ofString "text_bits"), dPar (sOf 56), .stmts (dBody (sOf 56)), dScope (sOf 56), 3, [], .none, .none, .none, (.str (.ofString "perlcore.convert") 807), none, (.ref 429), .none, 0⟩), #[]⟩
noncomputable def o436 : Obj := ⟨(.type "tuple"), none, (.seq #[] 0), #[]⟩
noncomputable def o437 : Obj := ⟨.none, none, (.fields #[]), #[]⟩
noncomputable def o438 : Obj := ⟨(.type "tuple"), none, (.seq (List.toArray [(.str (.ofString "reckon") 847), (.str (.ofString "x") 848), (.str (.ofString "y") 849), (.str (.ofString "limits") 850)]) 0), #[]⟩
noncomputable def o439 : Obj := ⟨(.type "tuple"), none, (.seq #[] 0), #[]⟩
noncomputable def o440 : Obj := ⟨.none, none, (.func ⟨(.ofString "by_numbers"), (.ofString "by_numbers"), dPar (sOf 57), .stmts (dBody (sOf 57)), dScope (sOf 57), 0, [], .none, .none, .none, .none, none, .none, .none, 0⟩), #[]⟩
noncomputable def o441 : Obj := ⟨(.type "code"), none, (.fields (List.toArray [(.str (.ofString "by_numbers") 844), (.str (.ofString "by_numbers") 845), (.str (.ofString "/claim/cut.py") 846), (.int (.ofNat 346) 0), (.int (.ofNat 4) 0), (.int (.ofNat 0) 0), (.int (.ofNat 0) 0), (.int (.ofNat 3) 0), (.ref 431), (.bool true), (.int (.ofNat 181) 0), (.ref 432), .none, (.ref 433), (.ref 434), (.ref 435), (.int (.ofNat 851) 0), (.int (.ofNat 346) 0), (.str (.ofString "/claim/cut.py") 852)])), #[]⟩
noncomputable def o442 : Obj := ⟨(.type "function"), none, (.func ⟨(.ofString "by_numbers"), (.ofString "by_numbers"), dPar (sOf 57), .stmts (dBody (sOf 57)), dScope (sOf 57), 3, [], .none, .none, .none, (.str (.ofString "perlcore.convert") 807), none, (.ref 436), .none, 0⟩), #[]⟩
noncomputable def o443 : Obj := ⟨(.type "tuple"), none, (.seq #[] 0), #[]⟩
noncomputable def o444 : Obj := ⟨.none, none, (.fields #[]), #[]⟩
noncomputable def o445 : Obj := ⟨(.type "tuple"), none, (.seq (List.toArray [(.str (.ofString "x") 857), (.str (.ofString "y") 858), (.str (.ofString "limits") 859)]) 0), #[]⟩
noncomputable def o446 : Obj := ⟨(.type "tuple"), none, (.seq #[] 0), #[]⟩
noncomputable def o447 : Obj := ⟨.none, none, (.func ⟨(.ofString "op_shift_up"), (.ofString "op_shift_up"), dPar (sOf 58), .stmts (dBody (sOf 58)), dScope (sOf 58), 0, [], .none, .none, .none, .none, none, .none, .none, 0⟩), #[]⟩
noncomputable def o448 : Obj := ⟨(.type "code"), none, (.fields (List.toArray [(.str (.ofString "op_shift_up") 854), (.str (.ofString "op_shift_up") 855), (.str (.ofString "/claim/cut.py") 856), (.int (.ofNat 348) 0), (.int (.ofNat 3) 0), (.int (.ofNat 0) 0), (.int (.ofNat 0) 0), (.int (.ofNat 3) 0), (.ref 438), (.bool true), (.int (.ofNat 181) 0), (.ref 439), .none, (.ref 440), (.ref 441), (.ref 442), (.int (.ofNat 860) 0), (.int (.ofNat 348) 0), (.str (.ofString "/claim/cut.py") 861)])), #[]⟩
noncomputable def o449 : Obj := ⟨(.type "function"), none, (.func ⟨(.ofString "op_shift_up"), (.ofString "op_shift_up"), dPar (sOf 58), .stmts (dBody (sOf 58)), dScope (sOf 58), 3, [], .none, .none, .none, (.str (.ofString "perlcore.convert") 807), none, (.ref 443), .none, 0⟩), #[]⟩
noncomputable def o450 : Obj := ⟨(.type "tuple"), none, (.seq #[] 0), #[]⟩
noncomputable def o451 : Obj := ⟨.none, none, (.fields #[]), #[]⟩
noncomputable def o452 : Obj := ⟨(.type "tuple"), none, (.seq (List.toArray [(.str (.ofString "x") 866), (.str (.ofString "y") 867), (.str (.ofString "limits") 868)]) 0), #[]⟩
noncomputable def o453 : Obj := ⟨(.type "tuple"), none, (.seq #[] 0), #[]⟩
noncomputable def o454 : Obj := ⟨.none, none, (.func ⟨(.ofString "op_shift_down"), (.ofString "op_shift_down"), dPar (sOf 59), .stmts (dBody (sOf 59)), dScope (sOf 59), 0, [], .none, .none, .none, .none, none, .none, .none, 0⟩), #[]⟩
noncomputable def o455 : Obj := ⟨(.type "code"), none, (.fields (List.toArray [(.str (.ofString "op_shift_down") 863), (.str (.ofString "op_shift_down") 864), (.str (.ofString "/claim/cut.py") 865), (.int (.ofNat 350) 0), (.int (.ofNat 3) 0), (.int (.ofNat 0) 0), (.int (.ofNat 0) 0), (.int (.ofNat 3) 0), (.ref 445), (.bool true), (.int (.ofNat 181) 0), (.ref 446), .none, (.ref 447), (.ref 448), (.ref 449), (.int (.ofNat 869) 0), (.int (.ofNat 350) 0), (.str (.ofString "/claim/cut.py") 870)])), #[]⟩
noncomputable def o456 : Obj := ⟨(.type "function"), none, (.func ⟨(.ofString "op_shift_down"), (.ofString "op_shift_down"), dPar (sOf 59), .stmts (dBody (sOf 59)), dScope (sOf 59), 3, [], .none, .none, .none, (.str (.ofString "perlcore.convert") 807), none, (.ref 450), .none, 0⟩), #[]⟩
noncomputable def o457 : Obj := ⟨(.type "tuple"), none, (.seq #[] 0), #[]⟩
noncomputable def o458 : Obj := ⟨.none, none, (.fields #[]), #[]⟩
noncomputable def o459 : Obj := ⟨(.type "tuple"), none, (.seq (List.toArray [(.str (.ofString "x") 875), (.str (.ofString "y") 876)]) 0), #[]⟩
noncomputable def o460 : Obj := ⟨(.type "tuple"), none, (.seq #[] 0), #[]⟩
noncomputable def o461 : Obj := ⟨.none, none, (.func ⟨(.ofString "go_by_signs"), (.ofString "go_by_signs"), dPar (sOf 60), .stmts (dBody (sOf 60)), dScope (sOf 60), 0, [], .none, .none, .none, .none, none, .none, .none, 0⟩), #[]⟩
noncomputable def o462 : Obj := ⟨(.type "code"), none, (.fields (List.toArray [(.str (.ofString "go_by_signs") 872), (.str (.ofString "go_by_signs") 873), (.str (.ofString "/claim/cut.py") 874), (.int (.ofNat 352) 0), (.int (.ofNat 2) 0), (.int (.ofNat 0) 0), (.int (.ofNat 0) 0), (.int (.ofNat 3) 0), (.ref 452), (.bool true), (.int (.ofNat 181) 0), (.ref 453), .none, (.ref 454), (.ref 455), (.ref 456), (.int (.ofNat 877) 0), (.int (.ofNat 352) 0), (.str (.ofString "/claim/cut.py") 878)])), #[]⟩
noncomputable def o463 : Obj := ⟨(.type "function"), none, (.func ⟨(.ofString "go_by_signs"), (.ofString "go_by_signs"), dPar (sOf 60), .stmts (dBody (sOf 60)), dScope (sOf 60), 3, [], .none, .none, .none, (.str (.ofString "perlcore.convert") 807), none, (.ref 457), .none, 0⟩), #[]⟩
noncomputable def o464 : Obj := ⟨(.type "tuple"), none, (.seq #[] 0), #[]⟩
noncomputable def o465 : Obj := ⟨.none, none, (.fields #[]), #[]⟩
noncomputable def o466 : Obj := ⟨(.type "tuple"), none, (.seq (List.toArray [(.str (.ofString "x") 883), (.str (.ofString "y") 884), (.str (.ofString "limits") 885)]) 0), #[]⟩
noncomputable def o467 : Obj := ⟨(.type "tuple"), none, (.seq #[] 0), #[]⟩
noncomputable def o468 : Obj := ⟨.none, none, (.func ⟨(.ofString "op_bit_and"), (.ofString "op_bit_and"), dPar (sOf 61), .stmts (dBody (sOf 61)), dScope (sOf 61), 0, [], .none, .none, .none, .none, none, .none, .none, 0⟩), #[]⟩
noncomputable def o469 : Obj := ⟨(.type "code"), none, (.fields (List.toArray [(.str (.ofString "op_bit_and") 880), (.str (.ofString "op_bit_and") 881), (.str (.ofString "/claim/cut.py") 882), (.int (.ofNat 354) 0), (.int (.ofNat 3) 0), (.int (.ofNat 0) 0), (.int (.ofNat 0) 0), (.int (.ofNat 3) 0), (.ref 459), (.bool true), (.int (.ofNat 181) 0), (.ref 460), .none, (.ref 461), (.ref 462), (.ref 463), (.int (.ofNat 886) 0), (.int (.ofNat 354) 0), (.str (.ofString "/claim/cut.py") 887)])), #[]⟩
noncomputable def o470 : Obj := ⟨(.type "function"), none, (.func ⟨(.ofString "op_bit_and"), (.ofString "op_bit_and"), dPar (sOf 61), .stmts (dBody (sOf 61)), dScope (sOf 61), 3, [], .none, .none, .none, (.str (.ofString "perlcore.convert") 807), none, (.ref 464), .none, 0⟩), #[]⟩
noncomputable def o471 : Obj := ⟨(.type "tuple"), none, (.seq #[] 0), #[]⟩
noncomputable def o472 : Obj := ⟨.none, none, (.fields #[]), #[]⟩
noncomputable def o473 : Obj := ⟨(.type "tuple"), none, (.seq (List.toArray [(.str (.ofString "x") 892), (.str (.ofString "y") 893), (.str (.ofString "limits") 894)]) 0), #[]⟩
noncomputable def o474 : Obj := ⟨(.type "tuple"), none, (.seq #[] 0), #[]⟩
noncomputable def o475 : Obj := ⟨.none, none, (.func ⟨(.ofString "op_bit_or"), (.ofString "op_bit_or"), dPar (sOf 62), .stmts (dBody (sOf 62)), dScope (sOf 62), 0, [], .none, .none, .none, .none, none, .none, .none, 0⟩), #[]⟩
noncomputable def o476 : Obj := ⟨(.type "code"), none, (.fields (List.toArray [(.str (.ofString "op_bit_or") 889), (.str (.ofString "op_bit_or") 890), (.str (.ofString "/claim/cut.py") 891), (.int (.ofNat 358) 0), (.int (.ofNat 3) 0), (.int (.ofNat 0) 0), (.int (.ofNat 0) 0), (.int (.ofNat 3) 0), (.ref 466), (.bool true), (.int (.ofNat 181) 0), (.ref 467), .none, (.ref 468), (.ref 469), (.ref 470), (.int (.ofNat 895) 0), (.int (.ofNat 358) 0), (.str (.ofString "/claim/cut.py") 896)])), #[]⟩
noncomputable def o477 : Obj := ⟨(.type "function"), none, (.func ⟨(.ofString "op_bit_or"), (.ofString "op_bit_or"), dPar (sOf 62), .stmts (dBody (sOf 62)), dScope (sOf 62), 3, [], .none, .none, .none, (.str (.ofString "perlcore.convert") 807), none, (.ref 471), .none, 0⟩), #[]⟩
noncomputable def o478 : Obj := ⟨(.type "tuple"), none, (.seq #[] 0), #[]⟩
noncomputable def o479 : Obj := ⟨.none, none, (.fields #[]), #[]⟩
noncomputable def o480 : Obj := ⟨(.type "tuple"), none, (.seq (List.toArray [(.str (.ofString "x") 901), (.str (.ofString "y") 902), (.str (.ofString "limits") 903)]) 0), #[]⟩
noncomputable def o481 : Obj := ⟨(.type "tuple"), none, (.seq #[] 0), #[]⟩
noncomputable def o482 : Obj := ⟨.none, none, (.func ⟨(.ofString "op_bit_xor"), (.ofString "op_bit_xor"), dPar (sOf 63), .stmts (dBody (sOf 63)), dScope (sOf 63), 0, [], .none, .none, .none, .none, none, .none, .none, 0⟩), #[]⟩
noncomputable def o483 : Obj := ⟨(.type "code"), none, (.fields (List.toArray [(.str (.ofString "op_bit_xor") 898), (.str (.ofString "op_bit_xor") 899), (.str (.ofString "/claim/cut.py") 900), (.int (.ofNat 362) 0), (.int (.ofNat 3) 0), (.int (.ofNat 0) 0), (.int (.ofNat 0) 0), (.int (.ofNat 3) 0), (.ref 473), (.bool true), (.int (.ofNat 181) 0), (.ref 474), .none, (.ref 475), (.ref 476), (.ref 477), (.int (.ofNat 904) 0), (.int (.ofNat 362) 0), (.str (.ofString "/claim/cut.py") 905)])), #[]⟩
noncomputable def o484 : Obj := ⟨(.type "function"), none, (.func ⟨(.ofString "op_bit_xor"), (.ofString "op_bit_xor"), dPar (sOf 63), .stmts (dBody (sOf 63)), dScope (sOf 63), 3, [], .none, .none, .none, (.str (.ofString "perlcore.convert") 807), none, (.ref 478), .none, 0⟩), #[]⟩
noncomputable def o485 : Obj := ⟨(.type "tuple"), none, (.seq #[] 0), #[]⟩
noncomputable def o486 : Obj := ⟨.none, none, (.fields #[]), #[]⟩
noncomputable def o487 : Obj := ⟨(.type "tuple"), none, (.seq #[] 0), #[]⟩
noncomputable def o488 : Obj := ⟨(.type "tuple"), none, (.seq #[] 0), #[]⟩
noncomputable def o489 : Obj := ⟨.none, none, (.func ⟨(.ofString "bit_ops"), (.ofString "bit_ops"), dPar (sOf 64), .stmts (dBody (sOf 64)), dScope (sOf 64), 0, [], .none, .none, .none, .none, none, .none, .none, 0⟩), #[]⟩
noncomputable def o490 : Obj := ⟨(.type "code"), none, (.fields (List.toArray [(.str (.ofString "bit_ops") 907), (.str (.ofString "bit_ops") 908), (.str (.ofString "/claim/cut.py") 909), (.int (.ofNat 366) 0), (.int (.ofNat 0) 0), (.int (.ofNat 0) 0), (.int (.ofNat 0) 0), (.int (.ofNat 3) 0), (.ref 480), (.bool true), (.int (.ofNat 181) 0), (.ref 481), .none, (.ref 482), (.ref 483), (.ref 484), (.int (.ofNat 910) 0), (.int (.ofNat 366) 0), (.str (.ofString "/claim/cut.py") 911)])), #[]⟩
noncomputable def o491 : Obj := ⟨(.type "function"), none, (.func ⟨(.ofString "bit_ops"), (.ofString "bit_ops"), dPar (sOf 64), .stmts (dBody (sOf 64)), dScope (sOf 64), 3, [], .none, .none, .none, (.str (.ofString "perlcore.convert") 807), none, (.ref 485), .none, 0⟩), #[]⟩
noncomputable def t7 (P : Params) : BT := (.node (boot_o_0 P) (.node (boot_o_1 P) (.node (o413 P) (.node (boot_o_7 P) (.node o7 (.node o23 (.node o55 (.node o122 (.node o252 .nil .nil) (.node (o386 P) .nil .nil)) (.node o186 (.node o319 .nil .nil) (.node o452 .nil .nil))) (.node o90 (.node o154 (.node o284 .nil .nil) (.node o420 .nil .nil)) (.node o220 (.node o354 .nil .nil) (.node o484 .nil .nil)))) (.node o39 (.node o74 (.node o138 (.node o268 .nil .nil) (.node o402 .nil .nil)) (.node o204 (.node o335 .nil .nil) (.node o468 .nil .nil))) (.node (o106 P) (.node o170 (.node o303 .nil .nil) (.node o436 .nil .nil)) (.node o236 (.node o370 .nil .nil) .nil)))) (.node o15 (.node o31 (.node o63 (.node o130 (.node o260 .nil .nil) (.node o394 .nil .nil)) (.node o194 (.node o327 .nil .nil) (.node o460 .nil .nil))) (.node o98 (.node o162 (.node o295 .nil .nil) (.node o428 .nil .nil)) (.node o228 (.node o362 .nil .nil) .nil))) (.node o47 (.node o82 (.node o146 (.node o276 .nil .nil) (.node o410 .nil .nil)) (.node o212 (.node o343 .nil .nil) (.node o476 .nil .nil))) (.node o114 (.node o178 (.node o311 .nil .nil) (.node o444 .nil .nil)) (.node o244 (.node o378 .nil .nil) .nil))))) (.node o0 (.node o11 (.node o27 (.node o59 (.node o126 (.node o256 .nil .nil) (.node o390 .nil .nil)) (.node o190 (.node o323 .nil .nil) (.node o456 .nil .nil))) (.node o94 (.node o158 (.node o291 .nil .nil) (.node o424 .nil .nil)) (.node o224 (.node o358 .nil .nil) (.node o488 .nil .nil)))) (.node o43 (.node o78 (.node o142 (.node o272 .nil .nil) (.node o406 .nil .nil)) (.node o208 (.node o339 .nil .nil) (.node o472 .nil .nil))) (.node o110 (.node o174 (.node o307 .nil .nil) (.node o440 .nil .nil)) (.node o240 (.node o374 .nil .nil) .nil)))) (.node o19 (.node o35 (.node o70 (.node o134 (.node o264 .nil .nil) (.node o398 .nil .nil)) (.node o198 (.node (o331 P) .nil .nil) (.node o464 .nil .nil))) (.node o102 (.node o166 (.node o299 .nil .nil) (.node o432 .nil .nil)) (.node o232 (.node (o366 P) .nil .nil) .nil))) (.node o51 (.node o86 (.node o150 (.node o280 .nil .nil) (.node o416 .nil .nil)) (.node o216 (.node o347 .nil .nil) (.node o480 .nil .nil))) (.node o118 (.node o182 (.node o315 .nil .nil) (.node o448 .nil .nil)) (.node o248 (.node o382 .nil .nil) .nil)))))) (.node (boot_o_5 P) (.node (boot_o_9 P) (.node (o9 P) (.node o25 (.node o57 (.node o124 (.node o254 .nil .nil) (.node o388 .nil .nil)) (.node o188 (.node o321 .nil .nil) (.node o454 .nil .nil))) (.node o92 (.node o156 (.node o286 .nil .nil) (.node o422 .nil .nil)) (.node o222 (.node o356 .nil .nil) (.node o486 .nil .nil)))) (.node o41 (.node o76 (.node o140 (.node o270 .nil .nil) (.node o404 .nil .nil)) (.node o206 (.node o337 .nil .nil) (.node o470 .nil .nil))) (.node o108 (.node o172 (.node o305 .nil .nil) (.node o438 .nil .nil)) (.node o238 (.node (o372 P) .nil .nil) .nil)))) (.node o17 (.node o33 (.node (o66 P) (.node o132 (.node o262 .nil .nil) (.node o396 .nil .nil)) (.node o196 (.node o329 .nil .nil) (.node o462 .nil .nil))) (.node o100 (.node o164 (.node o297 .nil .nil) (.node o430 .nil .nil)) (.node o230 (.node o364 .nil .nil) .nil))) (.node o49 (.node o84 (.node o148 (.node o278 .nil .nil) (.node o412 .nil .nil)) (.node o214 (.node o345 .nil .nil) (.node o478 .nil .nil))) (.node o116 (.node o180 (.node o313 .nil .nil) (.node o446 .nil .nil)) (.node o246 (.node o380 .nil .nil) .nil))))) (.node o2 (.node o13 (.node (o29 P) (.node (o61 P) (.node o128 (.node o258 .nil .nil) (.node o392 .nil .nil)) (.node o192 (.node (o325 P) .nil .nil) (.node o458 .nil .nil))) (.node o96 (.node o160 (.node (o293 P) .nil .nil) (.node o426 .nil .nil)) (.node o226 (.node o360 .nil .nil) (.node o490 .nil .nil)))) (.node o45 (.node o80 (.node o144 (.node o274 .nil .nil) (.node o408 .nil .nil)) (.node o210 (.node o341 .nil .nil) (.node o474 .nil .nil))) (.node o112 (.node o176 (.node o309 .nil .nil) (.node o442 .nil .nil)) (.node o242 (.node o376 .nil .nil) .nil)))) (.node o21 (.node o37 (.node o72 (.node o136 (.node o266 .nil .nil) (.node o400 .nil .nil)) (.node o200 (.node o333 .nil .nil) (.node o466 .nil .nil))) (.node o104 (.node o168 (.node o301 .nil .nil) (.node o434 .nil .nil)) (.node o234 (.node o368 .nil .nil) .nil))) (.node o53 (.node o88 (.node o152 (.node (o282 P) .nil .nil) (.node o418 .nil .nil)) (.node o218 (.node o352 .nil .nil) (.node o482 .nil .nil))) (.node o120 (.node o184 (.node o317 .nil .nil) (.node o450 .nil .nil)) (.node o250 (.node o384 .nil .nil) .nil))))))) (.node (o4 P) (.node (boot_o_4 P) (.node (boot_o_8 P) (.node o8 (.node o24 (.node o56 (.node o123 (.node o253 .nil .nil) (.node o387 .nil .nil)) (.node o187 (.node o320 .nil .nil) (.node o453 .nil .nil))) (.node o91 (.node o155 (.node o285 .nil .nil) (.node o421 .nil .nil)) (.node o221 (.node o355 .nil .nil) (.node o485 .nil .nil)))) (.node o40 (.node o75 (.node o139 (.node (o269 P) .nil .nil) (.node o403 .nil .nil)) (.node o205 (.node o336 .nil .nil) (.node o469 .nil .nil))) (.node o107 (.node o171 (.node o304 .nil .nil) (.node o437 .nil .nil)) (.node o237 (.node o371 .nil .nil) .nil)))) (.node o16 (.node o32 (.node o64 (.node o131 (.node o261 .nil .nil) (.node o395 .nil .nil)) (.node o195 (.node o328 .nil .nil) (.node o461 .nil .nil))) (.node o99 (.node o163 (.node o296 .nil .nil) (.node o429 .nil .nil)) (.node o229 (.node o363 .nil .nil) .nil))) (.node (o48 P) (.node o83 (.node o147 (.node o277 .nil .nil) (.node o411 .nil .nil)) (.node o213 (.node (o344 P) .nil .nil) (.node o477 .nil .nil))) (.node o115 (.node o179 (.node (o312 P) .nil .nil) (.node o445 .nil .nil)) (.node o245 (.node o379 .nil .nil) .nil))))) (.node o414 (.node o12 (.node o28 (.node o60 (.node o127 (.node o257 .nil .nil) (.node o391 .nil .nil)) (.node o191 (.node o324 .nil .nil) (.node o457 .nil .nil))) (.node o95 (.node o159 (.node o292 .nil .nil) (.node o425 .nil .nil)) (.node o225 (.node o359 .nil .nil) (.node o489 .nil .nil)))) (.node o44 (.node o79 (.node o143 (.node o273 .nil .nil) (.node o407 .nil .nil)) (.node o209 (.node o340 .nil .nil) (.node o473 .nil .nil))) (.node o111 (.node o175 (.node o308 .nil .nil) (.node o441 .nil .nil)) (.node o241 (.node o375 .nil .nil) .nil)))) (.node o20 (.node o36 (.node o71 (.node o135 (.node o265 .nil .nil) (.node o399 .nil .nil)) (.node o199 (.node o332 .nil .nil) (.node o465 .nil .nil))) (.node o103 (.node o167 (.node o300 .nil .nil) (.node o433 .nil .nil)) (.node o233 (.node o367 .nil .nil) .nil))) (.node o52 (.node o87 (.node o151 (.node o281 .nil .nil) (.node o417 .nil .nil)) (.node o217 (.node o351 .nil .nil) (.node o481 .nil .nil))) (.node (o119 P) (.node o183 (.node o316 .nil .nil) (.node o449 .nil .nil)) (.node o249 (.node o383 .nil .nil) .nil)))))) (.node (boot_o_6 P) (.node (boot_o_10 P) (.node o10 (.node o26 (.node o58 (.node o125 (.node o255 .nil .nil) (.node o389 .nil .nil)) (.node o189 (.node o322 .nil .nil) (.node o455 .nil .nil))) (.node o93 (.node o157 (.node o287 .nil .nil) (.node o423 .nil .nil)) (.node o223 (.node o357 .nil .nil) (.node o487 .nil .nil)))) (.node (o42 P) (.node o77 (.node o141 (.node o271 .nil .nil) (.node o405 .nil .nil)) (.node o207 (.node o338 .nil .nil) (.node o471 .nil .nil))) (.node o109 (.node o173 (.node (o306 P) .nil .nil) (.node o439 .nil .nil)) (.node o239 (.node o373 .nil .nil) .nil)))) (.node o18 (.node o34 (.node o69 (.node o133 (.node o263 .nil .nil) (.node o397 .nil .nil)) (.node o197 (.node o330 .nil .nil) (.node o463 .nil .nil))) (.node o101 (.node o165 (.node o298 .nil .nil) (.node o431 .nil .nil)) (.node o231 (.node o365 .nil .nil) .nil))) (.node o50 (.node o85 (.node o149 (.node o279 .nil .nil) (.node o415 .nil .nil)) (.node o215 (.node o346 .nil .nil) (.node o479 .nil .nil))) (.node o117 (.node o181 (.node o314 .nil .nil) (.node o447 .nil .nil)) (.node o247 (.node o381 .nil .nil) .nil))))) (.node o3 (.node o14 (.node o30 (.node o62 (.node o129 (.node o259 .nil .nil) (.node o393 .nil .nil)) (.node o193 (.node o326 .nil .nil) (.node o459 .nil .nil))) (.node o97 (.node o161 (.node o294 .nil .nil) (.node o427 .nil .nil)) (.node o227 (.node o361 .nil .nil) (.node o491 .nil .nil)))) (.node o46 (.node o81 (.node o145 (.node o275 .nil .nil) (.node o409 .nil .nil)) (.node o211 (.node o342 .nil .nil) (.node o475 .nil .nil))) (.node o113 (.node o177 (.node o310 .nil .nil) (.node o443 .nil .nil)) (.node o243 (.node o377 .nil .nil) .nil)))) (.node (o22 P) (.node o38 (.node o73 (.node o137 (.node o267 .nil .nil) (.node o401 .nil .nil)) (.node o201 (.node o334 .nil .nil) (.node o467 .nil .nil))) (.node o105 (.node o169 (.node o302 .nil .nil) (.node o435 .nil .nil)) (.node o235 (.node o369 .nil .nil) .nil))) (.node o54 (.node o89 (.node o153 (.node o350 .nil .nil) (.node o419 .nil .nil)) (.node o219 (.node (o353 P) .nil .nil) (.node o483 .nil .nil))) (.node o121 (.node o185 (.node o318 .nil .nil) (.node o451 .nil .nil)) (.node o251 (.node o385 .nil .nil) .nil))))))))
noncomputable def o492 (P : Params) : Obj := ⟨(.type "dict"), none, (.dict (List.toArray [de P "__name__" 165 (.str (.ofString "law_tk0064_01") 972), de P "__doc__" 166 .none, de P "__package__" 167 .none, de P "__loader__" 168 (.builtin "__main__.__loader__#opaque"), de P "__spec__" 169 .none, de P "__annotations__" 170 (.ref 6), de P "__builtins__" 171 (.ref 4), de P "__file__" 173 (.str (.ofString "/claim/cut.py") 172), de P "__cached__" 174 .none, de P "PerlError" 217 (.ref 31), de P "Die" 242 (.ref 51), de P "SyntaxDie" 268 (.ref 70), de P "SHORT_ESCAPES" 292 (.ref 73), de P "CODE_FIGURES" 294 (.str (.ofString "0123456789abcdef") 293), de P "TOP_CODE" 296 (.int (.ofNat 1114111) 295), de P "digits_value" 309 (.ref 80), de P "coded_sign" 316 (.ref 87), de P "braced_code" 328 (.ref 94), de P "escape_at" 339 (.ref 101), de P "great_letter" 346 (.ref 108), de P "KEPT_SIGN" 351 (.int (.negSucc 0) 350), de P "DROPPED_SIGN" 354 (.int (.negSucc 1) 353), de P "TransTable" 393 (.ref 125), de P "guarded_at" 402 (.ref 136), de P "trans_signs" 412 (.ref 143), de P "trans_codes" 426 (.ref 150), de P "plain_table" 438 (.ref 157), de P "sorted_once" 447 (.ref 164), de P "make_trans" 460 (.ref 171), de P "rank_outside" 471 (.ref 178), de P "turned_code" 480 (.ref 185), de P "trans_code" 488 (.ref 192), de P "run_trans" 501 (.ref 199), de P "trans_text" 512 (.ref 206), de P "FIGURES" 516 (.str (.ofString "0123456789") 515), de P "SPACES" 518 (.str (.ofString " \t\n\x0d\x0c\x0b") 517), de P "wrap_number" 526 (.ref 213), de P "shift_up" 535 (.ref 220), de P "shift_down" 544 (.ref 227), de P "and_numbers" 553 (.ref 234), de P "or_numbers" 562 (.ref 241), de P "xor_numbers" 571 (.ref 248), de P "number_head" 581 (.ref 255), de P "numeric_text" 593 (.ref 262), de P "number_text" 601 (.ref 269), de P "HEX_FIGURES" 605 (.str (.ofString "0123456789abcdef") 604), de P "Thing" 639 (.ref 286), de P "Array" 665 (.ref 307), de P "Hash" 692 (.ref 326), de P "Code" 722 (.ref 345), de P "Glob" 752 (.ref 364), de P "Ref" 783 (.ref 384), de P "thing_word" 790 (.ref 395), de P "hex_of" 798 (.ref 402), de P "ref_text" 806 (.ref 409), de P "LAST_CODE" 810 (.int (.ofNat 1114111) 809), de P "WIDE_TEXT" 812 (.str (.ofString "Use of strings with code points over 0xFF as arguments to ") 811), de P "to_text" 819 (.ref 416), de P "to_number" 827 (.ref 423), de P "text_bits" 843 (.ref 430), de P "by_numbers" 853 (.ref 437), de P "op_shift_up" 862 (.ref 444), de P "op_shift_down" 871 (.ref 451), de P "go_by_signs" 879 (.ref 458), de P "op_bit_and" 888 (.ref 465), de P "op_bit_or" 897 (.ref 472), de P "op_bit_xor" 906 (.ref 479), de P "bit_ops" 912 (.ref 486), de P "Limits" 962 (.ref 504), de P "reverse_text" 971 (.ref 515), de P "_law_letters" 975 (.str (.ofString "abcdef") 974), de P "_law_rest" 1012 (.ref 516), de P "_law_dial" 1021 (.ref 523), de P "_law_tr" 1029 (.ref 530), de P "_law_turned" 1037 (.ref 537), de P "_law_tr_right" 1043 (.ref 542), de P "_law_keys_right" 1049 (.ref 547), de P "law" 1055 (.ref 552)]) 78), #[]⟩
noncomputable def o493 : Obj := ⟨.none, none, (.fields (List.toArray [(.int (.ofNat 2) 0), (.int (.ofNat 0) 0), (.ref 20), (.int (.ofNat 7) 0), (.int (.ofNat 0) 0), (.ref 40), (.int (.ofNat 12) 0), (.int (.ofNat 0) 0), (.ref 59), (.int (.ofNat 21) 0), (.int (.ofNat 0) 0), (.ref 79), (.int (.ofNat 31) 0), (.int (.ofNat 0) 0), (.ref 86), (.int (.ofNat 35) 0), (.int (.ofNat 0) 0), (.ref 93), (.int (.ofNat 41) 0), (.int (.ofNat 0) 0), (.ref 100), (.int (.ofNat 64) 0), (.int (.ofNat 0) 0), (.ref 107), (.int (.ofNat 71) 0), (.int (.ofNat 0) 0), (.ref 114), (.int (.ofNat 80) 0), (.int (.ofNat 0) 0), (.ref 135), (.int (.ofNat 85) 0), (.int (.ofNat 0) 0), (.ref 142), (.int (.ofNat 96) 0), (.int (.ofNat 0) 0), (.ref 149), (.int (.ofNat 114) 0), (.int (.ofNat 0) 0), (.ref 156), (.int (.ofNat 129) 0), (.int (.ofNat 0) 0), (.ref 163), (.int (.ofNat 135) 0), (.int (.ofNat 0) 0), (.ref 170), (.int (.ofNat 142) 0), (.int (.ofNat 0) 0), (.ref 177), (.int (.ofNat 153) 0), (.int (.ofNat 0) 0), (.ref 184), (.int (.ofNat 164) 0), (.int (.ofNat 0) 0), (.ref 191), (.int (.ofNat 168) 0), (.int (.ofNat 0) 0), (.ref 198), (.int (.ofNat 184) 0), (.int (.ofNat 0) 0), (.ref 205), (.int (.ofNat 189) 0), (.int (.ofNat 0) 0), (.ref 212), (.int (.ofNat 194) 0), (.int (.ofNat 0) 0), (.ref 219), (.int (.ofNat 200) 0), (.int (.ofNat 0) 0), (.ref 226), (.int (.ofNat 206) 0), (.int (.ofNat 0) 0), (.ref 233), (.int (.ofNat 208) 0), (.int (.ofNat 0) 0), (.ref 240), (.int (.ofNat 210) 0), (.int (.ofNat 0) 0), (.ref 247), (.int (.ofNat 212) 0), (.int (.ofNat 0) 0), (.ref 254), (.int (.ofNat 225) 0), (.int (.ofNat 0) 0), (.ref 261), (.int (.ofNat 234) 0), (.int (.ofNat 0) 0), (.ref 268), (.int (.ofNat 244) 0), (.int (.ofNat 0) 0), (.ref 275), (.int (.ofNat 253) 0), (.int (.ofNat 0) 0), (.ref 296), (.int (.ofNat 259) 0), (.int (.ofNat 0) 0), (.ref 315), (.int (.ofNat 266) 0), (.int (.ofNat 0) 0), (.ref 334), (.int (.ofNat 274) 0), (.int (.ofNat 0) 0), (.ref 353), (.int (.ofNat 283) 0), (.int (.ofNat 0) 0), (.ref 372), (.int (.ofNat 288) 0), (.int (.ofNat 0) 0), (.ref 394), (.int (.ofNat 300) 0), (.int (.ofNat 0) 0), (.ref 401), (.int (.ofNat 306) 0), (.int (.ofNat 0) 0), (.ref 408), (.int (.ofNat 314) 0), (.int (.ofNat 0) 0), (.ref 415), (.int (.ofNat 322) 0), (.int (.ofNat 0) 0), (.ref 422), (.int (.ofNat 330) 0), (.int (.ofNat 0) 0), (.ref 429), (.int (.ofNat 346) 0), (.int (.ofNat 0) 0), (.ref 436), (.int (.ofNat 348) 0), (.int (.ofNat 0) 0), (.ref 443), (.int (.ofNat 350) 0), (.int (.ofNat 0) 0), (.ref 450), (.int (.ofNat 352) 0), (.int (.ofNat 0) 0), (.ref 457), (.int (.ofNat 354) 0), (.int (.ofNat 0) 0), (.ref 464), (.int (.ofNat 358) 0), (.int (.ofNat 0) 0), (.ref 471), (.int (.ofNat 362) 0), (.int (.ofNat 0) 0), (.ref 478), (.int (.ofNat 366) 0), (.int (.ofNat 0) 0), (.ref 485), (.int (.ofNat 369) 0), (.int (.ofNat 0) 0), (.ref 492), (.int (.ofNat 378) 0), (.int (.ofNat 0) 0), (.ref 514), (.int (.ofNat 383) 0), (.int (.ofNat 0) 0), (.ref 522), (.int (.ofNat 387) 0), (.int (.ofNat 0) 0), (.ref 529), (.int (.ofNat 389) 0), (.int (.ofNat 0) 0), (.ref 536), (.int (.ofNat 391) 0), (.int (.ofNat 0) 0), (.ref 541), (.int (.ofNat 404) 0), (.int (.ofNat 0) 0), (.ref 546), (.int (.ofNat 417) 0), (.int (.ofNat 0) 0), (.ref 551)])), #[]⟩
noncomputable def o494 : Obj := ⟨(.type "tuple"), none, (.seq #[] 0), #[]⟩
noncomputable def o495 : Obj := ⟨(.type "builtin_function_or_method"), none, (.fields (List.toArray [(.builtin "type.__prepare__"), (.type "type")])), #[]⟩
noncomputable def o496 (P : Params) : Obj := ⟨(.type "dict"), none, (.dict (List.toArray [de P "__module__" 922 (.str (.ofString "perlcore.limits") 913), de P "__qualname__" 924 (.str (.ofString "Limits") 923), de P "__firstlineno__" 926 (.int (.ofNat 369) 925), de P "__init__" 949 (.ref 501), de P "__static_attributes__" 955 (.ref 502)]) 5), #[]⟩
noncomputable def o497 : Obj := ⟨(.type "tuple"), none, (.seq #[] 0), #[]⟩
noncomputable def o498 : Obj := ⟨.none, none, (.fields (List.toArray [(.int (.ofNat 371) 0), (.int (.ofNat 4) 0), (.ref 500)])), #[]⟩
noncomputable def o499 : Obj := ⟨(.type "code"), none, (.fields (List.toArray [(.str (.ofString "Limits") 917), (.str (.ofString "Limits") 918), (.str (.ofString "/claim/cut.py") 919), (.int (.ofNat 369) 0), (.int (.ofNat 0) 0), (.int (.ofNat 0) 0), (.int (.ofNat 0) 0), (.int (.ofNat 0) 0), (.ref 490), (.bool false), (.int (.ofNat 181) 0), (.ref 491), .none, .none, .none, .none, (.int (.ofNat 920) 0), (.int (.ofNat 369) 0), (.str (.ofString "/claim/cut.py") 921)])), #[]⟩
noncomputable def o500 : Obj := ⟨(.type "frame"), none, .plain, (List.toArray [(some (.ref 492)), (some (.ref 3)), (some (.ref 489)), none, (some (.str (.ofString "perlcore.limits") 913)), none, (some (.ref 0))])⟩
noncomputable def o501 : Obj := ⟨(.type "tuple"), none, (.seq (List.toArray [(.int (.ofNat 64) 927), (.int (.ofNat 50) 928), (.int (.ofNat 1000000) 931), (.int (.ofNat 100000) 934), (.int (.ofNat 10000) 937)]) 0), #[]⟩
noncomputable def o502 : Obj := ⟨(.type "tuple"), none, (.seq #[] 0), #[]⟩
noncomputable def o503 : Obj := ⟨.none, none, (.fields #[]), #[]⟩
noncomputable def o504 : Obj := ⟨(.type "tuple"), none, (.seq (List.toArray [(.str (.ofString "self") 941), (.str (.ofString "width") 942), (.str (.ofString "depth") 943), (.str (.ofString "steps") 944), (.str (.ofString "text") 945), (.str (.ofString "items") 946)]) 0), #[]⟩
noncomputable def o505 : Obj := ⟨(.type "tuple"), none, (.seq #[] 0), #[]⟩
noncomputable def o506 : Obj := ⟨.none, none, (.func ⟨(.ofString "__init__"), (.ofString "Limits.__init__"), dPar (inCls (sOf 66) 0), .stmts (dBody (inCls (sOf 66) 0)), dScope (inCls (sOf 66) 0), 0, [], .none, .none, .none, .none, none, .none, .none, 0⟩), #[]⟩
noncomputable def o507 : Obj := ⟨(.type "code"), none, (.fields (List.toArray [(.str (.ofString "__init__") 938), (.str (.ofString "Limits.__init__") 939), (.str (.ofString "/claim/cut.py") 940), (.int (.ofNat 371) 0), (.int (.ofNat 6) 0), (.int (.ofNat 0) 0), (.int (.ofNat 0) 0), (.int (.ofNat 3) 0), (.ref 495), (.bool true), (.int (.ofNat 181) 0), (.ref 496), .none, (.ref 497), (.ref 498), (.ref 499), (.int (.ofNat 947) 0), (.int (.ofNat 371) 0), (.str (.ofString "/claim/cut.py") 948)])), #[]⟩
noncomputable def o508 : Obj := ⟨(.type "function"), none, (.func ⟨(.ofString "__init__"), (.ofString "Limits.__init__"), dPar (inCls (sOf 66) 0), .stmts (dBody (inCls (sOf 66) 0)), dScope (inCls (sOf 66) 0), 3, [], (.ref 494), .none, .none, (.str (.ofString "perlcore.limits") 913), none, (.ref 500), .none, 0⟩), #[]⟩
noncomputable def o509 : Obj := ⟨(.type "tuple"), none, (.seq (List.toArray [(.str (.ofString "depth") 950), (.str (.ofString "items") 951), (.str (.ofString "steps") 952), (.str (.ofString "text") 953), (.str (.ofString "width") 954)]) 0), #[]⟩
noncomputable def o510 (P : Params) : Obj := ⟨(.type "dict"), none, (.dict (List.toArray [de P "__module__" 922 (.str (.ofString "perlcore.limits") 913), de P "__firstlineno__" 926 (.int (.ofNat 369) 925), de P "__init__" 949 (.ref 501), de P "__static_attributes__" 955 (.ref 502), de P "__dict__" 957 (.ref 505), de P "__weakref__" 959 (.ref 506), de P "__doc__" 960 .none]) 4), #[]⟩
noncomputable def o511 : Obj := ⟨(.type "type"), none, (.cls ⟨(.ofString "Limits"), [(.type "object")], [(.ref 504), (.type "object")], 503, (.ofString "Limits"), true, [], [], false, none, false⟩), (List.toArray [none, none, (some (.str (.ofString "Limits") 915)), (some (.str (.ofString "Limits") 923)), (some (.builtin "object.__new__")), (some (.bool true))])⟩
noncomputable def o512 : Obj := ⟨(.type "getset_descriptor"), none, (.fields (List.toArray [(.str (.ofString "__dict__") 956), (.ref 504), (.builtin "function.__dict__"), (.builtin "function.__dict__#set")])), #[]⟩
noncomputable def o513 : Obj := ⟨(.type "getset_descriptor"), none, (.fields (List.toArray [(.str (.ofString "__weakref__") 958), (.ref 504), (.builtin "ExceptionGroup.__weakref__"), .none])), #[]⟩
noncomputable def o514 : Obj := ⟨(.type "super"), none, (.fields (List.toArray [(.ref 504), (.ref 504), (.ref 504)])), #[]⟩
noncomputable def o515 : Obj := ⟨(.type "builtin_function_or_method"), none, (.fields (List.toArray [(.builtin "object.__init_subclass__"), (.ref 504)])), #[]⟩
noncomputable def o516 : Obj := ⟨(.type "tuple"), none, (.seq #[] 0), #[]⟩
noncomputable def o517 : Obj := ⟨.none, none, (.fields #[]), #[]⟩
noncomputable def o518 : Obj := ⟨(.type "tuple"), none, (.seq (List.toArray [(.str (.ofString "text") 968)]) 0), #[]⟩
noncomputable def o519 : Obj := ⟨(.type "tuple"), none, (.seq #[] 0), #[]⟩
noncomputable def o520 : Obj := ⟨.none, none, (.func ⟨(.ofString "reverse_text"), (.ofString "reverse_text"), dPar (sOf 68), .stmts (dBody (sOf 68)), dScope (sOf 68), 0, [], .none, .none, .none, .none, none, .none, .none, 0⟩), #[]⟩
noncomputable def o521 : Obj := ⟨(.type "code"), none, (.fields (List.toArray [(.str (.ofString "reverse_text") 965), (.str (.ofString "reverse_text") 966), (.str (.ofString "/claim/cut.py") 967), (.int (.ofNat 378) 0), (.int (.ofNat 1) 0), (.int (.ofNat 0) 0), (.int (.ofNat 0) 0), (.int (.ofNat 3) 0), (.ref 509), (.bool true), (.int (.ofNat 181) 0), (.ref 510), .none, (.ref 511), (.ref 512), (.ref 513), (.int (.ofNat 969) 0), (.int (.ofNat 378) 0), (.str (.ofString "/claim/cut.py") 970)])), #[]⟩
noncomputable def o522 : Obj := ⟨(.type "function"), none, (.func ⟨(.ofString "reverse_text"), (.ofString "reverse_text"), dPar (sOf 68), .stmts (dBody (sOf 68)), dScope (sOf 68), 3, [], .none, .none, .none, (.str (.ofString "perlcore.textops") 963), none, (.ref 514), .none, 0⟩), #[]⟩
noncomputable def o523 : Obj := ⟨(.type "tuple"), none, (.seq (List.toArray [(.int (.ofNat 9) 976), (.int (.ofNat 5) 977), (.int (.ofNat 0) 978), (.int (.ofNat 9) 979), (.int (.ofNat 4) 980), (.int (.ofNat 13) 981), (.int (.ofNat 12) 982), (.int (.ofNat 1) 983), (.int (.ofNat 6) 984), (.int (.ofNat 2) 985), (.int (.ofNat 2) 986), (.int (.ofNat 5) 987), (.int (.ofNat 2) 988), (.int (.ofNat 0) 989), (.int (.ofNat 3) 990), (.int (.ofNat 0) 991), (.int (.ofNat 1) 992), (.int (.ofNat 0) 993), (.int (.ofNat 3) 994), (.int (.ofNat 9) 995), (.int (.ofNat 14) 996), (.int (.ofNat 1) 997), (.int (.ofNat 0) 998), (.int (.ofNat 7) 999), (.int (.ofNat 7) 1000), (.int (.ofNat 2) 1001), (.int (.ofNat 11) 1002), (.int (.ofNat 5) 1003), (.int (.ofNat 6) 1004), (.int (.ofNat 0) 1005), (.int (.ofNat 15) 1006), (.int (.ofNat 8) 1007), (.int (.ofNat 3) 1008), (.int (.ofNat 3) 1009), (.int (.ofNat 1) 1010), (.int (.ofNat 12) 1011)]) 0), #[]⟩
noncomputable def o524 : Obj := ⟨(.type "tuple"), none, (.seq #[] 0), #[]⟩
noncomputable def o525 : Obj := ⟨.none, none, (.fields #[]), #[]⟩
noncomputable def o526 : Obj := ⟨(.type "tuple"), none, (.seq (List.toArray [(.str (.ofString "safe") 1016), (.str (.ofString "many") 1017), (.str (.ofString "spot") 1018)]) 0), #[]⟩
noncomputable def o527 : Obj := ⟨(.type "tuple"), none, (.seq #[] 0), #[]⟩
noncomputable def o528 : Obj := ⟨.none, none, (.func ⟨(.ofString "_law_dial"), (.ofString "_law_dial"), dPar (sOf 72), .stmts (dBody (sOf 72)), dScope (sOf 72), 0, [], .none, .none, .none, .none, none, .none, .none, 0⟩), #[]⟩
noncomputable def o529 : Obj := ⟨(.type "code"), none, (.fields (List.toArray [(.str (.ofString "_law_dial") 1013), (.str (.ofString "_law_dial") 1014), (.str (.ofString "/claim/cut.py") 1015), (.int (.ofNat 383) 0), (.int (.ofNat 2) 0), (.int (.ofNat 0) 0), (.int (.ofNat 0) 0), (.int (.ofNat 3) 0), (.ref 517), (.bool true), (.int (.ofNat 181) 0), (.ref 518), .none, (.ref 519), (.ref 520), (.ref 521), (.int (.ofNat 1019) 0), (.int (.ofNat 383) 0), (.str (.ofString "/claim/cut.py") 1020)])), #[]⟩
noncomputable def o530 : Obj := ⟨(.type "function"), none, (.func ⟨(.ofString "_law_dial"), (.ofString "_law_dial"), dPar (sOf 72), .stmts (dBody (sOf 72)), dScope (sOf 72), 3, [], .none, .none, .none, (.str (.ofString "law_tk0064_01") 972), none, (.ref 522), .none, 0⟩), #[]⟩
noncomputable def o531 : Obj := ⟨(.type "tuple"), none, (.seq #[] 0), #[]⟩
noncomputable def o532 : Obj := ⟨.none, none, (.fields #[]), #[]⟩
noncomputable def o533 : Obj := ⟨(.type "tuple"), none, (.seq (List.toArray [(.str (.ofString "text") 1025), (.str (.ofString "goals") 1026)]) 0), #[]⟩
noncomputable def o534 : Obj := ⟨(.type "tuple"), none, (.seq #[] 0), #[]⟩
noncomputable def o535 : Obj := ⟨.none, none, (.func ⟨(.ofString "_law_tr"), (.ofString "_law_tr"), dPar (sOf 73), .stmts (dBody (sOf 73)), dScope (sOf 73), 0, [], .none, .none, .none, .none, none, .none, .none, 0⟩), #[]⟩
noncomputable def o536 : Obj := ⟨(.type "code"), none, (.fields (List.toArray [(.str (.ofString "_law_tr") 1022), (.str (.ofString "_law_tr") 1023), (.str (.ofString "/claim/cut.py") 1024), (.int (.ofNat 387) 0), (.int (.ofNat 2) 0), (.int (.ofNat 0) 0), (.int (.ofNat 0) 0), (.int (.ofNat 3) 0), (.ref 524), (.bool true), (.int (.ofNat 181) 0), (.ref 525), .none, (.ref 526), (.ref 527), (.ref 528), (.int (.ofNat 1027) 0), (.int (.ofNat 387) 0), (.str (.ofString "/claim/cut.py") 1028)])), #[]⟩
noncomputable def o537 : Obj := ⟨(.type "function"), none, (.func ⟨(.ofString "_law_tr"), (.ofString "_law_tr"), dPar (sOf 73), .stmts (dBody (sOf 73)), dScope (sOf 73), 3, [], .none, .none, .none, (.str (.ofString "law_tk0064_01") 972), none, (.ref 529), .none, 0⟩), #[]⟩
noncomputable def o538 : Obj := ⟨(.type "tuple"), none, (.seq #[] 0), #[]⟩
noncomputable def o539 : Obj := ⟨.none, none, (.fields #[]), #[]⟩
noncomputable def o540 : Obj := ⟨(.type "tuple"), none, (.seq (List.toArray [(.str (.ofString "text") 1033), (.str (.ofString "many") 1034)]) 0), #[]⟩
noncomputable def o541 : Obj := ⟨(.type "tuple"), none, (.seq #[] 0), #[]⟩
noncomputable def o542 : Obj := ⟨.none, none, (.func ⟨(.ofString "_law_turned"), (.ofString "_law_turned"), dPar (sOf 74), .stmts (dBody (sOf 74)), dScope (sOf 74), 0, [], .none, .none, .none, .none, none, .none, .none, 0⟩), #[]⟩
noncomputable def o543 : Obj := ⟨(.type "code"), none, (.fields (List.toArray [(.str (.ofString "_law_turned") 1030), (.str (.ofString "_law_turned") 1031), (.str (.ofString "/claim/cut.py") 1032), (.int (.ofNat 389) 0), (.int (.ofNat 2) 0), (.int (.ofNat 0) 0), (.int (.ofNat 0) 0), (.int (.ofNat 3) 0), (.ref 531), (.bool true), (.int (.ofNat 181) 0), (.ref 532), .none, (.ref 533), (.ref 534), (.ref 535), (.int (.ofNat 1035) 0), (.int (.ofNat 389) 0), (.str (.ofString "/claim/cut.py") 1036)])), #[]⟩
noncomputable def o544 : Obj := ⟨(.type "function"), none, (.func ⟨(.ofString "_law_turned"), (.ofString "_law_turned"), dPar (sOf 74), .stmts (dBody (sOf 74)), dScope (sOf 74), 3, [], .none, .none, .none, (.str (.ofString "law_tk0064_01") 972), none, (.ref 536), .none, 0⟩), #[]⟩
noncomputable def o545 : Obj := ⟨(.type "tuple"), none, (.seq #[] 0), #[]⟩
noncomputable def o546 : Obj := ⟨.none, none, (.fields #[]), #[]⟩
noncomputable def o547 : Obj := ⟨.none, none, (.func ⟨(.ofString "_law_tr_right"), (.ofString "_law_tr_right"), dPar (sOf 75), .stmts (dBody (sOf 75)), dScope (sOf 75), 0, [], .none, .none, .none, .none, none, .none, .none, 0⟩), #[]⟩
noncomputable def o548 : Obj := ⟨(.type "code"), none, (.fields (List.toArray [(.str (.ofString "_law_tr_right") 1038), (.str (.ofString "_law_tr_right") 1039), (.str (.ofString "/claim/cut.py") 1040), (.int (.ofNat 391) 0), (.int (.ofNat 4) 0), (.int (.ofNat 0) 0), (.int (.ofNat 0) 0), (.int (.ofNat 3) 0), (.ref 538), (.bool true), (.int (.ofNat 181) 0), (.ref 539), .none, .none, .none, (.ref 540), (.int (.ofNat 1041) 0), (.int (.ofNat 391) 0), (.str (.ofString "/claim/cut.py") 1042)])), #[]⟩
noncomputable def o549 : Obj := ⟨(.type "function"), none, (.func ⟨(.ofString "_law_tr_right"), (.ofString "_law_tr_right"), dPar (sOf 75), .stmts (dBody (sOf 75)), dScope (sOf 75), 3, [], .none, .none, .none, (.str (.ofString "law_tk0064_01") 972), none, (.ref 541), .none, 0⟩), #[]⟩
noncomputable def o550 : Obj := ⟨(.type "tuple"), none, (.seq #[] 0), #[]⟩
noncomputable def o551 : Obj := ⟨.none, none, (.fields #[]), #[]⟩
noncomputable def o552 : Obj := ⟨.none, none, (.func ⟨(.ofString "_law_keys_right"), (.ofString "_law_keys_right"), dPar (sOf 76), .stmts (dBody (sOf 76)), dScope (sOf 76), 0, [], .none, .none, .none, .none, none, .none, .none, 0⟩), #[]⟩
noncomputable def o553 : Obj := ⟨(.type "code"), none, (.fields (List.toArray [(.str (.ofString "_law_keys_right") 1044), (.str (.ofString "_law_keys_right") 1045), (.str (.ofString "/claim/cut.py") 1046), (.int (.ofNat 404) 0), (.int (.ofNat 3) 0), (.int (.ofNat 0) 0), (.int (.ofNat 0) 0), (.int (.ofNat 3) 0), (.ref 543), (.bool true), (.int (.ofNat 181) 0), (.ref 544), .none, .none, .none, (.ref 545), (.int (.ofNat 1047) 0), (.int (.ofNat 404) 0), (.str (.ofString "/claim/cut.py") 1048)])), #[]⟩
noncomputable def o554 : Obj := ⟨(.type "function"), none, (.func ⟨(.ofString "_law_keys_right"), (.ofString "_law_keys_right"), dPar (sOf 76), .stmts (dBody (sOf 76)), dScope (sOf 76), 3, [], .none, .none, .none, (.str (.ofString "law_tk0064_01") 972), none, (.ref 546), .none, 0⟩), #[]⟩
noncomputable def o555 : Obj := ⟨(.type "tuple"), none, (.seq #[] 0), #[]⟩
noncomputable def o556 : Obj := ⟨.none, none, (.fields #[]), #[]⟩
noncomputable def o557 : Obj := ⟨.none, none, (.func ⟨(.ofString "law"), (.ofString "law"), dPar (sOf 77), .stmts (dBody (sOf 77)), dScope (sOf 77), 0, [], .none, .none, .none, .none, none, .none, .none, 0⟩), #[]⟩
noncomputable def o558 : Obj := ⟨(.type "code"), none, (.fields (List.toArray [(.str (.ofString "law") 1050), (.str (.ofString "law") 1051), (.str (.ofString "/claim/cut.py") 1052), (.int (.ofNat 417) 0), (.int (.ofNat 1) 0), (.int (.ofNat 0) 0), (.int (.ofNat 0) 0), (.int (.ofNat 3) 0), (.ref 548), (.bool true), (.int (.ofNat 181) 0), (.ref 549), .none, .none, .none, (.ref 550), (.int (.ofNat 1053) 0), (.int (.ofNat 417) 0), (.str (.ofString "/claim/cut.py") 1054)])), #[]⟩
noncomputable def o559 : Obj := ⟨(.type "function"), none, (.func ⟨(.ofString "law"), (.ofString "law"), dPar (sOf 77), .stmts (dBody (sOf 77)), dScope (sOf 77), 3, [], .none, .none, .none, (.str (.ofString "law_tk0064_01") 972), none, (.ref 551), .none, 0⟩), #[]⟩
noncomputable def t8 (P : Params) : BT := (.node (boot_o_0 P) (.node (boot_o_1 P) (.node (o492 P) (.node (boot_o_7 P) (.node o7 (.node o23 (.node o55 (.node o122 (.node o252 (.node o518 .nil .nil) .nil) (.node (o386 P) .nil .nil)) (.node o186 (.node o319 .nil .nil) (.node o452 .nil .nil))) (.node o90 (.node o154 (.node o284 (.node o550 .nil .nil) .nil) (.node o420 .nil .nil)) (.node o220 (.node o354 .nil .nil) (.node o484 .nil .nil)))) (.node o39 (.node o74 (.node o138 (.node o268 (.node o534 .nil .nil) .nil) (.node o402 .nil .nil)) (.node o204 (.node o335 .nil .nil) (.node o468 .nil .nil))) (.node (o106 P) (.node o170 (.node o303 .nil .nil) (.node o436 .nil .nil)) (.node o236 (.node o370 .nil .nil) (.node o502 .nil .nil))))) (.node o15 (.node o31 (.node o63 (.node o130 (.node o260 (.node o526 .nil .nil) .nil) (.node o394 .nil .nil)) (.node o194 (.node o327 .nil .nil) (.node o460 .nil .nil))) (.node o98 (.node o162 (.node o295 (.node o558 .nil .nil) .nil) (.node o428 .nil .nil)) (.node o228 (.node o362 .nil .nil) (.node o494 .nil .nil)))) (.node o47 (.node o82 (.node o146 (.node o276 (.node o542 .nil .nil) .nil) (.node o410 .nil .nil)) (.node o212 (.node o343 .nil .nil) (.node o476 .nil .nil))) (.node o114 (.node o178 (.node o311 .nil .nil) (.node o444 .nil .nil)) (.node o244 (.node o378 .nil .nil) (.node (o510 P) .nil .nil)))))) (.node o0 (.node o11 (.node o27 (.node o59 (.node o126 (.node o256 (.node o522 .nil .nil) .nil) (.node o390 .nil .nil)) (.node o190 (.node o323 .nil .nil) (.node o456 .nil .nil))) (.node o94 (.node o158 (.node o291 (.node o554 .nil .nil) .nil) (.node o424 .nil .nil)) (.node o224 (.node o358 .nil .nil) (.node o488 .nil .nil)))) (.node o43 (.node o78 (.node o142 (.node o272 (.node o538 .nil .nil) .nil) (.node o406 .nil .nil)) (.node o208 (.node o339 .nil .nil) (.node o472 .nil .nil))) (.node o110 (.node o174 (.node o307 .nil .nil) (.node o440 .nil .nil)) (.node o240 (.node o374 .nil .nil) (.node o506 .nil .nil))))) (.node o19 (.node o35 (.node o70 (.node o134 (.node o264 (.node o530 .nil .nil) .nil) (.node o398 .nil .nil)) (.node o198 (.node (o331 P) .nil .nil) (.node o464 .nil .nil))) (.node o102 (.node o166 (.node o299 .nil .nil) (.node o432 .nil .nil)) (.node o232 (.node (o366 P) .nil .nil) (.node o498 .nil .nil)))) (.node o51 (.node o86 (.node o150 (.node o280 (.node o546 .nil .nil) .nil) (.node o416 .nil .nil)) (.node o216 (.node o347 .nil .nil) (.node o480 .nil .nil))) (.node o118 (.node o182 (.node o315 .nil .nil) (.node o448 .nil .nil)) (.node o248 (.node o382 .nil .nil) (.node o514 .nil .nil))))))) (.node (boot_o_5 P) (.node (boot_o_9 P) (.node (o9 P) (.node o25 (.node o57 (.node o124 (.node o254 (.node o520 .nil .nil) .nil) (.node o388 .nil .nil)) (.node o188 (.node o321 .nil .nil) (.node o454 .nil .nil))) (.node o92 (.node o156 (.node o286 (.node o552 .nil .nil) .nil) (.node o422 .nil .nil)) (.node o222 (.node o356 .nil .nil) (.node o486 .nil .nil)))) (.node o41 (.node o76 (.node o140 (.node o270 (.node o536 .nil .nil) .nil) (.node o404 .nil .nil)) (.node o206 (.node o337 .nil .nil) (.node o470 .nil .nil))) (.node o108 (.node o172 (.node o305 .nil .nil) (.node o438 .nil .nil)) (.node o238 (.node (o372 P) .nil .nil) (.node o504 .nil .nil))))) (.node o17 (.node o33 (.node (o66 P) (.node o132 (.node o262 (.node o528 .nil .nil) .nil) (.node o396 .nil .nil)) (.node o196 (.node o329 .nil .nil) (.node o462 .nil .nil))) (.node o100 (.node o164 (.node o297 .nil .nil) (.node o430 .nil .nil)) (.node o230 (.node o364 .nil .nil) (.node (o496 P) .nil .nil)))) (.node o49 (.node o84 (.node o148 (.node o278 (.node o544 .nil .nil) .nil) (.node o412 .nil .nil)) (.node o214 (.node o345 .nil .nil) (.node o478 .nil .nil))) (.node o116 (.node o180 (.node o313 .nil .nil) (.node o446 .nil .nil)) (.node o246 (.node o380 .nil .nil) (.node o512 .nil .nil)))))) (.node o2 (.node o13 (.node (o29 P) (.node (o61 P) (.node o128 (.node o258 (.node o524 .nil .nil) .nil) (.node o392 .nil .nil)) (.node o192 (.node (o325 P) .nil .nil) (.node o458 .nil .nil))) (.node o96 (.node o160 (.node (o293 P) (.node o556 .nil .nil) .nil) (.node o426 .nil .nil)) (.node o226 (.node o360 .nil .nil) (.node o490 .nil .nil)))) (.node o45 (.node o80 (.node o144 (.node o274 (.node o540 .nil .nil) .nil) (.node o408 .nil .nil)) (.node o210 (.node o341 .nil .nil) (.node o474 .nil .nil))) (.node o112 (.node o176 (.node o309 .nil .nil) (.node o442 .nil .nil)) (.node o242 (.node o376 .nil .nil) (.node o508 .nil .nil))))) (.node o21 (.node o37 (.node o72 (.node o136 (.node o266 (.node o532 .nil .nil) .nil) (.node o400 .nil .nil)) (.node o200 (.node o333 .nil .nil) (.node o466 .nil .nil))) (.node o104 (.node o168 (.node o301 .nil .nil) (.node o434 .nil .nil)) (.node o234 (.node o368 .nil .nil) (.node o500 .nil .nil)))) (.node o53 (.node o88 (.node o152 (.node (o282 P) (.node o548 .nil .nil) .nil) (.node o418 .nil .nil)) (.node o218 (.node o352 .nil .nil) (.node o482 .nil .nil))) (.node o120 (.node o184 (.node o317 .nil .nil) (.node o450 .nil .nil)) (.node o250 (.node o384 .nil .nil) (.node o516 .nil .nil)))))))) (.node (o4 P) (.node (boot_o_4 P) (.node (boot_o_8 P) (.node o8 (.node o24 (.node o56 (.node o123 (.node o253 (.node o519 .nil .nil) .nil) (.node o387 .nil .nil)) (.node o187 (.node o320 .nil .nil) (.node o453 .nil .nil))) (.node o91 (.node o155 (.node o285 (.node o551 .nil .nil) .nil) (.node o421 .nil .nil)) (.node o221 (.node o355 .nil .nil) (.node o485 .nil .nil)))) (.node o40 (.node o75 (.node o139 (.node (o269 P) (.node o535 .nil .nil) .nil) (.node o403 .nil .nil)) (.node o205 (.node o336 .nil .nil) (.node o469 .nil .nil))) (.node o107 (.node o171 (.node o304 .nil .nil) (.node o437 .nil .nil)) (.node o237 (.node o371 .nil .nil) (.node o503 .nil .nil))))) (.node o16 (.node o32 (.node o64 (.node o131 (.node o261 (.node o527 .nil .nil) .nil) (.node o395 .nil .nil)) (.node o195 (.node o328 .nil .nil) (.node o461 .nil .nil))) (.node o99 (.node o163 (.node o296 (.node o559 .nil .nil) .nil) (.node o429 .nil .nil)) (.node o229 (.node o363 .nil .nil) (.node o495 .nil .nil)))) (.node (o48 P) (.node o83 (.node o147 (.node o277 (.node o543 .nil .nil) .nil) (.node o411 .nil .nil)) (.node o213 (.node (o344 P) .nil .nil) (.node o477 .nil .nil))) (.node o115 (.node o179 (.node (o312 P) .nil .nil) (.node o445 .nil .nil)) (.node o245 (.node o379 .nil .nil) (.node o511 .nil .nil)))))) (.node o493 (.node o12 (.node o28 (.node o60 (.node o127 (.node o257 (.node o523 .nil .nil) .nil) (.node o391 .nil .nil)) (.node o191 (.node o324 .nil .nil) (.node o457 .nil .nil))) (.node o95 (.node o159 (.node o292 (.node o555 .nil .nil) .nil) (.node o425 .nil .nil)) (.node o225 (.node o359 .nil .nil) (.node o489 .nil .nil)))) (.node o44 (.node o79 (.node o143 (.node o273 (.node o539 .nil .nil) .nil) (.node o407 .nil .nil)) (.node o209 (.node o340 .nil .nil) (.node o473 .nil .nil))) (.node o111 (.node o175 (.node o308 .nil .nil) (.node o441 .nil .nil)) (.node o241 (.node o375 .nil .nil) (.node o507 .nil .nil))))) (.node o20 (.node o36 (.node o71 (.node o135 (.node o265 (.node o531 .nil .nil) .nil) (.node o399 .nil .nil)) (.node o199 (.node o332 .nil .nil) (.node o465 .nil .nil))) (.node o103 (.node o167 (.node o300 .nil .nil) (.node o433 .nil .nil)) (.node o233 (.node o367 .nil .nil) (.node o499 .nil .nil)))) (.node o52 (.node o87 (.node o151 (.node o281 (.node o547 .nil .nil) .nil) (.node o417 .nil .nil)) (.node o217 (.node o351 .nil .nil) (.node o481 .nil .nil))) (.node (o119 P) (.node o183 (.node o316 .nil .nil) (.node o449 .nil .nil)) (.node o249 (.node o383 .nil .nil) (.node o515 .nil .nil))))))) (.node (boot_o_6 P) (.node (boot_o_10 P) (.node o10 (.node o26 (.node o58 (.node o125 (.node o255 (.node o521 .nil .nil) .nil) (.node o389 .nil .nil)) (.node o189 (.node o322 .nil .nil) (.node o455 .nil .nil))) (.node o93 (.node o157 (.node o287 (.node o553 .nil .nil) .nil) (.node o423 .nil .nil)) (.node o223 (.node o357 .nil .nil) (.node o487 .nil .nil)))) (.node (o42 P) (.node o77 (.node o141 (.node o271 (.node o537 .nil .nil) .nil) (.node o405 .nil .nil)) (.node o207 (.node o338 .nil .nil) (.node o471 .nil .nil))) (.node o109 (.node o173 (.node (o306 P) .nil .nil) (.node o439 .nil .nil)) (.node o239 (.node o373 .nil .nil) (.node o505 .nil .nil))))) (.node o18 (.node o34 (.node o69 (.node o133 (.node o263 (.node o529 .nil .nil) .nil) (.node o397 .nil .nil)) (.node o197 (.node o330 .nil .nil) (.node o463 .nil .nil))) (.node o101 (.node o165 (.node o298 .nil .nil) (.node o431 .nil .nil)) (.node o231 (.node o365 .nil .nil) (.node o497 .nil .nil)))) (.node o50 (.node o85 (.node o149 (.node o279 (.node o545 .nil .nil) .nil) (.node o415 .nil .nil)) (.node o215 (.node o346 .nil .nil) (.node o479 .nil .nil))) (.node o117 (.node o181 (.node o314 .nil .nil) (.node o447 .nil .nil)) (.node o247 (.node o381 .nil .nil) (.node o513 .nil .nil)))))) (.node o3 (.node o14 (.node o30 (.node o62 (.node o129 (.node o259 (.node o525 .nil .nil) .nil) (.node o393 .nil .nil)) (.node o193 (.node o326 .nil .nil) (.node o459 .nil .nil))) (.node o97 (.node o161 (.node o294 (.node o557 .nil .nil) .nil) (.node o427 .nil .nil)) (.node o227 (.node o361 .nil .nil) (.node o491 .nil .nil)))) (.node o46 (.node o81 (.node o145 (.node o275 (.node o541 .nil .nil) .nil) (.node o409 .nil .nil)) (.node o211 (.node o342 .nil .nil) (.node o475 .nil .nil))) (.node o113 (.node o177 (.node o310 .nil .nil) (.node o443 .nil .nil)) (.node o243 (.node o377 .nil .nil) (.node o509 .nil .nil))))) (.node (o22 P) (.node o38 (.node o73 (.node o137 (.node o267 (.node o533 .nil .nil) .nil) (.node o401 .nil .nil)) (.node o201 (.node o334 .nil .nil) (.node o467 .nil .nil))) (.node o105 (.node o169 (.node o302 .nil .nil) (.node o435 .nil .nil)) (.node o235 (.node o369 .nil .nil) (.node o501 .nil .nil)))) (.node o54 (.node o89 (.node o153 (.node o350 (.node o549 .nil .nil) .nil) (.node o419 .nil .nil)) (.node o219 (.node (o353 P) .nil .nil) (.node o483 .nil .nil))) (.node o121 (.node o185 (.node o318 .nil .nil) (.node o451 .nil .nil)) (.node o251 (.node o385 .nil .nil) (.node o517 .nil .nil)))))))))
noncomputable def env : Env := { scope := pw.main.scope, locals := mainNs, globals := mainNs, cells := [], code := .ref 13, frame := some 14 }
noncomputable def bE : List Stmt := behindTheImports pw
noncomputable def cE : Code := .body bE env
def q0 : Pos := ⟨0, 0, 0, 0⟩
abbrev sh (t : Params → BT) (n k : Nat) (w : World) (os : OsState) : SharedT := ⟨t w.params, n, {}, #[], {}, k, os⟩
abbrev an : Option Value := some (.ref 6)
/-- the library's quick twin of the run, and what it is worth -/
theorem seg_tw {w : World} {n : Nat} {s s' : SharedT} {t : Thread} {f : Flow} {c : Code} {q : Pos} (h : PySem.W.Fast.tw10110043849684766642 PySem.W.Fast.tw14364793385576792824 pw w 11 an 1 n s t = some (f, s', c, q)) :
    segRun treeTable pw w 11 an 1 n s.abs t = some (f, s'.abs, c, q) := by
  refine segRun_of ?_
  rw [PySem.W.Fast.te10110043849684766642, PySem.W.Fast.te14364793385576792824]
  exact h
theorem chain {w : World} {k n N : Nat} {s s' r : Shared} {rest : List Stmt} {pos p' : Pos} (h : segRun treeTable pw w 11 an 1 n s (piecesOf (rest.take k) env cE pos [topFrame q0]) = some (.next, s', cE, p'))
    (g : topRun treeTable pw w 11 an N s' (restOf (rest.drop k) env cE p' [topFrame q0]) = some r) : topRun treeTable pw w 11 an (n + N) s (restOf rest env cE pos [topFrame q0]) = some r := by
  have := piece_app h g
  rwa [List.take_append_drop] at this
noncomputable def g0 : List Stmt := bE
noncomputable def g1 : List Stmt := g0.drop 5
theorem go0 (w : World) (os : OsState) : PySem.W.Fast.tw10110043849684766642 PySem.W.Fast.tw14364793385576792824 pw w 11 an 1 738 (sh t0 15 187 w os) (piecesOf (g0.take 5) env cE ⟨0, 0, 0, 0⟩ [topFrame q0]) = some (.next, sh t1 73 271 w os, cE, ⟨17, 0, 17, 8⟩) := by kernel_rfl
noncomputable def g2 : List Stmt := g1.drop 1
theorem go1f (w : World) (os : OsState) : PySem.W.Fast.tw10110043849684766642 PySem.W.Fast.tw14364793385576792824 pw (w.withFollow "special-get-raises" false) 11 an 1 116 (sh t1 73 271 (w.withFollow "special-get-raises" false) os) (piecesOf (g1.take 1) env cE ⟨17, 0, 17, 8⟩ [topFrame q0]) = some (.next, sh t2 74 293 (w.withFollow "special-get-raises" false) os, cE, ⟨18, 0, 18, 13⟩) := by kernel_rfl
theorem go1t (w : World) (os : OsState) : PySem.W.Fast.tw10110043849684766642 PySem.W.Fast.tw14364793385576792824 pw (w.withFollow "special-get-raises" true) 11 an 1 116 (sh t1 73 271 (w.withFollow "special-get-raises" true) os) (piecesOf (g1.take 1) env cE ⟨17, 0, 17, 8⟩ [topFrame q0]) = some (.next, sh t2 74 293 (w.withFollow "special-get-raises" true) os, cE, ⟨18, 0, 18, 13⟩) := by kernel_rfl
theorem go1 (w : World) (os : OsState) : PySem.W.Fast.tw10110043849684766642 PySem.W.Fast.tw14364793385576792824 pw w 11 an 1 116 (sh t1 73 271 w os) (piecesOf (g1.take 1) env cE ⟨17, 0, 17, 8⟩ [topFrame q0]) = some (.next, sh t2 74 293 w os, cE, ⟨18, 0, 18, 13⟩) :=
  byRow2 "special-get-raises" (P := fun w => ∀ os : OsState, PySem.W.Fast.tw10110043849684766642 PySem.W.Fast.tw14364793385576792824 pw w 11 an 1 116 (sh t1 73 271 w os) (piecesOf (g1.take 1) env cE ⟨17, 0, 17, 8⟩ [topFrame q0]) = some (.next, sh t2 74 293 w os, cE, ⟨18, 0, 18, 13⟩)) (fun w os => go1f w os) (fun w os => go1t w os) w os
noncomputable def g3 : List Stmt := g2.drop 22
theorem go2 (w : World) (os : OsState) : PySem.W.Fast.tw10110043849684766642 PySem.W.Fast.tw14364793385576792824 pw w 11 an 1 809 (sh t2 74 293 w os) (piecesOf (g2.take 22) env cE ⟨18, 0, 18, 13⟩ [topFrame q0]) = some (.next, sh t3 207 513 w os, cE, ⟨184, 0, 185, 67⟩) := by kernel_rfl
noncomputable def g4 : List Stmt := g3.drop 15
theorem go3 (w : World) (os : OsState) : PySem.W.Fast.tw10110043849684766642 PySem.W.Fast.tw14364793385576792824 pw w 11 an 1 554 (sh t3 207 513 w os) (piecesOf (g3.take 15) env cE ⟨184, 0, 185, 67⟩ [topFrame q0]) = some (.next, sh t4 291 640 w os, cE, ⟨244, 0, 252, 29⟩) := by kernel_rfl
noncomputable def g5 : List Stmt := g4.drop 3
theorem go4 (w : World) (os : OsState) : PySem.W.Fast.tw10110043849684766642 PySem.W.Fast.tw14364793385576792824 pw w 11 an 1 744 (sh t4 291 640 w os) (piecesOf (g4.take 3) env cE ⟨244, 0, 252, 29⟩ [topFrame q0]) = some (.next, sh t5 348 723 w os, cE, ⟨266, 0, 273, 29⟩) := by kernel_rfl
noncomputable def g6 : List Stmt := g5.drop 7
theorem go5 (w : World) (os : OsState) : PySem.W.Fast.tw10110043849684766642 PySem.W.Fast.tw14364793385576792824 pw w 11 an 1 583 (sh t5 348 723 w os) (piecesOf (g5.take 7) env cE ⟨266, 0, 273, 29⟩ [topFrame q0]) = some (.next, sh t6 410 811 w os, cE, ⟨312, 0, 312, 9⟩) := by kernel_rfl
noncomputable def g7 : List Stmt := g6.drop 13
theorem go6 (w : World) (os : OsState) : PySem.W.Fast.tw10110043849684766642 PySem.W.Fast.tw14364793385576792824 pw w 11 an 1 361 (sh t6 410 811 w os) (piecesOf (g6.take 13) env cE ⟨312, 0, 312, 9⟩ [topFrame q0]) = some (.next, sh t7 487 915 w os, cE, ⟨368, 0, 368, 8⟩) := by kernel_rfl
noncomputable def g8 : List Stmt := g7.drop 12
theorem go7 (w : World) (os : OsState) : PySem.W.Fast.tw10110043849684766642 PySem.W.Fast.tw14364793385576792824 pw w 11 an 1 526 (sh t7 487 915 w os) (piecesOf (g7.take 12) env cE ⟨368, 0, 368, 8⟩ [topFrame q0]) = some (.next, sh t8 553 1056 w os, cE, ⟨417, 0, 425, 90⟩) := by kernel_rfl
/-- the state behind the top -/
noncomputable abbrev H1 (P : Params) : Heap := absHeap (t8 P) 553 {}
noncomputable abbrev sf (w : World) (os : OsState) : Shared := ⟨H1 w.params, #[], {}, 1056, os⟩
theorem fin (w : World) (os : OsState) : topRun treeTable pw w 11 an 2 (sh t8 553 1056 w os).abs ⟨doneF .next, cE, ⟨417, 0, 425, 90⟩, [topFrame q0]⟩ = some (sf w os) := by kernel_rfl
theorem gN : g8 = [] := by kernel_rfl
theorem pre (w : World) (os : OsState) : topGo treeTable pw w 11 an 12 ⟨boot_heap w.params, #[], boot_drawn, boot_toks, os⟩ (topStub pw) =
    some ((sh t0 15 187 w os).abs, ⟨denote treeTable cE, cE, q0, [topFrame q0]⟩) := by kernel_rfl
theorem blk (w : World) (os : OsState) : segRun treeTable pw w 11 an 1 1 (sh t0 15 187 w os).abs (blockOf bE env cE q0 [topFrame q0]) = some (.next, (sh t0 15 187 w os).abs, cE, ⟨0, 0, 0, 0⟩) := by kernel_rfl
theorem runs (w : World) (os : OsState) : topRun treeTable pw w 11 an (12 + (1 + (738 + (116 + (809 + (554 + (744 + (583 + (361 + (526 + 2)))))))))) ⟨boot_heap w.params, #[], boot_drawn, boot_toks, os⟩ (topStub pw) = some (sf w os) := by
  refine go_top (pre w os) (piece_block (blk w os) ?_)
  show topRun treeTable pw w 11 an _ _ (restOf g0 env cE _ [topFrame q0]) = _
  refine chain (seg_tw (go0 w os)) ?_
  refine chain (seg_tw (go1 w os)) ?_
  refine chain (seg_tw (go2 w os)) ?_
  refine chain (seg_tw (go3 w os)) ?_
  refine chain (seg_tw (go4 w os)) ?_
  refine chain (seg_tw (go5 w os)) ?_
  refine chain (seg_tw (go6 w os)) ?_
  refine chain (seg_tw (go7 w os)) ?_
  show topRun treeTable pw w 11 an _ _ (restOf g8 env cE _ [topFrame q0]) = _
  rw [gN]
  exact piece_nil (fin w os)
end MineHead

namespace MineHead
def vw : Program := view pw [1, 2, 3, 5, 6, 7, 8, 9, 10, 11, 12, 14, 15, 16, 17, 18, 19, 20, 21, 22, 23, 24, 25, 26, 27, 29, 30, 31, 32, 33, 34, 35, 36, 37, 38, 39, 41, 42, 43, 44, 45, 46, 47, 48, 49, 50, 52, 53, 54, 55, 56, 57, 58, 59, 60, 61, 62, 63, 64, 66, 68, 70, 71, 72, 73, 74, 75, 76, 77]
abbrev lo : List Str := [Str.ofString "SHORT_ESCAPES", Str.ofString "Limits"]
abbrev rrow : RowW := PySem.Challenge.rw_tk0064_01.row.toRowW
abbrev Xt (s : Shared) : Bool := xlAt vw [] s && recOk (RowW.records rrow) s
theorem a1 (w : World) (os : OsState) : seen ((recsOf vw).map (·.name)) (ownsOf vw) [] { sf w os with gens := #[] } = expectedOf vw := by kernel_rfl
theorem a2 (w : World) (os : OsState) : (sf w os).heap.bltView = bltViewBooted := by kernel_rfl
theorem b1 (w : World) (os : OsState) : (sf w os).heap.keysOk (looseW vw lo) ((recsOf vw).map (·.name)) ((litsOf vw).map (·.1)) ((clssOf vw (looseW vw lo)).map (·.name)) = true := by kernel_rfl
theorem b2 (w : World) (os : OsState) : (sf w os).heap.accountedOkI (importedModules pw.main.body) = true := by kernel_rfl
theorem b3 (w : World) (os : OsState) : (sf w os).heap.isNs mainGlobals = true := by kernel_rfl
theorem b4 (w : World) (os : OsState) : (sf w os).heap.isNs builtinsNs = true := by kernel_rfl
theorem b5 (w : World) (os : OsState) : tablesOk vw (sf w os).heap = true := by kernel_rfl
theorem b6 (w : World) (os : OsState) : Xt (sf w os) = true := by kernel_rfl
theorem b7 (w : World) (os : OsState) : (if true then (sf w os).gens.size == 0 else !leftWithCleanup (sf w os).gens) = true := by kernel_rfl
theorem a4 (w : World) (os : OsState) : tabsOk vw (sf w os) = true := by kernel_rfl
theorem a5 (w : World) (os : OsState) : pinSeenD vw (drecsOf vw) (sf w os) = pinGoodD (drecsOf vw) := by kernel_rfl
theorem a6 (w : World) (os : OsState) : plainSeenE vw (looseW vw lo) (sf w os) = plainGoodE vw (looseW vw lo) := by kernel_rfl
theorem a7 (w : World) (os : OsState) : plainSeenD vw lo (sf w os) = plainGoodD vw lo := by kernel_rfl
theorem a8 (w : World) (os : OsState) : wideSeen vw (sf w os) = wideGood vw := by kernel_rfl
theorem a9 (w : World) (os : OsState) : clsSeenW vw lo (sf w os) = clsGoodW vw lo := by kernel_rfl
theorem sees (w : World) (os : OsState) : openSeen vw lo (importedModules pw.main.body) Xt true (sf w os) = openGood vw lo :=
  looks_pair (a1 w os) (looks_pair (a2 w os) (looks_pair (look_both (look_both (look_both (look_both (look_both (look_both (b1 w os) (b2 w os)) (b3 w os)) (b4 w os)) (b5 w os)) (b6 w os)) (b7 w os))
    (looks_pair (a4 w os) (looks_pair (a5 w os) (looks_pair (a6 w os) (looks_pair (a7 w os) (looks_pair (a8 w os) (a9 w os))))))))
theorem c1 (w : World) : staticsOk (importedModules pw.main.body) (boot_heap w.params) (H1 w.params) = true := by kernel_rfl
theorem c2 (w : World) : namesBound pw (H1 w.params) = true := by kernel_rfl
theorem c3 (w : World) (os : OsState) : gensDone (sf w os) = true := by kernel_rfl
theorem c4 (w : World) : laidKept (boot_heap w.params) (H1 w.params) = true := by kernel_rfl
theorem op1 : opening pw = plainProg pw.main.scope.names := by kernel_rfl
theorem op2 (s : Shared) : fenceModules? pw s = some s := by kernel_rfl
theorem op3 (w : World) : ((boot_heap w.params).isNs mainGlobals && (#[] : Array GenState).size == 0, (boot_heap w.params).objs.size, (boot_heap w.params).nsMap mainGlobals "__annotations__") = (true, 11, an) := by kernel_rfl
theorem left {α : Type} {Yf : Shared → α} {Ya : World → α} (hY : ∀ w os, Yf (sf w os) = Ya w) : LeftO pw vw lo Xt Yf Ya 8972 :=
  LeftO.of_pieces (H₀ := boot_heap) (H₁ := H1) (boot_open op1 (by decide) op2) op3 runs (by decide)
    fun w => funext fun os => looks_pair (look_both (look_both (look_both (c1 w) (c2 w)) (c3 w os)) (c4 w)) (looks_pair (sees w os) (hY w os))
end MineHead

namespace Mine
local macro_rules
  | `(tactic| o_head $H) => do
    let hw := Lean.mkIdent `hw
    let hc := Lean.mkIdent `hc
    `(tactic| (
      refine holds_open (q := MineHead.vw) (loose := [Str.ofString "SHORT_ESCAPES", Str.ofString "Limits"]) (Xt := MineHead.Xt) (XP := XL MineHead.vw []) (Yf := Hook.obs $H) (Ya := Hook.val $H) (YP := Hook.says $H) (N := 8972) ?hl (Hook.of $H) (Hook.keeps $H) (fun s e => xl_of s (Bool.and_eq_true_iff.mp e).1) XL.keeps (by rfl) (by rfl) (by rfl) (fun s e => recFacts_of (Bool.and_eq_true_iff.mp e).2) (by rfl) (by first | assumption | decide +kernel) (by decide +kernel) ⟨rfl, rfl, rfl, rfl, rfl, by decide +kernel⟩ ?$hw ?$hc
      (case hl => exact MineHead.left fun w os => by kernel_rfl)))
set_option maxHeartbeats 8000000 in
open_top hd for PySem.Challenge.rw_tk0064_01
end Mine

namespace Mine
/-- a wall: the walk stands still in front of it -/
structure Halt (P : Prop) : Prop where
  out : P
theorem halt {P : Prop} (h : Halt P) : P := h.out
/-- a contract: the call, from any state whose ledger is `news`, comes back with the value `R c` and the ledger `Led c`, for some c of which `Facts` holds -/
abbrev Con {σ : Type} (w : World) (f : Addr) (vs : List Value) (news : List (Addr × Obj)) (D U : Nat) (R : σ → Value) (Led : σ → List (Addr × Obj)) (Facts : σ → Prop) : Prop :=
  ∀ (p : Program) (loose : List Str) (mean : ExcName → Option Value) (mg mb : Str → Option Value) (dp un : Nat) (gd : Option (List Code)) (cn : Str) (cs : Scope) (a : Addr) (ccd : Value) (cl : List (Str × Addr)) (outer : List Env) (A₀ : Around) (base h₀ : Heap) (L : Addr) (m : Str → Option Value) (s : Shared) (Q E : Value → Shared → Prop),
    Below A₀ base outer h₀ → Fr h₀ L s.heap m → (hd.heap_39 w.params).In h₀ → News h₀ L s.heap news → Top p loose mean mg mb h₀ → cs.kind = .function → dp + D < recursionLimit → un + U < cLine →
    (∀ (c : σ) h' tk', Facts c → Fr h₀ L h' m → News h₀ L h' (Led c) → Q (R c) { s with heap := h', toks := tk' }) →
    wpAny (model PySem.Challenge.rw_tk0064_01.row.prog w) (ktrTop dp un gd cn cs L a ccd cl outer) (call (.ref f) vs) Q E s
theorem use_con {σ : Type} {w : World} {f : Addr} {vs : List Value} {news : List (Addr × Obj)} {D U : Nat} {R : σ → Value} {Led : σ → List (Addr × Obj)} {Facts : σ → Prop} (C : Con w f vs news D U R Led Facts)
    {p : Program} {loose : List Str} {mean : ExcName → Option Value} {mg mb : Str → Option Value} {dp un : Nat} {gd : Option (List Code)} {cn : Str} {cs : Scope} {a : Addr} {ccd : Value} {cl : List (Str × Addr)} {outer : List Env} {A₀ : Around} {base h₀ : Heap} {L : Addr} {m : Str → Option Value} {s : Shared} {Q E : Value → Shared → Prop}
    (B : Below A₀ base outer h₀) (F : Fr h₀ L s.heap m) (X : (hd.heap_39 w.params).In h₀) (N : News h₀ L s.heap news) (T : Top p loose mean mg mb h₀) (hk : cs.kind = .function) (hd : dp + D < recursionLimit) (hu : un + U < cLine)
    (hret : ∀ (c : σ) h' tk', Facts c → Fr h₀ L h' m → News h₀ L h' (Led c) → Q (R c) { s with heap := h', toks := tk' }) :
    wpAny (model PySem.Challenge.rw_tk0064_01.row.prog w) (ktrTop dp un gd cn cs L a ccd cl outer) (call (.ref f) vs) Q E s :=
  C _ _ _ _ _ _ _ _ _ _ _ _ _ _ _ _ _ _ _ _ _ _ B F X N T hk hd hu hret
end Mine

namespace Mine
def tx (l : List Nat) : Str := ⟨l.toArray⟩
theorem tx_length (l : List Nat) : (tx l).length = l.length := by simp [tx, Str.length]
theorem tx_append (a b : List Nat) : tx a ++ tx b = tx (a ++ b) := by
  refine Str.ext' ?_
  rw [Str.cps_append]; simp [tx]
theorem tx_one (c : Nat) : (⟨#[c]⟩ : Str) = tx [c] := rfl
theorem xor_and_nat : ∀ (n a b : Nat), a ≤ n → (a ^^^ b) + 2 * (a &&& b) = a + b := by
  intro n
  induction n with
  | zero => intro a b h; obtain rfl : a = 0 := by omega
            simp
  | succ n ih =>
    intro a b h
    by_cases h0 : a = 0
    · subst h0; simp
    have h1 := ih (a / 2) (b / 2) (by omega)
    have e1 : (a ^^^ b) / 2 = (a / 2) ^^^ (b / 2) := Nat.xor_div_two
    have e2 : (a &&& b) / 2 = (a / 2) &&& (b / 2) := Nat.and_div_two
    have e3 : (a ^^^ b) % 2 = 1 ↔ ¬ (a % 2 = 1 ↔ b % 2 = 1) := Nat.xor_mod_two_eq_one
    have e4 : (a &&& b) % 2 = 1 ↔ a % 2 = 1 ∧ b % 2 = 1 := Nat.and_mod_two_eq_one
    rw [← e1, ← e2] at h1
    omega
theorem bitXor_nat (a b : Nat) : Builtin.bitXor (a : Int) (b : Int) = ((a ^^^ b : Nat) : Int) := by
  rw [bitXor_and]
  have h := xor_and_nat a a b (Nat.le_refl _)
  have e : Builtin.bitAnd (a : Int) (b : Int) = ((a &&& b : Nat) : Int) := by
    rw [bitAnd_pp (by omega) (by omega)]; rfl
  rw [e]; omega
theorem xor_lt128 {a b : Nat} (ha : a < 128) (hb : b < 128) : a ^^^ b < 128 := Nat.xor_lt_two_pow (n := 7) ha hb
theorem item_tx {l : List Nat} {i : Nat} {c : Nat} (h : l[i]? = some c) : Txt.item (tx l) (i : Int) = tx [c] := by
  have hi : i < l.length := (List.getElem?_eq_some_iff.mp h).1
  have : Txt.charAt (tx l) (i : Int) = some c := by
    unfold Txt.charAt seqIndex?
    rw [tx_length]
    have h1 : ¬ ((i : Int) < 0) := by omega
    have h2 : (decide (0 ≤ (i : Int)) && decide ((i : Int) < (l.length : Int))) = true := by simp; omega
    simp only [h1, if_false, h2, if_true]
    show ((tx l).cps[(i : Int).toNat]?) = some c
    simp [tx, h]
  unfold Txt.item
  rw [this]; rfl
end Mine

namespace Mine
theorem runs_toks {M : Model} {Γ : Ctx} {p : Pos} {t : Sem PySem.Fin} {fs : List Frame} {s s' : Shared} {e : End} (h : Runs M Γ p t fs s e s') : s.toks ≤ s'.toks := by
  induction h with
  | fresh _ ih => exact Nat.le_trans (Nat.le_succ _) ih
  | _ => first
    | exact Nat.le_refl _
    | assumption
    | (refine Nat.le_trans ?_ (by assumption); assumption)
theorem wakes_toks {M : Model} {Γ : Ctx} {p : Pos} {g : Nat} {r : Resume} {s s' : Shared} {res : GenResult} (h : Wakes M Γ p g r s res s') : s.toks ≤ s'.toks := by
  unfold Wakes at h
  split at h
  · exact h.elim
  · split at h
    · obtain ⟨e1, s1, h1, _, _, rfl⟩ := h
      have h2 := runs_toks h1
      exact h2
    · rw [h.2]; exact Nat.le_refl _
    · rw [h.2]; exact Nat.le_refl _
  · obtain ⟨e1, s1, h1, _, _, rfl⟩ := h
    have h2 := runs_toks h1
    exact h2
  · rw [h.2]; exact Nat.le_refl _
  · rw [h.2]; exact Nat.le_refl _
theorem wp_toks {X : Type} {M : Model} {Γ : Ctx} {n : Nat} (t : Sem X) {Q : X → Pos → Shared → Prop} {E : Value → Pos → Shared → Prop} (p : Pos) (s : Shared) (hn : n ≤ s.toks)
    (h : Sem.wp M Γ t (fun a p' s' => n ≤ s'.toks → Q a p' s') E p s) : Sem.wp M Γ t Q E p s := by
  revert h
  induction t generalizing p s with
  | pure x => exact fun h => h hn
  | raise v => exact id
  | unsupported | finish | yield | fork | await | register => exact id
  | fresh k ih => exact ih _ _ _ (Nat.le_trans hn (Nat.le_succ _))
  | rule _ k ih | «at» _ k ih | alloc _ k ih | loadIfAlive _ k ih | point _ k ih | ask k ih | os _ _ k ih | handled _ k ih | newGen _ k ih | stack k ih | thread k ih => exact ih _ _ _ hn
  | load a _ k ih | genState a k ih => exact fun ⟨o, ho, h⟩ => ⟨o, ho, ih _ _ _ hn h⟩
  | update a _ f k ih | choose _ _ k ih => exact fun ⟨ha, h⟩ => ⟨ha, ih _ _ _ hn h⟩
  | call c h g l k ih => exact fun ⟨r, s', hr, h⟩ => ⟨r, s', hr, ih r p s' (Nat.le_trans hn (runs_toks hr)) h⟩
  | resume g r l k ih => exact fun ⟨res, s', hw, h⟩ => ⟨res, s', hw, ih _ _ _ (Nat.le_trans hn (wakes_toks hw)) h⟩
/-- the count of marks never falls: a call's answer may lean on it -/
theorem tok_keep {X : Type} {M : Model} {A : Around} {t : Sem X} {Q : X → Shared → Prop} {E : Value → Shared → Prop} {s : Shared} (h : wpAny M A t (fun v s' => s.toks ≤ s'.toks → Q v s') E s) : wpAny M A t Q E s :=
  fun Γ p hp => wp_toks t p s (Nat.le_refl _) (h Γ p hp)
end Mine

namespace Mine
local macro_rules | `(tactic| walk_at "pyIter ref") => `(tactic| refine halt ?_)
local macro_rules | `(tactic| walk_at "InvEndN") => `(tactic| refine halt ?_)
local macro_rules | `(tactic| walk_at "exec For Name Call cons nil") => `(tactic| (k_here; (rename Fr _ _ _ _ => lF'); (with_unfolding_all refine' For_invVF lF' ?k1 ?k2 ?_; (case k1 => exact rfl); (case k2 => exact rfl); k_whole)))
def xorL (x y : List Nat) : List Nat := List.zipWith (fun a b => a ^^^ b) x y
set_option maxHeartbeats 8000000 in
theorem text_bits_con (w : World) (x y : List Nat) (t0 tx' ty : Tok) (news : List (Addr × Obj)) (hx : x.length ≤ 10) (hxy : x.length = y.length) (hxc : ∀ c ∈ x, c < 128) (hyc : ∀ c ∈ y, c < 128) :
    Con w 430 [.str (Str.ofString "^") t0, .str (tx x) tx', .str (tx y) ty] news 5 20 (fun t : Tok => .str (tx (xorL x y)) t) (fun _ => news) (fun _ => True) := by
  w_top off
  intro p loose mean mg mb dp un gd cn cs a ccd cl outer A₀ base h₀ L m s Q E B F X N T hk hd hu hret
  revert X; k_fill; intro X
  refine wpAny_call ?_
  k_dflt cell_enter
  have hlx := tx_length x
  have hly := tx_length y
  k_steps
  refine ⟨?_⟩
  rename Fr _ _ _ _ => lF'
  rename News _ _ _ _ => lN'
  rename IsRange _ _ _ _ _ _ _ _ => rg
  have hmax : (if ((tx y).length : Int) > ((tx x).length : Int) then ((tx y).length : Int) else ((tx x).length : Int)) = (x.length : Int) := by
    rw [if_neg (by omega)]; omega
  rw [hmax] at rg
  with_unfolding_all refine' kst_range (σ := Str × Tok) (fun _ => news) (fun c => [(Str.ofString "out", .str c.1 c.2)]) (fun _ => True) [Str.ofString "a", Str.ofString "b", Str.ofString "code", Str.ofString "word"] (fun pre c => c.1 = tx ((xorL x y).take pre.length)) (Str.ofString "", _) ?khh ?krg ?k1 (n := x.length) ?k2 ?kF ?kN trivial ?k3 ?k4 ?_ ?_
  case khh => rfl
  case krg => exact rg
  case kF => exact lF'
  case kN => exact lN'
  case k1 => exact small_one (by omega) (by omega) (by omega) (by omega)
  case k2 => rw [rangeSize_nat]; omega
  case k3 => exact List.forall_mem_cons.mpr ⟨by with_unfolding_all rfl, List.forall_mem_nil _⟩
  case k4 => simp; rfl
  · clear lF' lN'
    rintro ⟨c, tc⟩ pre k t u h tk own hk' hlt hoff - hinv F1 N1
    have hM := kstMark
    dsimp only [kstB] at F1 N1 hinv
    have hb : pre.length < y.length := by omega
    have ea : x[pre.length]? = some x[pre.length] := List.getElem?_eq_getElem hlt
    have eb : y[pre.length]? = some y[pre.length] := List.getElem?_eq_getElem hb
    have hla := hxc _ (List.getElem_mem hlt)
    have hlb := hyc _ (List.getElem_mem hb)
    generalize x[pre.length] = ca at ea hla
    generalize y[pre.length] = cb at eb hlb
    obtain rfl : k = ((pre.length : Nat) : Int) := by omega
    have ia := item_tx ea
    have ib := item_tx eb
    have hcode : Builtin.bitXor ↑((Txt.item (tx x) (pre.length : Int)).cps.getD 0 0) ↑((Txt.item (tx y) (pre.length : Int)).cps.getD 0 0) = ((ca ^^^ cb : Nat) : Int) := by
      rw [ia, ib]; exact bitXor_nat ca cb
    have hx128 := xor_lt128 hla hlb
    have hstep : (xorL x y).take (pre.length + 1) = (xorL x y).take pre.length ++ [ca ^^^ cb] := by
      rw [List.take_add_one]
      congr 1
      simp [xorL, ea, eb, List.getElem?_zipWith]
    have hcl : c.length ≤ 10 := by rw [hinv, tx_length]; simp [xorL]; omega
    (try k_fold)
    k_steps
    refine ⟨?_⟩
    rename News _ _ _ _ => nE
    refine' kst_end ⟨_, _⟩ (by assumption) nE ?a1 ?a2 rfl trivial ?a3 ?a4 ?a5
    case a1 => intro p hp; exact List.mem_append_left _ hp
    case a2 => intro p hp; exact List.mem_append_right _ hp
    case a3 => exact List.forall_mem_cons.mpr ⟨by with_unfolding_all rfl, List.forall_mem_nil _⟩
    case a4 => kst_same
    case a5 =>
      show _ = _
      rw [hcode, hinv, List.length_append, List.length_singleton, hstep, ← tx_append]
      rfl
  · clear lF' lN'
    rintro ⟨c, tc⟩ u h tk - hinv F1 N1
    have hM := kstMark
    dsimp only [kstB] at F1 N1 hinv
    (try k_fold)
    k_steps
    have e : c = tx (xorL x y) := by
      rw [hinv]
      refine congrArg tx (List.take_of_length_le ?_)
      simp [xorL, rangeKs]; omega
    subst e
    exact hret _ _ _ trivial (by assumption) (by assumption)
end Mine

namespace Mine
local macro_rules | `(tactic| k_room) => `(tactic| ktr_room)
local macro_rules | `(tactic| k_units) => `(tactic| ktr_units)
local macro_rules | `(tactic| walk_at "call ref") => `(tactic| ((with_reducible show wpAny _ _ (call (Value.ref 430) _) _ _ _); k_dflt (refine' use_con (text_bits_con _ _ _ _ _ _ _ ?h1 ?h2 ?h3 ?h4) ?B ?F ?X ?N ?T ?hk ?hd ?hu ?_; (case h1 => assumption); (case h2 => assumption); (case h3 => assumption); (case h4 => assumption); (case B => k_asm); (case F => k_asm); (case X => k_asm); (case N => k_asm); (case T => k_asm); (case hk => first | exact rfl | assumption); (case hd => ktr_room); (case hu => ktr_units); intro c9 h9 tk9 f9 F9 N9; (try dsimp only at N9); (try dsimp only); (try k_fold))))
set_option maxHeartbeats 8000000 in
theorem xor_con (w : World) (x y : List Nat) (tx' ty : Tok) (lim : Addr) (news : List (Addr × Obj)) (hx : x.length ≤ 10) (hxy : x.length = y.length) (hxc : ∀ c ∈ x, c < 128) (hyc : ∀ c ∈ y, c < 128) :
    Con w 479 [.str (tx x) tx', .str (tx y) ty, .ref lim] news 10 40 (fun t : Tok => .str (tx (xorL x y)) t) (fun _ => news) (fun _ => True) := by
  w_top off
  intro p loose mean mg mb dp un gd cn cs a ccd cl outer A₀ base h₀ L m s Q E B F X N T hk hd hu hret
  revert X; k_fill; intro X
  refine wpAny_call ?_
  k_dflt cell_enter
  k_steps
  all_goals exact hret _ _ _ trivial (by assumption) (by assumption)
end Mine

namespace Mine
local macro_rules | `(tactic| k_room) => `(tactic| ktr_room)
local macro_rules | `(tactic| k_units) => `(tactic| ktr_units)
local macro_rules | `(tactic| k_all) => `(tactic| assumption)
set_option maxHeartbeats 8000000 in
theorem dial_con (w : World) (sf sl : Addr) (k many : Int) (tk tm : Tok) (vs : List Value) (ns : List Int) (rest : List (Addr × Obj)) (hk0 : 0 ≤ k) (hk1 : k ≤ 100) (hm0 : 1 ≤ many) (hm1 : many ≤ 16)
    (hi : IntsAre vs ns) (hn : ns.length ≤ 36) (hne : @LT.lt Nat _ sl sf) (hr : ∀ p ∈ rest, p.1 ≠ sf) :
    Con w 523 [.ref sf, .int many tm] ((sf, W.listOf #[.ref sl, .int k tk] 0) :: (sl, W.listOf vs.toArray 0) :: rest) 10 40
      (fun c : Int × Tok × Tok => .int c.1 c.2.1) (fun c => (sf, W.listOf #[.ref sl, .int (k + 1) c.2.2] 0) :: (sl, W.listOf vs.toArray 0) :: rest) (fun c => 0 ≤ c.1 ∧ c.1 < many) := by
  w_top off
  intro p loose mean mg mb dp un gd cn cs a ccd cl outer A₀ base h₀ L m s Q E B F X N T hk hd hu hret
  revert X; k_fill; intro X
  refine wpAny_call ?_
  k_dflt cell_enter
  k_steps
  all_goals (
    refine' hret ⟨_, _, _⟩ _ _ ?f (by assumption) ?n
    case n => assumption
    case f => exact ⟨Int.fmod_nonneg_of_pos _ (by omega), Int.fmod_lt_of_pos _ (by omega)⟩)
end Mine

namespace Mine
local macro_rules | `(tactic| walk_at "ite") => `(tactic| first | (with_reducible refine ite_neg Bool.false_ne_true ?_) | (with_reducible refine ite_pos rfl ?_) | (refine ite_neg (by with_reducible assumption) ?_) | (refine ite_pos (by with_reducible assumption) ?_) | (refine halt ?_))
local macro_rules | `(tactic| k_room) => `(tactic| ktr_room)
local macro_rules | `(tactic| k_units) => `(tactic| ktr_units)
local macro_rules | `(tactic| k_all) => `(tactic| assumption)
local macro_rules | `(tactic| walk_at "exec While Compare cons nil") => `(tactic| refine halt ?_)
local macro_rules | `(tactic| walk_at "KswEnd") => `(tactic| refine halt ?_)
abbrev tupOf (vs : List Value) : Obj := { cls := .type "tuple", data := .seq vs.toArray }
abbrev signLed (c : List (Addr × Nat × Tok)) : List (Addr × Obj) := c.map fun q => (q.1, tupOf [.int (q.2.1 : Int) q.2.2, .bool false])
abbrev signRefs (c : List (Addr × Nat × Tok)) : List Value := c.map fun q => .ref q.1
theorem item_ne {l : List Nat} {n c d : Nat} {x : Str} (e : l[n]? = some c) (hx : x = tx [d]) (hcd : c ≠ d) : ¬ ((Txt.item (tx l) (n : Int) == x) = true) := by
  rw [item_tx e, hx]
  intro q
  have q' : tx [c] = tx [d] := beq_iff_eq.mp q
  exact hcd (by simpa [tx] using q')
theorem item_code {l : List Nat} {n c : Nat} (e : l[n]? = some c) : (Txt.item (tx l) (n : Int)).cps.getD 0 0 = c := by rw [item_tx e]; rfl
set_option maxHeartbeats 800000 in
theorem signs_con (w : World) (l : List Nat) (t0 : Tok) (news : List (Addr × Obj)) (hx : l.length ≤ 10) (hxc : ∀ c ∈ l, 97 ≤ c ∧ c ≤ 102) :
    Con w 143 [.str (tx l) t0] news 10 40
      (fun c : Addr × List (Addr × Nat × Tok) × Nat => .ref c.1) (fun c => (c.1, W.listOf (signRefs c.2.1).toArray c.2.2) :: (signLed c.2.1 ++ news)) (fun c => c.2.1.map (fun q => q.2.1) = l) := by
  w_top off
  intro p loose mean mg mb dp un gd cn cs a ccd cl outer A₀ base h₀ L m s Q E B F X N T hk hd hu hret
  revert X; k_fill; intro X
  refine wpAny_call ?_
  k_dflt cell_enter
  have hlx := tx_length l
  k_steps
  refine ⟨?_⟩
  rename Fr _ _ _ _ => lF'
  rename News _ _ _ _ => lN'
  rename_i fo h2 l1 h1 h0
  with_unfolding_all refine' ksw_while (σ := List (Addr × Nat × Tok) × Nat × Int × Tok) ?Led ?ps ?Facts ?stored ?P ?mu ([], 0, 0, _) ?kF ?kN ?kf ?k3 ?k4 ?turn ?hE
  case Led => exact fun c => (fo, W.listOf (signRefs c.1).toArray c.2.1) :: (signLed c.1 ++ news)
  case ps => exact fun c => [(Str.ofString "at", .int c.2.2.1 c.2.2.2)]
  case Facts => exact fun _ => True
  case stored => exact [Str.ofString "sign"]
  case P => exact fun c => c.2.2.1 = (c.1.length : Int) ∧ c.1.length ≤ l.length ∧ c.1.map (fun q => q.2.1) = l.take c.1.length ∧ ∀ q ∈ c.1, fo < q.1
  case mu => exact fun c => l.length - c.1.length
  case kF => exact lF'
  case kf => trivial
  case hE => with_unfolding_all passes_own
  case kN => exact lN'
  case k3 => exact List.forall_mem_cons.mpr ⟨by with_unfolding_all rfl, List.forall_mem_nil _⟩
  case k4 => exact ⟨rfl, Nat.zero_le _, rfl, fun _ h => absurd h List.not_mem_nil⟩
  clear lF' lN'
  rintro ⟨c, ep, at', ta⟩ u h tk - ⟨hc0, hc1, hc2, hc3⟩ F1 N1
  have hM := kstMark
  dsimp only [kstB] at F1 N1 hc0 hc1 hc2 hc3
  have hoff : ∀ p ∈ signLed c ++ news, p.1 ≠ fo := by
    intro p hp
    rcases List.mem_append.mp hp with hp | hp
    · obtain ⟨q, hq, rfl⟩ := List.mem_map.mp hp
      exact Nat.ne_of_gt (hc3 q hq)
    · exact Nat.ne_of_lt (l1 p hp)
  generalize hT : signLed c ++ news = tail at N1 hoff
  have hlen : (signRefs c).length = c.length := by simp [signRefs]
  generalize hR : signRefs c = refs at N1 hlen
  generalize hn : c.length = n at hc0 hc1 hc2 hlen
  subst hc0
  (try k_fold)
  by_cases hlt : n < l.length
  · have hd1 : decide ((n : Int) < ((tx l).length : Int)) = true := by rw [decide_eq_true_eq]; omega
    have e1 : l[n]? = some l[n] := List.getElem?_eq_getElem hlt
    have hcn := hxc _ (List.getElem_mem hlt)
    generalize l[n] = cn' at e1 hcn
    have hd2 : ¬ ((Txt.item (tx l) (n : Int) == Str.ofString "\\") = true) := item_ne e1 (d := 92) (by decide +kernel) (by omega)
    k_steps
    refine ⟨?_⟩
    rename News _ _ _ _ => nE
    rename_i D9 h9 l9 h8 h7 F7
    rw [item_code e1] at nE
    obtain ⟨tq, nE⟩ : ∃ tq : Tok, News _ _ _ ((D9, tupOf [.int (cn' : Int) tq, .bool false]) :: (fo, W.listOf (refs.toArray.push (Value.ref D9)) (ep + 1)) :: tail) := ⟨_, nE⟩
    refine' ksw_end (c ++ [(D9, cn', tq)], ep + 1, (n : Int) + 1, _) (by assumption) nE ?a1 trivial ?a2 ?a3 ?a4 ?a5
    case a1 =>
      subst hT hR
      intro p hp
      simp only [signRefs, signLed, List.map_append, List.map_cons, List.map_nil, List.push_toArray, List.mem_cons, List.mem_append, List.not_mem_nil, or_false] at hp ⊢
      rcases hp with hp | (hp | hp) | hp
      · exact .inr (.inl hp)
      · exact .inr (.inr (.inl hp))
      · exact .inl hp
      · exact .inr (.inr (.inr hp))
    case a2 => exact List.forall_mem_cons.mpr ⟨by with_unfolding_all rfl, List.forall_mem_nil _⟩
    case a3 => ksw_same
    case a4 =>
      refine ⟨by simp [hn], by simp [hn]; omega, ?_, ?_⟩
      · simp only [List.map_append, List.map_cons, List.map_nil, List.length_append, List.length_cons, List.length_nil, hn, hc2, List.take_add_one, e1, Option.toList]
      · intro q hq
        rcases List.mem_append.mp hq with hq | hq
        · exact hc3 q hq
        · rw [List.mem_singleton.mp hq]; exact l9.1
    case a5 => show l.length - (c ++ [(D9, cn', tq)]).length < l.length - c.length; rw [List.length_append, List.length_singleton, hn]; omega
  · have hd1 : ¬ (decide ((n : Int) < ((tx l).length : Int)) = true) := by rw [decide_eq_true_eq]; omega
    k_steps
    rename News _ _ _ _ => nE
    subst hT hR
    refine hret (fo, c, ep) _ _ ?_ (by assumption) nE
    show c.map _ = l
    rw [hc2]; exact List.take_of_length_le (by omega)
end Mine

namespace Mine
local macro_rules | `(tactic| walk_at "ite") => `(tactic| first | (with_reducible refine ite_neg Bool.false_ne_true ?_) | (with_reducible refine ite_pos rfl ?_) | (refine ite_neg (by with_reducible assumption) ?_) | (refine ite_pos (by with_reducible assumption) ?_) | (refine ite_neg (by simp only [decide_eq_true_eq, beq_iff_eq]; omega) ?_) | (refine ite_pos (by simp only [decide_eq_true_eq, beq_iff_eq]; omega) ?_) | (refine halt ?_))
local macro_rules | `(tactic| k_room) => `(tactic| ktr_room)
local macro_rules | `(tactic| k_units) => `(tactic| ktr_units)
local macro_rules | `(tactic| k_all) => `(tactic| assumption)
local macro_rules | `(tactic| k_mem) => `(tactic| assumption)
local macro_rules | `(tactic| walk_at "exec While Compare cons nil") => `(tactic| refine halt ?_)
local macro_rules | `(tactic| walk_at "pyIter ref") => `(tactic| refine halt ?_)
local macro_rules | `(tactic| walk_at "InvEndN") => `(tactic| refine halt ?_)
local macro_rules | `(tactic| walk_at "exec For Name Call cons nil") => `(tactic| (k_here; (rename Fr _ _ _ _ => lF'); (with_unfolding_all refine' For_invVF lF' ?k1 ?k2 ?_; (case k1 => exact rfl); (case k2 => exact rfl); k_whole)))
local macro_rules | `(tactic| walk_at "KswEnd") => `(tactic| refine halt ?_)
local macro_rules | `(tactic| walk_at "call ref") => `(tactic| ((with_reducible show wpAny _ _ (call (Value.ref 143) _) _ _ _); k_dflt (refine' use_con (signs_con _ _ _ _ ?h1 ?h2) ?B ?F ?X ?N ?T ?hk ?hd ?hu ?_; (case h1 => assumption); (case h2 => assumption); (case B => k_asm); (case F => k_asm); (case X => k_asm); (case N => k_asm); (case T => k_asm); (case hk => first | exact rfl | assumption); (case hd => ktr_room); (case hu => ktr_units); intro c9 h9 tk9 f9 F9 N9; (try dsimp only at N9); (try dsimp only at f9); (try dsimp only); refine halt ?_)))
section
variable {prog : Program} {w : World} {A : Around} {E : Value → Shared → Prop} {s : Shared} {h₀ : Heap} {L l : Addr} {news : List (Addr × Obj)}
theorem led_item {value slice : Expr} {us : List Value} {c : Nat} {k : Int} {u : Tok} {v : Value} {Q : Value → Shared → Prop} (N : News h₀ L s.heap news) (hm : (l, W.listOf us.toArray c) ∈ news) (h0 : 0 ≤ k) (hhi : k < 2 ^ 63) (hx : us[k.toNat]? = some v) (h : Q v s)
    (hs : subscripted slice false (.ref l) (.int k u) = operate [.ref l, .int k u] (getItem (.ref l) (.int k u))) : wpAny (model prog w) A (subscriptTail value slice (.ref l) (.int k u)) Q E s := by
  have hl : s.heap.IsList l us.toArray := ⟨_, (N _ hm).1, rfl, c, rfl⟩
  exact tail_any hl.typeIs slot_list_getitem.lookup (wpAny_getItem_list hl h0 hhi (by simpa using hx) h) hs
end
def zs (l : List Nat) : List Int := l.map fun (x : Nat) => (x : Int)
theorem zs_length (l : List Nat) : (zs l).length = l.length := by simp [zs]
local macro_rules | `(tactic| walk_at "call builtin:len") => `(tactic| ((with_reducible show wpAny _ _ (call (Value.builtin "len") [Value.ref _]) _ _ _); k_dflt (refine' kst_len ?N ?m ?e ?fit ?_; (case N => k_asm); (case m => k_mem); (case e => assumption); (case fit => omega))))
local macro_rules | `(tactic| walk_at "subscriptTail") => `(tactic| ((with_reducible show wpAny _ _ (subscriptTail _ _ (Value.ref _) (Value.int _ _)) _ _ _); k_dflt (refine' led_item ?N ?m ?a ?b ?x ?_ ?hs; (case N => k_asm); (case m => k_mem); (case a => omega); (case b => omega); (case x => assumption); (case hs => with_unfolding_all rfl))))
set_option maxHeartbeats 800000 in
theorem codes_con (w : World) (l : List Nat) (t0 tm : Tok) (news : List (Addr × Obj)) (hx : l.length ≤ 10) (hxc : ∀ c ∈ l, 97 ≤ c ∧ c ≤ 102) :
    Con w 150 [.str (tx l) t0, .int 300 tm] news 20 80
      (fun c : Addr × List Value × Nat => .ref c.1) (fun c => (c.1, W.listOf c.2.1.toArray c.2.2) :: news) (fun c => IntsAre c.2.1 (zs l) ∧ ∀ p ∈ news, p.1 < c.1) := by
  w_top off
  intro p loose mean mg mb dp un gd cn cs a ccd cl outer A₀ base h₀ L m s Q E B F X N T hk hd hu hret
  revert X; k_fill; intro X
  refine wpAny_call ?_
  k_dflt cell_enter
  have hlx := tx_length l
  k_steps
  refine ⟨?_⟩
  rename Fr _ _ _ _ => F9
  rename News _ _ _ _ => N9
  rename_i c9 h9 tk9 f9
  obtain ⟨fo, c, ep⟩ := c9
  dsimp only at F9 N9 f9
  (try k_fold)
  k_steps
  refine ⟨?_⟩
  rename Fr _ _ _ _ => lF'
  rename News _ _ _ _ => lN'
  rename_i tk3 fd h2 l1 h1 h0
  with_unfolding_all refine' ksw_while (σ := List Value × Nat × Int × Tok) ?Led ?ps ?Facts ?stored ?P ?mu ([], 0, 0, _) ?kF ?kN ?kf ?k3 ?k4 ?turn ?hE
  case Led => exact fun d => (fd, W.listOf d.1.toArray d.2.1) :: (fo, W.listOf (signRefs c).toArray ep) :: (signLed c ++ news)
  case ps => exact fun d => [(Str.ofString "at", .int d.2.2.1 d.2.2.2)]
  case Facts => exact fun _ => True
  case stored => exact [Str.ofString "code", Str.ofString "last", Str.ofString "one"]
  case P => exact fun d => d.2.2.1 = (d.1.length : Int) ∧ d.1.length ≤ l.length ∧ IntsAre d.1 (zs (l.take d.1.length))
  case mu => exact fun d => l.length - d.1.length
  case kF => exact lF'
  case kf => trivial
  case hE => with_unfolding_all passes_own
  case kN => exact lN'
  case k3 => exact List.forall_mem_cons.mpr ⟨by with_unfolding_all rfl, List.forall_mem_nil _⟩
  case k4 => exact ⟨rfl, Nat.zero_le _, .nil⟩
  clear lF' lN'
  rintro ⟨vs, ev, at', ta⟩ u h tk - ⟨hc0, hc1, hc2⟩ F1 N1
  have hM := kstMark
  dsimp only [kstB] at F1 N1 hc0 hc1 hc2
  have hcl : c.length = l.length := by rw [← f9, List.length_map]
  have hlr : (signRefs c).length = l.length := by rw [List.length_map, hcl]
  generalize hn : vs.length = n at hc0 hc1 hc2
  subst hc0
  have hat : ∀ (i x : Nat), l[i]? = some x → ∃ (a : Addr) (t : Tok), (signRefs c)[i]? = some (Value.ref a) ∧ (a, tupOf [.int (x : Int) t, .bool false]) ∈ signLed c ++ news := by
    intro i x hx
    rw [← f9, List.getElem?_map] at hx
    cases hq : c[i]? with
    | none => rw [hq] at hx; cases hx
    | some q =>
      rw [hq] at hx
      obtain rfl : q.2.1 = x := Option.some.inj hx
      exact ⟨q.1, q.2.2, by rw [List.getElem?_map, hq]; rfl, List.mem_append_left _ (List.mem_map.mpr ⟨q, List.mem_of_getElem? hq, rfl⟩)⟩
  have hfo : @LT.lt Nat _ fo fd := l1.1
  have htl : ∀ p ∈ signLed c ++ news, p.1 ≠ fd := fun p hp => Nat.ne_of_lt (kst_ltOf l1.2 p hp)
  have hnl : ∀ p ∈ news, p.1 < fd := fun p hp => kst_ltOf l1.2 p (List.mem_append_right _ hp)
  have hsub : ∀ p ∈ news, p ∈ signLed c ++ news := fun p hp => List.mem_append_right _ hp
  clear l1
  generalize signLed c ++ news = tail at N1 hat htl hsub
  generalize signRefs c = refs at N1 hat hlr
  (try k_fold)
  by_cases hlt : n < l.length
  · have hd1 : decide ((n : Int) < (l.length : Int)) = true := by rw [decide_eq_true_eq]; omega
    obtain ⟨a0, t0', hx0, hm0⟩ := hat n _ (List.getElem?_eq_getElem hlt)
    replace hx0 : refs[(n : Int).toNat]? = some (.ref a0) := hx0
    have hcn := hxc _ (List.getElem_mem hlt)
    have e1 : l[n]? = some l[n] := List.getElem?_eq_getElem hlt
    generalize l[n] = x0 at hx0 hm0 hcn e1
    have hside : (¬ n + 2 < l.length) ∨ ∃ (a1 : Addr) (t1' : Tok) (x1 : Nat), n + 2 < l.length ∧ refs[((n : Int) + 1).toNat]? = some (.ref a1) ∧ (a1, tupOf [.int (x1 : Int) t1', .bool false]) ∈ tail ∧ 97 ≤ x1 := by
      by_cases hlt2 : n + 2 < l.length
      · obtain ⟨a1, t1', hx1, hm1⟩ := hat (n + 1) _ (List.getElem?_eq_getElem (by omega))
        exact .inr ⟨a1, t1', _, hlt2, hx1, hm1, (hxc _ (List.getElem_mem (show n + 1 < l.length by omega))).1⟩
      · exact .inl hlt2
    rcases hside with hlt2 | ⟨a1, t1', x1, hlt2, hx1, hm1, hcn1⟩
    · k_steps
      refine ⟨?_⟩
      rename Fr _ _ _ _ => lF'
      rename News _ _ _ _ => lN'
      rename IsRange _ _ _ _ _ _ _ _ => rg
      with_unfolding_all refine' kst_range (σ := List Value × Nat) ?LedA ?psA ?FactsA ?storedA ?PA (vs, ev) ?khhA ?krgA ?k1A (n := 1) ?k2A ?kFA ?kNA ?kfA ?k3A ?k4A ?turnA ?doneA
      case LedA => exact fun d => (fd, W.listOf d.1.toArray d.2) :: (fo, W.listOf refs.toArray ep) :: tail
      case psA => exact fun _ => []
      case FactsA => exact fun _ => True
      case storedA => exact []
      case PA => exact fun pre d => d.1.length = n + pre.length ∧ IntsAre d.1 (zs (l.take n) ++ pre)
      case khhA => rfl
      case krgA => exact rg
      case k1A => exact small_one (by omega) (by omega) (by omega) (by omega)
      case k2A => rw [rangeSize_nat]; omega
      case kFA => exact lF'
      case kNA => first | exact lN' | exact fun p hp => lN' p (List.mem_cons_of_mem _ hp)
      case kfA => trivial
      case k3A => exact List.forall_mem_nil _
      case k4A => exact ⟨hn, by rw [List.append_nil]; exact hc2⟩
      case turnA =>
        clear lF' lN'
        rintro ⟨us, eu⟩ pre k t u h tk own hk' hlt' hoff - ⟨hi1, hi2⟩ F1 N1
        dsimp only [kstB] at F1 N1 hi1 hi2
        have hal : ∀ p ∈ tail ++ own, p.1 ≠ fd := by
          intro p hp
          rcases List.mem_append.mp hp with hp | hp
          · exact htl p hp
          · exact hoff p hp fd (List.Mem.head _)
        simp only [List.cons_append] at N1
        have hsb : ∀ p ∈ tail, p ∈ tail ++ own := fun p hp => List.mem_append_left _ hp
        have hsb2 : ∀ p ∈ own, p ∈ tail ++ own := fun p hp => List.mem_append_right _ hp
        generalize tail ++ own = tl2 at N1 hal hsb hsb2
        (try k_fold)
        k_steps
        refine ⟨?_⟩
        rename News _ _ _ _ => nE
        refine' kst_end (us ++ [.int k t], eu + 1) (by assumption) nE ?a1A ?a2A rfl trivial ?a3A ?a4A ?a5A
        case a1A =>
          intro p hp
          simp only [List.push_toArray, List.mem_cons] at hp ⊢
          rcases hp with hp | hp | hp
          · exact .inl hp
          · exact .inr (.inl hp)
          · exact .inr (.inr (hsb p hp))
        case a2A => intro p hp; exact List.mem_cons_of_mem _ (List.mem_cons_of_mem _ (hsb2 p hp))
        case a3A => exact List.forall_mem_nil _
        case a4A => kst_same
        case a5A => exact ⟨by simp only [List.length_append, List.length_singleton, hi1]; omega, by rw [← List.append_assoc]; exact IntsAre.append hi2 (.cons _ _ .nil)⟩
      case doneA =>
        clear lF' lN'
        rintro ⟨us, eu⟩ u h tk - ⟨hi1, hi2⟩ F1 N1
        dsimp only [kstB] at F1 N1 hi1 hi2
        (try k_fold)
        k_steps
        refine ⟨?_⟩
        rename News _ _ _ _ => nE
        have hr1 : rangeKs (x0 : Int) 1 = [(x0 : Int)] := by simp [rangeKs]
        rw [hr1] at hi1 hi2
        refine' ksw_end (us, eu, (n : Int) + 1, _) (by assumption) nE ?b1A trivial ?b2A ?b3A ?b4A ?b5A
        case b1A => exact fun p hp => hp
        case b2A => exact List.forall_mem_cons.mpr ⟨by with_unfolding_all rfl, List.forall_mem_nil _⟩
        case b3A => ksw_same
        case b4A =>
          have hul : us.length = n + 1 := hi1
          refine ⟨by rw [hul]; rfl, by rw [hul]; omega, ?_⟩
          show IntsAre us (zs (l.take us.length))
          rw [hul, List.take_add_one, e1]
          have e2 : zs (List.take n l ++ [x0]) = zs (List.take n l) ++ [(x0 : Int)] := by simp [zs]
          show IntsAre us (zs (List.take n l ++ [x0]))
          rw [e2]; exact hi2
        case b5A =>
          have hul : us.length = n + 1 := hi1
          show l.length - us.length < l.length - vs.length
          omega
    · k_steps
      refine ⟨?_⟩
      rename Fr _ _ _ _ => lF'
      rename News _ _ _ _ => lN'
      rename IsRange _ _ _ _ _ _ _ _ => rg
      with_unfolding_all refine' kst_range (σ := List Value × Nat) ?LedB ?psB ?FactsB ?storedB ?PB (vs, ev) ?khhB ?krgB ?k1B (n := 1) ?k2B ?kFB ?kNB ?kfB ?k3B ?k4B ?turnB ?doneB
      case LedB => exact fun d => (fd, W.listOf d.1.toArray d.2) :: (fo, W.listOf refs.toArray ep) :: tail
      case psB => exact fun _ => []
      case FactsB => exact fun _ => True
      case storedB => exact []
      case PB => exact fun pre d => d.1.length = n + pre.length ∧ IntsAre d.1 (zs (l.take n) ++ pre)
      case khhB => rfl
      case krgB => exact rg
      case k1B => exact small_one (by omega) (by omega) (by omega) (by omega)
      case k2B => rw [rangeSize_nat]; omega
      case kFB => exact lF'
      case kNB => first | exact lN' | exact fun p hp => lN' p (List.mem_cons_of_mem _ hp)
      case kfB => trivial
      case k3B => exact List.forall_mem_nil _
      case k4B => exact ⟨hn, by rw [List.append_nil]; exact hc2⟩
      case turnB =>
        clear lF' lN'
        rintro ⟨us, eu⟩ pre k t u h tk own hk' hlt' hoff - ⟨hi1, hi2⟩ F1 N1
        dsimp only [kstB] at F1 N1 hi1 hi2
        have hal : ∀ p ∈ tail ++ own, p.1 ≠ fd := by
          intro p hp
          rcases List.mem_append.mp hp with hp | hp
          · exact htl p hp
          · exact hoff p hp fd (List.Mem.head _)
        simp only [List.cons_append] at N1
        have hsb : ∀ p ∈ tail, p ∈ tail ++ own := fun p hp => List.mem_append_left _ hp
        have hsb2 : ∀ p ∈ own, p ∈ tail ++ own := fun p hp => List.mem_append_right _ hp
        generalize tail ++ own = tl2 at N1 hal hsb hsb2
        (try k_fold)
        k_steps
        refine ⟨?_⟩
        rename News _ _ _ _ => nE
        refine' kst_end (us ++ [.int k t], eu + 1) (by assumption) nE ?a1B ?a2B rfl trivial ?a3B ?a4B ?a5B
        case a1B =>
          intro p hp
          simp only [List.push_toArray, List.mem_cons] at hp ⊢
          rcases hp with hp | hp | hp
          · exact .inl hp
          · exact .inr (.inl hp)
          · exact .inr (.inr (hsb p hp))
        case a2B => intro p hp; exact List.mem_cons_of_mem _ (List.mem_cons_of_mem _ (hsb2 p hp))
        case a3B => exact List.forall_mem_nil _
        case a4B => kst_same
        case a5B => exact ⟨by simp only [List.length_append, List.length_singleton, hi1]; omega, by rw [← List.append_assoc]; exact IntsAre.append hi2 (.cons _ _ .nil)⟩
      case doneB =>
        clear lF' lN'
        rintro ⟨us, eu⟩ u h tk - ⟨hi1, hi2⟩ F1 N1
        dsimp only [kstB] at F1 N1 hi1 hi2
        (try k_fold)
        k_steps
        refine ⟨?_⟩
        rename News _ _ _ _ => nE
        have hr1 : rangeKs (x0 : Int) 1 = [(x0 : Int)] := by simp [rangeKs]
        rw [hr1] at hi1 hi2
        refine' ksw_end (us, eu, (n : Int) + 1, _) (by assumption) nE ?b1B trivial ?b2B ?b3B ?b4B ?b5B
        case b1B => exact fun p hp => hp
        case b2B => exact List.forall_mem_cons.mpr ⟨by with_unfolding_all rfl, List.forall_mem_nil _⟩
        case b3B => ksw_same
        case b4B =>
          have hul : us.length = n + 1 := hi1
          refine ⟨by rw [hul]; rfl, by rw [hul]; omega, ?_⟩
          show IntsAre us (zs (l.take us.length))
          rw [hul, List.take_add_one, e1]
          have e2 : zs (List.take n l ++ [x0]) = zs (List.take n l) ++ [(x0 : Int)] := by simp [zs]
          show IntsAre us (zs (List.take n l ++ [x0]))
          rw [e2]; exact hi2
        case b5B =>
          have hul : us.length = n + 1 := hi1
          show l.length - us.length < l.length - vs.length
          omega
  · have hd1 : ¬ (decide ((n : Int) < (l.length : Int)) = true) := by rw [decide_eq_true_eq]; omega
    k_steps
    rename News _ _ _ _ => nE
    refine hret (fd, vs, ev) _ _ ⟨?_, hnl⟩ (by assumption) ?_
    · show IntsAre vs (zs l)
      rw [List.take_of_length_le (by omega)] at hc2
      exact hc2
    · intro p hp
      rcases List.mem_cons.mp hp with hp | hp
      · rw [hp]; exact nE _ (List.Mem.head _)
      · exact nE _ (List.mem_cons_of_mem _ (List.mem_cons_of_mem _ (hsub p hp)))
end Mine

namespace Mine
local macro_rules | `(tactic| walk_at "ite") => `(tactic| first | (with_reducible refine ite_neg Bool.false_ne_true ?_) | (with_reducible refine ite_pos rfl ?_) | (refine ite_neg (by with_reducible assumption) ?_) | (refine ite_pos (by with_reducible assumption) ?_) | (refine ite_neg (by simp only [decide_eq_true_eq, beq_iff_eq]; omega) ?_) | (refine ite_pos (by simp only [decide_eq_true_eq, beq_iff_eq]; omega) ?_) | (refine halt ?_))
local macro_rules | `(tactic| k_room) => `(tactic| ktr_room)
local macro_rules | `(tactic| k_units) => `(tactic| ktr_units)
local macro_rules | `(tactic| k_all) => `(tactic| assumption)
local macro_rules | `(tactic| k_mem) => `(tactic| assumption)
local macro_rules | `(tactic| walk_at "pyIter ref") => `(tactic| refine halt ?_)
local macro_rules | `(tactic| walk_at "InvEndN") => `(tactic| refine halt ?_)
local macro_rules | `(tactic| walk_at "exec For Name Call cons nil") => `(tactic| (k_here; (rename Fr _ _ _ _ => lF'); (with_unfolding_all refine' For_invVF lF' ?k1 ?k2 ?_; (case k1 => exact rfl); (case k2 => exact rfl); k_whole)))
local macro_rules | `(tactic| walk_at "call builtin:len") => `(tactic| ((with_reducible show wpAny _ _ (call (Value.builtin "len") [Value.ref _]) _ _ _); k_dflt (refine' kst_len ?N ?m ?e ?fit ?_; (case N => k_asm); (case m => k_mem); (case e => assumption); (case fit => omega))))
local macro_rules | `(tactic| walk_at "subscriptTail") => `(tactic| ((with_reducible show wpAny _ _ (subscriptTail _ _ (Value.ref _) (Value.int _ _)) _ _ _); k_dflt (refine' led_item ?N ?m ?a ?b ?x ?_ ?hs; (case N => k_asm); (case m => k_mem); (case a => omega); (case b => omega); (case x => assumption); (case hs => with_unfolding_all rfl))))
local macro_rules | `(tactic| walk_at "compareOp In int ref") => `(tactic| (k_dflt (refine' kda_in (knd := PySem.intKind _ _) ?N ?m ?d ?lo (intKind_is _ _ _ _) false ?hb ?_; (case N => k_asm); (case m => k_mem); (case d => assumption); (case lo => assumption); (case hb => assumption))))
local macro_rules | `(tactic| walk_at "setItem ref int") => `(tactic| (k_dflt (refine' kda_set (knd := PySem.intKind _ _) ?F ?N ?U ?d (intKind_is _ _ _ _) ?z ?_; (case F => k_asm); (case N => k_asm); (case U => k_updF); (case d => assumption); (case z => rw [sizeLine_eq]; omega)); intro h' o' F' N' hd'; (try dsimp only at N')))
theorem key_new {a : List Nat} {ws : List Value} {i x : Nat} (hnd : a.Nodup) (hl : ws.length = a.length) (hx : a[i]? = some x) : valueAt (((zs a).zip ws).take i) (x : Int) = none := by
  refine valueAt_none_of_not_mem ?_
  have e : (((zs a).zip ws).take i).map (·.1) = (zs a).take i := by
    rw [List.map_take, List.map_fst_zip (by rw [zs_length]; omega)]
  rw [e]
  intro hm
  obtain ⟨j, hj, hj2⟩ := List.getElem_of_mem hm
  rw [List.length_take, zs_length] at hj
  rw [List.getElem_take] at hj2
  simp only [zs, List.getElem_map] at hj2
  have hi := (List.getElem?_eq_some_iff.mp hx)
  obtain ⟨hi1, hi2⟩ := hi
  have h3 : a[j] = a[i] := by rw [hi2]; exact Int.ofNat_inj.mp hj2
  exact List.pairwise_iff_getElem.mp hnd j i (by omega) hi1 (by omega) h3
theorem zip_step {a : List Nat} {ws : List Value} {i x : Nat} {v : Value} (hx : a[i]? = some x) (hv : ws[i]? = some v) : ((zs a).zip ws).take (i + 1) = ((zs a).zip ws).take i ++ [((x : Int), v)] := by
  rw [List.take_add_one]
  congr 1
  have h1 : (zs a)[i]? = some (x : Int) := by simp [zs, hx]
  rw [List.getElem?_zip_eq_some (z := ((x : Int), v)) |>.mpr ⟨h1, hv⟩]; rfl
set_option maxHeartbeats 800000 in
theorem table_con (w : World) (sl bl : Addr) (dl : Bool) (n1 n2 : Nat) (a b : List Nat) (vs ws : List Value) (news : List (Addr × Obj)) (hms : (sl, W.listOf vs.toArray n1) ∈ news) (hmb : (bl, W.listOf ws.toArray n2) ∈ news)
    (hi1 : IntsAre vs (zs a)) (hi2 : IntsAre ws (zs b)) (hab : a.length = b.length) (hal : a.length ≤ 10) (hnd : a.Nodup) :
    Con w 157 [.ref sl, .ref bl, .bool dl] news 20 80
      (fun c : Addr × Obj => .ref c.1) (fun c => (c.1, c.2) :: news) (fun c => c.2.IsDictOf (PySem.intKind PySem.Challenge.rw_tk0064_01.row.prog w) ((zs a).zip ws) ∧ (c.1 == sysModules) = false ∧ ∀ p ∈ news, p.1 < c.1) := by
  w_top off
  intro p loose mean mg mb dp un gd cn cs a' ccd cl outer A₀ base h₀ L m s Q E B F X N T hk hd hu hret
  revert X; k_fill; intro X
  refine wpAny_call ?_
  k_dflt cell_enter
  have hvl : vs.length = a.length := by rw [hi1.length, zs_length]
  have hwl : ws.length = a.length := by rw [hi2.length, zs_length, hab]
  k_steps
  refine ⟨?_⟩
  rename Fr _ _ _ _ => lF'
  rename News _ _ _ _ => lN'
  rename IsRange _ _ _ _ _ _ _ _ => rg
  rename ∀ p ∈ news, _ => l1
  rename (_ == sysModules) = false => lo1
  rename Obj.IsDictOf (PySem.intKind _ _) _ _ => di1
  rename_i d0 h2 o0 hs0 fs0 fi0 h1 F0 N0 h0 tk0 t1 u1 v1 hk0
  with_unfolding_all refine' kst_range (σ := Obj) ?Led ?ps ?Facts ?stored ?P o0 ?khh ?krg ?k1 (n := a.length) ?k2 ?kF ?kN ?kf ?k3 ?k4 ?turn ?done
  case Led => exact fun c => (d0, c) :: news
  case ps => exact fun _ => []
  case Facts => exact fun _ => True
  case stored => exact [Str.ofString "code"]
  case P => exact fun pre c => c.IsDictOf (PySem.intKind PySem.Challenge.rw_tk0064_01.row.prog w) (((zs a).zip ws).take pre.length)
  case khh => rfl
  case krg => exact rg
  case k1 => exact small_one (by omega) (by omega) (by omega) (by omega)
  case k2 => rw [rangeSize_nat]; omega
  case kF => exact lF'
  case kN => exact lN'
  case kf => trivial
  case k3 => exact List.forall_mem_nil _
  case k4 => exact di1
  case turn =>
    clear lF' lN' F0 N0 rg
    rintro oc pre k t u h tk own hk' hlt hoff - hinv F1 N1
    have hM := kstMark
    dsimp only [kstB] at F1 N1 hinv
    obtain rfl : k = ((pre.length : Nat) : Int) := by omega
    generalize hpl : pre.length = i at F1 hinv hlt
    have ea : a[i]? = some a[i] := List.getElem?_eq_getElem hlt
    generalize a[i] = x at ea
    have ez : (zs a)[i]? = some (x : Int) := by simp [zs, ea]
    obtain ⟨tx', hx0⟩ := hi1.get i _ ez
    have ew : ws[i]? = some (ws[i]'(by omega)) := List.getElem?_eq_getElem _
    generalize ws[i]'(by omega) = wv at ew
    have hb := key_new (ws := ws) hnd hwl ea
    have hz := zip_step ea ew
    have hb' : (valueAt (((zs a).zip ws).take i) (x : Int)).isSome = false := by rw [hb]; rfl
    have hst := stored_absent hb wv
    replace hx0 : vs[(i : Int).toNat]? = some (.int (x : Int) tx') := hx0
    replace ew : ws[(i : Int).toNat]? = some wv := ew
    have hal2 : ∀ p ∈ news ++ own, p.1 ≠ d0 := by
      intro p hp
      rcases List.mem_append.mp hp with hp | hp
      · exact Nat.ne_of_lt (l1 p hp)
      · exact hoff p hp d0 (List.Mem.head _)
    have hms2 : (sl, W.listOf vs.toArray n1) ∈ news ++ own := List.mem_append_left _ hms
    have hmb2 : (bl, W.listOf ws.toArray n2) ∈ news ++ own := List.mem_append_left _ hmb
    have hsb : ∀ p ∈ news, p ∈ news ++ own := fun p hp => List.mem_append_left _ hp
    have hsb2 : ∀ p ∈ own, p ∈ news ++ own := fun p hp => List.mem_append_right _ hp
    simp only [List.cons_append] at N1
    generalize news ++ own = tl at N1 hal2 hms2 hmb2 hsb hsb2
    have hkl : (((zs a).zip ws).take i).length ≤ 10 := by rw [List.length_take]; omega
    (try k_fold)
    k_steps
    refine ⟨?_⟩
    rename News _ _ _ _ => nE
    rename Obj.IsDictOf _ _ (stored _ _ _) => dE
    rename_i oE FE
    rw [hst, ← hz] at dE
    refine' kst_end oE (by assumption) nE ?a1 ?a2 rfl trivial ?a3 ?a4 ?a5
    case a1 =>
      intro p hp
      rcases List.mem_cons.mp hp with hp | hp
      · rw [hp]; exact List.Mem.head _
      · exact List.mem_cons_of_mem _ (hsb p hp)
    case a2 => intro p hp; exact List.mem_cons_of_mem _ (hsb2 p hp)
    case a3 => exact List.forall_mem_nil _
    case a4 => kst_same
    case a5 =>
      show Obj.IsDictOf _ _ _
      rw [List.length_append, List.length_singleton, hpl]
      exact dE
  case done =>
    clear lF' lN' F0 N0 rg
    rintro oc u h tk - hinv F1 N1
    dsimp only [kstB] at F1 N1 hinv
    have hkl : (((zs a).zip ws)).length ≤ a.length := by rw [List.length_zip, zs_length, hwl]; omega
    rw [rangeKs_length, List.take_of_length_le hkl] at hinv
    (try k_fold)
    k_steps
    exact hret (d0, oc) _ _ ⟨hinv, lo1, l1⟩ (by assumption) (by assumption)
end Mine

namespace Mine
local macro_rules | `(tactic| walk_at "none of these") => `(tactic| skip)
local macro_rules | `(tactic| walk_at "ite") => `(tactic| first | (k_closed; k_dflt (first | refine ite_pos (by decide +kernel) ?_ | refine ite_neg (by decide +kernel) ?_)) | (with_reducible refine ite_neg Bool.false_ne_true ?_) | (with_reducible refine ite_pos rfl ?_) | (refine ite_neg (by with_reducible assumption) ?_) | (refine ite_pos (by with_reducible assumption) ?_) | (refine ite_neg (by simp only [decide_eq_true_eq, beq_iff_eq]; omega) ?_) | (refine ite_pos (by simp only [decide_eq_true_eq, beq_iff_eq]; omega) ?_) | (refine halt ?_))
local macro_rules | `(tactic| k_room) => `(tactic| ktr_room)
local macro_rules | `(tactic| k_units) => `(tactic| ktr_units)
local macro_rules | `(tactic| k_all) => `(tactic| assumption)
local macro_rules | `(tactic| k_mem) => `(tactic| assumption)
local macro_rules | `(tactic| walk_at "pyIter str") => `(tactic| refine halt ?_)
local macro_rules | `(tactic| walk_at "InvEndN") => `(tactic| refine halt ?_)
local macro_rules | `(tactic| walk_at "exec For Name Name cons nil") => `(tactic| (k_here; (rename Fr _ _ _ _ => lF'); (with_unfolding_all refine' For_invVF lF' ?k1 ?k2 ?_; (case k1 => exact rfl); (case k2 => exact rfl); k_whole)))
local macro_rules | `(tactic| walk_at "call ref") => `(tactic| ((with_reducible show wpAny _ _ (call (Value.ref 150) _) _ _ _); k_dflt (refine' use_con (codes_con _ _ _ _ _ ?h1 ?h2) ?B ?F ?X ?N ?T ?hk ?hd ?hu ?_; (case h1 => assumption); (case h2 => assumption); (case B => k_asm); (case F => k_asm); (case X => k_asm); (case N => k_asm); (case T => k_asm); (case hk => first | exact rfl | assumption); (case hd => ktr_room); (case hu => ktr_units); intro c9 h9 tk9 f9 F9 N9; (try dsimp only at N9); (try dsimp only at f9); (try dsimp only); refine halt ?_)))
local macro_rules | `(tactic| walk_at "call ref") => `(tactic| ((with_reducible show wpAny _ _ (call (Value.ref 157) _) _ _ _); k_dflt (refine' use_con (table_con _ _ _ _ _ _ _ _ _ _ _ ?m1 ?m2 ?i1 ?i2 ?h1 ?h2 ?h3) ?B ?F ?X ?N ?T ?hk ?hd ?hu ?_; (case N => k_asm); (case m1 => k_mem); (case m2 => k_mem); (case i1 => assumption); (case i2 => assumption); (case h1 => assumption); (case h2 => assumption); (case h3 => assumption); (case B => k_asm); (case F => k_asm); (case X => k_asm); (case T => k_asm); (case hk => first | exact rfl | assumption); (case hd => ktr_room); (case hu => ktr_units); intro c9 h9 tk9 f9 F9 N9; (try dsimp only at N9); (try dsimp only at f9); (try dsimp only); refine halt ?_)))
section
variable {prog : Program} {w : World} {A : Around} {E : Value → Shared → Prop} {s : Shared} {env : Env} {h₀ : Heap} {x : PySem.Str} {body : List Stmt} {Q : Flow → Shared → Prop}
theorem text_loop1 {σ : Type} {xt : PySem.Str} {tt : Tok} {m₀ : PySem.Str → Option Value} {lo : Addr} {rest : List (Addr × Obj)} (O : σ → Obj) (ps : σ → List (PySem.Str × Value)) (stored : List PySem.Str) (P : List Int → σ → Prop) (c₀ : σ)
    (hh : A.handled = none) (F : Fr h₀ env.locals s.heap m₀) (N : News h₀ env.locals s.heap ((lo, O c₀) :: rest)) (hk : ∀ p ∈ ps c₀, m₀ p.1 = some p.2) (hp : P [] c₀)
    (turn : ∀ (c : σ) (pre post : List Int) (n : Nat) t (u : PySem.Str → Option Value) h tk own, KStt.codes xt = pre ++ (n : Int) :: post → (∀ p ∈ own, p.1 ≠ lo) → P pre c →
      Fr h₀ env.locals h (fun y => if y = x then some (.str ⟨#[n]⟩ t) else kstB (fun z => if stored.contains z then u z else m₀ z) (ps c) y) → News h₀ env.locals h ((lo, O c) :: (rest ++ own)) →
      wpAny (model prog w) A (execs body env) (InvPostN h₀ env.locals (KstS (fun c => (lo, O c) :: rest) ps (fun _ => True) x stored m₀ P (pre ++ [(n : Int)])) own (lo :: rest.map (·.1)) { s with heap := h, toks := tk } Q) E { s with heap := h, toks := tk })
    (done : ∀ (c : σ) (u : PySem.Str → Option Value) h tk, P (KStt.codes xt) c → Fr h₀ env.locals h (fun y => if y = x then u y else kstB (fun z => if stored.contains z then u z else m₀ z) (ps c) y) → News h₀ env.locals h ((lo, O c) :: rest) → Q .next { s with heap := h, toks := tk }) :
    wpAny (model prog w) A (pyIter (.str xt tt)) (fun it s₂ => LoopAtV prog w A h₀ env x body Q E it s₂) E s :=
  KStt.kst_text (fun c => (lo, O c) :: rest) ps (fun _ => True) stored P c₀ hh F N trivial hk hp
    (fun c pre post n t u h tk own e hoff _ hP F1 N1 => turn c pre post n t u h tk own e (fun p hp => hoff p hp lo (List.Mem.head _)) hP F1 (by rw [← List.cons_append]; exact N1))
    (fun c u h tk _ hP F1 N1 => done c u h tk hP F1 N1)
theorem end_loop1 {σ : Type} {lo : Addr} {rest : List (Addr × Obj)} {O : σ → Obj} {ps : σ → List (PySem.Str × Value)} {stored : List PySem.Str} {m₀ : PySem.Str → Option Value} {P : List Int → σ → Prop} {pre : List Int} (c : σ) {L : Addr} {m' : PySem.Str → Option Value} {own news' : List (Addr × Obj)} {s₁ : Shared} {h' : Heap} {tk : Nat}
    (F : Fr h₀ L h' m') (N : News h₀ L h' news') (hn : ∀ p ∈ (lo, O c) :: (rest ++ own), p ∈ news') (hk : ∀ p ∈ ps c, m' p.1 = some p.2) (hr : ∀ z, z ≠ x → (∀ p ∈ ps c, z ≠ p.1) → stored.contains z = false → m' z = m₀ z) (hp : P pre c) :
    InvEndN h₀ L (KstS (fun c => (lo, O c) :: rest) ps (fun _ => True) x stored m₀ P pre) own (lo :: rest.map (·.1)) s₁ { s₁ with heap := h', toks := tk } :=
  kst_end c F N (fun p hp => hn p (by rw [← List.cons_append]; exact List.mem_append_left _ hp)) (fun p hp => hn p (List.mem_cons_of_mem _ (List.mem_append_right _ hp))) rfl trivial hk hr hp
end
section
variable {prog : Program} {w : World} {A : Around} {E : Value → Shared → Prop} {s : Shared} {h₀ : Heap} {L l : Addr} {news : List (Addr × Obj)}
theorem join_ones (y : List Nat) : Str.join (Str.ofString "") (y.map fun c => tx [c]) = tx y := by
  have e : Str.ofString "" = ⟨#[]⟩ := by decide +kernel
  rw [e]
  exact join_nil_signs (tx y)
theorem ones_sum (y : List Nat) : ((y.map fun c => tx [c]).map (·.length)).sum = y.length := by
  induction y with
  | nil => rfl
  | cons c r ih => rw [List.map_cons, List.map_cons, List.sum_cons, ih, List.length_cons]; show 1 + _ = _; omega
theorem led_join {us : List Value} {c : Nat} {y : List Nat} {t : Tok} {Q : Value → Shared → Prop} (N : News h₀ L s.heap news) (hm : (l, W.listOf us.toArray c) ∈ news) (hi : StrsAre us (y.map fun c => tx [c])) (hy : y.length ≤ 100)
    (h : ∀ t' k, Q (.str (tx y) t') { s with toks := k }) : wpAny (model prog w) A (call (.builtin "str.join") [.str (Str.ofString "") t, .ref l]) Q E s := by
  have hl : s.heap.IsList l us.toArray := ⟨_, (N _ hm).1, rfl, c, rfl⟩
  refine join_listW hl hi (by decide +kernel) ?_ fun t' k => ?_
  · rw [ones_sum, List.length_map]; omega
  · have e : Txt.join (Str.ofString "") (y.map fun c => tx [c]) = tx y := by
      rw [← join_ones]; exact StrLaws.glued_eq_join _ _
    rw [e]; exact h t' k
end
def look (a b : List Nat) (c : Nat) : Option Nat := ((a.zip b).find? (fun q => q.1 == c)).map (·.2)
def trL (a b x : List Nat) : List Nat := x.map fun c => (look a b c).getD c
def cntL (a x : List Nat) : Nat := (x.filter fun c => a.contains c).length
theorem look_some {ws : List Value} : ∀ {a b : List Nat} {n y : Nat}, IntsAre ws (zs b) → look a b n = some y → ∃ t, valueAt ((zs a).zip ws) (n : Int) = some (.int (y : Int) t) := by
  intro a
  induction a generalizing ws with
  | nil => intro b n y _ h; cases h
  | cons c r ih =>
    intro b n y hi h
    cases b with
    | nil => cases h
    | cons d e =>
      have hi' : IntsAre ws ((d : Int) :: zs e) := hi
      obtain ⟨t, ws', rfl, hi2⟩ := hi'.cons_inv
      by_cases hc : c = n
      · subst hc
        have hy : d = y := by simpa [look] using h
        subst hy
        exact ⟨t, by simp [valueAt, zs]⟩
      · have h2 : look r e n = some y := by
          simpa [look, hc] using h
        obtain ⟨t', h3⟩ := ih hi2 h2
        refine ⟨t', ?_⟩
        rw [← h3]
        have hc' : ¬ ((c : Int) = (n : Int)) := by omega
        simp [valueAt, zs, hc']
theorem look_none {ws : List Value} : ∀ {a b : List Nat} {n : Nat}, ws.length = b.length → look a b n = none → valueAt ((zs a).zip ws) (n : Int) = none := by
  intro a
  induction a generalizing ws with
  | nil => intro b n _ h; rfl
  | cons c r ih =>
    intro b n hi h
    cases ws with
    | nil => rfl
    | cons v ws' =>
      cases b with
      | nil => cases hi
      | cons d e =>
        by_cases hc : c = n
        · subst hc; simp [look] at h
        · have h2 : look r e n = none := by simpa [look, hc] using h
          have h3 := ih (ws := ws') (by simpa using hi) h2
          rw [← h3]
          have hc' : ¬ ((c : Int) = (n : Int)) := by omega
          simp [valueAt, zs, hc']
theorem look_mem {a b : List Nat} {n y : Nat} (h : look a b n = some y) : y ∈ b := by
  unfold look at h
  obtain ⟨q, hq, rfl⟩ := Option.map_eq_some_iff.mp h
  exact (List.of_mem_zip (List.mem_of_find?_eq_some hq)).2
theorem look_contains : ∀ {a b : List Nat} {n : Nat}, a.length = b.length → (look a b n).isSome = a.contains n := by
  intro a
  induction a with
  | nil => intro b n _; rfl
  | cons c r ih =>
    intro b n h
    cases b with
    | nil => cases h
    | cons d e =>
      by_cases hc : c = n
      · subst hc; simp [look]
      · have h2 := ih (b := e) (n := n) (by simpa using h)
        have hc2 : ¬ n = c := fun q => hc q.symm
        have e1 : (c == n) = false := by simpa using hc
        have e2 : (n == c) = false := by simpa using hc2
        simp only [look, List.zip_cons_cons, List.find?_cons, e1, List.contains_cons, e2, Bool.false_or]
        exact h2
theorem codes_at {x : List Nat} {pre post : List Int} {n : Nat} (h : KStt.codes (tx x) = pre ++ (n : Int) :: post) : x[pre.length]? = some n := by
  have h1 : (KStt.codes (tx x))[pre.length]? = some (n : Int) := by rw [h]; simp
  unfold KStt.codes tx at h1
  rw [List.getElem?_map] at h1
  obtain ⟨q, hq, hq2⟩ := Option.map_eq_some_iff.mp h1
  rw [Int.ofNat_inj.mp hq2] at hq
  exact hq
theorem tr_take {x a b : List Nat} {i n : Nat} (e : x[i]? = some n) : trL a b (x.take (i + 1)) = trL a b (x.take i) ++ [(look a b n).getD n] := by
  simp [trL, List.take_add_one, e]
theorem cnt_take {x a : List Nat} {i n : Nat} (e : x[i]? = some n) : cntL a (x.take (i + 1)) = cntL a (x.take i) + (if a.contains n = true then 1 else 0) := by
  unfold cntL
  rw [List.take_add_one, e, List.filter_append, List.length_append]
  congr 1
  show (List.filter (fun c => a.contains c) [n]).length = _
  cases h : a.contains n <;> simp only [List.filter, h] <;> rfl
local macro_rules | `(tactic| walk_at "call builtin:dict.get") => `(tactic| (k_dflt (refine' kdg_get2 (knd := PySem.intKind _ _) ?N ?m ?d ?lo (intKind_is _ _ _ _) _ ?hl ?_; (case N => k_asm); (case m => k_mem); (case d => assumption); (case lo => assumption); (case hl => assumption)); (try dsimp only [Option.getD])))
local macro_rules | `(tactic| walk_at "call builtin:str.join") => `(tactic| (k_dflt (refine' led_join ?N ?m ?i ?y ?_; (case N => k_asm); (case m => k_mem); (case i => assumption); (case y => assumption)); intro t9 k9; (try dsimp only)))
theorem trL_length (a b x : List Nat) : (trL a b x).length = x.length := by simp [trL]
set_option maxHeartbeats 1600000 in
theorem trans_con (w : World) (x a b : List Nat) (t1 t2 t3 t4 t5 : Tok) (news : List (Addr × Obj)) (hx : x.length ≤ 10) (ha : a.length ≤ 10) (hb : b.length ≤ 10) (hab : a.length = b.length) (hac : ∀ c ∈ a, 97 ≤ c ∧ c ≤ 102) (hbc : ∀ c ∈ b, 97 ≤ c ∧ c ≤ 102) (hnd : a.Nodup) :
    Con w 206 [.str (tx x) t1, .str (tx a) t2, .str (tx b) t3, .str (Str.ofString "") t4, .int 300 t5] news 40 160
      (fun c : Addr × Tok × Tok => .ref c.1) (fun c => (c.1, tupOf [.str (tx (trL a b x)) c.2.1, .int (cntL a x) c.2.2]) :: news) (fun c => ∀ p ∈ news, p.1 < c.1) := by
  w_top off
  intro p loose mean mg mb dp un gd cn cs a' ccd cl outer A₀ base h₀ L m s Q E B F X N T hk hd hu hret
  revert X; k_fill; intro X
  refine wpAny_call ?_
  k_dflt cell_enter
  k_steps
  refine ⟨?_⟩
  rename Fr _ _ _ _ => F9
  rename News _ _ _ _ => N9
  rename_i c9 h9 tk9 f9
  obtain ⟨sl, vs, n1⟩ := c9
  obtain ⟨hi1, hl1⟩ := f9
  dsimp only at F9 N9 hi1 hl1
  (try k_fold)
  k_steps
  refine ⟨?_⟩
  rename Fr _ _ _ _ => F8
  rename News _ _ _ _ => N8
  rename_i c8 h8 tk8 f8
  obtain ⟨bl, ws, n2⟩ := c8
  obtain ⟨hi2, hl2⟩ := f8
  dsimp only at F8 N8 hi2 hl2
  (try k_fold)
  k_steps
  refine ⟨?_⟩
  rename Fr _ _ _ _ => F7
  rename News _ _ _ _ => N7
  rename_i c7 h7 tk7 f7
  obtain ⟨d0, od⟩ := c7
  obtain ⟨hdi, hlo, hl3⟩ := f7
  dsimp only at F7 N7 hdi hlo hl3
  (try k_fold)
  k_steps
  refine ⟨?_⟩
  rename Fr _ _ _ _ => lF'
  rename News _ _ _ _ => lN'
  rename _ ∧ _ => l1
  rename_i lo h5 h4 h3 h2
  with_unfolding_all refine' text_loop1 (σ := List Value × Nat × Int × Tok × Int × Tok) ?O ?ps ?stored ?P ([], 0, 0, _, -1, _) ?khh ?kF ?kN ?k3 ?k4 ?turn ?done
  case O => exact fun c => W.listOf c.1.toArray c.2.1
  case ps => exact fun c => [(Str.ofString "count", .int c.2.2.1 c.2.2.2.1), (Str.ofString "last", .int c.2.2.2.2.1 c.2.2.2.2.2)]
  case stored => exact [Str.ofString "code"]
  case P => exact fun pre c => c.1.length = pre.length ∧ StrsAre c.1 ((trL a b (x.take pre.length)).map fun c => tx [c]) ∧ c.2.2.1 = (cntL a (x.take pre.length) : Int)
  case khh => rfl
  case kF => exact lF'
  case kN => exact lN'
  case k3 => exact List.forall_mem_cons.mpr ⟨by with_unfolding_all rfl, List.forall_mem_cons.mpr ⟨by with_unfolding_all rfl, List.forall_mem_nil _⟩⟩
  case k4 => exact ⟨rfl, .nil, rfl⟩
  case turn =>
    clear lF' lN'
    rintro ⟨us, eu, ct, tct, la, tla⟩ pre post n t u h tk own he hoff ⟨hi0, hi1', hi2'⟩ F1 N1
    dsimp only [kstB] at F1 N1 hi0 hi1' hi2'
    simp only [List.cons_append] at N1
    have hal : ∀ p ∈ news ++ own, p.1 ≠ lo := by
      intro p hp
      rcases List.mem_append.mp hp with hp | hp
      · exact Nat.ne_of_lt (kst_ltOf l1.2.2.2.2.2.2 p hp)
      · exact hoff p hp
    have en := codes_at he
    have ht := tr_take (a := a) (b := b) en
    have hc := cnt_take (a := a) en
    generalize htl : news ++ own = tl at N1 hal
    have hul : us.length ≤ 10 := by
      have := congrArg List.length he
      simp only [KStt.codes_length, tx_length, List.length_append, List.length_cons] at this
      omega
    (try k_fold)
    cases hlk : look a b n with
    | none =>
      have hv := look_none (a := a) (b := b) (n := n) (ws := ws) (by rw [hi2.length, zs_length]) hlk
      have hct : a.contains n = false := by rw [← look_contains hab, hlk]; rfl
      rw [hlk] at ht
      rw [hct] at hc
      k_steps
      refine ⟨?_⟩
      subst htl
      rename News _ _ _ _ => nE
      refine' end_loop1 (us ++ [.str ⟨#[n]⟩ t], eu + 1, ct, tct, -1, _) (by assumption) nE ?a1 ?a3 ?a4 ?a5
      case a1 => intro p hp; simpa only [List.push_toArray, List.cons_append] using hp
      case a3 => exact List.forall_mem_cons.mpr ⟨by with_unfolding_all rfl, List.forall_mem_cons.mpr ⟨by with_unfolding_all rfl, List.forall_mem_nil _⟩⟩
      case a4 => kst_same
      case a5 =>
        refine ⟨by simp only [List.length_append, List.length_singleton, hi0], ?_, ?_⟩
        · show StrsAre (us ++ [.str ⟨#[n]⟩ t]) ((trL a b (x.take (pre ++ [(n : Int)]).length)).map fun c => tx [c])
          rw [List.length_append, List.length_singleton, ht, List.map_append]
          exact hi1'.append' (.cons _ _ .nil)
        · show ct = (cntL a (x.take (pre ++ [(n : Int)]).length) : Int)
          rw [List.length_append, List.length_singleton, hc, hi2']; rfl
    | some y =>
      obtain ⟨ty, hv⟩ := look_some hi2 hlk
      have hyb := hbc y (look_mem hlk)
      have hct : a.contains n = true := by rw [← look_contains hab, hlk]; rfl
      rw [hlk] at ht
      rw [hct] at hc
      k_steps
      refine ⟨?_⟩
      subst htl
      rename News _ _ _ _ => nE
      obtain ⟨ty2, nE⟩ : ∃ ty2 : Tok, News _ _ _ ((lo, W.listOf (us.toArray.push (.str ⟨#[(y : Int).toNat]⟩ ty2)) (eu + 1)) :: _) := ⟨_, nE⟩
      refine' end_loop1 (us ++ [.str ⟨#[y]⟩ ty2], eu + 1, ct + 1, _, _, _) (by assumption) nE ?b1 ?b3 ?b4 ?b5
      case b1 => intro p hp; simpa only [List.push_toArray, List.cons_append, Int.toNat_natCast] using hp
      case b3 => exact List.forall_mem_cons.mpr ⟨by with_unfolding_all rfl, List.forall_mem_cons.mpr ⟨by with_unfolding_all rfl, List.forall_mem_nil _⟩⟩
      case b4 => kst_same
      case b5 =>
        refine ⟨by simp only [List.length_append, List.length_singleton, hi0], ?_, ?_⟩
        · show StrsAre (us ++ [.str ⟨#[y]⟩ ty2]) ((trL a b (x.take (pre ++ [(n : Int)]).length)).map fun c => tx [c])
          rw [List.length_append, List.length_singleton, ht, List.map_append]
          exact hi1'.append' (.cons _ _ .nil)
        · show ct + 1 = (cntL a (x.take (pre ++ [(n : Int)]).length) : Int)
          rw [List.length_append, List.length_singleton, hc, hi2']; rfl
  case done =>
    clear lF' lN'
    rintro ⟨us, eu, ct, tct, la, tla⟩ u h tk ⟨hi0, hi1', hi2'⟩ F1 N1
    dsimp only [kstB] at F1 N1 hi0 hi1' hi2'
    rw [KStt.codes_length, tx_length] at hi0 hi1' hi2'
    rw [List.take_length] at hi1' hi2'
    have hyl : (trL a b x).length ≤ 100 := by rw [trL_length]; omega
    (try k_fold)
    k_steps
    rename News _ _ _ _ => nE
    rename _ ∧ _ => l9
    subst hi2'
    obtain ⟨ta, tb, nE⟩ : ∃ ta tb : Tok, News _ _ _ ((_, tupOf [.str (tx (trL a b x)) ta, .int (cntL a x : Int) tb]) :: _) := ⟨_, _, nE⟩
    refine hret (_, ta, tb) _ _ (fun p hp => kst_ltOf l9.2.2.2.2.2.2.2 p hp) (by assumption) ?_
    intro p hp
    rcases List.mem_cons.mp hp with hp | hp
    · rw [hp]; exact nE _ (List.Mem.head _)
    · exact nE _ (by iterate 8 (apply List.mem_cons_of_mem)
                     exact hp)
end Mine

namespace Mine
local macro_rules | `(tactic| walk_at "ite") => `(tactic| first | (k_closed; k_dflt (first | refine ite_pos (by decide +kernel) ?_ | refine ite_neg (by decide +kernel) ?_)) | (with_reducible refine ite_neg Bool.false_ne_true ?_) | (with_reducible refine ite_pos rfl ?_) | (refine ite_neg (by with_reducible assumption) ?_) | (refine ite_pos (by with_reducible assumption) ?_) | (refine ite_neg (by simp only [decide_eq_true_eq, beq_iff_eq]; omega) ?_) | (refine ite_pos (by simp only [decide_eq_true_eq, beq_iff_eq]; omega) ?_) | (refine halt ?_))
local macro_rules | `(tactic| k_room) => `(tactic| ktr_room)
local macro_rules | `(tactic| k_units) => `(tactic| ktr_units)
local macro_rules | `(tactic| k_all) => `(tactic| assumption)
local macro_rules | `(tactic| k_mem) => `(tactic| assumption)
def letters : List Nat := [97, 98, 99, 100, 101, 102]
theorem letters_ok : ∀ c ∈ letters, 97 ≤ c ∧ c ≤ 102 := by decide
theorem letters_nodup : letters.Nodup := by decide
theorem letters_length : letters.length = 6 := rfl
local macro_rules | `(tactic| walk_at "call ref") => `(tactic| ((with_reducible show wpAny _ _ (call (Value.ref 206) _) _ _ _); k_dflt (refine' use_con (trans_con _ _ letters _ _ _ _ _ _ _ ?h1 ?h2 ?h3 ?h4 ?h5 ?h6 ?h7) ?B ?F ?X ?N ?T ?hk ?hd ?hu ?_; (case N => k_asm); (case h1 => assumption); (case h2 => decide); (case h3 => omega); (case h4 => first | assumption | (rw [letters_length]; omega)); (case h5 => exact letters_ok); (case h6 => assumption); (case h7 => exact letters_nodup); (case B => k_asm); (case F => k_asm); (case X => k_asm); (case T => k_asm); (case hk => first | exact rfl | assumption); (case hd => ktr_room); (case hu => ktr_units); intro c9 h9 tk9 f9 F9 N9; (try dsimp only at N9); (try dsimp only at f9); (try dsimp only); (try k_fold))))
set_option maxHeartbeats 800000 in
theorem ltr_con (w : World) (x b : List Nat) (t1 t3 : Tok) (news : List (Addr × Obj)) (hx : x.length ≤ 10) (hb : b.length = 6) (hbc : ∀ c ∈ b, 97 ≤ c ∧ c ≤ 102) :
    Con w 530 [.str (tx x) t1, .str (tx b) t3] news 60 240
      (fun c : Addr × Tok × Tok => .ref c.1) (fun c => (c.1, tupOf [.str (tx (trL letters b x)) c.2.1, .int (cntL letters x) c.2.2]) :: news) (fun c => ∀ p ∈ news, p.1 < c.1) := by
  w_top off
  intro p loose mean mg mb dp un gd cn cs a' ccd cl outer A₀ base h₀ L m s Q E B F X N T hk hd hu hret
  revert X; k_fill; intro X
  refine wpAny_call ?_
  k_dflt cell_enter
  k_steps
  rename Addr × Tok × Tok => c9
  obtain ⟨r9, ta, tb⟩ := c9
  exact hret (r9, ta, tb) _ _ (by assumption) (by assumption) (by assumption)
def rot (j : Nat) : List Nat := ((letters ++ letters).drop j).take 6
theorem rot_ok : ∀ j, j < 6 → (rot j).length = 6 ∧ ∀ c ∈ rot j, 97 ≤ c ∧ c ≤ 102 := by decide
theorem rot_slice : ∀ j : Fin 6, Txt.slice (Txt.mul (Str.ofString "abcdef") 2) (some ((j.val : Nat) : Int)) (some (((j.val : Nat) : Int) + 6)) = tx (rot j.val) := by decide +kernel
local macro_rules | `(tactic| walk_at "call ref") => `(tactic| ((with_reducible show wpAny _ _ (call (Value.ref 530) _) _ _ _); refine halt ?_))
set_option maxHeartbeats 800000 in
theorem turned_con (w : World) (x : List Nat) (k : Int) (t1 t3 : Tok) (news : List (Addr × Obj)) (hx : x.length ≤ 10) (hk0 : 0 ≤ k) (hk1 : k ≤ 20) :
    Con w 537 [.str (tx x) t1, .int k t3] news 80 320
      (fun c : Tok => .str (tx (trL letters (rot (k.toNat % 6)) x)) c) (fun c => news) (fun c => True) := by
  w_top off
  intro p loose mean mg mb dp un gd cn cs a' ccd cl outer A₀ base h₀ L m s Q E B F X N T hk hd hu hret
  revert X; k_fill; intro X
  refine wpAny_call ?_
  k_dflt cell_enter
  k_steps
  have hj : k.toNat % 6 < 6 := Nat.mod_lt _ (by decide)
  have ek : k.fmod 6 = ((k.toNat % 6 : Nat) : Int) := by rw [Int.fmod_eq_emod_of_nonneg _ (by decide)]; omega
  have er := rot_slice ⟨k.toNat % 6, hj⟩
  obtain ⟨hr1, hr2⟩ := rot_ok _ hj
  rw [ek, er]
  generalize rot (k.toNat % 6) = rb at hr1 hr2 hret
  refine ⟨?_⟩
  refine' use_con (ltr_con _ _ rb _ _ _ hx hr1 hr2) ?B ?F ?X ?N ?T ?hk ?hd ?hu ?_
  case N => k_asm
  case B => k_asm
  case F => k_asm
  case X => k_asm
  case T => k_asm
  case hk => rfl
  case hd => ktr_room
  case hu => ktr_units
  rintro ⟨r9, ta, tb⟩ h9 tk9 f9 F9 N9
  dsimp only at f9 N9 ⊢
  (try k_fold)
  k_steps
  rename News _ _ _ _ => nE
  exact hret ta _ _ trivial (by assumption) (fun p hp => nE p (List.mem_cons_of_mem _ hp))
end Mine

namespace Mine
section
variable {prog : Program} {w : World} {A : Around} {E : Value → Shared → Prop} {s : Shared} {h₀ : Heap} {L : Addr} {m : Str → Option Value} {env : Env}
theorem iter_str {x : Str} {t : Tok} {Q : Value → Shared → Prop}
    (hQ : ∀ (o : Obj) (ty : String), (∀ A' : Around, A'.handled = none → Walks prog w A' s.heap.objs.size [s.heap.objs.size] [s.heap.objs.size] x.cps.size (SignAt x) (fun i h => h.IsStrIter s.heap.objs.size ty x t i)) → (s.heap.push o).IsStrIter s.heap.objs.size ty x t 0 →
      Q (.ref s.heap.objs.size) { s with heap := s.heap.push o }) : wpAny (model prog w) A (pyIter (.str x t)) Q E s := by
  refine wpAny_pyIter_strU (hQ _ (strIterType x) ?_ ⟨_, Heap.get?_push_size _ rfl, rfl, rfl⟩)
  intro A' hA
  unfold strIterType
  cases ha : x.cps.all (· < 128)
  · exact Walks.strWide hA _ x t
  · exact Walks.strAscii hA _ x t
def SrcS (prog : Program) (w : World) (A : Around) (h₀ : Heap) (L : Addr) (m : Str → Option Value) (R : Str → Shared → List (Addr × Obj) → Prop) (xv : Value) (s₁ : Shared) : Prop :=
  ∃ xt tt news, xv = .str xt tt ∧ A.handled = none ∧ Fr h₀ L s₁.heap m ∧ News h₀ L s₁.heap news ∧ xt.cps.size ≤ sizeLine ∧ ∀ g, R xt { s₁ with heap := g } news
theorem striter_st {I : Addr} {ty : String} {x : Str} {t : Tok} : ∀ i (h h' : Heap) (o : Obj) (nw : List (Addr × Obj)), h.IsStrIter I ty x t i → h.get? I = some o → h'.get? I = some o → (∀ b o, h₀.get? b = some o → h'.get? b = some o) → News h₀ L h' nw → True → h'.IsStrIter I ty x t i :=
  fun _ _ _ _ _ st e e' _ _ _ => by obtain ⟨o', q, r⟩ := st; rw [e] at q; cases q; exact ⟨_, e', r⟩
theorem ListComp_SU {elt iter : Expr} {x : Str} {px : Pos} {scope : Scope} {cl : List (Str × Addr)} {pos : Pos} {Q : Value → Shared → Prop}
    (_F : Fr h₀ L s.heap m) (hclos : closureFor scope env = pure cl) (hcell : ∀ y ∈ scope.names, y.2 ≠ .cell) (hkind : scope.kind = .function)
    (hnames : ∀ y ∈ scope.names, y.2 = .local → scope.names.lookup y.1 = some .local) (hx : scope.names.lookup x = some .local)
    (h : wpAny (model prog w) A (eval iter env) (SrcS prog w A h₀ L m (fun xt s₂ news => LCg.CompRest prog w A h₀ L m env elt x scope cl s₂ (fun _ => True) (SignAt xt) (LCg.FinE h₀ L m s₂ Q) xt.cps.size 0 [] news)) E s)
    (hs : ∀ x, foldedSetIterable iter env x = pure x) :
    wpAny (model prog w) A (eval (.ListComp elt [⟨.Name x px, iter, [], 0⟩] scope pos) env) Q E s := by
  rw [eval_ListComp]
  refine wpAny_comprehension_free (use := none) rfl hs hclos hkind hnames (wpAny_mono h (fun xv s₁ h₁ => ?_) fun _ _ e => e)
  obtain ⟨xt, tt, news, rfl, hh, F, N, hsz, R⟩ := h₁
  refine iter_str fun o ty W st => ?_
  refine LCg.block_U (W A hh) hsz (fun i h st => by obtain ⟨o, e, _⟩ := st; exact ⟨o, e⟩) striter_st hcell hkind hx st (fun b hb => ?_)
      (F.keeps fun _ _ e => Heap.get?_push_of_some _ e) (N.grown fun _ _ e => Heap.get?_push_of_some _ e) (Nat.ne_of_lt F.ns.lt) (next_is_new F) (fun p hp => Nat.ne_of_lt (Heap.lt_size (N p hp).1)) trivial (R _) ?_
  · rw [List.mem_singleton.mp hb]
    show s₁.heap.objs.size < (s₁.heap.push _).objs.size
    rw [Heap.size_push]; exact Nat.lt_succ_self _
  · intro D C h tk m' ys news' F' N' o1 hn hC₀ hD₀ hCL hDL hCD offC fin
    refine ⟨m', hn, fun h'' hs'' => fin D h'' tk (F'.change hs'' hCL hC₀) (fun p hp => ?_) o1⟩
    refine ⟨hs''.extBut _ _ ?_ (N' p hp).1, (N' p hp).2⟩
    rcases List.mem_cons.mp hp with rfl | hp
    · exact Ne.symm hCD
    · exact offC p hp
theorem ListComp_ST {ct elt iter : Expr} {x : Str} {px : Pos} {scope : Scope} {cl : List (Str × Addr)} {pos : Pos} {Q : Value → Shared → Prop}
    (_F : Fr h₀ L s.heap m) (hclos : closureFor scope env = pure cl) (hcell : ∀ y ∈ scope.names, y.2 ≠ .cell) (hkind : scope.kind = .function)
    (hnames : ∀ y ∈ scope.names, y.2 = .local → scope.names.lookup y.1 = some .local) (hx : scope.names.lookup x = some .local)
    (h : wpAny (model prog w) A (eval iter env) (SrcS prog w A h₀ L m (fun xt s₂ news => LCt.CompRestT prog w A h₀ L m env ct elt x scope cl s₂ (fun _ => True) (SignAt xt) (LCg.FinE h₀ L m s₂ Q) xt.cps.size 0 [] news)) E s)
    (hs : ∀ x, foldedSetIterable iter env x = pure x) :
    wpAny (model prog w) A (eval (.ListComp elt [⟨.Name x px, iter, [ct], 0⟩] scope pos) env) Q E s := by
  rw [eval_ListComp]
  refine wpAny_comprehension_free (use := none) rfl hs hclos hkind hnames (wpAny_mono h (fun xv s₁ h₁ => ?_) fun _ _ e => e)
  obtain ⟨xt, tt, news, rfl, hh, F, N, hsz, R⟩ := h₁
  refine iter_str fun o ty W st => ?_
  refine LCt.block_T (W A hh) hsz (fun i h st => by obtain ⟨o, e, _⟩ := st; exact ⟨o, e⟩) striter_st hcell hkind hx st (fun b hb => ?_)
      (F.keeps fun _ _ e => Heap.get?_push_of_some _ e) (N.grown fun _ _ e => Heap.get?_push_of_some _ e) (Nat.ne_of_lt F.ns.lt) (next_is_new F) (fun p hp => Nat.ne_of_lt (Heap.lt_size (N p hp).1)) trivial (R _) ?_
  · rw [List.mem_singleton.mp hb]
    show s₁.heap.objs.size < (s₁.heap.push _).objs.size
    rw [Heap.size_push]; exact Nat.lt_succ_self _
  · intro D C h tk m' ys news' F' N' o1 hn hC₀ hD₀ hCL hDL hCD offC fin
    refine ⟨m', hn, fun h'' hs'' => fin D h'' tk (F'.change hs'' hCL hC₀) (fun p hp => ?_) o1⟩
    refine ⟨hs''.extBut _ _ ?_ (N' p hp).1, (N' p hp).2⟩
    rcases List.mem_cons.mp hp with rfl | hp
    · exact Ne.symm hCD
    · exact offC p hp
/-- the turns of a comprehension by what holds of the items made and of the ledger -/
theorem rest_inv {elt : Expr} {x : Str} {scope : Scope} {cl : List (Str × Addr)} {S : List (Addr × Obj) → Prop} {P : Nat → Value → Prop} {Fin : List Value → List (Addr × Obj) → Prop} {n : Nat} {news : List (Addr × Obj)} (J : Nat → List Value → List (Addr × Obj) → Prop)
    (h0 : J 0 [] news) (fin : ∀ ys nw, J n ys nw → Fin ys nw)
    (step : ∀ i ys nw v I oI C oC D m₂ h tk (E' : Value → Shared → Prop), i < n → J i ys nw → P i v → LCg.NsObj oC m₂ → m₂ x = some v → Fr h₀ L h m → News h₀ L h ((I, oI) :: (C, oC) :: (D, LCg.lst ys) :: nw) → LCg.Off3 I C D nw → ((@Ne Nat I C) ∧ (@Ne Nat I D) ∧ (@Ne Nat C D)) →
      wpAny (model prog w) A (eval elt (compEnvC scope cl C env)) (LCg.CompEnd h₀ L m { s with heap := h, toks := tk } I oI C oC D (LCg.lst ys) S (fun y nw' => J (i + 1) (ys ++ [y]) nw')) E' { s with heap := h, toks := tk }) :
    LCg.CompRest prog w A h₀ L m env elt x scope cl s S P Fin n 0 [] news := by
  have key : ∀ (j i : Nat) (ys : List Value) nw, i + j = n → J i ys nw → LCg.CompRest prog w A h₀ L m env elt x scope cl s S P Fin j i ys nw := by
    intro j
    induction j with
    | zero => intro i ys nw hi hJ; exact LCg.CompRest.zero (fin ys nw (by rw [← hi]; exact hJ))
    | succ j ih =>
      intro i ys nw hi hJ
      refine LCg.CompRest.succ ?_
      intro v I oI C oC D m₂ h tk E' hv hC hx F N off ne
      refine wpAny_mono (step i ys nw v I oI C oC D m₂ h tk E' (by omega) hJ hv hC hx F N off ne) (fun y s₂ hq => ?_) fun _ _ e => e
      obtain ⟨h', tk', nw', e, F', N', off', hS, hJ'⟩ := hq
      exact ⟨h', tk', nw', e, F', N', off', hS, ih (i + 1) _ _ (by omega) hJ'⟩
  exact key n 0 [] news (by omega) h0
theorem rest_invT {ct elt : Expr} {x : Str} {scope : Scope} {cl : List (Str × Addr)} {S : List (Addr × Obj) → Prop} {P : Nat → Value → Prop} {Fin : List Value → List (Addr × Obj) → Prop} {n : Nat} {news : List (Addr × Obj)} (J : Nat → List Value → List (Addr × Obj) → Prop)
    (h0 : J 0 [] news) (fin : ∀ ys nw, J n ys nw → Fin ys nw)
    (step : ∀ i ys nw v I oI C oC D m₂ h tk (E' : Value → Shared → Prop), i < n → J i ys nw → P i v → LCg.NsObj oC m₂ → m₂ x = some v → Fr h₀ L h m → News h₀ L h ((I, oI) :: (C, oC) :: (D, LCg.lst ys) :: nw) → LCg.Off3 I C D nw → ((@Ne Nat I C) ∧ (@Ne Nat I D) ∧ (@Ne Nat C D)) →
      wpAny (model prog w) A (isTrue ct (compEnvC scope cl C env) (eval ct (compEnvC scope cl C env))) (fun ok s' => if ok = true then
        wpAny (model prog w) A (eval elt (compEnvC scope cl C env)) (LCg.CompEnd h₀ L m { s with heap := h, toks := tk } I oI C oC D (LCg.lst ys) S (fun y nw' => J (i + 1) (ys ++ [y]) nw')) E' s'
        else LCg.CompEnd h₀ L m { s with heap := h, toks := tk } I oI C oC D (LCg.lst ys) S (fun _ nw' => J (i + 1) ys nw') Value.none s') E' { s with heap := h, toks := tk }) :
    LCt.CompRestT prog w A h₀ L m env ct elt x scope cl s S P Fin n 0 [] news := by
  have key : ∀ (j i : Nat) (ys : List Value) nw, i + j = n → J i ys nw → LCt.CompRestT prog w A h₀ L m env ct elt x scope cl s S P Fin j i ys nw := by
    intro j
    induction j with
    | zero => intro i ys nw hi hJ; exact LCt.CompRestT.zero (fin ys nw (by rw [← hi]; exact hJ))
    | succ j ih =>
      intro i ys nw hi hJ
      refine LCt.CompRestT.succ ?_
      intro v I oI C oC D m₂ h tk E' hv hC hx F N off ne
      refine wpAny_mono (step i ys nw v I oI C oC D m₂ h tk E' (by omega) hJ hv hC hx F N off ne) (fun ok s₂ hq => ?_) fun _ _ e => e
      cases ok with
      | true =>
        simp only [if_true] at hq ⊢
        refine wpAny_mono hq (fun y s₃ hq => ?_) fun _ _ e => e
        obtain ⟨h', tk', nw', e, F', N', off', hS, hJ'⟩ := hq
        exact ⟨h', tk', nw', e, F', N', off', hS, ih (i + 1) _ _ (by omega) hJ'⟩
      | false =>
        simp only [Bool.false_eq_true, if_false] at hq ⊢
        obtain ⟨h', tk', nw', e, F', N', off', hS, hJ'⟩ := hq
        exact ⟨h', tk', nw', e, F', N', off', hS, ih (i + 1) _ _ (by omega) hJ'⟩
  exact key n 0 [] news (by omega) h0
end
end Mine

namespace Mine
def st (a b : List Nat) (c : Nat) : Nat := (look a b c).getD c
theorem trL_eq (a b x : List Nat) : trL a b x = x.map (st a b) := rfl
theorem of_letters {c : Nat} (h : letters.contains c = true) : ∃ j : Fin 6, c = 97 + j.val := by
  have h2 : c ∈ letters := by simpa using h
  have h3 := letters_ok c h2
  exact ⟨⟨c - 97, by omega⟩, by show c = 97 + (c - 97); omega⟩
theorem look_out' {a b : List Nat} {c : Nat} (hb : a.length = b.length) (h : a.contains c = false) : look a b c = none := by
  have := look_contains (a := a) (b := b) (n := c) hb
  rw [h] at this
  cases q : look a b c with
  | none => rfl
  | some v => rw [q] at this; cases this
theorem st_out {a b : List Nat} {c : Nat} (hb : a.length = b.length) (h : a.contains c = false) : st a b c = c := by
  unfold st; rw [look_out' hb h]; rfl
/-- what holds of the six letters and of every other sign holds of all -/
theorem by_sign {P : Nat → Prop} (h1 : ∀ j : Fin 6, P (97 + j.val)) (h2 : ∀ c, letters.contains c = false → P c) (c : Nat) : P c := by
  cases h : letters.contains c with
  | true => obtain ⟨j, rfl⟩ := of_letters h; exact h1 j
  | false => exact h2 c h
theorem rot_len (j : Nat) (h : j < 6) : letters.length = (rot j).length := by rw [(rot_ok j h).1]; rfl
theorem two_turns {f g : Nat} (hf : f < 6) (hg : g < 6) (x : List Nat) : trL letters (rot g) (trL letters (rot f) x) = trL letters (rot ((f + g) % 6)) x := by
  rw [trL_eq, trL_eq, trL_eq, List.map_map]
  refine List.map_congr_left fun c _ => ?_
  refine by_sign (P := fun c => (st letters (rot g) ∘ st letters (rot f)) c = st letters (rot ((f + g) % 6)) c) ?_ ?_ c
  · have h : ∀ (f g j : Fin 6), st letters (rot g.val) (st letters (rot f.val) (97 + j.val)) = st letters (rot ((f.val + g.val) % 6)) (97 + j.val) := by decide
    exact fun j => h ⟨f, hf⟩ ⟨g, hg⟩ j
  · intro c hc
    show st letters (rot g) (st letters (rot f) c) = _
    rw [st_out (rot_len f hf) hc, st_out (rot_len g hg) hc, st_out (rot_len _ (Nat.mod_lt _ (by decide))) hc]
theorem no_turn (x : List Nat) : trL letters (rot 0) x = x := by
  rw [trL_eq]
  refine (List.map_congr_left fun c _ => ?_).trans (List.map_id x)
  refine by_sign (P := fun c => st letters (rot 0) c = id c) ?_ ?_ c
  · decide
  · intro c hc; exact st_out (rot_len 0 (by decide)) hc
theorem back_turn {f : Nat} (hf : f < 6) (x : List Nat) : trL letters (rot ((6 - f) % 6)) (trL letters (rot f) x) = x := by
  rw [two_turns hf (Nat.mod_lt _ (by decide))]
  have e : (f + (6 - f) % 6) % 6 = 0 := by omega
  rw [e, no_turn]
theorem rev_rev (x : List Nat) : trL letters letters.reverse (trL letters letters.reverse x) = x := by
  rw [trL_eq, trL_eq, List.map_map]
  refine (List.map_congr_left fun c _ => ?_).trans (List.map_id x)
  refine by_sign (P := fun c => (st letters letters.reverse ∘ st letters letters.reverse) c = id c) (by decide) ?_ c
  intro c hc
  show st letters letters.reverse (st letters letters.reverse c) = c
  rw [st_out (by decide) hc, st_out (by decide) hc]
theorem rev_turn {f : Nat} (hf : f < 6) (x : List Nat) : trL letters letters.reverse (trL letters (rot f) (trL letters letters.reverse x)) = trL letters (rot ((6 - f) % 6)) x := by
  rw [trL_eq, trL_eq, trL_eq, trL_eq, List.map_map, List.map_map]
  refine List.map_congr_left fun c _ => ?_
  refine by_sign (P := fun c => (st letters letters.reverse ∘ st letters (rot f) ∘ st letters letters.reverse) c = st letters (rot ((6 - f) % 6)) c) ?_ ?_ c
  · have h : ∀ (f j : Fin 6), st letters letters.reverse (st letters (rot f.val) (st letters letters.reverse (97 + j.val))) = st letters (rot ((6 - f.val) % 6)) (97 + j.val) := by decide
    exact fun j => h ⟨f, hf⟩ j
  · intro c hc
    show st letters letters.reverse (st letters (rot f) (st letters letters.reverse c)) = _
    rw [st_out (a := letters) (b := letters.reverse) (by decide) hc, st_out (rot_len f hf) hc, st_out (by decide) hc, st_out (rot_len _ (Nat.mod_lt _ (by decide))) hc]
/-- there and back by a table and its mirror -/
theorem look_back : ∀ {a b : List Nat} {c y : Nat}, b.Nodup → look a b c = some y → look b a y = some c := by
  intro a
  induction a with
  | nil => intro b c y _ h; cases h
  | cons p r ih =>
    intro b c y hb h
    cases b with
    | nil => cases h
    | cons d e =>
      have hb' := List.nodup_cons.mp hb
      by_cases hp : p = c
      · subst hp
        have hy : d = y := by simpa [look] using h
        subst hy
        simp [look]
      · have h2 : look r e c = some y := by simpa [look, hp] using h
        have h3 := ih hb'.2 h2
        have hm := look_mem h2
        have hd : ¬ d = y := fun q => hb'.1 (by rw [q]; exact hm)
        simpa [look, hd] using h3
theorem there_back {od : List Nat} (ho : od.Perm letters) (x : List Nat) : trL od letters (trL letters od x) = x := by
  have hl : letters.length = od.length := ho.length_eq.symm
  have hn : od.Nodup := ho.symm.nodup letters_nodup
  rw [trL_eq, trL_eq, List.map_map]
  refine (List.map_congr_left fun c _ => ?_).trans (List.map_id x)
  show st od letters (st letters od c) = c
  cases h : look letters od c with
  | some y =>
    have h1 : st letters od c = y := by unfold st; rw [h]; rfl
    have h2 := look_back hn h
    rw [h1]; unfold st; rw [h2]; rfl
  | none =>
    have h1 : st letters od c = c := by unfold st; rw [h]; rfl
    have hc : letters.contains c = false := by rw [← look_contains hl, h]; rfl
    have hc2 : od.contains c = false := by
      cases q : od.contains c with
      | false => rfl
      | true =>
        have : c ∈ letters := ho.mem_iff.mp (by simpa using q)
        have : letters.contains c = true := by simpa using this
        rw [hc] at this; cases this
    rw [h1, st_out hl.symm hc2]
theorem rev_tx (l : List Nat) (u : Tok) : Txt.sliceBy (tx l) none none (-1, u) = tx l.reverse := by
  refine Str.ext' (Array.toList_inj.mp ?_)
  rw [step_rev_list]
  show _ = l.reverse
  refine List.ext_getElem ?_ fun i h1 h2 => ?_
  · rw [List.length_map, List.length_range, tx_length, List.length_reverse]
  · rw [List.length_map, List.length_range, tx_length] at h1
    rw [List.getElem_map, List.getElem_range, tx_length, List.getElem_reverse]
    show (tx l).cps.getD (l.length - 1 - i) 0 = _
    have h3 : l.length - 1 - i < l.length := by omega
    simp [tx, Array.getD, h3]
theorem abc_tx : Str.ofString "abcdef" = tx letters := by decide +kernel
theorem rev_slice (u : Tok) : Txt.sliceBy (Str.ofString "abcdef") none none (-1, u) = tx letters.reverse := by rw [abc_tx, rev_tx]
end Mine

namespace Mine
theorem bne_not {α : Type} [BEq α] [LawfulBEq α] {a b : α} (h : a = b) : ¬ ((a != b) = true) := by subst h; simp
local macro_rules | `(tactic| walk_at "ite") => `(tactic| first | (refine ite_neg (bne_not (by first | with_reducible rfl | with_reducible assumption)) ?_) | (k_closed; k_dflt (first | refine ite_pos (by decide +kernel) ?_ | refine ite_neg (by decide +kernel) ?_)) | (with_reducible refine ite_neg Bool.false_ne_true ?_) | (with_reducible refine ite_pos rfl ?_) | (refine ite_neg (by with_reducible assumption) ?_) | (refine ite_pos (by with_reducible assumption) ?_) | (refine ite_neg (by simp only [decide_eq_true_eq, beq_iff_eq]; omega) ?_) | (refine ite_pos (by simp only [decide_eq_true_eq, beq_iff_eq]; omega) ?_) | (refine ite_pos True.intro ?_) | (refine halt ?_))
local macro_rules | `(tactic| k_room) => `(tactic| ktr_room)
local macro_rules | `(tactic| k_units) => `(tactic| ktr_units)
local macro_rules | `(tactic| k_all) => `(tactic| assumption)
local macro_rules | `(tactic| k_mem) => `(tactic| assumption)
local macro_rules | `(tactic| walk_at "call ref") => `(tactic| ((with_reducible show wpAny _ _ (call (Value.ref 530) _) _ _ _); refine halt ?_))
local macro_rules | `(tactic| walk_at "call ref") => `(tactic| ((with_reducible show wpAny _ _ (call (Value.ref 537) _) _ _ _); refine halt ?_))
local macro_rules | `(tactic| walk_at "call ref") => `(tactic| ((with_reducible show wpAny _ _ (call (Value.ref 206) _) _ _ _); refine halt ?_))
local macro_rules | `(tactic| walk_at "eval ListComp") => `(tactic| refine halt ?_)
local macro_rules | `(tactic| walk_at "CompEnd") => `(tactic| refine halt ?_)
local macro_rules | `(tactic| walk_at "call builtin:len") => `(tactic| ((with_reducible show wpAny _ _ (call (Value.builtin "len") [Value.ref _]) _ _ _); k_dflt (refine' kst_len ?N ?m ?e ?fit ?_; (case N => k_asm); (case m => k_mem); (case e => assumption); (case fit => omega))))
theorem ltr_con' (w : World) (x b : List Nat) (bs : Str) (t1 t3 : Tok) (news : List (Addr × Obj)) (e : bs = tx b) (hx : x.length ≤ 10) (hb : b.length = 6) (hbc : ∀ c ∈ b, 97 ≤ c ∧ c ≤ 102) :
    Con w 530 [.str (tx x) t1, .str bs t3] news 60 240
      (fun c : Addr × Tok × Tok => .ref c.1) (fun c => (c.1, tupOf [.str (tx (trL letters b x)) c.2.1, .int (cntL letters x) c.2.2]) :: news) (fun c => ∀ p ∈ news, p.1 < c.1) := by
  rw [e]; exact ltr_con w x b t1 t3 news hx hb hbc
local macro_rules | `(tactic| walk_at "call ref") => `(tactic| ((with_reducible show wpAny _ _ (call (Value.ref 530) _) _ _ _); k_dflt (refine' use_con (ltr_con' _ _ _ _ _ _ _ ?h0 ?h1 ?h2 ?h3) ?B ?F ?X ?N ?T ?hk ?hd ?hu ?_; (case N => k_asm); (case h0 => first | assumption | exact rev_slice _); (case h1 => first | assumption | (rw [trL_length]; assumption) | (rw [trL_length, trL_length]; assumption)); (case h2 => assumption); (case h3 => assumption); (case B => k_asm); (case F => k_asm); (case X => k_asm); (case T => k_asm); (case hk => first | exact rfl | assumption); (case hd => ktr_room); (case hu => ktr_units); intro c9 h9 tk9 f9 F9 N9; (try dsimp only at N9); (try dsimp only at f9); (try dsimp only); (try k_fold))))
local macro_rules | `(tactic| walk_at "call ref") => `(tactic| ((with_reducible show wpAny _ _ (call (Value.ref 537) _) _ _ _); k_dflt (refine' use_con (turned_con _ _ _ _ _ _ ?h1 ?h2 ?h3) ?B ?F ?X ?N ?T ?hk ?hd ?hu ?_; (case N => k_asm); (case h1 => first | assumption | (rw [trL_length]; assumption) | (rw [trL_length, trL_length]; assumption)); (case h2 => omega); (case h3 => omega); (case B => k_asm); (case F => k_asm); (case X => k_asm); (case T => k_asm); (case hk => first | exact rfl | assumption); (case hd => ktr_room); (case hu => ktr_units); intro c9 h9 tk9 f9 F9 N9; (try dsimp only at N9); (try dsimp only); (try k_fold))))
local macro_rules | `(tactic| walk_at "call ref") => `(tactic| ((with_reducible show wpAny _ _ (call (Value.ref 206) _) _ _ _); k_dflt (refine' use_con (trans_con _ _ _ letters _ _ _ _ _ _ ?h1 ?h2 ?h3 ?h4 ?h5 ?h6 ?h7) ?B ?F ?X ?N ?T ?hk ?hd ?hu ?_; (case N => k_asm); (case h1 => first | assumption | (rw [trL_length]; assumption)); (case h2 => omega); (case h3 => decide); (case h4 => assumption); (case h5 => assumption); (case h6 => exact letters_ok); (case h7 => assumption); (case B => k_asm); (case F => k_asm); (case X => k_asm); (case T => k_asm); (case hk => first | exact rfl | assumption); (case hd => ktr_room); (case hu => ktr_units); intro c9 h9 tk9 f9 F9 N9; (try dsimp only at N9); (try dsimp only at f9); (try dsimp only); (try k_fold))))
theorem in_letters : ∀ c : Fin 128, (!(Builtin.Str.occurrences (Str.ofString "abcdef") ⟨#[c.val]⟩ 0 (Str.ofString "abcdef").length 1).isEmpty) = letters.contains c.val := by decide +kernel
theorem due_in : ∀ (j f : Fin 6), Txt.item (Str.ofString "abcdef") ((Txt.find (Str.ofString "abcdef") ⟨#[97 + j.val]⟩ + ((f.val : Nat) : Int)).fmod 6) = tx [(look letters (rot f.val) (97 + j.val)).getD (97 + j.val)] := by decide +kernel
/-- a sign of the law's texts -/
def signOk (c : Nat) : Prop := c < 128
local macro_rules | `(tactic| walk_at "call builtin:str.join") => `(tactic| (k_dflt (refine' led_join ?N ?m ?i ?y ?_; (case N => k_asm); (case m => k_mem); (case i => assumption); (case y => assumption)); intro t9 k9; (try dsimp only)))
set_option maxHeartbeats 800000 in
theorem right_con (w : World) (x od : List Nat) (f g : Nat) (t1 t2 t3 t4 : Tok) (news : List (Addr × Obj)) (hx : x.length ≤ 10) (hxc : ∀ c ∈ x, c < 128) (hf1 : f < 6) (hg1 : g < 6) (hod : od.Perm letters) :
    Con w 542 [.str (tx x) t1, .int f t2, .int g t3, .str (tx od) t4] news 120 480
      (fun _ : Unit => .bool true) (fun _ => news) (fun _ => True) := by
  w_top off
  intro p loose mean mg mb dp un gd cn cs a' ccd cl outer A₀ base h₀ L m s Q E B F X N T hk hd hu hret
  revert X; k_fill; intro X
  have E1 : tx (trL letters (rot ((g : Int).toNat % 6)) (trL letters (rot f) x)) = tx (trL letters (rot (((f : Int) + (g : Int)).toNat % 6)) x) := by
    have e1 : (g : Int).toNat % 6 = g := by omega
    have e2 : ((f : Int) + (g : Int)).toNat % 6 = (f + g) % 6 := by omega
    rw [e1, e2, two_turns hf1 hg1]
  have E2 : tx (trL letters (rot ((6 - (f : Int)).toNat % 6)) (trL letters (rot f) x)) = tx x := by
    have e1 : (6 - (f : Int)).toNat % 6 = (6 - f) % 6 := by omega
    rw [e1, back_turn hf1]
  have E3 : tx (trL letters letters.reverse (trL letters letters.reverse x)) = tx x := by rw [rev_rev]
  have E4 : tx (trL letters letters.reverse (trL letters (rot ((f : Int).toNat % 6)) (trL letters letters.reverse x))) = tx (trL letters (rot ((6 - (f : Int)).toNat % 6)) x) := by
    have e1 : (6 - (f : Int)).toNat % 6 = (6 - f) % 6 := by omega
    have e2 : (f : Int).toNat % 6 = f := by omega
    rw [e1, e2, rev_turn hf1]
  have hv1 : letters.reverse.length = 6 := rfl
  have hv2 : ∀ c ∈ letters.reverse, 97 ≤ c ∧ c ≤ 102 := by decide
  have E5 := there_back hod x
  have ho1 : od.length = 6 := hod.length_eq
  have ho2 : ∀ c ∈ od, 97 ≤ c ∧ c ≤ 102 := fun c hc => letters_ok c (hod.mem_iff.mp hc)
  have ho3 : od.Nodup := hod.symm.nodup letters_nodup
  have ho4 : tx od = tx od := rfl
  obtain ⟨ck, cnm, cgen, cco, cmore⟩ := cs
  have hk' : ck = .function := hk
  subst hk'
  refine wpAny_call ?_
  have er := rot_slice ⟨f, hf1⟩
  obtain ⟨hr1, hr2⟩ := rot_ok _ hf1
  dsimp only at er
  k_dflt k_enter
  k_steps
  refine ⟨?_⟩
  rename Addr × Tok × Tok => c9
  k_dflt (refine' ListComp_SU ?c0 ?c1 ?c2 ?c3 ?c4 ?c5 ?c6 ?c7)
  case c0 => k_asm
  case c1 => with_unfolding_all rfl
  case c2 => decide
  case c3 => rfl
  case c4 => decide
  case c5 => rfl
  case c7 => intro _; rfl
  case c6 =>
    k_steps
    rename Fr _ _ _ _ => F8
    rename News _ _ _ _ => N8
    refine ⟨_, _, _, rfl, rfl, F8, N8, by rw [sizeLine_eq]; have := tx_length x; unfold Str.length at this; omega, fun gh => ?_⟩
    clear F8 N8
    refine rest_inv (fun i ys nw => nw = (c9.1, tupOf [.str (tx (trL letters (rot f) x)) c9.2.1, .int (cntL letters x) c9.2.2]) :: _ ∧ StrsAre ys ((trL letters (rot f) (x.take i)).map fun c => tx [c])) ⟨rfl, .nil⟩ ?_ ?_
    · intro ys nw hJ
      obtain ⟨hnw, hys⟩ := hJ
      subst hnw
      intro D h tk F1 N1 hof1
      have hys2 : StrsAre ys ((trL letters (rot f) x).map fun c => tx [c]) := by
        have e : x.take (tx x).cps.size = x := List.take_of_length_le (by rw [show (tx x).cps.size = x.length from tx_length x]; omega)
        rw [e] at hys; exact hys
      have hyl : (trL letters (rot f) x).length ≤ 100 := by rw [trL_length]; omega
      (try k_fold)
      k_steps
      refine ⟨?_⟩
      k_dflt (refine' ListComp_ST ?d0 ?d1 ?d2 ?d3 ?d4 ?d5 ?d6 ?d7)
      case d0 => k_asm
      case d1 => with_unfolding_all rfl
      case d2 => decide
      case d3 => rfl
      case d4 => decide
      case d5 => rfl
      case d7 => intro _; rfl
      case d6 =>
        k_steps
        rename Fr _ _ _ _ => F8
        rename News _ _ _ _ => N8
        refine ⟨_, _, _, rfl, rfl, F8, N8, by rw [sizeLine_eq]; have := tx_length x; unfold Str.length at this; omega, fun gh => ?_⟩
        clear F8 N8
        refine rest_invT (fun i zs nw => nw = _ ∧ zs.length = cntL letters (x.take i)) ⟨rfl, rfl⟩ ?_ ?_
        · intro zs nw hJ
          obtain ⟨hnw, hzs⟩ := hJ
          subst hnw
          intro D2 h tk F1 N1 hof2
          have hzl : zs.length = cntL letters x := by
            have e : x.take (tx x).cps.size = x := List.take_of_length_le (by rw [show (tx x).cps.size = x.length from tx_length x]; omega)
            rw [e] at hzs; exact hzs
          have hcl : cntL letters x ≤ 10 := Nat.le_trans (List.length_filter_le _ _) hx
          (try k_fold)
          k_steps
          rename News _ _ _ _ => nE
          rw [E5, beq_self_eq_true]
          exact hret () _ _ trivial (by assumption) (fun p hp => nE p (by repeat (first | exact hp | apply List.mem_cons_of_mem)))
        · intro i zs nw v I oI C oC D2 m₂ h tk E' hin hJ hv hC hx2 F1 N1 hoff hne
          obtain ⟨hnw, hzs⟩ := hJ
          subst hnw
          obtain ⟨c, u, hc, rfl⟩ := hv
          (try k_fold)
          have hcx : x[i]? = some c := by simpa [tx] using hc
          have hc128 := hxc c (List.mem_of_getElem? hcx)
          have hil := in_letters ⟨c, hc128⟩
          have hct := cnt_take (a := letters) hcx
          dsimp only at hil
          cases hcl : letters.contains c with
          | true =>
            rw [hcl] at hil hct
            k_steps
            refine ⟨?_⟩
            rename Fr _ _ _ _ => F2
            rename News _ _ _ _ => N2
            refine LCg.CompEnd.intro F2 N2 _ (fun p hp => hp) hoff trivial ⟨rfl, ?_⟩
            rw [List.length_append, hzs, hct]; rfl
          | false =>
            rw [hcl] at hil hct
            have hil2 : ¬ ((!(Builtin.Str.occurrences (Str.ofString "abcdef") ⟨#[c]⟩ 0 (Str.ofString "abcdef").length 1).isEmpty) = true) := by rw [hil]; exact Bool.false_ne_true
            k_steps
            refine ⟨?_⟩
            rename Fr _ _ _ _ => F2
            rename News _ _ _ _ => N2
            refine LCg.CompEnd.intro F2 N2 _ (fun p hp => hp) hoff trivial ⟨rfl, ?_⟩
            rw [hzs, hct]; rfl
    · intro i ys nw v I oI C oC D m₂ h tk E' hin hJ hv hC hx2 F1 N1 hoff hne
      obtain ⟨hnw, hys⟩ := hJ
      subst hnw
      obtain ⟨c, u, hc, rfl⟩ := hv
      (try k_fold)
      have hcx : x[i]? = some c := by simpa [tx] using hc
      have hc128 := hxc c (List.mem_of_getElem? hcx)
      have hil := in_letters ⟨c, hc128⟩
      dsimp only at hil
      cases hcl : letters.contains c with
      | true =>
        rw [hcl] at hil
        k_steps
        refine ⟨?_⟩
        rename Fr _ _ _ _ => F2
        rename News _ _ _ _ => N2
        obtain ⟨j, rfl⟩ := of_letters hcl
        have hd := due_in j ⟨f, hf1⟩
        dsimp only at hd
        rw [hd]
        refine LCg.CompEnd.intro F2 N2 _ (fun p hp => hp) hoff trivial ⟨rfl, ?_⟩
        rw [tr_take hcx, List.map_append]
        exact hys.append' (.cons _ _ .nil)
      | false =>
        rw [hcl] at hil
        have hil2 : ¬ ((!(Builtin.Str.occurrences (Str.ofString "abcdef") ⟨#[c]⟩ 0 (Str.ofString "abcdef").length 1).isEmpty) = true) := by rw [hil]; exact Bool.false_ne_true
        k_steps
        refine ⟨?_⟩
        rename Fr _ _ _ _ => F2
        rename News _ _ _ _ => N2
        refine LCg.CompEnd.intro F2 N2 _ (fun p hp => hp) hoff trivial ⟨rfl, ?_⟩
        rw [tr_take hcx, List.map_append, look_out' (a := letters) (b := rot f) hr1.symm hcl]
        exact hys.append' (.cons _ _ .nil)
end Mine

namespace Mine
local macro_rules | `(tactic| walk_at "ite") => `(tactic| first | (refine ite_neg (bne_not ((rev_tx _ _).trans (by with_reducible assumption))) ?_) | (refine ite_neg (bne_not (by first | with_reducible rfl | with_reducible assumption)) ?_) | (k_closed; k_dflt (first | refine ite_pos (by decide +kernel) ?_ | refine ite_neg (by decide +kernel) ?_)) | (with_reducible refine ite_neg Bool.false_ne_true ?_) | (with_reducible refine ite_pos rfl ?_) | (refine ite_neg (by with_reducible assumption) ?_) | (refine ite_pos (by with_reducible assumption) ?_) | (refine ite_neg (by simp only [decide_eq_true_eq, beq_iff_eq]; omega) ?_) | (refine ite_pos (by simp only [decide_eq_true_eq, beq_iff_eq]; omega) ?_) | (refine ite_pos True.intro ?_) | (refine halt ?_))
local macro_rules | `(tactic| k_room) => `(tactic| ktr_room)
local macro_rules | `(tactic| k_units) => `(tactic| ktr_units)
local macro_rules | `(tactic| k_all) => `(tactic| assumption)
local macro_rules | `(tactic| k_mem) => `(tactic| assumption)
def OkT (n : Nat) (u : List Nat) : Prop := u.length = n ∧ ∀ c ∈ u, c < 128
theorem OkT.out {n : Nat} {u : List Nat} (h : OkT n u) : u.length = n := h.1
set_option maxHeartbeats 800000 in
theorem rev_con (w : World) (l : List Nat) (t1 : Tok) (news : List (Addr × Obj)) (hl : l.length ≤ 10) :
    Con w 515 [.str (tx l) t1] news 10 40 (fun t : Tok => .str (tx l.reverse) t) (fun _ => news) (fun _ => True) := by
  w_top off
  intro p loose mean mg mb dp un gd cn cs a' ccd cl outer A₀ base h₀ L m s Q E B F X N T hk hd hu hret
  revert X; k_fill; intro X
  refine wpAny_call ?_
  k_dflt cell_enter
  have hlx := tx_length l
  k_steps
  rw [rev_tx]
  exact hret _ _ _ trivial (by assumption) (by assumption)
local macro_rules | `(tactic| walk_at "call ref") => `(tactic| ((with_reducible show wpAny _ _ (call (Value.ref _) [Value.str _ _, Value.str _ _]) _ _ _); refine halt ?_))
local macro_rules | `(tactic| walk_at "call ref") => `(tactic| ((with_reducible show wpAny _ _ (call (Value.ref 515) _) _ _ _); k_dflt (refine' use_con (rev_con _ _ _ _ ?h1) ?B ?F ?X ?N ?T ?hk ?hd ?hu ?_; (case N => k_asm); (case h1 => first | assumption | exact Nat.le_trans (Nat.le_of_eq (OkT.out (by assumption))) (by assumption)); (case B => k_asm); (case F => k_asm); (case X => k_asm); (case T => k_asm); (case hk => first | exact rfl | assumption); (case hd => ktr_room); (case hu => ktr_units); intro c9 h9 tk9 f9 F9 N9; (try dsimp only at N9); (try dsimp only); (try k_fold))))
local macro_rules | `(tactic| walk_at "call ref") => `(tactic| ((with_reducible show wpAny _ _ (call (Value.ref 479) _) _ _ _); k_dflt (refine' use_con (xor_con _ _ _ _ _ _ _ ?h1 ?h2 ?h3 ?h4) ?B ?F ?X ?N ?T ?hk ?hd ?hu ?_; (case N => k_asm); (case h1 => assumption); (case h2 => assumption); (case h3 => assumption); (case h4 => assumption); (case B => k_asm); (case F => k_asm); (case X => k_asm); (case T => k_asm); (case hk => first | exact rfl | assumption); (case hd => ktr_room); (case hu => ktr_units); intro c9 h9 tk9 f9 F9 N9; (try dsimp only at N9); (try dsimp only); (try k_fold))))
local macro_rules | `(tactic| walk_at "eval ListComp") => `(tactic| refine halt ?_)
local macro_rules | `(tactic| walk_at "CompSrc") => `(tactic| refine halt ?_)
local macro_rules | `(tactic| walk_at "CompEnd") => `(tactic| refine halt ?_)
theorem xorL_length {u v : List Nat} (h : u.length = v.length) : (xorL u v).length = u.length := by simp [xorL, h]
theorem xorL_cons (a b : Nat) (u v : List Nat) : xorL (a :: u) (b :: v) = (a ^^^ b) :: xorL u v := rfl
theorem xorL_lt : ∀ {u v : List Nat}, (∀ c ∈ u, c < 128) → (∀ c ∈ v, c < 128) → ∀ c ∈ xorL u v, c < 128 := by
  intro u
  induction u with
  | nil => intro v _ _ c h; cases h
  | cons p r ih =>
    intro v h1 h2 c hc
    cases v with
    | nil => cases hc
    | cons q e =>
      rw [xorL_cons] at hc
      rcases List.mem_cons.mp hc with rfl | hc
      · exact xor_lt128 (h1 p (List.Mem.head _)) (h2 q (List.Mem.head _))
      · exact ih (fun c h => h1 c (List.mem_cons_of_mem _ h)) (fun c h => h2 c (List.mem_cons_of_mem _ h)) c hc
theorem OkT.xor {n : Nat} {u v : List Nat} (h1 : OkT n u) (h2 : OkT n v) : OkT n (xorL u v) := ⟨(xorL_length (h1.1.trans h2.1.symm)).trans h1.1, xorL_lt h1.2 h2.2⟩
theorem OkT.rev {n : Nat} {u : List Nat} (h : OkT n u) : OkT n u.reverse := ⟨by rw [List.length_reverse]; exact h.1, fun c hc => h.2 c (List.mem_reverse.mp hc)⟩
theorem xorL_assoc : ∀ (x a b : List Nat), xorL (xorL x a) b = xorL x (xorL a b)
  | [], _, _ => by simp [xorL]
  | _ :: _, [], _ => by simp [xorL]
  | _ :: _, _ :: _, [] => by simp [xorL]
  | p :: x, q :: a, r :: b => by rw [xorL_cons, xorL_cons, xorL_cons, xorL_cons, xorL_assoc x a b, Nat.xor_assoc]
theorem xorL_comm : ∀ (a b : List Nat), xorL a b = xorL b a
  | [], b => by cases b <;> rfl
  | _ :: _, [] => rfl
  | p :: a, q :: b => by rw [xorL_cons, xorL_cons, xorL_comm a b, Nat.xor_comm]
theorem xorL_self : ∀ (a : List Nat), xorL a a = List.replicate a.length 0
  | [] => rfl
  | p :: a => by rw [xorL_cons, xorL_self a, Nat.xor_self]; rfl
theorem xorL_zero : ∀ (x : List Nat) (n : Nat), x.length = n → xorL x (List.replicate n 0) = x
  | [], _, _ => rfl
  | p :: x, 0, h => by cases h
  | p :: x, n + 1, h => by rw [List.replicate_succ, xorL_cons, xorL_zero x n (by simpa using h), Nat.xor_zero]
theorem xorL_twice {x a : List Nat} (h : x.length = a.length) : xorL (xorL x a) a = x := by
  rw [xorL_assoc, xorL_self, xorL_zero x _ h]
theorem xorL_swap (x a b : List Nat) : xorL (xorL x a) b = xorL (xorL x b) a := by
  rw [xorL_assoc, xorL_comm a b, ← xorL_assoc]
theorem xorL_append : ∀ (a b c d : List Nat), a.length = c.length → xorL (a ++ b) (c ++ d) = xorL a c ++ xorL b d
  | [], b, [], d, _ => rfl
  | [], _, _ :: _, _, h => by cases h
  | _ :: _, _, [], _, h => by cases h
  | p :: a, b, q :: c, d, h => by
    show xorL (p :: (a ++ b)) (q :: (c ++ d)) = _
    rw [xorL_cons, xorL_append a b c d (by simpa using h), xorL_cons]; rfl
theorem xorL_rev : ∀ (x a : List Nat), x.length = a.length → (xorL x a).reverse = xorL x.reverse a.reverse
  | [], [], _ => rfl
  | [], _ :: _, h => by cases h
  | _ :: _, [], h => by cases h
  | p :: x, q :: a, h => by
    have h' : x.length = a.length := by simpa using h
    rw [xorL_cons, List.reverse_cons, xorL_rev x a h', List.reverse_cons, List.reverse_cons, xorL_append _ _ _ _ (by rw [List.length_reverse, List.length_reverse]; exact h')]
    rfl
theorem xorL_take {x a : List Nat} {i cx ca : Nat} (h1 : x[i]? = some cx) (h2 : a[i]? = some ca) : (xorL x a).take (i + 1) = (xorL x a).take i ++ [cx ^^^ ca] := by
  rw [List.take_add_one]
  congr 1
  simp [xorL, h1, h2, List.getElem?_zipWith]
theorem mul0 : ∀ n : Fin 11, Txt.mul { cps := #[Int.toNat 0] } ((n.val : Nat) : Int) = tx (List.replicate n.val 0) := by decide +kernel
theorem mul32 : ∀ n : Fin 11, Txt.mul (Str.ofString " ") ((n.val : Nat) : Int) = tx (List.replicate n.val 32) := by decide +kernel
theorem mul_sp {l : List Nat} (h : l.length ≤ 10) : Txt.mul (Str.ofString " ") ((tx l).length : Int) = tx (List.replicate l.length 32) := by
  rw [tx_length]; exact mul32 ⟨l.length, by omega⟩
theorem mul_no {l : List Nat} (h : l.length ≤ 10) : Txt.mul { cps := #[Int.toNat 0] } ((tx l).length : Int) = tx (List.replicate l.length 0) := by
  rw [tx_length]; exact mul0 ⟨l.length, by omega⟩
def keep (c : Nat) : Bool := !(c == 32 || c == 46)
theorem keep_in : ∀ c : Fin 128, (!!(Builtin.Str.occurrences (Str.ofString " .") ⟨#[c.val]⟩ 0 (Str.ofString " .").length 1).isEmpty) = keep c.val := by decide +kernel
theorem filter_take {x : List Nat} {i c : Nat} (p : Nat → Bool) (h : x[i]? = some c) : (x.take (i + 1)).filter p = (x.take i).filter p ++ (if p c = true then [c] else []) := by
  rw [List.take_add_one, h, List.filter_append]
  congr 1
  show List.filter p [c] = _
  cases q : p c <;> simp [List.filter, q]
theorem xorL_32 : ∀ l : List Nat, xorL l (List.replicate l.length 32) = l.map (fun c => c ^^^ 32)
  | [] => rfl
  | p :: l => by rw [List.length_cons, List.replicate_succ, xorL_cons, xorL_32 l]; rfl
/-- what the def made in the body gives back, at any later state of the same frame -/
def OverSpec (M : Model) (A : Around) (g : Heap) (L : Addr) (f : Addr) (fo : Obj) (c : Addr) (oc : Obj) : Prop :=
  ∀ (n : Nat) (u v : List Nat) (us vs : Str) (tu tv : Tok) (nw : List (Addr × Obj)) (m' : Str → Option Value) (s' : Shared) (Q E : Value → Shared → Prop), (f, fo) ∈ nw → (c, oc) ∈ nw → us = tx u → vs = tx v → n ≤ 10 → OkT n u → OkT n v →
    Fr g L s'.heap m' → News g L s'.heap nw → (∀ t h' tk', Fr g L h' m' → News g L h' nw → Q (.str (tx (xorL u v)) t) { s' with heap := h', toks := tk' }) →
    wpAny M A (call (.ref f) [.str us tu, .str vs tv]) Q E s'
theorem over_intro {M : Model} {A : Around} {g : Heap} {L f c : Addr} {fo oc : Obj} {vs : List Value} {Q E : Value → Shared → Prop} {s : Shared} {nw : List (Addr × Obj)} (_N : News g L s.heap nw) (_m1 : (f, fo) ∈ nw) (_m2 : (c, oc) ∈ nw)
    (C : OverSpec M A g L f fo c oc) (k : OverSpec M A g L f fo c oc → wpAny M A (call (.ref f) vs) Q E s) : wpAny M A (call (.ref f) vs) Q E s := k C
theorem over_use {M : Model} {A : Around} {g : Heap} {L : Addr} {f : Addr} {fo : Obj} {c : Addr} {oc : Obj} (C : OverSpec M A g L f fo c oc)
    {n : Nat} {u v : List Nat} {us vs : Str} {tu tv : Tok} {nw : List (Addr × Obj)} {m' : Str → Option Value} {s' : Shared} {Q E : Value → Shared → Prop} (m1 : (f, fo) ∈ nw) (m2 : (c, oc) ∈ nw) (e1 : us = tx u) (e2 : vs = tx v) (hn : n ≤ 10) (h1 : OkT n u) (h2 : OkT n v)
    (F : Fr g L s'.heap m') (N : News g L s'.heap nw) (h : ∀ t h' tk', Fr g L h' m' → News g L h' nw → Q (.str (tx (xorL u v)) t) { s' with heap := h', toks := tk' }) :
    wpAny M A (call (.ref f) [.str us tu, .str vs tv]) Q E s' := C n u v us vs tu tv nw m' s' Q E m1 m2 e1 e2 hn h1 h2 F N h
local macro_rules | `(tactic| walk_at "call ref") => `(tactic| ((with_reducible show wpAny _ _ (call (Value.ref _) [Value.str _ _, Value.str _ _]) _ _ _); k_dflt (refine' over_use ?S ?m1 ?m2 ?e1 ?e2 ?hn ?h1 ?h2 ?F ?N ?_; (case S => assumption); (case F => k_asm); (case N => k_asm); (case m1 => k_mem); (case m2 => k_mem); (case e1 => first | exact rev_tx _ _ | exact rfl); (case e2 => first | exact rev_tx _ _ | exact mul_sp (by assumption) | exact rfl); (case h1 => assumption); (case hn => assumption); (case h2 => assumption); intro c9 h9 tk9 F9 N9; (try dsimp only); (try k_fold))))
def alpha : List Nat := [97, 98, 99, 100, 101, 102, 65, 66, 67, 68, 69, 70, 32, 46]
theorem up_letters : ∀ j : Fin 6, Txt.upper ⟨#[97 + j.val]⟩ = tx [(97 + j.val) ^^^ 32] := by decide +kernel
theorem low_letters : ∀ j : Fin 6, Txt.lower ⟨#[65 + j.val]⟩ = tx [(65 + j.val) ^^^ 32] := by decide +kernel
theorem letter_at : ∀ c : Fin 128, letters.contains c.val = true → ∃ j : Fin 6, c.val = 97 + j.val := by decide +kernel
theorem big_at : ∀ c : Fin 128, alpha.contains c.val = true → keep c.val = true → letters.contains c.val = false → ∃ j : Fin 6, c.val = 65 + j.val := by decide +kernel
theorem upper_of {c : Nat} (h : c < 128) (h1 : letters.contains c = true) : Txt.upper ⟨#[c]⟩ = tx [c ^^^ 32] := by
  obtain ⟨j, e⟩ := letter_at ⟨c, h⟩ h1
  have e : c = 97 + j.val := e
  rw [e]; exact up_letters j
theorem lower_of {c : Nat} (h : c < 128) (h1 : alpha.contains c = true) (h2 : keep c = true) (h3 : letters.contains c = false) : Txt.lower ⟨#[c]⟩ = tx [c ^^^ 32] := by
  obtain ⟨j, e⟩ := big_at ⟨c, h⟩ h1 h2 h3
  have e : c = 65 + j.val := e
  rw [e]; exact low_letters j
theorem map_take {l : List Nat} {i c : Nat} (f : Nat → Nat) (h : l[i]? = some c) : (l.map f).take (i + 1) = (l.map f).take i ++ [f c] := by
  rw [List.take_add_one, List.getElem?_map, h]; rfl
local macro_rules | `(tactic| walk_at "call builtin:str.upper") => `(tactic| (dsimp only; (refine SCL.upper (by show (1 : Nat) ≤ _; decide) ?_); intro _; (try dsimp only)))
local macro_rules | `(tactic| walk_at "call builtin:str.lower") => `(tactic| (dsimp only; (refine SCL.lower (by show (1 : Nat) ≤ _; decide) ?_); intro _; (try dsimp only)))
theorem code546 (w : World) : codeHdIn (hd.heap_39 w.params) 546 544 = true := by with_unfolding_all rfl
local macro_rules | `(tactic| walk_at "call builtin:str.join") => `(tactic| (k_dflt (refine' led_join ?N ?m ?i ?y ?_; (case N => k_asm); (case m => k_mem); (case i => assumption); (case y => assumption)); intro t9 k9; (try dsimp only)))
set_option maxHeartbeats 1600000 in
theorem keys_con (w : World) (x a b : List Nat) (t1 t2 t3 : Tok) (news : List (Addr × Obj)) (hx : x.length ≤ 10) (hxa : x.length = a.length) (hxb : x.length = b.length) (hxc : ∀ c ∈ x, c < 128) (hac : ∀ c ∈ a, c < 128) (hbc : ∀ c ∈ b, c < 128) (hal : ∀ c ∈ x, alpha.contains c = true) (hoff : ∀ p ∈ news, p.1 ≠ 544) :
    Con w 547 [.str (tx x) t1, .str (tx a) t2, .str (tx b) t3] ((544, tabObj #[]) :: news) 120 480
      (fun _ : Array Value => .bool true) (fun ps => (544, tabObj ps) :: news) (fun _ => True) := by
  w_top off
  intro p loose mean mg mb dp un gd cn cs a' ccd cl outer A₀ base h₀ L m s Q E B F X N T hk hd hu hret
  revert X; k_fill; intro X
  obtain ⟨ck, cnm, cgen, cco, cmore⟩ := cs
  have hk' : ck = .function := hk
  subst hk'
  refine wpAny_call ?_
  k_dflt k_enter
  rename Frag.In _ _ => X2
  have hC0 := codeHd_of_K X2 (code546 w)
  k_steps
  refine ⟨?_⟩
  refine' over_intro ?n0 ?m1 ?m2 ?C ?k
  case n0 => k_asm
  case m1 => exact List.Mem.head _
  case m2 => exact List.Mem.tail _ (List.Mem.head _)
  case C =>
    unfold OverSpec
    intro n u v us vs tu tv nw m' s' Q' E' hm1 hm2 he1 he2 hn h1 h2 F2 N2 hret2
    subst he1 he2
    have hu1 : u.length ≤ 10 := by rw [h1.1]; exact hn
    have hu2 : u.length = v.length := h1.1.trans h2.1.symm
    have hu3 := h1.2
    have hu4 := h2.2
    refine wpAny_call ?_
    k_dflt kn_enter
    k_steps
    rename News _ _ _ _ => nE
    exact hret2 _ _ _ (by assumption) (fun p hp => nE p (by repeat (first | exact hp | apply List.mem_cons_of_mem)))
  case k =>
    intro hov
    have okx : OkT x.length x := ⟨rfl, hxc⟩
    have oka : OkT x.length a := ⟨hxa.symm, hac⟩
    have okb : OkT x.length b := ⟨hxb.symm, hbc⟩
    have okxa := okx.xor oka
    have okxb := okx.xor okb
    have okab := oka.xor okb
    have G1 : tx (xorL (xorL x a) a) = tx x := by rw [xorL_twice hxa]
    have G2 : tx (xorL (xorL x a) b) = tx (xorL x (xorL a b)) := by rw [xorL_assoc]
    have G3 : tx (xorL (xorL x a) b) = tx (xorL (xorL x b) a) := by rw [xorL_swap]
    have G5 : tx (xorL x a).reverse = tx (xorL x.reverse a.reverse) := by rw [xorL_rev x a hxa]
    have G4 : tx (xorL x x) = Txt.mul { cps := #[Int.toNat 0] } ((tx x).length : Int) := by rw [xorL_self, mul_no hx]
    have hla10 : a.length ≤ 10 := by omega
    have hxa10 : (xorL x a).length ≤ 10 := by rw [okxa.1]; exact hx
    have okrx := okx.rev
    have okra := oka.rev
    (try k_fold)
    k_steps
    refine ⟨?_⟩
    k_dflt (refine' LCg.ListComp_U ?c0 ?c1 ?c2 ?c3 ?c4 ?c5 ?c6 ?c7)
    case c0 => k_asm
    case c1 => with_unfolding_all rfl
    case c2 => decide
    case c3 => rfl
    case c4 => decide
    case c5 => rfl
    case c7 => intro _; rfl
    case c6 =>
      have hlx := tx_length x
      k_steps
      rename Fr _ _ _ _ => F8
      rename News _ _ _ _ => N8
      rename IsRange _ _ _ _ _ _ _ _ => rg
      refine ⟨?_⟩
      refine' LCg.CompSrc.range (n := x.length) ?r0 ?r1 ?r2 ?r3 ?r4 ?r5 ?r6 ?r7
      case r0 => rfl
      case r1 => exact F8
      case r2 => exact N8
      case r3 => exact rg
      case r4 => exact small_one (by omega) (by omega) (by omega) (by omega)
      case r5 => rw [rangeSize_nat]; omega
      case r6 => rw [sizeLine_eq]; omega
      intro gh
      clear F8 N8 rg
      refine rest_inv (fun i ys nw => nw = _ ∧ StrsAre ys (((xorL x a).take i).map fun c => tx [c])) ⟨rfl, .nil⟩ ?_ ?_
      · intro ys nw hJ
        obtain ⟨hnw, hys⟩ := hJ
        subst hnw
        intro D h tk F1 N1 hof1
        have hys2 : StrsAre ys ((xorL x a).map fun c => tx [c]) := by
          rw [List.take_of_length_le (Nat.le_of_eq okxa.1)] at hys; exact hys
        have hyl : (xorL x a).length ≤ 100 := by rw [okxa.1]; omega
        (try k_fold)
        k_steps
        refine ⟨?_⟩
        k_dflt (refine' ListComp_ST ?d0 ?d1 ?d2 ?d3 ?d4 ?d5 ?d6 ?d7)
        case d0 => k_asm
        case d1 => with_unfolding_all rfl
        case d2 => decide
        case d3 => rfl
        case d4 => decide
        case d5 => rfl
        case d7 => intro _; rfl
        case d6 =>
          k_steps
          rename Fr _ _ _ _ => F8
          rename News _ _ _ _ => N8
          refine ⟨_, _, _, rfl, rfl, F8, N8, by rw [sizeLine_eq]; have := tx_length x; unfold Str.length at this; omega, fun gh => ?_⟩
          clear F8 N8
          refine rest_invT (fun i zs nw => nw = _ ∧ StrsAre zs (((x.take i).filter keep).map fun c => tx [c])) ⟨rfl, .nil⟩ ?_ ?_
          · intro zs nw hJ
            obtain ⟨hnw, hzs⟩ := hJ
            subst hnw
            intro D2 h tk F1 N1 hof2
            have hzl : StrsAre zs ((x.filter keep).map fun c => tx [c]) := by
              have e : x.take (tx x).cps.size = x := List.take_of_length_le (by rw [show (tx x).cps.size = x.length from tx_length x]; omega)
              rw [e] at hzs; exact hzs
            have hll : (x.filter keep).length ≤ 10 := Nat.le_trans (List.length_filter_le _ _) hx
            have hll2 : (x.filter keep).length ≤ 100 := by omega
            have hll3 := tx_length (x.filter keep)
            have oklt : OkT (x.filter keep).length (x.filter keep) := ⟨rfl, fun c hc => hxc c (List.mem_filter.mp hc).1⟩
            have okrp : OkT (x.filter keep).length (List.replicate (x.filter keep).length 32) := ⟨List.length_replicate, fun c hc => by rw [(List.mem_replicate.mp hc).2]; decide⟩
            have hlm : ∀ c ∈ x.filter keep, c < 128 ∧ keep c = true ∧ alpha.contains c = true := fun c hc => ⟨hxc c (List.mem_filter.mp hc).1, (List.mem_filter.mp hc).2, hal c (List.mem_filter.mp hc).1⟩
            have hx32 := xorL_32 (x.filter keep)
            generalize x.filter keep = lt at F1 N1 hzl hll hll2 hll3 oklt okrp hlm hx32 ⊢
            (try k_fold)
            k_steps
            refine ⟨?_⟩
            k_dflt (refine' ListComp_SU ?g0 ?g1 ?g2 ?g3 ?g4 ?g5 ?g6 ?g7)
            case g0 => k_asm
            case g1 => with_unfolding_all rfl
            case g2 => decide
            case g3 => rfl
            case g4 => decide
            case g5 => rfl
            case g7 => intro _; rfl
            case g6 =>
              k_steps
              rename Fr _ _ _ _ => F8
              rename News _ _ _ _ => N8
              refine ⟨_, _, _, rfl, rfl, F8, N8, by rw [sizeLine_eq]; have := tx_length lt; unfold Str.length at this; omega, fun gh => ?_⟩
              clear F8 N8
              refine rest_inv (fun i zs nw => nw = _ ∧ StrsAre zs (((lt.map fun c => c ^^^ 32).take i).map fun c => tx [c])) ⟨rfl, .nil⟩ ?_ ?_
              · intro zs nw hJ
                obtain ⟨hnw, hzs⟩ := hJ
                subst hnw
                intro D3 h tk F1 N1 hof3
                have hz3 : StrsAre zs ((lt.map fun c => c ^^^ 32).map fun c => tx [c]) := by
                  rw [List.take_of_length_le (by rw [List.length_map, show (tx lt).cps.size = lt.length from tx_length lt]; omega)] at hzs; exact hzs
                have hl3 : (lt.map fun c => c ^^^ 32).length ≤ 100 := by rw [List.length_map]; omega
                (try k_fold)
                k_steps
                rw [hx32, beq_self_eq_true]
                rename News _ _ _ _ => nE
                have nE' := nE
                exact hret _ _ _ trivial (by assumption) (fun p hp => nE p (by repeat (first | exact hp | apply List.mem_cons_of_mem)))
              · intro i zs nw v I oI C oC D3 m₂ h tk E' hin hJ hv hC hx2 F1 N1 hoff2 hne
                obtain ⟨hnw, hzs⟩ := hJ
                subst hnw
                obtain ⟨c, u, hc, rfl⟩ := hv
                (try k_fold)
                have hcx : lt[i]? = some c := by simpa [tx] using hc
                obtain ⟨hc128, hck, hca⟩ := hlm c (List.mem_of_getElem? hcx)
                have hil := in_letters ⟨c, hc128⟩
                dsimp only at hil
                cases hcl : letters.contains c with
                | true =>
                  rw [hcl] at hil
                  have hst := map_take (fun c => c ^^^ 32) hcx
                  k_steps
                  refine ⟨?_⟩
                  rename Fr _ _ _ _ => F2
                  rename News _ _ _ _ => N2
                  rw [upper_of hc128 hcl]
                  refine' LCg.CompEnd.intro F2 N2 _ ?w1 hoff2 ?w2 ?w3
                  case w1 => exact fun p hp => hp
                  case w2 => trivial
                  case w3 =>
                    refine ⟨rfl, ?_⟩
                    rw [hst, List.map_append]
                    exact hzs.append' (.cons _ _ .nil)
                | false =>
                  rw [hcl] at hil
                  have hil2 : ¬ ((!(Builtin.Str.occurrences (Str.ofString "abcdef") ⟨#[c]⟩ 0 (Str.ofString "abcdef").length 1).isEmpty) = true) := by rw [hil]; exact Bool.false_ne_true
                  have hst := map_take (fun c => c ^^^ 32) hcx
                  k_steps
                  refine ⟨?_⟩
                  rename Fr _ _ _ _ => F2
                  rename News _ _ _ _ => N2
                  rw [lower_of hc128 hca hck hcl]
                  refine' LCg.CompEnd.intro F2 N2 _ ?z1 hoff2 ?z2 ?z3
                  case z1 => exact fun p hp => hp
                  case z2 => trivial
                  case z3 =>
                    refine ⟨rfl, ?_⟩
                    rw [hst, List.map_append]
                    exact hzs.append' (.cons _ _ .nil)
          · intro i zs nw v I oI C oC D2 m₂ h tk E' hin hJ hv hC hx2 F1 N1 hoff2 hne
            obtain ⟨hnw, hzs⟩ := hJ
            subst hnw
            obtain ⟨c, u, hc, rfl⟩ := hv
            (try k_fold)
            have hcx : x[i]? = some c := by simpa [tx] using hc
            have hc128 := hxc c (List.mem_of_getElem? hcx)
            have hil := keep_in ⟨c, hc128⟩
            have hft := filter_take keep hcx
            dsimp only at hil
            cases hcl : keep c with
            | true =>
              rw [hcl] at hil hft
              k_steps
              refine ⟨?_⟩
              rename Fr _ _ _ _ => F2
              rename News _ _ _ _ => N2
              refine' LCg.CompEnd.intro F2 N2 _ ?u1 hoff2 ?u2 ?u3
              case u1 => exact fun p hp => hp
              case u2 => trivial
              case u3 =>
                refine ⟨rfl, ?_⟩
                rw [hft, List.map_append]
                exact hzs.append' (.cons _ _ .nil)
            | false =>
              rw [hcl] at hil hft
              have hil2 : ¬ ((!!(Builtin.Str.occurrences (Str.ofString " .") ⟨#[c]⟩ 0 (Str.ofString " .").length 1).isEmpty) = true) := by rw [hil]; exact Bool.false_ne_true
              k_steps
              refine ⟨?_⟩
              rename Fr _ _ _ _ => F2
              rename News _ _ _ _ => N2
              refine' LCg.CompEnd.intro F2 N2 _ ?v1 hoff2 ?v2 ?v3
              case v1 => exact fun p hp => hp
              case v2 => trivial
              case v3 =>
                refine ⟨rfl, ?_⟩
                rw [hft, if_neg Bool.false_ne_true, List.append_nil]
                exact hzs
      · intro i ys nw v I oI C oC D m₂ h tk E' hin hJ hv hC hx2 F1 N1 hoff2 hne
        obtain ⟨hnw, hys⟩ := hJ
        subst hnw
        obtain ⟨u, rfl⟩ := hv
        have e0 : (0 : Int) + (i : Int) = (i : Int) := by omega
        rw [e0] at hx2
        have hia : i < a.length := by omega
        have ex : x[i]? = some x[i] := List.getElem?_eq_getElem hin
        have ea : a[i]? = some a[i] := List.getElem?_eq_getElem hia
        have hcx := hxc _ (List.getElem_mem hin)
        have hca := hac _ (List.getElem_mem hia)
        generalize x[i] = cx at ex hcx
        generalize a[i] = ca at ea hca
        have hcode : Builtin.bitXor ↑((Txt.item (tx x) (i : Int)).cps.getD 0 0) ↑((Txt.item (tx a) (i : Int)).cps.getD 0 0) = ((cx ^^^ ca : Nat) : Int) := by
          rw [item_tx ex, item_tx ea]; exact bitXor_nat cx ca
        have hx128 := xor_lt128 hcx hca
        have hlx := tx_length x
        have hla := tx_length a
        have hst := xorL_take ex ea
        (try k_fold)
        k_steps
        refine ⟨?_⟩
        rename Fr _ _ _ _ => F2
        rename News _ _ _ _ => N2
        rw [hcode]
        refine LCg.CompEnd.intro F2 N2 _ (fun p hp => hp) hoff2 trivial ⟨rfl, ?_⟩
        rw [hst, List.map_append]
        exact hys.append' (.cons _ _ .nil)
end Mine

namespace Mine
local macro_rules | `(tactic| walk_at "ite") => `(tactic| first | (k_closed; k_dflt (first | refine ite_pos (by decide +kernel) ?_ | refine ite_neg (by decide +kernel) ?_)) | (with_reducible refine ite_neg Bool.false_ne_true ?_) | (with_reducible refine ite_pos rfl ?_) | (refine ite_neg (by with_reducible assumption) ?_) | (refine ite_pos (by with_reducible assumption) ?_) | (refine ite_neg (by simp only [decide_eq_true_eq, beq_iff_eq]; omega) ?_) | (refine ite_pos (by simp only [decide_eq_true_eq, beq_iff_eq]; omega) ?_) | (refine halt ?_))
local macro_rules | `(tactic| k_room) => `(tactic| ktr_room)
local macro_rules | `(tactic| k_units) => `(tactic| ktr_units)
local macro_rules | `(tactic| k_all) => `(tactic| assumption)
local macro_rules | `(tactic| k_mem) => `(tactic| assumption)

local macro_rules | `(tactic| walk_at "eval ListComp") => `(tactic| refine halt ?_)
local macro_rules | `(tactic| walk_at "exec While Compare cons nil") => `(tactic| refine halt ?_)
local macro_rules | `(tactic| walk_at "CompSrc") => `(tactic| refine halt ?_)
local macro_rules | `(tactic| walk_at "CompEnd") => `(tactic| refine halt ?_)
local macro_rules | `(tactic| walk_at "call builtin:str.join") => `(tactic| (k_dflt (refine' led_join ?N ?m ?i ?y ?_; (case N => k_asm); (case m => k_mem); (case i => assumption); (case y => assumption)); intro t9 k9; (try dsimp only)))
local macro_rules | `(tactic| walk_at "call ref") => `(tactic| ((with_reducible show wpAny _ _ (call (Value.ref 542) _) _ _ _); refine halt ?_))
local macro_rules | `(tactic| walk_at "call ref") => `(tactic| ((with_reducible show wpAny _ _ (call (Value.ref 547) _) _ _ _); refine halt ?_))
local macro_rules | `(tactic| walk_at "subscriptTail Name Call str int") => `(tactic| (refine item_str (fitsSsize_of (N := 9223372036854775808) (by omega) (by omega) (Int.le_refl _)) (by omega) (by omega) ?_; intro _))
theorem two_of {ys : List Value} {ks : List (List Nat)} (h : StrsAre ys (ks.map tx)) (e : ks.length = 2) : ∃ a b t1 t2, ks = [a, b] ∧ ys = [.str (tx a) t1, .str (tx b) t2] := by
  match ks, e with
  | [a, b], _ =>
    cases h with
    | cons _ _ h1 =>
      cases h1 with
      | cons _ _ h2 =>
        cases h2
        exact ⟨_, _, _, _, rfl, rfl⟩
theorem alpha_lt : ∀ c, alpha.contains c = true → c < 128 := by
  intro c h
  have h2 : c ∈ alpha := by simpa using h
  have h3 : ∀ x ∈ alpha, x < 128 := by decide
  exact h3 c h2
theorem strike (l : List Nat) (c : Nat) : Txt.replace (tx l) (tx [c]) (Str.ofString "") = tx (l.filter (· != c)) := by
  have e0 : Str.ofString "" = ⟨#[]⟩ := by decide +kernel
  have h := replace_strikes (tx l) c
  rw [e0]
  show Txt.replace (tx l) ⟨#[c]⟩ ⟨#[]⟩ = _
  generalize Txt.replace (tx l) ⟨#[c]⟩ ⟨#[]⟩ = r at h ⊢
  obtain ⟨⟨b⟩⟩ := r
  have h2 : b = l.filter (· != c) := h
  rw [h2]; rfl
theorem one_not_empty (c : Nat) : (tx [c] == Str.ofString "") = false := by
  rw [beq_eq_false_iff_ne]
  intro e
  have e2 := congrArg (fun s : Str => s.cps.toList) e
  have e3 : (Str.ofString "").cps.toList = [] := by decide +kernel
  have e4 : [c] = (Str.ofString "").cps.toList := e2
  rw [e3] at e4
  cases e4
theorem strike_perm {order left : List Nat} {c : Nat} (h : (order ++ left).Perm letters) (hc : c ∈ left) : ((order ++ [c]) ++ left.filter (· != c)).Perm letters ∧ (left.filter (· != c)).length + 1 = left.length := by
  have hn : (order ++ left).Nodup := h.nodup_iff.mpr letters_nodup
  have hn2 : left.Nodup := (List.nodup_append.mp hn).2.1
  rw [← hn2.erase_eq_filter c]
  have hp := List.perm_cons_erase hc
  constructor
  · rw [List.append_assoc]
    exact (List.Perm.append_left order hp.symm).trans h
  · have := hp.length_eq
    rw [List.length_cons] at this
    exact this.symm
local macro_rules | `(tactic| walk_at "binaryOp Add str str") => `(tactic| refine halt ?_)
local macro_rules | `(tactic| walk_at "call builtin:str.replace") => `(tactic| refine halt ?_)
local macro_rules | `(tactic| walk_at "KswEnd") => `(tactic| refine halt ?_)
local macro_rules | `(tactic| walk_at "execs cons") => `(tactic| refine wpAny_execs_cons ?_)
theorem offs_nil {x : Addr} : ∀ p ∈ ([] : List (Addr × Obj)), p.1 ≠ x := fun _ h => absurd h List.not_mem_nil
theorem offs_cons {a x : Addr} {o : Obj} {r : List (Addr × Obj)} (h : @Ne Nat a x) (t : ∀ p ∈ r, p.1 ≠ x) : ∀ p ∈ (a, o) :: r, p.1 ≠ x := by
  intro p hp
  rcases List.mem_cons.mp hp with rfl | hp
  · exact h
  · exact t p hp
local macro_rules | `(tactic| walk_at "call ref") => `(tactic| ((with_reducible show wpAny _ _ (call (Value.ref 523) _) _ _ _); refine halt ?_))
theorem pick14a : ∀ j : Fin 14, Txt.item (Str.ofString "abcdefABCDEF .") ((j.val : Nat) : Int) = tx [alpha.getD j.val 0] ∧ alpha.contains (alpha.getD j.val 0) = true := by decide +kernel
theorem pick14 {v : Int} (h0 : 0 ≤ v) (h1 : v < 14) : ∃ c, Txt.item (Str.ofString "abcdefABCDEF .") v = tx [c] ∧ alpha.contains c = true := by
  have h := pick14a ⟨v.toNat, by omega⟩
  have e : ((v.toNat : Nat) : Int) = v := Int.toNat_of_nonneg h0
  dsimp only at h
  rw [e] at h
  exact ⟨_, h⟩
theorem names2 {h₀ h : Heap} {L l D : Addr} {k : Int} {t : Tok} {o : Obj} {r : List (Addr × Obj)} (_N : News h₀ L h ((l, W.listOf #[.ref D, .int k t] 0) :: (D, o) :: r)) : ∃ l' D', l' = l ∧ D' = D := ⟨_, _, rfl, rfl⟩
theorem perm_in {a b c d e : Addr × Obj} {r : List (Addr × Obj)} {p : Addr × Obj} (h : p ∈ d :: e :: a :: b :: c :: r) : p ∈ a :: b :: c :: d :: e :: r := by
  simp only [List.mem_cons] at h ⊢
  rcases h with h | h | h | h | h | h <;> simp [h]
theorem last_in {a b c d e x : Addr × Obj} {p : Addr × Obj} (h : p ∈ [x, a, b, c, d, e]) : p ∈ [a, b, c, d, e, x] := by
  simp only [List.mem_cons] at h ⊢
  rcases h with h | h | h | h | h | h | h <;> simp [h]
theorem perm_out {a b c d e : Addr × Obj} {r : List (Addr × Obj)} {p : Addr × Obj} (h : p ∈ a :: b :: c :: d :: e :: r) : p ∈ d :: e :: a :: b :: c :: r := by
  simp only [List.mem_cons] at h ⊢
  rcases h with h | h | h | h | h | h <;> simp [h]
def keyl : List Nat := [48, 49, 50, 51, 52, 53, 54, 55, 56, 57, 32, 97, 90, 126, 9, 46]
theorem pick16a : ∀ j : Fin 16, Txt.item (Str.ofString "0123456789 aZ~\t.") ((j.val : Nat) : Int) = tx [keyl.getD j.val 0] ∧ keyl.getD j.val 0 < 128 := by decide +kernel
theorem pick16 {v : Int} (h0 : 0 ≤ v) (h1 : v < 16) : ∃ c, Txt.item (Str.ofString "0123456789 aZ~\t.") v = tx [c] ∧ c < 128 := by
  have h := pick16a ⟨v.toNat, by omega⟩
  have e : ((v.toNat : Nat) : Int) = v := Int.toNat_of_nonneg h0
  dsimp only at h
  rw [e] at h
  exact ⟨_, h⟩
theorem take_ok {vs : List Value} {l : List Int} (h : IntsAre vs (List.take 36 l)) : ∃ ns, IntsAre vs ns ∧ ns.length ≤ 36 := ⟨_, h, List.length_take_le 36 _⟩
set_option maxHeartbeats 8000000 in
theorem law_go : PySem.Challenge.rw_tk0064_01.Holds := hd (by
  w_strict (k_go0; (all_goals try k_fold); k_steps)
  refine ⟨?_⟩
  rename (_ < _ ∧ _ < _ ∧ _ < _ ∧ _ < _) => l1
  rename (_ < _ ∧ _ < _ ∧ _ < _) => l2
  rename IntsAre _ (List.take _ _) => hI
  rename (∀ (P : Addr), P ∈ [544] → _) => hT544
  obtain ⟨ns, hI2, hn36⟩ := take_ok hI
  clear hI
  obtain ⟨la1, la2, la3, la4⟩ := l1
  obtain ⟨lb1, lb2, lb3⟩ := l2
  have la1 : @LT.lt Nat _ _ _ := la1
  have la2 : @LT.lt Nat _ _ _ := la2
  have la3 : @LT.lt Nat _ _ _ := la3
  have la4 : @LT.lt Nat _ _ _ := la4
  rename News _ _ _ _ => Nz
  obtain ⟨sf, sl, rfl, rfl⟩ := names2 Nz
  k_dflt (refine' LCg.ListComp_U ?c0 ?c1 ?c2 ?c3 ?c4 ?c5 ?c6 ?c7)
  case c0 => k_asm
  case c1 => with_unfolding_all rfl
  case c2 => decide
  case c3 => rfl
  case c4 => decide
  case c5 => rfl
  case c7 => intro _; rfl
  case c6 =>
    k_steps
    refine ⟨?_⟩
    refine' use_con (dial_con _ _ _ ?dk1 _ _ _ _ _ _ ?da1 ?db1 ?dc1 ?dd1 ?de1 ?df1 ?dg1 ?dh1) ?dB1 ?dF1 ?dX1 ?dN1 ?dT1 ?dK1 ?dD1 ?dU1 ?_
    case dN1 => k_asm
    case da1 => omega
    case db1 => omega
    case dc1 => omega
    case dd1 => omega
    case de1 => assumption
    case df1 => omega
    case dg1 => omega
    case dh1 => repeat' (first | exact offs_nil | refine offs_cons (by omega) ?_)
    case dB1 => k_asm
    case dF1 => k_asm
    case dX1 => k_asm
    case dT1 => k_asm
    case dK1 => first | exact rfl | assumption
    case dD1 => ktr_room
    case dU1 => ktr_units
    rintro ⟨v1, ta1, tb1⟩ h9 tk9 ⟨fa1, fb1⟩ F9 N9
    dsimp only at N9 fa1 fb1
    try dsimp only
    try k_fold
    obtain ⟨n, rfl⟩ : ∃ n : Nat, v1 = n := ⟨v1.toNat, by omega⟩
    k_steps
    rename Fr _ _ _ _ => F8
    rename News _ _ _ _ => N8
    rename IsRange _ _ _ _ _ _ _ _ => rg
    refine ⟨?_⟩
    k_dflt (refine' LCg.CompSrc.range (n := n) ?r0 ?r1 ?r2 ?r3 ?r4 ?r5 ?r6 ?r7)
    case r0 => rfl
    case r1 => exact F8
    case r2 => exact N8
    case r3 => exact rg
    case r4 => exact small_one (by omega) (by omega) (by omega) (by omega)
    case r5 => rw [rangeSize_nat]; omega
    case r6 => rw [sizeLine_eq]; omega
    intro gh
    clear F8 N8 rg
    refine rest_inv (fun i ys nw => ∃ (k : Int) (t : Tok) (zs : List Nat), nw = (_, W.listOf #[.ref _, .int k t] 0) :: _ ∧ k = (i : Int) + 1 ∧ zs.length = i ∧ (∀ c ∈ zs, alpha.contains c = true) ∧ StrsAre ys (zs.map fun c => tx [c])) ⟨_, _, [], rfl, by omega, rfl, nofun, .nil⟩ ?_ ?_
    · intro ys nw hJ
      obtain ⟨k, tk0, zs, hnw, hk, hzl, hza, hys⟩ := hJ
      subst hnw
      intro D h tk F1 N1 hof1
      have hyl : zs.length ≤ 100 := by omega
      (try k_fold)
      k_steps
      rename News _ _ _ _ => N8
      simp only [List.cons_append, List.nil_append] at N8
      have N9 : News _ _ _ _ := fun p hp => N8 p (List.mem_cons_of_mem _ hp)
      clear N8
      refine ⟨?_⟩
      refine' use_con (dial_con _ _ _ ?dk3 _ _ _ _ _ _ ?da3 ?db3 ?dc3 ?dd3 ?de3 ?df3 ?dg3 ?dh3) ?dB3 ?dF3 ?dX3 ?dN3 ?dT3 ?dK3 ?dD3 ?dU3 ?_
      case dN3 => k_asm
      case da3 => omega
      case db3 => omega
      case dc3 => omega
      case dd3 => omega
      case de3 => assumption
      case df3 => omega
      case dg3 => omega
      case dh3 => repeat' (first | exact offs_nil | refine offs_cons (by omega) ?_)
      case dB3 => k_asm
      case dF3 => k_asm
      case dX3 => k_asm
      case dT3 => k_asm
      case dK3 => first | exact rfl | assumption
      case dD3 => ktr_room
      case dU3 => ktr_units
      rintro ⟨v3, ta3, tb3⟩ h9 tk9 ⟨fa3, fb3⟩ F9 N9
      dsimp only at N9 fa3 fb3
      try dsimp only
      try k_fold
      k_steps
      refine ⟨?_⟩
      refine' use_con (dial_con _ _ _ ?dk4 _ _ _ _ _ _ ?da4 ?db4 ?dc4 ?dd4 ?de4 ?df4 ?dg4 ?dh4) ?dB4 ?dF4 ?dX4 ?dN4 ?dT4 ?dK4 ?dD4 ?dU4 ?_
      case dN4 => k_asm
      case da4 => omega
      case db4 => omega
      case dc4 => omega
      case dd4 => omega
      case de4 => assumption
      case df4 => omega
      case dg4 => omega
      case dh4 => repeat' (first | exact offs_nil | refine offs_cons (by omega) ?_)
      case dB4 => k_asm
      case dF4 => k_asm
      case dX4 => k_asm
      case dT4 => k_asm
      case dK4 => first | exact rfl | assumption
      case dD4 => ktr_room
      case dU4 => ktr_units
      rintro ⟨v4, ta4, tb4⟩ h9 tk9 ⟨fa4, fb4⟩ F9 N9
      dsimp only at N9 fa4 fb4
      try dsimp only
      try k_fold
      obtain ⟨f, rfl⟩ : ∃ f : Nat, v3 = f := ⟨v3.toNat, by omega⟩
      obtain ⟨g, rfl⟩ : ∃ g : Nat, v4 = g := ⟨v4.toNat, by omega⟩
      k_steps
      refine ⟨?_⟩
      rename Fr _ _ _ _ => lF'
      rename News _ _ _ _ => lN2
      have lN' : News _ _ _ _ := fun p hp => lN2 p (List.mem_cons_of_mem _ hp)
      clear lN2
      with_unfolding_all refine' ksw_while (σ := Int × Tok × List Nat × List Nat × Tok × Tok) (fun d => (sf, W.listOf #[.ref sl, .int d.1 d.2.1] 0) :: (sl, _) :: _) ?ps ?Facts ?stored ?P ?mu (_, _, letters, [], _, _) lF' lN' ?kf ?k3 ?k4 ?turn ?hE
      case ps => exact fun d => [(Str.ofString "left", .str (tx d.2.2.1) d.2.2.2.2.1), (Str.ofString "order", .str (tx d.2.2.2.1) d.2.2.2.2.2)]
      case Facts => exact fun _ => True
      case stored => exact [Str.ofString "sign"]
      case P => exact fun d => 0 ≤ d.1 ∧ d.1 + d.2.2.1.length ≤ 20 ∧ (d.2.2.2.1 ++ d.2.2.1).Perm letters
      case mu => exact fun d => d.2.2.1.length
      case kf => trivial
      case hE => with_unfolding_all passes_own
      case k3 => exact List.forall_mem_cons.mpr ⟨by with_unfolding_all rfl, List.forall_mem_cons.mpr ⟨by with_unfolding_all rfl, List.forall_mem_nil _⟩⟩
      case k4 =>
        refine ⟨?_, ?_, .refl _⟩
        · dsimp only; omega
        · dsimp only; rw [show letters.length = 6 from rfl]; omega
      clear lF' lN'
      rintro ⟨kw, tw, left, order, tl, to⟩ u h tk - ⟨hw0, hw1, hwp⟩ F1 N1
      dsimp only at hw0 hw1 hwp F1 N1
      (try k_fold)
      by_cases hl0 : left = []
      · subst hl0
        have hlne : ¬ ((tx [] != Str.ofString "") = true) := by decide +kernel
        rw [List.append_nil] at hwp
        k_steps
        refine ⟨?_⟩
        k_dflt (refine' LCg.ListComp_U ?a0 ?a1 ?a2 ?a3 ?a4 ?a5 ?a6 ?a7)
        case a0 => k_asm
        case a1 => with_unfolding_all rfl
        case a2 => decide
        case a3 => rfl
        case a4 => decide
        case a5 => rfl
        case a7 => intro _; rfl
        case a6 =>
          k_steps
          rename Fr _ _ _ _ => F8
          rename News _ _ _ _ => N8
          rename IsRange _ _ _ _ _ _ _ _ => rg
          refine ⟨?_⟩
          k_dflt (refine' LCg.CompSrc.range (n := 2) ?s0 ?s1 ?s2 ?s3 ?s4 ?s5 ?s6 ?s7)
          case s0 => rfl
          case s1 => exact F8
          case s2 => exact N8
          case s3 => exact rg
          case s4 => decide
          case s5 => decide
          case s6 => decide
          intro gh2
          clear F8 N8 rg
          refine rest_inv (fun i ys nw => ∃ (k : Int) (t : Tok) (ks : List (List Nat)), nw = (sf, W.listOf #[.ref sl, .int k t] 0) :: (sl, _) :: _ ∧ 0 ≤ k ∧ k ≤ 20 + 10 * (i : Int) ∧ ks.length = i ∧ (∀ a ∈ ks, OkT zs.length a) ∧ StrsAre ys (ks.map tx)) ⟨_, _, [], rfl, by omega, by omega, rfl, nofun, .nil⟩ ?_ ?_
          · intro ys2 nw hJ
            obtain ⟨k2, tk2, ks, hnw, hk2a, hk2b, hkl, hka, hys2⟩ := hJ
            subst hnw
            intro D2 h tk F1 N1 hof1
            obtain ⟨a, b, ta9, tb9, rfl, rfl⟩ := two_of hys2 hkl
            obtain ⟨hka1, hka2⟩ := hka a (List.Mem.head _)
            obtain ⟨hkb1, hkb2⟩ := hka b (List.Mem.tail _ (List.Mem.head _))
            have hzc : ∀ c ∈ zs, c < 128 := fun c hc => alpha_lt c (hza c hc)
            have hz10 : zs.length ≤ 10 := by omega
            (try k_fold)
            k_steps
            refine ⟨?_⟩
            refine' use_con (right_con _ zs order f g _ _ _ _ _ ?ra ?rb ?rc ?rd ?re) ?rB ?rF ?rX ?rN ?rT ?rK ?rD ?rU ?_
            case rN => k_asm
            case ra => exact hz10
            case rb => exact hzc
            case rc => omega
            case rd => omega
            case re => exact hwp
            case rB => k_asm
            case rF => k_asm
            case rX => k_asm
            case rT => k_asm
            case rK => first | exact rfl | assumption
            case rD => ktr_room
            case rU => ktr_units
            intro c9 h9 tk9 f9 F9 N9
            (try dsimp only at N9)
            (try dsimp only)
            (try k_fold)
            k_steps
            rename News _ _ _ _ => N8
            have N9 : News _ _ _ _ := fun p hp => N8 p (last_in hp)
            obtain ⟨hz1, hz2, hz3, hz4, hz5, -⟩ := hof1
            dsimp only at hz1 hz2 hz3 hz4 hz5
            have h544 : @LT.lt Nat _ 544 _ := Heap.lt_size (hT544 544 (List.Mem.head _))
            clear N8
            refine ⟨?_⟩
            refine' use_con (keys_con _ zs a b _ _ _ _ ?ka ?kb ?kc ?kd ?ke ?kf ?kg ?kh) ?kB ?kF ?kX ?kN ?kT ?kK ?kD ?kU ?_
            case kN => k_asm
            case ka => exact hz10
            case kb => exact hka1.symm
            case kc => exact hkb1.symm
            case kd => exact hzc
            case ke => exact hka2
            case kf => exact hkb2
            case kg => exact hza
            case kh => repeat' (first | exact offs_nil | refine offs_cons (by omega) ?_)
            case kB => k_asm
            case kF => k_asm
            case kX => k_asm
            case kT => k_asm
            case kK => first | exact rfl | assumption
            case kD => ktr_room
            case kU => ktr_units
            intro c9 h9 tk9 f9 F9 N9
            (try dsimp only at N9)
            (try dsimp only)
            (try k_fold)
            k_steps
          · intro i ys2 nw v I oI C oC D2 m₂ h tk E' hin hJ hv hC hx2 F1 N1 hoff2 hne
            obtain ⟨k2, tk2, ks, hnw, hk2a, hk2b, hkl, hka, hys2⟩ := hJ
            subst hnw
            obtain ⟨u2, rfl⟩ := hv
            have N2 : News _ _ _ _ := fun p hp => N1 p (perm_in hp)
            clear N1
            obtain ⟨ho1, ho2⟩ := hoff2
            obtain ⟨ho1a, ho1b, ho1c⟩ := ho1
            dsimp only at ho1a ho1b ho1c
            (try k_fold)
            k_steps
            refine ⟨?_⟩
            k_dflt (refine' ListComp_SU ?g0 ?g1 ?g2 ?g3 ?g4 ?g5 ?g6 ?g7)
            case g0 => k_asm
            case g1 => with_unfolding_all rfl
            case g2 => decide
            case g3 => rfl
            case g4 => decide
            case g5 => rfl
            case g7 => intro _; rfl
            case g6 =>
              k_steps
              rename Fr _ _ _ _ => F8
              rename News _ _ _ _ => N8
              k_dflt (refine ⟨_, _, _, rfl, rfl, F8, N8, by rw [sizeLine_eq]; have := tx_length zs; unfold Str.length at this; omega, fun gh => ?_⟩)
              clear F8 N8
              refine rest_inv (fun i3 ys3 nw => ∃ (k : Int) (t : Tok) (b : List Nat), nw = (sf, W.listOf #[.ref sl, .int k t] 0) :: (sl, _) :: _ ∧ k = k2 + (i3 : Int) ∧ b.length = i3 ∧ (∀ c ∈ b, c < 128) ∧ StrsAre ys3 (b.map fun c => tx [c])) ⟨_, _, [], rfl, by omega, rfl, nofun, .nil⟩ ?_ ?_
              · intro ys3 nw hJ
                obtain ⟨k3, tk3, b, hnw, hk3, hbl, hbc, hys3⟩ := hJ
                subst hnw
                intro D3 h tk F1 N1 hof3
                have hbl2 : b.length = zs.length := by rw [hbl]; exact tx_length zs
                have hbl3 : b.length ≤ 100 := by omega
                (try k_fold)
                k_steps
                refine ⟨?_⟩
                rename Fr _ _ _ _ => F2
                rename News _ _ _ _ => N3
                refine LCg.CompEnd.intro F2 N3 _ (fun p hp => List.mem_cons_of_mem _ (perm_out hp)) ⟨⟨ho1a, ho1b, ho1c⟩, ho2⟩ trivial ?_
                · refine ⟨_, _, ks ++ [b], rfl, ?_, ?_, ?_, ?_, ?_⟩
                  · omega
                  · have : (tx zs).cps.size = zs.length := tx_length zs
                    omega
                  · rw [List.length_append, hkl]; rfl
                  · intro x hx
                    rcases List.mem_append.mp hx with hx | hx
                    · exact hka x hx
                    · rw [List.mem_singleton.mp hx]; exact ⟨hbl2, hbc⟩
                  · rw [List.map_append]; exact hys2.append' (.cons _ _ .nil)
              · intro i3 ys3 nw v I3 oI3 C3 oC3 D3 m₃ h tk E3 hin3 hJ hv hC3 hx3 F1 N1 hoff3 hne3
                obtain ⟨k3, tk3, b, hnw, hk3, hbl, hbc, hys3⟩ := hJ
                subst hnw
                have hin4 : i3 < zs.length := by have : (tx zs).cps.size = zs.length := tx_length zs; omega
                have N2 : News _ _ _ _ := fun p hp => N1 p (perm_in hp)
                clear N1
                obtain ⟨hq1, hq2⟩ := hoff3
                obtain ⟨hq1a, hq1b, hq1c⟩ := hq1
                dsimp only at hq1a hq1b hq1c
                (try k_fold)
                k_steps
                refine ⟨?_⟩
                refine' use_con (dial_con _ _ _ ?dk6 _ _ _ _ _ _ ?da6 ?db6 ?dc6 ?dd6 ?de6 ?df6 ?dg6 ?dh6) ?dB6 ?dF6 ?dX6 ?dN6 ?dT6 ?dK6 ?dD6 ?dU6 ?_
                case dN6 => k_asm
                case da6 => omega
                case db6 => omega
                case dc6 => omega
                case dd6 => omega
                case de6 => assumption
                case df6 => omega
                case dg6 => omega
                case dh6 => repeat' (first | exact offs_nil | refine offs_cons (by omega) ?_)
                case dB6 => k_asm
                case dF6 => k_asm
                case dX6 => k_asm
                case dT6 => k_asm
                case dK6 => first | exact rfl | assumption
                case dD6 => ktr_room
                case dU6 => ktr_units
                rintro ⟨v6, ta6, tb6⟩ h9 tk9 ⟨fa6, fb6⟩ F9 N9
                dsimp only at N9 fa6 fb6
                try dsimp only
                try k_fold
                obtain ⟨c, ec, hca⟩ := pick16 fa6 fb6
                k_steps
                refine ⟨?_⟩
                rename Fr _ _ _ _ => F2
                rename News _ _ _ _ => N3
                rw [ec]
                refine LCg.CompEnd.intro F2 N3 _ (fun p hp => perm_out hp) ⟨⟨hq1a, hq1b, hq1c⟩, hq2⟩ trivial ?_
                · refine ⟨_, _, b ++ [c], rfl, ?_, ?_, ?_, ?_⟩
                  · omega
                  · rw [List.length_append, hbl]; rfl
                  · intro x hx
                    rcases List.mem_append.mp hx with hx | hx
                    · exact hbc x hx
                    · rw [List.mem_singleton.mp hx]; exact hca
                  · rw [List.map_append]; exact hys3.append' (.cons _ _ .nil)
      · have hlne : (tx left != Str.ofString "") = true := by
          rw [bne_iff_ne]
          intro e
          apply hl0
          have e2 := congrArg (fun s : Str => s.cps.toList) e
          have e3 : (Str.ofString "").cps.toList = [] := by decide +kernel
          (try dsimp only at e2)
          rw [e3] at e2
          simpa [tx] using e2
        have hlen := tx_length left
        have hlp : 1 ≤ left.length := by
          cases left with
          | nil => exact absurd rfl hl0
          | cons a b => show 1 ≤ b.length + 1; omega
        have hl6 : left.length ≤ 6 := by
          have e := hwp.length_eq
          rw [List.length_append, show letters.length = 6 from rfl] at e
          omega
        k_steps
        refine ⟨?_⟩
        refine tok_keep ?_
        refine' use_con (dial_con _ _ _ ?dk5 _ _ _ _ _ _ ?da5 ?db5 ?dc5 ?dd5 ?de5 ?df5 ?dg5 ?dh5) ?dB5 ?dF5 ?dX5 ?dN5 ?dT5 ?dK5 ?dD5 ?dU5 ?_
        case dN5 => k_asm
        case da5 => omega
        case db5 => omega
        case dc5 => omega
        case dd5 => omega
        case de5 => assumption
        case df5 => omega
        case dg5 => omega
        case dh5 => repeat' (first | exact offs_nil | refine offs_cons (by omega) ?_)
        case dB5 => k_asm
        case dF5 => k_asm
        case dX5 => k_asm
        case dT5 => k_asm
        case dK5 => first | exact rfl | assumption
        case dD5 => ktr_room
        case dU5 => ktr_units
        rintro ⟨v5, ta5, tb5⟩ h9 tk9 ⟨fa5, fb5⟩ F9 N9
        dsimp only at N9 fa5 fb5
        obtain ⟨j, rfl⟩ : ∃ j : Nat, v5 = j := ⟨v5.toNat, by omega⟩
        have hj : j < left.length := by omega
        have ej := item_tx (List.getElem?_eq_getElem hj)
        have hcm : left[j] ∈ left := List.getElem_mem hj
        generalize left[j] = c at ej hcm
        have hlo := tx_length order
        have hlo6 : order.length ≤ 6 := by
          have e := hwp.length_eq
          rw [List.length_append, show letters.length = 6 from rfl] at e
          omega
        have hil : (Txt.item (tx left) (j : Int)).length = 1 := by rw [ej]; rfl
        have hyz : (Txt.item (tx left) (j : Int) == Str.ofString "") = false := by rw [ej]; exact one_not_empty c
        have hrep : Txt.replace (tx left) (Txt.item (tx left) (j : Int)) (Str.ofString "") = tx (left.filter (· != c)) := by rw [ej]; exact strike left c
        have happ : tx order ++ Txt.item (tx left) (j : Int) = tx (order ++ [c]) := by rw [ej, tx_append]
        obtain ⟨hsp, hsl⟩ := strike_perm hwp hcm
        intro hT5
        dsimp only at hT5
        refine item_str (fitsSsize_of (N := 9223372036854775808) ?z1 ?z2 (Int.le_refl _)) ?z3 ?z4 ?_
        case z1 => omega
        case z2 => omega
        case z3 => omega
        case z4 => omega
        intro _
        dsimp only
        generalize hT6 : tk9 + 1 = T5
        (try k_fold)
        k_steps
        refine ⟨?_⟩
        refine tok_keep ?_
        dsimp only
        refine KXadd.add (K := 100) (L := 100) ?x1 ?x2 ?x3 ?_
        case x1 => omega
        case x2 => omega
        case x3 => omega
        intro t8 k8 l8 hT8
        dsimp only at hT8
        rw [happ]
        k_steps
        refine ⟨?_⟩
        refine SC.replaceW ?y1 ?y2 ?y3 hyz ?y4 ?y5 ?_
        case y1 => show @Ne Nat _ _; omega
        case y2 => show @Ne Nat _ _; omega
        case y3 => show @Ne Nat _ _; omega
        case y4 => omega
        case y5 => decide
        intro t7 k7
        rw [hrep]
        k_steps
        refine ⟨?_⟩
        rename Fr _ _ _ _ => F2
        rename News _ _ _ _ => N3
        refine' ksw_end (kw + 1, tb5, left.filter (· != c), order ++ [c], _, _) F2 N3 ?e1 trivial ?e2 ?e3 ?e4 ?e5
        case e1 => intro p hp; exact List.mem_cons_of_mem _ hp
        case e2 => exact List.forall_mem_cons.mpr ⟨by with_unfolding_all rfl, List.forall_mem_cons.mpr ⟨by with_unfolding_all rfl, List.forall_mem_nil _⟩⟩
        case e3 => dsimp only [kstB]; ksw_same
        case e4 => exact ⟨by dsimp only; omega, by dsimp only; omega, hsp⟩
        case e5 => dsimp only; omega
    · intro i ys nw v I oI C oC D m₂ h tk E' hin hJ hv hC hx2 F1 N1 hoff2 hne
      obtain ⟨k, tk0, zs, hnw, hk, hzl, hza, hys⟩ := hJ
      subst hnw
      obtain ⟨u, rfl⟩ := hv
      have N2 : News _ _ _ _ := fun p hp => N1 p (perm_in hp)
      clear N1
      obtain ⟨ho1, ho2⟩ := hoff2
      obtain ⟨ho1a, ho1b, ho1c⟩ := ho1
      dsimp only at ho1a ho1b ho1c
      (try k_fold)
      k_steps
      refine ⟨?_⟩
      refine' use_con (dial_con _ _ _ ?dk2 _ _ _ _ _ _ ?da2 ?db2 ?dc2 ?dd2 ?de2 ?df2 ?dg2 ?dh2) ?dB2 ?dF2 ?dX2 ?dN2 ?dT2 ?dK2 ?dD2 ?dU2 ?_
      case dN2 => k_asm
      case da2 => omega
      case db2 => omega
      case dc2 => omega
      case dd2 => omega
      case de2 => assumption
      case df2 => omega
      case dg2 => omega
      case dh2 => repeat' (first | exact offs_nil | refine offs_cons (by omega) ?_)
      case dB2 => k_asm
      case dF2 => k_asm
      case dX2 => k_asm
      case dT2 => k_asm
      case dK2 => first | exact rfl | assumption
      case dD2 => ktr_room
      case dU2 => ktr_units
      rintro ⟨v2, ta2, tb2⟩ h9 tk9 ⟨fa2, fb2⟩ F9 N9
      dsimp only at N9 fa2 fb2
      try dsimp only
      try k_fold
      obtain ⟨c, ec, hca⟩ := pick14 fa2 fb2
      k_steps
      refine ⟨?_⟩
      rename Fr _ _ _ _ => F2
      rename News _ _ _ _ => N3
      rw [ec]
      refine LCg.CompEnd.intro F2 N3 _ (fun p hp => perm_out hp) ⟨⟨ho1a, ho1b, ho1c⟩, ho2⟩ trivial ?_
      · refine ⟨_, _, zs ++ [c], rfl, ?_, ?_, ?_, ?_⟩
        · omega
        · rw [List.length_append, hzl]; rfl
        · intro x hx
          rcases List.mem_append.mp hx with hx | hx
          · exact hza x hx
          · rw [List.mem_singleton.mp hx]; exact hca
        · rw [List.map_append]; exact hys.append' (.cons _ _ .nil)
  done)
end Mine
set_option maxRecDepth 100000 in
theorem PySem.Challenge.cw_tk0064_01_holds : PySem.Challenge.rw_tk0064_01.Holds := by
  exact Mine.law_go
