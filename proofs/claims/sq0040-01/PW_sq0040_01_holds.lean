import PyProof.Rows.All
import Wide.All
import OpenK.AllK
import Wide.FinOn
import Lean
import PySem.Challenge.RW_sq0040_01
set_option Elab.async false
set_option maxRecDepth 100000
set_option linter.all false
open PySem PySem.W PyProof.Rows
section
local macro_rules | `(tactic| walk_at $s:str) => `(tactic| k_extra $s)
noncomputable section
namespace Mine
open PyData (keyHash)
abbrev PO := Params → Obj
abbrev PB := Params → BT
abbrev lf (o : Obj) : BT := .node o .nil .nil
abbrev nd (o : Obj) (l r : BT) : BT := .node o l r
abbrev ke (P : Params) (s : Str) (n : Tok) (v : Value) : DictEntry := ⟨keyHash P s, .str s n, v⟩
abbrev p0 : Program := PySem.Challenge.pw_sq0040_01
noncomputable def stN (i : Nat) : Stmt := (p0.main.body[i]?).getD (.Pass ⟨0, 0, 0, 0⟩)
noncomputable def inC (i j : Nat) : Stmt := match stN i with
  | .ClassDef _ _ _ b _ _ _ _ _ _ _ => (b[j]?).getD (.Pass ⟨0, 0, 0, 0⟩)
  | s => s
noncomputable def fnD (st : Stmt) (q : Str) (dV kV doc pm code ct : Value) (g b : Addr) : FuncData := match st with
  | .FunctionDef n a body _ _ _ sc _ _ _ => { name := n, qualname := q, params := a, body := .stmts body, scope := sc, globals := g, closure := [], defaults := dV, kwdefaults := kV, doc := doc, pyModule := pm, annotations := none, code := code, closureTuple := ct, builtins := b }
  | _ => default
noncomputable def o11 : PO := fun _ => ⟨(.type "tuple"), none, (.seq #[] 0), #[]⟩
noncomputable def o12 : PO := fun _ => ⟨.none, none, (.fields #[]), #[]⟩
noncomputable def o13 : PO := fun _ => ⟨(.type "code"), none, (.fields #[(.str "<module>" 182), (.str "<module>" 183), (.str "/claim/cut.py" 184), (.int 1 0), (.int 0 0), (.int 0 0), (.int 0 0), (.int 0 0), (.ref 11), (.bool false), (.int 181 0), (.ref 12), .none, .none, .none, .none, (.int 185 0), (.int 1 0), (.str "/claim/cut.py" 186)]), #[]⟩
noncomputable def o14 : PO := fun _ => ⟨(.type "frame"), none, .plain, #[(some (.ref 13)), (some (.ref 3)), (some (.ref 3)), none, (some (.str "__main__" 164)), none, (some (.ref 0))]⟩
noncomputable def Ha : Params → Heap := fun P => ⟨⟨[boot_o_0 P, boot_o_1 P, boot_o_2 P, boot_o_3 P, boot_o_4 P, boot_o_5 P, boot_o_6 P, boot_o_7 P, boot_o_8 P, boot_o_9 P, boot_o_10 P, o11 P, o12 P, o13 P, o14 P]⟩, {}⟩
noncomputable def Tb : PB := fun P => (nd (boot_o_0 P) (nd (boot_o_1 P) (nd (boot_o_3 P) (lf (boot_o_7 P)) (lf (o11 P))) (nd (boot_o_5 P) (lf (boot_o_9 P)) (lf (o13 P)))) (nd (boot_o_2 P) (nd (boot_o_4 P) (lf (boot_o_8 P)) (lf (o12 P))) (nd (boot_o_6 P) (lf (boot_o_10 P)) (lf (o14 P)))))
noncomputable def o3_1 : PO := fun P => ⟨(.type "dict"), none, (.dict #[ke P "__name__" 165 (.str "gluepage.errors" 194), ke P "__doc__" 166 .none, ke P "__package__" 167 .none, ke P "__loader__" 168 (.builtin "__main__.__loader__#opaque"), ke P "__spec__" 169 .none, ke P "__annotations__" 170 (.ref 6), ke P "__builtins__" 171 (.ref 4), ke P "__file__" 173 (.str "/claim/cut.py" 172), ke P "__cached__" 174 .none, ke P "_wall" 193 (.ref 21), ke P "PageError" 223 (.ref 39)] 11), #[]⟩
noncomputable def o12_1 : PO := fun _ => ⟨.none, none, (.fields #[(.int 1 0), (.int 0 0), (.ref 20), (.int 5 0), (.int 0 0), (.ref 27)]), #[]⟩
noncomputable def o15 : PO := fun _ => ⟨(.type "tuple"), none, (.seq #[] 0), #[]⟩
noncomputable def o16 : PO := fun _ => ⟨.none, none, (.fields #[]), #[]⟩
noncomputable def o17 : PO := fun _ => ⟨(.type "tuple"), none, (.seq #[(.str "k" 190)] 0), #[]⟩
noncomputable def o18 : PO := fun _ => ⟨(.type "tuple"), none, (.seq #[] 0), #[]⟩
noncomputable def o19 : PO := fun _ => ⟨.none, none, (.func (fnD (stN 0) "_wall" .none .none .none .none .none .none 0 0)), #[]⟩
noncomputable def o20 : PO := fun _ => ⟨(.type "code"), none, (.fields #[(.str "_wall" 187), (.str "_wall" 188), (.str "/claim/cut.py" 189), (.int 1 0), (.int 1 0), (.int 0 0), (.int 0 0), (.int 3 0), (.ref 15), (.bool true), (.int 181 0), (.ref 16), .none, (.ref 17), (.ref 18), (.ref 19), (.int 191 0), (.int 1 0), (.str "/claim/cut.py" 192)]), #[]⟩
noncomputable def o21 : PO := fun _ => ⟨(.type "function"), none, (.func (fnD (stN 0) "_wall" .none .none .none (.str "__main__" 164) (.ref 20) .none 3 0)), #[]⟩
noncomputable def o22 : PO := fun _ => ⟨(.type "tuple"), none, (.seq #[(.type "ValueError")] 0), #[]⟩
noncomputable def o23 : PO := fun _ => ⟨(.type "builtin_function_or_method"), none, (.fields #[(.builtin "type.__prepare__"), (.type "type")]), #[]⟩
noncomputable def o24 : PO := fun P => ⟨(.type "dict"), none, (.dict #[ke P "__module__" 203 (.str "gluepage.errors" 194), ke P "__qualname__" 205 (.str "PageError" 204), ke P "__firstlineno__" 207 (.int 5 206), ke P "__init__" 216 (.ref 36), ke P "__static_attributes__" 218 (.ref 37)] 5), #[]⟩
noncomputable def o25 : PO := fun _ => ⟨(.type "tuple"), none, (.seq #[] 0), #[]⟩
noncomputable def o26 : PO := fun _ => ⟨.none, none, (.fields #[(.int 7 0), (.int 4 0), (.ref 35)]), #[]⟩
noncomputable def o27 : PO := fun _ => ⟨(.type "code"), none, (.fields #[(.str "PageError" 198), (.str "PageError" 199), (.str "/claim/cut.py" 200), (.int 5 0), (.int 0 0), (.int 0 0), (.int 0 0), (.int 0 0), (.ref 25), (.bool false), (.int 181 0), (.ref 26), .none, .none, .none, .none, (.int 201 0), (.int 5 0), (.str "/claim/cut.py" 202)]), #[]⟩
noncomputable def o28 : PO := fun _ => ⟨(.type "frame"), none, .plain, #[(some (.ref 27)), (some (.ref 3)), (some (.ref 24)), none, (some (.str "gluepage.errors" 194)), none, (some (.ref 0))]⟩
noncomputable def o29 : PO := fun _ => ⟨(.type "tuple"), none, (.seq #[(.str "" 208)] 0), #[]⟩
noncomputable def o30 : PO := fun _ => ⟨(.type "tuple"), none, (.seq #[] 0), #[]⟩
noncomputable def o31 : PO := fun _ => ⟨.none, none, (.fields #[]), #[]⟩
noncomputable def o32 : PO := fun _ => ⟨(.type "tuple"), none, (.seq #[(.str "self" 212), (.str "reason" 213)] 0), #[]⟩
noncomputable def o33 : PO := fun _ => ⟨(.type "tuple"), none, (.seq #[] 0), #[]⟩
noncomputable def o34 : PO := fun _ => ⟨.none, none, (.func (fnD (inC 2 0) "PageError.__init__" .none .none .none .none .none .none 0 0)), #[]⟩
noncomputable def o35 : PO := fun _ => ⟨(.type "code"), none, (.fields #[(.str "__init__" 209), (.str "PageError.__init__" 210), (.str "/claim/cut.py" 211), (.int 7 0), (.int 2 0), (.int 0 0), (.int 0 0), (.int 3 0), (.ref 30), (.bool true), (.int 181 0), (.ref 31), .none, (.ref 32), (.ref 33), (.ref 34), (.int 214 0), (.int 7 0), (.str "/claim/cut.py" 215)]), #[]⟩
noncomputable def o36 : PO := fun _ => ⟨(.type "function"), none, (.func (fnD (inC 2 0) "PageError.__init__" (.ref 29) .none .none (.str "gluepage.errors" 194) (.ref 35) .none 3 0)), #[]⟩
noncomputable def o37 : PO := fun _ => ⟨(.type "tuple"), none, (.seq #[(.str "reason" 217)] 0), #[]⟩
noncomputable def o38 : PO := fun P => ⟨(.type "dict"), none, (.dict #[ke P "__module__" 203 (.str "gluepage.errors" 194), ke P "__firstlineno__" 207 (.int 5 206), ke P "__init__" 216 (.ref 36), ke P "__static_attributes__" 218 (.ref 37), ke P "__weakref__" 220 (.ref 40), ke P "__doc__" 221 .none] 3), #[]⟩
noncomputable def o39 : PO := fun _ => ⟨(.type "type"), none, (.cls ⟨"PageError", [(.type "ValueError")], [(.ref 39), (.type "ValueError"), (.type "Exception"), (.type "BaseException"), (.type "object")], 38, "PageError", true, [], [], false, none, false⟩), #[(some (.ref 22)), none, (some (.str "PageError" 196)), (some (.str "PageError" 204)), (some (.builtin "ValueError.__new__")), (some (.bool true))]⟩
noncomputable def o40 : PO := fun _ => ⟨(.type "getset_descriptor"), none, (.fields #[(.str "__weakref__" 219), (.ref 39), (.builtin "ExceptionGroup.__weakref__"), .none]), #[]⟩
noncomputable def o41 : PO := fun _ => ⟨(.type "super"), none, (.fields #[(.ref 39), (.ref 39), (.ref 39)]), #[]⟩
noncomputable def o42 : PO := fun _ => ⟨(.type "builtin_function_or_method"), none, (.fields #[(.builtin "object.__init_subclass__"), (.ref 39)]), #[]⟩
noncomputable def T0 : PB := fun P => (nd (boot_o_0 P) (nd (boot_o_1 P) (nd (o3_1 P) (nd (boot_o_7 P) (nd (o15 P) (lf (o31 P)) .nil) (nd (o23 P) (lf (o39 P)) .nil)) (nd (o11 P) (nd (o19 P) (lf (o35 P)) .nil) (lf (o27 P)))) (nd (boot_o_5 P) (nd (boot_o_9 P) (nd (o17 P) (lf (o33 P)) .nil) (nd (o25 P) (lf (o41 P)) .nil)) (nd (o13 P) (nd (o21 P) (lf (o37 P)) .nil) (lf (o29 P))))) (nd (boot_o_2 P) (nd (boot_o_4 P) (nd (boot_o_8 P) (nd (o16 P) (lf (o32 P)) .nil) (nd (o24 P) (lf (o40 P)) .nil)) (nd (o12_1 P) (nd (o20 P) (lf (o36 P)) .nil) (lf (o28 P)))) (nd (boot_o_6 P) (nd (boot_o_10 P) (nd (o18 P) (lf (o34 P)) .nil) (nd (o26 P) (lf (o42 P)) .nil)) (nd (o14 P) (nd (o22 P) (lf (o38 P)) .nil) (lf (o30 P))))))
noncomputable def o3_2 : PO := fun P => ⟨(.type "dict"), none, (.dict #[ke P "__name__" 165 (.str "gluepage.errors" 194), ke P "__doc__" 166 .none, ke P "__package__" 167 .none, ke P "__loader__" 168 (.builtin "__main__.__loader__#opaque"), ke P "__spec__" 169 .none, ke P "__annotations__" 170 (.ref 6), ke P "__builtins__" 171 (.ref 4), ke P "__file__" 173 (.str "/claim/cut.py" 172), ke P "__cached__" 174 .none, ke P "_wall" 193 (.ref 21), ke P "PageError" 223 (.ref 39), ke P "BadArgument" 239 (.ref 52)] 12), #[]⟩
noncomputable def o12_2 : PO := fun _ => ⟨.none, none, (.fields #[(.int 1 0), (.int 0 0), (.ref 20), (.int 5 0), (.int 0 0), (.ref 27), (.int 9 0), (.int 0 0), (.ref 48)]), #[]⟩
noncomputable def o39_1 : PO := fun _ => ⟨(.type "type"), none, (.cls ⟨"PageError", [(.type "ValueError")], [(.ref 39), (.type "ValueError"), (.type "Exception"), (.type "BaseException"), (.type "object")], 38, "PageError", true, [], [(.ref 52)], false, none, false⟩), #[(some (.ref 22)), none, (some (.str "PageError" 196)), (some (.str "PageError" 204)), (some (.builtin "ValueError.__new__")), (some (.bool true))]⟩
noncomputable def o43 : PO := fun _ => ⟨(.type "tuple"), none, (.seq #[(.ref 39)] 0), #[]⟩
noncomputable def o44 : PO := fun _ => ⟨(.type "builtin_function_or_method"), none, (.fields #[(.builtin "type.__prepare__"), (.type "type")]), #[]⟩
noncomputable def o45 : PO := fun P => ⟨(.type "dict"), none, (.dict #[ke P "__module__" 231 (.str "gluepage.errors" 194), ke P "__qualname__" 233 (.str "BadArgument" 232), ke P "__firstlineno__" 235 (.int 9 234), ke P "__static_attributes__" 236 (.ref 50)] 4), #[]⟩
noncomputable def o46 : PO := fun _ => ⟨(.type "tuple"), none, (.seq #[] 0), #[]⟩
noncomputable def o47 : PO := fun _ => ⟨.none, none, (.fields #[]), #[]⟩
noncomputable def o48 : PO := fun _ => ⟨(.type "code"), none, (.fields #[(.str "BadArgument" 226), (.str "BadArgument" 227), (.str "/claim/cut.py" 228), (.int 9 0), (.int 0 0), (.int 0 0), (.int 0 0), (.int 0 0), (.ref 46), (.bool false), (.int 181 0), (.ref 47), .none, .none, .none, .none, (.int 229 0), (.int 9 0), (.str "/claim/cut.py" 230)]), #[]⟩
noncomputable def o49 : PO := fun _ => ⟨(.type "frame"), none, .plain, #[(some (.ref 48)), (some (.ref 3)), (some (.ref 45)), none, (some (.str "gluepage.errors" 194)), none, (some (.ref 0))]⟩
noncomputable def o50 : PO := fun _ => ⟨(.type "tuple"), none, (.seq #[] 0), #[]⟩
noncomputable def o51 : PO := fun P => ⟨(.type "dict"), none, (.dict #[ke P "__module__" 231 (.str "gluepage.errors" 194), ke P "__firstlineno__" 235 (.int 9 234), ke P "__static_attributes__" 236 (.ref 50), ke P "__doc__" 237 .none] 2), #[]⟩
noncomputable def o52 : PO := fun _ => ⟨(.type "type"), none, (.cls ⟨"BadArgument", [(.ref 39)], [(.ref 52), (.ref 39), (.type "ValueError"), (.type "Exception"), (.type "BaseException"), (.type "object")], 51, "BadArgument", true, [], [], false, none, false⟩), #[(some (.ref 43)), none, (some (.str "BadArgument" 224)), (some (.str "BadArgument" 232)), (some (.builtin "ValueError.__new__")), (some (.bool true))]⟩
noncomputable def o53 : PO := fun _ => ⟨(.type "super"), none, (.fields #[(.ref 52), (.ref 52), (.ref 52)]), #[]⟩
noncomputable def o54 : PO := fun _ => ⟨(.type "builtin_function_or_method"), none, (.fields #[(.builtin "object.__init_subclass__"), (.ref 52)]), #[]⟩
noncomputable def T1 : PB := fun P => (nd (boot_o_0 P) (nd (boot_o_1 P) (nd (o3_2 P) (nd (boot_o_7 P) (nd (o15 P) (lf (o31 P)) (lf (o47 P))) (nd (o23 P) (lf (o39_1 P)) .nil)) (nd (o11 P) (nd (o19 P) (lf (o35 P)) (lf (o51 P))) (nd (o27 P) (lf (o43 P)) .nil))) (nd (boot_o_5 P) (nd (boot_o_9 P) (nd (o17 P) (lf (o33 P)) (lf (o49 P))) (nd (o25 P) (lf (o41 P)) .nil)) (nd (o13 P) (nd (o21 P) (lf (o37 P)) (lf (o53 P))) (nd (o29 P) (lf (o45 P)) .nil)))) (nd (boot_o_2 P) (nd (boot_o_4 P) (nd (boot_o_8 P) (nd (o16 P) (lf (o32 P)) (lf (o48 P))) (nd (o24 P) (lf (o40 P)) .nil)) (nd (o12_2 P) (nd (o20 P) (lf (o36 P)) (lf (o52 P))) (nd (o28 P) (lf (o44 P)) .nil))) (nd (boot_o_6 P) (nd (boot_o_10 P) (nd (o18 P) (lf (o34 P)) (lf (o50 P))) (nd (o26 P) (lf (o42 P)) .nil)) (nd (o14 P) (nd (o22 P) (lf (o38 P)) (lf (o54 P))) (nd (o30 P) (lf (o46 P)) .nil)))))
noncomputable def o3_3 : PO := fun P => ⟨(.type "dict"), none, (.dict #[ke P "__name__" 165 (.str "gluepage.errors" 194), ke P "__doc__" 166 .none, ke P "__package__" 167 .none, ke P "__loader__" 168 (.builtin "__main__.__loader__#opaque"), ke P "__spec__" 169 .none, ke P "__annotations__" 170 (.ref 6), ke P "__builtins__" 171 (.ref 4), ke P "__file__" 173 (.str "/claim/cut.py" 172), ke P "__cached__" 174 .none, ke P "_wall" 193 (.ref 21), ke P "PageError" 223 (.ref 39), ke P "BadArgument" 239 (.ref 52), ke P "Overflow" 255 (.ref 64)] 13), #[]⟩
noncomputable def o12_3 : PO := fun _ => ⟨.none, none, (.fields #[(.int 1 0), (.int 0 0), (.ref 20), (.int 5 0), (.int 0 0), (.ref 27), (.int 9 0), (.int 0 0), (.ref 48), (.int 11 0), (.int 0 0), (.ref 60)]), #[]⟩
noncomputable def o39_2 : PO := fun _ => ⟨(.type "type"), none, (.cls ⟨"PageError", [(.type "ValueError")], [(.ref 39), (.type "ValueError"), (.type "Exception"), (.type "BaseException"), (.type "object")], 38, "PageError", true, [], [(.ref 52), (.ref 64)], false, none, false⟩), #[(some (.ref 22)), none, (some (.str "PageError" 196)), (some (.str "PageError" 204)), (some (.builtin "ValueError.__new__")), (some (.bool true))]⟩
noncomputable def o55 : PO := fun _ => ⟨(.type "tuple"), none, (.seq #[(.ref 39)] 0), #[]⟩
noncomputable def o56 : PO := fun _ => ⟨(.type "builtin_function_or_method"), none, (.fields #[(.builtin "type.__prepare__"), (.type "type")]), #[]⟩
noncomputable def o57 : PO := fun P => ⟨(.type "dict"), none, (.dict #[ke P "__module__" 247 (.str "gluepage.errors" 194), ke P "__qualname__" 249 (.str "Overflow" 248), ke P "__firstlineno__" 251 (.int 11 250), ke P "__static_attributes__" 252 (.ref 62)] 4), #[]⟩
noncomputable def o58 : PO := fun _ => ⟨(.type "tuple"), none, (.seq #[] 0), #[]⟩
noncomputable def o59 : PO := fun _ => ⟨.none, none, (.fields #[]), #[]⟩
noncomputable def o60 : PO := fun _ => ⟨(.type "code"), none, (.fields #[(.str "Overflow" 242), (.str "Overflow" 243), (.str "/claim/cut.py" 244), (.int 11 0), (.int 0 0), (.int 0 0), (.int 0 0), (.int 0 0), (.ref 58), (.bool false), (.int 181 0), (.ref 59), .none, .none, .none, .none, (.int 245 0), (.int 11 0), (.str "/claim/cut.py" 246)]), #[]⟩
noncomputable def o61 : PO := fun _ => ⟨(.type "frame"), none, .plain, #[(some (.ref 60)), (some (.ref 3)), (some (.ref 57)), none, (some (.str "gluepage.errors" 194)), none, (some (.ref 0))]⟩
noncomputable def o62 : PO := fun _ => ⟨(.type "tuple"), none, (.seq #[] 0), #[]⟩
noncomputable def o63 : PO := fun P => ⟨(.type "dict"), none, (.dict #[ke P "__module__" 247 (.str "gluepage.errors" 194), ke P "__firstlineno__" 251 (.int 11 250), ke P "__static_attributes__" 252 (.ref 62), ke P "__doc__" 253 .none] 2), #[]⟩
noncomputable def o64 : PO := fun _ => ⟨(.type "type"), none, (.cls ⟨"Overflow", [(.ref 39)], [(.ref 64), (.ref 39), (.type "ValueError"), (.type "Exception"), (.type "BaseException"), (.type "object")], 63, "Overflow", true, [], [], false, none, false⟩), #[(some (.ref 55)), none, (some (.str "Overflow" 240)), (some (.str "Overflow" 248)), (some (.builtin "ValueError.__new__")), (some (.bool true))]⟩
noncomputable def o65 : PO := fun _ => ⟨(.type "super"), none, (.fields #[(.ref 64), (.ref 64), (.ref 64)]), #[]⟩
noncomputable def o66 : PO := fun _ => ⟨(.type "builtin_function_or_method"), none, (.fields #[(.builtin "object.__init_subclass__"), (.ref 64)]), #[]⟩
noncomputable def T2 : PB := fun P => (nd (boot_o_0 P) (nd (boot_o_1 P) (nd (o3_3 P) (nd (boot_o_7 P) (nd (o15 P) (nd (o31 P) (lf (o63 P)) .nil) (lf (o47 P))) (nd (o23 P) (lf (o39_2 P)) (lf (o55 P)))) (nd (o11 P) (nd (o19 P) (lf (o35 P)) (lf (o51 P))) (nd (o27 P) (lf (o43 P)) (lf (o59 P))))) (nd (boot_o_5 P) (nd (boot_o_9 P) (nd (o17 P) (nd (o33 P) (lf (o65 P)) .nil) (lf (o49 P))) (nd (o25 P) (lf (o41 P)) (lf (o57 P)))) (nd (o13 P) (nd (o21 P) (lf (o37 P)) (lf (o53 P))) (nd (o29 P) (lf (o45 P)) (lf (o61 P)))))) (nd (boot_o_2 P) (nd (boot_o_4 P) (nd (boot_o_8 P) (nd (o16 P) (nd (o32 P) (lf (o64 P)) .nil) (lf (o48 P))) (nd (o24 P) (lf (o40 P)) (lf (o56 P)))) (nd (o12_3 P) (nd (o20 P) (lf (o36 P)) (lf (o52 P))) (nd (o28 P) (lf (o44 P)) (lf (o60 P))))) (nd (boot_o_6 P) (nd (boot_o_10 P) (nd (o18 P) (nd (o34 P) (lf (o66 P)) .nil) (lf (o50 P))) (nd (o26 P) (lf (o42 P)) (lf (o58 P)))) (nd (o14 P) (nd (o22 P) (lf (o38 P)) (lf (o54 P))) (nd (o30 P) (lf (o46 P)) (lf (o62 P)))))))
noncomputable def o3_4 : PO := fun P => ⟨(.type "dict"), none, (.dict #[ke P "__name__" 165 (.str "gluepage.errors" 194), ke P "__doc__" 166 .none, ke P "__package__" 167 .none, ke P "__loader__" 168 (.builtin "__main__.__loader__#opaque"), ke P "__spec__" 169 .none, ke P "__annotations__" 170 (.ref 6), ke P "__builtins__" 171 (.ref 4), ke P "__file__" 173 (.str "/claim/cut.py" 172), ke P "__cached__" 174 .none, ke P "_wall" 193 (.ref 21), ke P "PageError" 223 (.ref 39), ke P "BadArgument" 239 (.ref 52), ke P "Overflow" 255 (.ref 64), ke P "BadMath" 271 (.ref 76)] 14), #[]⟩
noncomputable def o12_4 : PO := fun _ => ⟨.none, none, (.fields #[(.int 1 0), (.int 0 0), (.ref 20), (.int 5 0), (.int 0 0), (.ref 27), (.int 9 0), (.int 0 0), (.ref 48), (.int 11 0), (.int 0 0), (.ref 60), (.int 13 0), (.int 0 0), (.ref 72)]), #[]⟩
noncomputable def o39_3 : PO := fun _ => ⟨(.type "type"), none, (.cls ⟨"PageError", [(.type "ValueError")], [(.ref 39), (.type "ValueError"), (.type "Exception"), (.type "BaseException"), (.type "object")], 38, "PageError", true, [], [(.ref 52), (.ref 64), (.ref 76)], false, none, false⟩), #[(some (.ref 22)), none, (some (.str "PageError" 196)), (some (.str "PageError" 204)), (some (.builtin "ValueError.__new__")), (some (.bool true))]⟩
noncomputable def o67 : PO := fun _ => ⟨(.type "tuple"), none, (.seq #[(.ref 39)] 0), #[]⟩
noncomputable def o68 : PO := fun _ => ⟨(.type "builtin_function_or_method"), none, (.fields #[(.builtin "type.__prepare__"), (.type "type")]), #[]⟩
noncomputable def o69 : PO := fun P => ⟨(.type "dict"), none, (.dict #[ke P "__module__" 263 (.str "gluepage.errors" 194), ke P "__qualname__" 265 (.str "BadMath" 264), ke P "__firstlineno__" 267 (.int 13 266), ke P "__static_attributes__" 268 (.ref 74)] 4), #[]⟩
noncomputable def o70 : PO := fun _ => ⟨(.type "tuple"), none, (.seq #[] 0), #[]⟩
noncomputable def o71 : PO := fun _ => ⟨.none, none, (.fields #[]), #[]⟩
noncomputable def o72 : PO := fun _ => ⟨(.type "code"), none, (.fields #[(.str "BadMath" 258), (.str "BadMath" 259), (.str "/claim/cut.py" 260), (.int 13 0), (.int 0 0), (.int 0 0), (.int 0 0), (.int 0 0), (.ref 70), (.bool false), (.int 181 0), (.ref 71), .none, .none, .none, .none, (.int 261 0), (.int 13 0), (.str "/claim/cut.py" 262)]), #[]⟩
noncomputable def o73 : PO := fun _ => ⟨(.type "frame"), none, .plain, #[(some (.ref 72)), (some (.ref 3)), (some (.ref 69)), none, (some (.str "gluepage.errors" 194)), none, (some (.ref 0))]⟩
noncomputable def o74 : PO := fun _ => ⟨(.type "tuple"), none, (.seq #[] 0), #[]⟩
noncomputable def o75 : PO := fun P => ⟨(.type "dict"), none, (.dict #[ke P "__module__" 263 (.str "gluepage.errors" 194), ke P "__firstlineno__" 267 (.int 13 266), ke P "__static_attributes__" 268 (.ref 74), ke P "__doc__" 269 .none] 2), #[]⟩
noncomputable def o76 : PO := fun _ => ⟨(.type "type"), none, (.cls ⟨"BadMath", [(.ref 39)], [(.ref 76), (.ref 39), (.type "ValueError"), (.type "Exception"), (.type "BaseException"), (.type "object")], 75, "BadMath", true, [], [], false, none, false⟩), #[(some (.ref 67)), none, (some (.str "BadMath" 256)), (some (.str "BadMath" 264)), (some (.builtin "ValueError.__new__")), (some (.bool true))]⟩
noncomputable def o77 : PO := fun _ => ⟨(.type "super"), none, (.fields #[(.ref 76), (.ref 76), (.ref 76)]), #[]⟩
noncomputable def o78 : PO := fun _ => ⟨(.type "builtin_function_or_method"), none, (.fields #[(.builtin "object.__init_subclass__"), (.ref 76)]), #[]⟩
noncomputable def T3 : PB := fun P => (nd (boot_o_0 P) (nd (boot_o_1 P) (nd (o3_4 P) (nd (boot_o_7 P) (nd (o15 P) (nd (o31 P) (lf (o63 P)) .nil) (lf (o47 P))) (nd (o23 P) (nd (o39_3 P) (lf (o71 P)) .nil) (lf (o55 P)))) (nd (o11 P) (nd (o19 P) (nd (o35 P) (lf (o67 P)) .nil) (lf (o51 P))) (nd (o27 P) (nd (o43 P) (lf (o75 P)) .nil) (lf (o59 P))))) (nd (boot_o_5 P) (nd (boot_o_9 P) (nd (o17 P) (nd (o33 P) (lf (o65 P)) .nil) (lf (o49 P))) (nd (o25 P) (nd (o41 P) (lf (o73 P)) .nil) (lf (o57 P)))) (nd (o13 P) (nd (o21 P) (nd (o37 P) (lf (o69 P)) .nil) (lf (o53 P))) (nd (o29 P) (nd (o45 P) (lf (o77 P)) .nil) (lf (o61 P)))))) (nd (boot_o_2 P) (nd (boot_o_4 P) (nd (boot_o_8 P) (nd (o16 P) (nd (o32 P) (lf (o64 P)) .nil) (lf (o48 P))) (nd (o24 P) (nd (o40 P) (lf (o72 P)) .nil) (lf (o56 P)))) (nd (o12_4 P) (nd (o20 P) (nd (o36 P) (lf (o68 P)) .nil) (lf (o52 P))) (nd (o28 P) (nd (o44 P) (lf (o76 P)) .nil) (lf (o60 P))))) (nd (boot_o_6 P) (nd (boot_o_10 P) (nd (o18 P) (nd (o34 P) (lf (o66 P)) .nil) (lf (o50 P))) (nd (o26 P) (nd (o42 P) (lf (o74 P)) .nil) (lf (o58 P)))) (nd (o14 P) (nd (o22 P) (nd (o38 P) (lf (o70 P)) .nil) (lf (o54 P))) (nd (o30 P) (nd (o46 P) (lf (o78 P)) .nil) (lf (o62 P)))))))
noncomputable def o3_5 : PO := fun P => ⟨(.type "dict"), none, (.dict #[ke P "__name__" 165 (.str "gluepage.errors" 194), ke P "__doc__" 166 .none, ke P "__package__" 167 .none, ke P "__loader__" 168 (.builtin "__main__.__loader__#opaque"), ke P "__spec__" 169 .none, ke P "__annotations__" 170 (.ref 6), ke P "__builtins__" 171 (.ref 4), ke P "__file__" 173 (.str "/claim/cut.py" 172), ke P "__cached__" 174 .none, ke P "_wall" 193 (.ref 21), ke P "PageError" 223 (.ref 39), ke P "BadArgument" 239 (.ref 52), ke P "Overflow" 255 (.ref 64), ke P "BadMath" 271 (.ref 76), ke P "BadFont" 287 (.ref 88)] 15), #[]⟩
noncomputable def o12_5 : PO := fun _ => ⟨.none, none, (.fields #[(.int 1 0), (.int 0 0), (.ref 20), (.int 5 0), (.int 0 0), (.ref 27), (.int 9 0), (.int 0 0), (.ref 48), (.int 11 0), (.int 0 0), (.ref 60), (.int 13 0), (.int 0 0), (.ref 72), (.int 15 0), (.int 0 0), (.ref 84)]), #[]⟩
noncomputable def o39_4 : PO := fun _ => ⟨(.type "type"), none, (.cls ⟨"PageError", [(.type "ValueError")], [(.ref 39), (.type "ValueError"), (.type "Exception"), (.type "BaseException"), (.type "object")], 38, "PageError", true, [], [(.ref 52), (.ref 64), (.ref 76), (.ref 88)], false, none, false⟩), #[(some (.ref 22)), none, (some (.str "PageError" 196)), (some (.str "PageError" 204)), (some (.builtin "ValueError.__new__")), (some (.bool true))]⟩
noncomputable def o79 : PO := fun _ => ⟨(.type "tuple"), none, (.seq #[(.ref 39)] 0), #[]⟩
noncomputable def o80 : PO := fun _ => ⟨(.type "builtin_function_or_method"), none, (.fields #[(.builtin "type.__prepare__"), (.type "type")]), #[]⟩
noncomputable def o81 : PO := fun P => ⟨(.type "dict"), none, (.dict #[ke P "__module__" 279 (.str "gluepage.errors" 194), ke P "__qualname__" 281 (.str "BadFont" 280), ke P "__firstlineno__" 283 (.int 15 282), ke P "__static_attributes__" 284 (.ref 86)] 4), #[]⟩
noncomputable def o82 : PO := fun _ => ⟨(.type "tuple"), none, (.seq #[] 0), #[]⟩
noncomputable def o83 : PO := fun _ => ⟨.none, none, (.fields #[]), #[]⟩
noncomputable def o84 : PO := fun _ => ⟨(.type "code"), none, (.fields #[(.str "BadFont" 274), (.str "BadFont" 275), (.str "/claim/cut.py" 276), (.int 15 0), (.int 0 0), (.int 0 0), (.int 0 0), (.int 0 0), (.ref 82), (.bool false), (.int 181 0), (.ref 83), .none, .none, .none, .none, (.int 277 0), (.int 15 0), (.str "/claim/cut.py" 278)]), #[]⟩
noncomputable def o85 : PO := fun _ => ⟨(.type "frame"), none, .plain, #[(some (.ref 84)), (some (.ref 3)), (some (.ref 81)), none, (some (.str "gluepage.errors" 194)), none, (some (.ref 0))]⟩
noncomputable def o86 : PO := fun _ => ⟨(.type "tuple"), none, (.seq #[] 0), #[]⟩
noncomputable def o87 : PO := fun P => ⟨(.type "dict"), none, (.dict #[ke P "__module__" 279 (.str "gluepage.errors" 194), ke P "__firstlineno__" 283 (.int 15 282), ke P "__static_attributes__" 284 (.ref 86), ke P "__doc__" 285 .none] 2), #[]⟩
noncomputable def o88 : PO := fun _ => ⟨(.type "type"), none, (.cls ⟨"BadFont", [(.ref 39)], [(.ref 88), (.ref 39), (.type "ValueError"), (.type "Exception"), (.type "BaseException"), (.type "object")], 87, "BadFont", true, [], [], false, none, false⟩), #[(some (.ref 79)), none, (some (.str "BadFont" 272)), (some (.str "BadFont" 280)), (some (.builtin "ValueError.__new__")), (some (.bool true))]⟩
noncomputable def o89 : PO := fun _ => ⟨(.type "super"), none, (.fields #[(.ref 88), (.ref 88), (.ref 88)]), #[]⟩
noncomputable def o90 : PO := fun _ => ⟨(.type "builtin_function_or_method"), none, (.fields #[(.builtin "object.__init_subclass__"), (.ref 88)]), #[]⟩
noncomputable def T4 : PB := fun P => (nd (boot_o_0 P) (nd (boot_o_1 P) (nd (o3_5 P) (nd (boot_o_7 P) (nd (o15 P) (nd (o31 P) (lf (o63 P)) .nil) (nd (o47 P) (lf (o79 P)) .nil)) (nd (o23 P) (nd (o39_4 P) (lf (o71 P)) .nil) (nd (o55 P) (lf (o87 P)) .nil))) (nd (o11 P) (nd (o19 P) (nd (o35 P) (lf (o67 P)) .nil) (nd (o51 P) (lf (o83 P)) .nil)) (nd (o27 P) (nd (o43 P) (lf (o75 P)) .nil) (lf (o59 P))))) (nd (boot_o_5 P) (nd (boot_o_9 P) (nd (o17 P) (nd (o33 P) (lf (o65 P)) .nil) (nd (o49 P) (lf (o81 P)) .nil)) (nd (o25 P) (nd (o41 P) (lf (o73 P)) .nil) (nd (o57 P) (lf (o89 P)) .nil))) (nd (o13 P) (nd (o21 P) (nd (o37 P) (lf (o69 P)) .nil) (nd (o53 P) (lf (o85 P)) .nil)) (nd (o29 P) (nd (o45 P) (lf (o77 P)) .nil) (lf (o61 P)))))) (nd (boot_o_2 P) (nd (boot_o_4 P) (nd (boot_o_8 P) (nd (o16 P) (nd (o32 P) (lf (o64 P)) .nil) (nd (o48 P) (lf (o80 P)) .nil)) (nd (o24 P) (nd (o40 P) (lf (o72 P)) .nil) (nd (o56 P) (lf (o88 P)) .nil))) (nd (o12_5 P) (nd (o20 P) (nd (o36 P) (lf (o68 P)) .nil) (nd (o52 P) (lf (o84 P)) .nil)) (nd (o28 P) (nd (o44 P) (lf (o76 P)) .nil) (lf (o60 P))))) (nd (boot_o_6 P) (nd (boot_o_10 P) (nd (o18 P) (nd (o34 P) (lf (o66 P)) .nil) (nd (o50 P) (lf (o82 P)) .nil)) (nd (o26 P) (nd (o42 P) (lf (o74 P)) .nil) (nd (o58 P) (lf (o90 P)) .nil))) (nd (o14 P) (nd (o22 P) (nd (o38 P) (lf (o70 P)) .nil) (nd (o54 P) (lf (o86 P)) .nil)) (nd (o30 P) (nd (o46 P) (lf (o78 P)) .nil) (lf (o62 P)))))))
noncomputable def o3_6 : PO := fun P => ⟨(.type "dict"), none, (.dict #[ke P "__name__" 165 (.str "gluepage.mathlist" 342), ke P "__doc__" 166 .none, ke P "__package__" 167 .none, ke P "__loader__" 168 (.builtin "__main__.__loader__#opaque"), ke P "__spec__" 169 .none, ke P "__annotations__" 170 (.ref 6), ke P "__builtins__" 171 (.ref 4), ke P "__file__" 173 (.str "/claim/cut.py" 172), ke P "__cached__" 174 .none, ke P "_wall" 193 (.ref 21), ke P "PageError" 223 (.ref 39), ke P "BadArgument" 239 (.ref 52), ke P "Overflow" 255 (.ref 64), ke P "BadMath" 271 (.ref 76), ke P "BadFont" 287 (.ref 88), ke P "TooMuch" 303 (.ref 100), ke P "MAX_DIMEN" 311 (.int 1073741823 310), ke P "is_whole" 320 (.ref 109), ke P "check_whole" 327 (.ref 116), ke P "check_dimen" 334 (.ref 123), ke P "halved" 341 (.ref 130)] 21), #[]⟩
noncomputable def o12_6 : PO := fun _ => ⟨.none, none, (.fields #[(.int 1 0), (.int 0 0), (.ref 20), (.int 5 0), (.int 0 0), (.ref 27), (.int 9 0), (.int 0 0), (.ref 48), (.int 11 0), (.int 0 0), (.ref 60), (.int 13 0), (.int 0 0), (.ref 72), (.int 15 0), (.int 0 0), (.ref 84), (.int 17 0), (.int 0 0), (.ref 96), (.int 21 0), (.int 0 0), (.ref 108), (.int 23 0), (.int 0 0), (.ref 115), (.int 27 0), (.int 0 0), (.ref 122), (.int 31 0), (.int 0 0), (.ref 129)]), #[]⟩
noncomputable def o39_5 : PO := fun _ => ⟨(.type "type"), none, (.cls ⟨"PageError", [(.type "ValueError")], [(.ref 39), (.type "ValueError"), (.type "Exception"), (.type "BaseException"), (.type "object")], 38, "PageError", true, [], [(.ref 52), (.ref 64), (.ref 76), (.ref 88), (.ref 100)], false, none, false⟩), #[(some (.ref 22)), none, (some (.str "PageError" 196)), (some (.str "PageError" 204)), (some (.builtin "ValueError.__new__")), (some (.bool true))]⟩
noncomputable def o91 : PO := fun _ => ⟨(.type "tuple"), none, (.seq #[(.ref 39)] 0), #[]⟩
noncomputable def o92 : PO := fun _ => ⟨(.type "builtin_function_or_method"), none, (.fields #[(.builtin "type.__prepare__"), (.type "type")]), #[]⟩
noncomputable def o93 : PO := fun P => ⟨(.type "dict"), none, (.dict #[ke P "__module__" 295 (.str "gluepage.errors" 194), ke P "__qualname__" 297 (.str "TooMuch" 296), ke P "__firstlineno__" 299 (.int 17 298), ke P "__static_attributes__" 300 (.ref 98)] 4), #[]⟩
noncomputable def o94 : PO := fun _ => ⟨(.type "tuple"), none, (.seq #[] 0), #[]⟩
noncomputable def o95 : PO := fun _ => ⟨.none, none, (.fields #[]), #[]⟩
noncomputable def o96 : PO := fun _ => ⟨(.type "code"), none, (.fields #[(.str "TooMuch" 290), (.str "TooMuch" 291), (.str "/claim/cut.py" 292), (.int 17 0), (.int 0 0), (.int 0 0), (.int 0 0), (.int 0 0), (.ref 94), (.bool false), (.int 181 0), (.ref 95), .none, .none, .none, .none, (.int 293 0), (.int 17 0), (.str "/claim/cut.py" 294)]), #[]⟩
noncomputable def o97 : PO := fun _ => ⟨(.type "frame"), none, .plain, #[(some (.ref 96)), (some (.ref 3)), (some (.ref 93)), none, (some (.str "gluepage.errors" 194)), none, (some (.ref 0))]⟩
noncomputable def o98 : PO := fun _ => ⟨(.type "tuple"), none, (.seq #[] 0), #[]⟩
noncomputable def o99 : PO := fun P => ⟨(.type "dict"), none, (.dict #[ke P "__module__" 295 (.str "gluepage.errors" 194), ke P "__firstlineno__" 299 (.int 17 298), ke P "__static_attributes__" 300 (.ref 98), ke P "__doc__" 301 .none] 2), #[]⟩
noncomputable def o100 : PO := fun _ => ⟨(.type "type"), none, (.cls ⟨"TooMuch", [(.ref 39)], [(.ref 100), (.ref 39), (.type "ValueError"), (.type "Exception"), (.type "BaseException"), (.type "object")], 99, "TooMuch", true, [], [], false, none, false⟩), #[(some (.ref 91)), none, (some (.str "TooMuch" 288)), (some (.str "TooMuch" 296)), (some (.builtin "ValueError.__new__")), (some (.bool true))]⟩
noncomputable def o101 : PO := fun _ => ⟨(.type "super"), none, (.fields #[(.ref 100), (.ref 100), (.ref 100)]), #[]⟩
noncomputable def o102 : PO := fun _ => ⟨(.type "builtin_function_or_method"), none, (.fields #[(.builtin "object.__init_subclass__"), (.ref 100)]), #[]⟩
noncomputable def o103 : PO := fun _ => ⟨(.type "tuple"), none, (.seq #[] 0), #[]⟩
noncomputable def o104 : PO := fun _ => ⟨.none, none, (.fields #[]), #[]⟩
noncomputable def o105 : PO := fun _ => ⟨(.type "tuple"), none, (.seq #[(.str "value" 315), (.str "low" 316), (.str "high" 317)] 0), #[]⟩
noncomputable def o106 : PO := fun _ => ⟨(.type "tuple"), none, (.seq #[] 0), #[]⟩
noncomputable def o107 : PO := fun _ => ⟨.none, none, (.func (fnD (stN 10) "is_whole" .none .none .none .none .none .none 0 0)), #[]⟩
noncomputable def o108 : PO := fun _ => ⟨(.type "code"), none, (.fields #[(.str "is_whole" 312), (.str "is_whole" 313), (.str "/claim/cut.py" 314), (.int 21 0), (.int 3 0), (.int 0 0), (.int 0 0), (.int 3 0), (.ref 103), (.bool true), (.int 181 0), (.ref 104), .none, (.ref 105), (.ref 106), (.ref 107), (.int 318 0), (.int 21 0), (.str "/claim/cut.py" 319)]), #[]⟩
noncomputable def o109 : PO := fun _ => ⟨(.type "function"), none, (.func (fnD (stN 10) "is_whole" .none .none .none (.str "gluepage.scaled" 304) (.ref 108) .none 3 0)), #[]⟩
noncomputable def o110 : PO := fun _ => ⟨(.type "tuple"), none, (.seq #[] 0), #[]⟩
noncomputable def o111 : PO := fun _ => ⟨.none, none, (.fields #[]), #[]⟩
noncomputable def o112 : PO := fun _ => ⟨(.type "tuple"), none, (.seq #[(.str "value" 324)] 0), #[]⟩
noncomputable def o113 : PO := fun _ => ⟨(.type "tuple"), none, (.seq #[] 0), #[]⟩
noncomputable def o114 : PO := fun _ => ⟨.none, none, (.func (fnD (stN 11) "check_whole" .none .none .none .none .none .none 0 0)), #[]⟩
noncomputable def o115 : PO := fun _ => ⟨(.type "code"), none, (.fields #[(.str "check_whole" 321), (.str "check_whole" 322), (.str "/claim/cut.py" 323), (.int 23 0), (.int 1 0), (.int 0 0), (.int 0 0), (.int 3 0), (.ref 110), (.bool true), (.int 181 0), (.ref 111), .none, (.ref 112), (.ref 113), (.ref 114), (.int 325 0), (.int 23 0), (.str "/claim/cut.py" 326)]), #[]⟩
noncomputable def o116 : PO := fun _ => ⟨(.type "function"), none, (.func (fnD (stN 11) "check_whole" .none .none .none (.str "gluepage.scaled" 304) (.ref 115) .none 3 0)), #[]⟩
noncomputable def o117 : PO := fun _ => ⟨(.type "tuple"), none, (.seq #[] 0), #[]⟩
noncomputable def o118 : PO := fun _ => ⟨.none, none, (.fields #[]), #[]⟩
noncomputable def o119 : PO := fun _ => ⟨(.type "tuple"), none, (.seq #[(.str "value" 331)] 0), #[]⟩
noncomputable def o120 : PO := fun _ => ⟨(.type "tuple"), none, (.seq #[] 0), #[]⟩
noncomputable def o121 : PO := fun _ => ⟨.none, none, (.func (fnD (stN 12) "check_dimen" .none .none .none .none .none .none 0 0)), #[]⟩
noncomputable def o122 : PO := fun _ => ⟨(.type "code"), none, (.fields #[(.str "check_dimen" 328), (.str "check_dimen" 329), (.str "/claim/cut.py" 330), (.int 27 0), (.int 1 0), (.int 0 0), (.int 0 0), (.int 3 0), (.ref 117), (.bool true), (.int 181 0), (.ref 118), .none, (.ref 119), (.ref 120), (.ref 121), (.int 332 0), (.int 27 0), (.str "/claim/cut.py" 333)]), #[]⟩
noncomputable def o123 : PO := fun _ => ⟨(.type "function"), none, (.func (fnD (stN 12) "check_dimen" .none .none .none (.str "gluepage.scaled" 304) (.ref 122) .none 3 0)), #[]⟩
noncomputable def o124 : PO := fun _ => ⟨(.type "tuple"), none, (.seq #[] 0), #[]⟩
noncomputable def o125 : PO := fun _ => ⟨.none, none, (.fields #[]), #[]⟩
noncomputable def o126 : PO := fun _ => ⟨(.type "tuple"), none, (.seq #[(.str "value" 338)] 0), #[]⟩
noncomputable def o127 : PO := fun _ => ⟨(.type "tuple"), none, (.seq #[] 0), #[]⟩
noncomputable def o128 : PO := fun _ => ⟨.none, none, (.func (fnD (stN 13) "halved" .none .none .none .none .none .none 0 0)), #[]⟩
noncomputable def o129 : PO := fun _ => ⟨(.type "code"), none, (.fields #[(.str "halved" 335), (.str "halved" 336), (.str "/claim/cut.py" 337), (.int 31 0), (.int 1 0), (.int 0 0), (.int 0 0), (.int 3 0), (.ref 124), (.bool true), (.int 181 0), (.ref 125), .none, (.ref 126), (.ref 127), (.ref 128), (.int 339 0), (.int 31 0), (.str "/claim/cut.py" 340)]), #[]⟩
noncomputable def o130 : PO := fun _ => ⟨(.type "function"), none, (.func (fnD (stN 13) "halved" .none .none .none (.str "gluepage.scaled" 304) (.ref 129) .none 3 0)), #[]⟩
noncomputable def T5 : PB := fun P => (nd (boot_o_0 P) (nd (boot_o_1 P) (nd (o3_6 P) (nd (boot_o_7 P) (nd (o15 P) (nd (o31 P) (nd (o63 P) (lf (o127 P)) .nil) (lf (o95 P))) (nd (o47 P) (lf (o79 P)) (lf (o111 P)))) (nd (o23 P) (nd (o39_5 P) (lf (o71 P)) (lf (o103 P))) (nd (o55 P) (lf (o87 P)) (lf (o119 P))))) (nd (o11 P) (nd (o19 P) (nd (o35 P) (lf (o67 P)) (lf (o99 P))) (nd (o51 P) (lf (o83 P)) (lf (o115 P)))) (nd (o27 P) (nd (o43 P) (lf (o75 P)) (lf (o107 P))) (nd (o59 P) (lf (o91 P)) (lf (o123 P)))))) (nd (boot_o_5 P) (nd (boot_o_9 P) (nd (o17 P) (nd (o33 P) (nd (o65 P) (lf (o129 P)) .nil) (lf (o97 P))) (nd (o49 P) (lf (o81 P)) (lf (o113 P)))) (nd (o25 P) (nd (o41 P) (lf (o73 P)) (lf (o105 P))) (nd (o57 P) (lf (o89 P)) (lf (o121 P))))) (nd (o13 P) (nd (o21 P) (nd (o37 P) (lf (o69 P)) (lf (o101 P))) (nd (o53 P) (lf (o85 P)) (lf (o117 P)))) (nd (o29 P) (nd (o45 P) (lf (o77 P)) (lf (o109 P))) (nd (o61 P) (lf (o93 P)) (lf (o125 P))))))) (nd (boot_o_2 P) (nd (boot_o_4 P) (nd (boot_o_8 P) (nd (o16 P) (nd (o32 P) (nd (o64 P) (lf (o128 P)) .nil) (lf (o96 P))) (nd (o48 P) (lf (o80 P)) (lf (o112 P)))) (nd (o24 P) (nd (o40 P) (lf (o72 P)) (lf (o104 P))) (nd (o56 P) (lf (o88 P)) (lf (o120 P))))) (nd (o12_6 P) (nd (o20 P) (nd (o36 P) (lf (o68 P)) (lf (o100 P))) (nd (o52 P) (lf (o84 P)) (lf (o116 P)))) (nd (o28 P) (nd (o44 P) (lf (o76 P)) (lf (o108 P))) (nd (o60 P) (lf (o92 P)) (lf (o124 P)))))) (nd (boot_o_6 P) (nd (boot_o_10 P) (nd (o18 P) (nd (o34 P) (nd (o66 P) (lf (o130 P)) .nil) (lf (o98 P))) (nd (o50 P) (lf (o82 P)) (lf (o114 P)))) (nd (o26 P) (nd (o42 P) (lf (o74 P)) (lf (o106 P))) (nd (o58 P) (lf (o90 P)) (lf (o122 P))))) (nd (o14 P) (nd (o22 P) (nd (o38 P) (lf (o70 P)) (lf (o102 P))) (nd (o54 P) (lf (o86 P)) (lf (o118 P)))) (nd (o30 P) (nd (o46 P) (lf (o78 P)) (lf (o110 P))) (nd (o62 P) (lf (o94 P)) (lf (o126 P))))))))
noncomputable def o3_7 : PO := fun P => ⟨(.type "dict"), none, (.dict #[ke P "__name__" 165 (.str "gluepage.mathlist" 342), ke P "__doc__" 166 .none, ke P "__package__" 167 .none, ke P "__loader__" 168 (.builtin "__main__.__loader__#opaque"), ke P "__spec__" 169 .none, ke P "__annotations__" 170 (.ref 6), ke P "__builtins__" 171 (.ref 4), ke P "__file__" 173 (.str "/claim/cut.py" 172), ke P "__cached__" 174 .none, ke P "_wall" 193 (.ref 21), ke P "PageError" 223 (.ref 39), ke P "BadArgument" 239 (.ref 52), ke P "Overflow" 255 (.ref 64), ke P "BadMath" 271 (.ref 76), ke P "BadFont" 287 (.ref 88), ke P "TooMuch" 303 (.ref 100), ke P "MAX_DIMEN" 311 (.int 1073741823 310), ke P "is_whole" 320 (.ref 109), ke P "check_whole" 327 (.ref 116), ke P "check_dimen" 334 (.ref 123), ke P "halved" 341 (.ref 130), ke P "DELIM1" 347 (.int 20 344), ke P "DELIM2" 348 (.int 21 345), ke P "AXIS_HEIGHT" 349 (.int 22 346)] 24), #[]⟩
noncomputable def o131 : PO := fun _ => ⟨(.type "tuple"), none, (.seq #[(.int 20 344), (.int 21 345), (.int 22 346)] 0), #[]⟩
noncomputable def o132 : PO := fun _ => ⟨(.type "tuple_iterator"), none, (.fields #[.none, (.int 3 0)]), #[]⟩
noncomputable def o133 : PO := fun _ => ⟨(.type "tuple"), none, (.seq #[] 0), #[]⟩
noncomputable def o134 : PO := fun _ => ⟨(.type "StopIteration"), none, (.fields #[(.ref 133), .none, .none, .none, (.bool false), .none]), #[]⟩
noncomputable def T6 : PB := fun P => (nd (boot_o_0 P) (nd (boot_o_1 P) (nd (o3_7 P) (nd (boot_o_7 P) (nd (o15 P) (nd (o31 P) (nd (o63 P) (lf (o127 P)) .nil) (lf (o95 P))) (nd (o47 P) (lf (o79 P)) (lf (o111 P)))) (nd (o23 P) (nd (o39_5 P) (lf (o71 P)) (lf (o103 P))) (nd (o55 P) (lf (o87 P)) (lf (o119 P))))) (nd (o11 P) (nd (o19 P) (nd (o35 P) (nd (o67 P) (lf (o131 P)) .nil) (lf (o99 P))) (nd (o51 P) (lf (o83 P)) (lf (o115 P)))) (nd (o27 P) (nd (o43 P) (lf (o75 P)) (lf (o107 P))) (nd (o59 P) (lf (o91 P)) (lf (o123 P)))))) (nd (boot_o_5 P) (nd (boot_o_9 P) (nd (o17 P) (nd (o33 P) (nd (o65 P) (lf (o129 P)) .nil) (lf (o97 P))) (nd (o49 P) (lf (o81 P)) (lf (o113 P)))) (nd (o25 P) (nd (o41 P) (lf (o73 P)) (lf (o105 P))) (nd (o57 P) (lf (o89 P)) (lf (o121 P))))) (nd (o13 P) (nd (o21 P) (nd (o37 P) (nd (o69 P) (lf (o133 P)) .nil) (lf (o101 P))) (nd (o53 P) (lf (o85 P)) (lf (o117 P)))) (nd (o29 P) (nd (o45 P) (lf (o77 P)) (lf (o109 P))) (nd (o61 P) (lf (o93 P)) (lf (o125 P))))))) (nd (boot_o_2 P) (nd (boot_o_4 P) (nd (boot_o_8 P) (nd (o16 P) (nd (o32 P) (nd (o64 P) (lf (o128 P)) .nil) (lf (o96 P))) (nd (o48 P) (lf (o80 P)) (lf (o112 P)))) (nd (o24 P) (nd (o40 P) (lf (o72 P)) (lf (o104 P))) (nd (o56 P) (lf (o88 P)) (lf (o120 P))))) (nd (o12_6 P) (nd (o20 P) (nd (o36 P) (nd (o68 P) (lf (o132 P)) .nil) (lf (o100 P))) (nd (o52 P) (lf (o84 P)) (lf (o116 P)))) (nd (o28 P) (nd (o44 P) (lf (o76 P)) (lf (o108 P))) (nd (o60 P) (lf (o92 P)) (lf (o124 P)))))) (nd (boot_o_6 P) (nd (boot_o_10 P) (nd (o18 P) (nd (o34 P) (nd (o66 P) (lf (o130 P)) .nil) (lf (o98 P))) (nd (o50 P) (lf (o82 P)) (lf (o114 P)))) (nd (o26 P) (nd (o42 P) (lf (o74 P)) (lf (o106 P))) (nd (o58 P) (lf (o90 P)) (lf (o122 P))))) (nd (o14 P) (nd (o22 P) (nd (o38 P) (nd (o70 P) (lf (o134 P)) .nil) (lf (o102 P))) (nd (o54 P) (lf (o86 P)) (lf (o118 P)))) (nd (o30 P) (nd (o46 P) (lf (o78 P)) (lf (o110 P))) (nd (o62 P) (lf (o94 P)) (lf (o126 P))))))))
noncomputable def o3_8 : PO := fun P => ⟨(.type "dict"), none, (.dict #[ke P "__name__" 165 (.str "gluepage.mathlist" 342), ke P "__doc__" 166 .none, ke P "__package__" 167 .none, ke P "__loader__" 168 (.builtin "__main__.__loader__#opaque"), ke P "__spec__" 169 .none, ke P "__annotations__" 170 (.ref 6), ke P "__builtins__" 171 (.ref 4), ke P "__file__" 173 (.str "/claim/cut.py" 172), ke P "__cached__" 174 .none, ke P "_wall" 193 (.ref 21), ke P "PageError" 223 (.ref 39), ke P "BadArgument" 239 (.ref 52), ke P "Overflow" 255 (.ref 64), ke P "BadMath" 271 (.ref 76), ke P "BadFont" 287 (.ref 88), ke P "TooMuch" 303 (.ref 100), ke P "MAX_DIMEN" 311 (.int 1073741823 310), ke P "is_whole" 320 (.ref 109), ke P "check_whole" 327 (.ref 116), ke P "check_dimen" 334 (.ref 123), ke P "halved" 341 (.ref 130), ke P "DELIM1" 347 (.int 20 344), ke P "DELIM2" 348 (.int 21 345), ke P "AXIS_HEIGHT" 349 (.int 22 346), ke P "check_math_char" 357 (.ref 141), ke P "check_delimiter" 364 (.ref 148)] 26), #[]⟩
noncomputable def o12_7 : PO := fun _ => ⟨.none, none, (.fields #[(.int 1 0), (.int 0 0), (.ref 20), (.int 5 0), (.int 0 0), (.ref 27), (.int 9 0), (.int 0 0), (.ref 48), (.int 11 0), (.int 0 0), (.ref 60), (.int 13 0), (.int 0 0), (.ref 72), (.int 15 0), (.int 0 0), (.ref 84), (.int 17 0), (.int 0 0), (.ref 96), (.int 21 0), (.int 0 0), (.ref 108), (.int 23 0), (.int 0 0), (.ref 115), (.int 27 0), (.int 0 0), (.ref 122), (.int 31 0), (.int 0 0), (.ref 129), (.int 35 0), (.int 0 0), (.ref 140), (.int 38 0), (.int 0 0), (.ref 147)]), #[]⟩
noncomputable def o135 : PO := fun _ => ⟨(.type "tuple"), none, (.seq #[] 0), #[]⟩
noncomputable def o136 : PO := fun _ => ⟨.none, none, (.fields #[]), #[]⟩
noncomputable def o137 : PO := fun _ => ⟨(.type "tuple"), none, (.seq #[(.str "family" 353), (.str "code" 354)] 0), #[]⟩
noncomputable def o138 : PO := fun _ => ⟨(.type "tuple"), none, (.seq #[] 0), #[]⟩
noncomputable def o139 : PO := fun _ => ⟨.none, none, (.func (fnD (stN 16) "check_math_char" .none .none .none .none .none .none 0 0)), #[]⟩
noncomputable def o140 : PO := fun _ => ⟨(.type "code"), none, (.fields #[(.str "check_math_char" 350), (.str "check_math_char" 351), (.str "/claim/cut.py" 352), (.int 35 0), (.int 2 0), (.int 0 0), (.int 0 0), (.int 3 0), (.ref 135), (.bool true), (.int 181 0), (.ref 136), .none, (.ref 137), (.ref 138), (.ref 139), (.int 355 0), (.int 35 0), (.str "/claim/cut.py" 356)]), #[]⟩
noncomputable def o141 : PO := fun _ => ⟨(.type "function"), none, (.func (fnD (stN 16) "check_math_char" .none .none .none (.str "gluepage.mathlist" 342) (.ref 140) .none 3 0)), #[]⟩
noncomputable def o142 : PO := fun _ => ⟨(.type "tuple"), none, (.seq #[] 0), #[]⟩
noncomputable def o143 : PO := fun _ => ⟨.none, none, (.fields #[]), #[]⟩
noncomputable def o144 : PO := fun _ => ⟨(.type "tuple"), none, (.seq #[(.str "delimiter" 361)] 0), #[]⟩
noncomputable def o145 : PO := fun _ => ⟨(.type "tuple"), none, (.seq #[] 0), #[]⟩
noncomputable def o146 : PO := fun _ => ⟨.none, none, (.func (fnD (stN 17) "check_delimiter" .none .none .none .none .none .none 0 0)), #[]⟩
noncomputable def o147 : PO := fun _ => ⟨(.type "code"), none, (.fields #[(.str "check_delimiter" 358), (.str "check_delimiter" 359), (.str "/claim/cut.py" 360), (.int 38 0), (.int 1 0), (.int 0 0), (.int 0 0), (.int 3 0), (.ref 142), (.bool true), (.int 181 0), (.ref 143), .none, (.ref 144), (.ref 145), (.ref 146), (.int 362 0), (.int 38 0), (.str "/claim/cut.py" 363)]), #[]⟩
noncomputable def o148 : PO := fun _ => ⟨(.type "function"), none, (.func (fnD (stN 17) "check_delimiter" .none .none .none (.str "gluepage.mathlist" 342) (.ref 147) .none 3 0)), #[]⟩
noncomputable def T7 : PB := fun P => (nd (boot_o_0 P) (nd (boot_o_1 P) (nd (o3_8 P) (nd (boot_o_7 P) (nd (o15 P) (nd (o31 P) (nd (o63 P) (lf (o127 P)) .nil) (lf (o95 P))) (nd (o47 P) (nd (o79 P) (lf (o143 P)) .nil) (lf (o111 P)))) (nd (o23 P) (nd (o39_5 P) (nd (o71 P) (lf (o135 P)) .nil) (lf (o103 P))) (nd (o55 P) (lf (o87 P)) (lf (o119 P))))) (nd (o11 P) (nd (o19 P) (nd (o35 P) (nd (o67 P) (lf (o131 P)) .nil) (lf (o99 P))) (nd (o51 P) (nd (o83 P) (lf (o147 P)) .nil) (lf (o115 P)))) (nd (o27 P) (nd (o43 P) (nd (o75 P) (lf (o139 P)) .nil) (lf (o107 P))) (nd (o59 P) (lf (o91 P)) (lf (o123 P)))))) (nd (boot_o_5 P) (nd (boot_o_9 P) (nd (o17 P) (nd (o33 P) (nd (o65 P) (lf (o129 P)) .nil) (lf (o97 P))) (nd (o49 P) (nd (o81 P) (lf (o145 P)) .nil) (lf (o113 P)))) (nd (o25 P) (nd (o41 P) (nd (o73 P) (lf (o137 P)) .nil) (lf (o105 P))) (nd (o57 P) (lf (o89 P)) (lf (o121 P))))) (nd (o13 P) (nd (o21 P) (nd (o37 P) (nd (o69 P) (lf (o133 P)) .nil) (lf (o101 P))) (nd (o53 P) (lf (o85 P)) (lf (o117 P)))) (nd (o29 P) (nd (o45 P) (nd (o77 P) (lf (o141 P)) .nil) (lf (o109 P))) (nd (o61 P) (lf (o93 P)) (lf (o125 P))))))) (nd (boot_o_2 P) (nd (boot_o_4 P) (nd (boot_o_8 P) (nd (o16 P) (nd (o32 P) (nd (o64 P) (lf (o128 P)) .nil) (lf (o96 P))) (nd (o48 P) (nd (o80 P) (lf (o144 P)) .nil) (lf (o112 P)))) (nd (o24 P) (nd (o40 P) (nd (o72 P) (lf (o136 P)) .nil) (lf (o104 P))) (nd (o56 P) (lf (o88 P)) (lf (o120 P))))) (nd (o12_7 P) (nd (o20 P) (nd (o36 P) (nd (o68 P) (lf (o132 P)) .nil) (lf (o100 P))) (nd (o52 P) (nd (o84 P) (lf (o148 P)) .nil) (lf (o116 P)))) (nd (o28 P) (nd (o44 P) (nd (o76 P) (lf (o140 P)) .nil) (lf (o108 P))) (nd (o60 P) (lf (o92 P)) (lf (o124 P)))))) (nd (boot_o_6 P) (nd (boot_o_10 P) (nd (o18 P) (nd (o34 P) (nd (o66 P) (lf (o130 P)) .nil) (lf (o98 P))) (nd (o50 P) (nd (o82 P) (lf (o146 P)) .nil) (lf (o114 P)))) (nd (o26 P) (nd (o42 P) (nd (o74 P) (lf (o138 P)) .nil) (lf (o106 P))) (nd (o58 P) (lf (o90 P)) (lf (o122 P))))) (nd (o14 P) (nd (o22 P) (nd (o38 P) (nd (o70 P) (lf (o134 P)) .nil) (lf (o102 P))) (nd (o54 P) (lf (o86 P)) (lf (o118 P)))) (nd (o30 P) (nd (o46 P) (nd (o78 P) (lf (o142 P)) .nil) (lf (o110 P))) (nd (o62 P) (lf (o94 P)) (lf (o126 P))))))))
noncomputable def o3_9 : PO := fun P => ⟨(.type "dict"), none, (.dict #[ke P "__name__" 165 (.str "gluepage.nodes" 438), ke P "__doc__" 166 .none, ke P "__package__" 167 .none, ke P "__loader__" 168 (.builtin "__main__.__loader__#opaque"), ke P "__spec__" 169 .none, ke P "__annotations__" 170 (.ref 6), ke P "__builtins__" 171 (.ref 4), ke P "__file__" 173 (.str "/claim/cut.py" 172), ke P "__cached__" 174 .none, ke P "_wall" 193 (.ref 21), ke P "PageError" 223 (.ref 39), ke P "BadArgument" 239 (.ref 52), ke P "Overflow" 255 (.ref 64), ke P "BadMath" 271 (.ref 76), ke P "BadFont" 287 (.ref 88), ke P "TooMuch" 303 (.ref 100), ke P "MAX_DIMEN" 311 (.int 1073741823 310), ke P "is_whole" 320 (.ref 109), ke P "check_whole" 327 (.ref 116), ke P "check_dimen" 334 (.ref 123), ke P "halved" 341 (.ref 130), ke P "DELIM1" 347 (.int 20 344), ke P "DELIM2" 348 (.int 21 345), ke P "AXIS_HEIGHT" 349 (.int 22 346), ke P "check_math_char" 357 (.ref 141), ke P "check_delimiter" 364 (.ref 148), ke P "Families" 437 (.ref 200)] 27), #[]⟩
noncomputable def o12_8 : PO := fun _ => ⟨.none, none, (.fields #[(.int 1 0), (.int 0 0), (.ref 20), (.int 5 0), (.int 0 0), (.ref 27), (.int 9 0), (.int 0 0), (.ref 48), (.int 11 0), (.int 0 0), (.ref 60), (.int 13 0), (.int 0 0), (.ref 72), (.int 15 0), (.int 0 0), (.ref 84), (.int 17 0), (.int 0 0), (.ref 96), (.int 21 0), (.int 0 0), (.ref 108), (.int 23 0), (.int 0 0), (.ref 115), (.int 27 0), (.int 0 0), (.ref 122), (.int 31 0), (.int 0 0), (.ref 129), (.int 35 0), (.int 0 0), (.ref 140), (.int 38 0), (.int 0 0), (.ref 147), (.int 44 0), (.int 0 0), (.ref 154)]), #[]⟩
noncomputable def o149 : PO := fun _ => ⟨(.type "tuple"), none, (.seq #[] 0), #[]⟩
noncomputable def o150 : PO := fun _ => ⟨(.type "builtin_function_or_method"), none, (.fields #[(.builtin "type.__prepare__"), (.type "type")]), #[]⟩
noncomputable def o151 : PO := fun P => ⟨(.type "dict"), none, (.dict #[ke P "__module__" 372 (.str "gluepage.mathlist" 342), ke P "__qualname__" 374 (.str "Families" 373), ke P "__firstlineno__" 376 (.int 44 375), ke P "__init__" 384 (.ref 162), ke P "has" 393 (.ref 169), ke P "font" 402 (.ref 176), ke P "symbol" 411 (.ref 183), ke P "extension" 420 (.ref 190), ke P "check" 428 (.ref 197), ke P "__static_attributes__" 430 (.ref 198)] 10), #[]⟩
noncomputable def o152 : PO := fun _ => ⟨(.type "tuple"), none, (.seq #[] 0), #[]⟩
noncomputable def o153 : PO := fun _ => ⟨.none, none, (.fields #[(.int 46 0), (.int 4 0), (.ref 161), (.int 49 0), (.int 4 0), (.ref 168), (.int 54 0), (.int 4 0), (.ref 175), (.int 59 0), (.int 4 0), (.ref 182), (.int 62 0), (.int 4 0), (.ref 189), (.int 65 0), (.int 4 0), (.ref 196)]), #[]⟩
noncomputable def o154 : PO := fun _ => ⟨(.type "code"), none, (.fields #[(.str "Families" 367), (.str "Families" 368), (.str "/claim/cut.py" 369), (.int 44 0), (.int 0 0), (.int 0 0), (.int 0 0), (.int 0 0), (.ref 152), (.bool false), (.int 181 0), (.ref 153), .none, .none, .none, .none, (.int 370 0), (.int 44 0), (.str "/claim/cut.py" 371)]), #[]⟩
noncomputable def o155 : PO := fun _ => ⟨(.type "frame"), none, .plain, #[(some (.ref 154)), (some (.ref 3)), (some (.ref 151)), none, (some (.str "gluepage.mathlist" 342)), none, (some (.ref 0))]⟩
noncomputable def o156 : PO := fun _ => ⟨(.type "tuple"), none, (.seq #[] 0), #[]⟩
noncomputable def o157 : PO := fun _ => ⟨.none, none, (.fields #[]), #[]⟩
noncomputable def o158 : PO := fun _ => ⟨(.type "tuple"), none, (.seq #[(.str "self" 380), (.str "rows" 381)] 0), #[]⟩
noncomputable def o159 : PO := fun _ => ⟨(.type "tuple"), none, (.seq #[] 0), #[]⟩
noncomputable def o160 : PO := fun _ => ⟨.none, none, (.func (fnD (inC 18 0) "Families.__init__" .none .none .none .none .none .none 0 0)), #[]⟩
noncomputable def o161 : PO := fun _ => ⟨(.type "code"), none, (.fields #[(.str "__init__" 377), (.str "Families.__init__" 378), (.str "/claim/cut.py" 379), (.int 46 0), (.int 2 0), (.int 0 0), (.int 0 0), (.int 3 0), (.ref 156), (.bool true), (.int 181 0), (.ref 157), .none, (.ref 158), (.ref 159), (.ref 160), (.int 382 0), (.int 46 0), (.str "/claim/cut.py" 383)]), #[]⟩
noncomputable def o162 : PO := fun _ => ⟨(.type "function"), none, (.func (fnD (inC 18 0) "Families.__init__" .none .none .none (.str "gluepage.mathlist" 342) (.ref 161) .none 3 0)), #[]⟩
noncomputable def o163 : PO := fun _ => ⟨(.type "tuple"), none, (.seq #[] 0), #[]⟩
noncomputable def o164 : PO := fun _ => ⟨.none, none, (.fields #[]), #[]⟩
noncomputable def o165 : PO := fun _ => ⟨(.type "tuple"), none, (.seq #[(.str "self" 388), (.str "family" 389), (.str "size" 390)] 0), #[]⟩
noncomputable def o166 : PO := fun _ => ⟨(.type "tuple"), none, (.seq #[] 0), #[]⟩
noncomputable def o167 : PO := fun _ => ⟨.none, none, (.func (fnD (inC 18 1) "Families.has" .none .none .none .none .none .none 0 0)), #[]⟩
noncomputable def o168 : PO := fun _ => ⟨(.type "code"), none, (.fields #[(.str "has" 385), (.str "Families.has" 386), (.str "/claim/cut.py" 387), (.int 49 0), (.int 3 0), (.int 0 0), (.int 0 0), (.int 3 0), (.ref 163), (.bool true), (.int 181 0), (.ref 164), .none, (.ref 165), (.ref 166), (.ref 167), (.int 391 0), (.int 49 0), (.str "/claim/cut.py" 392)]), #[]⟩
noncomputable def o169 : PO := fun _ => ⟨(.type "function"), none, (.func (fnD (inC 18 1) "Families.has" .none .none .none (.str "gluepage.mathlist" 342) (.ref 168) .none 3 0)), #[]⟩
noncomputable def o170 : PO := fun _ => ⟨(.type "tuple"), none, (.seq #[] 0), #[]⟩
noncomputable def o171 : PO := fun _ => ⟨.none, none, (.fields #[]), #[]⟩
noncomputable def o172 : PO := fun _ => ⟨(.type "tuple"), none, (.seq #[(.str "self" 397), (.str "family" 398), (.str "size" 399)] 0), #[]⟩
noncomputable def o173 : PO := fun _ => ⟨(.type "tuple"), none, (.seq #[] 0), #[]⟩
noncomputable def o174 : PO := fun _ => ⟨.none, none, (.func (fnD (inC 18 2) "Families.font" .none .none .none .none .none .none 0 0)), #[]⟩
noncomputable def o175 : PO := fun _ => ⟨(.type "code"), none, (.fields #[(.str "font" 394), (.str "Families.font" 395), (.str "/claim/cut.py" 396), (.int 54 0), (.int 3 0), (.int 0 0), (.int 0 0), (.int 3 0), (.ref 170), (.bool true), (.int 181 0), (.ref 171), .none, (.ref 172), (.ref 173), (.ref 174), (.int 400 0), (.int 54 0), (.str "/claim/cut.py" 401)]), #[]⟩
noncomputable def o176 : PO := fun _ => ⟨(.type "function"), none, (.func (fnD (inC 18 2) "Families.font" .none .none .none (.str "gluepage.mathlist" 342) (.ref 175) .none 3 0)), #[]⟩
noncomputable def o177 : PO := fun _ => ⟨(.type "tuple"), none, (.seq #[] 0), #[]⟩
noncomputable def o178 : PO := fun _ => ⟨.none, none, (.fields #[]), #[]⟩
noncomputable def o179 : PO := fun _ => ⟨(.type "tuple"), none, (.seq #[(.str "self" 406), (.str "size" 407), (.str "number" 408)] 0), #[]⟩
noncomputable def o180 : PO := fun _ => ⟨(.type "tuple"), none, (.seq #[] 0), #[]⟩
noncomputable def o181 : PO := fun _ => ⟨.none, none, (.func (fnD (inC 18 3) "Families.symbol" .none .none .none .none .none .none 0 0)), #[]⟩
noncomputable def o182 : PO := fun _ => ⟨(.type "code"), none, (.fields #[(.str "symbol" 403), (.str "Families.symbol" 404), (.str "/claim/cut.py" 405), (.int 59 0), (.int 3 0), (.int 0 0), (.int 0 0), (.int 3 0), (.ref 177), (.bool true), (.int 181 0), (.ref 178), .none, (.ref 179), (.ref 180), (.ref 181), (.int 409 0), (.int 59 0), (.str "/claim/cut.py" 410)]), #[]⟩
noncomputable def o183 : PO := fun _ => ⟨(.type "function"), none, (.func (fnD (inC 18 3) "Families.symbol" .none .none .none (.str "gluepage.mathlist" 342) (.ref 182) .none 3 0)), #[]⟩
noncomputable def o184 : PO := fun _ => ⟨(.type "tuple"), none, (.seq #[] 0), #[]⟩
noncomputable def o185 : PO := fun _ => ⟨.none, none, (.fields #[]), #[]⟩
noncomputable def o186 : PO := fun _ => ⟨(.type "tuple"), none, (.seq #[(.str "self" 415), (.str "size" 416), (.str "number" 417)] 0), #[]⟩
noncomputable def o187 : PO := fun _ => ⟨(.type "tuple"), none, (.seq #[] 0), #[]⟩
noncomputable def o188 : PO := fun _ => ⟨.none, none, (.func (fnD (inC 18 4) "Families.extension" .none .none .none .none .none .none 0 0)), #[]⟩
noncomputable def o189 : PO := fun _ => ⟨(.type "code"), none, (.fields #[(.str "extension" 412), (.str "Families.extension" 413), (.str "/claim/cut.py" 414), (.int 62 0), (.int 3 0), (.int 0 0), (.int 0 0), (.int 3 0), (.ref 184), (.bool true), (.int 181 0), (.ref 185), .none, (.ref 186), (.ref 187), (.ref 188), (.int 418 0), (.int 62 0), (.str "/claim/cut.py" 419)]), #[]⟩
noncomputable def o190 : PO := fun _ => ⟨(.type "function"), none, (.func (fnD (inC 18 4) "Families.extension" .none .none .none (.str "gluepage.mathlist" 342) (.ref 189) .none 3 0)), #[]⟩
noncomputable def o191 : PO := fun _ => ⟨(.type "tuple"), none, (.seq #[] 0), #[]⟩
noncomputable def o192 : PO := fun _ => ⟨.none, none, (.fields #[]), #[]⟩
noncomputable def o193 : PO := fun _ => ⟨(.type "tuple"), none, (.seq #[(.str "self" 424), (.str "size" 425)] 0), #[]⟩
noncomputable def o194 : PO := fun _ => ⟨(.type "tuple"), none, (.seq #[] 0), #[]⟩
noncomputable def o195 : PO := fun _ => ⟨.none, none, (.func (fnD (inC 18 5) "Families.check" .none .none .none .none .none .none 0 0)), #[]⟩
noncomputable def o196 : PO := fun _ => ⟨(.type "code"), none, (.fields #[(.str "check" 421), (.str "Families.check" 422), (.str "/claim/cut.py" 423), (.int 65 0), (.int 1 0), (.int 0 0), (.int 0 0), (.int 3 0), (.ref 191), (.bool true), (.int 181 0), (.ref 192), .none, (.ref 193), (.ref 194), (.ref 195), (.int 426 0), (.int 65 0), (.str "/claim/cut.py" 427)]), #[]⟩
noncomputable def o197 : PO := fun _ => ⟨(.type "function"), none, (.func (fnD (inC 18 5) "Families.check" .none .none .none (.str "gluepage.mathlist" 342) (.ref 196) .none 3 0)), #[]⟩
noncomputable def o198 : PO := fun _ => ⟨(.type "tuple"), none, (.seq #[(.str "rows" 429)] 0), #[]⟩
noncomputable def o199 : PO := fun P => ⟨(.type "dict"), none, (.dict #[ke P "__module__" 372 (.str "gluepage.mathlist" 342), ke P "__firstlineno__" 376 (.int 44 375), ke P "__init__" 384 (.ref 162), ke P "has" 393 (.ref 169), ke P "font" 402 (.ref 176), ke P "symbol" 411 (.ref 183), ke P "extension" 420 (.ref 190), ke P "check" 428 (.ref 197), ke P "__static_attributes__" 430 (.ref 198), ke P "__dict__" 432 (.ref 201), ke P "__weakref__" 434 (.ref 202), ke P "__doc__" 435 .none] 4), #[]⟩
noncomputable def o200 : PO := fun _ => ⟨(.type "type"), none, (.cls ⟨"Families", [(.type "object")], [(.ref 200), (.type "object")], 199, "Families", true, [], [], false, none, false⟩), #[none, none, (some (.str "Families" 365)), (some (.str "Families" 373)), (some (.builtin "object.__new__")), (some (.bool true))]⟩
noncomputable def o201 : PO := fun _ => ⟨(.type "getset_descriptor"), none, (.fields #[(.str "__dict__" 431), (.ref 200), (.builtin "function.__dict__"), (.builtin "function.__dict__#set")]), #[]⟩
noncomputable def o202 : PO := fun _ => ⟨(.type "getset_descriptor"), none, (.fields #[(.str "__weakref__" 433), (.ref 200), (.builtin "ExceptionGroup.__weakref__"), .none]), #[]⟩
noncomputable def o203 : PO := fun _ => ⟨(.type "super"), none, (.fields #[(.ref 200), (.ref 200), (.ref 200)]), #[]⟩
noncomputable def o204 : PO := fun _ => ⟨(.type "builtin_function_or_method"), none, (.fields #[(.builtin "object.__init_subclass__"), (.ref 200)]), #[]⟩
noncomputable def T8 : PB := fun P => (nd (boot_o_0 P) (nd (boot_o_1 P) (nd (o3_9 P) (nd (boot_o_7 P) (nd (o15 P) (nd (o31 P) (nd (o63 P) (lf (o127 P)) (lf (o191 P))) (nd (o95 P) (lf (o159 P)) .nil)) (nd (o47 P) (nd (o79 P) (lf (o143 P)) .nil) (nd (o111 P) (lf (o175 P)) .nil))) (nd (o23 P) (nd (o39_5 P) (nd (o71 P) (lf (o135 P)) (lf (o199 P))) (nd (o103 P) (lf (o167 P)) .nil)) (nd (o55 P) (nd (o87 P) (lf (o151 P)) .nil) (nd (o119 P) (lf (o183 P)) .nil)))) (nd (o11 P) (nd (o19 P) (nd (o35 P) (nd (o67 P) (lf (o131 P)) (lf (o195 P))) (nd (o99 P) (lf (o163 P)) .nil)) (nd (o51 P) (nd (o83 P) (lf (o147 P)) .nil) (nd (o115 P) (lf (o179 P)) .nil))) (nd (o27 P) (nd (o43 P) (nd (o75 P) (lf (o139 P)) (lf (o203 P))) (nd (o107 P) (lf (o171 P)) .nil)) (nd (o59 P) (nd (o91 P) (lf (o155 P)) .nil) (nd (o123 P) (lf (o187 P)) .nil))))) (nd (boot_o_5 P) (nd (boot_o_9 P) (nd (o17 P) (nd (o33 P) (nd (o65 P) (lf (o129 P)) (lf (o193 P))) (nd (o97 P) (lf (o161 P)) .nil)) (nd (o49 P) (nd (o81 P) (lf (o145 P)) .nil) (nd (o113 P) (lf (o177 P)) .nil))) (nd (o25 P) (nd (o41 P) (nd (o73 P) (lf (o137 P)) (lf (o201 P))) (nd (o105 P) (lf (o169 P)) .nil)) (nd (o57 P) (nd (o89 P) (lf (o153 P)) .nil) (nd (o121 P) (lf (o185 P)) .nil)))) (nd (o13 P) (nd (o21 P) (nd (o37 P) (nd (o69 P) (lf (o133 P)) (lf (o197 P))) (nd (o101 P) (lf (o165 P)) .nil)) (nd (o53 P) (nd (o85 P) (lf (o149 P)) .nil) (nd (o117 P) (lf (o181 P)) .nil))) (nd (o29 P) (nd (o45 P) (nd (o77 P) (lf (o141 P)) .nil) (nd (o109 P) (lf (o173 P)) .nil)) (nd (o61 P) (nd (o93 P) (lf (o157 P)) .nil) (nd (o125 P) (lf (o189 P)) .nil)))))) (nd (boot_o_2 P) (nd (boot_o_4 P) (nd (boot_o_8 P) (nd (o16 P) (nd (o32 P) (nd (o64 P) (lf (o128 P)) (lf (o192 P))) (nd (o96 P) (lf (o160 P)) .nil)) (nd (o48 P) (nd (o80 P) (lf (o144 P)) .nil) (nd (o112 P) (lf (o176 P)) .nil))) (nd (o24 P) (nd (o40 P) (nd (o72 P) (lf (o136 P)) (lf (o200 P))) (nd (o104 P) (lf (o168 P)) .nil)) (nd (o56 P) (nd (o88 P) (lf (o152 P)) .nil) (nd (o120 P) (lf (o184 P)) .nil)))) (nd (o12_8 P) (nd (o20 P) (nd (o36 P) (nd (o68 P) (lf (o132 P)) (lf (o196 P))) (nd (o100 P) (lf (o164 P)) .nil)) (nd (o52 P) (nd (o84 P) (lf (o148 P)) .nil) (nd (o116 P) (lf (o180 P)) .nil))) (nd (o28 P) (nd (o44 P) (nd (o76 P) (lf (o140 P)) (lf (o204 P))) (nd (o108 P) (lf (o172 P)) .nil)) (nd (o60 P) (nd (o92 P) (lf (o156 P)) .nil) (nd (o124 P) (lf (o188 P)) .nil))))) (nd (boot_o_6 P) (nd (boot_o_10 P) (nd (o18 P) (nd (o34 P) (nd (o66 P) (lf (o130 P)) (lf (o194 P))) (nd (o98 P) (lf (o162 P)) .nil)) (nd (o50 P) (nd (o82 P) (lf (o146 P)) .nil) (nd (o114 P) (lf (o178 P)) .nil))) (nd (o26 P) (nd (o42 P) (nd (o74 P) (lf (o138 P)) (lf (o202 P))) (nd (o106 P) (lf (o170 P)) .nil)) (nd (o58 P) (nd (o90 P) (lf (o154 P)) .nil) (nd (o122 P) (lf (o186 P)) .nil)))) (nd (o14 P) (nd (o22 P) (nd (o38 P) (nd (o70 P) (lf (o134 P)) (lf (o198 P))) (nd (o102 P) (lf (o166 P)) .nil)) (nd (o54 P) (nd (o86 P) (lf (o150 P)) .nil) (nd (o118 P) (lf (o182 P)) .nil))) (nd (o30 P) (nd (o46 P) (nd (o78 P) (lf (o142 P)) .nil) (nd (o110 P) (lf (o174 P)) .nil)) (nd (o62 P) (nd (o94 P) (lf (o158 P)) .nil) (nd (o126 P) (lf (o190 P)) .nil)))))))
noncomputable def o3_10 : PO := fun P => ⟨(.type "dict"), none, (.dict #[ke P "__name__" 165 (.str "gluepage.nodes" 438), ke P "__doc__" 166 .none, ke P "__package__" 167 .none, ke P "__loader__" 168 (.builtin "__main__.__loader__#opaque"), ke P "__spec__" 169 .none, ke P "__annotations__" 170 (.ref 6), ke P "__builtins__" 171 (.ref 4), ke P "__file__" 173 (.str "/claim/cut.py" 172), ke P "__cached__" 174 .none, ke P "_wall" 193 (.ref 21), ke P "PageError" 223 (.ref 39), ke P "BadArgument" 239 (.ref 52), ke P "Overflow" 255 (.ref 64), ke P "BadMath" 271 (.ref 76), ke P "BadFont" 287 (.ref 88), ke P "TooMuch" 303 (.ref 100), ke P "MAX_DIMEN" 311 (.int 1073741823 310), ke P "is_whole" 320 (.ref 109), ke P "check_whole" 327 (.ref 116), ke P "check_dimen" 334 (.ref 123), ke P "halved" 341 (.ref 130), ke P "DELIM1" 347 (.int 20 344), ke P "DELIM2" 348 (.int 21 345), ke P "AXIS_HEIGHT" 349 (.int 22 346), ke P "check_math_char" 357 (.ref 141), ke P "check_delimiter" 364 (.ref 148), ke P "Families" 437 (.ref 200), ke P "CHAR" 448 (.int 0 440), ke P "LIGATURE" 449 (.int 1 441), ke P "HBOX" 450 (.int 2 442), ke P "VBOX" 451 (.int 3 443), ke P "RULE" 452 (.int 4 444), ke P "KERN" 453 (.int 5 445), ke P "GLUE" 454 (.int 6 446), ke P "PENALTY" 455 (.int 7 447), ke P "NATURAL" 459 (.int 0 456), ke P "STRETCHED" 460 (.int 1 457), ke P "SHRUNK" 461 (.int 2 458)] 38), #[]⟩
noncomputable def o205 : PO := fun _ => ⟨(.type "tuple"), none, (.seq #[(.int 0 440), (.int 1 441), (.int 2 442), (.int 3 443), (.int 4 444), (.int 5 445), (.int 6 446), (.int 7 447)] 0), #[]⟩
noncomputable def o206 : PO := fun _ => ⟨(.type "tuple_iterator"), none, (.fields #[.none, (.int 8 0)]), #[]⟩
noncomputable def o207 : PO := fun _ => ⟨(.type "tuple"), none, (.seq #[] 0), #[]⟩
noncomputable def o208 : PO := fun _ => ⟨(.type "StopIteration"), none, (.fields #[(.ref 207), .none, .none, .none, (.bool false), .none]), #[]⟩
noncomputable def o209 : PO := fun _ => ⟨(.type "tuple"), none, (.seq #[(.int 0 456), (.int 1 457), (.int 2 458)] 0), #[]⟩
noncomputable def o210 : PO := fun _ => ⟨(.type "tuple_iterator"), none, (.fields #[.none, (.int 3 0)]), #[]⟩
noncomputable def o211 : PO := fun _ => ⟨(.type "tuple"), none, (.seq #[] 0), #[]⟩
noncomputable def o212 : PO := fun _ => ⟨(.type "StopIteration"), none, (.fields #[(.ref 211), .none, .none, .none, (.bool false), .none]), #[]⟩
noncomputable def T9 : PB := fun P => (nd (boot_o_0 P) (nd (boot_o_1 P) (nd (o3_10 P) (nd (boot_o_7 P) (nd (o15 P) (nd (o31 P) (nd (o63 P) (lf (o127 P)) (lf (o191 P))) (nd (o95 P) (lf (o159 P)) .nil)) (nd (o47 P) (nd (o79 P) (lf (o143 P)) (lf (o207 P))) (nd (o111 P) (lf (o175 P)) .nil))) (nd (o23 P) (nd (o39_5 P) (nd (o71 P) (lf (o135 P)) (lf (o199 P))) (nd (o103 P) (lf (o167 P)) .nil)) (nd (o55 P) (nd (o87 P) (lf (o151 P)) .nil) (nd (o119 P) (lf (o183 P)) .nil)))) (nd (o11 P) (nd (o19 P) (nd (o35 P) (nd (o67 P) (lf (o131 P)) (lf (o195 P))) (nd (o99 P) (lf (o163 P)) .nil)) (nd (o51 P) (nd (o83 P) (lf (o147 P)) (lf (o211 P))) (nd (o115 P) (lf (o179 P)) .nil))) (nd (o27 P) (nd (o43 P) (nd (o75 P) (lf (o139 P)) (lf (o203 P))) (nd (o107 P) (lf (o171 P)) .nil)) (nd (o59 P) (nd (o91 P) (lf (o155 P)) .nil) (nd (o123 P) (lf (o187 P)) .nil))))) (nd (boot_o_5 P) (nd (boot_o_9 P) (nd (o17 P) (nd (o33 P) (nd (o65 P) (lf (o129 P)) (lf (o193 P))) (nd (o97 P) (lf (o161 P)) .nil)) (nd (o49 P) (nd (o81 P) (lf (o145 P)) (lf (o209 P))) (nd (o113 P) (lf (o177 P)) .nil))) (nd (o25 P) (nd (o41 P) (nd (o73 P) (lf (o137 P)) (lf (o201 P))) (nd (o105 P) (lf (o169 P)) .nil)) (nd (o57 P) (nd (o89 P) (lf (o153 P)) .nil) (nd (o121 P) (lf (o185 P)) .nil)))) (nd (o13 P) (nd (o21 P) (nd (o37 P) (nd (o69 P) (lf (o133 P)) (lf (o197 P))) (nd (o101 P) (lf (o165 P)) .nil)) (nd (o53 P) (nd (o85 P) (lf (o149 P)) .nil) (nd (o117 P) (lf (o181 P)) .nil))) (nd (o29 P) (nd (o45 P) (nd (o77 P) (lf (o141 P)) (lf (o205 P))) (nd (o109 P) (lf (o173 P)) .nil)) (nd (o61 P) (nd (o93 P) (lf (o157 P)) .nil) (nd (o125 P) (lf (o189 P)) .nil)))))) (nd (boot_o_2 P) (nd (boot_o_4 P) (nd (boot_o_8 P) (nd (o16 P) (nd (o32 P) (nd (o64 P) (lf (o128 P)) (lf (o192 P))) (nd (o96 P) (lf (o160 P)) .nil)) (nd (o48 P) (nd (o80 P) (lf (o144 P)) (lf (o208 P))) (nd (o112 P) (lf (o176 P)) .nil))) (nd (o24 P) (nd (o40 P) (nd (o72 P) (lf (o136 P)) (lf (o200 P))) (nd (o104 P) (lf (o168 P)) .nil)) (nd (o56 P) (nd (o88 P) (lf (o152 P)) .nil) (nd (o120 P) (lf (o184 P)) .nil)))) (nd (o12_8 P) (nd (o20 P) (nd (o36 P) (nd (o68 P) (lf (o132 P)) (lf (o196 P))) (nd (o100 P) (lf (o164 P)) .nil)) (nd (o52 P) (nd (o84 P) (lf (o148 P)) (lf (o212 P))) (nd (o116 P) (lf (o180 P)) .nil))) (nd (o28 P) (nd (o44 P) (nd (o76 P) (lf (o140 P)) (lf (o204 P))) (nd (o108 P) (lf (o172 P)) .nil)) (nd (o60 P) (nd (o92 P) (lf (o156 P)) .nil) (nd (o124 P) (lf (o188 P)) .nil))))) (nd (boot_o_6 P) (nd (boot_o_10 P) (nd (o18 P) (nd (o34 P) (nd (o66 P) (lf (o130 P)) (lf (o194 P))) (nd (o98 P) (lf (o162 P)) .nil)) (nd (o50 P) (nd (o82 P) (lf (o146 P)) (lf (o210 P))) (nd (o114 P) (lf (o178 P)) .nil))) (nd (o26 P) (nd (o42 P) (nd (o74 P) (lf (o138 P)) (lf (o202 P))) (nd (o106 P) (lf (o170 P)) .nil)) (nd (o58 P) (nd (o90 P) (lf (o154 P)) .nil) (nd (o122 P) (lf (o186 P)) .nil)))) (nd (o14 P) (nd (o22 P) (nd (o38 P) (nd (o70 P) (lf (o134 P)) (lf (o198 P))) (nd (o102 P) (lf (o166 P)) .nil)) (nd (o54 P) (nd (o86 P) (lf (o150 P)) .nil) (nd (o118 P) (lf (o182 P)) .nil))) (nd (o30 P) (nd (o46 P) (nd (o78 P) (lf (o142 P)) (lf (o206 P))) (nd (o110 P) (lf (o174 P)) .nil)) (nd (o62 P) (nd (o94 P) (lf (o158 P)) .nil) (nd (o126 P) (lf (o190 P)) .nil)))))))
noncomputable def o3_11 : PO := fun P => ⟨(.type "dict"), none, (.dict #[ke P "__name__" 165 (.str "gluepage.nodes" 438), ke P "__doc__" 166 .none, ke P "__package__" 167 .none, ke P "__loader__" 168 (.builtin "__main__.__loader__#opaque"), ke P "__spec__" 169 .none, ke P "__annotations__" 170 (.ref 6), ke P "__builtins__" 171 (.ref 4), ke P "__file__" 173 (.str "/claim/cut.py" 172), ke P "__cached__" 174 .none, ke P "_wall" 193 (.ref 21), ke P "PageError" 223 (.ref 39), ke P "BadArgument" 239 (.ref 52), ke P "Overflow" 255 (.ref 64), ke P "BadMath" 271 (.ref 76), ke P "BadFont" 287 (.ref 88), ke P "TooMuch" 303 (.ref 100), ke P "MAX_DIMEN" 311 (.int 1073741823 310), ke P "is_whole" 320 (.ref 109), ke P "check_whole" 327 (.ref 116), ke P "check_dimen" 334 (.ref 123), ke P "halved" 341 (.ref 130), ke P "DELIM1" 347 (.int 20 344), ke P "DELIM2" 348 (.int 21 345), ke P "AXIS_HEIGHT" 349 (.int 22 346), ke P "check_math_char" 357 (.ref 141), ke P "check_delimiter" 364 (.ref 148), ke P "Families" 437 (.ref 200), ke P "CHAR" 448 (.int 0 440), ke P "LIGATURE" 449 (.int 1 441), ke P "HBOX" 450 (.int 2 442), ke P "VBOX" 451 (.int 3 443), ke P "RULE" 452 (.int 4 444), ke P "KERN" 453 (.int 5 445), ke P "GLUE" 454 (.int 6 446), ke P "PENALTY" 455 (.int 7 447), ke P "NATURAL" 459 (.int 0 456), ke P "STRETCHED" 460 (.int 1 457), ke P "SHRUNK" 461 (.int 2 458), ke P "check_code" 468 (.ref 219), ke P "Char" 500 (.ref 236)] 40), #[]⟩
noncomputable def o12_9 : PO := fun _ => ⟨.none, none, (.fields #[(.int 1 0), (.int 0 0), (.ref 20), (.int 5 0), (.int 0 0), (.ref 27), (.int 9 0), (.int 0 0), (.ref 48), (.int 11 0), (.int 0 0), (.ref 60), (.int 13 0), (.int 0 0), (.ref 72), (.int 15 0), (.int 0 0), (.ref 84), (.int 17 0), (.int 0 0), (.ref 96), (.int 21 0), (.int 0 0), (.ref 108), (.int 23 0), (.int 0 0), (.ref 115), (.int 27 0), (.int 0 0), (.ref 122), (.int 31 0), (.int 0 0), (.ref 129), (.int 35 0), (.int 0 0), (.ref 140), (.int 38 0), (.int 0 0), (.ref 147), (.int 44 0), (.int 0 0), (.ref 154), (.int 72 0), (.int 0 0), (.ref 218), (.int 76 0), (.int 0 0), (.ref 225)]), #[]⟩
noncomputable def o213 : PO := fun _ => ⟨(.type "tuple"), none, (.seq #[] 0), #[]⟩
noncomputable def o214 : PO := fun _ => ⟨.none, none, (.fields #[]), #[]⟩
noncomputable def o215 : PO := fun _ => ⟨(.type "tuple"), none, (.seq #[(.str "code" 465)] 0), #[]⟩
noncomputable def o216 : PO := fun _ => ⟨(.type "tuple"), none, (.seq #[] 0), #[]⟩
noncomputable def o217 : PO := fun _ => ⟨.none, none, (.func (fnD (stN 22) "check_code" .none .none .none .none .none .none 0 0)), #[]⟩
noncomputable def o218 : PO := fun _ => ⟨(.type "code"), none, (.fields #[(.str "check_code" 462), (.str "check_code" 463), (.str "/claim/cut.py" 464), (.int 72 0), (.int 1 0), (.int 0 0), (.int 0 0), (.int 3 0), (.ref 213), (.bool true), (.int 181 0), (.ref 214), .none, (.ref 215), (.ref 216), (.ref 217), (.int 466 0), (.int 72 0), (.str "/claim/cut.py" 467)]), #[]⟩
noncomputable def o219 : PO := fun _ => ⟨(.type "function"), none, (.func (fnD (stN 22) "check_code" .none .none .none (.str "gluepage.nodes" 438) (.ref 218) .none 3 0)), #[]⟩
noncomputable def o220 : PO := fun _ => ⟨(.type "tuple"), none, (.seq #[] 0), #[]⟩
noncomputable def o221 : PO := fun _ => ⟨(.type "builtin_function_or_method"), none, (.fields #[(.builtin "type.__prepare__"), (.type "type")]), #[]⟩
noncomputable def o222 : PO := fun P => ⟨(.type "dict"), none, (.dict #[ke P "__module__" 476 (.str "gluepage.nodes" 438), ke P "__qualname__" 478 (.str "Char" 477), ke P "__firstlineno__" 480 (.int 76 479), ke P "kind" 481 (.int 0 440), ke P "__init__" 490 (.ref 233), ke P "__static_attributes__" 493 (.ref 234)] 6), #[]⟩
noncomputable def o223 : PO := fun _ => ⟨(.type "tuple"), none, (.seq #[] 0), #[]⟩
noncomputable def o224 : PO := fun _ => ⟨.none, none, (.fields #[(.int 79 0), (.int 4 0), (.ref 232)]), #[]⟩
noncomputable def o225 : PO := fun _ => ⟨(.type "code"), none, (.fields #[(.str "Char" 471), (.str "Char" 472), (.str "/claim/cut.py" 473), (.int 76 0), (.int 0 0), (.int 0 0), (.int 0 0), (.int 0 0), (.ref 223), (.bool false), (.int 181 0), (.ref 224), .none, .none, .none, .none, (.int 474 0), (.int 76 0), (.str "/claim/cut.py" 475)]), #[]⟩
noncomputable def o226 : PO := fun _ => ⟨(.type "frame"), none, .plain, #[(some (.ref 225)), (some (.ref 3)), (some (.ref 222)), none, (some (.str "gluepage.nodes" 438)), none, (some (.ref 0))]⟩
noncomputable def o227 : PO := fun _ => ⟨(.type "tuple"), none, (.seq #[] 0), #[]⟩
noncomputable def o228 : PO := fun _ => ⟨.none, none, (.fields #[]), #[]⟩
noncomputable def o229 : PO := fun _ => ⟨(.type "tuple"), none, (.seq #[(.str "self" 485), (.str "font" 486), (.str "code" 487)] 0), #[]⟩
noncomputable def o230 : PO := fun _ => ⟨(.type "tuple"), none, (.seq #[] 0), #[]⟩
noncomputable def o231 : PO := fun _ => ⟨.none, none, (.func (fnD (inC 23 1) "Char.__init__" .none .none .none .none .none .none 0 0)), #[]⟩
noncomputable def o232 : PO := fun _ => ⟨(.type "code"), none, (.fields #[(.str "__init__" 482), (.str "Char.__init__" 483), (.str "/claim/cut.py" 484), (.int 79 0), (.int 3 0), (.int 0 0), (.int 0 0), (.int 3 0), (.ref 227), (.bool true), (.int 181 0), (.ref 228), .none, (.ref 229), (.ref 230), (.ref 231), (.int 488 0), (.int 79 0), (.str "/claim/cut.py" 489)]), #[]⟩
noncomputable def o233 : PO := fun _ => ⟨(.type "function"), none, (.func (fnD (inC 23 1) "Char.__init__" .none .none .none (.str "gluepage.nodes" 438) (.ref 232) .none 3 0)), #[]⟩
noncomputable def o234 : PO := fun _ => ⟨(.type "tuple"), none, (.seq #[(.str "code" 491), (.str "font" 492)] 0), #[]⟩
noncomputable def o235 : PO := fun P => ⟨(.type "dict"), none, (.dict #[ke P "__module__" 476 (.str "gluepage.nodes" 438), ke P "__firstlineno__" 480 (.int 76 479), ke P "kind" 481 (.int 0 440), ke P "__init__" 490 (.ref 233), ke P "__static_attributes__" 493 (.ref 234), ke P "__dict__" 495 (.ref 237), ke P "__weakref__" 497 (.ref 238), ke P "__doc__" 498 .none] 4), #[]⟩
noncomputable def o236 : PO := fun _ => ⟨(.type "type"), none, (.cls ⟨"Char", [(.type "object")], [(.ref 236), (.type "object")], 235, "Char", true, [], [], false, none, false⟩), #[none, none, (some (.str "Char" 469)), (some (.str "Char" 477)), (some (.builtin "object.__new__")), (some (.bool true))]⟩
noncomputable def o237 : PO := fun _ => ⟨(.type "getset_descriptor"), none, (.fields #[(.str "__dict__" 494), (.ref 236), (.builtin "function.__dict__"), (.builtin "function.__dict__#set")]), #[]⟩
noncomputable def o238 : PO := fun _ => ⟨(.type "getset_descriptor"), none, (.fields #[(.str "__weakref__" 496), (.ref 236), (.builtin "ExceptionGroup.__weakref__"), .none]), #[]⟩
noncomputable def o239 : PO := fun _ => ⟨(.type "super"), none, (.fields #[(.ref 236), (.ref 236), (.ref 236)]), #[]⟩
noncomputable def o240 : PO := fun _ => ⟨(.type "builtin_function_or_method"), none, (.fields #[(.builtin "object.__init_subclass__"), (.ref 236)]), #[]⟩
noncomputable def T10 : PB := fun P => (nd (boot_o_0 P) (nd (boot_o_1 P) (nd (o3_11 P) (nd (boot_o_7 P) (nd (o15 P) (nd (o31 P) (nd (o63 P) (lf (o127 P)) (lf (o191 P))) (nd (o95 P) (lf (o159 P)) (lf (o223 P)))) (nd (o47 P) (nd (o79 P) (lf (o143 P)) (lf (o207 P))) (nd (o111 P) (lf (o175 P)) (lf (o239 P))))) (nd (o23 P) (nd (o39_5 P) (nd (o71 P) (lf (o135 P)) (lf (o199 P))) (nd (o103 P) (lf (o167 P)) (lf (o231 P)))) (nd (o55 P) (nd (o87 P) (lf (o151 P)) (lf (o215 P))) (nd (o119 P) (lf (o183 P)) .nil)))) (nd (o11 P) (nd (o19 P) (nd (o35 P) (nd (o67 P) (lf (o131 P)) (lf (o195 P))) (nd (o99 P) (lf (o163 P)) (lf (o227 P)))) (nd (o51 P) (nd (o83 P) (lf (o147 P)) (lf (o211 P))) (nd (o115 P) (lf (o179 P)) .nil))) (nd (o27 P) (nd (o43 P) (nd (o75 P) (lf (o139 P)) (lf (o203 P))) (nd (o107 P) (lf (o171 P)) (lf (o235 P)))) (nd (o59 P) (nd (o91 P) (lf (o155 P)) (lf (o219 P))) (nd (o123 P) (lf (o187 P)) .nil))))) (nd (boot_o_5 P) (nd (boot_o_9 P) (nd (o17 P) (nd (o33 P) (nd (o65 P) (lf (o129 P)) (lf (o193 P))) (nd (o97 P) (lf (o161 P)) (lf (o225 P)))) (nd (o49 P) (nd (o81 P) (lf (o145 P)) (lf (o209 P))) (nd (o113 P) (lf (o177 P)) .nil))) (nd (o25 P) (nd (o41 P) (nd (o73 P) (lf (o137 P)) (lf (o201 P))) (nd (o105 P) (lf (o169 P)) (lf (o233 P)))) (nd (o57 P) (nd (o89 P) (lf (o153 P)) (lf (o217 P))) (nd (o121 P) (lf (o185 P)) .nil)))) (nd (o13 P) (nd (o21 P) (nd (o37 P) (nd (o69 P) (lf (o133 P)) (lf (o197 P))) (nd (o101 P) (lf (o165 P)) (lf (o229 P)))) (nd (o53 P) (nd (o85 P) (lf (o149 P)) (lf (o213 P))) (nd (o117 P) (lf (o181 P)) .nil))) (nd (o29 P) (nd (o45 P) (nd (o77 P) (lf (o141 P)) (lf (o205 P))) (nd (o109 P) (lf (o173 P)) (lf (o237 P)))) (nd (o61 P) (nd (o93 P) (lf (o157 P)) (lf (o221 P))) (nd (o125 P) (lf (o189 P)) .nil)))))) (nd (boot_o_2 P) (nd (boot_o_4 P) (nd (boot_o_8 P) (nd (o16 P) (nd (o32 P) (nd (o64 P) (lf (o128 P)) (lf (o192 P))) (nd (o96 P) (lf (o160 P)) (lf (o224 P)))) (nd (o48 P) (nd (o80 P) (lf (o144 P)) (lf (o208 P))) (nd (o112 P) (lf (o176 P)) (lf (o240 P))))) (nd (o24 P) (nd (o40 P) (nd (o72 P) (lf (o136 P)) (lf (o200 P))) (nd (o104 P) (lf (o168 P)) (lf (o232 P)))) (nd (o56 P) (nd (o88 P) (lf (o152 P)) (lf (o216 P))) (nd (o120 P) (lf (o184 P)) .nil)))) (nd (o12_9 P) (nd (o20 P) (nd (o36 P) (nd (o68 P) (lf (o132 P)) (lf (o196 P))) (nd (o100 P) (lf (o164 P)) (lf (o228 P)))) (nd (o52 P) (nd (o84 P) (lf (o148 P)) (lf (o212 P))) (nd (o116 P) (lf (o180 P)) .nil))) (nd (o28 P) (nd (o44 P) (nd (o76 P) (lf (o140 P)) (lf (o204 P))) (nd (o108 P) (lf (o172 P)) (lf (o236 P)))) (nd (o60 P) (nd (o92 P) (lf (o156 P)) (lf (o220 P))) (nd (o124 P) (lf (o188 P)) .nil))))) (nd (boot_o_6 P) (nd (boot_o_10 P) (nd (o18 P) (nd (o34 P) (nd (o66 P) (lf (o130 P)) (lf (o194 P))) (nd (o98 P) (lf (o162 P)) (lf (o226 P)))) (nd (o50 P) (nd (o82 P) (lf (o146 P)) (lf (o210 P))) (nd (o114 P) (lf (o178 P)) .nil))) (nd (o26 P) (nd (o42 P) (nd (o74 P) (lf (o138 P)) (lf (o202 P))) (nd (o106 P) (lf (o170 P)) (lf (o234 P)))) (nd (o58 P) (nd (o90 P) (lf (o154 P)) (lf (o218 P))) (nd (o122 P) (lf (o186 P)) .nil)))) (nd (o14 P) (nd (o22 P) (nd (o38 P) (nd (o70 P) (lf (o134 P)) (lf (o198 P))) (nd (o102 P) (lf (o166 P)) (lf (o230 P)))) (nd (o54 P) (nd (o86 P) (lf (o150 P)) (lf (o214 P))) (nd (o118 P) (lf (o182 P)) .nil))) (nd (o30 P) (nd (o46 P) (nd (o78 P) (lf (o142 P)) (lf (o206 P))) (nd (o110 P) (lf (o174 P)) (lf (o238 P)))) (nd (o62 P) (nd (o94 P) (lf (o158 P)) (lf (o222 P))) (nd (o126 P) (lf (o190 P)) .nil)))))))
noncomputable def o3_12 : PO := fun P => ⟨(.type "dict"), none, (.dict #[ke P "__name__" 165 (.str "gluepage.mathparts" 542), ke P "__doc__" 166 .none, ke P "__package__" 167 .none, ke P "__loader__" 168 (.builtin "__main__.__loader__#opaque"), ke P "__spec__" 169 .none, ke P "__annotations__" 170 (.ref 6), ke P "__builtins__" 171 (.ref 4), ke P "__file__" 173 (.str "/claim/cut.py" 172), ke P "__cached__" 174 .none, ke P "_wall" 193 (.ref 21), ke P "PageError" 223 (.ref 39), ke P "BadArgument" 239 (.ref 52), ke P "Overflow" 255 (.ref 64), ke P "BadMath" 271 (.ref 76), ke P "BadFont" 287 (.ref 88), ke P "TooMuch" 303 (.ref 100), ke P "MAX_DIMEN" 311 (.int 1073741823 310), ke P "is_whole" 320 (.ref 109), ke P "check_whole" 327 (.ref 116), ke P "check_dimen" 334 (.ref 123), ke P "halved" 341 (.ref 130), ke P "DELIM1" 347 (.int 20 344), ke P "DELIM2" 348 (.int 21 345), ke P "AXIS_HEIGHT" 349 (.int 22 346), ke P "check_math_char" 357 (.ref 141), ke P "check_delimiter" 364 (.ref 148), ke P "Families" 437 (.ref 200), ke P "CHAR" 448 (.int 0 440), ke P "LIGATURE" 449 (.int 1 441), ke P "HBOX" 450 (.int 2 442), ke P "VBOX" 451 (.int 3 443), ke P "RULE" 452 (.int 4 444), ke P "KERN" 453 (.int 5 445), ke P "GLUE" 454 (.int 6 446), ke P "PENALTY" 455 (.int 7 447), ke P "NATURAL" 459 (.int 0 456), ke P "STRETCHED" 460 (.int 1 457), ke P "SHRUNK" 461 (.int 2 458), ke P "check_code" 468 (.ref 219), ke P "Char" 500 (.ref 236), ke P "Box" 541 (.ref 257), ke P "MOST_PIECES" 545 (.int 200 544), ke P "shifted" 553 (.ref 268), ke P "empty_box" 561 (.ref 276), ke P "char_box" 569 (.ref 283), ke P "grown" 587 (.ref 290)] 46), #[]⟩
noncomputable def o12_10 : PO := fun _ => ⟨.none, none, (.fields #[(.int 1 0), (.int 0 0), (.ref 20), (.int 5 0), (.int 0 0), (.ref 27), (.int 9 0), (.int 0 0), (.ref 48), (.int 11 0), (.int 0 0), (.ref 60), (.int 13 0), (.int 0 0), (.ref 72), (.int 15 0), (.int 0 0), (.ref 84), (.int 17 0), (.int 0 0), (.ref 96), (.int 21 0), (.int 0 0), (.ref 108), (.int 23 0), (.int 0 0), (.ref 115), (.int 27 0), (.int 0 0), (.ref 122), (.int 31 0), (.int 0 0), (.ref 129), (.int 35 0), (.int 0 0), (.ref 140), (.int 38 0), (.int 0 0), (.ref 147), (.int 44 0), (.int 0 0), (.ref 154), (.int 72 0), (.int 0 0), (.ref 218), (.int 76 0), (.int 0 0), (.ref 225), (.int 82 0), (.int 0 0), (.ref 246), (.int 98 0), (.int 0 0), (.ref 267), (.int 101 0), (.int 0 0), (.ref 275), (.int 103 0), (.int 0 0), (.ref 282), (.int 105 0), (.int 0 0), (.ref 289)]), #[]⟩
noncomputable def o241 : PO := fun _ => ⟨(.type "tuple"), none, (.seq #[] 0), #[]⟩
noncomputable def o242 : PO := fun _ => ⟨(.type "builtin_function_or_method"), none, (.fields #[(.builtin "type.__prepare__"), (.type "type")]), #[]⟩
noncomputable def o243 : PO := fun P => ⟨(.type "dict"), none, (.dict #[ke P "__module__" 508 (.str "gluepage.nodes" 438), ke P "__qualname__" 510 (.str "Box" 509), ke P "__firstlineno__" 512 (.int 82 511), ke P "__init__" 524 (.ref 254), ke P "__static_attributes__" 534 (.ref 255)] 5), #[]⟩
noncomputable def o244 : PO := fun _ => ⟨(.type "tuple"), none, (.seq #[] 0), #[]⟩
noncomputable def o245 : PO := fun _ => ⟨.none, none, (.fields #[(.int 84 0), (.int 4 0), (.ref 253)]), #[]⟩
noncomputable def o246 : PO := fun _ => ⟨(.type "code"), none, (.fields #[(.str "Box" 503), (.str "Box" 504), (.str "/claim/cut.py" 505), (.int 82 0), (.int 0 0), (.int 0 0), (.int 0 0), (.int 0 0), (.ref 244), (.bool false), (.int 181 0), (.ref 245), .none, .none, .none, .none, (.int 506 0), (.int 82 0), (.str "/claim/cut.py" 507)]), #[]⟩
noncomputable def o247 : PO := fun _ => ⟨(.type "frame"), none, .plain, #[(some (.ref 246)), (some (.ref 3)), (some (.ref 243)), none, (some (.str "gluepage.nodes" 438)), none, (some (.ref 0))]⟩
noncomputable def o248 : PO := fun _ => ⟨(.type "tuple"), none, (.seq #[] 0), #[]⟩
noncomputable def o249 : PO := fun _ => ⟨.none, none, (.fields #[]), #[]⟩
noncomputable def o250 : PO := fun _ => ⟨(.type "tuple"), none, (.seq #[(.str "self" 516), (.str "kind" 517), (.str "width" 518), (.str "height" 519), (.str "depth" 520), (.str "items" 521)] 0), #[]⟩
noncomputable def o251 : PO := fun _ => ⟨(.type "tuple"), none, (.seq #[] 0), #[]⟩
noncomputable def o252 : PO := fun _ => ⟨.none, none, (.func (fnD (inC 24 0) "Box.__init__" .none .none .none .none .none .none 0 0)), #[]⟩
noncomputable def o253 : PO := fun _ => ⟨(.type "code"), none, (.fields #[(.str "__init__" 513), (.str "Box.__init__" 514), (.str "/claim/cut.py" 515), (.int 84 0), (.int 6 0), (.int 0 0), (.int 0 0), (.int 3 0), (.ref 248), (.bool true), (.int 181 0), (.ref 249), .none, (.ref 250), (.ref 251), (.ref 252), (.int 522 0), (.int 84 0), (.str "/claim/cut.py" 523)]), #[]⟩
noncomputable def o254 : PO := fun _ => ⟨(.type "function"), none, (.func (fnD (inC 24 0) "Box.__init__" .none .none .none (.str "gluepage.nodes" 438) (.ref 253) .none 3 0)), #[]⟩
noncomputable def o255 : PO := fun _ => ⟨(.type "tuple"), none, (.seq #[(.str "depth" 525), (.str "height" 526), (.str "items" 527), (.str "kind" 528), (.str "order" 529), (.str "ratio" 530), (.str "shift" 531), (.str "sign" 532), (.str "width" 533)] 0), #[]⟩
noncomputable def o256 : PO := fun P => ⟨(.type "dict"), none, (.dict #[ke P "__module__" 508 (.str "gluepage.nodes" 438), ke P "__firstlineno__" 512 (.int 82 511), ke P "__init__" 524 (.ref 254), ke P "__static_attributes__" 534 (.ref 255), ke P "__dict__" 536 (.ref 258), ke P "__weakref__" 538 (.ref 259), ke P "__doc__" 539 .none] 4), #[]⟩
noncomputable def o257 : PO := fun _ => ⟨(.type "type"), none, (.cls ⟨"Box", [(.type "object")], [(.ref 257), (.type "object")], 256, "Box", true, [], [], false, none, false⟩), #[none, none, (some (.str "Box" 501)), (some (.str "Box" 509)), (some (.builtin "object.__new__")), (some (.bool true))]⟩
noncomputable def o258 : PO := fun _ => ⟨(.type "getset_descriptor"), none, (.fields #[(.str "__dict__" 535), (.ref 257), (.builtin "function.__dict__"), (.builtin "function.__dict__#set")]), #[]⟩
noncomputable def o259 : PO := fun _ => ⟨(.type "getset_descriptor"), none, (.fields #[(.str "__weakref__" 537), (.ref 257), (.builtin "ExceptionGroup.__weakref__"), .none]), #[]⟩
noncomputable def o260 : PO := fun _ => ⟨(.type "super"), none, (.fields #[(.ref 257), (.ref 257), (.ref 257)]), #[]⟩
noncomputable def o261 : PO := fun _ => ⟨(.type "builtin_function_or_method"), none, (.fields #[(.builtin "object.__init_subclass__"), (.ref 257)]), #[]⟩
noncomputable def o262 : PO := fun _ => ⟨(.type "tuple"), none, (.seq #[] 0), #[]⟩
noncomputable def o263 : PO := fun _ => ⟨.none, none, (.fields #[]), #[]⟩
noncomputable def o264 : PO := fun _ => ⟨(.type "tuple"), none, (.seq #[(.str "box" 549), (.str "shift" 550)] 0), #[]⟩
noncomputable def o265 : PO := fun _ => ⟨(.type "tuple"), none, (.seq #[] 0), #[]⟩
noncomputable def o266 : PO := fun _ => ⟨.none, none, (.func (fnD (stN 27) "shifted" .none .none .none .none .none .none 0 0)), #[]⟩
noncomputable def o267 : PO := fun _ => ⟨(.type "code"), none, (.fields #[(.str "shifted" 546), (.str "shifted" 547), (.str "/claim/cut.py" 548), (.int 98 0), (.int 2 0), (.int 0 0), (.int 0 0), (.int 3 0), (.ref 262), (.bool true), (.int 181 0), (.ref 263), .none, (.ref 264), (.ref 265), (.ref 266), (.int 551 0), (.int 98 0), (.str "/claim/cut.py" 552)]), #[]⟩
noncomputable def o268 : PO := fun _ => ⟨(.type "function"), none, (.func (fnD (stN 27) "shifted" .none .none .none (.str "gluepage.mathparts" 542) (.ref 267) .none 3 0)), #[]⟩
noncomputable def o269 : PO := fun _ => ⟨(.type "tuple"), none, (.seq #[(.int 0 554)] 0), #[]⟩
noncomputable def o270 : PO := fun _ => ⟨(.type "tuple"), none, (.seq #[] 0), #[]⟩
noncomputable def o271 : PO := fun _ => ⟨.none, none, (.fields #[]), #[]⟩
noncomputable def o272 : PO := fun _ => ⟨(.type "tuple"), none, (.seq #[(.str "width" 558)] 0), #[]⟩
noncomputable def o273 : PO := fun _ => ⟨(.type "tuple"), none, (.seq #[] 0), #[]⟩
noncomputable def o274 : PO := fun _ => ⟨.none, none, (.func (fnD (stN 28) "empty_box" .none .none .none .none .none .none 0 0)), #[]⟩
noncomputable def o275 : PO := fun _ => ⟨(.type "code"), none, (.fields #[(.str "empty_box" 555), (.str "empty_box" 556), (.str "/claim/cut.py" 557), (.int 101 0), (.int 1 0), (.int 0 0), (.int 0 0), (.int 3 0), (.ref 270), (.bool true), (.int 181 0), (.ref 271), .none, (.ref 272), (.ref 273), (.ref 274), (.int 559 0), (.int 101 0), (.str "/claim/cut.py" 560)]), #[]⟩
noncomputable def o276 : PO := fun _ => ⟨(.type "function"), none, (.func (fnD (stN 28) "empty_box" (.ref 269) .none .none (.str "gluepage.mathparts" 542) (.ref 275) .none 3 0)), #[]⟩
noncomputable def o277 : PO := fun _ => ⟨(.type "tuple"), none, (.seq #[] 0), #[]⟩
noncomputable def o278 : PO := fun _ => ⟨.none, none, (.fields #[]), #[]⟩
noncomputable def o279 : PO := fun _ => ⟨(.type "tuple"), none, (.seq #[(.str "font" 565), (.str "code" 566)] 0), #[]⟩
noncomputable def o280 : PO := fun _ => ⟨(.type "tuple"), none, (.seq #[] 0), #[]⟩
noncomputable def o281 : PO := fun _ => ⟨.none, none, (.func (fnD (stN 29) "char_box" .none .none .none .none .none .none 0 0)), #[]⟩
noncomputable def o282 : PO := fun _ => ⟨(.type "code"), none, (.fields #[(.str "char_box" 562), (.str "char_box" 563), (.str "/claim/cut.py" 564), (.int 103 0), (.int 2 0), (.int 0 0), (.int 0 0), (.int 3 0), (.ref 277), (.bool true), (.int 181 0), (.ref 278), .none, (.ref 279), (.ref 280), (.ref 281), (.int 567 0), (.int 103 0), (.str "/claim/cut.py" 568)]), #[]⟩
noncomputable def o283 : PO := fun _ => ⟨(.type "function"), none, (.func (fnD (stN 29) "char_box" .none .none .none (.str "gluepage.mathparts" 542) (.ref 282) .none 3 0)), #[]⟩
noncomputable def o284 : PO := fun _ => ⟨(.type "tuple"), none, (.seq #[] 0), #[]⟩
noncomputable def o285 : PO := fun _ => ⟨.none, none, (.fields #[]), #[]⟩
noncomputable def o286 : PO := fun _ => ⟨(.type "tuple"), none, (.seq #[(.str "families" 573), (.str "delimiter" 574), (.str "size" 575), (.str "height" 576), (.str "best" 577), (.str "most" 578), (.str "family" 579), (.str "code" 580), (.str "level" 581), (.str "font" 582), (.str "at" 583), (.str "reach" 584)] 0), #[]⟩
noncomputable def o287 : PO := fun _ => ⟨(.type "tuple"), none, (.seq #[] 0), #[]⟩
noncomputable def o288 : PO := fun _ => ⟨.none, none, (.func (fnD (stN 30) "grown" .none .none .none .none .none .none 0 0)), #[]⟩
noncomputable def o289 : PO := fun _ => ⟨(.type "code"), none, (.fields #[(.str "grown" 570), (.str "grown" 571), (.str "/claim/cut.py" 572), (.int 105 0), (.int 4 0), (.int 0 0), (.int 0 0), (.int 3 0), (.ref 284), (.bool true), (.int 181 0), (.ref 285), .none, (.ref 286), (.ref 287), (.ref 288), (.int 585 0), (.int 105 0), (.str "/claim/cut.py" 586)]), #[]⟩
noncomputable def o290 : PO := fun _ => ⟨(.type "function"), none, (.func (fnD (stN 30) "grown" .none .none .none (.str "gluepage.mathparts" 542) (.ref 289) .none 3 0)), #[]⟩
noncomputable def T11 : PB := fun P => (nd (boot_o_0 P) (nd (boot_o_1 P) (nd (o3_12 P) (nd (boot_o_7 P) (nd (o15 P) (nd (o31 P) (nd (o63 P) (nd (o127 P) (lf (o255 P)) .nil) (lf (o191 P))) (nd (o95 P) (nd (o159 P) (lf (o287 P)) .nil) (lf (o223 P)))) (nd (o47 P) (nd (o79 P) (nd (o143 P) (lf (o271 P)) .nil) (lf (o207 P))) (nd (o111 P) (lf (o175 P)) (lf (o239 P))))) (nd (o23 P) (nd (o39_5 P) (nd (o71 P) (nd (o135 P) (lf (o263 P)) .nil) (lf (o199 P))) (nd (o103 P) (lf (o167 P)) (lf (o231 P)))) (nd (o55 P) (nd (o87 P) (nd (o151 P) (lf (o279 P)) .nil) (lf (o215 P))) (nd (o119 P) (lf (o183 P)) (lf (o247 P)))))) (nd (o11 P) (nd (o19 P) (nd (o35 P) (nd (o67 P) (nd (o131 P) (lf (o259 P)) .nil) (lf (o195 P))) (nd (o99 P) (lf (o163 P)) (lf (o227 P)))) (nd (o51 P) (nd (o83 P) (nd (o147 P) (lf (o275 P)) .nil) (lf (o211 P))) (nd (o115 P) (lf (o179 P)) (lf (o243 P))))) (nd (o27 P) (nd (o43 P) (nd (o75 P) (nd (o139 P) (lf (o267 P)) .nil) (lf (o203 P))) (nd (o107 P) (lf (o171 P)) (lf (o235 P)))) (nd (o59 P) (nd (o91 P) (nd (o155 P) (lf (o283 P)) .nil) (lf (o219 P))) (nd (o123 P) (lf (o187 P)) (lf (o251 P))))))) (nd (boot_o_5 P) (nd (boot_o_9 P) (nd (o17 P) (nd (o33 P) (nd (o65 P) (nd (o129 P) (lf (o257 P)) .nil) (lf (o193 P))) (nd (o97 P) (nd (o161 P) (lf (o289 P)) .nil) (lf (o225 P)))) (nd (o49 P) (nd (o81 P) (nd (o145 P) (lf (o273 P)) .nil) (lf (o209 P))) (nd (o113 P) (lf (o177 P)) (lf (o241 P))))) (nd (o25 P) (nd (o41 P) (nd (o73 P) (nd (o137 P) (lf (o265 P)) .nil) (lf (o201 P))) (nd (o105 P) (lf (o169 P)) (lf (o233 P)))) (nd (o57 P) (nd (o89 P) (nd (o153 P) (lf (o281 P)) .nil) (lf (o217 P))) (nd (o121 P) (lf (o185 P)) (lf (o249 P)))))) (nd (o13 P) (nd (o21 P) (nd (o37 P) (nd (o69 P) (nd (o133 P) (lf (o261 P)) .nil) (lf (o197 P))) (nd (o101 P) (lf (o165 P)) (lf (o229 P)))) (nd (o53 P) (nd (o85 P) (nd (o149 P) (lf (o277 P)) .nil) (lf (o213 P))) (nd (o117 P) (lf (o181 P)) (lf (o245 P))))) (nd (o29 P) (nd (o45 P) (nd (o77 P) (nd (o141 P) (lf (o269 P)) .nil) (lf (o205 P))) (nd (o109 P) (lf (o173 P)) (lf (o237 P)))) (nd (o61 P) (nd (o93 P) (nd (o157 P) (lf (o285 P)) .nil) (lf (o221 P))) (nd (o125 P) (lf (o189 P)) (lf (o253 P)))))))) (nd (boot_o_2 P) (nd (boot_o_4 P) (nd (boot_o_8 P) (nd (o16 P) (nd (o32 P) (nd (o64 P) (nd (o128 P) (lf (o256 P)) .nil) (lf (o192 P))) (nd (o96 P) (nd (o160 P) (lf (o288 P)) .nil) (lf (o224 P)))) (nd (o48 P) (nd (o80 P) (nd (o144 P) (lf (o272 P)) .nil) (lf (o208 P))) (nd (o112 P) (lf (o176 P)) (lf (o240 P))))) (nd (o24 P) (nd (o40 P) (nd (o72 P) (nd (o136 P) (lf (o264 P)) .nil) (lf (o200 P))) (nd (o104 P) (lf (o168 P)) (lf (o232 P)))) (nd (o56 P) (nd (o88 P) (nd (o152 P) (lf (o280 P)) .nil) (lf (o216 P))) (nd (o120 P) (lf (o184 P)) (lf (o248 P)))))) (nd (o12_10 P) (nd (o20 P) (nd (o36 P) (nd (o68 P) (nd (o132 P) (lf (o260 P)) .nil) (lf (o196 P))) (nd (o100 P) (lf (o164 P)) (lf (o228 P)))) (nd (o52 P) (nd (o84 P) (nd (o148 P) (lf (o276 P)) .nil) (lf (o212 P))) (nd (o116 P) (lf (o180 P)) (lf (o244 P))))) (nd (o28 P) (nd (o44 P) (nd (o76 P) (nd (o140 P) (lf (o268 P)) .nil) (lf (o204 P))) (nd (o108 P) (lf (o172 P)) (lf (o236 P)))) (nd (o60 P) (nd (o92 P) (nd (o156 P) (lf (o284 P)) .nil) (lf (o220 P))) (nd (o124 P) (lf (o188 P)) (lf (o252 P))))))) (nd (boot_o_6 P) (nd (boot_o_10 P) (nd (o18 P) (nd (o34 P) (nd (o66 P) (nd (o130 P) (lf (o258 P)) .nil) (lf (o194 P))) (nd (o98 P) (nd (o162 P) (lf (o290 P)) .nil) (lf (o226 P)))) (nd (o50 P) (nd (o82 P) (nd (o146 P) (lf (o274 P)) .nil) (lf (o210 P))) (nd (o114 P) (lf (o178 P)) (lf (o242 P))))) (nd (o26 P) (nd (o42 P) (nd (o74 P) (nd (o138 P) (lf (o266 P)) .nil) (lf (o202 P))) (nd (o106 P) (lf (o170 P)) (lf (o234 P)))) (nd (o58 P) (nd (o90 P) (nd (o154 P) (lf (o282 P)) .nil) (lf (o218 P))) (nd (o122 P) (lf (o186 P)) (lf (o250 P)))))) (nd (o14 P) (nd (o22 P) (nd (o38 P) (nd (o70 P) (nd (o134 P) (lf (o262 P)) .nil) (lf (o198 P))) (nd (o102 P) (lf (o166 P)) (lf (o230 P)))) (nd (o54 P) (nd (o86 P) (nd (o150 P) (lf (o278 P)) .nil) (lf (o214 P))) (nd (o118 P) (lf (o182 P)) (lf (o246 P))))) (nd (o30 P) (nd (o46 P) (nd (o78 P) (nd (o142 P) (lf (o270 P)) .nil) (lf (o206 P))) (nd (o110 P) (lf (o174 P)) (lf (o238 P)))) (nd (o62 P) (nd (o94 P) (nd (o158 P) (lf (o286 P)) .nil) (lf (o222 P))) (nd (o126 P) (lf (o190 P)) (lf (o254 P)))))))))
noncomputable def o3_13 : PO := fun P => ⟨(.type "dict"), none, (.dict #[ke P "__name__" 165 (.str "gluepage.fonts" 608), ke P "__doc__" 166 .none, ke P "__package__" 167 .none, ke P "__loader__" 168 (.builtin "__main__.__loader__#opaque"), ke P "__spec__" 169 .none, ke P "__annotations__" 170 (.ref 6), ke P "__builtins__" 171 (.ref 4), ke P "__file__" 173 (.str "/claim/cut.py" 172), ke P "__cached__" 174 .none, ke P "_wall" 193 (.ref 21), ke P "PageError" 223 (.ref 39), ke P "BadArgument" 239 (.ref 52), ke P "Overflow" 255 (.ref 64), ke P "BadMath" 271 (.ref 76), ke P "BadFont" 287 (.ref 88), ke P "TooMuch" 303 (.ref 100), ke P "MAX_DIMEN" 311 (.int 1073741823 310), ke P "is_whole" 320 (.ref 109), ke P "check_whole" 327 (.ref 116), ke P "check_dimen" 334 (.ref 123), ke P "halved" 341 (.ref 130), ke P "DELIM1" 347 (.int 20 344), ke P "DELIM2" 348 (.int 21 345), ke P "AXIS_HEIGHT" 349 (.int 22 346), ke P "check_math_char" 357 (.ref 141), ke P "check_delimiter" 364 (.ref 148), ke P "Families" 437 (.ref 200), ke P "CHAR" 448 (.int 0 440), ke P "LIGATURE" 449 (.int 1 441), ke P "HBOX" 450 (.int 2 442), ke P "VBOX" 451 (.int 3 443), ke P "RULE" 452 (.int 4 444), ke P "KERN" 453 (.int 5 445), ke P "GLUE" 454 (.int 6 446), ke P "PENALTY" 455 (.int 7 447), ke P "NATURAL" 459 (.int 0 456), ke P "STRETCHED" 460 (.int 1 457), ke P "SHRUNK" 461 (.int 2 458), ke P "check_code" 468 (.ref 219), ke P "Char" 500 (.ref 236), ke P "Box" 541 (.ref 257), ke P "MOST_PIECES" 545 (.int 200 544), ke P "shifted" 553 (.ref 268), ke P "empty_box" 561 (.ref 276), ke P "char_box" 569 (.ref 283), ke P "grown" 587 (.ref 290), ke P "pieces_box" 593 (.ref 295), ke P "delimiter_box" 607 (.ref 303), ke P "EDGE" 611 (.int 256 610), ke P "MOST_FONTS" 613 (.int 255 612), ke P "MOST_PARAMS" 615 (.int 64 614), ke P "MOST_SIZE" 621 (.int 134217727 620)] 52), #[]⟩
noncomputable def o12_11 : PO := fun _ => ⟨.none, none, (.fields #[(.int 1 0), (.int 0 0), (.ref 20), (.int 5 0), (.int 0 0), (.ref 27), (.int 9 0), (.int 0 0), (.ref 48), (.int 11 0), (.int 0 0), (.ref 60), (.int 13 0), (.int 0 0), (.ref 72), (.int 15 0), (.int 0 0), (.ref 84), (.int 17 0), (.int 0 0), (.ref 96), (.int 21 0), (.int 0 0), (.ref 108), (.int 23 0), (.int 0 0), (.ref 115), (.int 27 0), (.int 0 0), (.ref 122), (.int 31 0), (.int 0 0), (.ref 129), (.int 35 0), (.int 0 0), (.ref 140), (.int 38 0), (.int 0 0), (.ref 147), (.int 44 0), (.int 0 0), (.ref 154), (.int 72 0), (.int 0 0), (.ref 218), (.int 76 0), (.int 0 0), (.ref 225), (.int 82 0), (.int 0 0), (.ref 246), (.int 98 0), (.int 0 0), (.ref 267), (.int 101 0), (.int 0 0), (.ref 275), (.int 103 0), (.int 0 0), (.ref 282), (.int 105 0), (.int 0 0), (.ref 289), (.int 124 0), (.int 0 0), (.ref 294), (.int 144 0), (.int 0 0), (.ref 302)]), #[]⟩
noncomputable def o291 : PO := fun _ => ⟨(.type "tuple"), none, (.seq #[] 0), #[]⟩
noncomputable def o292 : PO := fun _ => ⟨.none, none, (.fields #[]), #[]⟩
noncomputable def o293 : PO := fun _ => ⟨.none, none, (.func (fnD (stN 31) "pieces_box" .none .none .none .none .none .none 0 0)), #[]⟩
noncomputable def o294 : PO := fun _ => ⟨(.type "code"), none, (.fields #[(.str "pieces_box" 588), (.str "pieces_box" 589), (.str "/claim/cut.py" 590), (.int 124 0), (.int 3 0), (.int 0 0), (.int 0 0), (.int 3 0), (.ref 291), (.bool true), (.int 181 0), (.ref 292), .none, .none, .none, (.ref 293), (.int 591 0), (.int 124 0), (.str "/claim/cut.py" 592)]), #[]⟩
noncomputable def o295 : PO := fun _ => ⟨(.type "function"), none, (.func (fnD (stN 31) "pieces_box" .none .none .none (.str "gluepage.mathparts" 542) (.ref 294) .none 3 0)), #[]⟩
noncomputable def o296 : PO := fun _ => ⟨(.type "tuple"), none, (.seq #[(.int 0 594)] 0), #[]⟩
noncomputable def o297 : PO := fun _ => ⟨(.type "tuple"), none, (.seq #[] 0), #[]⟩
noncomputable def o298 : PO := fun _ => ⟨.none, none, (.fields #[]), #[]⟩
noncomputable def o299 : PO := fun _ => ⟨(.type "tuple"), none, (.seq #[(.str "families" 598), (.str "delimiter" 599), (.str "size" 600), (.str "height" 601), (.str "null_space" 602), (.str "found" 603), (.str "box" 604)] 0), #[]⟩
noncomputable def o300 : PO := fun _ => ⟨(.type "tuple"), none, (.seq #[] 0), #[]⟩
noncomputable def o301 : PO := fun _ => ⟨.none, none, (.func (fnD (stN 32) "delimiter_box" .none .none .none .none .none .none 0 0)), #[]⟩
noncomputable def o302 : PO := fun _ => ⟨(.type "code"), none, (.fields #[(.str "delimiter_box" 595), (.str "delimiter_box" 596), (.str "/claim/cut.py" 597), (.int 144 0), (.int 5 0), (.int 0 0), (.int 0 0), (.int 3 0), (.ref 297), (.bool true), (.int 181 0), (.ref 298), .none, (.ref 299), (.ref 300), (.ref 301), (.int 605 0), (.int 144 0), (.str "/claim/cut.py" 606)]), #[]⟩
noncomputable def o303 : PO := fun _ => ⟨(.type "function"), none, (.func (fnD (stN 32) "delimiter_box" (.ref 296) .none .none (.str "gluepage.mathparts" 542) (.ref 302) .none 3 0)), #[]⟩
noncomputable def T12 : PB := fun P => (nd (boot_o_0 P) (nd (boot_o_1 P) (nd (o3_13 P) (nd (boot_o_7 P) (nd (o15 P) (nd (o31 P) (nd (o63 P) (nd (o127 P) (lf (o255 P)) .nil) (lf (o191 P))) (nd (o95 P) (nd (o159 P) (lf (o287 P)) .nil) (lf (o223 P)))) (nd (o47 P) (nd (o79 P) (nd (o143 P) (lf (o271 P)) .nil) (lf (o207 P))) (nd (o111 P) (nd (o175 P) (lf (o303 P)) .nil) (lf (o239 P))))) (nd (o23 P) (nd (o39_5 P) (nd (o71 P) (nd (o135 P) (lf (o263 P)) .nil) (lf (o199 P))) (nd (o103 P) (nd (o167 P) (lf (o295 P)) .nil) (lf (o231 P)))) (nd (o55 P) (nd (o87 P) (nd (o151 P) (lf (o279 P)) .nil) (lf (o215 P))) (nd (o119 P) (lf (o183 P)) (lf (o247 P)))))) (nd (o11 P) (nd (o19 P) (nd (o35 P) (nd (o67 P) (nd (o131 P) (lf (o259 P)) .nil) (lf (o195 P))) (nd (o99 P) (nd (o163 P) (lf (o291 P)) .nil) (lf (o227 P)))) (nd (o51 P) (nd (o83 P) (nd (o147 P) (lf (o275 P)) .nil) (lf (o211 P))) (nd (o115 P) (lf (o179 P)) (lf (o243 P))))) (nd (o27 P) (nd (o43 P) (nd (o75 P) (nd (o139 P) (lf (o267 P)) .nil) (lf (o203 P))) (nd (o107 P) (nd (o171 P) (lf (o299 P)) .nil) (lf (o235 P)))) (nd (o59 P) (nd (o91 P) (nd (o155 P) (lf (o283 P)) .nil) (lf (o219 P))) (nd (o123 P) (lf (o187 P)) (lf (o251 P))))))) (nd (boot_o_5 P) (nd (boot_o_9 P) (nd (o17 P) (nd (o33 P) (nd (o65 P) (nd (o129 P) (lf (o257 P)) .nil) (lf (o193 P))) (nd (o97 P) (nd (o161 P) (lf (o289 P)) .nil) (lf (o225 P)))) (nd (o49 P) (nd (o81 P) (nd (o145 P) (lf (o273 P)) .nil) (lf (o209 P))) (nd (o113 P) (lf (o177 P)) (lf (o241 P))))) (nd (o25 P) (nd (o41 P) (nd (o73 P) (nd (o137 P) (lf (o265 P)) .nil) (lf (o201 P))) (nd (o105 P) (nd (o169 P) (lf (o297 P)) .nil) (lf (o233 P)))) (nd (o57 P) (nd (o89 P) (nd (o153 P) (lf (o281 P)) .nil) (lf (o217 P))) (nd (o121 P) (lf (o185 P)) (lf (o249 P)))))) (nd (o13 P) (nd (o21 P) (nd (o37 P) (nd (o69 P) (nd (o133 P) (lf (o261 P)) .nil) (lf (o197 P))) (nd (o101 P) (nd (o165 P) (lf (o293 P)) .nil) (lf (o229 P)))) (nd (o53 P) (nd (o85 P) (nd (o149 P) (lf (o277 P)) .nil) (lf (o213 P))) (nd (o117 P) (lf (o181 P)) (lf (o245 P))))) (nd (o29 P) (nd (o45 P) (nd (o77 P) (nd (o141 P) (lf (o269 P)) .nil) (lf (o205 P))) (nd (o109 P) (nd (o173 P) (lf (o301 P)) .nil) (lf (o237 P)))) (nd (o61 P) (nd (o93 P) (nd (o157 P) (lf (o285 P)) .nil) (lf (o221 P))) (nd (o125 P) (lf (o189 P)) (lf (o253 P)))))))) (nd (boot_o_2 P) (nd (boot_o_4 P) (nd (boot_o_8 P) (nd (o16 P) (nd (o32 P) (nd (o64 P) (nd (o128 P) (lf (o256 P)) .nil) (lf (o192 P))) (nd (o96 P) (nd (o160 P) (lf (o288 P)) .nil) (lf (o224 P)))) (nd (o48 P) (nd (o80 P) (nd (o144 P) (lf (o272 P)) .nil) (lf (o208 P))) (nd (o112 P) (lf (o176 P)) (lf (o240 P))))) (nd (o24 P) (nd (o40 P) (nd (o72 P) (nd (o136 P) (lf (o264 P)) .nil) (lf (o200 P))) (nd (o104 P) (nd (o168 P) (lf (o296 P)) .nil) (lf (o232 P)))) (nd (o56 P) (nd (o88 P) (nd (o152 P) (lf (o280 P)) .nil) (lf (o216 P))) (nd (o120 P) (lf (o184 P)) (lf (o248 P)))))) (nd (o12_11 P) (nd (o20 P) (nd (o36 P) (nd (o68 P) (nd (o132 P) (lf (o260 P)) .nil) (lf (o196 P))) (nd (o100 P) (nd (o164 P) (lf (o292 P)) .nil) (lf (o228 P)))) (nd (o52 P) (nd (o84 P) (nd (o148 P) (lf (o276 P)) .nil) (lf (o212 P))) (nd (o116 P) (lf (o180 P)) (lf (o244 P))))) (nd (o28 P) (nd (o44 P) (nd (o76 P) (nd (o140 P) (lf (o268 P)) .nil) (lf (o204 P))) (nd (o108 P) (nd (o172 P) (lf (o300 P)) .nil) (lf (o236 P)))) (nd (o60 P) (nd (o92 P) (nd (o156 P) (lf (o284 P)) .nil) (lf (o220 P))) (nd (o124 P) (lf (o188 P)) (lf (o252 P))))))) (nd (boot_o_6 P) (nd (boot_o_10 P) (nd (o18 P) (nd (o34 P) (nd (o66 P) (nd (o130 P) (lf (o258 P)) .nil) (lf (o194 P))) (nd (o98 P) (nd (o162 P) (lf (o290 P)) .nil) (lf (o226 P)))) (nd (o50 P) (nd (o82 P) (nd (o146 P) (lf (o274 P)) .nil) (lf (o210 P))) (nd (o114 P) (lf (o178 P)) (lf (o242 P))))) (nd (o26 P) (nd (o42 P) (nd (o74 P) (nd (o138 P) (lf (o266 P)) .nil) (lf (o202 P))) (nd (o106 P) (nd (o170 P) (lf (o298 P)) .nil) (lf (o234 P)))) (nd (o58 P) (nd (o90 P) (nd (o154 P) (lf (o282 P)) .nil) (lf (o218 P))) (nd (o122 P) (lf (o186 P)) (lf (o250 P)))))) (nd (o14 P) (nd (o22 P) (nd (o38 P) (nd (o70 P) (nd (o134 P) (lf (o262 P)) .nil) (lf (o198 P))) (nd (o102 P) (nd (o166 P) (lf (o294 P)) .nil) (lf (o230 P)))) (nd (o54 P) (nd (o86 P) (nd (o150 P) (lf (o278 P)) .nil) (lf (o214 P))) (nd (o118 P) (lf (o182 P)) (lf (o246 P))))) (nd (o30 P) (nd (o46 P) (nd (o78 P) (nd (o142 P) (lf (o270 P)) .nil) (lf (o206 P))) (nd (o110 P) (nd (o174 P) (lf (o302 P)) .nil) (lf (o238 P)))) (nd (o62 P) (nd (o94 P) (nd (o158 P) (lf (o286 P)) .nil) (lf (o222 P))) (nd (o126 P) (lf (o190 P)) (lf (o254 P)))))))))
noncomputable def o3_14 : PO := fun P => ⟨(.type "dict"), none, (.dict #[ke P "__name__" 165 (.str "gluepage.fonts" 608), ke P "__doc__" 166 .none, ke P "__package__" 167 .none, ke P "__loader__" 168 (.builtin "__main__.__loader__#opaque"), ke P "__spec__" 169 .none, ke P "__annotations__" 170 (.ref 6), ke P "__builtins__" 171 (.ref 4), ke P "__file__" 173 (.str "/claim/cut.py" 172), ke P "__cached__" 174 .none, ke P "_wall" 193 (.ref 21), ke P "PageError" 223 (.ref 39), ke P "BadArgument" 239 (.ref 52), ke P "Overflow" 255 (.ref 64), ke P "BadMath" 271 (.ref 76), ke P "BadFont" 287 (.ref 88), ke P "TooMuch" 303 (.ref 100), ke P "MAX_DIMEN" 311 (.int 1073741823 310), ke P "is_whole" 320 (.ref 109), ke P "check_whole" 327 (.ref 116), ke P "check_dimen" 334 (.ref 123), ke P "halved" 341 (.ref 130), ke P "DELIM1" 347 (.int 20 344), ke P "DELIM2" 348 (.int 21 345), ke P "AXIS_HEIGHT" 349 (.int 22 346), ke P "check_math_char" 357 (.ref 141), ke P "check_delimiter" 364 (.ref 148), ke P "Families" 437 (.ref 200), ke P "CHAR" 448 (.int 0 440), ke P "LIGATURE" 449 (.int 1 441), ke P "HBOX" 450 (.int 2 442), ke P "VBOX" 451 (.int 3 443), ke P "RULE" 452 (.int 4 444), ke P "KERN" 453 (.int 5 445), ke P "GLUE" 454 (.int 6 446), ke P "PENALTY" 455 (.int 7 447), ke P "NATURAL" 459 (.int 0 456), ke P "STRETCHED" 460 (.int 1 457), ke P "SHRUNK" 461 (.int 2 458), ke P "check_code" 468 (.ref 219), ke P "Char" 500 (.ref 236), ke P "Box" 541 (.ref 257), ke P "MOST_PIECES" 545 (.int 200 544), ke P "shifted" 553 (.ref 268), ke P "empty_box" 561 (.ref 276), ke P "char_box" 569 (.ref 283), ke P "grown" 587 (.ref 290), ke P "pieces_box" 593 (.ref 295), ke P "delimiter_box" 607 (.ref 303), ke P "EDGE" 611 (.int 256 610), ke P "MOST_FONTS" 613 (.int 255 612), ke P "MOST_PARAMS" 615 (.int 64 614), ke P "MOST_SIZE" 621 (.int 134217727 620), ke P "PLAIN_SORT" 626 (.int 0 622), ke P "PROGRAM_SORT" 627 (.int 1 623), ke P "LARGER_SORT" 628 (.int 2 624), ke P "PIECES_SORT" 629 (.int 3 625), ke P "STOP_SKIP" 633 (.int 128 630), ke P "KERN_OP" 634 (.int 128 631), ke P "LEAD" 635 (.int 255 632)] 59), #[]⟩
noncomputable def o304 : PO := fun _ => ⟨(.type "tuple"), none, (.seq #[(.int 0 622), (.int 1 623), (.int 2 624), (.int 3 625)] 0), #[]⟩
noncomputable def o305 : PO := fun _ => ⟨(.type "tuple_iterator"), none, (.fields #[.none, (.int 4 0)]), #[]⟩
noncomputable def o306 : PO := fun _ => ⟨(.type "tuple"), none, (.seq #[] 0), #[]⟩
noncomputable def o307 : PO := fun _ => ⟨(.type "StopIteration"), none, (.fields #[(.ref 306), .none, .none, .none, (.bool false), .none]), #[]⟩
noncomputable def o308 : PO := fun _ => ⟨(.type "tuple"), none, (.seq #[(.int 128 630), (.int 128 631), (.int 255 632)] 0), #[]⟩
noncomputable def o309 : PO := fun _ => ⟨(.type "tuple_iterator"), none, (.fields #[.none, (.int 3 0)]), #[]⟩
noncomputable def o310 : PO := fun _ => ⟨(.type "tuple"), none, (.seq #[] 0), #[]⟩
noncomputable def o311 : PO := fun _ => ⟨(.type "StopIteration"), none, (.fields #[(.ref 310), .none, .none, .none, (.bool false), .none]), #[]⟩
noncomputable def T13 : PB := fun P => (nd (boot_o_0 P) (nd (boot_o_1 P) (nd (o3_14 P) (nd (boot_o_7 P) (nd (o15 P) (nd (o31 P) (nd (o63 P) (nd (o127 P) (lf (o255 P)) .nil) (lf (o191 P))) (nd (o95 P) (nd (o159 P) (lf (o287 P)) .nil) (lf (o223 P)))) (nd (o47 P) (nd (o79 P) (nd (o143 P) (lf (o271 P)) .nil) (lf (o207 P))) (nd (o111 P) (nd (o175 P) (lf (o303 P)) .nil) (lf (o239 P))))) (nd (o23 P) (nd (o39_5 P) (nd (o71 P) (nd (o135 P) (lf (o263 P)) .nil) (lf (o199 P))) (nd (o103 P) (nd (o167 P) (lf (o295 P)) .nil) (lf (o231 P)))) (nd (o55 P) (nd (o87 P) (nd (o151 P) (lf (o279 P)) .nil) (lf (o215 P))) (nd (o119 P) (nd (o183 P) (lf (o311 P)) .nil) (lf (o247 P)))))) (nd (o11 P) (nd (o19 P) (nd (o35 P) (nd (o67 P) (nd (o131 P) (lf (o259 P)) .nil) (lf (o195 P))) (nd (o99 P) (nd (o163 P) (lf (o291 P)) .nil) (lf (o227 P)))) (nd (o51 P) (nd (o83 P) (nd (o147 P) (lf (o275 P)) .nil) (lf (o211 P))) (nd (o115 P) (nd (o179 P) (lf (o307 P)) .nil) (lf (o243 P))))) (nd (o27 P) (nd (o43 P) (nd (o75 P) (nd (o139 P) (lf (o267 P)) .nil) (lf (o203 P))) (nd (o107 P) (nd (o171 P) (lf (o299 P)) .nil) (lf (o235 P)))) (nd (o59 P) (nd (o91 P) (nd (o155 P) (lf (o283 P)) .nil) (lf (o219 P))) (nd (o123 P) (lf (o187 P)) (lf (o251 P))))))) (nd (boot_o_5 P) (nd (boot_o_9 P) (nd (o17 P) (nd (o33 P) (nd (o65 P) (nd (o129 P) (lf (o257 P)) .nil) (lf (o193 P))) (nd (o97 P) (nd (o161 P) (lf (o289 P)) .nil) (lf (o225 P)))) (nd (o49 P) (nd (o81 P) (nd (o145 P) (lf (o273 P)) .nil) (lf (o209 P))) (nd (o113 P) (nd (o177 P) (lf (o305 P)) .nil) (lf (o241 P))))) (nd (o25 P) (nd (o41 P) (nd (o73 P) (nd (o137 P) (lf (o265 P)) .nil) (lf (o201 P))) (nd (o105 P) (nd (o169 P) (lf (o297 P)) .nil) (lf (o233 P)))) (nd (o57 P) (nd (o89 P) (nd (o153 P) (lf (o281 P)) .nil) (lf (o217 P))) (nd (o121 P) (lf (o185 P)) (lf (o249 P)))))) (nd (o13 P) (nd (o21 P) (nd (o37 P) (nd (o69 P) (nd (o133 P) (lf (o261 P)) .nil) (lf (o197 P))) (nd (o101 P) (nd (o165 P) (lf (o293 P)) .nil) (lf (o229 P)))) (nd (o53 P) (nd (o85 P) (nd (o149 P) (lf (o277 P)) .nil) (lf (o213 P))) (nd (o117 P) (nd (o181 P) (lf (o309 P)) .nil) (lf (o245 P))))) (nd (o29 P) (nd (o45 P) (nd (o77 P) (nd (o141 P) (lf (o269 P)) .nil) (lf (o205 P))) (nd (o109 P) (nd (o173 P) (lf (o301 P)) .nil) (lf (o237 P)))) (nd (o61 P) (nd (o93 P) (nd (o157 P) (lf (o285 P)) .nil) (lf (o221 P))) (nd (o125 P) (lf (o189 P)) (lf (o253 P)))))))) (nd (boot_o_2 P) (nd (boot_o_4 P) (nd (boot_o_8 P) (nd (o16 P) (nd (o32 P) (nd (o64 P) (nd (o128 P) (lf (o256 P)) .nil) (lf (o192 P))) (nd (o96 P) (nd (o160 P) (lf (o288 P)) .nil) (lf (o224 P)))) (nd (o48 P) (nd (o80 P) (nd (o144 P) (lf (o272 P)) .nil) (lf (o208 P))) (nd (o112 P) (nd (o176 P) (lf (o304 P)) .nil) (lf (o240 P))))) (nd (o24 P) (nd (o40 P) (nd (o72 P) (nd (o136 P) (lf (o264 P)) .nil) (lf (o200 P))) (nd (o104 P) (nd (o168 P) (lf (o296 P)) .nil) (lf (o232 P)))) (nd (o56 P) (nd (o88 P) (nd (o152 P) (lf (o280 P)) .nil) (lf (o216 P))) (nd (o120 P) (lf (o184 P)) (lf (o248 P)))))) (nd (o12_11 P) (nd (o20 P) (nd (o36 P) (nd (o68 P) (nd (o132 P) (lf (o260 P)) .nil) (lf (o196 P))) (nd (o100 P) (nd (o164 P) (lf (o292 P)) .nil) (lf (o228 P)))) (nd (o52 P) (nd (o84 P) (nd (o148 P) (lf (o276 P)) .nil) (lf (o212 P))) (nd (o116 P) (nd (o180 P) (lf (o308 P)) .nil) (lf (o244 P))))) (nd (o28 P) (nd (o44 P) (nd (o76 P) (nd (o140 P) (lf (o268 P)) .nil) (lf (o204 P))) (nd (o108 P) (nd (o172 P) (lf (o300 P)) .nil) (lf (o236 P)))) (nd (o60 P) (nd (o92 P) (nd (o156 P) (lf (o284 P)) .nil) (lf (o220 P))) (nd (o124 P) (lf (o188 P)) (lf (o252 P))))))) (nd (boot_o_6 P) (nd (boot_o_10 P) (nd (o18 P) (nd (o34 P) (nd (o66 P) (nd (o130 P) (lf (o258 P)) .nil) (lf (o194 P))) (nd (o98 P) (nd (o162 P) (lf (o290 P)) .nil) (lf (o226 P)))) (nd (o50 P) (nd (o82 P) (nd (o146 P) (lf (o274 P)) .nil) (lf (o210 P))) (nd (o114 P) (nd (o178 P) (lf (o306 P)) .nil) (lf (o242 P))))) (nd (o26 P) (nd (o42 P) (nd (o74 P) (nd (o138 P) (lf (o266 P)) .nil) (lf (o202 P))) (nd (o106 P) (nd (o170 P) (lf (o298 P)) .nil) (lf (o234 P)))) (nd (o58 P) (nd (o90 P) (nd (o154 P) (lf (o282 P)) .nil) (lf (o218 P))) (nd (o122 P) (lf (o186 P)) (lf (o250 P)))))) (nd (o14 P) (nd (o22 P) (nd (o38 P) (nd (o70 P) (nd (o134 P) (lf (o262 P)) .nil) (lf (o198 P))) (nd (o102 P) (nd (o166 P) (lf (o294 P)) .nil) (lf (o230 P)))) (nd (o54 P) (nd (o86 P) (nd (o150 P) (lf (o278 P)) .nil) (lf (o214 P))) (nd (o118 P) (nd (o182 P) (lf (o310 P)) .nil) (lf (o246 P))))) (nd (o30 P) (nd (o46 P) (nd (o78 P) (nd (o142 P) (lf (o270 P)) .nil) (lf (o206 P))) (nd (o110 P) (nd (o174 P) (lf (o302 P)) .nil) (lf (o238 P)))) (nd (o62 P) (nd (o94 P) (nd (o158 P) (lf (o286 P)) .nil) (lf (o222 P))) (nd (o126 P) (lf (o190 P)) (lf (o254 P)))))))))
noncomputable def o3_15 : PO := fun P => ⟨(.type "dict"), none, (.dict #[ke P "__name__" 165 (.str "gluepage.fonts" 608), ke P "__doc__" 166 .none, ke P "__package__" 167 .none, ke P "__loader__" 168 (.builtin "__main__.__loader__#opaque"), ke P "__spec__" 169 .none, ke P "__annotations__" 170 (.ref 6), ke P "__builtins__" 171 (.ref 4), ke P "__file__" 173 (.str "/claim/cut.py" 172), ke P "__cached__" 174 .none, ke P "_wall" 193 (.ref 21), ke P "PageError" 223 (.ref 39), ke P "BadArgument" 239 (.ref 52), ke P "Overflow" 255 (.ref 64), ke P "BadMath" 271 (.ref 76), ke P "BadFont" 287 (.ref 88), ke P "TooMuch" 303 (.ref 100), ke P "MAX_DIMEN" 311 (.int 1073741823 310), ke P "is_whole" 320 (.ref 109), ke P "check_whole" 327 (.ref 116), ke P "check_dimen" 334 (.ref 123), ke P "halved" 341 (.ref 130), ke P "DELIM1" 347 (.int 20 344), ke P "DELIM2" 348 (.int 21 345), ke P "AXIS_HEIGHT" 349 (.int 22 346), ke P "check_math_char" 357 (.ref 141), ke P "check_delimiter" 364 (.ref 148), ke P "Families" 437 (.ref 200), ke P "CHAR" 448 (.int 0 440), ke P "LIGATURE" 449 (.int 1 441), ke P "HBOX" 450 (.int 2 442), ke P "VBOX" 451 (.int 3 443), ke P "RULE" 452 (.int 4 444), ke P "KERN" 453 (.int 5 445), ke P "GLUE" 454 (.int 6 446), ke P "PENALTY" 455 (.int 7 447), ke P "NATURAL" 459 (.int 0 456), ke P "STRETCHED" 460 (.int 1 457), ke P "SHRUNK" 461 (.int 2 458), ke P "check_code" 468 (.ref 219), ke P "Char" 500 (.ref 236), ke P "Box" 541 (.ref 257), ke P "MOST_PIECES" 545 (.int 200 544), ke P "shifted" 553 (.ref 268), ke P "empty_box" 561 (.ref 276), ke P "char_box" 569 (.ref 283), ke P "grown" 587 (.ref 290), ke P "pieces_box" 593 (.ref 295), ke P "delimiter_box" 607 (.ref 303), ke P "EDGE" 611 (.int 256 610), ke P "MOST_FONTS" 613 (.int 255 612), ke P "MOST_PARAMS" 615 (.int 64 614), ke P "MOST_SIZE" 621 (.int 134217727 620), ke P "PLAIN_SORT" 626 (.int 0 622), ke P "PROGRAM_SORT" 627 (.int 1 623), ke P "LARGER_SORT" 628 (.int 2 624), ke P "PIECES_SORT" 629 (.int 3 625), ke P "STOP_SKIP" 633 (.int 128 630), ke P "KERN_OP" 634 (.int 128 631), ke P "LEAD" 635 (.int 255 632), ke P "NO_CHARACTER" 642 (.ref 312), ke P "LETTERS" 644 (.str "abcdefghjklmnopqrstuvwxyz" 643), ke P "SMALL_PARAMS" 652 (.ref 313), ke P "is_size" 659 (.ref 320), ke P "check_sizes" 667 (.ref 327), ke P "check_pieces" 677 (.ref 334), ke P "check_chars" 689 (.ref 341), ke P "check_larger" 699 (.ref 348), ke P "check_program" 717 (.ref 355), ke P "left_start" 728 (.ref 362)] 69), #[]⟩
noncomputable def o12_12 : PO := fun _ => ⟨.none, none, (.fields #[(.int 1 0), (.int 0 0), (.ref 20), (.int 5 0), (.int 0 0), (.ref 27), (.int 9 0), (.int 0 0), (.ref 48), (.int 11 0), (.int 0 0), (.ref 60), (.int 13 0), (.int 0 0), (.ref 72), (.int 15 0), (.int 0 0), (.ref 84), (.int 17 0), (.int 0 0), (.ref 96), (.int 21 0), (.int 0 0), (.ref 108), (.int 23 0), (.int 0 0), (.ref 115), (.int 27 0), (.int 0 0), (.ref 122), (.int 31 0), (.int 0 0), (.ref 129), (.int 35 0), (.int 0 0), (.ref 140), (.int 38 0), (.int 0 0), (.ref 147), (.int 44 0), (.int 0 0), (.ref 154), (.int 72 0), (.int 0 0), (.ref 218), (.int 76 0), (.int 0 0), (.ref 225), (.int 82 0), (.int 0 0), (.ref 246), (.int 98 0), (.int 0 0), (.ref 267), (.int 101 0), (.int 0 0), (.ref 275), (.int 103 0), (.int 0 0), (.ref 282), (.int 105 0), (.int 0 0), (.ref 289), (.int 124 0), (.int 0 0), (.ref 294), (.int 144 0), (.int 0 0), (.ref 302), (.int 163 0), (.int 0 0), (.ref 319), (.int 165 0), (.int 0 0), (.ref 326), (.int 169 0), (.int 0 0), (.ref 333), (.int 175 0), (.int 0 0), (.ref 340), (.int 187 0), (.int 0 0), (.ref 347), (.int 195 0), (.int 0 0), (.ref 354), (.int 214 0), (.int 0 0), (.ref 361)]), #[]⟩
noncomputable def o312 : PO := fun _ => ⟨(.type "tuple"), none, (.seq #[(.int 0 636), (.int 0 637), (.int 0 638), (.int 0 639), (.int 0 640), (.int 0 641)] 0), #[]⟩
noncomputable def o313 : PO := fun _ => ⟨(.type "tuple"), none, (.seq #[(.int 0 645), (.int 196608 646), (.int 98304 647), (.int 65536 648), (.int 262144 649), (.int 655360 650), (.int 65536 651)] 0), #[]⟩
noncomputable def o314 : PO := fun _ => ⟨(.type "tuple"), none, (.seq #[] 0), #[]⟩
noncomputable def o315 : PO := fun _ => ⟨.none, none, (.fields #[]), #[]⟩
noncomputable def o316 : PO := fun _ => ⟨(.type "tuple"), none, (.seq #[(.str "value" 656)] 0), #[]⟩
noncomputable def o317 : PO := fun _ => ⟨(.type "tuple"), none, (.seq #[] 0), #[]⟩
noncomputable def o318 : PO := fun _ => ⟨.none, none, (.func (fnD (stN 43) "is_size" .none .none .none .none .none .none 0 0)), #[]⟩
noncomputable def o319 : PO := fun _ => ⟨(.type "code"), none, (.fields #[(.str "is_size" 653), (.str "is_size" 654), (.str "/claim/cut.py" 655), (.int 163 0), (.int 1 0), (.int 0 0), (.int 0 0), (.int 3 0), (.ref 314), (.bool true), (.int 181 0), (.ref 315), .none, (.ref 316), (.ref 317), (.ref 318), (.int 657 0), (.int 163 0), (.str "/claim/cut.py" 658)]), #[]⟩
noncomputable def o320 : PO := fun _ => ⟨(.type "function"), none, (.func (fnD (stN 43) "is_size" .none .none .none (.str "gluepage.fonts" 608) (.ref 319) .none 3 0)), #[]⟩
noncomputable def o321 : PO := fun _ => ⟨(.type "tuple"), none, (.seq #[] 0), #[]⟩
noncomputable def o322 : PO := fun _ => ⟨.none, none, (.fields #[]), #[]⟩
noncomputable def o323 : PO := fun _ => ⟨(.type "tuple"), none, (.seq #[(.str "sizes" 663), (.str "size" 664)] 0), #[]⟩
noncomputable def o324 : PO := fun _ => ⟨(.type "tuple"), none, (.seq #[] 0), #[]⟩
noncomputable def o325 : PO := fun _ => ⟨.none, none, (.func (fnD (stN 44) "check_sizes" .none .none .none .none .none .none 0 0)), #[]⟩
noncomputable def o326 : PO := fun _ => ⟨(.type "code"), none, (.fields #[(.str "check_sizes" 660), (.str "check_sizes" 661), (.str "/claim/cut.py" 662), (.int 165 0), (.int 1 0), (.int 0 0), (.int 0 0), (.int 3 0), (.ref 321), (.bool true), (.int 181 0), (.ref 322), .none, (.ref 323), (.ref 324), (.ref 325), (.int 665 0), (.int 165 0), (.str "/claim/cut.py" 666)]), #[]⟩
noncomputable def o327 : PO := fun _ => ⟨(.type "function"), none, (.func (fnD (stN 44) "check_sizes" .none .none .none (.str "gluepage.fonts" 608) (.ref 326) .none 3 0)), #[]⟩
noncomputable def o328 : PO := fun _ => ⟨(.type "tuple"), none, (.seq #[] 0), #[]⟩
noncomputable def o329 : PO := fun _ => ⟨.none, none, (.fields #[]), #[]⟩
noncomputable def o330 : PO := fun _ => ⟨(.type "tuple"), none, (.seq #[(.str "pieces" 671), (.str "chars" 672), (.str "place" 673), (.str "code" 674)] 0), #[]⟩
noncomputable def o331 : PO := fun _ => ⟨(.type "tuple"), none, (.seq #[] 0), #[]⟩
noncomputable def o332 : PO := fun _ => ⟨.none, none, (.func (fnD (stN 45) "check_pieces" .none .none .none .none .none .none 0 0)), #[]⟩
noncomputable def o333 : PO := fun _ => ⟨(.type "code"), none, (.fields #[(.str "check_pieces" 668), (.str "check_pieces" 669), (.str "/claim/cut.py" 670), (.int 169 0), (.int 2 0), (.int 0 0), (.int 0 0), (.int 3 0), (.ref 328), (.bool true), (.int 181 0), (.ref 329), .none, (.ref 330), (.ref 331), (.ref 332), (.int 675 0), (.int 169 0), (.str "/claim/cut.py" 676)]), #[]⟩
noncomputable def o334 : PO := fun _ => ⟨(.type "function"), none, (.func (fnD (stN 45) "check_pieces" .none .none .none (.str "gluepage.fonts" 608) (.ref 333) .none 3 0)), #[]⟩
noncomputable def o335 : PO := fun _ => ⟨(.type "tuple"), none, (.seq #[] 0), #[]⟩
noncomputable def o336 : PO := fun _ => ⟨.none, none, (.fields #[]), #[]⟩
noncomputable def o337 : PO := fun _ => ⟨(.type "tuple"), none, (.seq #[(.str "chars" 681), (.str "many" 682), (.str "code" 683), (.str "row" 684), (.str "sort" 685), (.str "rest" 686)] 0), #[]⟩
noncomputable def o338 : PO := fun _ => ⟨(.type "tuple"), none, (.seq #[] 0), #[]⟩
noncomputable def o339 : PO := fun _ => ⟨.none, none, (.func (fnD (stN 46) "check_chars" .none .none .none .none .none .none 0 0)), #[]⟩
noncomputable def o340 : PO := fun _ => ⟨(.type "code"), none, (.fields #[(.str "check_chars" 678), (.str "check_chars" 679), (.str "/claim/cut.py" 680), (.int 175 0), (.int 2 0), (.int 0 0), (.int 0 0), (.int 3 0), (.ref 335), (.bool true), (.int 181 0), (.ref 336), .none, (.ref 337), (.ref 338), (.ref 339), (.int 687 0), (.int 175 0), (.str "/claim/cut.py" 688)]), #[]⟩
noncomputable def o341 : PO := fun _ => ⟨(.type "function"), none, (.func (fnD (stN 46) "check_chars" .none .none .none (.str "gluepage.fonts" 608) (.ref 340) .none 3 0)), #[]⟩
noncomputable def o342 : PO := fun _ => ⟨(.type "tuple"), none, (.seq #[] 0), #[]⟩
noncomputable def o343 : PO := fun _ => ⟨.none, none, (.fields #[]), #[]⟩
noncomputable def o344 : PO := fun _ => ⟨(.type "tuple"), none, (.seq #[(.str "chars" 693), (.str "code" 694), (.str "far" 695), (.str "turns" 696)] 0), #[]⟩
noncomputable def o345 : PO := fun _ => ⟨(.type "tuple"), none, (.seq #[] 0), #[]⟩
noncomputable def o346 : PO := fun _ => ⟨.none, none, (.func (fnD (stN 47) "check_larger" .none .none .none .none .none .none 0 0)), #[]⟩
noncomputable def o347 : PO := fun _ => ⟨(.type "code"), none, (.fields #[(.str "check_larger" 690), (.str "check_larger" 691), (.str "/claim/cut.py" 692), (.int 187 0), (.int 1 0), (.int 0 0), (.int 0 0), (.int 3 0), (.ref 342), (.bool true), (.int 181 0), (.ref 343), .none, (.ref 344), (.ref 345), (.ref 346), (.int 697 0), (.int 187 0), (.str "/claim/cut.py" 698)]), #[]⟩
noncomputable def o348 : PO := fun _ => ⟨(.type "function"), none, (.func (fnD (stN 47) "check_larger" .none .none .none (.str "gluepage.fonts" 608) (.ref 347) .none 3 0)), #[]⟩
noncomputable def o349 : PO := fun _ => ⟨(.type "tuple"), none, (.seq #[] 0), #[]⟩
noncomputable def o350 : PO := fun _ => ⟨.none, none, (.fields #[]), #[]⟩
noncomputable def o351 : PO := fun _ => ⟨(.type "tuple"), none, (.seq #[(.str "program" 703), (.str "kerns" 704), (.str "chars" 705), (.str "boundary" 706), (.str "many" 707), (.str "place" 708), (.str "row" 709), (.str "octet" 710), (.str "skip" 711), (.str "following" 712), (.str "op" 713), (.str "rest" 714)] 0), #[]⟩
noncomputable def o352 : PO := fun _ => ⟨(.type "tuple"), none, (.seq #[] 0), #[]⟩
noncomputable def o353 : PO := fun _ => ⟨.none, none, (.func (fnD (stN 48) "check_program" .none .none .none .none .none .none 0 0)), #[]⟩
noncomputable def o354 : PO := fun _ => ⟨(.type "code"), none, (.fields #[(.str "check_program" 700), (.str "check_program" 701), (.str "/claim/cut.py" 702), (.int 195 0), (.int 4 0), (.int 0 0), (.int 0 0), (.int 3 0), (.ref 349), (.bool true), (.int 181 0), (.ref 350), .none, (.ref 351), (.ref 352), (.ref 353), (.int 715 0), (.int 195 0), (.str "/claim/cut.py" 716)]), #[]⟩
noncomputable def o355 : PO := fun _ => ⟨(.type "function"), none, (.func (fnD (stN 48) "check_program" .none .none .none (.str "gluepage.fonts" 608) (.ref 354) .none 3 0)), #[]⟩
noncomputable def o356 : PO := fun _ => ⟨(.type "tuple"), none, (.seq #[] 0), #[]⟩
noncomputable def o357 : PO := fun _ => ⟨.none, none, (.fields #[]), #[]⟩
noncomputable def o358 : PO := fun _ => ⟨(.type "tuple"), none, (.seq #[(.str "program" 721), (.str "skip" 722), (.str "following" 723), (.str "op" 724), (.str "rest" 725)] 0), #[]⟩
noncomputable def o359 : PO := fun _ => ⟨(.type "tuple"), none, (.seq #[] 0), #[]⟩
noncomputable def o360 : PO := fun _ => ⟨.none, none, (.func (fnD (stN 49) "left_start" .none .none .none .none .none .none 0 0)), #[]⟩
noncomputable def o361 : PO := fun _ => ⟨(.type "code"), none, (.fields #[(.str "left_start" 718), (.str "left_start" 719), (.str "/claim/cut.py" 720), (.int 214 0), (.int 1 0), (.int 0 0), (.int 0 0), (.int 3 0), (.ref 356), (.bool true), (.int 181 0), (.ref 357), .none, (.ref 358), (.ref 359), (.ref 360), (.int 726 0), (.int 214 0), (.str "/claim/cut.py" 727)]), #[]⟩
noncomputable def o362 : PO := fun _ => ⟨(.type "function"), none, (.func (fnD (stN 49) "left_start" .none .none .none (.str "gluepage.fonts" 608) (.ref 361) .none 3 0)), #[]⟩
noncomputable def T14 : PB := fun P => (nd (boot_o_0 P) (nd (boot_o_1 P) (nd (o3_15 P) (nd (boot_o_7 P) (nd (o15 P) (nd (o31 P) (nd (o63 P) (nd (o127 P) (lf (o255 P)) .nil) (nd (o191 P) (lf (o319 P)) .nil)) (nd (o95 P) (nd (o159 P) (lf (o287 P)) .nil) (nd (o223 P) (lf (o351 P)) .nil))) (nd (o47 P) (nd (o79 P) (nd (o143 P) (lf (o271 P)) .nil) (nd (o207 P) (lf (o335 P)) .nil)) (nd (o111 P) (nd (o175 P) (lf (o303 P)) .nil) (lf (o239 P))))) (nd (o23 P) (nd (o39_5 P) (nd (o71 P) (nd (o135 P) (lf (o263 P)) .nil) (nd (o199 P) (lf (o327 P)) .nil)) (nd (o103 P) (nd (o167 P) (lf (o295 P)) .nil) (nd (o231 P) (lf (o359 P)) .nil))) (nd (o55 P) (nd (o87 P) (nd (o151 P) (lf (o279 P)) .nil) (nd (o215 P) (lf (o343 P)) .nil)) (nd (o119 P) (nd (o183 P) (lf (o311 P)) .nil) (lf (o247 P)))))) (nd (o11 P) (nd (o19 P) (nd (o35 P) (nd (o67 P) (nd (o131 P) (lf (o259 P)) .nil) (nd (o195 P) (lf (o323 P)) .nil)) (nd (o99 P) (nd (o163 P) (lf (o291 P)) .nil) (nd (o227 P) (lf (o355 P)) .nil))) (nd (o51 P) (nd (o83 P) (nd (o147 P) (lf (o275 P)) .nil) (nd (o211 P) (lf (o339 P)) .nil)) (nd (o115 P) (nd (o179 P) (lf (o307 P)) .nil) (lf (o243 P))))) (nd (o27 P) (nd (o43 P) (nd (o75 P) (nd (o139 P) (lf (o267 P)) .nil) (nd (o203 P) (lf (o331 P)) .nil)) (nd (o107 P) (nd (o171 P) (lf (o299 P)) .nil) (lf (o235 P)))) (nd (o59 P) (nd (o91 P) (nd (o155 P) (lf (o283 P)) .nil) (nd (o219 P) (lf (o347 P)) .nil)) (nd (o123 P) (nd (o187 P) (lf (o315 P)) .nil) (lf (o251 P))))))) (nd (boot_o_5 P) (nd (boot_o_9 P) (nd (o17 P) (nd (o33 P) (nd (o65 P) (nd (o129 P) (lf (o257 P)) .nil) (nd (o193 P) (lf (o321 P)) .nil)) (nd (o97 P) (nd (o161 P) (lf (o289 P)) .nil) (nd (o225 P) (lf (o353 P)) .nil))) (nd (o49 P) (nd (o81 P) (nd (o145 P) (lf (o273 P)) .nil) (nd (o209 P) (lf (o337 P)) .nil)) (nd (o113 P) (nd (o177 P) (lf (o305 P)) .nil) (lf (o241 P))))) (nd (o25 P) (nd (o41 P) (nd (o73 P) (nd (o137 P) (lf (o265 P)) .nil) (nd (o201 P) (lf (o329 P)) .nil)) (nd (o105 P) (nd (o169 P) (lf (o297 P)) .nil) (nd (o233 P) (lf (o361 P)) .nil))) (nd (o57 P) (nd (o89 P) (nd (o153 P) (lf (o281 P)) .nil) (nd (o217 P) (lf (o345 P)) .nil)) (nd (o121 P) (nd (o185 P) (lf (o313 P)) .nil) (lf (o249 P)))))) (nd (o13 P) (nd (o21 P) (nd (o37 P) (nd (o69 P) (nd (o133 P) (lf (o261 P)) .nil) (nd (o197 P) (lf (o325 P)) .nil)) (nd (o101 P) (nd (o165 P) (lf (o293 P)) .nil) (nd (o229 P) (lf (o357 P)) .nil))) (nd (o53 P) (nd (o85 P) (nd (o149 P) (lf (o277 P)) .nil) (nd (o213 P) (lf (o341 P)) .nil)) (nd (o117 P) (nd (o181 P) (lf (o309 P)) .nil) (lf (o245 P))))) (nd (o29 P) (nd (o45 P) (nd (o77 P) (nd (o141 P) (lf (o269 P)) .nil) (nd (o205 P) (lf (o333 P)) .nil)) (nd (o109 P) (nd (o173 P) (lf (o301 P)) .nil) (lf (o237 P)))) (nd (o61 P) (nd (o93 P) (nd (o157 P) (lf (o285 P)) .nil) (nd (o221 P) (lf (o349 P)) .nil)) (nd (o125 P) (nd (o189 P) (lf (o317 P)) .nil) (lf (o253 P)))))))) (nd (boot_o_2 P) (nd (boot_o_4 P) (nd (boot_o_8 P) (nd (o16 P) (nd (o32 P) (nd (o64 P) (nd (o128 P) (lf (o256 P)) .nil) (nd (o192 P) (lf (o320 P)) .nil)) (nd (o96 P) (nd (o160 P) (lf (o288 P)) .nil) (nd (o224 P) (lf (o352 P)) .nil))) (nd (o48 P) (nd (o80 P) (nd (o144 P) (lf (o272 P)) .nil) (nd (o208 P) (lf (o336 P)) .nil)) (nd (o112 P) (nd (o176 P) (lf (o304 P)) .nil) (lf (o240 P))))) (nd (o24 P) (nd (o40 P) (nd (o72 P) (nd (o136 P) (lf (o264 P)) .nil) (nd (o200 P) (lf (o328 P)) .nil)) (nd (o104 P) (nd (o168 P) (lf (o296 P)) .nil) (nd (o232 P) (lf (o360 P)) .nil))) (nd (o56 P) (nd (o88 P) (nd (o152 P) (lf (o280 P)) .nil) (nd (o216 P) (lf (o344 P)) .nil)) (nd (o120 P) (nd (o184 P) (lf (o312 P)) .nil) (lf (o248 P)))))) (nd (o12_12 P) (nd (o20 P) (nd (o36 P) (nd (o68 P) (nd (o132 P) (lf (o260 P)) .nil) (nd (o196 P) (lf (o324 P)) .nil)) (nd (o100 P) (nd (o164 P) (lf (o292 P)) .nil) (nd (o228 P) (lf (o356 P)) .nil))) (nd (o52 P) (nd (o84 P) (nd (o148 P) (lf (o276 P)) .nil) (nd (o212 P) (lf (o340 P)) .nil)) (nd (o116 P) (nd (o180 P) (lf (o308 P)) .nil) (lf (o244 P))))) (nd (o28 P) (nd (o44 P) (nd (o76 P) (nd (o140 P) (lf (o268 P)) .nil) (nd (o204 P) (lf (o332 P)) .nil)) (nd (o108 P) (nd (o172 P) (lf (o300 P)) .nil) (lf (o236 P)))) (nd (o60 P) (nd (o92 P) (nd (o156 P) (lf (o284 P)) .nil) (nd (o220 P) (lf (o348 P)) .nil)) (nd (o124 P) (nd (o188 P) (lf (o316 P)) .nil) (lf (o252 P))))))) (nd (boot_o_6 P) (nd (boot_o_10 P) (nd (o18 P) (nd (o34 P) (nd (o66 P) (nd (o130 P) (lf (o258 P)) .nil) (nd (o194 P) (lf (o322 P)) .nil)) (nd (o98 P) (nd (o162 P) (lf (o290 P)) .nil) (nd (o226 P) (lf (o354 P)) .nil))) (nd (o50 P) (nd (o82 P) (nd (o146 P) (lf (o274 P)) .nil) (nd (o210 P) (lf (o338 P)) .nil)) (nd (o114 P) (nd (o178 P) (lf (o306 P)) .nil) (lf (o242 P))))) (nd (o26 P) (nd (o42 P) (nd (o74 P) (nd (o138 P) (lf (o266 P)) .nil) (nd (o202 P) (lf (o330 P)) .nil)) (nd (o106 P) (nd (o170 P) (lf (o298 P)) .nil) (nd (o234 P) (lf (o362 P)) .nil))) (nd (o58 P) (nd (o90 P) (nd (o154 P) (lf (o282 P)) .nil) (nd (o218 P) (lf (o346 P)) .nil)) (nd (o122 P) (nd (o186 P) (lf (o314 P)) .nil) (lf (o250 P)))))) (nd (o14 P) (nd (o22 P) (nd (o38 P) (nd (o70 P) (nd (o134 P) (lf (o262 P)) .nil) (nd (o198 P) (lf (o326 P)) .nil)) (nd (o102 P) (nd (o166 P) (lf (o294 P)) .nil) (nd (o230 P) (lf (o358 P)) .nil))) (nd (o54 P) (nd (o86 P) (nd (o150 P) (lf (o278 P)) .nil) (nd (o214 P) (lf (o342 P)) .nil)) (nd (o118 P) (nd (o182 P) (lf (o310 P)) .nil) (lf (o246 P))))) (nd (o30 P) (nd (o46 P) (nd (o78 P) (nd (o142 P) (lf (o270 P)) .nil) (nd (o206 P) (lf (o334 P)) .nil)) (nd (o110 P) (nd (o174 P) (lf (o302 P)) .nil) (lf (o238 P)))) (nd (o62 P) (nd (o94 P) (nd (o158 P) (lf (o286 P)) .nil) (nd (o222 P) (lf (o350 P)) .nil)) (nd (o126 P) (nd (o190 P) (lf (o318 P)) .nil) (lf (o254 P)))))))))
noncomputable def o3_16 : PO := fun P => ⟨(.type "dict"), none, (.dict #[ke P "__name__" 165 (.str "gluepage.fonts" 608), ke P "__doc__" 166 .none, ke P "__package__" 167 .none, ke P "__loader__" 168 (.builtin "__main__.__loader__#opaque"), ke P "__spec__" 169 .none, ke P "__annotations__" 170 (.ref 6), ke P "__builtins__" 171 (.ref 4), ke P "__file__" 173 (.str "/claim/cut.py" 172), ke P "__cached__" 174 .none, ke P "_wall" 193 (.ref 21), ke P "PageError" 223 (.ref 39), ke P "BadArgument" 239 (.ref 52), ke P "Overflow" 255 (.ref 64), ke P "BadMath" 271 (.ref 76), ke P "BadFont" 287 (.ref 88), ke P "TooMuch" 303 (.ref 100), ke P "MAX_DIMEN" 311 (.int 1073741823 310), ke P "is_whole" 320 (.ref 109), ke P "check_whole" 327 (.ref 116), ke P "check_dimen" 334 (.ref 123), ke P "halved" 341 (.ref 130), ke P "DELIM1" 347 (.int 20 344), ke P "DELIM2" 348 (.int 21 345), ke P "AXIS_HEIGHT" 349 (.int 22 346), ke P "check_math_char" 357 (.ref 141), ke P "check_delimiter" 364 (.ref 148), ke P "Families" 437 (.ref 200), ke P "CHAR" 448 (.int 0 440), ke P "LIGATURE" 449 (.int 1 441), ke P "HBOX" 450 (.int 2 442), ke P "VBOX" 451 (.int 3 443), ke P "RULE" 452 (.int 4 444), ke P "KERN" 453 (.int 5 445), ke P "GLUE" 454 (.int 6 446), ke P "PENALTY" 455 (.int 7 447), ke P "NATURAL" 459 (.int 0 456), ke P "STRETCHED" 460 (.int 1 457), ke P "SHRUNK" 461 (.int 2 458), ke P "check_code" 468 (.ref 219), ke P "Char" 500 (.ref 236), ke P "Box" 541 (.ref 257), ke P "MOST_PIECES" 545 (.int 200 544), ke P "shifted" 553 (.ref 268), ke P "empty_box" 561 (.ref 276), ke P "char_box" 569 (.ref 283), ke P "grown" 587 (.ref 290), ke P "pieces_box" 593 (.ref 295), ke P "delimiter_box" 607 (.ref 303), ke P "EDGE" 611 (.int 256 610), ke P "MOST_FONTS" 613 (.int 255 612), ke P "MOST_PARAMS" 615 (.int 64 614), ke P "MOST_SIZE" 621 (.int 134217727 620), ke P "PLAIN_SORT" 626 (.int 0 622), ke P "PROGRAM_SORT" 627 (.int 1 623), ke P "LARGER_SORT" 628 (.int 2 624), ke P "PIECES_SORT" 629 (.int 3 625), ke P "STOP_SKIP" 633 (.int 128 630), ke P "KERN_OP" 634 (.int 128 631), ke P "LEAD" 635 (.int 255 632), ke P "NO_CHARACTER" 642 (.ref 312), ke P "LETTERS" 644 (.str "abcdefghjklmnopqrstuvwxyz" 643), ke P "SMALL_PARAMS" 652 (.ref 313), ke P "is_size" 659 (.ref 320), ke P "check_sizes" 667 (.ref 327), ke P "check_pieces" 677 (.ref 334), ke P "check_chars" 689 (.ref 341), ke P "check_larger" 699 (.ref 348), ke P "check_program" 717 (.ref 355), ke P "left_start" 728 (.ref 362), ke P "Font" 859 (.ref 452)] 70), #[]⟩
noncomputable def o12_13 : PO := fun _ => ⟨.none, none, (.fields #[(.int 1 0), (.int 0 0), (.ref 20), (.int 5 0), (.int 0 0), (.ref 27), (.int 9 0), (.int 0 0), (.ref 48), (.int 11 0), (.int 0 0), (.ref 60), (.int 13 0), (.int 0 0), (.ref 72), (.int 15 0), (.int 0 0), (.ref 84), (.int 17 0), (.int 0 0), (.ref 96), (.int 21 0), (.int 0 0), (.ref 108), (.int 23 0), (.int 0 0), (.ref 115), (.int 27 0), (.int 0 0), (.ref 122), (.int 31 0), (.int 0 0), (.ref 129), (.int 35 0), (.int 0 0), (.ref 140), (.int 38 0), (.int 0 0), (.ref 147), (.int 44 0), (.int 0 0), (.ref 154), (.int 72 0), (.int 0 0), (.ref 218), (.int 76 0), (.int 0 0), (.ref 225), (.int 82 0), (.int 0 0), (.ref 246), (.int 98 0), (.int 0 0), (.ref 267), (.int 101 0), (.int 0 0), (.ref 275), (.int 103 0), (.int 0 0), (.ref 282), (.int 105 0), (.int 0 0), (.ref 289), (.int 124 0), (.int 0 0), (.ref 294), (.int 144 0), (.int 0 0), (.ref 302), (.int 163 0), (.int 0 0), (.ref 319), (.int 165 0), (.int 0 0), (.ref 326), (.int 169 0), (.int 0 0), (.ref 333), (.int 175 0), (.int 0 0), (.ref 340), (.int 187 0), (.int 0 0), (.ref 347), (.int 195 0), (.int 0 0), (.ref 354), (.int 214 0), (.int 0 0), (.ref 361), (.int 219 0), (.int 0 0), (.ref 368)]), #[]⟩
noncomputable def o363 : PO := fun _ => ⟨(.type "tuple"), none, (.seq #[] 0), #[]⟩
noncomputable def o364 : PO := fun _ => ⟨(.type "builtin_function_or_method"), none, (.fields #[(.builtin "type.__prepare__"), (.type "type")]), #[]⟩
noncomputable def o365 : PO := fun P => ⟨(.type "dict"), none, (.dict #[ke P "__module__" 736 (.str "gluepage.fonts" 608), ke P "__qualname__" 738 (.str "Font" 737), ke P "__firstlineno__" 740 (.int 219 739), ke P "__init__" 755 (.ref 379), ke P "has" 763 (.ref 386), ke P "width" 771 (.ref 393), ke P "height" 779 (.ref 400), ke P "depth" 787 (.ref 407), ke P "italic" 795 (.ref 414), ke P "starts" 803 (.ref 421), ke P "larger" 812 (.ref 428), ke P "pieces" 821 (.ref 435), ke P "param" 829 (.ref 442), ke P "set_param" 838 (.ref 449), ke P "__static_attributes__" 852 (.ref 450)] 15), #[]⟩
noncomputable def o366 : PO := fun _ => ⟨(.type "tuple"), none, (.seq #[] 0), #[]⟩
noncomputable def o367 : PO := fun _ => ⟨.none, none, (.fields #[(.int 221 0), (.int 4 0), (.ref 378), (.int 245 0), (.int 4 0), (.ref 385), (.int 248 0), (.int 4 0), (.ref 392), (.int 251 0), (.int 4 0), (.ref 399), (.int 254 0), (.int 4 0), (.ref 406), (.int 257 0), (.int 4 0), (.ref 413), (.int 260 0), (.int 4 0), (.ref 420), (.int 263 0), (.int 4 0), (.ref 427), (.int 267 0), (.int 4 0), (.ref 434), (.int 271 0), (.int 4 0), (.ref 441), (.int 274 0), (.int 4 0), (.ref 448)]), #[]⟩
noncomputable def o368 : PO := fun _ => ⟨(.type "code"), none, (.fields #[(.str "Font" 731), (.str "Font" 732), (.str "/claim/cut.py" 733), (.int 219 0), (.int 0 0), (.int 0 0), (.int 0 0), (.int 0 0), (.ref 366), (.bool false), (.int 181 0), (.ref 367), .none, .none, .none, .none, (.int 734 0), (.int 219 0), (.str "/claim/cut.py" 735)]), #[]⟩
noncomputable def o369 : PO := fun _ => ⟨(.type "frame"), none, .plain, #[(some (.ref 368)), (some (.ref 3)), (some (.ref 365)), none, (some (.str "gluepage.fonts" 608)), none, (some (.ref 0))]⟩
noncomputable def o370 : PO := fun _ => ⟨(.type "tuple"), none, (.seq #[] 0), #[]⟩
noncomputable def o371 : PO := fun _ => ⟨(.type "tuple"), none, (.seq #[] 0), #[]⟩
noncomputable def o372 : PO := fun _ => ⟨(.type "tuple"), none, (.seq #[(.ref 370), (.ref 371), (.int 256 610)] 0), #[]⟩
noncomputable def o373 : PO := fun _ => ⟨(.type "tuple"), none, (.seq #[] 0), #[]⟩
noncomputable def o374 : PO := fun _ => ⟨.none, none, (.fields #[]), #[]⟩
noncomputable def o375 : PO := fun _ => ⟨(.type "tuple"), none, (.seq #[(.str "self" 744), (.str "number" 745), (.str "name" 746), (.str "size" 747), (.str "params" 748), (.str "chars" 749), (.str "program" 750), (.str "kerns" 751), (.str "boundary" 752)] 0), #[]⟩
noncomputable def o376 : PO := fun _ => ⟨(.type "tuple"), none, (.seq #[] 0), #[]⟩
noncomputable def o377 : PO := fun _ => ⟨.none, none, (.func (fnD (inC 50 0) "Font.__init__" .none .none .none .none .none .none 0 0)), #[]⟩
noncomputable def o378 : PO := fun _ => ⟨(.type "code"), none, (.fields #[(.str "__init__" 741), (.str "Font.__init__" 742), (.str "/claim/cut.py" 743), (.int 221 0), (.int 9 0), (.int 0 0), (.int 0 0), (.int 3 0), (.ref 373), (.bool true), (.int 181 0), (.ref 374), .none, (.ref 375), (.ref 376), (.ref 377), (.int 753 0), (.int 221 0), (.str "/claim/cut.py" 754)]), #[]⟩
noncomputable def o379 : PO := fun _ => ⟨(.type "function"), none, (.func (fnD (inC 50 0) "Font.__init__" (.ref 372) .none .none (.str "gluepage.fonts" 608) (.ref 378) .none 3 0)), #[]⟩
noncomputable def o380 : PO := fun _ => ⟨(.type "tuple"), none, (.seq #[] 0), #[]⟩
noncomputable def o381 : PO := fun _ => ⟨.none, none, (.fields #[]), #[]⟩
noncomputable def o382 : PO := fun _ => ⟨(.type "tuple"), none, (.seq #[(.str "self" 759), (.str "code" 760)] 0), #[]⟩
noncomputable def o383 : PO := fun _ => ⟨(.type "tuple"), none, (.seq #[] 0), #[]⟩
noncomputable def o384 : PO := fun _ => ⟨.none, none, (.func (fnD (inC 50 1) "Font.has" .none .none .none .none .none .none 0 0)), #[]⟩
noncomputable def o385 : PO := fun _ => ⟨(.type "code"), none, (.fields #[(.str "has" 756), (.str "Font.has" 757), (.str "/claim/cut.py" 758), (.int 245 0), (.int 2 0), (.int 0 0), (.int 0 0), (.int 3 0), (.ref 380), (.bool true), (.int 181 0), (.ref 381), .none, (.ref 382), (.ref 383), (.ref 384), (.int 761 0), (.int 245 0), (.str "/claim/cut.py" 762)]), #[]⟩
noncomputable def o386 : PO := fun _ => ⟨(.type "function"), none, (.func (fnD (inC 50 1) "Font.has" .none .none .none (.str "gluepage.fonts" 608) (.ref 385) .none 3 0)), #[]⟩
noncomputable def o387 : PO := fun _ => ⟨(.type "tuple"), none, (.seq #[] 0), #[]⟩
noncomputable def o388 : PO := fun _ => ⟨.none, none, (.fields #[]), #[]⟩
noncomputable def o389 : PO := fun _ => ⟨(.type "tuple"), none, (.seq #[(.str "self" 767), (.str "code" 768)] 0), #[]⟩
noncomputable def o390 : PO := fun _ => ⟨(.type "tuple"), none, (.seq #[] 0), #[]⟩
noncomputable def o391 : PO := fun _ => ⟨.none, none, (.func (fnD (inC 50 2) "Font.width" .none .none .none .none .none .none 0 0)), #[]⟩
noncomputable def o392 : PO := fun _ => ⟨(.type "code"), none, (.fields #[(.str "width" 764), (.str "Font.width" 765), (.str "/claim/cut.py" 766), (.int 248 0), (.int 2 0), (.int 0 0), (.int 0 0), (.int 3 0), (.ref 387), (.bool true), (.int 181 0), (.ref 388), .none, (.ref 389), (.ref 390), (.ref 391), (.int 769 0), (.int 248 0), (.str "/claim/cut.py" 770)]), #[]⟩
noncomputable def o393 : PO := fun _ => ⟨(.type "function"), none, (.func (fnD (inC 50 2) "Font.width" .none .none .none (.str "gluepage.fonts" 608) (.ref 392) .none 3 0)), #[]⟩
noncomputable def o394 : PO := fun _ => ⟨(.type "tuple"), none, (.seq #[] 0), #[]⟩
noncomputable def o395 : PO := fun _ => ⟨.none, none, (.fields #[]), #[]⟩
noncomputable def o396 : PO := fun _ => ⟨(.type "tuple"), none, (.seq #[(.str "self" 775), (.str "code" 776)] 0), #[]⟩
noncomputable def o397 : PO := fun _ => ⟨(.type "tuple"), none, (.seq #[] 0), #[]⟩
noncomputable def o398 : PO := fun _ => ⟨.none, none, (.func (fnD (inC 50 3) "Font.height" .none .none .none .none .none .none 0 0)), #[]⟩
noncomputable def o399 : PO := fun _ => ⟨(.type "code"), none, (.fields #[(.str "height" 772), (.str "Font.height" 773), (.str "/claim/cut.py" 774), (.int 251 0), (.int 2 0), (.int 0 0), (.int 0 0), (.int 3 0), (.ref 394), (.bool true), (.int 181 0), (.ref 395), .none, (.ref 396), (.ref 397), (.ref 398), (.int 777 0), (.int 251 0), (.str "/claim/cut.py" 778)]), #[]⟩
noncomputable def o400 : PO := fun _ => ⟨(.type "function"), none, (.func (fnD (inC 50 3) "Font.height" .none .none .none (.str "gluepage.fonts" 608) (.ref 399) .none 3 0)), #[]⟩
noncomputable def o401 : PO := fun _ => ⟨(.type "tuple"), none, (.seq #[] 0), #[]⟩
noncomputable def o402 : PO := fun _ => ⟨.none, none, (.fields #[]), #[]⟩
noncomputable def o403 : PO := fun _ => ⟨(.type "tuple"), none, (.seq #[(.str "self" 783), (.str "code" 784)] 0), #[]⟩
noncomputable def o404 : PO := fun _ => ⟨(.type "tuple"), none, (.seq #[] 0), #[]⟩
noncomputable def o405 : PO := fun _ => ⟨.none, none, (.func (fnD (inC 50 4) "Font.depth" .none .none .none .none .none .none 0 0)), #[]⟩
noncomputable def o406 : PO := fun _ => ⟨(.type "code"), none, (.fields #[(.str "depth" 780), (.str "Font.depth" 781), (.str "/claim/cut.py" 782), (.int 254 0), (.int 2 0), (.int 0 0), (.int 0 0), (.int 3 0), (.ref 401), (.bool true), (.int 181 0), (.ref 402), .none, (.ref 403), (.ref 404), (.ref 405), (.int 785 0), (.int 254 0), (.str "/claim/cut.py" 786)]), #[]⟩
noncomputable def o407 : PO := fun _ => ⟨(.type "function"), none, (.func (fnD (inC 50 4) "Font.depth" .none .none .none (.str "gluepage.fonts" 608) (.ref 406) .none 3 0)), #[]⟩
noncomputable def o408 : PO := fun _ => ⟨(.type "tuple"), none, (.seq #[] 0), #[]⟩
noncomputable def o409 : PO := fun _ => ⟨.none, none, (.fields #[]), #[]⟩
noncomputable def o410 : PO := fun _ => ⟨(.type "tuple"), none, (.seq #[(.str "self" 791), (.str "code" 792)] 0), #[]⟩
noncomputable def o411 : PO := fun _ => ⟨(.type "tuple"), none, (.seq #[] 0), #[]⟩
noncomputable def o412 : PO := fun _ => ⟨.none, none, (.func (fnD (inC 50 5) "Font.italic" .none .none .none .none .none .none 0 0)), #[]⟩
noncomputable def o413 : PO := fun _ => ⟨(.type "code"), none, (.fields #[(.str "italic" 788), (.str "Font.italic" 789), (.str "/claim/cut.py" 790), (.int 257 0), (.int 2 0), (.int 0 0), (.int 0 0), (.int 3 0), (.ref 408), (.bool true), (.int 181 0), (.ref 409), .none, (.ref 410), (.ref 411), (.ref 412), (.int 793 0), (.int 257 0), (.str "/claim/cut.py" 794)]), #[]⟩
noncomputable def o414 : PO := fun _ => ⟨(.type "function"), none, (.func (fnD (inC 50 5) "Font.italic" .none .none .none (.str "gluepage.fonts" 608) (.ref 413) .none 3 0)), #[]⟩
noncomputable def o415 : PO := fun _ => ⟨(.type "tuple"), none, (.seq #[] 0), #[]⟩
noncomputable def o416 : PO := fun _ => ⟨.none, none, (.fields #[]), #[]⟩
noncomputable def o417 : PO := fun _ => ⟨(.type "tuple"), none, (.seq #[(.str "self" 799), (.str "code" 800)] 0), #[]⟩
noncomputable def o418 : PO := fun _ => ⟨(.type "tuple"), none, (.seq #[] 0), #[]⟩
noncomputable def o419 : PO := fun _ => ⟨.none, none, (.func (fnD (inC 50 6) "Font.starts" .none .none .none .none .none .none 0 0)), #[]⟩
noncomputable def o420 : PO := fun _ => ⟨(.type "code"), none, (.fields #[(.str "starts" 796), (.str "Font.starts" 797), (.str "/claim/cut.py" 798), (.int 260 0), (.int 2 0), (.int 0 0), (.int 0 0), (.int 3 0), (.ref 415), (.bool true), (.int 181 0), (.ref 416), .none, (.ref 417), (.ref 418), (.ref 419), (.int 801 0), (.int 260 0), (.str "/claim/cut.py" 802)]), #[]⟩
noncomputable def o421 : PO := fun _ => ⟨(.type "function"), none, (.func (fnD (inC 50 6) "Font.starts" .none .none .none (.str "gluepage.fonts" 608) (.ref 420) .none 3 0)), #[]⟩
noncomputable def o422 : PO := fun _ => ⟨(.type "tuple"), none, (.seq #[] 0), #[]⟩
noncomputable def o423 : PO := fun _ => ⟨.none, none, (.fields #[]), #[]⟩
noncomputable def o424 : PO := fun _ => ⟨(.type "tuple"), none, (.seq #[(.str "self" 807), (.str "code" 808), (.str "row" 809)] 0), #[]⟩
noncomputable def o425 : PO := fun _ => ⟨(.type "tuple"), none, (.seq #[] 0), #[]⟩
noncomputable def o426 : PO := fun _ => ⟨.none, none, (.func (fnD (inC 50 7) "Font.larger" .none .none .none .none .none .none 0 0)), #[]⟩
noncomputable def o427 : PO := fun _ => ⟨(.type "code"), none, (.fields #[(.str "larger" 804), (.str "Font.larger" 805), (.str "/claim/cut.py" 806), (.int 263 0), (.int 2 0), (.int 0 0), (.int 0 0), (.int 3 0), (.ref 422), (.bool true), (.int 181 0), (.ref 423), .none, (.ref 424), (.ref 425), (.ref 426), (.int 810 0), (.int 263 0), (.str "/claim/cut.py" 811)]), #[]⟩
noncomputable def o428 : PO := fun _ => ⟨(.type "function"), none, (.func (fnD (inC 50 7) "Font.larger" .none .none .none (.str "gluepage.fonts" 608) (.ref 427) .none 3 0)), #[]⟩
noncomputable def o429 : PO := fun _ => ⟨(.type "tuple"), none, (.seq #[] 0), #[]⟩
noncomputable def o430 : PO := fun _ => ⟨.none, none, (.fields #[]), #[]⟩
noncomputable def o431 : PO := fun _ => ⟨(.type "tuple"), none, (.seq #[(.str "self" 816), (.str "code" 817), (.str "row" 818)] 0), #[]⟩
noncomputable def o432 : PO := fun _ => ⟨(.type "tuple"), none, (.seq #[] 0), #[]⟩
noncomputable def o433 : PO := fun _ => ⟨.none, none, (.func (fnD (inC 50 8) "Font.pieces" .none .none .none .none .none .none 0 0)), #[]⟩
noncomputable def o434 : PO := fun _ => ⟨(.type "code"), none, (.fields #[(.str "pieces" 813), (.str "Font.pieces" 814), (.str "/claim/cut.py" 815), (.int 267 0), (.int 2 0), (.int 0 0), (.int 0 0), (.int 3 0), (.ref 429), (.bool true), (.int 181 0), (.ref 430), .none, (.ref 431), (.ref 432), (.ref 433), (.int 819 0), (.int 267 0), (.str "/claim/cut.py" 820)]), #[]⟩
noncomputable def o435 : PO := fun _ => ⟨(.type "function"), none, (.func (fnD (inC 50 8) "Font.pieces" .none .none .none (.str "gluepage.fonts" 608) (.ref 434) .none 3 0)), #[]⟩
noncomputable def o436 : PO := fun _ => ⟨(.type "tuple"), none, (.seq #[] 0), #[]⟩
noncomputable def o437 : PO := fun _ => ⟨.none, none, (.fields #[]), #[]⟩
noncomputable def o438 : PO := fun _ => ⟨(.type "tuple"), none, (.seq #[(.str "self" 825), (.str "number" 826)] 0), #[]⟩
noncomputable def o439 : PO := fun _ => ⟨(.type "tuple"), none, (.seq #[] 0), #[]⟩
noncomputable def o440 : PO := fun _ => ⟨.none, none, (.func (fnD (inC 50 9) "Font.param" .none .none .none .none .none .none 0 0)), #[]⟩
noncomputable def o441 : PO := fun _ => ⟨(.type "code"), none, (.fields #[(.str "param" 822), (.str "Font.param" 823), (.str "/claim/cut.py" 824), (.int 271 0), (.int 2 0), (.int 0 0), (.int 0 0), (.int 3 0), (.ref 436), (.bool true), (.int 181 0), (.ref 437), .none, (.ref 438), (.ref 439), (.ref 440), (.int 827 0), (.int 271 0), (.str "/claim/cut.py" 828)]), #[]⟩
noncomputable def o442 : PO := fun _ => ⟨(.type "function"), none, (.func (fnD (inC 50 9) "Font.param" .none .none .none (.str "gluepage.fonts" 608) (.ref 441) .none 3 0)), #[]⟩
noncomputable def o443 : PO := fun _ => ⟨(.type "tuple"), none, (.seq #[] 0), #[]⟩
noncomputable def o444 : PO := fun _ => ⟨.none, none, (.fields #[]), #[]⟩
noncomputable def o445 : PO := fun _ => ⟨(.type "tuple"), none, (.seq #[(.str "self" 833), (.str "number" 834), (.str "value" 835)] 0), #[]⟩
noncomputable def o446 : PO := fun _ => ⟨(.type "tuple"), none, (.seq #[] 0), #[]⟩
noncomputable def o447 : PO := fun _ => ⟨.none, none, (.func (fnD (inC 50 10) "Font.set_param" .none .none .none .none .none .none 0 0)), #[]⟩
noncomputable def o448 : PO := fun _ => ⟨(.type "code"), none, (.fields #[(.str "set_param" 830), (.str "Font.set_param" 831), (.str "/claim/cut.py" 832), (.int 274 0), (.int 3 0), (.int 0 0), (.int 0 0), (.int 3 0), (.ref 443), (.bool true), (.int 181 0), (.ref 444), .none, (.ref 445), (.ref 446), (.ref 447), (.int 836 0), (.int 274 0), (.str "/claim/cut.py" 837)]), #[]⟩
noncomputable def o449 : PO := fun _ => ⟨(.type "function"), none, (.func (fnD (inC 50 10) "Font.set_param" .none .none .none (.str "gluepage.fonts" 608) (.ref 448) .none 3 0)), #[]⟩
noncomputable def o450 : PO := fun _ => ⟨(.type "tuple"), none, (.seq #[(.str "boundary" 839), (.str "chars" 840), (.str "check" 841), (.str "design" 842), (.str "edge_start" 843), (.str "hyphen_char" 844), (.str "kerns" 845), (.str "name" 846), (.str "number" 847), (.str "params" 848), (.str "program" 849), (.str "size" 850), (.str "skew_char" 851)] 0), #[]⟩
noncomputable def o451 : PO := fun P => ⟨(.type "dict"), none, (.dict #[ke P "__module__" 736 (.str "gluepage.fonts" 608), ke P "__firstlineno__" 740 (.int 219 739), ke P "__init__" 755 (.ref 379), ke P "has" 763 (.ref 386), ke P "width" 771 (.ref 393), ke P "height" 779 (.ref 400), ke P "depth" 787 (.ref 407), ke P "italic" 795 (.ref 414), ke P "starts" 803 (.ref 421), ke P "larger" 812 (.ref 428), ke P "pieces" 821 (.ref 435), ke P "param" 829 (.ref 442), ke P "set_param" 838 (.ref 449), ke P "__static_attributes__" 852 (.ref 450), ke P "__dict__" 854 (.ref 453), ke P "__weakref__" 856 (.ref 454), ke P "__doc__" 857 .none] 4), #[]⟩
noncomputable def o452 : PO := fun _ => ⟨(.type "type"), none, (.cls ⟨"Font", [(.type "object")], [(.ref 452), (.type "object")], 451, "Font", true, [], [], false, none, false⟩), #[none, none, (some (.str "Font" 729)), (some (.str "Font" 737)), (some (.builtin "object.__new__")), (some (.bool true))]⟩
noncomputable def o453 : PO := fun _ => ⟨(.type "getset_descriptor"), none, (.fields #[(.str "__dict__" 853), (.ref 452), (.builtin "function.__dict__"), (.builtin "function.__dict__#set")]), #[]⟩
noncomputable def o454 : PO := fun _ => ⟨(.type "getset_descriptor"), none, (.fields #[(.str "__weakref__" 855), (.ref 452), (.builtin "ExceptionGroup.__weakref__"), .none]), #[]⟩
noncomputable def o455 : PO := fun _ => ⟨(.type "super"), none, (.fields #[(.ref 452), (.ref 452), (.ref 452)]), #[]⟩
noncomputable def o456 : PO := fun _ => ⟨(.type "builtin_function_or_method"), none, (.fields #[(.builtin "object.__init_subclass__"), (.ref 452)]), #[]⟩
noncomputable def T15 : PB := fun P => (nd (boot_o_0 P) (nd (boot_o_1 P) (nd (o3_16 P) (nd (boot_o_7 P) (nd (o15 P) (nd (o31 P) (nd (o63 P) (nd (o127 P) (lf (o255 P)) (lf (o383 P))) (nd (o191 P) (lf (o319 P)) (lf (o447 P)))) (nd (o95 P) (nd (o159 P) (lf (o287 P)) (lf (o415 P))) (nd (o223 P) (lf (o351 P)) .nil))) (nd (o47 P) (nd (o79 P) (nd (o143 P) (lf (o271 P)) (lf (o399 P))) (nd (o207 P) (lf (o335 P)) .nil)) (nd (o111 P) (nd (o175 P) (lf (o303 P)) (lf (o431 P))) (nd (o239 P) (lf (o367 P)) .nil)))) (nd (o23 P) (nd (o39_5 P) (nd (o71 P) (nd (o135 P) (lf (o263 P)) (lf (o391 P))) (nd (o199 P) (lf (o327 P)) (lf (o455 P)))) (nd (o103 P) (nd (o167 P) (lf (o295 P)) (lf (o423 P))) (nd (o231 P) (lf (o359 P)) .nil))) (nd (o55 P) (nd (o87 P) (nd (o151 P) (lf (o279 P)) (lf (o407 P))) (nd (o215 P) (lf (o343 P)) .nil)) (nd (o119 P) (nd (o183 P) (lf (o311 P)) (lf (o439 P))) (nd (o247 P) (lf (o375 P)) .nil))))) (nd (o11 P) (nd (o19 P) (nd (o35 P) (nd (o67 P) (nd (o131 P) (lf (o259 P)) (lf (o387 P))) (nd (o195 P) (lf (o323 P)) (lf (o451 P)))) (nd (o99 P) (nd (o163 P) (lf (o291 P)) (lf (o419 P))) (nd (o227 P) (lf (o355 P)) .nil))) (nd (o51 P) (nd (o83 P) (nd (o147 P) (lf (o275 P)) (lf (o403 P))) (nd (o211 P) (lf (o339 P)) .nil)) (nd (o115 P) (nd (o179 P) (lf (o307 P)) (lf (o435 P))) (nd (o243 P) (lf (o371 P)) .nil)))) (nd (o27 P) (nd (o43 P) (nd (o75 P) (nd (o139 P) (lf (o267 P)) (lf (o395 P))) (nd (o203 P) (lf (o331 P)) .nil)) (nd (o107 P) (nd (o171 P) (lf (o299 P)) (lf (o427 P))) (nd (o235 P) (lf (o363 P)) .nil))) (nd (o59 P) (nd (o91 P) (nd (o155 P) (lf (o283 P)) (lf (o411 P))) (nd (o219 P) (lf (o347 P)) .nil)) (nd (o123 P) (nd (o187 P) (lf (o315 P)) (lf (o443 P))) (nd (o251 P) (lf (o379 P)) .nil)))))) (nd (boot_o_5 P) (nd (boot_o_9 P) (nd (o17 P) (nd (o33 P) (nd (o65 P) (nd (o129 P) (lf (o257 P)) (lf (o385 P))) (nd (o193 P) (lf (o321 P)) (lf (o449 P)))) (nd (o97 P) (nd (o161 P) (lf (o289 P)) (lf (o417 P))) (nd (o225 P) (lf (o353 P)) .nil))) (nd (o49 P) (nd (o81 P) (nd (o145 P) (lf (o273 P)) (lf (o401 P))) (nd (o209 P) (lf (o337 P)) .nil)) (nd (o113 P) (nd (o177 P) (lf (o305 P)) (lf (o433 P))) (nd (o241 P) (lf (o369 P)) .nil)))) (nd (o25 P) (nd (o41 P) (nd (o73 P) (nd (o137 P) (lf (o265 P)) (lf (o393 P))) (nd (o201 P) (lf (o329 P)) .nil)) (nd (o105 P) (nd (o169 P) (lf (o297 P)) (lf (o425 P))) (nd (o233 P) (lf (o361 P)) .nil))) (nd (o57 P) (nd (o89 P) (nd (o153 P) (lf (o281 P)) (lf (o409 P))) (nd (o217 P) (lf (o345 P)) .nil)) (nd (o121 P) (nd (o185 P) (lf (o313 P)) (lf (o441 P))) (nd (o249 P) (lf (o377 P)) .nil))))) (nd (o13 P) (nd (o21 P) (nd (o37 P) (nd (o69 P) (nd (o133 P) (lf (o261 P)) (lf (o389 P))) (nd (o197 P) (lf (o325 P)) (lf (o453 P)))) (nd (o101 P) (nd (o165 P) (lf (o293 P)) (lf (o421 P))) (nd (o229 P) (lf (o357 P)) .nil))) (nd (o53 P) (nd (o85 P) (nd (o149 P) (lf (o277 P)) (lf (o405 P))) (nd (o213 P) (lf (o341 P)) .nil)) (nd (o117 P) (nd (o181 P) (lf (o309 P)) (lf (o437 P))) (nd (o245 P) (lf (o373 P)) .nil)))) (nd (o29 P) (nd (o45 P) (nd (o77 P) (nd (o141 P) (lf (o269 P)) (lf (o397 P))) (nd (o205 P) (lf (o333 P)) .nil)) (nd (o109 P) (nd (o173 P) (lf (o301 P)) (lf (o429 P))) (nd (o237 P) (lf (o365 P)) .nil))) (nd (o61 P) (nd (o93 P) (nd (o157 P) (lf (o285 P)) (lf (o413 P))) (nd (o221 P) (lf (o349 P)) .nil)) (nd (o125 P) (nd (o189 P) (lf (o317 P)) (lf (o445 P))) (nd (o253 P) (lf (o381 P)) .nil))))))) (nd (boot_o_2 P) (nd (boot_o_4 P) (nd (boot_o_8 P) (nd (o16 P) (nd (o32 P) (nd (o64 P) (nd (o128 P) (lf (o256 P)) (lf (o384 P))) (nd (o192 P) (lf (o320 P)) (lf (o448 P)))) (nd (o96 P) (nd (o160 P) (lf (o288 P)) (lf (o416 P))) (nd (o224 P) (lf (o352 P)) .nil))) (nd (o48 P) (nd (o80 P) (nd (o144 P) (lf (o272 P)) (lf (o400 P))) (nd (o208 P) (lf (o336 P)) .nil)) (nd (o112 P) (nd (o176 P) (lf (o304 P)) (lf (o432 P))) (nd (o240 P) (lf (o368 P)) .nil)))) (nd (o24 P) (nd (o40 P) (nd (o72 P) (nd (o136 P) (lf (o264 P)) (lf (o392 P))) (nd (o200 P) (lf (o328 P)) (lf (o456 P)))) (nd (o104 P) (nd (o168 P) (lf (o296 P)) (lf (o424 P))) (nd (o232 P) (lf (o360 P)) .nil))) (nd (o56 P) (nd (o88 P) (nd (o152 P) (lf (o280 P)) (lf (o408 P))) (nd (o216 P) (lf (o344 P)) .nil)) (nd (o120 P) (nd (o184 P) (lf (o312 P)) (lf (o440 P))) (nd (o248 P) (lf (o376 P)) .nil))))) (nd (o12_13 P) (nd (o20 P) (nd (o36 P) (nd (o68 P) (nd (o132 P) (lf (o260 P)) (lf (o388 P))) (nd (o196 P) (lf (o324 P)) (lf (o452 P)))) (nd (o100 P) (nd (o164 P) (lf (o292 P)) (lf (o420 P))) (nd (o228 P) (lf (o356 P)) .nil))) (nd (o52 P) (nd (o84 P) (nd (o148 P) (lf (o276 P)) (lf (o404 P))) (nd (o212 P) (lf (o340 P)) .nil)) (nd (o116 P) (nd (o180 P) (lf (o308 P)) (lf (o436 P))) (nd (o244 P) (lf (o372 P)) .nil)))) (nd (o28 P) (nd (o44 P) (nd (o76 P) (nd (o140 P) (lf (o268 P)) (lf (o396 P))) (nd (o204 P) (lf (o332 P)) .nil)) (nd (o108 P) (nd (o172 P) (lf (o300 P)) (lf (o428 P))) (nd (o236 P) (lf (o364 P)) .nil))) (nd (o60 P) (nd (o92 P) (nd (o156 P) (lf (o284 P)) (lf (o412 P))) (nd (o220 P) (lf (o348 P)) .nil)) (nd (o124 P) (nd (o188 P) (lf (o316 P)) (lf (o444 P))) (nd (o252 P) (lf (o380 P)) .nil)))))) (nd (boot_o_6 P) (nd (boot_o_10 P) (nd (o18 P) (nd (o34 P) (nd (o66 P) (nd (o130 P) (lf (o258 P)) (lf (o386 P))) (nd (o194 P) (lf (o322 P)) (lf (o450 P)))) (nd (o98 P) (nd (o162 P) (lf (o290 P)) (lf (o418 P))) (nd (o226 P) (lf (o354 P)) .nil))) (nd (o50 P) (nd (o82 P) (nd (o146 P) (lf (o274 P)) (lf (o402 P))) (nd (o210 P) (lf (o338 P)) .nil)) (nd (o114 P) (nd (o178 P) (lf (o306 P)) (lf (o434 P))) (nd (o242 P) (lf (o370 P)) .nil)))) (nd (o26 P) (nd (o42 P) (nd (o74 P) (nd (o138 P) (lf (o266 P)) (lf (o394 P))) (nd (o202 P) (lf (o330 P)) .nil)) (nd (o106 P) (nd (o170 P) (lf (o298 P)) (lf (o426 P))) (nd (o234 P) (lf (o362 P)) .nil))) (nd (o58 P) (nd (o90 P) (nd (o154 P) (lf (o282 P)) (lf (o410 P))) (nd (o218 P) (lf (o346 P)) .nil)) (nd (o122 P) (nd (o186 P) (lf (o314 P)) (lf (o442 P))) (nd (o250 P) (lf (o378 P)) .nil))))) (nd (o14 P) (nd (o22 P) (nd (o38 P) (nd (o70 P) (nd (o134 P) (lf (o262 P)) (lf (o390 P))) (nd (o198 P) (lf (o326 P)) (lf (o454 P)))) (nd (o102 P) (nd (o166 P) (lf (o294 P)) (lf (o422 P))) (nd (o230 P) (lf (o358 P)) .nil))) (nd (o54 P) (nd (o86 P) (nd (o150 P) (lf (o278 P)) (lf (o406 P))) (nd (o214 P) (lf (o342 P)) .nil)) (nd (o118 P) (nd (o182 P) (lf (o310 P)) (lf (o438 P))) (nd (o246 P) (lf (o374 P)) .nil)))) (nd (o30 P) (nd (o46 P) (nd (o78 P) (nd (o142 P) (lf (o270 P)) (lf (o398 P))) (nd (o206 P) (lf (o334 P)) .nil)) (nd (o110 P) (nd (o174 P) (lf (o302 P)) (lf (o430 P))) (nd (o238 P) (lf (o366 P)) .nil))) (nd (o62 P) (nd (o94 P) (nd (o158 P) (lf (o286 P)) (lf (o414 P))) (nd (o222 P) (lf (o350 P)) .nil)) (nd (o126 P) (nd (o190 P) (lf (o318 P)) (lf (o446 P))) (nd (o254 P) (lf (o382 P)) .nil))))))))
noncomputable def o3_17 : PO := fun P => ⟨(.type "dict"), none, (.dict #[ke P "__name__" 165 (.str "law_sq0040_01" 883), ke P "__doc__" 166 .none, ke P "__package__" 167 .none, ke P "__loader__" 168 (.builtin "__main__.__loader__#opaque"), ke P "__spec__" 169 .none, ke P "__annotations__" 170 (.ref 6), ke P "__builtins__" 171 (.ref 4), ke P "__file__" 173 (.str "/claim/cut.py" 172), ke P "__cached__" 174 .none, ke P "_wall" 193 (.ref 21), ke P "PageError" 223 (.ref 39), ke P "BadArgument" 239 (.ref 52), ke P "Overflow" 255 (.ref 64), ke P "BadMath" 271 (.ref 76), ke P "BadFont" 287 (.ref 88), ke P "TooMuch" 303 (.ref 100), ke P "MAX_DIMEN" 311 (.int 1073741823 310), ke P "is_whole" 320 (.ref 109), ke P "check_whole" 327 (.ref 116), ke P "check_dimen" 334 (.ref 123), ke P "halved" 341 (.ref 130), ke P "DELIM1" 347 (.int 20 344), ke P "DELIM2" 348 (.int 21 345), ke P "AXIS_HEIGHT" 349 (.int 22 346), ke P "check_math_char" 357 (.ref 141), ke P "check_delimiter" 364 (.ref 148), ke P "Families" 437 (.ref 200), ke P "CHAR" 448 (.int 0 440), ke P "LIGATURE" 449 (.int 1 441), ke P "HBOX" 450 (.int 2 442), ke P "VBOX" 451 (.int 3 443), ke P "RULE" 452 (.int 4 444), ke P "KERN" 453 (.int 5 445), ke P "GLUE" 454 (.int 6 446), ke P "PENALTY" 455 (.int 7 447), ke P "NATURAL" 459 (.int 0 456), ke P "STRETCHED" 460 (.int 1 457), ke P "SHRUNK" 461 (.int 2 458), ke P "check_code" 468 (.ref 219), ke P "Char" 500 (.ref 236), ke P "Box" 541 (.ref 257), ke P "MOST_PIECES" 545 (.int 200 544), ke P "shifted" 553 (.ref 268), ke P "empty_box" 561 (.ref 276), ke P "char_box" 569 (.ref 283), ke P "grown" 587 (.ref 290), ke P "pieces_box" 593 (.ref 295), ke P "delimiter_box" 607 (.ref 303), ke P "EDGE" 611 (.int 256 610), ke P "MOST_FONTS" 613 (.int 255 612), ke P "MOST_PARAMS" 615 (.int 64 614), ke P "MOST_SIZE" 621 (.int 134217727 620), ke P "PLAIN_SORT" 626 (.int 0 622), ke P "PROGRAM_SORT" 627 (.int 1 623), ke P "LARGER_SORT" 628 (.int 2 624), ke P "PIECES_SORT" 629 (.int 3 625), ke P "STOP_SKIP" 633 (.int 128 630), ke P "KERN_OP" 634 (.int 128 631), ke P "LEAD" 635 (.int 255 632), ke P "NO_CHARACTER" 642 (.ref 312), ke P "LETTERS" 644 (.str "abcdefghjklmnopqrstuvwxyz" 643), ke P "SMALL_PARAMS" 652 (.ref 313), ke P "is_size" 659 (.ref 320), ke P "check_sizes" 667 (.ref 327), ke P "check_pieces" 677 (.ref 334), ke P "check_chars" 689 (.ref 341), ke P "check_larger" 699 (.ref 348), ke P "check_program" 717 (.ref 355), ke P "left_start" 728 (.ref 362), ke P "Font" 859 (.ref 452), ke P "font_name" 868 (.ref 463), ke P "font_of_rows" 882 (.ref 473), ke P "_law_jar" 890 (.ref 478), ke P "_law_take" 901 (.ref 485), ke P "_law_row" 912 (.ref 492), ke P "_law_fonts" 918 (.ref 497), ke P "_law_leads" 924 (.ref 502), ke P "_law_chain" 935 (.ref 509), ke P "_law_ways" 941 (.ref 514), ke P "_law_chosen" 947 (.ref 519), ke P "_law_letter_right" 953 (.ref 524), ke P "_law_pieces_right" 959 (.ref 529), ke P "law" 965 (.ref 534)] 83), #[]⟩
noncomputable def o12_14 : PO := fun _ => ⟨.none, none, (.fields #[(.int 1 0), (.int 0 0), (.ref 20), (.int 5 0), (.int 0 0), (.ref 27), (.int 9 0), (.int 0 0), (.ref 48), (.int 11 0), (.int 0 0), (.ref 60), (.int 13 0), (.int 0 0), (.ref 72), (.int 15 0), (.int 0 0), (.ref 84), (.int 17 0), (.int 0 0), (.ref 96), (.int 21 0), (.int 0 0), (.ref 108), (.int 23 0), (.int 0 0), (.ref 115), (.int 27 0), (.int 0 0), (.ref 122), (.int 31 0), (.int 0 0), (.ref 129), (.int 35 0), (.int 0 0), (.ref 140), (.int 38 0), (.int 0 0), (.ref 147), (.int 44 0), (.int 0 0), (.ref 154), (.int 72 0), (.int 0 0), (.ref 218), (.int 76 0), (.int 0 0), (.ref 225), (.int 82 0), (.int 0 0), (.ref 246), (.int 98 0), (.int 0 0), (.ref 267), (.int 101 0), (.int 0 0), (.ref 275), (.int 103 0), (.int 0 0), (.ref 282), (.int 105 0), (.int 0 0), (.ref 289), (.int 124 0), (.int 0 0), (.ref 294), (.int 144 0), (.int 0 0), (.ref 302), (.int 163 0), (.int 0 0), (.ref 319), (.int 165 0), (.int 0 0), (.ref 326), (.int 169 0), (.int 0 0), (.ref 333), (.int 175 0), (.int 0 0), (.ref 340), (.int 187 0), (.int 0 0), (.ref 347), (.int 195 0), (.int 0 0), (.ref 354), (.int 214 0), (.int 0 0), (.ref 361), (.int 219 0), (.int 0 0), (.ref 368), (.int 276 0), (.int 0 0), (.ref 462), (.int 283 0), (.int 0 0), (.ref 472), (.int 293 0), (.int 0 0), (.ref 477), (.int 295 0), (.int 0 0), (.ref 484), (.int 305 0), (.int 0 0), (.ref 491), (.int 314 0), (.int 0 0), (.ref 496), (.int 324 0), (.int 0 0), (.ref 501), (.int 327 0), (.int 0 0), (.ref 508), (.int 336 0), (.int 0 0), (.ref 513), (.int 343 0), (.int 0 0), (.ref 518), (.int 352 0), (.int 0 0), (.ref 523), (.int 355 0), (.int 0 0), (.ref 528), (.int 375 0), (.int 0 0), (.ref 533)]), #[]⟩
noncomputable def o457 : PO := fun _ => ⟨(.type "tuple"), none, (.seq #[] 0), #[]⟩
noncomputable def o458 : PO := fun _ => ⟨.none, none, (.fields #[]), #[]⟩
noncomputable def o459 : PO := fun _ => ⟨(.type "tuple"), none, (.seq #[(.str "number" 863), (.str "left" 864), (.str "found" 865)] 0), #[]⟩
noncomputable def o460 : PO := fun _ => ⟨(.type "tuple"), none, (.seq #[] 0), #[]⟩
noncomputable def o461 : PO := fun _ => ⟨.none, none, (.func (fnD (stN 51) "font_name" .none .none .none .none .none .none 0 0)), #[]⟩
noncomputable def o462 : PO := fun _ => ⟨(.type "code"), none, (.fields #[(.str "font_name" 860), (.str "font_name" 861), (.str "/claim/cut.py" 862), (.int 276 0), (.int 1 0), (.int 0 0), (.int 0 0), (.int 3 0), (.ref 457), (.bool true), (.int 181 0), (.ref 458), .none, (.ref 459), (.ref 460), (.ref 461), (.int 866 0), (.int 276 0), (.str "/claim/cut.py" 867)]), #[]⟩
noncomputable def o463 : PO := fun _ => ⟨(.type "function"), none, (.func (fnD (stN 51) "font_name" .none .none .none (.str "gluepage.fonts" 608) (.ref 462) .none 3 0)), #[]⟩
noncomputable def o464 : PO := fun _ => ⟨(.type "tuple"), none, (.seq #[] 0), #[]⟩
noncomputable def o465 : PO := fun _ => ⟨(.type "tuple"), none, (.seq #[] 0), #[]⟩
noncomputable def o466 : PO := fun _ => ⟨(.type "tuple"), none, (.seq #[(.ref 313), (.ref 464), (.ref 465), (.int 256 610)] 0), #[]⟩
noncomputable def o467 : PO := fun _ => ⟨(.type "tuple"), none, (.seq #[] 0), #[]⟩
noncomputable def o468 : PO := fun _ => ⟨.none, none, (.fields #[]), #[]⟩
noncomputable def o469 : PO := fun _ => ⟨(.type "tuple"), none, (.seq #[(.str "number" 872), (.str "rows" 873), (.str "params" 874), (.str "program" 875), (.str "kerns" 876), (.str "boundary" 877), (.str "chars" 878), (.str "row" 879)] 0), #[]⟩
noncomputable def o470 : PO := fun _ => ⟨(.type "tuple"), none, (.seq #[] 0), #[]⟩
noncomputable def o471 : PO := fun _ => ⟨.none, none, (.func (fnD (stN 52) "font_of_rows" .none .none .none .none .none .none 0 0)), #[]⟩
noncomputable def o472 : PO := fun _ => ⟨(.type "code"), none, (.fields #[(.str "font_of_rows" 869), (.str "font_of_rows" 870), (.str "/claim/cut.py" 871), (.int 283 0), (.int 6 0), (.int 0 0), (.int 0 0), (.int 3 0), (.ref 467), (.bool true), (.int 181 0), (.ref 468), .none, (.ref 469), (.ref 470), (.ref 471), (.int 880 0), (.int 283 0), (.str "/claim/cut.py" 881)]), #[]⟩
noncomputable def o473 : PO := fun _ => ⟨(.type "function"), none, (.func (fnD (stN 52) "font_of_rows" (.ref 466) .none .none (.str "gluepage.fonts" 608) (.ref 472) .none 3 0)), #[]⟩
noncomputable def o474 : PO := fun _ => ⟨(.type "tuple"), none, (.seq #[] 0), #[]⟩
noncomputable def o475 : PO := fun _ => ⟨.none, none, (.fields #[]), #[]⟩
noncomputable def o476 : PO := fun _ => ⟨.none, none, (.func (fnD (stN 54) "_law_jar" .none .none .none .none .none .none 0 0)), #[]⟩
noncomputable def o477 : PO := fun _ => ⟨(.type "code"), none, (.fields #[(.str "_law_jar" 885), (.str "_law_jar" 886), (.str "/claim/cut.py" 887), (.int 293 0), (.int 1 0), (.int 0 0), (.int 0 0), (.int 3 0), (.ref 474), (.bool true), (.int 181 0), (.ref 475), .none, .none, .none, (.ref 476), (.int 888 0), (.int 293 0), (.str "/claim/cut.py" 889)]), #[]⟩
noncomputable def o478 : PO := fun _ => ⟨(.type "function"), none, (.func (fnD (stN 54) "_law_jar" .none .none .none (.str "law_sq0040_01" 883) (.ref 477) .none 3 0)), #[]⟩
noncomputable def o479 : PO := fun _ => ⟨(.type "tuple"), none, (.seq #[] 0), #[]⟩
noncomputable def o480 : PO := fun _ => ⟨.none, none, (.fields #[]), #[]⟩
noncomputable def o481 : PO := fun _ => ⟨(.type "tuple"), none, (.seq #[(.str "jar" 894), (.str "many" 895), (.str "cells" 896), (.str "at" 897), (.str "digit" 898)] 0), #[]⟩
noncomputable def o482 : PO := fun _ => ⟨(.type "tuple"), none, (.seq #[] 0), #[]⟩
noncomputable def o483 : PO := fun _ => ⟨.none, none, (.func (fnD (stN 55) "_law_take" .none .none .none .none .none .none 0 0)), #[]⟩
noncomputable def o484 : PO := fun _ => ⟨(.type "code"), none, (.fields #[(.str "_law_take" 891), (.str "_law_take" 892), (.str "/claim/cut.py" 893), (.int 295 0), (.int 2 0), (.int 0 0), (.int 0 0), (.int 3 0), (.ref 479), (.bool true), (.int 181 0), (.ref 480), .none, (.ref 481), (.ref 482), (.ref 483), (.int 899 0), (.int 295 0), (.str "/claim/cut.py" 900)]), #[]⟩
noncomputable def o485 : PO := fun _ => ⟨(.type "function"), none, (.func (fnD (stN 55) "_law_take" .none .none .none (.str "law_sq0040_01" 883) (.ref 484) .none 3 0)), #[]⟩
noncomputable def o486 : PO := fun _ => ⟨(.type "tuple"), none, (.seq #[] 0), #[]⟩
noncomputable def o487 : PO := fun _ => ⟨.none, none, (.fields #[]), #[]⟩
noncomputable def o488 : PO := fun _ => ⟨(.type "tuple"), none, (.seq #[(.str "jar" 905), (.str "code" 906), (.str "sort" 907), (.str "sizes" 908), (.str "ends" 909)] 0), #[]⟩
noncomputable def o489 : PO := fun _ => ⟨(.type "tuple"), none, (.seq #[] 0), #[]⟩
noncomputable def o490 : PO := fun _ => ⟨.none, none, (.func (fnD (stN 56) "_law_row" .none .none .none .none .none .none 0 0)), #[]⟩
noncomputable def o491 : PO := fun _ => ⟨(.type "code"), none, (.fields #[(.str "_law_row" 902), (.str "_law_row" 903), (.str "/claim/cut.py" 904), (.int 305 0), (.int 2 0), (.int 0 0), (.int 0 0), (.int 3 0), (.ref 486), (.bool true), (.int 181 0), (.ref 487), .none, (.ref 488), (.ref 489), (.ref 490), (.int 910 0), (.int 305 0), (.str "/claim/cut.py" 911)]), #[]⟩
noncomputable def o492 : PO := fun _ => ⟨(.type "function"), none, (.func (fnD (stN 56) "_law_row" .none .none .none (.str "law_sq0040_01" 883) (.ref 491) .none 3 0)), #[]⟩
noncomputable def o493 : PO := fun _ => ⟨(.type "tuple"), none, (.seq #[] 0), #[]⟩
noncomputable def o494 : PO := fun _ => ⟨.none, none, (.fields #[]), #[]⟩
noncomputable def o495 : PO := fun _ => ⟨.none, none, (.func (fnD (stN 57) "_law_fonts" .none .none .none .none .none .none 0 0)), #[]⟩
noncomputable def o496 : PO := fun _ => ⟨(.type "code"), none, (.fields #[(.str "_law_fonts" 913), (.str "_law_fonts" 914), (.str "/claim/cut.py" 915), (.int 314 0), (.int 1 0), (.int 0 0), (.int 0 0), (.int 3 0), (.ref 493), (.bool true), (.int 181 0), (.ref 494), .none, .none, .none, (.ref 495), (.int 916 0), (.int 314 0), (.str "/claim/cut.py" 917)]), #[]⟩
noncomputable def o497 : PO := fun _ => ⟨(.type "function"), none, (.func (fnD (stN 57) "_law_fonts" .none .none .none (.str "law_sq0040_01" 883) (.ref 496) .none 3 0)), #[]⟩
noncomputable def o498 : PO := fun _ => ⟨(.type "tuple"), none, (.seq #[] 0), #[]⟩
noncomputable def o499 : PO := fun _ => ⟨.none, none, (.fields #[]), #[]⟩
noncomputable def o500 : PO := fun _ => ⟨.none, none, (.func (fnD (stN 58) "_law_leads" .none .none .none .none .none .none 0 0)), #[]⟩
noncomputable def o501 : PO := fun _ => ⟨(.type "code"), none, (.fields #[(.str "_law_leads" 919), (.str "_law_leads" 920), (.str "/claim/cut.py" 921), (.int 324 0), (.int 1 0), (.int 0 0), (.int 0 0), (.int 3 0), (.ref 498), (.bool true), (.int 181 0), (.ref 499), .none, .none, .none, (.ref 500), (.int 922 0), (.int 324 0), (.str "/claim/cut.py" 923)]), #[]⟩
noncomputable def o502 : PO := fun _ => ⟨(.type "function"), none, (.func (fnD (stN 58) "_law_leads" .none .none .none (.str "law_sq0040_01" 883) (.ref 501) .none 3 0)), #[]⟩
noncomputable def o503 : PO := fun _ => ⟨(.type "tuple"), none, (.seq #[] 0), #[]⟩
noncomputable def o504 : PO := fun _ => ⟨.none, none, (.fields #[]), #[]⟩
noncomputable def o505 : PO := fun _ => ⟨(.type "tuple"), none, (.seq #[(.str "rows" 928), (.str "code" 929), (.str "by_code" 930), (.str "found" 931), (.str "row" 932)] 0), #[]⟩
noncomputable def o506 : PO := fun _ => ⟨(.type "tuple"), none, (.seq #[] 0), #[]⟩
noncomputable def o507 : PO := fun _ => ⟨.none, none, (.func (fnD (stN 59) "_law_chain" .none .none .none .none .none .none 0 0)), #[]⟩
noncomputable def o508 : PO := fun _ => ⟨(.type "code"), none, (.fields #[(.str "_law_chain" 925), (.str "_law_chain" 926), (.str "/claim/cut.py" 927), (.int 327 0), (.int 2 0), (.int 0 0), (.int 0 0), (.int 3 0), (.ref 503), (.bool true), (.int 181 0), (.ref 504), .none, (.ref 505), (.ref 506), (.ref 507), (.int 933 0), (.int 327 0), (.str "/claim/cut.py" 934)]), #[]⟩
noncomputable def o509 : PO := fun _ => ⟨(.type "function"), none, (.func (fnD (stN 59) "_law_chain" .none .none .none (.str "law_sq0040_01" 883) (.ref 508) .none 3 0)), #[]⟩
noncomputable def o510 : PO := fun _ => ⟨(.type "tuple"), none, (.seq #[] 0), #[]⟩
noncomputable def o511 : PO := fun _ => ⟨.none, none, (.fields #[]), #[]⟩
noncomputable def o512 : PO := fun _ => ⟨.none, none, (.func (fnD (stN 60) "_law_ways" .none .none .none .none .none .none 0 0)), #[]⟩
noncomputable def o513 : PO := fun _ => ⟨(.type "code"), none, (.fields #[(.str "_law_ways" 936), (.str "_law_ways" 937), (.str "/claim/cut.py" 938), (.int 336 0), (.int 3 0), (.int 0 0), (.int 0 0), (.int 3 0), (.ref 510), (.bool true), (.int 181 0), (.ref 511), .none, .none, .none, (.ref 512), (.int 939 0), (.int 336 0), (.str "/claim/cut.py" 940)]), #[]⟩
noncomputable def o514 : PO := fun _ => ⟨(.type "function"), none, (.func (fnD (stN 60) "_law_ways" .none .none .none (.str "law_sq0040_01" 883) (.ref 513) .none 3 0)), #[]⟩
noncomputable def o515 : PO := fun _ => ⟨(.type "tuple"), none, (.seq #[] 0), #[]⟩
noncomputable def o516 : PO := fun _ => ⟨.none, none, (.fields #[]), #[]⟩
noncomputable def o517 : PO := fun _ => ⟨.none, none, (.func (fnD (stN 61) "_law_chosen" .none .none .none .none .none .none 0 0)), #[]⟩
noncomputable def o518 : PO := fun _ => ⟨(.type "code"), none, (.fields #[(.str "_law_chosen" 942), (.str "_law_chosen" 943), (.str "/claim/cut.py" 944), (.int 343 0), (.int 2 0), (.int 0 0), (.int 0 0), (.int 3 0), (.ref 515), (.bool true), (.int 181 0), (.ref 516), .none, .none, .none, (.ref 517), (.int 945 0), (.int 343 0), (.str "/claim/cut.py" 946)]), #[]⟩
noncomputable def o519 : PO := fun _ => ⟨(.type "function"), none, (.func (fnD (stN 61) "_law_chosen" .none .none .none (.str "law_sq0040_01" 883) (.ref 518) .none 3 0)), #[]⟩
noncomputable def o520 : PO := fun _ => ⟨(.type "tuple"), none, (.seq #[] 0), #[]⟩
noncomputable def o521 : PO := fun _ => ⟨.none, none, (.fields #[]), #[]⟩
noncomputable def o522 : PO := fun _ => ⟨.none, none, (.func (fnD (stN 62) "_law_letter_right" .none .none .none .none .none .none 0 0)), #[]⟩
noncomputable def o523 : PO := fun _ => ⟨(.type "code"), none, (.fields #[(.str "_law_letter_right" 948), (.str "_law_letter_right" 949), (.str "/claim/cut.py" 950), (.int 352 0), (.int 2 0), (.int 0 0), (.int 0 0), (.int 3 0), (.ref 520), (.bool true), (.int 181 0), (.ref 521), .none, .none, .none, (.ref 522), (.int 951 0), (.int 352 0), (.str "/claim/cut.py" 952)]), #[]⟩
noncomputable def o524 : PO := fun _ => ⟨(.type "function"), none, (.func (fnD (stN 62) "_law_letter_right" .none .none .none (.str "law_sq0040_01" 883) (.ref 523) .none 3 0)), #[]⟩
noncomputable def o525 : PO := fun _ => ⟨(.type "tuple"), none, (.seq #[] 0), #[]⟩
noncomputable def o526 : PO := fun _ => ⟨.none, none, (.fields #[]), #[]⟩
noncomputable def o527 : PO := fun _ => ⟨.none, none, (.func (fnD (stN 63) "_law_pieces_right" .none .none .none .none .none .none 0 0)), #[]⟩
noncomputable def o528 : PO := fun _ => ⟨(.type "code"), none, (.fields #[(.str "_law_pieces_right" 954), (.str "_law_pieces_right" 955), (.str "/claim/cut.py" 956), (.int 355 0), (.int 4 0), (.int 0 0), (.int 0 0), (.int 3 0), (.ref 525), (.bool true), (.int 181 0), (.ref 526), .none, .none, .none, (.ref 527), (.int 957 0), (.int 355 0), (.str "/claim/cut.py" 958)]), #[]⟩
noncomputable def o529 : PO := fun _ => ⟨(.type "function"), none, (.func (fnD (stN 63) "_law_pieces_right" .none .none .none (.str "law_sq0040_01" 883) (.ref 528) .none 3 0)), #[]⟩
noncomputable def o530 : PO := fun _ => ⟨(.type "tuple"), none, (.seq #[] 0), #[]⟩
noncomputable def o531 : PO := fun _ => ⟨.none, none, (.fields #[]), #[]⟩
noncomputable def o532 : PO := fun _ => ⟨.none, none, (.func (fnD (stN 64) "law" .none .none .none .none .none .none 0 0)), #[]⟩
noncomputable def o533 : PO := fun _ => ⟨(.type "code"), none, (.fields #[(.str "law" 960), (.str "law" 961), (.str "/claim/cut.py" 962), (.int 375 0), (.int 1 0), (.int 0 0), (.int 0 0), (.int 3 0), (.ref 530), (.bool true), (.int 181 0), (.ref 531), .none, .none, .none, (.ref 532), (.int 963 0), (.int 375 0), (.str "/claim/cut.py" 964)]), #[]⟩
noncomputable def o534 : PO := fun _ => ⟨(.type "function"), none, (.func (fnD (stN 64) "law" .none .none .none (.str "law_sq0040_01" 883) (.ref 533) .none 3 0)), #[]⟩
noncomputable def T16 : PB := fun P => (nd (boot_o_0 P) (nd (boot_o_1 P) (nd (o3_17 P) (nd (boot_o_7 P) (nd (o15 P) (nd (o31 P) (nd (o63 P) (nd (o127 P) (nd (o255 P) (lf (o511 P)) .nil) (lf (o383 P))) (nd (o191 P) (lf (o319 P)) (lf (o447 P)))) (nd (o95 P) (nd (o159 P) (lf (o287 P)) (lf (o415 P))) (nd (o223 P) (lf (o351 P)) (lf (o479 P))))) (nd (o47 P) (nd (o79 P) (nd (o143 P) (nd (o271 P) (lf (o527 P)) .nil) (lf (o399 P))) (nd (o207 P) (lf (o335 P)) (lf (o463 P)))) (nd (o111 P) (nd (o175 P) (lf (o303 P)) (lf (o431 P))) (nd (o239 P) (lf (o367 P)) (lf (o495 P)))))) (nd (o23 P) (nd (o39_5 P) (nd (o71 P) (nd (o135 P) (nd (o263 P) (lf (o519 P)) .nil) (lf (o391 P))) (nd (o199 P) (lf (o327 P)) (lf (o455 P)))) (nd (o103 P) (nd (o167 P) (lf (o295 P)) (lf (o423 P))) (nd (o231 P) (lf (o359 P)) (lf (o487 P))))) (nd (o55 P) (nd (o87 P) (nd (o151 P) (lf (o279 P)) (lf (o407 P))) (nd (o215 P) (lf (o343 P)) (lf (o471 P)))) (nd (o119 P) (nd (o183 P) (lf (o311 P)) (lf (o439 P))) (nd (o247 P) (lf (o375 P)) (lf (o503 P))))))) (nd (o11 P) (nd (o19 P) (nd (o35 P) (nd (o67 P) (nd (o131 P) (nd (o259 P) (lf (o515 P)) .nil) (lf (o387 P))) (nd (o195 P) (lf (o323 P)) (lf (o451 P)))) (nd (o99 P) (nd (o163 P) (lf (o291 P)) (lf (o419 P))) (nd (o227 P) (lf (o355 P)) (lf (o483 P))))) (nd (o51 P) (nd (o83 P) (nd (o147 P) (nd (o275 P) (lf (o531 P)) .nil) (lf (o403 P))) (nd (o211 P) (lf (o339 P)) (lf (o467 P)))) (nd (o115 P) (nd (o179 P) (lf (o307 P)) (lf (o435 P))) (nd (o243 P) (lf (o371 P)) (lf (o499 P)))))) (nd (o27 P) (nd (o43 P) (nd (o75 P) (nd (o139 P) (nd (o267 P) (lf (o523 P)) .nil) (lf (o395 P))) (nd (o203 P) (lf (o331 P)) (lf (o459 P)))) (nd (o107 P) (nd (o171 P) (lf (o299 P)) (lf (o427 P))) (nd (o235 P) (lf (o363 P)) (lf (o491 P))))) (nd (o59 P) (nd (o91 P) (nd (o155 P) (lf (o283 P)) (lf (o411 P))) (nd (o219 P) (lf (o347 P)) (lf (o475 P)))) (nd (o123 P) (nd (o187 P) (lf (o315 P)) (lf (o443 P))) (nd (o251 P) (lf (o379 P)) (lf (o507 P)))))))) (nd (boot_o_5 P) (nd (boot_o_9 P) (nd (o17 P) (nd (o33 P) (nd (o65 P) (nd (o129 P) (nd (o257 P) (lf (o513 P)) .nil) (lf (o385 P))) (nd (o193 P) (lf (o321 P)) (lf (o449 P)))) (nd (o97 P) (nd (o161 P) (lf (o289 P)) (lf (o417 P))) (nd (o225 P) (lf (o353 P)) (lf (o481 P))))) (nd (o49 P) (nd (o81 P) (nd (o145 P) (nd (o273 P) (lf (o529 P)) .nil) (lf (o401 P))) (nd (o209 P) (lf (o337 P)) (lf (o465 P)))) (nd (o113 P) (nd (o177 P) (lf (o305 P)) (lf (o433 P))) (nd (o241 P) (lf (o369 P)) (lf (o497 P)))))) (nd (o25 P) (nd (o41 P) (nd (o73 P) (nd (o137 P) (nd (o265 P) (lf (o521 P)) .nil) (lf (o393 P))) (nd (o201 P) (lf (o329 P)) (lf (o457 P)))) (nd (o105 P) (nd (o169 P) (lf (o297 P)) (lf (o425 P))) (nd (o233 P) (lf (o361 P)) (lf (o489 P))))) (nd (o57 P) (nd (o89 P) (nd (o153 P) (lf (o281 P)) (lf (o409 P))) (nd (o217 P) (lf (o345 P)) (lf (o473 P)))) (nd (o121 P) (nd (o185 P) (lf (o313 P)) (lf (o441 P))) (nd (o249 P) (lf (o377 P)) (lf (o505 P))))))) (nd (o13 P) (nd (o21 P) (nd (o37 P) (nd (o69 P) (nd (o133 P) (nd (o261 P) (lf (o517 P)) .nil) (lf (o389 P))) (nd (o197 P) (lf (o325 P)) (lf (o453 P)))) (nd (o101 P) (nd (o165 P) (lf (o293 P)) (lf (o421 P))) (nd (o229 P) (lf (o357 P)) (lf (o485 P))))) (nd (o53 P) (nd (o85 P) (nd (o149 P) (nd (o277 P) (lf (o533 P)) .nil) (lf (o405 P))) (nd (o213 P) (lf (o341 P)) (lf (o469 P)))) (nd (o117 P) (nd (o181 P) (lf (o309 P)) (lf (o437 P))) (nd (o245 P) (lf (o373 P)) (lf (o501 P)))))) (nd (o29 P) (nd (o45 P) (nd (o77 P) (nd (o141 P) (nd (o269 P) (lf (o525 P)) .nil) (lf (o397 P))) (nd (o205 P) (lf (o333 P)) (lf (o461 P)))) (nd (o109 P) (nd (o173 P) (lf (o301 P)) (lf (o429 P))) (nd (o237 P) (lf (o365 P)) (lf (o493 P))))) (nd (o61 P) (nd (o93 P) (nd (o157 P) (lf (o285 P)) (lf (o413 P))) (nd (o221 P) (lf (o349 P)) (lf (o477 P)))) (nd (o125 P) (nd (o189 P) (lf (o317 P)) (lf (o445 P))) (nd (o253 P) (lf (o381 P)) (lf (o509 P))))))))) (nd (boot_o_2 P) (nd (boot_o_4 P) (nd (boot_o_8 P) (nd (o16 P) (nd (o32 P) (nd (o64 P) (nd (o128 P) (nd (o256 P) (lf (o512 P)) .nil) (lf (o384 P))) (nd (o192 P) (lf (o320 P)) (lf (o448 P)))) (nd (o96 P) (nd (o160 P) (lf (o288 P)) (lf (o416 P))) (nd (o224 P) (lf (o352 P)) (lf (o480 P))))) (nd (o48 P) (nd (o80 P) (nd (o144 P) (nd (o272 P) (lf (o528 P)) .nil) (lf (o400 P))) (nd (o208 P) (lf (o336 P)) (lf (o464 P)))) (nd (o112 P) (nd (o176 P) (lf (o304 P)) (lf (o432 P))) (nd (o240 P) (lf (o368 P)) (lf (o496 P)))))) (nd (o24 P) (nd (o40 P) (nd (o72 P) (nd (o136 P) (nd (o264 P) (lf (o520 P)) .nil) (lf (o392 P))) (nd (o200 P) (lf (o328 P)) (lf (o456 P)))) (nd (o104 P) (nd (o168 P) (lf (o296 P)) (lf (o424 P))) (nd (o232 P) (lf (o360 P)) (lf (o488 P))))) (nd (o56 P) (nd (o88 P) (nd (o152 P) (lf (o280 P)) (lf (o408 P))) (nd (o216 P) (lf (o344 P)) (lf (o472 P)))) (nd (o120 P) (nd (o184 P) (lf (o312 P)) (lf (o440 P))) (nd (o248 P) (lf (o376 P)) (lf (o504 P))))))) (nd (o12_14 P) (nd (o20 P) (nd (o36 P) (nd (o68 P) (nd (o132 P) (nd (o260 P) (lf (o516 P)) .nil) (lf (o388 P))) (nd (o196 P) (lf (o324 P)) (lf (o452 P)))) (nd (o100 P) (nd (o164 P) (lf (o292 P)) (lf (o420 P))) (nd (o228 P) (lf (o356 P)) (lf (o484 P))))) (nd (o52 P) (nd (o84 P) (nd (o148 P) (nd (o276 P) (lf (o532 P)) .nil) (lf (o404 P))) (nd (o212 P) (lf (o340 P)) (lf (o468 P)))) (nd (o116 P) (nd (o180 P) (lf (o308 P)) (lf (o436 P))) (nd (o244 P) (lf (o372 P)) (lf (o500 P)))))) (nd (o28 P) (nd (o44 P) (nd (o76 P) (nd (o140 P) (nd (o268 P) (lf (o524 P)) .nil) (lf (o396 P))) (nd (o204 P) (lf (o332 P)) (lf (o460 P)))) (nd (o108 P) (nd (o172 P) (lf (o300 P)) (lf (o428 P))) (nd (o236 P) (lf (o364 P)) (lf (o492 P))))) (nd (o60 P) (nd (o92 P) (nd (o156 P) (lf (o284 P)) (lf (o412 P))) (nd (o220 P) (lf (o348 P)) (lf (o476 P)))) (nd (o124 P) (nd (o188 P) (lf (o316 P)) (lf (o444 P))) (nd (o252 P) (lf (o380 P)) (lf (o508 P)))))))) (nd (boot_o_6 P) (nd (boot_o_10 P) (nd (o18 P) (nd (o34 P) (nd (o66 P) (nd (o130 P) (nd (o258 P) (lf (o514 P)) .nil) (lf (o386 P))) (nd (o194 P) (lf (o322 P)) (lf (o450 P)))) (nd (o98 P) (nd (o162 P) (lf (o290 P)) (lf (o418 P))) (nd (o226 P) (lf (o354 P)) (lf (o482 P))))) (nd (o50 P) (nd (o82 P) (nd (o146 P) (nd (o274 P) (lf (o530 P)) .nil) (lf (o402 P))) (nd (o210 P) (lf (o338 P)) (lf (o466 P)))) (nd (o114 P) (nd (o178 P) (lf (o306 P)) (lf (o434 P))) (nd (o242 P) (lf (o370 P)) (lf (o498 P)))))) (nd (o26 P) (nd (o42 P) (nd (o74 P) (nd (o138 P) (nd (o266 P) (lf (o522 P)) .nil) (lf (o394 P))) (nd (o202 P) (lf (o330 P)) (lf (o458 P)))) (nd (o106 P) (nd (o170 P) (lf (o298 P)) (lf (o426 P))) (nd (o234 P) (lf (o362 P)) (lf (o490 P))))) (nd (o58 P) (nd (o90 P) (nd (o154 P) (lf (o282 P)) (lf (o410 P))) (nd (o218 P) (lf (o346 P)) (lf (o474 P)))) (nd (o122 P) (nd (o186 P) (lf (o314 P)) (lf (o442 P))) (nd (o250 P) (lf (o378 P)) (lf (o506 P))))))) (nd (o14 P) (nd (o22 P) (nd (o38 P) (nd (o70 P) (nd (o134 P) (nd (o262 P) (lf (o518 P)) .nil) (lf (o390 P))) (nd (o198 P) (lf (o326 P)) (lf (o454 P)))) (nd (o102 P) (nd (o166 P) (lf (o294 P)) (lf (o422 P))) (nd (o230 P) (lf (o358 P)) (lf (o486 P))))) (nd (o54 P) (nd (o86 P) (nd (o150 P) (nd (o278 P) (lf (o534 P)) .nil) (lf (o406 P))) (nd (o214 P) (lf (o342 P)) (lf (o470 P)))) (nd (o118 P) (nd (o182 P) (lf (o310 P)) (lf (o438 P))) (nd (o246 P) (lf (o374 P)) (lf (o502 P)))))) (nd (o30 P) (nd (o46 P) (nd (o78 P) (nd (o142 P) (nd (o270 P) (lf (o526 P)) .nil) (lf (o398 P))) (nd (o206 P) (lf (o334 P)) (lf (o462 P)))) (nd (o110 P) (nd (o174 P) (lf (o302 P)) (lf (o430 P))) (nd (o238 P) (lf (o366 P)) (lf (o494 P))))) (nd (o62 P) (nd (o94 P) (nd (o158 P) (lf (o286 P)) (lf (o414 P))) (nd (o222 P) (lf (o350 P)) (lf (o478 P)))) (nd (o126 P) (nd (o190 P) (lf (o318 P)) (lf (o446 P))) (nd (o254 P) (lf (o382 P)) (lf (o510 P))))))))))
noncomputable def Hf : Params → Heap := fun P => ⟨⟨[boot_o_0 P, boot_o_1 P, boot_o_2 P, o3_17 P, boot_o_4 P, boot_o_5 P, boot_o_6 P, boot_o_7 P, boot_o_8 P, boot_o_9 P, boot_o_10 P, o11 P, o12_14 P, o13 P, o14 P, o15 P, o16 P, o17 P, o18 P, o19 P, o20 P, o21 P, o22 P, o23 P, o24 P, o25 P, o26 P, o27 P, o28 P, o29 P, o30 P, o31 P, o32 P, o33 P, o34 P, o35 P, o36 P, o37 P, o38 P, o39_5 P, o40 P, o41 P, o42 P, o43 P, o44 P, o45 P, o46 P, o47 P, o48 P, o49 P, o50 P, o51 P, o52 P, o53 P, o54 P, o55 P, o56 P, o57 P, o58 P, o59 P, o60 P, o61 P, o62 P, o63 P, o64 P, o65 P, o66 P, o67 P, o68 P, o69 P, o70 P, o71 P, o72 P, o73 P, o74 P, o75 P, o76 P, o77 P, o78 P, o79 P, o80 P, o81 P, o82 P, o83 P, o84 P, o85 P, o86 P, o87 P, o88 P, o89 P, o90 P, o91 P, o92 P, o93 P, o94 P, o95 P, o96 P, o97 P, o98 P, o99 P, o100 P, o101 P, o102 P, o103 P, o104 P, o105 P, o106 P, o107 P, o108 P, o109 P, o110 P, o111 P, o112 P, o113 P, o114 P, o115 P, o116 P, o117 P, o118 P, o119 P, o120 P, o121 P, o122 P, o123 P, o124 P, o125 P, o126 P, o127 P, o128 P, o129 P, o130 P, o131 P, o132 P, o133 P, o134 P, o135 P, o136 P, o137 P, o138 P, o139 P, o140 P, o141 P, o142 P, o143 P, o144 P, o145 P, o146 P, o147 P, o148 P, o149 P, o150 P, o151 P, o152 P, o153 P, o154 P, o155 P, o156 P, o157 P, o158 P, o159 P, o160 P, o161 P, o162 P, o163 P, o164 P, o165 P, o166 P, o167 P, o168 P, o169 P, o170 P, o171 P, o172 P, o173 P, o174 P, o175 P, o176 P, o177 P, o178 P, o179 P, o180 P, o181 P, o182 P, o183 P, o184 P, o185 P, o186 P, o187 P, o188 P, o189 P, o190 P, o191 P, o192 P, o193 P, o194 P, o195 P, o196 P, o197 P, o198 P, o199 P, o200 P, o201 P, o202 P, o203 P, o204 P, o205 P, o206 P, o207 P, o208 P, o209 P, o210 P, o211 P, o212 P, o213 P, o214 P, o215 P, o216 P, o217 P, o218 P, o219 P, o220 P, o221 P, o222 P, o223 P, o224 P, o225 P, o226 P, o227 P, o228 P, o229 P, o230 P, o231 P, o232 P, o233 P, o234 P, o235 P, o236 P, o237 P, o238 P, o239 P, o240 P, o241 P, o242 P, o243 P, o244 P, o245 P, o246 P, o247 P, o248 P, o249 P, o250 P, o251 P, o252 P, o253 P, o254 P, o255 P, o256 P, o257 P, o258 P, o259 P, o260 P, o261 P, o262 P, o263 P, o264 P, o265 P, o266 P, o267 P, o268 P, o269 P, o270 P, o271 P, o272 P, o273 P, o274 P, o275 P, o276 P, o277 P, o278 P, o279 P, o280 P, o281 P, o282 P, o283 P, o284 P, o285 P, o286 P, o287 P, o288 P, o289 P, o290 P, o291 P, o292 P, o293 P, o294 P, o295 P, o296 P, o297 P, o298 P, o299 P, o300 P, o301 P, o302 P, o303 P, o304 P, o305 P, o306 P, o307 P, o308 P, o309 P, o310 P, o311 P, o312 P, o313 P, o314 P, o315 P, o316 P, o317 P, o318 P, o319 P, o320 P, o321 P, o322 P, o323 P, o324 P, o325 P, o326 P, o327 P, o328 P, o329 P, o330 P, o331 P, o332 P, o333 P, o334 P, o335 P, o336 P, o337 P, o338 P, o339 P, o340 P, o341 P, o342 P, o343 P, o344 P, o345 P, o346 P, o347 P, o348 P, o349 P, o350 P, o351 P, o352 P, o353 P, o354 P, o355 P, o356 P, o357 P, o358 P, o359 P, o360 P, o361 P, o362 P, o363 P, o364 P, o365 P, o366 P, o367 P, o368 P, o369 P, o370 P, o371 P, o372 P, o373 P, o374 P, o375 P, o376 P, o377 P, o378 P, o379 P, o380 P, o381 P, o382 P, o383 P, o384 P, o385 P, o386 P, o387 P, o388 P, o389 P, o390 P, o391 P, o392 P, o393 P, o394 P, o395 P, o396 P, o397 P, o398 P, o399 P, o400 P, o401 P, o402 P, o403 P, o404 P, o405 P, o406 P, o407 P, o408 P, o409 P, o410 P, o411 P, o412 P, o413 P, o414 P, o415 P, o416 P, o417 P, o418 P, o419 P, o420 P, o421 P, o422 P, o423 P, o424 P, o425 P, o426 P, o427 P, o428 P, o429 P, o430 P, o431 P, o432 P, o433 P, o434 P, o435 P, o436 P, o437 P, o438 P, o439 P, o440 P, o441 P, o442 P, o443 P, o444 P, o445 P, o446 P, o447 P, o448 P, o449 P, o450 P, o451 P, o452 P, o453 P, o454 P, o455 P, o456 P, o457 P, o458 P, o459 P, o460 P, o461 P, o462 P, o463 P, o464 P, o465 P, o466 P, o467 P, o468 P, o469 P, o470 P, o471 P, o472 P, o473 P, o474 P, o475 P, o476 P, o477 P, o478 P, o479 P, o480 P, o481 P, o482 P, o483 P, o484 P, o485 P, o486 P, o487 P, o488 P, o489 P, o490 P, o491 P, o492 P, o493 P, o494 P, o495 P, o496 P, o497 P, o498 P, o499 P, o500 P, o501 P, o502 P, o503 P, o504 P, o505 P, o506 P, o507 P, o508 P, o509 P, o510 P, o511 P, o512 P, o513 P, o514 P, o515 P, o516 P, o517 P, o518 P, o519 P, o520 P, o521 P, o522 P, o523 P, o524 P, o525 P, o526 P, o527 P, o528 P, o529 P, o530 P, o531 P, o532 P, o533 P, o534 P]⟩, {}⟩

noncomputable def bE : List Stmt := behindTheImports p0
noncomputable def envE : Env := { scope := p0.main.scope, locals := mainNs, globals := mainNs, cells := [], code := .ref 13, frame := some 14 }
noncomputable def cE : Code := .body bE envE
noncomputable def ps0 : Pos := ⟨0, 0, 0, 0⟩
noncomputable def sl (i n : Nat) : List Stmt := (bE.drop i).take n
end Mine
end
section
namespace Mine
set_option maxHeartbeats 0
theorem pc0 (w : World) (os : OsState) : segRunT treeTable p0 w 11 (some (.ref 6)) 1 259 ⟨Tb w.params, 15, {}, #[], {}, 187, os⟩ (piecesOf (sl 0 3) envE cE ⟨0, 0, 0, 0⟩ [topFrame ⟨0, 0, 0, 0⟩]) = some (.next, ⟨T0 w.params, 43, {}, #[], {}, 224, os⟩, cE, ⟨5, 0, 8, 28⟩) := by
  rw [PySem.W.Fast.te10110043849684766642, PySem.W.Fast.te14364793385576792824]; kernel_rfl
theorem pc1 (w : World) (os : OsState) : segRunT treeTable p0 w 11 (some (.ref 6)) 1 214 ⟨T0 w.params, 43, {}, #[], {}, 224, os⟩ (piecesOf (sl 3 1) envE cE ⟨5, 0, 8, 28⟩ [topFrame ⟨0, 0, 0, 0⟩]) = some (.next, ⟨T1 w.params, 55, {}, #[], {}, 240, os⟩, cE, ⟨9, 0, 10, 8⟩) := by
  rw [PySem.W.Fast.te10110043849684766642, PySem.W.Fast.te14364793385576792824]; kernel_rfl
theorem pc2 (w : World) (os : OsState) : segRunT treeTable p0 w 11 (some (.ref 6)) 1 214 ⟨T1 w.params, 55, {}, #[], {}, 240, os⟩ (piecesOf (sl 4 1) envE cE ⟨9, 0, 10, 8⟩ [topFrame ⟨0, 0, 0, 0⟩]) = some (.next, ⟨T2 w.params, 67, {}, #[], {}, 256, os⟩, cE, ⟨11, 0, 12, 8⟩) := by
  rw [PySem.W.Fast.te10110043849684766642, PySem.W.Fast.te14364793385576792824]; kernel_rfl
theorem pc3 (w : World) (os : OsState) : segRunT treeTable p0 w 11 (some (.ref 6)) 1 214 ⟨T2 w.params, 67, {}, #[], {}, 256, os⟩ (piecesOf (sl 5 1) envE cE ⟨11, 0, 12, 8⟩ [topFrame ⟨0, 0, 0, 0⟩]) = some (.next, ⟨T3 w.params, 79, {}, #[], {}, 272, os⟩, cE, ⟨13, 0, 14, 8⟩) := by
  rw [PySem.W.Fast.te10110043849684766642, PySem.W.Fast.te14364793385576792824]; kernel_rfl
theorem pc4 (w : World) (os : OsState) : segRunT treeTable p0 w 11 (some (.ref 6)) 1 214 ⟨T3 w.params, 79, {}, #[], {}, 272, os⟩ (piecesOf (sl 6 1) envE cE ⟨13, 0, 14, 8⟩ [topFrame ⟨0, 0, 0, 0⟩]) = some (.next, ⟨T4 w.params, 91, {}, #[], {}, 288, os⟩, cE, ⟨15, 0, 16, 8⟩) := by
  rw [PySem.W.Fast.te10110043849684766642, PySem.W.Fast.te14364793385576792824]; kernel_rfl
theorem pc5 (w : World) (os : OsState) : segRunT treeTable p0 w 11 (some (.ref 6)) 1 371 ⟨T4 w.params, 91, {}, #[], {}, 288, os⟩ (piecesOf (sl 7 8) envE cE ⟨15, 0, 16, 8⟩ [topFrame ⟨0, 0, 0, 0⟩]) = some (.next, ⟨T5 w.params, 131, {}, #[], {}, 344, os⟩, cE, ⟨33, 0, 33, 8⟩) := by
  rw [PySem.W.Fast.te10110043849684766642, PySem.W.Fast.te14364793385576792824]; kernel_rfl
theorem pc6f (w : World) (os : OsState) : segRunT treeTable p0 (w.withFollow "special-get-raises" false) 11 (some (.ref 6)) 1 84 ⟨T5 (w.withFollow "special-get-raises" false).params, 131, {}, #[], {}, 344, os⟩ (piecesOf (sl 15 1) envE cE ⟨33, 0, 33, 8⟩ [topFrame ⟨0, 0, 0, 0⟩]) = some (.next, ⟨T6 (w.withFollow "special-get-raises" false).params, 135, {}, #[], {}, 350, os⟩, cE, ⟨34, 16, 34, 27⟩) := by
  rw [PySem.W.Fast.te10110043849684766642, PySem.W.Fast.te14364793385576792824]; kernel_rfl
theorem pc6t (w : World) (os : OsState) : segRunT treeTable p0 (w.withFollow "special-get-raises" true) 11 (some (.ref 6)) 1 84 ⟨T5 (w.withFollow "special-get-raises" true).params, 131, {}, #[], {}, 344, os⟩ (piecesOf (sl 15 1) envE cE ⟨33, 0, 33, 8⟩ [topFrame ⟨0, 0, 0, 0⟩]) = some (.next, ⟨T6 (w.withFollow "special-get-raises" true).params, 135, {}, #[], {}, 350, os⟩, cE, ⟨34, 16, 34, 27⟩) := by
  rw [PySem.W.Fast.te10110043849684766642, PySem.W.Fast.te14364793385576792824]; kernel_rfl
theorem pc6 (w : World) (os : OsState) : segRunT treeTable p0 w 11 (some (.ref 6)) 1 84 ⟨T5 w.params, 131, {}, #[], {}, 344, os⟩ (piecesOf (sl 15 1) envE cE ⟨33, 0, 33, 8⟩ [topFrame ⟨0, 0, 0, 0⟩]) = some (.next, ⟨T6 w.params, 135, {}, #[], {}, 350, os⟩, cE, ⟨34, 16, 34, 27⟩) :=
  byRow2 "special-get-raises" (P := fun w => segRunT treeTable p0 w 11 (some (.ref 6)) 1 84 ⟨T5 w.params, 131, {}, #[], {}, 344, os⟩ (piecesOf (sl 15 1) envE cE ⟨33, 0, 33, 8⟩ [topFrame ⟨0, 0, 0, 0⟩]) = some (.next, ⟨T6 w.params, 135, {}, #[], {}, 350, os⟩, cE, ⟨34, 16, 34, 27⟩)) (fun w => pc6f w os) (fun w => pc6t w os) w
theorem pc7 (w : World) (os : OsState) : segRunT treeTable p0 w 11 (some (.ref 6)) 1 60 ⟨T6 w.params, 135, {}, #[], {}, 350, os⟩ (piecesOf (sl 16 2) envE cE ⟨34, 16, 34, 27⟩ [topFrame ⟨0, 0, 0, 0⟩]) = some (.next, ⟨T7 w.params, 149, {}, #[], {}, 365, os⟩, cE, ⟨38, 0, 43, 20⟩) := by
  rw [PySem.W.Fast.te10110043849684766642, PySem.W.Fast.te14364793385576792824]; kernel_rfl
theorem pc8 (w : World) (os : OsState) : segRunT treeTable p0 w 11 (some (.ref 6)) 1 396 ⟨T7 w.params, 149, {}, #[], {}, 365, os⟩ (piecesOf (sl 18 2) envE cE ⟨38, 0, 43, 20⟩ [topFrame ⟨0, 0, 0, 0⟩]) = some (.next, ⟨T8 w.params, 205, {}, #[], {}, 440, os⟩, cE, ⟨69, 0, 69, 8⟩) := by
  rw [PySem.W.Fast.te10110043849684766642, PySem.W.Fast.te14364793385576792824]; kernel_rfl
theorem pc9f (w : World) (os : OsState) : segRunT treeTable p0 (w.withFollow "special-get-raises" false) 11 (some (.ref 6)) 1 257 ⟨T8 (w.withFollow "special-get-raises" false).params, 205, {}, #[], {}, 440, os⟩ (piecesOf (sl 20 2) envE cE ⟨69, 0, 69, 8⟩ [topFrame ⟨0, 0, 0, 0⟩]) = some (.next, ⟨T9 (w.withFollow "special-get-raises" false).params, 213, {}, #[], {}, 462, os⟩, cE, ⟨71, 20, 71, 26⟩) := by
  rw [PySem.W.Fast.te10110043849684766642, PySem.W.Fast.te14364793385576792824]; kernel_rfl
theorem pc9t (w : World) (os : OsState) : segRunT treeTable p0 (w.withFollow "special-get-raises" true) 11 (some (.ref 6)) 1 257 ⟨T8 (w.withFollow "special-get-raises" true).params, 205, {}, #[], {}, 440, os⟩ (piecesOf (sl 20 2) envE cE ⟨69, 0, 69, 8⟩ [topFrame ⟨0, 0, 0, 0⟩]) = some (.next, ⟨T9 (w.withFollow "special-get-raises" true).params, 213, {}, #[], {}, 462, os⟩, cE, ⟨71, 20, 71, 26⟩) := by
  rw [PySem.W.Fast.te10110043849684766642, PySem.W.Fast.te14364793385576792824]; kernel_rfl
theorem pc9 (w : World) (os : OsState) : segRunT treeTable p0 w 11 (some (.ref 6)) 1 257 ⟨T8 w.params, 205, {}, #[], {}, 440, os⟩ (piecesOf (sl 20 2) envE cE ⟨69, 0, 69, 8⟩ [topFrame ⟨0, 0, 0, 0⟩]) = some (.next, ⟨T9 w.params, 213, {}, #[], {}, 462, os⟩, cE, ⟨71, 20, 71, 26⟩) :=
  byRow2 "special-get-raises" (P := fun w => segRunT treeTable p0 w 11 (some (.ref 6)) 1 257 ⟨T8 w.params, 205, {}, #[], {}, 440, os⟩ (piecesOf (sl 20 2) envE cE ⟨69, 0, 69, 8⟩ [topFrame ⟨0, 0, 0, 0⟩]) = some (.next, ⟨T9 w.params, 213, {}, #[], {}, 462, os⟩, cE, ⟨71, 20, 71, 26⟩)) (fun w => pc9f w os) (fun w => pc9t w os) w
theorem pc10 (w : World) (os : OsState) : segRunT treeTable p0 w 11 (some (.ref 6)) 1 267 ⟨T9 w.params, 213, {}, #[], {}, 462, os⟩ (piecesOf (sl 22 2) envE cE ⟨71, 20, 71, 26⟩ [topFrame ⟨0, 0, 0, 0⟩]) = some (.next, ⟨T10 w.params, 241, {}, #[], {}, 501, os⟩, cE, ⟨76, 0, 81, 36⟩) := by
  rw [PySem.W.Fast.te10110043849684766642, PySem.W.Fast.te14364793385576792824]; kernel_rfl
theorem pc11 (w : World) (os : OsState) : segRunT treeTable p0 w 11 (some (.ref 6)) 1 384 ⟨T10 w.params, 241, {}, #[], {}, 501, os⟩ (piecesOf (sl 24 7) envE cE ⟨76, 0, 81, 36⟩ [topFrame ⟨0, 0, 0, 0⟩]) = some (.next, ⟨T11 w.params, 291, {}, #[], {}, 588, os⟩, cE, ⟨105, 0, 123, 15⟩) := by
  rw [PySem.W.Fast.te10110043849684766642, PySem.W.Fast.te14364793385576792824]; kernel_rfl
theorem pc12 (w : World) (os : OsState) : segRunT treeTable p0 w 11 (some (.ref 6)) 1 121 ⟨T11 w.params, 291, {}, #[], {}, 588, os⟩ (piecesOf (sl 31 7) envE cE ⟨105, 0, 123, 15⟩ [topFrame ⟨0, 0, 0, 0⟩]) = some (.next, ⟨T12 w.params, 304, {}, #[], {}, 622, os⟩, cE, ⟨157, 0, 157, 9⟩) := by
  rw [PySem.W.Fast.te10110043849684766642, PySem.W.Fast.te14364793385576792824]; kernel_rfl
theorem pc13f (w : World) (os : OsState) : segRunT treeTable p0 (w.withFollow "special-get-raises" false) 11 (some (.ref 6)) 1 185 ⟨T12 (w.withFollow "special-get-raises" false).params, 304, {}, #[], {}, 622, os⟩ (piecesOf (sl 38 2) envE cE ⟨157, 0, 157, 9⟩ [topFrame ⟨0, 0, 0, 0⟩]) = some (.next, ⟨T13 (w.withFollow "special-get-raises" false).params, 312, {}, #[], {}, 636, os⟩, cE, ⟨159, 20, 159, 24⟩) := by
  rw [PySem.W.Fast.te10110043849684766642, PySem.W.Fast.te14364793385576792824]; kernel_rfl
theorem pc13t (w : World) (os : OsState) : segRunT treeTable p0 (w.withFollow "special-get-raises" true) 11 (some (.ref 6)) 1 185 ⟨T12 (w.withFollow "special-get-raises" true).params, 304, {}, #[], {}, 622, os⟩ (piecesOf (sl 38 2) envE cE ⟨157, 0, 157, 9⟩ [topFrame ⟨0, 0, 0, 0⟩]) = some (.next, ⟨T13 (w.withFollow "special-get-raises" true).params, 312, {}, #[], {}, 636, os⟩, cE, ⟨159, 20, 159, 24⟩) := by
  rw [PySem.W.Fast.te10110043849684766642, PySem.W.Fast.te14364793385576792824]; kernel_rfl
theorem pc13 (w : World) (os : OsState) : segRunT treeTable p0 w 11 (some (.ref 6)) 1 185 ⟨T12 w.params, 304, {}, #[], {}, 622, os⟩ (piecesOf (sl 38 2) envE cE ⟨157, 0, 157, 9⟩ [topFrame ⟨0, 0, 0, 0⟩]) = some (.next, ⟨T13 w.params, 312, {}, #[], {}, 636, os⟩, cE, ⟨159, 20, 159, 24⟩) :=
  byRow2 "special-get-raises" (P := fun w => segRunT treeTable p0 w 11 (some (.ref 6)) 1 185 ⟨T12 w.params, 304, {}, #[], {}, 622, os⟩ (piecesOf (sl 38 2) envE cE ⟨157, 0, 157, 9⟩ [topFrame ⟨0, 0, 0, 0⟩]) = some (.next, ⟨T13 w.params, 312, {}, #[], {}, 636, os⟩, cE, ⟨159, 20, 159, 24⟩)) (fun w => pc13f w os) (fun w => pc13t w os) w
theorem pc14 (w : World) (os : OsState) : segRunT treeTable p0 w 11 (some (.ref 6)) 1 273 ⟨T13 w.params, 312, {}, #[], {}, 636, os⟩ (piecesOf (sl 40 10) envE cE ⟨159, 20, 159, 24⟩ [topFrame ⟨0, 0, 0, 0⟩]) = some (.next, ⟨T14 w.params, 363, {}, #[], {}, 729, os⟩, cE, ⟨214, 0, 218, 50⟩) := by
  rw [PySem.W.Fast.te10110043849684766642, PySem.W.Fast.te14364793385576792824]; kernel_rfl
theorem pc15 (w : World) (os : OsState) : segRunT treeTable p0 w 11 (some (.ref 6)) 1 574 ⟨T14 w.params, 363, {}, #[], {}, 729, os⟩ (piecesOf (sl 50 1) envE cE ⟨214, 0, 218, 50⟩ [topFrame ⟨0, 0, 0, 0⟩]) = some (.next, ⟨T15 w.params, 457, {}, #[], {}, 860, os⟩, cE, ⟨219, 0, 275, 16⟩) := by
  rw [PySem.W.Fast.te10110043849684766642, PySem.W.Fast.te14364793385576792824]; kernel_rfl
theorem pc16 (w : World) (os : OsState) : segRunT treeTable p0 w 11 (some (.ref 6)) 1 393 ⟨T15 w.params, 457, {}, #[], {}, 860, os⟩ (piecesOf (sl 51 14) envE cE ⟨219, 0, 275, 16⟩ [topFrame ⟨0, 0, 0, 0⟩]) = some (.next, ⟨T16 w.params, 535, {}, #[], {}, 966, os⟩, cE, ⟨375, 0, 402, 80⟩) := by
  rw [PySem.W.Fast.te10110043849684766642, PySem.W.Fast.te14364793385576792824]; kernel_rfl
end Mine
end
noncomputable section
namespace Mine
set_option maxHeartbeats 0
noncomputable def law0 : Stmt := stN 64
noncomputable def q0 : Program := { p0 with main := { p0.main with body := [law0] } }
noncomputable def loose0 : List Str := [Str.ofString "_wall", Str.ofString "PageError", Str.ofString "BadArgument", Str.ofString "Overflow", Str.ofString "BadMath", Str.ofString "BadFont", Str.ofString "TooMuch", Str.ofString "MAX_DIMEN", Str.ofString "is_whole", Str.ofString "check_whole", Str.ofString "check_dimen", Str.ofString "halved", Str.ofString "DELIM1", Str.ofString "DELIM2", Str.ofString "AXIS_HEIGHT", Str.ofString "check_math_char", Str.ofString "check_delimiter", Str.ofString "Families", Str.ofString "CHAR", Str.ofString "LIGATURE", Str.ofString "HBOX", Str.ofString "VBOX", Str.ofString "RULE", Str.ofString "KERN", Str.ofString "GLUE", Str.ofString "PENALTY", Str.ofString "NATURAL", Str.ofString "STRETCHED", Str.ofString "SHRUNK", Str.ofString "check_code", Str.ofString "Char", Str.ofString "Box", Str.ofString "MOST_PIECES", Str.ofString "shifted", Str.ofString "empty_box", Str.ofString "char_box", Str.ofString "grown", Str.ofString "pieces_box", Str.ofString "delimiter_box", Str.ofString "EDGE", Str.ofString "MOST_FONTS", Str.ofString "MOST_PARAMS", Str.ofString "MOST_SIZE", Str.ofString "PLAIN_SORT", Str.ofString "PROGRAM_SORT", Str.ofString "LARGER_SORT", Str.ofString "PIECES_SORT", Str.ofString "STOP_SKIP", Str.ofString "KERN_OP", Str.ofString "LEAD", Str.ofString "NO_CHARACTER", Str.ofString "LETTERS", Str.ofString "SMALL_PARAMS", Str.ofString "is_size", Str.ofString "check_sizes", Str.ofString "check_pieces", Str.ofString "check_chars", Str.ofString "check_larger", Str.ofString "check_program", Str.ofString "left_start", Str.ofString "Font", Str.ofString "font_name", Str.ofString "font_of_rows", Str.ofString "_law_jar", Str.ofString "_law_take", Str.ofString "_law_row", Str.ofString "_law_fonts", Str.ofString "_law_leads", Str.ofString "_law_chain", Str.ofString "_law_ways", Str.ofString "_law_chosen", Str.ofString "_law_letter_right", Str.ofString "_law_pieces_right"]
noncomputable def KF : Params → Frag := fun P => (nat_lit 2, boot_o_2 P) :: (nat_lit 3, o3_17 P) :: (nat_lit 15, o15 P) :: (nat_lit 17, o17 P) :: (nat_lit 18, o18 P) :: (nat_lit 20, o20 P) :: (nat_lit 21, o21 P) :: (nat_lit 22, o22 P) :: (nat_lit 29, o29 P) :: (nat_lit 30, o30 P) :: (nat_lit 32, o32 P) :: (nat_lit 33, o33 P) :: (nat_lit 35, o35 P) :: (nat_lit 36, o36 P) :: (nat_lit 37, o37 P) :: (nat_lit 38, o38 P) :: (nat_lit 39, o39_5 P) :: (nat_lit 40, o40 P) :: (nat_lit 43, o43 P) :: (nat_lit 50, o50 P) :: (nat_lit 51, o51 P) :: (nat_lit 52, o52 P) :: (nat_lit 55, o55 P) :: (nat_lit 62, o62 P) :: (nat_lit 63, o63 P) :: (nat_lit 64, o64 P) :: (nat_lit 67, o67 P) :: (nat_lit 74, o74 P) :: (nat_lit 75, o75 P) :: (nat_lit 76, o76 P) :: (nat_lit 79, o79 P) :: (nat_lit 86, o86 P) :: (nat_lit 87, o87 P) :: (nat_lit 88, o88 P) :: (nat_lit 91, o91 P) :: (nat_lit 98, o98 P) :: (nat_lit 99, o99 P) :: (nat_lit 100, o100 P) :: (nat_lit 103, o103 P) :: (nat_lit 105, o105 P) :: (nat_lit 106, o106 P) :: (nat_lit 108, o108 P) :: (nat_lit 109, o109 P) :: (nat_lit 110, o110 P) :: (nat_lit 112, o112 P) :: (nat_lit 113, o113 P) :: (nat_lit 115, o115 P) :: (nat_lit 116, o116 P) :: (nat_lit 117, o117 P) :: (nat_lit 119, o119 P) :: (nat_lit 120, o120 P) :: (nat_lit 122, o122 P) :: (nat_lit 123, o123 P) :: (nat_lit 124, o124 P) :: (nat_lit 126, o126 P) :: (nat_lit 127, o127 P) :: (nat_lit 129, o129 P) :: (nat_lit 130, o130 P) :: (nat_lit 135, o135 P) :: (nat_lit 137, o137 P) :: (nat_lit 138, o138 P) :: (nat_lit 140, o140 P) :: (nat_lit 141, o141 P) :: (nat_lit 142, o142 P) :: (nat_lit 144, o144 P) :: (nat_lit 145, o145 P) :: (nat_lit 147, o147 P) :: (nat_lit 148, o148 P) :: (nat_lit 156, o156 P) :: (nat_lit 158, o158 P) :: (nat_lit 159, o159 P) :: (nat_lit 161, o161 P) :: (nat_lit 162, o162 P) :: (nat_lit 163, o163 P) :: (nat_lit 165, o165 P) :: (nat_lit 166, o166 P) :: (nat_lit 168, o168 P) :: (nat_lit 169, o169 P) :: (nat_lit 170, o170 P) :: (nat_lit 172, o172 P) :: (nat_lit 173, o173 P) :: (nat_lit 175, o175 P) :: (nat_lit 176, o176 P) :: (nat_lit 177, o177 P) :: (nat_lit 179, o179 P) :: (nat_lit 180, o180 P) :: (nat_lit 182, o182 P) :: (nat_lit 183, o183 P) :: (nat_lit 184, o184 P) :: (nat_lit 186, o186 P) :: (nat_lit 187, o187 P) :: (nat_lit 189, o189 P) :: (nat_lit 190, o190 P) :: (nat_lit 191, o191 P) :: (nat_lit 193, o193 P) :: (nat_lit 194, o194 P) :: (nat_lit 196, o196 P) :: (nat_lit 197, o197 P) :: (nat_lit 198, o198 P) :: (nat_lit 199, o199 P) :: (nat_lit 200, o200 P) :: (nat_lit 201, o201 P) :: (nat_lit 202, o202 P) :: (nat_lit 213, o213 P) :: (nat_lit 215, o215 P) :: (nat_lit 216, o216 P) :: (nat_lit 218, o218 P) :: (nat_lit 219, o219 P) :: (nat_lit 227, o227 P) :: (nat_lit 229, o229 P) :: (nat_lit 230, o230 P) :: (nat_lit 232, o232 P) :: (nat_lit 233, o233 P) :: (nat_lit 234, o234 P) :: (nat_lit 235, o235 P) :: (nat_lit 236, o236 P) :: (nat_lit 237, o237 P) :: (nat_lit 238, o238 P) :: (nat_lit 248, o248 P) :: (nat_lit 250, o250 P) :: (nat_lit 251, o251 P) :: (nat_lit 253, o253 P) :: (nat_lit 254, o254 P) :: (nat_lit 255, o255 P) :: (nat_lit 256, o256 P) :: (nat_lit 257, o257 P) :: (nat_lit 258, o258 P) :: (nat_lit 259, o259 P) :: (nat_lit 262, o262 P) :: (nat_lit 264, o264 P) :: (nat_lit 265, o265 P) :: (nat_lit 267, o267 P) :: (nat_lit 268, o268 P) :: (nat_lit 269, o269 P) :: (nat_lit 270, o270 P) :: (nat_lit 272, o272 P) :: (nat_lit 273, o273 P) :: (nat_lit 275, o275 P) :: (nat_lit 276, o276 P) :: (nat_lit 277, o277 P) :: (nat_lit 279, o279 P) :: (nat_lit 280, o280 P) :: (nat_lit 282, o282 P) :: (nat_lit 283, o283 P) :: (nat_lit 284, o284 P) :: (nat_lit 286, o286 P) :: (nat_lit 287, o287 P) :: (nat_lit 289, o289 P) :: (nat_lit 290, o290 P) :: (nat_lit 291, o291 P) :: (nat_lit 294, o294 P) :: (nat_lit 295, o295 P) :: (nat_lit 296, o296 P) :: (nat_lit 297, o297 P) :: (nat_lit 299, o299 P) :: (nat_lit 300, o300 P) :: (nat_lit 302, o302 P) :: (nat_lit 303, o303 P) :: (nat_lit 312, o312 P) :: (nat_lit 313, o313 P) :: (nat_lit 314, o314 P) :: (nat_lit 316, o316 P) :: (nat_lit 317, o317 P) :: (nat_lit 319, o319 P) :: (nat_lit 320, o320 P) :: (nat_lit 321, o321 P) :: (nat_lit 323, o323 P) :: (nat_lit 324, o324 P) :: (nat_lit 326, o326 P) :: (nat_lit 327, o327 P) :: (nat_lit 328, o328 P) :: (nat_lit 330, o330 P) :: (nat_lit 331, o331 P) :: (nat_lit 333, o333 P) :: (nat_lit 334, o334 P) :: (nat_lit 335, o335 P) :: (nat_lit 337, o337 P) :: (nat_lit 338, o338 P) :: (nat_lit 340, o340 P) :: (nat_lit 341, o341 P) :: (nat_lit 342, o342 P) :: (nat_lit 344, o344 P) :: (nat_lit 345, o345 P) :: (nat_lit 347, o347 P) :: (nat_lit 348, o348 P) :: (nat_lit 349, o349 P) :: (nat_lit 351, o351 P) :: (nat_lit 352, o352 P) :: (nat_lit 354, o354 P) :: (nat_lit 355, o355 P) :: (nat_lit 356, o356 P) :: (nat_lit 358, o358 P) :: (nat_lit 359, o359 P) :: (nat_lit 361, o361 P) :: (nat_lit 362, o362 P) :: (nat_lit 370, o370 P) :: (nat_lit 371, o371 P) :: (nat_lit 372, o372 P) :: (nat_lit 373, o373 P) :: (nat_lit 375, o375 P) :: (nat_lit 376, o376 P) :: (nat_lit 378, o378 P) :: (nat_lit 379, o379 P) :: (nat_lit 380, o380 P) :: (nat_lit 382, o382 P) :: (nat_lit 383, o383 P) :: (nat_lit 385, o385 P) :: (nat_lit 386, o386 P) :: (nat_lit 387, o387 P) :: (nat_lit 389, o389 P) :: (nat_lit 390, o390 P) :: (nat_lit 392, o392 P) :: (nat_lit 393, o393 P) :: (nat_lit 394, o394 P) :: (nat_lit 396, o396 P) :: (nat_lit 397, o397 P) :: (nat_lit 399, o399 P) :: (nat_lit 400, o400 P) :: (nat_lit 401, o401 P) :: (nat_lit 403, o403 P) :: (nat_lit 404, o404 P) :: (nat_lit 406, o406 P) :: (nat_lit 407, o407 P) :: (nat_lit 408, o408 P) :: (nat_lit 410, o410 P) :: (nat_lit 411, o411 P) :: (nat_lit 413, o413 P) :: (nat_lit 414, o414 P) :: (nat_lit 415, o415 P) :: (nat_lit 417, o417 P) :: (nat_lit 418, o418 P) :: (nat_lit 420, o420 P) :: (nat_lit 421, o421 P) :: (nat_lit 422, o422 P) :: (nat_lit 424, o424 P) :: (nat_lit 425, o425 P) :: (nat_lit 427, o427 P) :: (nat_lit 428, o428 P) :: (nat_lit 429, o429 P) :: (nat_lit 431, o431 P) :: (nat_lit 432, o432 P) :: (nat_lit 434, o434 P) :: (nat_lit 435, o435 P) :: (nat_lit 436, o436 P) :: (nat_lit 438, o438 P) :: (nat_lit 439, o439 P) :: (nat_lit 441, o441 P) :: (nat_lit 442, o442 P) :: (nat_lit 443, o443 P) :: (nat_lit 445, o445 P) :: (nat_lit 446, o446 P) :: (nat_lit 448, o448 P) :: (nat_lit 449, o449 P) :: (nat_lit 450, o450 P) :: (nat_lit 451, o451 P) :: (nat_lit 452, o452 P) :: (nat_lit 453, o453 P) :: (nat_lit 454, o454 P) :: (nat_lit 457, o457 P) :: (nat_lit 459, o459 P) :: (nat_lit 460, o460 P) :: (nat_lit 462, o462 P) :: (nat_lit 463, o463 P) :: (nat_lit 464, o464 P) :: (nat_lit 465, o465 P) :: (nat_lit 466, o466 P) :: (nat_lit 467, o467 P) :: (nat_lit 469, o469 P) :: (nat_lit 470, o470 P) :: (nat_lit 472, o472 P) :: (nat_lit 473, o473 P) :: (nat_lit 474, o474 P) :: (nat_lit 477, o477 P) :: (nat_lit 478, o478 P) :: (nat_lit 479, o479 P) :: (nat_lit 481, o481 P) :: (nat_lit 482, o482 P) :: (nat_lit 484, o484 P) :: (nat_lit 485, o485 P) :: (nat_lit 486, o486 P) :: (nat_lit 488, o488 P) :: (nat_lit 489, o489 P) :: (nat_lit 491, o491 P) :: (nat_lit 492, o492 P) :: (nat_lit 493, o493 P) :: (nat_lit 496, o496 P) :: (nat_lit 497, o497 P) :: (nat_lit 498, o498 P) :: (nat_lit 501, o501 P) :: (nat_lit 502, o502 P) :: (nat_lit 503, o503 P) :: (nat_lit 505, o505 P) :: (nat_lit 506, o506 P) :: (nat_lit 508, o508 P) :: (nat_lit 509, o509 P) :: (nat_lit 510, o510 P) :: (nat_lit 513, o513 P) :: (nat_lit 514, o514 P) :: (nat_lit 515, o515 P) :: (nat_lit 518, o518 P) :: (nat_lit 519, o519 P) :: (nat_lit 520, o520 P) :: (nat_lit 523, o523 P) :: (nat_lit 524, o524 P) :: (nat_lit 525, o525 P) :: (nat_lit 528, o528 P) :: (nat_lit 529, o529 P) :: (nat_lit 530, o530 P) :: (nat_lit 533, o533 P) :: (nat_lit 534, o534 P) :: []
noncomputable def asF : List Addr := nat_lit 2 :: nat_lit 3 :: nat_lit 15 :: nat_lit 17 :: nat_lit 18 :: nat_lit 20 :: nat_lit 21 :: nat_lit 22 :: nat_lit 29 :: nat_lit 30 :: nat_lit 32 :: nat_lit 33 :: nat_lit 35 :: nat_lit 36 :: nat_lit 37 :: nat_lit 38 :: nat_lit 39 :: nat_lit 40 :: nat_lit 43 :: nat_lit 50 :: nat_lit 51 :: nat_lit 52 :: nat_lit 55 :: nat_lit 62 :: nat_lit 63 :: nat_lit 64 :: nat_lit 67 :: nat_lit 74 :: nat_lit 75 :: nat_lit 76 :: nat_lit 79 :: nat_lit 86 :: nat_lit 87 :: nat_lit 88 :: nat_lit 91 :: nat_lit 98 :: nat_lit 99 :: nat_lit 100 :: nat_lit 103 :: nat_lit 105 :: nat_lit 106 :: nat_lit 108 :: nat_lit 109 :: nat_lit 110 :: nat_lit 112 :: nat_lit 113 :: nat_lit 115 :: nat_lit 116 :: nat_lit 117 :: nat_lit 119 :: nat_lit 120 :: nat_lit 122 :: nat_lit 123 :: nat_lit 124 :: nat_lit 126 :: nat_lit 127 :: nat_lit 129 :: nat_lit 130 :: nat_lit 135 :: nat_lit 137 :: nat_lit 138 :: nat_lit 140 :: nat_lit 141 :: nat_lit 142 :: nat_lit 144 :: nat_lit 145 :: nat_lit 147 :: nat_lit 148 :: nat_lit 156 :: nat_lit 158 :: nat_lit 159 :: nat_lit 161 :: nat_lit 162 :: nat_lit 163 :: nat_lit 165 :: nat_lit 166 :: nat_lit 168 :: nat_lit 169 :: nat_lit 170 :: nat_lit 172 :: nat_lit 173 :: nat_lit 175 :: nat_lit 176 :: nat_lit 177 :: nat_lit 179 :: nat_lit 180 :: nat_lit 182 :: nat_lit 183 :: nat_lit 184 :: nat_lit 186 :: nat_lit 187 :: nat_lit 189 :: nat_lit 190 :: nat_lit 191 :: nat_lit 193 :: nat_lit 194 :: nat_lit 196 :: nat_lit 197 :: nat_lit 198 :: nat_lit 199 :: nat_lit 200 :: nat_lit 201 :: nat_lit 202 :: nat_lit 213 :: nat_lit 215 :: nat_lit 216 :: nat_lit 218 :: nat_lit 219 :: nat_lit 227 :: nat_lit 229 :: nat_lit 230 :: nat_lit 232 :: nat_lit 233 :: nat_lit 234 :: nat_lit 235 :: nat_lit 236 :: nat_lit 237 :: nat_lit 238 :: nat_lit 248 :: nat_lit 250 :: nat_lit 251 :: nat_lit 253 :: nat_lit 254 :: nat_lit 255 :: nat_lit 256 :: nat_lit 257 :: nat_lit 258 :: nat_lit 259 :: nat_lit 262 :: nat_lit 264 :: nat_lit 265 :: nat_lit 267 :: nat_lit 268 :: nat_lit 269 :: nat_lit 270 :: nat_lit 272 :: nat_lit 273 :: nat_lit 275 :: nat_lit 276 :: nat_lit 277 :: nat_lit 279 :: nat_lit 280 :: nat_lit 282 :: nat_lit 283 :: nat_lit 284 :: nat_lit 286 :: nat_lit 287 :: nat_lit 289 :: nat_lit 290 :: nat_lit 291 :: nat_lit 294 :: nat_lit 295 :: nat_lit 296 :: nat_lit 297 :: nat_lit 299 :: nat_lit 300 :: nat_lit 302 :: nat_lit 303 :: nat_lit 312 :: nat_lit 313 :: nat_lit 314 :: nat_lit 316 :: nat_lit 317 :: nat_lit 319 :: nat_lit 320 :: nat_lit 321 :: nat_lit 323 :: nat_lit 324 :: nat_lit 326 :: nat_lit 327 :: nat_lit 328 :: nat_lit 330 :: nat_lit 331 :: nat_lit 333 :: nat_lit 334 :: nat_lit 335 :: nat_lit 337 :: nat_lit 338 :: nat_lit 340 :: nat_lit 341 :: nat_lit 342 :: nat_lit 344 :: nat_lit 345 :: nat_lit 347 :: nat_lit 348 :: nat_lit 349 :: nat_lit 351 :: nat_lit 352 :: nat_lit 354 :: nat_lit 355 :: nat_lit 356 :: nat_lit 358 :: nat_lit 359 :: nat_lit 361 :: nat_lit 362 :: nat_lit 370 :: nat_lit 371 :: nat_lit 372 :: nat_lit 373 :: nat_lit 375 :: nat_lit 376 :: nat_lit 378 :: nat_lit 379 :: nat_lit 380 :: nat_lit 382 :: nat_lit 383 :: nat_lit 385 :: nat_lit 386 :: nat_lit 387 :: nat_lit 389 :: nat_lit 390 :: nat_lit 392 :: nat_lit 393 :: nat_lit 394 :: nat_lit 396 :: nat_lit 397 :: nat_lit 399 :: nat_lit 400 :: nat_lit 401 :: nat_lit 403 :: nat_lit 404 :: nat_lit 406 :: nat_lit 407 :: nat_lit 408 :: nat_lit 410 :: nat_lit 411 :: nat_lit 413 :: nat_lit 414 :: nat_lit 415 :: nat_lit 417 :: nat_lit 418 :: nat_lit 420 :: nat_lit 421 :: nat_lit 422 :: nat_lit 424 :: nat_lit 425 :: nat_lit 427 :: nat_lit 428 :: nat_lit 429 :: nat_lit 431 :: nat_lit 432 :: nat_lit 434 :: nat_lit 435 :: nat_lit 436 :: nat_lit 438 :: nat_lit 439 :: nat_lit 441 :: nat_lit 442 :: nat_lit 443 :: nat_lit 445 :: nat_lit 446 :: nat_lit 448 :: nat_lit 449 :: nat_lit 450 :: nat_lit 451 :: nat_lit 452 :: nat_lit 453 :: nat_lit 454 :: nat_lit 457 :: nat_lit 459 :: nat_lit 460 :: nat_lit 462 :: nat_lit 463 :: nat_lit 464 :: nat_lit 465 :: nat_lit 466 :: nat_lit 467 :: nat_lit 469 :: nat_lit 470 :: nat_lit 472 :: nat_lit 473 :: nat_lit 474 :: nat_lit 477 :: nat_lit 478 :: nat_lit 479 :: nat_lit 481 :: nat_lit 482 :: nat_lit 484 :: nat_lit 485 :: nat_lit 486 :: nat_lit 488 :: nat_lit 489 :: nat_lit 491 :: nat_lit 492 :: nat_lit 493 :: nat_lit 496 :: nat_lit 497 :: nat_lit 498 :: nat_lit 501 :: nat_lit 502 :: nat_lit 503 :: nat_lit 505 :: nat_lit 506 :: nat_lit 508 :: nat_lit 509 :: nat_lit 510 :: nat_lit 513 :: nat_lit 514 :: nat_lit 515 :: nat_lit 518 :: nat_lit 519 :: nat_lit 520 :: nat_lit 523 :: nat_lit 524 :: nat_lit 525 :: nat_lit 528 :: nat_lit 529 :: nat_lit 530 :: nat_lit 533 :: nat_lit 534 :: []
theorem pre (w : World) (os : OsState) : topGo treeTable p0 w 11 (some (.ref 6)) 12 ⟨boot_heap w.params, Array.mk [], boot_drawn, boot_toks, os⟩ (topStub p0) = some (⟨Ha w.params, #[], {}, 187, os⟩, ⟨denote treeTable cE, cE, ⟨0, 0, 0, 0⟩, [topFrame ⟨0, 0, 0, 0⟩]⟩) := by
  rw [PySem.W.Fast.te15667345088766844465, PySem.W.Fast.te14364793385576792824, PySem.W.Fast.te11892475500146522536]; kernel_rfl
theorem block (w : World) (os : OsState) : segRun treeTable p0 w 11 (some (.ref 6)) 1 1 ⟨Ha w.params, #[], {}, 187, os⟩ (blockOf bE envE cE ⟨0, 0, 0, 0⟩ [topFrame ⟨0, 0, 0, 0⟩]) = some (.next, (⟨Tb w.params, 15, {}, #[], {}, 187, os⟩ : SharedT).abs, cE, ⟨0, 0, 0, 0⟩) := by
  rw [PySem.W.Fast.te14374325043358763698, PySem.W.Fast.te14364793385576792824]; kernel_rfl
theorem fin (w : World) (os : OsState) : topRun treeTable p0 w 11 (some (.ref 6)) 2 (⟨T16 w.params, 535, {}, #[], {}, 966, os⟩ : SharedT).abs ⟨doneF .next, cE, ⟨375, 0, 402, 80⟩, [topFrame ⟨0, 0, 0, 0⟩]⟩ = some ⟨Hf w.params, #[], {}, 966, os⟩ := by
  rw [PySem.W.Fast.te14082659384304107361, PySem.W.Fast.te14364793385576792824]; kernel_rfl
theorem bE_eq : bE = sl 0 3 ++ (sl 3 1 ++ (sl 4 1 ++ (sl 5 1 ++ (sl 6 1 ++ (sl 7 8 ++ (sl 15 1 ++ (sl 16 2 ++ (sl 18 2 ++ (sl 20 2 ++ (sl 22 2 ++ (sl 24 7 ++ (sl 31 7 ++ (sl 38 2 ++ (sl 40 10 ++ (sl 50 1 ++ (sl 51 14 ++ ([]))))))))))))))))) := by kernel_rfl
theorem runTop (w : World) (os : OsState) : topRun treeTable p0 w 11 (some (.ref 6)) 4495 ⟨boot_heap w.params, Array.mk [], boot_drawn, boot_toks, os⟩ (topStub p0) = some ⟨Hf w.params, #[], {}, 966, os⟩ := by
  have r := go_top (pre w os) (piece_block (block w os) (by rw [bE_eq]; exact (piece_app (segRun_of (pc0 w os)) (piece_app (segRun_of (pc1 w os)) (piece_app (segRun_of (pc2 w os)) (piece_app (segRun_of (pc3 w os)) (piece_app (segRun_of (pc4 w os)) (piece_app (segRun_of (pc5 w os)) (piece_app (segRun_of (pc6 w os)) (piece_app (segRun_of (pc7 w os)) (piece_app (segRun_of (pc8 w os)) (piece_app (segRun_of (pc9 w os)) (piece_app (segRun_of (pc10 w os)) (piece_app (segRun_of (pc11 w os)) (piece_app (segRun_of (pc12 w os)) (piece_app (segRun_of (pc13 w os)) (piece_app (segRun_of (pc14 w os)) (piece_app (segRun_of (pc15 w os)) (piece_app (segRun_of (pc16 w os)) (piece_nil (fin w os)))))))))))))))))))))
  exact r
theorem boot0 : ∀ w : World, (fencedOpening treeTable p0 w 9052).map (fun s => (s.heap, s.gens, s.drawn, s.toks)) = some (boot_heap w.params, Array.mk [], boot_drawn, boot_toks) :=
  boot_open (by kernel_rfl) (by decide) (fun s => by kernel_rfl)
theorem size0 (w : World) : ((boot_heap w.params).isNs mainGlobals && (Array.mk [] : Array GenState).size == 0, (boot_heap w.params).objs.size, (boot_heap w.params).nsMap mainGlobals "__annotations__") = (true, 11, some (.ref 6)) := by
  kernel_rfl
end Mine
end
noncomputable section
namespace Mine
set_option maxHeartbeats 0
theorem lk1 (w : World) : staticsOk (importedModules p0.main.body) (boot_heap w.params) (Hf w.params) = true := by
  rw [PySem.W.Fast.te5923862056798008813]; kernel_rfl
theorem lk2 (w : World) : namesBound p0 (Hf w.params) = true := by kernel_rfl
theorem lk3 (w : World) (os : OsState) : gensDone ⟨Hf w.params, #[], {}, 966, os⟩ = true := by kernel_rfl
theorem lk4 (w : World) : laidKept (boot_heap w.params) (Hf w.params) = true := by kernel_rfl
theorem lk6 (w : World) : asF.map (Hf w.params).get? = (KF w.params).map (fun p => some p.2) := by kernel_rfl
theorem lk5 (w : World) (os : OsState) : openSeen q0 loose0 (importedModules p0.main.body) (fun _ => true) true ⟨Hf w.params, #[], {}, 966, os⟩ = openGood q0 loose0 := by
  rw [PySem.W.Fast.te4187177175401517315, PySem.W.Fast.te5923862056798008813]; kernel_rfl
end Mine
end
noncomputable section
namespace Mine
set_option maxHeartbeats 0
theorem said0 : OpenLaw.wellSaid PySem.Challenge.rw_sq0040_01 = true := by
  rw [PySem.W.Fast.te9446332074065402090]; kernel_rfl
end Mine
end
noncomputable section
namespace Mine
set_option maxHeartbeats 0
theorem left0 : LeftO p0 q0 loose0 (fun _ => true) (fun s => asF.map s.heap.get?) (fun w => (KF w.params).map fun p => some p.2) 9052 true :=
  LeftO.of_pieces (H₀ := boot_heap) (H₁ := Hf) (gs₀ := Array.mk []) (gs₁ := #[]) (d₀ := boot_drawn) (d₁ := {}) (k₀ := boot_toks) (k₁ := 966) (m₀ := 11) (ann := some (.ref 6)) (M := 4495)
    boot0 size0 runTop (by decide) (fun w => funext fun os => by
      rw [lk1 w, lk2 w, lk3 w os, lk4 w, lk5 w os, lk6 w]; rfl)
noncomputable def d0 : DefRec := match law0 with
  | .FunctionDef n a b _ _ _ sc _ _ pos => ⟨n, a, b, sc, pos⟩
  | _ => ⟨Str.empty, ⟨[], [], none, [], [], none, []⟩, [], ⟨.function, [], false, false, []⟩, ⟨0, 0, 0, 0⟩⟩
theorem head0 (walk : WalkO q0 loose0 (fun _ _ => True) (fun w h => (KF w.params).In h) PySem.Challenge.rw_sq0040_01.row.toRowW d0 [] (fun f vs => PySem.call f vs)) : PySem.Challenge.rw_sq0040_01.Holds :=
  holds_law said0 fun said => holds_open (r := PySem.Challenge.rw_sq0040_01.row) (q := q0) (loose := loose0) (d := d0) (kwd := []) (Xt := fun _ => true) (XP := fun _ _ => True) (YP := fun w h => (KF w.params).In h) (N := 9052)
    left0 (fun w s e => Frag.in_of (as := asF) (by kernel_rfl) e) (fun w h h' x k => x.keeps k) (fun _ _ => trivial) (fun _ _ _ _ _ => trivial)
    (by kernel_rfl) (by kernel_rfl) (by kernel_rfl) (fun s _ => recFacts_of rfl) (by kernel_rfl) said (by decide +kernel) ⟨rfl, rfl, rfl, rfl, rfl, by decide +kernel⟩
    ⟨[.list []], by decide +kernel, by decide +kernel⟩ walk
end Mine
end
section
namespace Mine
theorem pkH {a d x : Nat} {R : Prop} (h : x < d ∧ R) (k : x < d ∧ R → a < d) : a ≠ d := Nat.ne_of_lt (k h)
theorem pkT {P R S : Prop} (k : R → S) (h : P ∧ R) : S := k h.2
theorem pkS {a d x : Nat} {R : Prop} (h : x < d ∧ R) (k : x < d ∧ R → a < d) : d ≠ a := Nat.ne_of_gt (k h)
theorem allC {α : Type} {P : α → Prop} {a : α} {l : List α} (h : P a) (t : ∀ p ∈ l, P p) : ∀ p ∈ a :: l, P p := List.forall_mem_cons.mpr ⟨h, t⟩
theorem allN {α : Type} {P : α → Prop} : ∀ p ∈ ([] : List α), P p := fun _ h => nomatch h
theorem allA {α : Type} {P : α → Prop} {a b : List α} (h : ∀ p ∈ a, P p) (t : ∀ p ∈ b, P p) : ∀ p ∈ a ++ b, P p := fun p hp => (List.mem_append.mp hp).elim (h p) (t p)
structure Hid (G P : Prop) : Prop where
  go : P → G
theorem hideG {P : Prop} (h : ∀ G : Prop, Hid G P → G) : P := h P ⟨id⟩
end Mine
end
section
namespace Mine
structure KG (K : Flow → Shared → Prop) (f : Flow) (s : Shared) : Prop where
  go : K f s
structure KQ {α : Type} (K : α → Shared → Prop) (a : α) (s : Shared) : Prop where
  go : K a s
theorem hideQ {α : Type} {M : Model} {A : Around} {x : Sem α} {P : α → Shared → Prop} {E : Value → Shared → Prop} {s : Shared} (h : ∀ K, (∀ a s, P a s → KQ K a s) → wpAny M A x (KQ K) E s) : wpAny M A x P E s :=
  wpAny_mono (h P fun _ _ p => ⟨p⟩) (fun _ _ q => q.go) fun _ _ e => e
noncomputable def nxF : Flow → Bool
  | .next => true
  | _ => false
section
variable {M : Model} {A : Around} {st : Stmt} {rest : List Stmt} {env : Env} {Q : Flow → Shared → Prop} {E : Value → Shared → Prop} {K : Flow → Shared → Prop} {s : Shared} {v : Value}
theorem execsH (h : ∀ K, (∀ s, wpAny M A (execs rest env) Q E s → KG K .next s) → (∀ f s, nxF f = false → Q f s → KG K f s) → wpAny M A (exec st env) (KG K) E s) : wpAny M A (execs (st :: rest) env) Q E s :=
  wpAny_execs_cons (wpAny_mono (h (fun f s' => match f with | .next => wpAny M A (execs rest env) Q E s' | f => Q f s') (fun _ h => ⟨h⟩) (fun f _ n q => by cases f <;> first | exact ⟨q⟩ | cases n)) (fun _ _ h => h.go) (fun _ _ h => h))
theorem execsN (h : ∀ K, (∀ s, wpAny M A (execs rest env) Q E s → KG K .next s) → wpAny M A (exec st env) (KG K) E s) : wpAny M A (execs (st :: rest) env) Q E s := execsH fun K n _ => h K n
theorem execs1 (h : wpAny M A (exec st env) Q E s) : wpAny M A (execs [st] env) Q E s :=
  wpAny_execs_cons (wpAny_mono h (fun f s q => by cases f <;> first | exact wpAny_execs_nil q | exact q) fun _ _ e => e)
end
theorem oi1 {a b c : Int} (h : b ≤ c) (k : a ≤ b) : a ≤ c := Int.le_trans k h
theorem oi2 {a b c : Int} (h : b ≤ c) (k : a < b) : a < c := Int.lt_of_lt_of_le k h
theorem oi3 {a b c : Int} (h : b < c) (k : a ≤ b) : a < c := Int.lt_of_le_of_lt k h
theorem oi4 {a b c : Int} (h : a < b) (k : b ≤ c) : a ≤ c := Int.le_of_lt (Int.lt_of_lt_of_le h k)
theorem oi5 {a b c : Int} (h : b < c) (k : a ≤ b) : a ≤ c := Int.le_of_lt (Int.lt_of_le_of_lt k h)
theorem on1 {a b c : Nat} (h : b ≤ c) (k : a ≤ b) : a ≤ c := Nat.le_trans k h
theorem on2 {a b c : Nat} (h : b ≤ c) (k : a < b) : a < c := Nat.lt_of_lt_of_le k h
theorem on4 {a b c : Nat} (h : a < b) (k : b ≤ c) : a ≤ c := Nat.le_of_lt (Nat.lt_of_lt_of_le h k)
theorem on7 {a b c d : Nat} (h : a = b) (h2 : b ≤ c) (k : c ≤ d) : a ≤ d := h ▸ Nat.le_trans h2 k
theorem on8 {a b c d : Nat} (h : b = a) (h2 : b ≤ c) (k : c ≤ d) : a ≤ d := h ▸ Nat.le_trans h2 k
theorem oiA {a b : Int} (h : a < b) : a + 1 < b + 1 := Int.add_lt_add_right h 1
theorem oiE {a b k : Int} (h : a ≤ b + (k - 1)) : a + 1 ≤ b + k := by omega
theorem oiM {d n k m : Int} (h : d < n) (e : 0 ≤ k ∧ k * (n - 1) ≤ m) : k * d ≤ m := Int.le_trans (Int.mul_le_mul_of_nonneg_left (by omega) e.1) e.2
theorem oiB {d n k m : Int} (h : d < n) (e : k + n - 1 ≤ m) : k + d ≤ m := by omega
theorem oiC {d n m : Int} (h : d < n) (e : n - 1 ≤ m) : d ≤ m := by omega
theorem oiD {d n k m : Int} (h : d ≤ n) (e : k + n ≤ m) : k + d ≤ m := by omega
theorem oiF {a b m : Int} (h : a < b) (e : m ≤ 0) : m < b - a := by omega
theorem oiG {a m n : Int} (h : m ≤ a) (e : n ≤ m + 1) : n ≤ a + 1 := by omega
theorem onA {a b : Nat} (h : a < b) : a + 1 < b + 1 := Nat.succ_lt_succ h
theorem onB {a b k m : Nat} (h : a ≤ b) (e : b + k ≤ m) : a + k ≤ m := Nat.le_trans (Nat.add_le_add_right h k) e
theorem on9 {a b c : Nat} (h : a = b) (h2 : b ≤ c) : a ≤ c := h ▸ h2
theorem abB {x lo hi : Int} {B : Nat} (h : lo ≤ x) (h2 : x ≤ hi) (e : -(B : Int) < lo ∧ hi < (B : Int)) : x.natAbs < B := by omega
theorem abC {x lo hi : Int} {B : Nat} (h : lo < x) (h2 : x ≤ hi) (e : -(B : Int) < lo ∧ hi < (B : Int)) : x.natAbs < B := by omega
theorem abD {x lo hi : Int} {B : Nat} (h : lo ≤ x) (h2 : x < hi) (e : -(B : Int) < lo ∧ hi < (B : Int)) : x.natAbs < B := by omega
theorem bndN {lo v hi : Int} (h : lo ≤ v) (k : v ≤ hi) : ¬ (decide (lo ≤ v) && decide (v ≤ hi)) = !true := by rw [decide_eq_true h, decide_eq_true k]; decide
theorem onS {a k M : Nat} (h : a < M - k) : a + k < M := Nat.add_lt_of_lt_sub h
theorem oiS {a k M : Int} (h : a < M - k) : a + k < M := Int.add_lt_of_lt_sub_right h
theorem rD {d n k : Nat} (h : d + (n + k) ≤ 900) : d + k ≤ 900 - n := Nat.le_sub_of_add_le (by rw [Nat.add_assoc, Nat.add_comm k n]; exact h)
theorem rU {u n k : Nat} (h : u + 10 * (n + 1) ≤ 5000) (hk : k ≤ 10) : u + k ≤ 5000 - 10 * n := Nat.le_sub_of_add_le (Nat.le_trans (Nat.le_of_eq (Nat.add_right_comm u k (10 * n))) (Nat.le_trans (Nat.add_le_add_left hk (u + 10 * n)) h))
theorem rL {d n : Nat} (h : d + (n + 1) ≤ 900) : d < 1000 := Nat.lt_of_le_of_lt (Nat.le_trans (Nat.le_add_right _ _) h) (by decide)
theorem tnD {K c d : Int} (h : c < d) (k : c < K) : (K - d).toNat + 1 < (K - c).toNat + 1 := by omega
theorem oaR {P : Prop} {b c d : Int} (h : P ∧ b ≤ c) (e : c ≤ d) : b ≤ d := Int.le_trans h.2 e
theorem oaL {P : Prop} {a b d : Int} (h : a ≤ b ∧ P) (e : d ≤ a) : d ≤ b := Int.le_trans e h.1
theorem oaS {P : Prop} {b c d : Int} (h : P ∧ b ≤ c) (e : c < d) : b < d := Int.lt_of_le_of_lt h.2 e
theorem oaT {P : Prop} {b c d : Int} (h : P ∧ b < c) (e : c ≤ d) : b < d := Int.lt_of_lt_of_le h.2 e
theorem nl1 {c L : Nat} (h : c < L) : c ≠ L + 1 := Nat.ne_of_lt (Nat.lt_succ_of_lt h)
theorem nl2 {c L : Nat} (h : c < L) : c ≠ L + 1 + 1 := Nat.ne_of_lt (Nat.lt_succ_of_lt (Nat.lt_succ_of_lt h))
end Mine
end
local macro_rules | `(tactic| omega) => `(tactic| k_extra "om")
local macro_rules | `(tactic| k_ne) => `(tactic| k_extra "ne")
theorem Mine.kbase1 : True := by
  k_with_none
  k_with "om" =>
    first
    | with_reducible assumption
    | decide +kernel
    | (with_reducible show @LE.le Int _ _ _); first
      | with_reducible exact Int.natCast_nonneg _
      | with_reducible exact Int.le_refl _
      | with_reducible exact Int.le_trans (by with_reducible assumption) (by decide +kernel)
      | with_reducible exact oi1 (by with_reducible assumption) (by decide +kernel)
      | with_reducible exact oiC (by with_reducible assumption) (by decide +kernel)
      | with_reducible exact oi4 (by with_reducible assumption) (by decide +kernel)
      | with_reducible exact oi5 (by with_reducible assumption) (by decide +kernel)
      | with_reducible exact oiM (by with_reducible assumption) (by decide +kernel)
      | with_reducible exact oiB (by with_reducible assumption) (by decide +kernel)
      | with_reducible exact oiD (by with_reducible assumption) (by decide +kernel)
      | with_reducible exact Int.mul_nonneg (by decide +kernel) (by with_reducible assumption)
      | with_reducible exact Int.le_add_of_nonneg_right (by with_reducible assumption)
      | with_reducible exact Int.le_add_of_nonneg_right (by decide +kernel)
      | with_reducible exact Int.add_nonneg (by with_reducible assumption) (by decide +kernel)
      | with_reducible exact Int.add_nonneg (by decide +kernel) (by with_reducible assumption)
      | with_reducible exact oiG (by with_reducible assumption) (by decide +kernel)
      | ((repeat with_reducible refine oiE ?_); with_reducible exact Int.le_add_of_nonneg_right (by decide +kernel))
      | with_reducible exact oaR (by with_reducible assumption) (by decide +kernel)
      | with_reducible exact oaL (by with_reducible assumption) (by decide +kernel)
    | (with_reducible show @LT.lt Int _ _ _); first
      | with_reducible exact Int.lt_of_le_of_lt (by with_reducible assumption) (by decide +kernel)
      | with_reducible exact Int.lt_of_lt_of_le (by with_reducible assumption) (by decide +kernel)
      | with_reducible exact oi2 (by with_reducible assumption) (by decide +kernel)
      | with_reducible exact oi3 (by with_reducible assumption) (by decide +kernel)
      | with_reducible exact oiF (by with_reducible assumption) (by decide +kernel)
      | with_reducible exact oaS (by with_reducible assumption) (by decide +kernel)
      | with_reducible exact oaT (by with_reducible assumption) (by decide +kernel)
      | ((repeat with_reducible refine oiS ?_); with_reducible exact oi2 (by with_reducible assumption) (by decide +kernel))
      | (with_reducible refine' Int.lt_of_lt_of_le ?h ?d; (case h => (repeat (with_reducible refine' oiA ?_)); with_reducible assumption); (case d => decide +kernel))
    | (with_reducible show @LE.le Nat _ _ _); first
      | with_reducible exact Nat.le_trans (by with_reducible assumption) (by decide +kernel)
      | with_reducible exact on1 (by with_reducible assumption) (by decide +kernel)
      | with_reducible exact on4 (by with_reducible assumption) (by decide +kernel)
      | with_reducible exact on7 (by with_reducible assumption) (by with_reducible assumption) (by decide +kernel)
      | with_reducible exact on8 (by with_reducible assumption) (by with_reducible assumption) (by decide +kernel)
      | with_reducible exact onB (by with_reducible assumption) (by decide +kernel)
    | (with_reducible show @LT.lt Nat _ _ _); first
      | with_reducible exact abB (by with_reducible assumption) (by with_reducible assumption) (by decide +kernel)
      | with_reducible exact abC (by with_reducible assumption) (by with_reducible assumption) (by decide +kernel)
      | with_reducible exact abD (by with_reducible assumption) (by with_reducible assumption) (by decide +kernel)
      | with_reducible exact Nat.lt_of_le_of_lt (by with_reducible assumption) (by decide +kernel)
      | with_reducible exact Nat.lt_of_lt_of_le (by with_reducible assumption) (by decide +kernel)
      | with_reducible exact on2 (by with_reducible assumption) (by decide +kernel)
      | with_reducible exact Nat.lt_add_one _
      | ((with_reducible show Int.toNat (_ - _) + 1 < Int.toNat (_ - _) + 1); exact tnD (by omega) (by omega))
      | ((repeat with_reducible refine onS ?_); with_reducible exact on2 (by with_reducible assumption) (by decide +kernel))
    | ((with_reducible show ¬ (decide (_ ≤ _) && decide (_ ≤ _)) = !true); refine bndN ?_ ?_ <;> omega)
    | ((with_reducible show ¬ ((_ : Int) < _)); refine Int.not_lt.mpr ?_; omega)
    | ((with_reducible show ¬ ((_ : Int) ≤ _)); refine Int.not_le.mpr ?_; omega)
    | ((with_reducible show And _ _); refine And.intro ?_ ?_ <;> omega)
    | lia
  k_with "ne" =>
    (try dsimp only); first | with_reducible assumption | (refine Ne.symm ?_; with_reducible assumption) | exact Nat.ne_of_lt (by with_reducible assumption) | exact Nat.ne_of_gt (by with_reducible assumption) | (refine pkH (by with_reducible assumption) ?_; (repeat (first | exact And.left | exact id | refine pkT ?_)); done) | (refine pkS (by with_reducible assumption) ?_; (repeat (first | exact And.left | exact id | refine pkT ?_)); done) | exact nl1 (by with_reducible assumption) | exact nl2 (by with_reducible assumption) | exact Ne.symm (nl1 (by with_reducible assumption)) | exact Ne.symm (nl2 (by with_reducible assumption))
  k_with "execs cons" => (first | k_gentoks | ((first | (with_reducible show wpAny _ _ (execs [_] _) (KQ _) _ _) | (with_reducible show wpAny _ _ (execs [_] _) (KG _) _ _)); refine' execs1 ?_) | (refine' execsH ?_; first | ((fail_if_success (have := kn1)); intro kq1 kn1 ko1) | ((fail_if_success (have := kn2)); intro kq2 kn2 ko2) | ((fail_if_success (have := kn3)); intro kq3 kn3 ko3)))
  k_with "exs" => (first | k_gentoks | ((first | (with_reducible show wpAny _ _ (execs [_] _) (KQ _) _ _) | (with_reducible show wpAny _ _ (execs [_] _) (KG _) _ _)); refine' execs1 ?_) | (refine' execsN ?_; first | ((fail_if_success (have := kn1)); intro kq1 kn1) | ((fail_if_success (have := kn2)); intro kq2 kn2) | ((fail_if_success (have := kn3)); intro kq3 kn3)))
  k_with "execs cons Assign" => k_extra "exs"
  k_with "execs cons AugAssign" => k_extra "exs"
  k_with "execs cons Expr" => k_extra "exs"
  k_with "KG" => (first | (refine' kn3 _ ?_; (try clear ko3); clear kn3 kq3) | (refine' kn2 _ ?_; (try clear ko2); clear kn2 kq2) | (refine' kn1 _ ?_; (try clear ko1); clear kn1 kq1) | (refine' ko3 _ _ rfl ?_; clear ko3 kn3 kq3) | (refine' ko2 _ _ rfl ?_; clear ko2 kn2 kq2) | (refine' ko1 _ _ rfl ?_; clear ko1 kn1 kq1)); (try dsimp only)
  k_with "KQ" => (first | ((rename (∀ a s, _ → KQ _ a s) => kz); refine' kz _ _ ?_) | ((rename (∀ (_ : Unit) s, _ → KQ _ () s) => kz); refine' kz () _ ?_)); clear kz; (try clear kyb); try dsimp only
  k_with "isT" => (goal_has PySem.execs; (fail_if_success (with_reducible show wpAny _ _ _ (KQ _) _ _)); refine' hideQ ?_; intro kyb kyh)
  k_with "isTrue Compare" => k_extra "isT"
  k_with "isTrue BoolOp" => k_extra "isT"
  k_with "isTrue UnaryOp" => k_extra "isT"
  k_with "exec While BoolOp" => (refine' stop_here ?_)
  k_with "exec For Tuple Tuple cons nil" => (refine' stop_here ?_)
  k_with "exec For Name Name cons nil" => (refine' stop_here ?_)
  k_with "exec For Name Attribute cons nil" => (refine' stop_here ?_)
  k_with "last exec For Name" => (refine' stop_here ?_)
  k_with "last exec For" => (refine' stop_here ?_)
  k_with "exec While" => (refine' stop_here ?_)
  k_with "last exec While" => (refine' stop_here ?_)
  k_with "exec For" => (refine' stop_here ?_)
  k_with "last exec For Name Name" => (refine' stop_here ?_)
  k_with "exec For Name Call cons nil" => (refine' stop_here ?_)
  k_with "exec For Name Tuple cons nil" => (refine' stop_here ?_)
  k_with "exec For Tuple Name cons nil" => (refine' stop_here ?_)
  k_with "exec While Compare" => (refine' stop_here ?_)
  k_with "exec For Tuple Call cons nil" => (refine' stop_here ?_)
  trivial
section
namespace Mine
theorem fillK (w : World) : KF w.params = KF w.params ∧ PySem.Challenge.rw_sq0040_01 = PySem.Challenge.rw_sq0040_01 := by
  k_fill
  exact ⟨rfl, rfl⟩
abbrev TR (mg mb : Str → Option Value) (h : Heap) : Prop := TopRead q0 (looseW q0 loose0) mg mb h
abbrev An (n : Nat) : Around := { handled := none, depth := 900 - n, frames := none, guards := none, units := 5000 - 10 * n }
structure Rm (n : Nat) (A : Around) : Prop where
  h : A.handled = none
  d : A.depth + n ≤ 900
  u : A.units + 10 * n ≤ 5000
theorem wpAny_le {α : Type} {M : Model} {A A' : Around} {t : Sem α} {Q : α → Shared → Prop} {E : Value → Shared → Prop} {s : Shared} (h : wpAny M A' t Q E s)
    (hh : A.handled = A'.handled) (hd : A.depth ≤ A'.depth) (hu : A.units ≤ A'.units) (hf : A'.frames = none) (hg : A'.guards = none) : wpAny M A t Q E s :=
  fun Γ p hΓ => h Γ p ⟨hΓ.1.trans hh, Nat.le_trans hΓ.2.1 hd, (fun l e => by rw [hf] at e; cases e), (fun l e => by rw [hg] at e; cases e), Nat.le_trans hΓ.2.2.2.2 hu⟩
theorem Rm.to {α : Type} {M : Model} {n : Nat} {A : Around} {t : Sem α} {Q : α → Shared → Prop} {E : Value → Shared → Prop} {s : Shared} (R : Rm (n + 1) A) (env : Env) (h : wpAny M (An n) t Q E s) : wpAny M (A.deeper env) t Q E s :=
  wpAny_le h R.h (rD R.d) (rU R.u (by decide)) rfl rfl
theorem Rm.le {n m : Nat} {A : Around} (R : Rm n A) (h : m ≤ n) : Rm m A := ⟨R.h, Nat.le_trans (Nat.add_le_add_left h _) R.d, Nat.le_trans (Nat.add_le_add_left (Nat.mul_le_mul_left 10 h) _) R.u⟩
theorem Rm.an {n : Nat} (h : n ≤ 100 := by decide) : Rm n (An n) := ⟨rfl, Nat.le_of_eq (Nat.sub_add_cancel (Nat.le_trans h (by decide))), Nat.le_of_eq (Nat.sub_add_cancel (Nat.le_trans (Nat.mul_le_mul_left 10 h) (by decide)))⟩
section
variable {prog : Program} {w : World} {A : Around} {s : Shared} {E : Value → Shared → Prop} {Q : Value → Shared → Prop} {p : Program} {loose : List Str} {mg mb : Str → Option Value}
theorem callM {K : Frag} {name qual : Str} {params : Arguments} {st0 : Stmt} {body : List Stmt} {sk : ScopeKind} {sn : List (Str × NameKind)} {sg sc : Bool} {sm : List (Str × Const)} {dV kV doc pm cdv ct oc : Value} {an od : Option Addr} {osl : Array (Option Value)} {f : Addr} {pos : List Value} {kw : List (Str × Value)} {binds : List (Str × Value)}
    {h₀ : Heap} {news : List (Addr × Obj)} {n : Nat} (R : Rm (n + 1) A) (X : K.In h₀) (T : TR mg mb h₀) (hk : h₀.StaysIn s.heap) (hn : ∀ p ∈ news, s.heap.get? p.1 = some p.2 ∧ h₀.get? p.1 = none)
    (ho : K.lookup f = some ⟨oc, od, .func (fnOf name qual params (st0 :: body) ⟨sk, sn, sg, sc, sm⟩ dV kV doc pm an cdv ct), osl⟩) (hcd : codeIn K cdv qual = true)
    (hbind : BindsTo s (fnOf name qual params (st0 :: body) ⟨sk, sn, sg, sc, sm⟩ dV kV doc pm an cdv ct) ⟨pos, kw⟩ binds) (hloc : (binds.all fun x => decide (sn.lookup x.1 = some .local)) = true)
    (hco : sc = false) (hgen : sg = false) (hkd : sk = .function) (hcell : (sn.all fun x => x.2 != .cell) = true)
    (h : ∀ L h₁ h₂ tk, Fr h₂ L h₁ (fun y => binds.reverse.lookup y) → News h₂ L h₁ news → K.In h₂ → TR mg mb h₂ → (∀ b o, (∀ p ∈ news, p.1 ≠ b) → s.heap.get? b = some o → h₂.get? b = some o) → (∀ p ∈ news, p.1 < L) → s.heap.objs.size ≤ L →
      ∀ K, (∀ fl s', Q (match fl with | .ret v => v | _ => .none) s' → KQ K fl s') → wpAny (model prog w) (An n) (execs (st0 :: body) (envOf qual ⟨sk, sn, sg, sc, sm⟩ L f cdv))
        (KQ K) (fun _ _ => False)
        { s with heap := h₁, toks := tk }) : wpAny (model prog w) A (call (.ref f) pos kw) Q E s := by
  refine wpAny_call (codeAny_call_def (fd := fnOf name qual params (st0 :: body) ⟨sk, sn, sg, sc, sm⟩ dV kV doc pm an cdv ct) (body := st0 :: body) (binds := binds) (rL R.d) ((X.keeps hk) _ _ ho) rfl (T.nolimit.keeps hk) (codeRec_of (X.keeps hk) hcd) rfl hbind
    (fun x hx => by have := List.all_eq_true.mp hcell x hx; simpa using this) (fun x hx => of_decide_eq_true (List.all_eq_true.mp hloc x hx)) (fun h₁ hns hk₁ => ?_) hco hgen hkd)
  have st : h₀.StaysIn (hideAll s.heap (news.map (·.1))) := fun b o e => hideAll_get _ (hk b o e) (fun q => by
    obtain ⟨p, hp, rfl⟩ := List.mem_map.mp q
    rw [(hn p hp).2] at e; cases e)
  refine wpAny_mono (R.to _ <| hideQ (h s.heap.objs.size h₁ (hideAll s.heap (List.map (fun (x : Addr × Obj) => x.fst) news)) _ ⟨hns, fun b o e => hk₁ b o (of_hideAll _ e), Nat.le_of_eq (hideAll_size _ _)⟩
    (fun p hp => ⟨hk₁ _ _ (hn p hp).1, Nat.ne_of_lt (Heap.lt_size (hn p hp).1), hideAll_none _ (List.mem_map_of_mem hp)⟩) (Frag.In.keeps X st) (T.keeps st)
    (fun b o hb e => hideAll_get _ e (fun q => by obtain ⟨p, hp, rfl⟩ := List.mem_map.mp q; exact hb p hp rfl)) (fun p hp => Heap.lt_size (hn p hp).1) (Nat.le_refl _))) (fun fl s' x => x) fun _ _ x => x.elim
theorem callF {K : Frag} {name qual : Str} {params : Arguments} {st0 : Stmt} {body : List Stmt} {sk : ScopeKind} {sn : List (Str × NameKind)} {sg sc : Bool} {sm : List (Str × Const)} {dV kV doc pm cdv ct oc : Value} {an od : Option Addr} {osl : Array (Option Value)} {f : Addr} {pos : List Value} {kw : List (Str × Value)} {binds : List (Str × Value)}
    {n : Nat} (R : Rm (n + 1) A) (X : K.In s.heap) (T : TR mg mb s.heap)
    (ho : K.lookup f = some ⟨oc, od, .func (fnOf name qual params (st0 :: body) ⟨sk, sn, sg, sc, sm⟩ dV kV doc pm an cdv ct), osl⟩) (hcd : codeIn K cdv qual = true)
    (hbind : BindsTo s (fnOf name qual params (st0 :: body) ⟨sk, sn, sg, sc, sm⟩ dV kV doc pm an cdv ct) ⟨pos, kw⟩ binds) (hloc : (binds.all fun x => decide (sn.lookup x.1 = some .local)) = true)
    (hco : sc = false) (hgen : sg = false) (hkd : sk = .function) (hcell : (sn.all fun x => x.2 != .cell) = true)
    (h : ∀ L h₁ tk, Fr s.heap L h₁ (fun y => binds.reverse.lookup y) → News s.heap L h₁ [] → K.In s.heap → TR mg mb s.heap → 
      ∀ K, (∀ fl s', Q (match fl with | .ret v => v | _ => .none) s' → KQ K fl s') → wpAny (model prog w) (An n) (execs (st0 :: body) (envOf qual ⟨sk, sn, sg, sc, sm⟩ L f cdv))
        (KQ K) (fun _ _ => False)
        { s with heap := h₁, toks := tk }) : wpAny (model prog w) A (call (.ref f) pos kw) Q E s := by
  refine wpAny_call (codeAny_call_def (fd := fnOf name qual params (st0 :: body) ⟨sk, sn, sg, sc, sm⟩ dV kV doc pm an cdv ct) (body := st0 :: body) (binds := binds) (rL R.d) (X _ _ ho) rfl T.nolimit (codeRec_of X hcd) rfl hbind
    (fun x hx => by have := List.all_eq_true.mp hcell x hx; simpa using this) (fun x hx => of_decide_eq_true (List.all_eq_true.mp hloc x hx)) (fun h₁ hns hk₁ => ?_) hco hgen hkd)
  refine wpAny_mono (R.to _ <| hideQ (h s.heap.objs.size h₁ _ ⟨hns, hk₁, Nat.le_refl _⟩ News.nil X T)) (fun fl s' x => x) fun _ _ x => x.elim
theorem halved_spec (R : Rm 1 A) (X : (KF w.params).In s.heap) (T : TR mg mb s.heap) {v : Int} {t : Tok}
   (h : ∀ h' tk t', s.heap.StaysIn h' → Q (.int (Int.fdiv (v + Int.fmod v 2) 2) t') {s with heap := h', toks := tk}) : wpAny (model prog w) A (call (.ref 130) [.int v t]) Q E s := by
  refine callF (binds := [("value", .int v t)]) R X T rfl (by k_is) (BindsTo.of_eq (by kernel_rfl)) (by kernel_rfl) rfl rfl rfl (by kernel_rfl) (fun L h₁ tk F N X T => ?_)
  repeat' (first | walk1 | (dsimp only; walk1))
  exact h _ _ _ F.keep
theorem is_whole_spec (R : Rm 1 A) (X : (KF w.params).In s.heap) (T : TR mg mb s.heap) {v lo hi : Int} {t t1 t2 : Tok}
   (h : ∀ h' tk, s.heap.StaysIn h' → Q (.bool (decide (lo ≤ v) && decide (v ≤ hi))) {s with heap := h', toks := tk}) : wpAny (model prog w) A (call (.ref 109) [.int v t, .int lo t1, .int hi t2]) Q E s := by
  refine callF (binds := [("value", .int v t), ("low", .int lo t1), ("high", .int hi t2)]) R X T rfl (by k_is) (BindsTo.of_eq (by kernel_rfl)) (by kernel_rfl) rfl rfl rfl (by kernel_rfl) (fun L h₁ tk F N X T => ?_)
  repeat' (first | walk1 | (dsimp only; walk1))
  · rename_i hlo
    have e := h h₁ (tk + 1) F.keep
    rwa [decide_eq_true hlo, Bool.true_and] at e
  · rename_i hlo
    have e := h h₁ (tk + 1) F.keep
    rw [decide_eq_false hlo, Bool.false_and] at e
    rwa [decide_eq_false hlo]
end
end Mine
end
section
set_option maxHeartbeats 4000000
namespace Mine
theorem two_ne {j c b : Nat} {x y : Obj} (h1 : b ≠ j) (h2 : b ≠ c) : ∀ p ∈ [(j, x), (c, y)], p.1 ≠ b := by
  intro p hp
  simp only [List.mem_cons, List.not_mem_nil, or_false] at hp
  rcases hp with rfl | rfl
  · exact Ne.symm h1
  · exact Ne.symm h2
theorem getD_ge0 {ns : List Int} (h : ∀ x ∈ ns, 0 ≤ x) (i : Nat) : 0 ≤ ns.getD i 0 := by
  rw [List.getD_eq_getElem?_getD]
  cases e : ns[i]? with
  | none => exact Int.le_refl _
  | some v => exact h v (List.mem_of_getElem? e)
theorem set_ge0 {ns : List Int} (h : ∀ x ∈ ns, 0 ≤ x) (i : Nat) {m : Int} (hm : 0 < m) : ∀ x ∈ ns.set i ((ns.getD i 0).fdiv m), 0 ≤ x := by
  intro x hx
  rcases List.mem_or_eq_of_mem_set hx with hx | rfl
  · exact h x hx
  · exact Int.fdiv_nonneg (getD_ge0 h i) (Int.le_of_lt hm)
section
variable {prog : Program} {w : World} {A : Around} {s : Shared} {E : Value → Shared → Prop} {Q : Value → Shared → Prop} {p : Program} {loose : List Str} {mg mb : Str → Option Value}
theorem take_spec {h₀ : Heap} (R : Rm 1 A) (X : (KF w.params).In h₀) (T : TR mg mb h₀) (hk : h₀.StaysIn s.heap)
   {j c : Nat} {at_ tot many : Int} {t1 t2 tm : Tok} {n1 n2 : Nat} {vs : List Value} {ns : List Int} (hj : s.heap.get? j = some (listOf #[.ref c, .int at_ t1, .int tot t2] n1)) (hc : s.heap.get? c = some (listOf vs.toArray n2))
   (hj0 : h₀.get? j = none) (hc0 : h₀.get? c = none) (hjc : j ≠ c) (hi : IntsAre vs ns) (hns : ∀ x ∈ ns, 0 ≤ x) (hat : 0 ≤ at_) (hat2 : at_ < 100000) (htot : 0 ≤ tot) (hm : 0 < many) (hm2 : many ≤ 1000) (hlen : ns.length < 100)
   (h : ∀ d td h' tk at' t1' n1' n2' vs' ns', 0 ≤ d → d < many → h'.get? j = some (listOf #[.ref c, .int at' t1', .int tot t2] n1') → h'.get? c = some (listOf vs'.toArray n2') → IntsAre vs' ns' → (∀ x ∈ ns', 0 ≤ x) → ns'.length = ns.length → at_ ≤ at' → at' ≤ at_ + 1 →
      (∀ b o, b ≠ j → b ≠ c → s.heap.get? b = some o → h'.get? b = some o) → Q (.int d td) {s with heap := h', toks := tk}) : wpAny (model prog w) A (call (.ref 485) [.ref j, .int many tm]) Q E s := by
  refine callM (binds := [("jar", .ref j), ("many", .int many tm)]) (news := [(j, listOf #[.ref c, .int at_ t1, .int tot t2] n1), (c, listOf vs.toArray n2)]) R X T hk (by intro p hp; simp only [List.mem_cons, List.not_mem_nil, or_false] at hp; rcases hp with rfl | rfl; exact ⟨hj, hj0⟩; exact ⟨hc, hc0⟩)
    rfl (by k_is) (BindsTo.of_eq (by kernel_rfl)) (by kernel_rfl) rfl rfl rfl (by kernel_rfl) (fun L h₁ h₂ tk F N X₂ T₂ hb hL hL2 => ?_)
  clear X T hk
  repeat' (first | walk1 | (dsimp only; walk1))
  · rename Fr _ _ _ _ => F9; rename News _ _ _ _ => N9; rename IntsAre _ (List.set _ _ _) => hi9
    exact h _ _ _ _ _ _ _ _ _ _ (fmod_lo _ hm) (fmod_hi _ hm) (N9.get (by k_mem)) (N9.get (by k_mem)) hi9 (set_ge0 hns _ hm) (by simp) (by omega) (by omega) (fun b o b1 b2 e => F9.keep b o (hb b o (two_ne b1 b2) e))
  · rename Fr _ _ _ _ => F9; rename News _ _ _ _ => N9
    exact h _ _ _ _ _ _ _ _ _ _ (fmod_lo _ hm) (fmod_hi _ hm) (N9.get (by k_mem)) (N9.get (by k_mem)) hi hns rfl (by omega) (by omega) (fun b o b1 b2 e => F9.keep b o (hb b o (two_ne b1 b2) e))
  · rename Fr _ _ _ _ => F9; rename News _ _ _ _ => N9
    exact h _ _ _ _ _ _ _ _ _ _ (fmod_lo _ hm) (fmod_hi _ hm) (N9.get (by k_mem)) (N9.get (by k_mem)) hi hns rfl (by omega) (by omega) (fun b o b1 b2 e => F9.keep b o (hb b o (two_ne b1 b2) e))
end
end Mine
end
section
set_option maxHeartbeats 4000000
namespace Mine
section
variable {prog : Program} {w : World} {A : Around} {s : Shared} {E : Value → Shared → Prop} {Q : Value → Shared → Prop} {p : Program} {loose : List Str} {mg mb : Str → Option Value}
theorem newsAfter {h₀ h h' : Heap} {L : Addr} {news : List (Addr × Obj)} (N : News h₀ L h news) (k : h.StaysIn h') : News h₀ L h' news := fun p hp => ⟨k _ _ (N p hp).1, (N p hp).2⟩
theorem frAfter {h₀ h h' : Heap} {L : Addr} {m : Str → Option Value} (F : Fr h₀ L h m) (k : h.StaysIn h') : Fr h₀ L h' m := F.after k
theorem trKeep {h₀ h : Heap} {L : Addr} {m : Str → Option Value} (T : TR mg mb h₀) (F : Fr h₀ L h m) : TR mg mb h := T.keeps F.keep
theorem ksetAa1 : True := by
  k_with "p world" => (first | exact Rm.le Rm.an (by decide) | k_in | exact trKeep (by k_asm) (by k_asm))
  k_with "p after" => (intro _ _ kS; (rename Fr _ _ _ _ => kF); (rename News _ _ _ _ => kN); (have _ := frAfter kF kS); (have _ := newsAfter kN kS); (try k_sweep); intros)
  trivial
theorem check_whole_spec (R : Rm 1 A) (X : (KF w.params).In s.heap) (T : TR mg mb s.heap) {v : Int} {t : Tok}
   (h : ∀ h' tk, s.heap.StaysIn h' → Q (.int v t) {s with heap := h', toks := tk}) : wpAny (model prog w) A (call (.ref 116) [.int v t]) Q E s := by
  refine callF (binds := [("value", .int v t)]) R X T rfl (by k_is) (BindsTo.of_eq (by kernel_rfl)) (by kernel_rfl) rfl rfl rfl (by kernel_rfl) (fun L h₁ tk F N X T => ?_)
  repeat' (first | walk1 | (dsimp only; walk1))
  exact h _ _ F.keep
theorem ksetAa2 : True := by
  k_with "call ref" => ((with_reducible show wpAny _ _ (call (Value.ref 116) _ _) _ _ _); refine' check_whole_spec (mg := mg) (mb := mb) ?k1 ?k2 ?k3 ?_; (case k1 => walk_at "p world"); (case k2 => walk_at "p world"); (case k3 => walk_at "p world"); walk_at "p after")
  trivial
theorem check_dimen_spec (R : Rm 2 A) (X : (KF w.params).In s.heap) (T : TR mg mb s.heap) {v : Int} {t : Tok} (h1 : -1000000 ≤ v) (h2 : v ≤ 1000000)
   (h : ∀ h' tk, s.heap.StaysIn h' → Q (.int v t) {s with heap := h', toks := tk}) : wpAny (model prog w) A (call (.ref 123) [.int v t]) Q E s := by
  refine callF (binds := [("value", .int v t)]) R X T rfl (by k_is) (BindsTo.of_eq (by kernel_rfl)) (by kernel_rfl) rfl rfl rfl (by kernel_rfl) (fun L h₁ tk F N X T => ?_)
  repeat' (first | walk1 | (dsimp only; walk1))
  rename Fr _ _ _ _ => F9
  exact h _ _ F9.keep
theorem ksetAa3 : True := by
  k_with "call ref" => ((with_reducible show wpAny _ _ (call (Value.ref 109) _ _) _ _ _); refine' is_whole_spec (mg := mg) (mb := mb) ?k1 ?k2 ?k3 ?_; (case k1 => walk_at "p world"); (case k2 => walk_at "p world"); (case k3 => walk_at "p world"); walk_at "p after")
  trivial
theorem check_code_spec (R : Rm 2 A) (X : (KF w.params).In s.heap) (T : TR mg mb s.heap) {v : Int} {t : Tok} (h1 : 0 ≤ v) (h2 : v ≤ 255)
   (h : ∀ h' tk, s.heap.StaysIn h' → Q (.int v t) {s with heap := h', toks := tk}) : wpAny (model prog w) A (call (.ref 219) [.int v t]) Q E s := by
  refine callF (binds := [("code", .int v t)]) R X T rfl (by k_is) (BindsTo.of_eq (by kernel_rfl)) (by kernel_rfl) rfl rfl rfl (by kernel_rfl) (fun L h₁ tk F N X T => ?_)
  repeat' (first | walk1 | (dsimp only; walk1))
  rename Fr _ _ _ _ => F9
  exact h _ _ F9.keep
theorem check_math_char_spec (R : Rm 2 A) (X : (KF w.params).In s.heap) (T : TR mg mb s.heap) {f v : Int} {tf t : Tok} (h1 : 0 ≤ v) (h2 : v ≤ 255) (h3 : 0 ≤ f) (h4 : f ≤ 15)
   (h : ∀ h' tk, s.heap.StaysIn h' → Q .none {s with heap := h', toks := tk}) : wpAny (model prog w) A (call (.ref 141) [.int f tf, .int v t]) Q E s := by
  refine callF (binds := [("family", .int f tf), ("code", .int v t)]) R X T rfl (by k_is) (BindsTo.of_eq (by kernel_rfl)) (by kernel_rfl) rfl rfl rfl (by kernel_rfl) (fun L h₁ tk F N X T => ?_)
  repeat' (first | walk1 | (dsimp only; walk1))
  rename Fr _ _ _ _ => F9
  exact h _ _ F9.keep
end
end Mine
end
section
set_option maxHeartbeats 4000000
namespace Mine
inductive Kd where
  | plain
  | larger (c : Int)
  | pieces (a b c d : Int)
structure Row where
  code : Int
  wd : Int
  ht : Int
  dp : Int
  it : Int
  kd : Kd
noncomputable def Kd.sort : Kd → Int
  | .plain => 0
  | .larger _ => 2
  | .pieces .. => 3
inductive All2 {α β : Type} (R : α → β → Prop) : List α → List β → Prop
  | nil : All2 R [] []
  | cons {a : α} {b : β} {as : List α} {bs : List β} : R a b → All2 R as bs → All2 R (a :: as) (b :: bs)
theorem All2.imp {α β : Type} {R S : α → β → Prop} {as : List α} {bs : List β} (h : All2 R as bs) (f : ∀ a b, R a b → S a b) : All2 S as bs := by
  induction h with
  | nil => exact .nil
  | cons r _ ih => exact .cons (f _ _ r) ih
theorem All2.length {α β : Type} {R : α → β → Prop} {as : List α} {bs : List β} (h : All2 R as bs) : as.length = bs.length := by
  induction h with
  | nil => rfl
  | cons _ _ ih => simp [ih]
theorem All2.append {α β : Type} {R : α → β → Prop} {as cs : List α} {bs ds : List β} (h : All2 R as bs) (k : All2 R cs ds) : All2 R (as ++ cs) (bs ++ ds) := by
  induction h with
  | nil => exact k
  | cons r _ ih => exact .cons r ih
theorem All2.get {α β : Type} {R : α → β → Prop} {as : List α} {bs : List β} (h : All2 R as bs) : ∀ {i : Nat} {a : α}, as[i]? = some a → ∃ b, bs[i]? = some b ∧ R a b := by
  induction h with
  | nil => intro i a e; simp at e
  | cons r _ ih =>
    intro i a e
    cases i with
    | zero => simp at e; subst e; exact ⟨_, rfl, r⟩
    | succ i => simp at e; exact ih e
inductive IntTup (h : Heap) (v : Value) (ns : List Int) : Prop
  | mk (a : _)(vs : _) (h0 : v = .ref a) (h1 : IsTup h a vs.toArray) (h2 : IntsAre vs ns) : IntTup h v ns
theorem isTup_keeps {h h' : Heap} {a : Addr} {xs : Array Value} (x : IsTup h a xs) (k : h.StaysIn h') : IsTup h' a xs := let ⟨o, e, r⟩ := x; ⟨o, k _ _ e, r⟩
theorem IntTup.keeps {h h' : Heap} {v : Value} {ns : List Int} (x : IntTup h v ns) (k : h.StaysIn h') : IntTup h' v ns := let ⟨a, vs, e, t, i⟩ := x; ⟨a, vs, e, isTup_keeps t k, i⟩
noncomputable def RestAt (h : Heap) : Kd → Value → Prop
  | .plain, v => ∃ t, v = .int 0 t
  | .larger c, v => ∃ t, v = .int c t
  | .pieces a b c d, v => IntTup h v [a, b, c, d]
theorem RestAt.keeps {h h' : Heap} {kd : Kd} {v : Value} (x : RestAt h kd v) (k : h.StaysIn h') : RestAt h' kd v := by
  cases kd with
  | plain => exact x
  | larger => exact x
  | pieces => exact IntTup.keeps x k
inductive CharV (h : Heap) (v : Value) (r : Row) : Prop
  | mk (a : Addr) (t0 t1 t2 t3 t4 : Tok) (rest : Value) (h0 : v = .ref a) (h1 : IsTup h a #[.int r.wd t0, .int r.ht t1, .int r.dp t2, .int r.it t3, .int r.kd.sort t4, rest]) (h2 : RestAt h r.kd rest) : CharV h v r
theorem CharV.keeps {h h' : Heap} {v : Value} {r : Row} (x : CharV h v r) (k : h.StaysIn h') : CharV h' v r :=
  let ⟨a, t0, t1, t2, t3, t4, rest, e, t, q⟩ := x; ⟨a, t0, t1, t2, t3, t4, rest, e, isTup_keeps t k, q.keeps k⟩
noncomputable def find (rows : List Row) (code : Int) : Option Row := rows.find? fun r => decide (r.code = code)
noncomputable def rowD (rows : List Row) (code : Int) : Row := (find rows code).getD ⟨code, 0, 0, 0, 0, .plain⟩
noncomputable def largerOf (rows : List Row) (code : Int) : Int := match (rowD rows code).kd with
  | .larger c => if (find rows c).isSome then c else -1
  | _ => -1
noncomputable def CharsAt (w : World) (h : Heap) (d : Addr) (kvs : List (Int × Value)) (rows : List Row) : Prop :=
  h.DictOf (intKind p0 w) d kvs ∧ All2 (fun (kv : Int × Value) (r : Row) => kv.1 = r.code ∧ CharV h kv.2 r) kvs rows ∧ (d == sysModules) = false
theorem CharsAt.keeps {w : World} {h h' : Heap} {d : Addr} {kvs : List (Int × Value)} {rows : List Row} (x : CharsAt w h d kvs rows) (k : h.StaysIn h') : CharsAt w h' d kvs rows :=
  ⟨x.1.keep k, x.2.1.imp fun _ _ q => ⟨q.1, q.2.keeps k⟩, x.2.2⟩
theorem find_all2 {h : Heap} {kvs : List (Int × Value)} {rows : List Row} (x : All2 (fun (kv : Int × Value) (r : Row) => kv.1 = r.code ∧ CharV h kv.2 r) kvs rows) (code : Int) :
    (valueAt kvs code = none ∧ find rows code = none) ∨ ∃ v r, valueAt kvs code = some v ∧ find rows code = some r ∧ CharV h v r := by
  induction x with
  | nil => exact .inl ⟨rfl, rfl⟩
  | @cons kv r kvs rows q _ ih =>
    obtain ⟨q1, q2⟩ := q
    by_cases e : r.code = code
    · refine .inr ⟨kv.2, r, ?_, ?_, q2⟩
      · simp [valueAt, q1, e]
      · simp [find, e]
    · have e1 : valueAt (kv :: kvs) code = valueAt kvs code := by simp [valueAt, q1, e]
      have e2 : find (r :: rows) code = find rows code := by simp [find, e]
      rw [e1, e2]
      exact ih
theorem CharsAt.some {w : World} {h : Heap} {d : Addr} {kvs : List (Int × Value)} {rows : List Row} (x : CharsAt w h d kvs rows) (code : Int) : (valueAt kvs code).isSome = (find rows code).isSome := by
  rcases find_all2 x.2.1 code with ⟨a, b⟩ | ⟨v, r, a, b, _⟩
  · rw [a, b]; rfl
  · rw [a, b]; rfl
structure FontAt (w : World) (h : Heap) (x : Addr) (num : Int) (rows : List Row) (ax : Int) (dx : Addr) (es : List DictEntry) (n : Nat) (dc dp : Addr) (kvs : List (Int × Value)) (vs : List Value) (tn : Tok) : Prop where
  inst : InstAt h x (instObj 452 dx) 452 (some (dictOf es n))
  num : getL "number" es = some (some (.int num tn))
  chars : getL "chars" es = some (some (.ref dc))
  params : getL "params" es = some (some (.ref dp))
  has : getL "has" es = some none
  width : getL "width" es = some none
  height : getL "height" es = some none
  depth : getL "depth" es = some none
  italic : getL "italic" es = some none
  larger : getL "larger" es = some none
  pieces : getL "pieces" es = some none
  param : getL "param" es = some none
  cs : CharsAt w h dc kvs rows
  ps : h.IsList dp vs.toArray
  pi : IntsAre vs (List.replicate 21 0 ++ [ax])
theorem instAt_keeps {h h' : Heap} {x C : Addr} {ox : Obj} {od : Option Obj} (I : InstAt h x ox C od) (k : h.StaysIn h') : InstAt h' x ox C od := by
  refine ⟨k _ _ I.at_, I.cls, I.no, ?_⟩
  have := I.dict
  revert this
  cases ox.dict <;> cases od <;> simp only [imp_self]
  exact fun e => k _ _ e
theorem isList_keeps {h h' : Heap} {a : Addr} {xs : Array Value} (x : h.IsList a xs) (k : h.StaysIn h') : h'.IsList a xs := let ⟨o, e, r⟩ := x; ⟨o, k _ _ e, r⟩
theorem FontAt.keeps {w : World} {h h' : Heap} {x : Addr} {num : Int} {rows : List Row} {ax : Int} {dx : Addr} {es : List DictEntry} {n : Nat} {dc dp : Addr} {kvs : List (Int × Value)} {vs : List Value} {tn : Tok}
    (f : FontAt w h x num rows ax dx es n dc dp kvs vs tn) (k : h.StaysIn h') : FontAt w h' x num rows ax dx es n dc dp kvs vs tn :=
  { f with inst := instAt_keeps f.inst k, cs := f.cs.keeps k, ps := isList_keeps f.ps k }
inductive Font (w : World) (h : Heap) (v : Value) (num : Int) (rows : List Row) (ax : Int) : Prop
  | mk (x : _)(dx : _)(es : _)(n : _)(dc : _)(dp : _)(kvs : _)(vs : _)(tn : _) (h0 : v = .ref x) (h1 : FontAt w h x num rows ax dx es n dc dp kvs vs tn) : Font w h v num rows ax
theorem Font.keeps {w : World} {h h' : Heap} {v : Value} {num : Int} {rows : List Row} {ax : Int} (f : Font w h v num rows ax) (k : h.StaysIn h') : Font w h' v num rows ax :=
  let ⟨x, dx, es, n, dc, dp, kvs, vs, tn, e, f⟩ := f; ⟨x, dx, es, n, dc, dp, kvs, vs, tn, e, f.keeps k⟩
section
variable {w : World} {A : Around} {s : Shared} {E : Value → Shared → Prop} {mg mb : Str → Option Value}
theorem chars_row {h : Heap} {d : Addr} {kvs : List (Int × Value)} {rows : List Row} (X : (KF w.params).In h) (x : CharsAt w h d kvs rows) (code : Int) :
    ∃ v, (valueAt kvs code).getD (.ref 312) = v ∧ CharV h v (rowD rows code) := by
  rcases find_all2 x.2.1 code with ⟨a, b⟩ | ⟨v, r, a, b, q⟩
  · rw [a]
    refine ⟨_, rfl, ?_⟩
    unfold rowD
    rw [b]
    exact ⟨312, 636, 637, 638, 639, 640, .int 0 641, rfl, ⟨_, X 312 (o312 w.params) rfl, rfl, 0, rfl⟩, 641, rfl⟩
  · rw [a]
    refine ⟨_, rfl, ?_⟩
    unfold rowD
    rw [b]
    exact q
theorem attr_base {Q : Value → Shared → Prop} {K : Frag} {h₀ : Heap} {L x C : Addr} {m : Str → Option Value} {ox : Obj} {es : List DictEntry} {n : Nat} {name : Str} {v : Value} {expr : Bool} {attr : Option Value} (F : Fr h₀ L s.heap m) (X₀ : K.In h₀)
    (I : InstAt h₀ x ox C (some (dictOf es n))) (hl : getL name es = some (some v)) (hg : plainGet K C name = true) (hh : hasDictIn K C = true) (ha : findIn K (.ref C) name = some attr) (hn : noGet K attr = true) (hv : handedIn v = true)
    (h : Q v { s with toks := s.toks + 1 }) : wpAny (model p0 w) A (getAttr (.ref x) name expr) Q E s := get_own F X₀ (instAt_keeps I F.keep) hg hh ha hn hl hv h
theorem meth_base {pl : Sem Bool} {Q : Value × List Value → Shared → Prop} {K : Frag} {h₀ : Heap} {L x C f : Addr} {m : Str → Option Value} {ox : Obj} {es : List DictEntry} {n : Nat} {name : Str} (F : Fr h₀ L s.heap m) (X₀ : K.In h₀)
    (I : InstAt h₀ x ox C (some (dictOf es n))) (hl : getL name es = some none) (hg : plainGet K C name = true) (hf : findIn K (.ref C) name = some (some (.ref f))) (ht : isFn K (.ref f) = true)
    (h : Q (.ref f, [.ref x]) s) : wpAny (model p0 w) A (getMethod (.ref x) name pl) Q E s := method_inst F X₀ (instAt_keeps I F.keep) hg hf ht hl h
theorem in_base {Q : Value → Shared → Prop} {h₀ : Heap} {L d : Addr} {m : Str → Option Value} {kvs : List (Int × Value)} {code : Int} {t : Tok} (F : Fr h₀ L s.heap m) (hd : h₀.DictOf (intKind p0 w) d kvs) (hs : (d == sysModules) = false)
    (h : Q (.bool (valueAt kvs code).isSome) { s with toks := s.toks + 1 }) : wpAny (model p0 w) A (compareOp .In (.int code t) (.ref d)) Q E s := wpAny_in_of (intKind_is _ _ _ _) hs (hd.keep F.keep).mapOf h
theorem notin_base {Q : Value → Shared → Prop} {h₀ : Heap} {L d : Addr} {m : Str → Option Value} {kvs : List (Int × Value)} {code : Int} {t : Tok} (F : Fr h₀ L s.heap m) (hd : h₀.DictOf (intKind p0 w) d kvs) (hs : (d == sysModules) = false)
    (h : Q (.bool (!(valueAt kvs code).isSome)) { s with toks := s.toks + 1 }) : wpAny (model p0 w) A (compareOp .NotIn (.int code t) (.ref d)) Q E s := wpAny_notIn_of (intKind_is _ _ _ _) hs (hd.keep F.keep).mapOf h
theorem dgm_base {pl : Sem Bool} {Q : Value × List Value → Shared → Prop} {h₀ : Heap} {L d : Addr} {m : Str → Option Value} {kvs : List (Int × Value)} (F : Fr h₀ L s.heap m) (hd : h₀.DictOf (intKind p0 w) d kvs) (h : Q (.builtin "dict.get", [.ref d]) s) :
    wpAny (model p0 w) A (getMethod (.ref d) "get" pl) Q E s :=
  have hD := hd.keep F.keep
  getMethod_builtin hD.typeIs PySem.F.plainAttrs_dict PySem.F.slot_dict_get PySem.F.type_dict_get hD.mapOf.noDict h
theorem dget2_base {Q : Value → Shared → Prop} {L d : Addr} {m : Str → Option Value} {h₀ : Heap} {kvs : List (Int × Value)} {code : Int} {t : Tok} {dflt v : Value} (F : Fr h₀ L s.heap m) (hd : h₀.DictOf (intKind p0 w) d kvs) (hs : (d == sysModules) = false) (e : (valueAt kvs code).getD dflt = v)
    (h : Q v { s with toks := s.toks + 1 }) : wpAny (model p0 w) A (call (.builtin "dict.get") [.ref d, .int code t, dflt]) Q E s :=
  have hD := hd.keep F.keep
  call_meetsIn PySem.F.slot_dict_get hD.typeIs PySem.F.entry_dict_get (PySem.F.args_dict_get_3 _ _ _) (meets_dict_get_default (intKind p0 w) d (intKind_is p0 w code t) hs dflt) ⟨_, hD.mapOf, by rw [e]; exact h⟩
end
end Mine
end
section
set_option maxHeartbeats 1000000
namespace Mine
section
variable {w : World} {A : Around} {s : Shared} {E : Value → Shared → Prop} {Q : Value → Shared → Prop} {mg mb : Str → Option Value}
theorem ksetFm1 : True := by
  k_with "getAttr ref" => (k_dflt (refine' attr_base ?k1 ?k2 ?k3 ?k4 ?k5 ?k6 ?k7 ?k8 ?k9 ?_; (case k3 => k_asm); (case k1 => k_asm); (case k2 => k_asm); (case k4 => k_asm); (case k5 => k_is); (case k6 => k_is); (case k7 => k_is); (case k8 => k_is); (case k9 => k_handed); k_whole))
  k_with "getMethod ref" => (k_dflt (refine' meth_base ?k1 ?k2 ?k3 ?k4 ?k5 ?k6 ?k7 ?_; (case k3 => k_asm); (case k1 => k_asm); (case k2 => k_asm); (case k4 => k_asm); (case k5 => k_is); (case k6 => k_is); (case k7 => k_is); k_whole))
  k_with "getMethod ref" => (k_dflt (refine' dgm_base ?k1 ?k2 ?_; (case k1 => k_asm); (case k2 => k_asm); k_whole))
  k_with "call builtin:dict.get" => ((with_reducible show wpAny _ _ (call (Value.builtin "dict.get") [Value.ref _, Value.int _ _, _]) _ _ _); k_dflt (refine' dget2_base ?k1 ?k2 ?k3 ?k4 ?_; (case k1 => k_asm); (case k2 => k_asm); (case k3 => k_asm); (case k4 => k_asm); k_whole))
  k_with "compareOp In int ref" => (k_dflt (refine' in_base ?k1 ?k2 ?k3 ?_; (case k1 => k_asm); (case k2 => k_asm); (case k3 => k_asm); k_whole))
  trivial
theorem font_width_spec (R : Rm 1 A) (X : (KF w.params).In s.heap) (T : TR mg mb s.heap) {x : Addr} {num ax : Int} {rows : List Row} {dx : Addr} {es : List DictEntry} {n : Nat} {dc dp : Addr} {kvs : List (Int × Value)} {vs : List Value} {tn : Tok}
   (f : FontAt w s.heap x num rows ax dx es n dc dp kvs vs tn) {code : Int} {t : Tok}
   (h : ∀ h' tk, s.heap.StaysIn h' → ∀ t', Q (.int (rowD rows code).wd t') {s with heap := h', toks := tk}) : wpAny (model p0 w) A (call (.ref 393) [.ref x, .int code t]) Q E s := by
  refine callF (binds := [("self", .ref x), ("code", .int code t)]) R X T rfl (by k_is) (BindsTo.of_eq (by kernel_rfl)) (by kernel_rfl) rfl rfl rfl (by kernel_rfl) (fun L h₁ tk F N X T => ?_)
  obtain ⟨v, hv, cv⟩ := chars_row X f.cs code
  obtain ⟨a, t0, t1, t2, t3, t4, rest, rfl, it, rr⟩ := cv
  have I := f.inst; have hc := f.chars; have hd := f.cs.1; have hds := f.cs.2.2
  repeat' (first | walk1 | (dsimp only; walk1))
  exact h _ _ F.keep _
theorem font_height_spec (R : Rm 1 A) (X : (KF w.params).In s.heap) (T : TR mg mb s.heap) {x : Addr} {num ax : Int} {rows : List Row} {dx : Addr} {es : List DictEntry} {n : Nat} {dc dp : Addr} {kvs : List (Int × Value)} {vs : List Value} {tn : Tok}
   (f : FontAt w s.heap x num rows ax dx es n dc dp kvs vs tn) {code : Int} {t : Tok}
   (h : ∀ h' tk, s.heap.StaysIn h' → ∀ t', Q (.int (rowD rows code).ht t') {s with heap := h', toks := tk}) : wpAny (model p0 w) A (call (.ref 400) [.ref x, .int code t]) Q E s := by
  refine callF (binds := [("self", .ref x), ("code", .int code t)]) R X T rfl (by k_is) (BindsTo.of_eq (by kernel_rfl)) (by kernel_rfl) rfl rfl rfl (by kernel_rfl) (fun L h₁ tk F N X T => ?_)
  obtain ⟨v, hv, cv⟩ := chars_row X f.cs code
  obtain ⟨a, t0, t1, t2, t3, t4, rest, rfl, it, rr⟩ := cv
  have I := f.inst; have hc := f.chars; have hd := f.cs.1; have hds := f.cs.2.2
  repeat' (first | walk1 | (dsimp only; walk1))
  exact h _ _ F.keep _
theorem font_depth_spec (R : Rm 1 A) (X : (KF w.params).In s.heap) (T : TR mg mb s.heap) {x : Addr} {num ax : Int} {rows : List Row} {dx : Addr} {es : List DictEntry} {n : Nat} {dc dp : Addr} {kvs : List (Int × Value)} {vs : List Value} {tn : Tok}
   (f : FontAt w s.heap x num rows ax dx es n dc dp kvs vs tn) {code : Int} {t : Tok}
   (h : ∀ h' tk, s.heap.StaysIn h' → ∀ t', Q (.int (rowD rows code).dp t') {s with heap := h', toks := tk}) : wpAny (model p0 w) A (call (.ref 407) [.ref x, .int code t]) Q E s := by
  refine callF (binds := [("self", .ref x), ("code", .int code t)]) R X T rfl (by k_is) (BindsTo.of_eq (by kernel_rfl)) (by kernel_rfl) rfl rfl rfl (by kernel_rfl) (fun L h₁ tk F N X T => ?_)
  obtain ⟨v, hv, cv⟩ := chars_row X f.cs code
  obtain ⟨a, t0, t1, t2, t3, t4, rest, rfl, it, rr⟩ := cv
  have I := f.inst; have hc := f.chars; have hd := f.cs.1; have hds := f.cs.2.2
  repeat' (first | walk1 | (dsimp only; walk1))
  exact h _ _ F.keep _
theorem font_italic_spec (R : Rm 1 A) (X : (KF w.params).In s.heap) (T : TR mg mb s.heap) {x : Addr} {num ax : Int} {rows : List Row} {dx : Addr} {es : List DictEntry} {n : Nat} {dc dp : Addr} {kvs : List (Int × Value)} {vs : List Value} {tn : Tok}
   (f : FontAt w s.heap x num rows ax dx es n dc dp kvs vs tn) {code : Int} {t : Tok}
   (h : ∀ h' tk, s.heap.StaysIn h' → ∀ t', Q (.int (rowD rows code).it t') {s with heap := h', toks := tk}) : wpAny (model p0 w) A (call (.ref 414) [.ref x, .int code t]) Q E s := by
  refine callF (binds := [("self", .ref x), ("code", .int code t)]) R X T rfl (by k_is) (BindsTo.of_eq (by kernel_rfl)) (by kernel_rfl) rfl rfl rfl (by kernel_rfl) (fun L h₁ tk F N X T => ?_)
  obtain ⟨v, hv, cv⟩ := chars_row X f.cs code
  obtain ⟨a, t0, t1, t2, t3, t4, rest, rfl, it, rr⟩ := cv
  have I := f.inst; have hc := f.chars; have hd := f.cs.1; have hds := f.cs.2.2
  repeat' (first | walk1 | (dsimp only; walk1))
  exact h _ _ F.keep _
theorem font_has_spec (R : Rm 1 A) (X : (KF w.params).In s.heap) (T : TR mg mb s.heap) {x : Addr} {num ax : Int} {rows : List Row} {dx : Addr} {es : List DictEntry} {n : Nat} {dc dp : Addr} {kvs : List (Int × Value)} {vs : List Value} {tn : Tok}
   (f : FontAt w s.heap x num rows ax dx es n dc dp kvs vs tn) {code : Int} {t : Tok}
   (h : ∀ h' tk, s.heap.StaysIn h' → Q (.bool (find rows code).isSome) {s with heap := h', toks := tk}) : wpAny (model p0 w) A (call (.ref 386) [.ref x, .int code t]) Q E s := by
  refine callF (binds := [("self", .ref x), ("code", .int code t)]) R X T rfl (by k_is) (BindsTo.of_eq (by kernel_rfl)) (by kernel_rfl) rfl rfl rfl (by kernel_rfl) (fun L h₁ tk F N X T => ?_)
  have I := f.inst; have hc := f.chars; have hd := f.cs.1; have hds := f.cs.2.2
  rw [← f.cs.some] at h
  repeat' (first | walk1 | (dsimp only; walk1))
  exact h _ _ F.keep
theorem font_larger_spec (R : Rm 1 A) (X : (KF w.params).In s.heap) (T : TR mg mb s.heap) {x : Addr} {num ax : Int} {rows : List Row} {dx : Addr} {es : List DictEntry} {n : Nat} {dc dp : Addr} {kvs : List (Int × Value)} {vs : List Value} {tn : Tok}
   (f : FontAt w s.heap x num rows ax dx es n dc dp kvs vs tn) {code : Int} {t : Tok}
   (h : ∀ h' tk, s.heap.StaysIn h' → ∀ t', Q (.int (largerOf rows code) t') {s with heap := h', toks := tk}) : wpAny (model p0 w) A (call (.ref 428) [.ref x, .int code t]) Q E s := by
  refine callF (binds := [("self", .ref x), ("code", .int code t)]) R X T rfl (by k_is) (BindsTo.of_eq (by kernel_rfl)) (by kernel_rfl) rfl rfl rfl (by kernel_rfl) (fun L h₁ tk F N X T => ?_)
  obtain ⟨v, hv, cv⟩ := chars_row X f.cs code
  obtain ⟨a, t0, t1, t2, t3, t4, rest, rfl, it, rr⟩ := cv
  have I := f.inst; have hc := f.chars; have hd := f.cs.1; have hds := f.cs.2.2; have hsm := f.cs.some
  unfold largerOf at h
  generalize rowD rows code = r at *
  obtain ⟨rc, rw_, rh, rd, ri, kd⟩ := r
  cases kd with
  | plain =>
    obtain ⟨t5, rfl⟩ := rr
    simp only [Kd.sort] at it
    repeat' (first | walk1 | (dsimp only; walk1))
    rename Fr _ _ _ _ => F9
    exact h _ _ F9.keep _
  | larger c =>
    obtain ⟨t5, rfl⟩ := rr
    simp only [Kd.sort] at it
    dsimp only at h
    rw [← hsm] at h
    repeat' (first | walk1 | (dsimp only; walk1))
    · rename Fr _ _ _ _ => F9
      rename (valueAt _ _).isSome = true => q
      rw [if_pos q] at h
      exact h _ _ F9.keep _
    · rename Fr _ _ _ _ => F9
      rename (valueAt _ _).isSome = false => q
      rw [if_neg (by rw [q]; decide)] at h
      exact h _ _ F9.keep _
  | pieces a b c d =>
    simp only [Kd.sort] at it
    repeat' (first | walk1 | (dsimp only; walk1))
    rename Fr _ _ _ _ => F9
    exact h _ _ F9.keep _
theorem font_pieces_spec (R : Rm 1 A) (X : (KF w.params).In s.heap) (T : TR mg mb s.heap) {x : Addr} {num ax : Int} {rows : List Row} {dx : Addr} {es : List DictEntry} {n : Nat} {dc dp : Addr} {kvs : List (Int × Value)} {vs : List Value} {tn : Tok}
   (f : FontAt w s.heap x num rows ax dx es n dc dp kvs vs tn) {code : Int} {t : Tok}
   (h : ∀ h' tk, s.heap.StaysIn h' → ∀ v, (match (rowD rows code).kd with | .pieces a b c d => IntTup s.heap v [a, b, c, d] | _ => v = .none) → Q v {s with heap := h', toks := tk}) : wpAny (model p0 w) A (call (.ref 435) [.ref x, .int code t]) Q E s := by
  refine callF (binds := [("self", .ref x), ("code", .int code t)]) R X T rfl (by k_is) (BindsTo.of_eq (by kernel_rfl)) (by kernel_rfl) rfl rfl rfl (by kernel_rfl) (fun L h₁ tk F N X T => ?_)
  obtain ⟨v, hv, cv⟩ := chars_row X f.cs code
  obtain ⟨a, t0, t1, t2, t3, t4, rest, rfl, it, rr⟩ := cv
  have I := f.inst; have hc := f.chars; have hd := f.cs.1; have hds := f.cs.2.2
  generalize rowD rows code = r at *
  obtain ⟨rc, rw_, rh, rd, ri, kd⟩ := r
  cases kd with
  | plain =>
    obtain ⟨t5, rfl⟩ := rr
    simp only [Kd.sort] at it
    repeat' (first | walk1 | (dsimp only; walk1))
    rename Fr _ _ _ _ => F9
    exact h _ _ F9.keep _ rfl
  | larger c =>
    obtain ⟨t5, rfl⟩ := rr
    simp only [Kd.sort] at it
    repeat' (first | walk1 | (dsimp only; walk1))
    rename Fr _ _ _ _ => F9
    exact h _ _ F9.keep _ rfl
  | pieces a b c d =>
    simp only [Kd.sort] at it
    repeat' (first | walk1 | (dsimp only; walk1))
    rename Fr _ _ _ _ => F9
    exact h _ _ F9.keep _ rr
theorem font_param_spec (R : Rm 1 A) (X : (KF w.params).In s.heap) (T : TR mg mb s.heap) {x : Addr} {num ax : Int} {rows : List Row} {dx : Addr} {es : List DictEntry} {n : Nat} {dc dp : Addr} {kvs : List (Int × Value)} {vs : List Value} {tn : Tok}
   (f : FontAt w s.heap x num rows ax dx es n dc dp kvs vs tn) {t : Tok}
   (h : ∀ h' tk, s.heap.StaysIn h' → ∀ t', Q (.int ax t') {s with heap := h', toks := tk}) : wpAny (model p0 w) A (call (.ref 442) [.ref x, .int 22 t]) Q E s := by
  refine callF (binds := [("self", .ref x), ("number", .int 22 t)]) R X T rfl (by k_is) (BindsTo.of_eq (by kernel_rfl)) (by kernel_rfl) rfl rfl rfl (by kernel_rfl) (fun L h₁ tk F N X T => ?_)
  have I := f.inst; have hc := f.params; have hl := f.ps
  obtain ⟨ns, hi, hlen, hlast⟩ : ∃ ns, IntsAre vs ns ∧ ns.length = 22 ∧ ns.getD 21 0 = ax := ⟨_, f.pi, by simp, by simp [List.getD]⟩
  clear f
  repeat' (first | walk1 | (dsimp only; walk1))
  subst hlast
  exact h _ _ F.keep _
end
end Mine
end
section
set_option maxHeartbeats 1000000
namespace Mine
section
variable {w : World} {A : Around} {s : Shared} {E : Value → Shared → Prop} {Q : Value → Shared → Prop} {mg mb : Str → Option Value}
theorem newM {K : Frag} {C fI : Addr} {name qual : Str} {params : Arguments} {st0 : Stmt} {body : List Stmt} {sk : ScopeKind} {sn : List (Str × NameKind)} {sg sc : Bool} {sm : List (Str × Const)} {dV kV doc pm cdv ct oc : Value} {an od : Option Addr} {osl : Array (Option Value)} {pos : List Value} {kw : List (Str × Value)} {binds : Addr → List (Str × Value)}
    {n : Nat} (R : Rm (n + 2) A) (X : K.In s.heap) (T : TR mg mb s.heap) (hm : makesIn K C = true) (hi : findIn K (.ref C) "__init__" = some (some (.ref fI))) (hf : typeIn K (.ref fI) = some (.type "function"))
    (ho : K.lookup fI = some ⟨oc, od, .func (fnOf name qual params (st0 :: body) ⟨sk, sn, sg, sc, sm⟩ dV kV doc pm an cdv ct), osl⟩) (hcd : codeIn K cdv qual = true)
    (hbind : ∀ x (s' : Shared), K.In s'.heap → BindsTo s' (fnOf name qual params (st0 :: body) ⟨sk, sn, sg, sc, sm⟩ dV kV doc pm an cdv ct) ⟨.ref x :: pos, kw⟩ (binds x)) (hloc : ∀ x, ((binds x).all fun x => decide (sn.lookup x.1 = some .local)) = true)
    (hco : sc = false) (hgen : sg = false) (hkd : sk = .function) (hcell : (sn.all fun x => x.2 != .cell) = true)
    (h : ∀ (x dx L : Nat) h₁ h₂ tk, Fr h₂ L h₁ (fun y => (binds x).reverse.lookup y) → News h₂ L h₁ [(x, instObj C dx), (dx, dictOf [] 0)] → K.In h₂ → TR mg mb h₂ → s.heap.StaysIn h₂ → dx < x → x < L → s.heap.objs.size ≤ dx →
      wpAny (model p0 w) (An n) (execs (st0 :: body) (envOf qual ⟨sk, sn, sg, sc, sm⟩ L fI cdv))
        (fun fl s' => (match fl with | .ret v => v | _ => .none) = .none ∧ Q (.ref x) s') (fun _ _ => False)
        { s with heap := h₁, toks := tk }) : wpAny (model p0 w) A (call (.ref C) pos kw) Q E s := by
  refine wpAny_call ?_
  obtain ⟨hh, g, d, t, os⟩ := s
  refine make_core (makes_of X hm) (looks_findIn X hi) (fun self => bind_fn X self hf) (.inl rfl) ?_
  have k : hh.StaysIn ((hh.push emptyDict).push (instObj C hh.objs.size)) := fun b o e => Heap.get?_push_of_some _ (Heap.get?_push_of_some _ e)
  have hx : ((hh.push emptyDict).push (instObj C hh.objs.size)).get? (hh.objs.size + 1) = some (instObj C hh.objs.size) := by heap_get
  have hdx : ((hh.push emptyDict).push (instObj C hh.objs.size)).get? hh.objs.size = some (dictOf [] 0) := by heap_get
  have X' : K.In ((hh.push emptyDict).push (instObj C hh.objs.size)) := X.keeps k
  refine codeAny_call_def (fd := fnOf name qual params (st0 :: body) ⟨sk, sn, sg, sc, sm⟩ dV kV doc pm an cdv ct) (body := st0 :: body) (binds := binds (hh.objs.size + 1)) (show A.depth + 1 < 1000 from Nat.lt_of_le_of_lt (Nat.le_trans (Nat.le_succ (A.depth + 1)) (Nat.le_trans (rD (k := 2) (n := n) R.d) (Nat.sub_le 900 n))) (by decide)) (X' _ _ ho) rfl (T.nolimit.keeps k) (codeRec_of X' hcd) rfl (hbind _ _ X')
    (fun x hx => by have := List.all_eq_true.mp hcell x hx; simpa using this) (fun x hx => of_decide_eq_true (List.all_eq_true.mp (hloc _) x hx)) (fun h₁ hns hk₁ => ?_) hco hgen hkd
  have st : hh.StaysIn (hideAll ((hh.push emptyDict).push (instObj C hh.objs.size)) [hh.objs.size + 1, hh.objs.size]) := fun b o e => hideAll_get _ (k b o e) (fun q => by
    have this : @LT.lt Nat _ b hh.objs.size := Heap.lt_size e
    simp only [List.mem_cons, List.not_mem_nil, or_false] at q
    rcases q with q | q <;> (have q : @Eq Nat b _ := q; omega))
  have hsz : ((hh.push emptyDict).push (instObj C hh.objs.size)).objs.size = hh.objs.size + 2 := by simp [Heap.push]
  refine wpAny_mono (wpAny_le (A' := An n) (h (hh.objs.size + 1) hh.objs.size _ h₁ (hideAll ((hh.push emptyDict).push (instObj C hh.objs.size)) [hh.objs.size + 1, hh.objs.size]) _ ⟨hns, fun b o e => hk₁ b o (of_hideAll _ e), Nat.le_of_eq (hideAll_size _ _)⟩
    ?_ (X.keeps st) (T.keeps st) st (Nat.lt_succ_self _) (by rw [hsz]; omega) (Nat.le_refl _)) R.h (rD (k := 2) R.d) (rU (k := 4) (Nat.le_trans (Nat.add_le_add_left (Nat.mul_le_mul_left 10 (Nat.le_succ _)) _) R.u) (by decide)) rfl rfl) (fun fl s' x => ?_) fun _ _ x => x.elim
  · intro p hp
    simp only [List.mem_cons, List.not_mem_nil, or_false] at hp
    rcases hp with rfl | rfl
    · exact ⟨hk₁ _ _ hx, by rw [hsz]; show hh.objs.size + 1 ≠ hh.objs.size + 2; omega, hideAll_none _ (by simp)⟩
    · exact ⟨hk₁ _ _ hdx, by rw [hsz]; show hh.objs.size ≠ hh.objs.size + 2; omega, hideAll_none _ (by simp)⟩
  · exact ⟨x.1, x.2⟩
end
end Mine
end
section
set_option maxHeartbeats 1000000
namespace Mine
section
variable {w : World} {A : Around} {s : Shared} {E : Value → Shared → Prop} {Q : Value → Shared → Prop} {mg mb : Str → Option Value}
theorem ksetBx1 : True := by
  k_with "call ref" => ((with_reducible show wpAny _ _ (call (Value.ref 123) _ _) _ _ _); refine' check_dimen_spec (mg := mg) (mb := mb) ?k1 ?k2 ?k3 ?k4 ?k5 ?_; (case k1 => walk_at "p world"); (case k2 => walk_at "p world"); (case k3 => walk_at "p world"); (case k4 => omega); (case k5 => omega); walk_at "p after")
  k_with "call ref" => ((with_reducible show wpAny _ _ (call (Value.ref 219) _ _) _ _ _); refine' check_code_spec (mg := mg) (mb := mb) ?k1 ?k2 ?k3 ?k4 ?k5 ?_; (case k1 => walk_at "p world"); (case k2 => walk_at "p world"); (case k3 => walk_at "p world"); (case k4 => omega); (case k5 => omega); walk_at "p after")
  trivial
theorem fresh_of {h : Heap} {a : Nat} (e : h.objs.size ≤ a) : h.get? a = none := by
  cases q : h.get? a with
  | none => rfl
  | some o => exact absurd (Heap.lt_size q) (Nat.not_lt.mpr e)
structure CharAt (h : Heap) (x dx : Addr) (es : List DictEntry) (n : Nat) (fontv : Value) (code : Int) : Prop where
  hx : h.get? x = some (instObj 236 dx)
  hd : h.get? dx = some (dictOf es n)
  font : getL "font" es = some (some fontv)
  code : ∃ t, getL "code" es = some (some (.int code t))
  kind : getL "kind" es = some none
theorem CharAt.keeps {h h' : Heap} {x dx : Addr} {es : List DictEntry} {n : Nat} {fontv : Value} {code : Int} (b : CharAt h x dx es n fontv code) (k : h.StaysIn h') : CharAt h' x dx es n fontv code :=
  { b with hx := k _ _ b.hx, hd := k _ _ b.hd }
theorem newsCons {h₀ hb h' : Heap} {L a : Addr} {m : Str → Option Value} {news : List (Addr × Obj)} {o : Obj} (F : Fr h₀ L hb m) (N : News h₀ L h' news) (e : h'.get? a = some o) (f : hb.get? a = none) : News h₀ L h' ((a, o) :: news) := by
  intro p hp
  rcases List.mem_cons.mp hp with rfl | hp
  · refine ⟨e, fun q => ?_, ?_⟩
    · obtain ⟨oL, _, _, hL, _⟩ := F.ns
      have q : a = L := q
      rw [q, hL] at f; cases f
    · cases q : h₀.get? a with
      | none => rfl
      | some o' => have := F.keep _ _ q; rw [f] at this; cases this
  · exact N p hp
theorem char_new_spec (R : Rm 5 A) (X : (KF w.params).In s.heap) (T : TR mg mb s.heap) {fa : Addr} {code : Int} {t : Tok} (h1 : 0 ≤ code) (h2 : code ≤ 255)
   (h : ∀ h' tk, s.heap.StaysIn h' → ∀ x dx es n, s.heap.get? x = none → s.heap.get? dx = none → CharAt h' x dx es n (.ref fa) code → Q (.ref x) {s with heap := h', toks := tk}) : wpAny (model p0 w) A (call (.ref 236) [.ref fa, .int code t]) Q E s := by
  refine newM (binds := fun x => [("self", .ref x), ("font", .ref fa), ("code", .int code t)]) R X T (by k_is) (by k_is) (by k_is) rfl (by k_is) (fun x s' X' => BindsTo.of_eq (by kernel_rfl)) (fun x => by kernel_rfl) rfl rfl rfl (by kernel_rfl) (fun x dx L h₁ h₂ tk F N X₂ T₂ hs hdx hxL hsz => ?_)
  clear X T
  repeat' (first | walk1 | (dsimp only; walk1))
  rename Fr _ _ _ _ => F9; rename News _ _ _ _ => N9
  exact h _ _ (fun b o e => F9.keep b o (hs b o e)) x dx _ _ (fresh_of (by omega)) (fresh_of hsz) ⟨N9.get (by k_mem), N9.get (by k_mem), by k_get, ⟨_, by k_get⟩, by k_get⟩
structure BoxAt (h : Heap) (x dx : Addr) (es : List DictEntry) (n : Nat) (kind wd ht dp : Int) (items : Value) (sh : Int) : Prop where
  hx : h.get? x = some (instObj 257 dx)
  hd : h.get? dx = some (dictOf es n)
  ne : @Ne Nat dx x
  kind : ∃ t, getL "kind" es = some (some (.int kind t))
  width : ∃ t, getL "width" es = some (some (.int wd t))
  height : ∃ t, getL "height" es = some (some (.int ht t))
  depth : ∃ t, getL "depth" es = some (some (.int dp t))
  items : getL "items" es = some (some items)
  shift : ∃ t, getL "shift" es = some (some (.int sh t))
  len : es.length ≤ 20
theorem BoxAt.keeps {h h' : Heap} {x dx : Addr} {es : List DictEntry} {n : Nat} {kind wd ht dp : Int} {items : Value} {sh : Int} (b : BoxAt h x dx es n kind wd ht dp items sh) (k : h.StaysIn h') : BoxAt h' x dx es n kind wd ht dp items sh :=
  { b with hx := k _ _ b.hx, hd := k _ _ b.hd }
theorem box_new_spec (R : Rm 5 A) (X : (KF w.params).In s.heap) (T : TR mg mb s.heap) {kind wd ht dp : Int} {items : Addr} {t0 t1 t2 t3 : Tok} (hk0 : 2 ≤ kind) (hk1 : kind ≤ 3) (hw0 : -100000 ≤ wd) (hw1 : wd ≤ 100000) (hh0 : -100000 ≤ ht) (hh1 : ht ≤ 100000) (hd0 : -100000 ≤ dp) (hd1 : dp ≤ 100000)
   (h : ∀ h' tk, s.heap.StaysIn h' → ∀ x dx es n, s.heap.get? dx = none → s.heap.get? x = none → BoxAt h' x dx es n kind wd ht dp (.ref items) 0 → Q (.ref x) {s with heap := h', toks := tk}) : wpAny (model p0 w) A (call (.ref 257) [.int kind t0, .int wd t1, .int ht t2, .int dp t3, .ref items]) Q E s := by
  refine newM (binds := fun x => [("self", .ref x), ("kind", .int kind t0), ("width", .int wd t1), ("height", .int ht t2), ("depth", .int dp t3), ("items", .ref items)]) R X T (by k_is) (by k_is) (by k_is) rfl (by k_is) (fun x s' X' => BindsTo.of_eq (by kernel_rfl)) (fun x => by kernel_rfl) rfl rfl rfl (by kernel_rfl) (fun x dx L h₁ h₂ tk F N X₂ T₂ hs hdx hxL hsz => ?_)
  clear X T
  repeat' (first | walk1 | (dsimp only; walk1))
  rename Fr _ _ _ _ => F9; rename News _ _ _ _ => N9
  exact h _ _ (fun b o e => F9.keep b o (hs b o e)) x dx _ _ (fresh_of hsz) (fresh_of (by omega))
    ⟨N9.get (by k_mem), N9.get (by k_mem), by omega, ⟨_, by k_get⟩, ⟨_, by k_get⟩, ⟨_, by k_get⟩, ⟨_, by k_get⟩, by k_get, ⟨_, by k_get⟩, by simp only [List.length_cons, List.length_nil]; omega⟩
structure LetterAt (h : Heap) (x dx : Addr) (es : List DictEntry) (n : Nat) (wd ht dp : Int) (li : Addr) (nl : Nat) (c dc : Addr) (esc : List DictEntry) (nc : Nat) (fontv : Value) (code : Int) : Prop where
  box : BoxAt h x dx es n 2 wd ht dp (.ref li) 0
  li : h.get? li = some (listOf #[.ref c] nl)
  ch : CharAt h c dc esc nc fontv code
theorem LetterAt.keeps {h h' : Heap} {x dx : Addr} {es : List DictEntry} {n : Nat} {wd ht dp : Int} {li : Addr} {nl : Nat} {c dc : Addr} {esc : List DictEntry} {nc : Nat} {fontv : Value} {code : Int} (b : LetterAt h x dx es n wd ht dp li nl c dc esc nc fontv code) (k : h.StaysIn h') : LetterAt h' x dx es n wd ht dp li nl c dc esc nc fontv code :=
  ⟨b.box.keeps k, k _ _ b.li, b.ch.keeps k⟩
structure Bd (r : Row) : Prop where
  w0 : 0 ≤ r.wd
  w1 : r.wd ≤ 1000
  h0 : 0 ≤ r.ht
  h1 : r.ht ≤ 1000
  d0 : 0 ≤ r.dp
  d1 : r.dp ≤ 1000
  i0 : 0 ≤ r.it
  i1 : r.it ≤ 1000
end
end Mine
end
section
set_option maxHeartbeats 1000000
namespace Mine
section
variable {w : World} {A : Around} {s : Shared} {E : Value → Shared → Prop} {Q : Value → Shared → Prop} {mg mb : Str → Option Value}
theorem ksetBy1 : True := by
  k_with "getMethod ref" => (k_dflt (refine' meth_base ?k1 ?k2 ?k3 ?k4 ?k5 ?k6 ?k7 ?_; (case k3 => k_asm); (case k1 => k_asm); (case k2 => k_asm); (case k4 => k_asm); (case k5 => k_is); (case k6 => k_is); (case k7 => k_is); k_whole))
  k_with "call ref" => ((with_reducible show wpAny _ _ (call (Value.ref 393) _ _) _ _ _); (rename Fr _ _ _ _ => kF0); (rename FontAt _ _ _ _ _ _ _ _ _ _ _ _ _ _ => kf); refine' font_width_spec (mg := mg) (mb := mb) ?k1 ?k2 ?k3 (FontAt.keeps kf (Fr.keep kF0)) ?_; (case k1 => walk_at "p world"); (case k2 => walk_at "p world"); (case k3 => walk_at "p world"); walk_at "p after")
  k_with "call ref" => ((with_reducible show wpAny _ _ (call (Value.ref 400) _ _) _ _ _); (rename Fr _ _ _ _ => kF0); (rename FontAt _ _ _ _ _ _ _ _ _ _ _ _ _ _ => kf); refine' font_height_spec (mg := mg) (mb := mb) ?k1 ?k2 ?k3 (FontAt.keeps kf (Fr.keep kF0)) ?_; (case k1 => walk_at "p world"); (case k2 => walk_at "p world"); (case k3 => walk_at "p world"); walk_at "p after")
  k_with "call ref" => ((with_reducible show wpAny _ _ (call (Value.ref 407) _ _) _ _ _); (rename Fr _ _ _ _ => kF0); (rename FontAt _ _ _ _ _ _ _ _ _ _ _ _ _ _ => kf); refine' font_depth_spec (mg := mg) (mb := mb) ?k1 ?k2 ?k3 (FontAt.keeps kf (Fr.keep kF0)) ?_; (case k1 => walk_at "p world"); (case k2 => walk_at "p world"); (case k3 => walk_at "p world"); walk_at "p after")
  k_with "call ref" => ((with_reducible show wpAny _ _ (call (Value.ref 414) _ _) _ _ _); (rename Fr _ _ _ _ => kF0); (rename FontAt _ _ _ _ _ _ _ _ _ _ _ _ _ _ => kf); refine' font_italic_spec (mg := mg) (mb := mb) ?k1 ?k2 ?k3 (FontAt.keeps kf (Fr.keep kF0)) ?_; (case k1 => walk_at "p world"); (case k2 => walk_at "p world"); (case k3 => walk_at "p world"); walk_at "p after")
  k_with "call ref" => ((with_reducible show wpAny _ _ (call (Value.ref 386) _ _) _ _ _); (rename Fr _ _ _ _ => kF0); (rename FontAt _ _ _ _ _ _ _ _ _ _ _ _ _ _ => kf); refine' font_has_spec (mg := mg) (mb := mb) ?k1 ?k2 ?k3 (FontAt.keeps kf (Fr.keep kF0)) ?_; (case k1 => walk_at "p world"); (case k2 => walk_at "p world"); (case k3 => walk_at "p world"); walk_at "p after")
  k_with "call ref" => ((with_reducible show wpAny _ _ (call (Value.ref 428) _ _) _ _ _); (rename Fr _ _ _ _ => kF0); (rename FontAt _ _ _ _ _ _ _ _ _ _ _ _ _ _ => kf); refine' font_larger_spec (mg := mg) (mb := mb) ?k1 ?k2 ?k3 (FontAt.keeps kf (Fr.keep kF0)) ?_; (case k1 => walk_at "p world"); (case k2 => walk_at "p world"); (case k3 => walk_at "p world"); walk_at "p after")
  k_with "call ref" => ((with_reducible show wpAny _ _ (call (Value.ref 435) _ _) _ _ _); (rename Fr _ _ _ _ => kF0); (rename FontAt _ _ _ _ _ _ _ _ _ _ _ _ _ _ => kf); refine' font_pieces_spec (mg := mg) (mb := mb) ?k1 ?k2 ?k3 (FontAt.keeps kf (Fr.keep kF0)) ?_; (case k1 => walk_at "p world"); (case k2 => walk_at "p world"); (case k3 => walk_at "p world"); walk_at "p after")
  k_with "call ref" => ((with_reducible show wpAny _ _ (call (Value.ref 442) _ _) _ _ _); (rename Fr _ _ _ _ => kF0); (rename FontAt _ _ _ _ _ _ _ _ _ _ _ _ _ _ => kf); refine' font_param_spec (mg := mg) (mb := mb) ?k1 ?k2 ?k3 (FontAt.keeps kf (Fr.keep kF0)) ?_; (case k1 => walk_at "p world"); (case k2 => walk_at "p world"); (case k3 => walk_at "p world"); walk_at "p after")
  k_with "call ref" => ((with_reducible show wpAny _ _ (call (Value.ref 236) _ _) _ _ _); (rename Fr _ _ _ _ => kF); (rename News _ _ _ _ => kN); refine' char_new_spec (mg := mg) (mb := mb) ?k1 ?k2 ?k3 ?k4 ?k5 ?_; (case k1 => walk_at "p world"); (case k2 => walk_at "p world"); (case k3 => walk_at "p world"); (case k4 => omega); (case k5 => omega); intro _ _ kS _ _ _ _ f1 f2 C; (have F' := frAfter kF kS); (have N' := newsCons kF (newsCons kF (newsAfter kN kS) (CharAt.hd C) f2) (CharAt.hx C) f1); (have C1 := CharAt.font C); (have C2 := CharAt.code C); (have C3 := CharAt.kind C); (try k_sweep); clear C)
  k_with "call ref" => ((with_reducible show wpAny _ _ (call (Value.ref 257) _ _) _ _ _); (try (rename Bd _ => kB; have kb1 := Bd.w0 kB; have kb2 := Bd.w1 kB; have kb3 := Bd.h0 kB; have kb4 := Bd.h1 kB; have kb5 := Bd.d0 kB; have kb6 := Bd.d1 kB; have kb7 := Bd.i0 kB; have kb8 := Bd.i1 kB)); (rename Fr _ _ _ _ => kF); (rename News _ _ _ _ => kN); refine' box_new_spec (mg := mg) (mb := mb) ?k1 ?k2 ?k3 ?k4 ?k5 ?k6 ?k7 ?k8 ?k9 ?j1 ?j2 ?_; (case k1 => walk_at "p world"); (case k2 => walk_at "p world"); (case k3 => walk_at "p world"); (case k4 => omega); (case k5 => omega); (case k6 => omega); (case k7 => omega); (case k8 => omega); (case k9 => omega); (case j1 => omega); (case j2 => omega); intro _ _ kS _ _ _ _ f1 f2 C; (have F' := frAfter kF kS); (have N' := newsCons kF (newsCons kF (newsAfter kN kS) (BoxAt.hd C) f1) (BoxAt.hx C) f2); (try k_sweep))
  trivial
theorem char_box_spec (R : Rm 6 A) (X : (KF w.params).In s.heap) (T : TR mg mb s.heap) {x : Addr} {num ax : Int} {rows : List Row} {dx : Addr} {es : List DictEntry} {n : Nat} {dc dp : Addr} {kvs : List (Int × Value)} {vs : List Value} {tn : Tok}
   (f : FontAt w s.heap x num rows ax dx es n dc dp kvs vs tn) {code : Int} {t : Tok} (h1 : 0 ≤ code) (h2 : code ≤ 255) (hb : Bd (rowD rows code))
   (h : ∀ h' tk, s.heap.StaysIn h' → ∀ x1 dx1 es1 n1 li nl c dc1 esc nc, s.heap.get? x1 = none → s.heap.get? dx1 = none → LetterAt h' x1 dx1 es1 n1 ((rowD rows code).wd + (rowD rows code).it) (rowD rows code).ht (rowD rows code).dp li nl c dc1 esc nc (.ref x) code → Q (.ref x1) {s with heap := h', toks := tk}) : wpAny (model p0 w) A (call (.ref 283) [.ref x, .int code t]) Q E s := by
  refine callF (binds := [("font", .ref x), ("code", .int code t)]) R X T rfl (by k_is) (BindsTo.of_eq (by kernel_rfl)) (by kernel_rfl) rfl rfl rfl (by kernel_rfl) (fun L h₁ tk F N X T => ?_)
  have I := f.inst; have m1 := f.width; have m2 := f.height; have m3 := f.depth; have m4 := f.italic
  repeat' (first | walk1 | (dsimp only; walk1))
  rename Fr _ _ _ _ => F9; rename News _ _ _ _ => N9; rename BoxAt _ _ _ _ _ _ _ _ _ _ _ => B9
  exact h _ _ F9.keep _ _ _ _ _ _ _ _ _ _ (N9.fresh (by k_mem)) (N9.fresh (by k_mem)) ⟨B9, N9.get (by k_mem), ⟨N9.get (by k_mem), N9.get (by k_mem), by assumption, by assumption, by assumption⟩⟩
theorem empty_box_spec (R : Rm 6 A) (X : (KF w.params).In s.heap) (T : TR mg mb s.heap) {wd : Int} {t : Tok} (h1 : 0 ≤ wd) (h2 : wd ≤ 1000)
   (h : ∀ h' tk, s.heap.StaysIn h' → ∀ x1 dx1 es1 n1 li nl, s.heap.get? x1 = none → s.heap.get? dx1 = none → BoxAt h' x1 dx1 es1 n1 2 wd 0 0 (.ref li) 0 → h'.get? li = some (listOf #[] nl) → Q (.ref x1) {s with heap := h', toks := tk}) : wpAny (model p0 w) A (call (.ref 276) [.int wd t]) Q E s := by
  refine callF (binds := [("width", .int wd t)]) R X T rfl (by k_is) (binds_K X rfl rfl rfl rfl rfl) (by kernel_rfl) rfl rfl rfl (by kernel_rfl) (fun L h₁ tk F N X T => ?_)
  repeat' (first | walk1 | (dsimp only; walk1))
  rename Fr _ _ _ _ => F9; rename News _ _ _ _ => N9; rename BoxAt _ _ _ _ _ _ _ _ _ _ _ => B9
  exact h _ _ F9.keep _ _ _ _ _ _ (N9.fresh (by k_mem)) (N9.fresh (by k_mem)) B9 (N9.get (by k_mem))
theorem two_ne2 {j c b : Nat} {x y : Obj} (h1 : b ≠ j) (h2 : b ≠ c) : ∀ p ∈ [(j, x), (c, y)], p.1 ≠ b := by
  intro p hp
  simp only [List.mem_cons, List.not_mem_nil, or_false] at hp
  rcases hp with rfl | rfl
  · exact Ne.symm h1
  · exact Ne.symm h2
theorem refKey_putL (name : Str) (hs : Int) (tk : Tok) (v : Value) : ∀ es : List DictEntry, (putL name hs (.str name tk) v es).any (·.refKey) = es.any (·.refKey)
  | [] => rfl
  | e :: r => by
    unfold putL
    split
    · rfl
    · simp only [List.any_cons, refKey_putL name hs tk v r]
theorem isStr_ne {v : Value} {a b : Str} (hne : b ≠ a) (h : v.isStr a = true) : v.isStr b = false := by
  cases q : v.isStr b with
  | false => rfl
  | true => exact absurd (Value.isStr_inj v b a q h) hne
theorem find_putL_ne {name nm : Str} (hne : nm ≠ name) (hs : Int) (tk : Tok) (v : Value) : ∀ es : List DictEntry, (putL name hs (.str name tk) v es).find? (·.key.isStr nm) = es.find? (·.key.isStr nm)
  | [] => by
    have : (Value.str name tk).isStr nm = false := isStr_ne hne (by simp [Value.isStr])
    simp [putL, this]
  | e :: r => by
    unfold putL
    split
    · rename_i q
      have := isStr_ne hne q
      simp [this]
    · simp only [List.find?_cons, find_putL_ne hne hs tk v r]
theorem getL_putL_ne {name nm : Str} (hne : nm ≠ name) (hs : Int) (tk : Tok) (v : Value) (es : List DictEntry) : getL nm (putL name hs (.str name tk) v es) = getL nm es := by
  unfold getL
  rw [find_putL_ne hne, refKey_putL]
theorem getL_putL_eq {name : Str} (hs : Int) (tk : Tok) (v : Value) : ∀ es : List DictEntry, getL name (putL name hs (.str name tk) v es) = some (some v)
  | [] => by simp [getL, putL, Value.isStr]
  | e :: r => by
    have ih := getL_putL_eq (name := name) hs tk v r
    unfold putL
    split
    · rename_i q
      simp [getL, q]
    · rename_i q
      unfold getL at ih ⊢
      have q : e.key.isStr name = false := by simpa using q
      simp only [List.find?_cons, q]
      revert ih
      cases (putL name hs (.str name tk) v r).find? (·.key.isStr name) with
      | some x => exact id
      | none => intro ih; exact absurd ih (by simp only []; split <;> simp)
theorem putL_len (name : Str) (hs : Int) (k v : Value) : ∀ es : List DictEntry, (putL name hs k v es).length ≤ es.length + 1
  | [] => by simp [putL]
  | e :: r => by
    have := putL_len name hs k v r
    unfold putL
    split
    · simp
    · simp only [List.length_cons]; omega
theorem putL_len_eq (name : Str) (hs : Int) (k v : Value) : ∀ es : List DictEntry, (es.find? (·.key.isStr name)).isSome = true → (putL name hs k v es).length = es.length
  | [], h => by simp at h
  | e :: r, h => by
    unfold putL
    split
    · simp
    · rename_i q
      have q : e.key.isStr name = false := by simpa using q
      rw [List.find?_cons, q] at h
      simp only [List.length_cons, putL_len_eq name hs k v r h]
theorem getL_found {name : Str} {es : List DictEntry} {v : Value} (h : getL name es = some (some v)) : (es.find? (·.key.isStr name)).isSome = true := by
  unfold getL at h
  split at h
  · rename_i q; rw [q]; rfl
  · split at h <;> cases h
theorem set_abs {K : Frag} {h₀ : Heap} {L x C dx : Addr} {m : Str → Option Value} {es : List DictEntry} {n : Nat} {name : Str} {v : Value} {news news' : List (Addr × Obj)} {Q : Unit → Shared → Prop} (F : Fr h₀ L s.heap m) (X₀ : K.In h₀) (N : News h₀ L s.heap news) (I : InstAt s.heap x (instObj C dx) C (some (dictOf es n)))
    (hl : (getL name es).isSome = true) (hz : es.length ≤ 100) (hs : findIn K (.ref C) "__setattr__" = some (some (.builtin "object.__setattr__"))) (hp : plainOver K C = true) (ht : takerIn K C name = some none) (hh : hasDictIn K C = true)
    (U : Upd dx (dictOf es n) (dictOf (putL name (PyData.keyHash w.params name) (.str name (s.toks + 1)) v es) (putN name es n)) news news')
    (h : ∀ h', Fr h₀ L h' m → News h₀ L h' news' → Q () { s with heap := h', toks := s.toks + 2 }) :
    wpAny (model p0 w) A (setAttr (.ref x) name v) Q E s :=
  set_dict F X₀ N I rfl hs hp ht hh hl rfl U (by have := putL_len name (PyData.keyHash w.params name) (.str name (s.toks + 1)) v es; omega) h
theorem ksetBy2 : True := by
  k_with "call ref" => ((with_reducible show wpAny _ _ (call (Value.ref 123) _ _) _ _ _); refine' check_dimen_spec (mg := mg) (mb := mb) ?k1 ?k2 ?k3 ?k4 ?k5 ?_; (case k1 => walk_at "p world"); (case k2 => walk_at "p world"); (case k3 => walk_at "p world"); (case k4 => omega); (case k5 => omega); walk_at "p after")
  k_with "setAttr ref" => (k_dflt (refine' set_abs ?F ?X ?N ?I ?l ?z ?a ?b ?c ?d ?U ?_; (case I => exact InstAt.of_news (by k_asm) (by k_mem) (by k_mem)); (case F => k_asm); (case X => k_asm); (case N => k_asm); (case l => k_asm); (case z => k_asm); (case a => k_is); (case b => k_is); (case c => k_is); (case d => k_is); (case U => k_upd); k_whole); intro h' F' N'; (try k_sweep))
  trivial
theorem shifted_spec {h₀ : Heap} (R : Rm 3 A) (X : (KF w.params).In h₀) (T : TR mg mb h₀) (hk : h₀.StaysIn s.heap) {x dx : Nat} {es : List DictEntry} {n : Nat} {kind wd ht dp sh : Int} {items : Value} {t : Tok} (b : BoxAt s.heap x dx es n kind wd ht dp items 0) (hx0 : h₀.get? x = none) (hd0 : h₀.get? dx = none) (h1 : -1000000 ≤ sh) (h2 : sh ≤ 1000000)
   (h : ∀ h' tk, (∀ b o, b ≠ dx → s.heap.get? b = some o → h'.get? b = some o) → ∀ es' n', BoxAt h' x dx es' n' kind wd ht dp items sh → Q (.ref x) {s with heap := h', toks := tk}) : wpAny (model p0 w) A (call (.ref 268) [.ref x, .int sh t]) Q E s := by
  refine callM (binds := [("box", .ref x), ("shift", .int sh t)]) (news := [(x, instObj 257 dx), (dx, dictOf es n)]) R X T hk (by intro p hp; simp only [List.mem_cons, List.not_mem_nil, or_false] at hp; rcases hp with rfl | rfl; exact ⟨b.hx, hx0⟩; exact ⟨b.hd, hd0⟩)
    rfl (by k_is) (BindsTo.of_eq (by kernel_rfl)) (by kernel_rfl) rfl rfl rfl (by kernel_rfl) (fun L h₁ h₂ tk F N X₂ T₂ hb hL hL2 => ?_)
  clear X T hk
  have hne := b.ne
  have hl : (getL "shift" es).isSome = true := by obtain ⟨t, e⟩ := b.shift; rw [e]; rfl
  have hz : es.length ≤ 100 := by have := b.len; omega
  repeat' (first | walk1 | (dsimp only; walk1))
  rename Fr _ _ _ _ => F9; rename News _ _ _ _ => N9
  have ne (nm : Str) (hn : nm ≠ "shift") (q : Int) (tk : Tok) (v : Value) : getL nm (putL "shift" q (.str "shift" tk) v es) = getL nm es := getL_putL_ne hn _ _ _ _
  refine h _ _ (fun a o e1 e2 => ?_) _ _ ⟨N9.get (by k_mem), N9.get (by k_mem), b.ne, ?_, ?_, ?_, ?_, ?_, ⟨_, getL_putL_eq _ _ _ _⟩, ?_⟩
  · by_cases e3 : a = x
    · subst e3
      rw [b.hx] at e2
      cases e2
      exact N9.get (by k_mem)
    · exact F9.keep _ _ (hb a o (two_ne2 e3 e1) e2)
  · rw [ne _ (by decide)]; exact b.kind
  · rw [ne _ (by decide)]; exact b.width
  · rw [ne _ (by decide)]; exact b.height
  · rw [ne _ (by decide)]; exact b.depth
  · rw [ne _ (by decide)]; exact b.items
  · obtain ⟨t9, e9⟩ := b.shift
    rw [putL_len_eq _ _ _ _ _ (getL_found e9)]; exact b.len
end
end Mine
end
section
set_option maxHeartbeats 1000000
namespace Mine
structure Fo where
  num : Int
  rows : List Row
  ax : Int
noncomputable def findF (fs : List (Int × Fo)) (k : Int) : Option Fo := (fs.find? fun f => decide (f.1 = k)).map (·.2)
abbrev FontV (w : World) (h : Heap) (v : Value) (f : Fo) : Prop := Font w h v f.num f.rows f.ax
structure FamAt (w : World) (h : Heap) (x dx dr : Addr) (es : List DictEntry) (n : Nat) (kvs : List (Int × Value)) (fs : List (Int × Fo)) : Prop where
  inst : InstAt h x (instObj 200 dx) 200 (some (dictOf es n))
  rows : getL "rows" es = some (some (.ref dr))
  has : getL "has" es = some none
  font : getL "font" es = some none
  symbol : getL "symbol" es = some none
  d : h.DictOf (intKind p0 w) dr kvs
  ds : (dr == sysModules) = false
  all : All2 (fun (kv : Int × Value) (f : Int × Fo) => kv.1 = f.1 ∧ FontV w h kv.2 f.2) kvs fs
theorem FamAt.keeps {w : World} {h h' : Heap} {x dx dr : Addr} {es : List DictEntry} {n : Nat} {kvs : List (Int × Value)} {fs : List (Int × Fo)} (f : FamAt w h x dx dr es n kvs fs) (k : h.StaysIn h') : FamAt w h' x dx dr es n kvs fs :=
  { f with inst := instAt_keeps f.inst k, d := f.d.keep k, all := f.all.imp fun _ _ q => ⟨q.1, Font.keeps q.2 k⟩ }
theorem findF_all2 {w : World} {h : Heap} {kvs : List (Int × Value)} {fs : List (Int × Fo)} (x : All2 (fun (kv : Int × Value) (f : Int × Fo) => kv.1 = f.1 ∧ FontV w h kv.2 f.2) kvs fs) (k : Int) :
    (valueAt kvs k = none ∧ findF fs k = none) ∨ ∃ v f, valueAt kvs k = some v ∧ findF fs k = some f ∧ FontV w h v f := by
  induction x with
  | nil => exact .inl ⟨rfl, rfl⟩
  | @cons kv r kvs rows q _ ih =>
    obtain ⟨q1, q2⟩ := q
    by_cases e : r.1 = k
    · refine .inr ⟨kv.2, r.2, ?_, ?_, q2⟩
      · simp [valueAt, q1, e]
      · simp [findF, e]
    · have e1 : valueAt (kv :: kvs) k = valueAt kvs k := by simp [valueAt, q1, e]
      have e2 : findF (r :: rows) k = findF rows k := by simp [findF, e]
      rw [e1, e2]
      exact ih
theorem FamAt.some {w : World} {h : Heap} {x dx dr : Addr} {es : List DictEntry} {n : Nat} {kvs : List (Int × Value)} {fs : List (Int × Fo)} (f : FamAt w h x dx dr es n kvs fs) (k : Int) : (valueAt kvs k).isSome = (findF fs k).isSome := by
  rcases findF_all2 f.all k with ⟨a, b⟩ | ⟨v, r, a, b, _⟩
  · rw [a, b]; rfl
  · rw [a, b]; rfl
section
variable {w : World} {A : Around} {s : Shared} {E : Value → Shared → Prop} {Q : Value → Shared → Prop} {mg mb : Str → Option Value}
theorem ksetFs1 : True := by
  k_with "call ref" => ((with_reducible show wpAny _ _ (call (Value.ref 393) _ _) _ _ _); (rename Fr _ _ _ _ => kF0); (rename FontAt _ _ _ _ _ _ _ _ _ _ _ _ _ _ => kf); refine' font_width_spec (mg := mg) (mb := mb) ?k1 ?k2 ?k3 (FontAt.keeps kf (Fr.keep kF0)) ?_; (case k1 => walk_at "p world"); (case k2 => walk_at "p world"); (case k3 => walk_at "p world"); walk_at "p after")
  k_with "call ref" => ((with_reducible show wpAny _ _ (call (Value.ref 400) _ _) _ _ _); (rename Fr _ _ _ _ => kF0); (rename FontAt _ _ _ _ _ _ _ _ _ _ _ _ _ _ => kf); refine' font_height_spec (mg := mg) (mb := mb) ?k1 ?k2 ?k3 (FontAt.keeps kf (Fr.keep kF0)) ?_; (case k1 => walk_at "p world"); (case k2 => walk_at "p world"); (case k3 => walk_at "p world"); walk_at "p after")
  k_with "call ref" => ((with_reducible show wpAny _ _ (call (Value.ref 407) _ _) _ _ _); (rename Fr _ _ _ _ => kF0); (rename FontAt _ _ _ _ _ _ _ _ _ _ _ _ _ _ => kf); refine' font_depth_spec (mg := mg) (mb := mb) ?k1 ?k2 ?k3 (FontAt.keeps kf (Fr.keep kF0)) ?_; (case k1 => walk_at "p world"); (case k2 => walk_at "p world"); (case k3 => walk_at "p world"); walk_at "p after")
  k_with "call ref" => ((with_reducible show wpAny _ _ (call (Value.ref 414) _ _) _ _ _); (rename Fr _ _ _ _ => kF0); (rename FontAt _ _ _ _ _ _ _ _ _ _ _ _ _ _ => kf); refine' font_italic_spec (mg := mg) (mb := mb) ?k1 ?k2 ?k3 (FontAt.keeps kf (Fr.keep kF0)) ?_; (case k1 => walk_at "p world"); (case k2 => walk_at "p world"); (case k3 => walk_at "p world"); walk_at "p after")
  k_with "call ref" => ((with_reducible show wpAny _ _ (call (Value.ref 386) _ _) _ _ _); (rename Fr _ _ _ _ => kF0); (rename FontAt _ _ _ _ _ _ _ _ _ _ _ _ _ _ => kf); refine' font_has_spec (mg := mg) (mb := mb) ?k1 ?k2 ?k3 (FontAt.keeps kf (Fr.keep kF0)) ?_; (case k1 => walk_at "p world"); (case k2 => walk_at "p world"); (case k3 => walk_at "p world"); walk_at "p after")
  k_with "call ref" => ((with_reducible show wpAny _ _ (call (Value.ref 428) _ _) _ _ _); (rename Fr _ _ _ _ => kF0); (rename FontAt _ _ _ _ _ _ _ _ _ _ _ _ _ _ => kf); refine' font_larger_spec (mg := mg) (mb := mb) ?k1 ?k2 ?k3 (FontAt.keeps kf (Fr.keep kF0)) ?_; (case k1 => walk_at "p world"); (case k2 => walk_at "p world"); (case k3 => walk_at "p world"); walk_at "p after")
  k_with "call ref" => ((with_reducible show wpAny _ _ (call (Value.ref 435) _ _) _ _ _); (rename Fr _ _ _ _ => kF0); (rename FontAt _ _ _ _ _ _ _ _ _ _ _ _ _ _ => kf); refine' font_pieces_spec (mg := mg) (mb := mb) ?k1 ?k2 ?k3 (FontAt.keeps kf (Fr.keep kF0)) ?_; (case k1 => walk_at "p world"); (case k2 => walk_at "p world"); (case k3 => walk_at "p world"); walk_at "p after")
  k_with "call ref" => ((with_reducible show wpAny _ _ (call (Value.ref 442) _ _) _ _ _); (rename Fr _ _ _ _ => kF0); (rename FontAt _ _ _ _ _ _ _ _ _ _ _ _ _ _ => kf); refine' font_param_spec (mg := mg) (mb := mb) ?k1 ?k2 ?k3 (FontAt.keeps kf (Fr.keep kF0)) ?_; (case k1 => walk_at "p world"); (case k2 => walk_at "p world"); (case k3 => walk_at "p world"); walk_at "p after")
  k_with "call ref" => ((with_reducible show wpAny _ _ (call (Value.ref 109) _ _) _ _ _); refine' is_whole_spec (mg := mg) (mb := mb) ?k1 ?k2 ?k3 ?_; (case k1 => walk_at "p world"); (case k2 => walk_at "p world"); (case k3 => walk_at "p world"); walk_at "p after")
  k_with "compareOp NotIn int ref" => (k_dflt (refine' notin_base ?k1 ?k2 ?k3 ?_; (case k1 => k_asm); (case k2 => k_asm); (case k3 => k_asm); k_whole))
  trivial
theorem item_base {Q : Value → Shared → Prop} {value slice : PySem.Expr} {h₀ : Heap} {L d : Addr} {m : Str → Option Value} {kvs : List (Int × Value)} {code : Int} {t : Tok} {v : Value} (F : Fr h₀ L s.heap m) (hd : h₀.DictOf (intKind p0 w) d kvs) (hv : valueAt kvs code = some v)
    (h : Q v { s with toks := s.toks + 1 }) (hs : subscripted slice false (.ref d) (.int code t) = operate [.ref d, .int code t] (getItem (.ref d) (.int code t)) := by with_unfolding_all rfl) : wpAny (model p0 w) A (subscriptTail value slice (.ref d) (.int code t)) Q E s :=
  have hm := (hd.keep F.keep).mapOf
  tail_any hm.typeIs slot_dict_getitem.lookup (wpAny_getItem_of (intKind_is _ _ _ _) hm hv h) hs
theorem ksetFs2 : True := by
  k_with "subscriptTail" => ((with_reducible show wpAny _ _ (subscriptTail _ _ (Value.ref _) (Value.int _ _)) _ _ _); k_dflt (refine' item_base ?k1 ?k2 ?k3 ?_ ?k4; (case k1 => k_asm); (case k2 => k_asm); (case k3 => k_asm); (case k4 => with_unfolding_all rfl); k_whole))
  trivial
theorem fam_has_spec (R : Rm 2 A) (X : (KF w.params).In s.heap) (T : TR mg mb s.heap) {x dx dr : Addr} {es : List DictEntry} {n : Nat} {kvs : List (Int × Value)} {fs : List (Int × Fo)} (f : FamAt w s.heap x dx dr es n kvs fs) {fam size : Int} {t1 t2 : Tok} (h1 : 0 ≤ fam) (h2 : fam ≤ 15) (h3 : 0 ≤ size) (h4 : size ≤ 2)
   (h : ∀ h' tk, s.heap.StaysIn h' → Q (.bool (findF fs (fam * 3 + size)).isSome) {s with heap := h', toks := tk}) : wpAny (model p0 w) A (call (.ref 169) [.ref x, .int fam t1, .int size t2]) Q E s := by
  refine callF (binds := [("self", .ref x), ("family", .int fam t1), ("size", .int size t2)]) R X T rfl (by k_is) (BindsTo.of_eq (by kernel_rfl)) (by kernel_rfl) rfl rfl rfl (by kernel_rfl) (fun L h₁ tk F N X T => ?_)
  have I := f.inst; have hc := f.rows; have hd := f.d; have hds := f.ds
  rw [← f.some] at h
  repeat' (first | walk1 | (dsimp only; walk1))
  rename Fr _ _ _ _ => F9
  exact h _ _ F9.keep
theorem ksetFs3 : True := by
  k_with "call ref" => ((with_reducible show wpAny _ _ (call (Value.ref 169) _ _) _ _ _); (rename Fr _ _ _ _ => kF0); (rename FamAt _ _ _ _ _ _ _ _ _ => kf); refine' fam_has_spec (mg := mg) (mb := mb) ?k1 ?k2 ?k3 (FamAt.keeps kf (Fr.keep kF0)) ?k4 ?k5 ?k6 ?k7 ?_; (case k1 => walk_at "p world"); (case k2 => walk_at "p world"); (case k3 => walk_at "p world"); (case k4 => omega); (case k5 => omega); (case k6 => omega); (case k7 => omega); walk_at "p after")
  trivial
theorem fam_font_spec (R : Rm 3 A) (X : (KF w.params).In s.heap) (T : TR mg mb s.heap) {x dx dr : Addr} {es : List DictEntry} {n : Nat} {kvs : List (Int × Value)} {fs : List (Int × Fo)} (f : FamAt w s.heap x dx dr es n kvs fs) {fam size : Int} {t1 t2 : Tok} (h1 : 0 ≤ fam) (h2 : fam ≤ 15) (h3 : 0 ≤ size) (h4 : size ≤ 2) {v : Value} (hv : valueAt kvs (fam * 3 + size) = some v)
   (h : ∀ h' tk, s.heap.StaysIn h' → Q v {s with heap := h', toks := tk}) : wpAny (model p0 w) A (call (.ref 176) [.ref x, .int fam t1, .int size t2]) Q E s := by
  refine callF (binds := [("self", .ref x), ("family", .int fam t1), ("size", .int size t2)]) R X T rfl (by k_is) (BindsTo.of_eq (by kernel_rfl)) (by kernel_rfl) rfl rfl rfl (by kernel_rfl) (fun L h₁ tk F N X T => ?_)
  have I := f.inst; have hc := f.rows; have hd := f.d; have hds := f.ds; have hm := f.has
  have hs : (findF fs (fam * 3 + size)).isSome = true := by rw [← f.some, hv]; rfl
  repeat' (first | walk1 | (dsimp only; walk1))
  rename Fr _ _ _ _ => F9
  exact h _ _ F9.keep
theorem ksetFs4 : True := by
  k_with "call ref" => ((with_reducible show wpAny _ _ (call (Value.ref 176) _ _) _ _ _); (rename Fr _ _ _ _ => kF0); (rename FamAt _ _ _ _ _ _ _ _ _ => kf); refine' fam_font_spec (mg := mg) (mb := mb) ?k1 ?k2 ?k3 (FamAt.keeps kf (Fr.keep kF0)) ?k4 ?k5 ?k6 ?k7 ?k8 ?_; (case k8 => k_asm); (case k1 => walk_at "p world"); (case k2 => walk_at "p world"); (case k3 => walk_at "p world"); (case k4 => omega); (case k5 => omega); (case k6 => omega); (case k7 => omega); walk_at "p after")
  trivial
theorem fam_symbol_spec (R : Rm 4 A) (X : (KF w.params).In s.heap) (T : TR mg mb s.heap) {x dx dr : Addr} {es : List DictEntry} {n : Nat} {kvs : List (Int × Value)} {fs : List (Int × Fo)} (f : FamAt w s.heap x dx dr es n kvs fs) {size : Int} {t1 t2 : Tok} (h3 : 0 ≤ size) (h4 : size ≤ 2) {fo : Fo} (hv : findF fs (2 * 3 + size) = some fo)
   (h : ∀ h' tk, s.heap.StaysIn h' → ∀ t, Q (.int fo.ax t) {s with heap := h', toks := tk}) : wpAny (model p0 w) A (call (.ref 183) [.ref x, .int size t1, .int 22 t2]) Q E s := by
  refine callF (binds := [("self", .ref x), ("size", .int size t1), ("number", .int 22 t2)]) R X T rfl (by k_is) (BindsTo.of_eq (by kernel_rfl)) (by kernel_rfl) rfl rfl rfl (by kernel_rfl) (fun L h₁ tk F N X T => ?_)
  have I := f.inst; have hm := f.font
  obtain ⟨v, hvv, x2, dx2, es2, n2, dc2, dp2, kvs2, vs2, tn2, rfl, f2⟩ : ∃ v, valueAt kvs (2 * 3 + size) = some v ∧ FontV w s.heap v fo := by
    rcases findF_all2 f.all (2 * 3 + size) with ⟨a, b⟩ | ⟨v, r, a, b, q⟩
    · rw [hv] at b; cases b
    · rw [hv] at b; cases b; exact ⟨v, a, q⟩
  have I2 := f2.inst; have hm2 := f2.param
  repeat' (first | walk1 | (dsimp only; walk1))
  rename Fr _ _ _ _ => F9
  exact h _ _ F9.keep _
end
end Mine
end
section
set_option maxHeartbeats 1000000
namespace Mine
inductive TurnE (h₀ : Heap) (L I : Addr) (ito : Obj) (Jn : (Str → Option Value) → List (Addr × Obj) → Prop) (s₁ s₂ : Shared) : Prop
  | mk (h' : _)(tk : _)(m' : _)(news' : _) (h0 : s₂ = { s₁ with heap := h', toks := tk }) (h1 : Fr h₀ L h' m') (h2 : News h₀ L h' ((I, ito) :: news')) (h3 : (∀ p ∈ news', p.1 ≠ I)) (h4 : Jn m' news') : TurnE h₀ L I ito Jn s₁ s₂
noncomputable def TurnP (h₀ : Heap) (L I : Addr) (ito : Obj) (Jn : (Str → Option Value) → List (Addr × Obj) → Prop) (s₁ : Shared) (Q : Flow → Shared → Prop) (f : Flow) (s₂ : Shared) : Prop :=
  match f with
  | .ret v => Q (.ret v) s₂
  | .brk => Q .next s₂
  | _ => TurnE h₀ L I ito Jn s₁ s₂
structure ItrC (o : Obj) : Prop where
  tup : o.cls ≠ .type "tuple"
  lst : o.cls ≠ .type "list"
  dct : o.cls ≠ .type "dict"
  ref : ∀ C, o.cls ≠ .ref C
theorem ItrC.of {o : Obj} {T : String} (h : o.cls = .type T) (hT : T ≠ "tuple" ∧ T ≠ "list" ∧ T ≠ "dict") : ItrC o :=
  ⟨fun e => hT.1 (Value.type.inj (h.symm.trans e)), fun e => hT.2.1 (Value.type.inj (h.symm.trans e)), fun e => hT.2.2 (Value.type.inj (h.symm.trans e)), fun C e => by rw [h] at e; cases e⟩
noncomputable def Has (m : Str → Option Value) : List (Str × Value) → Prop
  | [] => True
  | p :: r => m p.1 = some p.2 ∧ Has m r
noncomputable def frm (bs : List (Str × Value)) (m : Str → Option Value) : Str → Option Value := fun y => match bs.lookup y with | some v => some v | none => m y
theorem Has.frm {m : Str → Option Value} : ∀ {bs : List (Str × Value)}, Has m bs → m = Mine.frm bs m
  | [], _ => rfl
  | (k, v) :: r, ⟨e, h⟩ => by
    funext y
    have ih := congrFun (Has.frm h) y
    unfold Mine.frm at ih ⊢
    rw [List.lookup_cons]
    by_cases q : y = k
    · subst q; simp [e]
    · have : (y == k) = false := by simpa using q
      rw [this]; exact ih
theorem frOf {h₀ h : Heap} {L : Addr} {m : Str → Option Value} {bs : List (Str × Value)} (F : Fr h₀ L h m) (H : Has m bs) : Fr h₀ L h (frm bs m) := H.frm ▸ F
inductive WStepE (h₀ : Heap) (L : Addr) (s : Shared) (J : Nat → (Str → Option Value) → List (Addr × Obj) → Prop) (n : Nat) (s₂ : Shared) : Prop
  | mk (h' : _)(tk : _)(m₂ : _)(news₂ : _)(n' : _) (h0 : s₂ = { s with heap := h', toks := tk }) (h1 : Fr h₀ L h' m₂) (h2 : News h₀ L h' news₂) (h3 : n' < n) (h4 : J n' m₂ news₂) : WStepE h₀ L s J n s₂
noncomputable def WStep (h₀ : Heap) (L : Addr) (s : Shared) (J : Nat → (Str → Option Value) → List (Addr × Obj) → Prop) (n : Nat) (Q : Flow → Shared → Prop) (f : Flow) (s₂ : Shared) : Prop :=
  match f with
  | .ret v => Q (.ret v) s₂
  | .brk => Q .next s₂
  | _ => WStepE h₀ L s J n s₂
section
variable {prog : Program} {w : World} {A : Around} {E : Value → Shared → Prop} {s : Shared} {env : Env} {h₀ : Heap} {target : Expr} {body : List Stmt} {Q : Flow → Shared → Prop}
theorem turns_core {I : Addr} {fp : List Addr} {n : Nat} {P Md : Nat → Value → Heap → Prop} {St : Nat → Heap → Prop} {m : Str → Option Value} {news : List (Addr × Obj)} (J : Nat → (Str → Option Value) → List (Addr × Obj) → Prop)
    (W : KTurns prog w A target I fp [I] n P Md St) (hIf : I ∈ fp) (hLf : env.locals ∉ fp) (hI0 : h₀.get? I = none) (hob : ∀ i h, St i h → ∃ o, h.get? I = some o ∧ ItrC o)
    (hax : ∀ b ∈ fp, b ≠ I → ∃ o, ∀ i m news h, J i m news → Fr h₀ env.locals h m → News h₀ env.locals h news → h.get? b = some o)
    (hnI : ∀ p ∈ news, p.1 ≠ I) (hst : St 0 s.heap) (F : Fr h₀ env.locals s.heap m) (N : News h₀ env.locals s.heap news) (h0 : J 0 m news)
    (turn : ∀ i v m₁ news₁ h₁ tk₁ ito, ∀ K, (∀ f z, TurnP h₀ env.locals I ito (J (i + 1)) { s with heap := h₁, toks := tk₁ } Q f z → KQ K f z) → i < n → P i v h₁ → J i m₁ news₁ → (∀ p ∈ news₁, p.1 ≠ I) → ItrC ito → Fr h₀ env.locals h₁ m₁ → News h₀ env.locals h₁ ((I, ito) :: news₁) →
      wpAny (model prog w) A (assign target env v) (fun _ s₃ => wpAny (model prog w) A (execs body env) (KQ K) E s₃) E { s with heap := h₁, toks := tk₁ })
    (done : ∀ h' tk m' news', Fr h₀ env.locals h' m' → News h₀ env.locals h' news' → J n m' news' → Q .next { s with heap := h', toks := tk }) :
    TurnsAt prog w A h₀ env target body Q E (.ref I) s := by
  refine ⟨I, fp, [I], n, P, Md, St, m, news, J, rfl, W, hLf, fun b hb => by rw [List.mem_singleton.mp hb]; exact hI0, fun p hp q => hnI p hp (List.mem_singleton.mp q), hst, F, N, h0, ?_, fun h' tk m' news' F' N' _ hJ => done h' tk m' news' F' N' hJ⟩
  intro i v m₁ news₁ h₁ tk₁ own hin hP hJ hoff hown hget hall hst' F₁ N₁
  obtain ⟨ito, hito, hitc⟩ := hob _ _ hst'
  have hio : (I, ito) ∈ own := hall I hIf hI0 ito hito
  have N₂ : News h₀ env.locals h₁ ((I, ito) :: news₁) := fun p hp => by
    rcases List.mem_cons.mp hp with rfl | hp
    · exact N₁ _ (List.mem_append_left _ hio)
    · exact N₁ _ (List.mem_append_right _ hp)
  refine wpAny_mono (turn i v m₁ news₁ h₁ tk₁ ito _ (fun _ _ p => ⟨p⟩) hin hP hJ (fun p hp q => hoff p hp (List.mem_singleton.mpr q)) hitc F₁ N₂) (fun _ s₃ x => wpAny_mono x (fun f s₄ y => ?_) fun _ _ e => e) fun _ _ e => e
  replace y := y.go
  have fin : TurnE h₀ env.locals I ito (J (i + 1)) { s with heap := h₁, toks := tk₁ } s₄ → LoopStepU h₀ env.locals [I] own (J (i + 1)) { s with heap := h₁, toks := tk₁ } .next s₄ := by
    rintro ⟨h', tk, m', news', e, F', N', ho, r⟩
    refine ⟨rfl, h', tk, m', news', e, F', fun p hp => ?_, fun p hp q => ho p hp (List.mem_singleton.mp q), r⟩
    rcases List.mem_append.mp hp with hp | hp
    · by_cases e1 : p.1 = I
      · have h2 := hget p hp
        have h3 : p = (I, ito) := Prod.ext e1 (by rw [e1, hito] at h2; exact (Option.some.inj h2).symm)
        rw [h3]; exact N' _ (List.mem_cons_self ..)
      · obtain ⟨o, hkeep⟩ := hax p.1 (hown p hp) e1
        have a1 := hkeep i m₁ news₁ h₁ hJ F₁ N₁.right
        have a2 := hkeep (i + 1) m' news' h' r F' fun p hp => N' p (List.mem_cons_of_mem _ hp)
        have a3 := N₁ p (List.mem_append_left _ hp)
        refine ⟨?_, a3.2⟩
        rw [a2, ← a1]; exact a3.1
    · exact N' _ (List.mem_cons_of_mem _ hp)
  cases f with
  | ret v => exact y
  | brk => exact y
  | next => exact fin y
  | cont => exact fin y
theorem drop_get {items : List Value} {i : Nat} {v : Value} (h : items.toArray[i]? = some v) : items.drop i = v :: items.drop (i + 1) := by
  have h : items[i]? = some v := by simpa using h
  obtain ⟨hi, e⟩ := List.getElem?_eq_some_iff.mp h
  rw [List.drop_eq_getElem_cons hi, e]
theorem turns_list {items : List Value} {ax : Addr} {oax : Obj} {m : Str → Option Value} {news : List (Addr × Obj)} (J : List Value → (Str → Option Value) → List (Addr × Obj) → Prop)
    (hh : A.handled = none) (hls : ∀ h : Heap, h.get? ax = some oax → h.IsList ax items.toArray) (hL : env.locals ≠ ax)
    (hax : ∀ rest m news h, J rest m news → Fr h₀ env.locals h m → News h₀ env.locals h news → h.get? ax = some oax)
    (F : Fr h₀ env.locals s.heap m) (N : News h₀ env.locals s.heap news) (h0 : J items m news)
    (turn : ∀ v rest m₁ news₁ h₁ tk₁ (I : Addr) ito, ∀ K, (∀ f z, TurnP h₀ env.locals I ito (J rest) { s with heap := h₁, toks := tk₁ } Q f z → KQ K f z) → J (v :: rest) m₁ news₁ → (∀ p ∈ news₁, p.1 ≠ I) → ItrC ito → Fr h₀ env.locals h₁ m₁ → News h₀ env.locals h₁ ((I, ito) :: news₁) →
      wpAny (model prog w) A (assign target env v) (fun _ s₃ => wpAny (model prog w) A (execs body env) (KQ K) E s₃) E { s with heap := h₁, toks := tk₁ })
    (done : ∀ h' tk m' news', Fr h₀ env.locals h' m' → News h₀ env.locals h' news' → J [] m' news' → Q .next { s with heap := h', toks := tk }) :
    wpAny (model prog w) A (pyIter (.ref ax)) (fun it s₂ => TurnsAt prog w A h₀ env target body Q E it s₂) E s := by
  have h1 := hax _ _ _ _ h0 F N
  have hl := hls _ h1
  have hlt : ax < s.heap.objs.size := Heap.lt_size h1
  have hne : ax ≠ s.heap.objs.size := Nat.ne_of_lt hlt
  refine wpAny_pyIter_list hl ?_
  refine turns_core (fun i => J (items.drop i)) (KTurns.ofWalks (Walks.list hh s.heap.objs.size ax hne items.toArray) fun i v s Q E st q => letGo_listiter st.1 q) (by simp) ?_ (next_is_new F) (fun i h st => ?_) ?_ (fun p hp => Nat.ne_of_lt (Heap.lt_size (N p hp).1)) ?_ (F.push _)
    (fun p hp => ⟨Heap.get?_push_of_some _ (N p hp).1, (N p hp).2⟩) h0 ?_ ?_
  · intro q
    simp only [List.mem_cons, List.not_mem_nil, or_false] at q
    rcases q with q | q
    · exact absurd F.ns.lt (q ▸ Nat.lt_irrefl _)
    · exact hL q
  · obtain ⟨it, hit, hc, _⟩ := st.1
    exact ⟨it, hit, ItrC.of hc (by decide)⟩
  · intro b hb hbI
    simp only [List.mem_cons, List.not_mem_nil, or_false] at hb
    rcases hb with hb | rfl
    · exact absurd hb hbI
    · exact ⟨oax, fun i m news h j F N => hax _ _ _ _ j F N⟩
  · exact ⟨⟨_, Heap.get?_push_size _ rfl, rfl, rfl⟩, hl.at fun o e => Heap.get?_push_of_some _ e⟩
  · intro i v m₁ news₁ h₁ tk₁ ito K hK hi hP hJ hoff hc₁ F₁ N₁
    rw [drop_get hP] at hJ
    exact turn v _ m₁ news₁ h₁ tk₁ _ ito K hK hJ hoff hc₁ F₁ N₁
  · intro h' tk m' news' F' N' hJ
    refine done h' tk m' news' F' N' ?_
    have : items.drop items.toArray.size = [] := by simp
    rwa [this] at hJ
theorem turns_tup {items : List Value} {ax : Addr} {oax : Obj} {m : Str → Option Value} {news : List (Addr × Obj)} (J : List Value → (Str → Option Value) → List (Addr × Obj) → Prop)
    (hh : A.handled = none) (hls : ∀ h : Heap, h.get? ax = some oax → h.IsTuple ax items.toArray) (hL : env.locals ≠ ax)
    (hax : ∀ rest m news h, J rest m news → Fr h₀ env.locals h m → News h₀ env.locals h news → h.get? ax = some oax)
    (F : Fr h₀ env.locals s.heap m) (N : News h₀ env.locals s.heap news) (h0 : J items m news)
    (turn : ∀ v rest m₁ news₁ h₁ tk₁ (I : Addr) ito, ∀ K, (∀ f z, TurnP h₀ env.locals I ito (J rest) { s with heap := h₁, toks := tk₁ } Q f z → KQ K f z) → J (v :: rest) m₁ news₁ → (∀ p ∈ news₁, p.1 ≠ I) → ItrC ito → Fr h₀ env.locals h₁ m₁ → News h₀ env.locals h₁ ((I, ito) :: news₁) →
      wpAny (model prog w) A (assign target env v) (fun _ s₃ => wpAny (model prog w) A (execs body env) (KQ K) E s₃) E { s with heap := h₁, toks := tk₁ })
    (done : ∀ h' tk m' news', Fr h₀ env.locals h' m' → News h₀ env.locals h' news' → J [] m' news' → Q .next { s with heap := h', toks := tk }) :
    wpAny (model prog w) A (pyIter (.ref ax)) (fun it s₂ => TurnsAt prog w A h₀ env target body Q E it s₂) E s := by
  have h1 := hax _ _ _ _ h0 F N
  have hl := hls _ h1
  have hlt : ax < s.heap.objs.size := Heap.lt_size h1
  have hne : ax ≠ s.heap.objs.size := Nat.ne_of_lt hlt
  refine wpAny_pyIter_tuple hl ?_
  refine turns_core (fun i => J (items.drop i)) (KTurns.ofWalks (Walks.tuple hh s.heap.objs.size ax hne items.toArray) fun i v s Q E st q => letGo_tupleiter st.1 q) (by simp) ?_ (next_is_new F) (fun i h st => ?_) ?_ (fun p hp => Nat.ne_of_lt (Heap.lt_size (N p hp).1)) ?_ (F.push _)
    (fun p hp => ⟨Heap.get?_push_of_some _ (N p hp).1, (N p hp).2⟩) h0 ?_ ?_
  · intro q
    simp only [List.mem_cons, List.not_mem_nil, or_false] at q
    rcases q with q | q
    · exact absurd F.ns.lt (q ▸ Nat.lt_irrefl _)
    · exact hL q
  · obtain ⟨it, hit, hc, _⟩ := st.1
    exact ⟨it, hit, ItrC.of hc (by decide)⟩
  · intro b hb hbI
    simp only [List.mem_cons, List.not_mem_nil, or_false] at hb
    rcases hb with hb | rfl
    · exact absurd hb hbI
    · exact ⟨oax, fun i m news h j F N => hax _ _ _ _ j F N⟩
  · exact ⟨⟨_, Heap.get?_push_size _ rfl, rfl, rfl⟩, hl.at fun o e => Heap.get?_push_of_some _ e⟩
  · intro i v m₁ news₁ h₁ tk₁ ito K hK hi hP hJ hoff hc₁ F₁ N₁
    rw [drop_get hP] at hJ
    exact turn v _ m₁ news₁ h₁ tk₁ _ ito K hK hJ hoff hc₁ F₁ N₁
  · intro h' tk m' news' F' N' hJ
    refine done h' tk m' news' F' N' ?_
    have : items.drop items.toArray.size = [] := by simp
    rwa [this] at hJ
theorem turns_range {r : Addr} {a₀ b₀ c : Int} {t₀ u₀ v₀ : Tok} {n : Nat} {m : Str → Option Value} {news : List (Addr × Obj)} (J : Nat → (Str → Option Value) → List (Addr × Obj) → Prop)
    (hh : A.handled = none) (hr : IsRange s.heap r a₀ b₀ c t₀ u₀ v₀) (hsmall : Builtin.Range.small a₀ b₀ c = true) (hn : Builtin.Range.rangeSize a₀ b₀ c = (n : Int))
    (F : Fr h₀ env.locals s.heap m) (N : News h₀ env.locals s.heap news) (h0 : J 0 m news)
    (hgo : ∀ (I : Addr) v (s : Shared) (Q : Unit → Shared → Prop) (E : Value → Shared → Prop), Q () s → wpAny (model prog w) A (letOwnedTupleGo target (.ref I) v) Q E s)
    (turn : ∀ i t m₁ news₁ h₁ tk₁ (I : Addr) ito, ∀ K, (∀ f z, TurnP h₀ env.locals I ito (J (i + 1)) { s with heap := h₁, toks := tk₁ } Q f z → KQ K f z) → i < n → J i m₁ news₁ → (∀ p ∈ news₁, p.1 ≠ I) → ItrC ito → Fr h₀ env.locals h₁ m₁ → News h₀ env.locals h₁ ((I, ito) :: news₁) →
      wpAny (model prog w) A (assign target env (.int (a₀ + (i : Nat) * c) t)) (fun _ s₃ => wpAny (model prog w) A (execs body env) (KQ K) E s₃) E { s with heap := h₁, toks := tk₁ })
    (done : ∀ h' tk m' news', Fr h₀ env.locals h' m' → News h₀ env.locals h' news' → J n m' news' → Q .next { s with heap := h', toks := tk }) :
    wpAny (model prog w) A (pyIter (.ref r)) (fun it s₂ => TurnsAt prog w A h₀ env target body Q E it s₂) E s := by
  refine wpAny_pyIter_range hr hsmall ?_
  refine turns_core (P := fun i v _ => ∃ t, v = .int (a₀ + i * c) t) J (KTurns.ofWalks (Walks.range hh s.heap.objs.size a₀ c n) fun i v s Q E st q => hgo _ v s Q E q) (by simp) ?_ (next_is_new F) (fun i h st => ⟨_, st, ItrC.of rfl (by decide)⟩) ?_ (fun p hp => Nat.ne_of_lt (Heap.lt_size (N p hp).1)) (by show IsRangeIter _ _ _ _ _; rw [hn]; simpa using Heap.get?_push_size _ rfl) (F.push _)
    (fun p hp => ⟨Heap.get?_push_of_some _ (N p hp).1, (N p hp).2⟩) h0 ?_ done
  · intro q
    exact absurd F.ns.lt ((List.mem_singleton.mp q) ▸ Nat.lt_irrefl _)
  · intro b hb hbI
    exact absurd (List.mem_singleton.mp hb) hbI
  · rintro i v m₁ news₁ h₁ tk₁ ito K hK hi ⟨t, rfl⟩ hJ hoff hc₁ F₁ N₁
    exact turn i t m₁ news₁ h₁ tk₁ _ ito K hK hi hJ hoff hc₁ F₁ N₁
structure Stop (p : Prop) : Prop where
  go : p
theorem stop_here {α : Type} {M : Model} {t : Sem α} {Q : α → Shared → Prop} (h : Stop (wpAny M A t Q E s)) : wpAny M A t Q E s := h.go
theorem For_st {iter : Expr} {pos : Pos} {m : Str → Option Value} (_F : Fr h₀ env.locals s.heap m)
    (h : wpAny (model prog w) A (eval iter env) (fun xv s₁ => Stop (wpAny (model prog w) A (pyIter xv) (fun it s₂ => TurnsAt prog w A h₀ env target body Q E it s₂) E s₁)) E s)
    (hs : ∀ x, foldedSetIterable iter env x = pure x := by intro _; rfl)
    (hE : PassesOwn (model prog w) A env E := by passes_own) :
    Stop (wpAny (model prog w) A (exec (.For target iter body [] pos) env) Q E s) := by
  refine ⟨wpAny_For (wpAny_mono h (fun xv s₁ h₁ => wpAny_mono h₁.go (fun it s₂ h₂ => ?_) fun _ _ e => e) fun _ _ e => e) hs⟩
  obtain ⟨I, fp, wr, n, P, Md, St, m, news, J, rfl, W, hLf, hwr, hnw, hst, F, N, h0, step, hQ⟩ := h₂
  exact ktu_loop (R := fun r s' => match r with | .ok f => Q f s' | .error e => cameBackBy (model prog w) A env E e s') W hLf hwr hnw hst F N J h0
    (fun i v m₁ news₁ h₁ tk₁ own a b c d e f g st F₁ N₁ => wpAny_mono (step i v m₁ news₁ h₁ tk₁ own a b c d e f g st F₁ N₁) (fun _ _ x => wpAny_passesOwn hE x) hE) hQ
noncomputable def SeqAt (h : Heap) (ax : Addr) (vs : List Value) : Prop := h.IsList ax vs.toArray ∨ h.IsTuple ax vs.toArray
theorem SeqAt.keeps {h h' : Heap} {ax : Addr} {vs : List Value} (x : SeqAt h ax vs) (k : h.StaysIn h') : SeqAt h' ax vs := by
  rcases x with ⟨o, e, r⟩ | ⟨o, e, r⟩
  · exact .inl ⟨o, k _ _ e, r⟩
  · exact .inr ⟨o, k _ _ e, r⟩
theorem turns_base {L : Addr} {items : List Value} {ax : Addr} {m : Str → Option Value} {news : List (Addr × Obj)} (J : List Value → (Str → Option Value) → List (Addr × Obj) → Prop)
    (hs : SeqAt h₀ ax items) (F : Fr h₀ L s.heap m) (N : News h₀ L s.heap news) (h0 : J items m news)
    (turn : ∀ v rest m₁ news₁ h₁ tk₁ (I : Addr) ito, ∀ K, (∀ f z, TurnP h₀ L I ito (J rest) { s with heap := h₁, toks := tk₁ } Q f z → KQ K f z) → J (v :: rest) m₁ news₁ → (∀ p ∈ news₁, p.1 ≠ I) → ItrC ito → Fr h₀ L h₁ m₁ → News h₀ L h₁ ((I, ito) :: news₁) →
      wpAny (model prog w) A (assign target env v) (fun _ s₃ => wpAny (model prog w) A (execs body env) (KQ K) E s₃) E { s with heap := h₁, toks := tk₁ })
    (done : ∀ h' tk m' news', Fr h₀ L h' m' → News h₀ L h' news' → J [] m' news' → Q .next { s with heap := h', toks := tk })
    (hh : A.handled = none := by rfl) (hL : env.locals = L := by rfl) :
    Stop (wpAny (model prog w) A (pyIter (.ref ax)) (fun it s₂ => TurnsAt prog w A h₀ env target body Q E it s₂) E s) := by
  subst hL
  refine ⟨?_⟩
  rcases hs with ⟨o, e, r⟩ | ⟨o, e, r⟩
  · exact turns_list (oax := o) J hh (fun h e' => ⟨o, e', r⟩) (fun q => absurd (Heap.lt_size e) (Nat.not_lt.mpr (q ▸ F.above))) (fun _ _ _ _ _ F _ => F.keep _ _ e) F N h0 turn done
  · exact turns_tup (oax := o) J hh (fun h e' => ⟨o, e', r⟩) (fun q => absurd (Heap.lt_size e) (Nat.not_lt.mpr (q ▸ F.above))) (fun _ _ _ _ _ F _ => F.keep _ _ e) F N h0 turn done
theorem isi_tup {Q : Value → Shared → Prop} {L a : Addr} {m : Str → Option Value} {xs : Array Value} (F : Fr h₀ L s.heap m) (it : IsTup h₀ a xs) (h : Q (.bool true) s) :
    wpAny (model prog w) A (call (.builtin "isinstance") [.ref a, .type "tuple"]) Q E s :=
  have it := F.tup it
  call_isinstance (isinstance_true (Tx := "tuple") PySem.F.isi_meta_tuple sub_tuple_tuple) ⟨let ⟨o, e, c, _⟩ := it; ⟨o, e, c⟩, h⟩
theorem While_st {L : Addr} {test : Expr} {pos : Pos} {m : Str → Option Value} {news : List (Addr × Obj)} (J : Nat → (Str → Option Value) → List (Addr × Obj) → Prop) {n₀ : Nat}
    (F : Fr h₀ L s.heap m) (N : News h₀ L s.heap news) (hJ : J n₀ m news)
    (turn : ∀ n m₁ news₁ h₁ tk₁, ∀ K, (∀ b s₂, (if b = true then wpAny (model prog w) A (execs body env) (WStep h₀ L s J n Q) E s₂ else Q .next s₂) → KQ K b s₂) → Fr h₀ L h₁ m₁ → News h₀ L h₁ news₁ → J n m₁ news₁ →
      wpAny (model prog w) A (isTrue test env (eval test env)) (KQ K) E { s with heap := h₁, toks := tk₁ })
    (hE : PassesOwn (model prog w) A env E := by passes_own) :
    Stop (wpAny (model prog w) A (exec (.While test body [] pos) env) Q E s) := by
  refine ⟨wpAny_While (codeAny_whileLoop (fun n s' => ∃ h₁ tk₁ m₁ news₁, s' = { s with heap := h₁, toks := tk₁ } ∧ Fr h₀ L h₁ m₁ ∧ News h₀ L h₁ news₁ ∧ J n m₁ news₁) ?_ n₀ ⟨s.heap, s.toks, m, news, rfl, F, N, hJ⟩)⟩
  rintro n s' ⟨h₁, tk₁, m₁, news₁, rfl, F₁, N₁, J₁⟩
  refine wpAny_mono (hideQ fun K hK => turn n m₁ news₁ h₁ tk₁ K hK F₁ N₁ J₁) (fun b s₂ h₂ => ?_) hE
  cases b with
  | false =>
    simp only [Bool.false_eq_true, if_false] at h₂ ⊢
    exact wpAny_execs_nil h₂
  | true =>
    simp only [if_true] at h₂ ⊢
    refine wpAny_mono h₂ (fun f s₃ h₃ => ?_) hE
    cases f with
    | ret v => exact h₃
    | brk => exact h₃
    | next => obtain ⟨h', tk, m₂, news₂, n', rfl, F₂, N₂, hn, J₂⟩ := h₃; exact ⟨n', hn, h', tk, m₂, news₂, rfl, F₂, N₂, J₂⟩
    | cont => obtain ⟨h', tk, m₂, news₂, n', rfl, F₂, N₂, hn, J₂⟩ := h₃; exact ⟨n', hn, h', tk, m₂, news₂, rfl, F₂, N₂, J₂⟩
end
end Mine
end
section
namespace Mine
theorem Has.of_map {m : Str → Option Value} : ∀ {bs : List (Str × Value)}, bs.map (fun b => m b.1) = bs.map (fun b => some b.2) → Has m bs
  | [], _ => trivial
  | _ :: _, h => ⟨(List.cons.inj h).1, Has.of_map (List.cons.inj h).2⟩
inductive JB (bs : Tok → List (Str × Value)) (m : Str → Option Value) (pre : List (Addr × Obj)) : Prop
  | mk (t : Tok) (h0 : pre = []) (h1 : Has m (bs t)) : JB bs m pre
inductive JV (v0 : Tok → Value) (bs : Tok → Tok → List (Str × Value)) (v : Value) (m : Str → Option Value) (pre : List (Addr × Obj)) : Prop
  | mk (t a b : Tok) (h0 : pre = []) (h1 : v = v0 t) (h2 : Has m (bs a b)) : JV v0 bs v m pre
inductive JD (ns : List Int) (bs : List (Str × Value)) (v : Value) (m : Str → Option Value) (pre : List (Addr × Obj)) : Prop
  | mk (D : Addr) (vs : List Value) (k : Nat) (h0 : v = .ref D) (h1 : pre = [(D, W.listOf vs.toArray k)]) (h2 : IntsAre vs ns) (h3 : Has m bs) : JD ns bs v m pre
inductive JC (ns : List Int) (bs : Addr → Tok → List (Str × Value)) (m : Str → Option Value) (pre : List (Addr × Obj)) : Prop
  | mk (D : Addr) (vs : List Value) (t : Tok) (k : Nat) (h0 : pre = [(D, W.listOf vs.toArray k)]) (h1 : IntsAre vs ns) (h2 : Has m (bs D t)) : JC ns bs m pre
end Mine
end
section
set_option maxHeartbeats 1000000
namespace Mine
section
variable {w : World} {A : Around} {s : Shared} {E : Value → Shared → Prop} {Q : Value → Shared → Prop} {mg mb : Str → Option Value}
theorem ksetCk1 : True := by
  k_with "TurnP" => (dsimp only [TurnP])
  k_with "call ref" => ((with_reducible show wpAny _ _ (call (Value.ref 109) _ _) _ _ _); refine' is_whole_spec (mg := mg) (mb := mb) ?k1 ?k2 ?k3 ?_; (case k1 => walk_at "p world"); (case k2 => walk_at "p world"); (case k3 => walk_at "p world"); walk_at "p after")
  trivial
theorem is_size_spec (R : Rm 2 A) (X : (KF w.params).In s.heap) (T : TR mg mb s.heap) {v : Int} {t : Tok} (h1 : -1000000 ≤ v) (h2 : v ≤ 1000000)
   (h : ∀ h' tk, s.heap.StaysIn h' → Q (.bool true) {s with heap := h', toks := tk}) : wpAny (model p0 w) A (call (.ref 320) [.int v t]) Q E s := by
  refine callF (binds := [("value", .int v t)]) R X T rfl (by k_is) (BindsTo.of_eq (by kernel_rfl)) (by kernel_rfl) rfl rfl rfl (by kernel_rfl) (fun L h₁ tk F N X T => ?_)
  repeat' (first | walk1 | (dsimp only; walk1))
  rename Fr _ _ _ _ => F9
  have e : (decide (-1073741823 ≤ v) && decide (v ≤ 1073741823)) = true := by rw [decide_eq_true (by omega), decide_eq_true (by omega)]; rfl
  rw [e]
  exact h _ _ F9.keep
theorem ksetCk2 : True := by
  k_with "call ref" => ((with_reducible show wpAny _ _ (call (Value.ref 320) _ _) _ _ _); refine' is_size_spec (mg := mg) (mb := mb) ?k1 ?k2 ?k3 ?k4 ?k5 ?_; (case k1 => walk_at "p world"); (case k2 => walk_at "p world"); (case k3 => walk_at "p world"); (case k4 => omega); (case k5 => omega); walk_at "p after")
  trivial
theorem check_sizes_spec (R : Rm 3 A) (X : (KF w.params).In s.heap) (T : TR mg mb s.heap) {ax : Addr} {vs : List Value} {ns : List Int} (hs : SeqAt s.heap ax vs) (hi : IntsAre vs ns) (hb : ∀ n ∈ ns, -1000000 ≤ n ∧ n ≤ 1000000)
   (h : ∀ h' tk, s.heap.StaysIn h' → Q .none {s with heap := h', toks := tk}) : wpAny (model p0 w) A (call (.ref 327) [.ref ax]) Q E s := by
  refine callF (binds := [("sizes", .ref ax)]) R X T rfl (by k_is) (BindsTo.of_eq (by kernel_rfl)) (by kernel_rfl) rfl rfl rfl (by kernel_rfl) (fun L h₁ tk F N X T => ?_)
  repeat' (first | walk1 | (dsimp only; walk1))
  refine For_st F ?_
  repeat' (first | walk1 | (dsimp only; walk1))
  refine turns_base (fun rest m news => news = [] ∧ ∃ ns, IntsAre rest ns ∧ ∀ n ∈ ns, -1000000 ≤ n ∧ n ≤ 1000000) hs F N ⟨rfl, ns, hi, hb⟩ ?_ ?_
  · rintro v rest m₁ news₁ h₁ tk₁ I ito kK hK ⟨rfl, ns, hi, hb⟩ hoff hc F N
    cases hi with | cons n t hi =>
    have h1 := (hb n (by simp)).1
    have h2 := (hb n (by simp)).2
    repeat' (first | walk1 | (dsimp only; walk1))
    rename Fr _ _ _ _ => F9; rename News _ _ _ _ => N9
    exact ⟨_, _, _, [], rfl, F9, N9, by simp, rfl, _, hi, fun n hn => hb n (by simp [hn])⟩
  · rintro h' tk m' news' F N ⟨rfl, _⟩
    repeat' (first | walk1 | (dsimp only; walk1))
    exact h _ _ F.keep
end
end Mine
end
section
set_option maxHeartbeats 1000000
namespace Mine
section
variable {w : World} {A : Around} {s : Shared} {E : Value → Shared → Prop} {Q : Value → Shared → Prop} {mg mb : Str → Option Value}
theorem ksetGv1 : True := by
  k_with "call builtin:isinstance" => ((with_reducible show wpAny _ _ (call (Value.builtin "isinstance") [Value.ref _, Value.type "tuple"]) _ _ _); k_dflt (refine' isi_tup ?k1 ?k2 ?_; (case k1 => k_asm); (case k2 => k_asm); k_whole))
  k_with "call ref" => ((with_reducible show wpAny _ _ (call (Value.ref 141) _ _) _ _ _); refine' check_math_char_spec (mg := mg) (mb := mb) ?k1 ?k2 ?k3 ?k4 ?k5 ?k6 ?k7 ?_; (case k1 => walk_at "p world"); (case k2 => walk_at "p world"); (case k3 => walk_at "p world"); (case k4 => omega); (case k5 => omega); (case k6 => omega); (case k7 => omega); walk_at "p after")
  k_with "call ref" => ((with_reducible show wpAny _ _ (call (Value.ref 176) _ _) _ _ _); (rename Fr _ _ _ _ => kF0); (rename FamAt _ _ _ _ _ _ _ _ _ => kf); refine' fam_font_spec (mg := mg) (mb := mb) ?k1 ?k2 ?k3 (FamAt.keeps kf (Fr.keep kF0)) ?k4 ?k5 ?k6 ?k7 ?k8 ?_; (case k1 => walk_at "p world"); (case k2 => walk_at "p world"); (case k3 => walk_at "p world"); (case k8 => k_asm); (case k4 => omega); (case k5 => omega); (case k6 => omega); (case k7 => omega); walk_at "p after")
  k_with "call ref" => ((with_reducible show wpAny _ _ (call (Value.ref 400) _ _) _ _ _); (rename Fr _ _ _ _ => kF0); (rename FontAt _ _ _ _ _ _ _ _ _ _ _ _ _ _ => kf); refine' font_height_spec (mg := mg) (mb := mb) ?k1 ?k2 ?k3 (FontAt.keeps kf (Fr.keep kF0)) ?_; (case k1 => walk_at "p world"); (case k2 => walk_at "p world"); (case k3 => walk_at "p world"); walk_at "p after")
  k_with "call ref" => ((with_reducible show wpAny _ _ (call (Value.ref 407) _ _) _ _ _); (rename Fr _ _ _ _ => kF0); (rename FontAt _ _ _ _ _ _ _ _ _ _ _ _ _ _ => kf); refine' font_depth_spec (mg := mg) (mb := mb) ?k1 ?k2 ?k3 (FontAt.keeps kf (Fr.keep kF0)) ?_; (case k1 => walk_at "p world"); (case k2 => walk_at "p world"); (case k3 => walk_at "p world"); walk_at "p after")
  k_with "call ref" => ((with_reducible show wpAny _ _ (call (Value.ref 428) _ _) _ _ _); (rename Fr _ _ _ _ => kF0); (rename FontAt _ _ _ _ _ _ _ _ _ _ _ _ _ _ => kf); refine' font_larger_spec (mg := mg) (mb := mb) ?k1 ?k2 ?k3 (FontAt.keeps kf (Fr.keep kF0)) ?_; (case k1 => walk_at "p world"); (case k2 => walk_at "p world"); (case k3 => walk_at "p world"); walk_at "p after")
  trivial
theorem font_has_t (R : Rm 1 A) (X : (KF w.params).In s.heap) (T : TR mg mb s.heap) {x : Addr} {num ax : Int} {rows : List Row} {dx : Addr} {es : List DictEntry} {n : Nat} {dc dp : Addr} {kvs : List (Int × Value)} {vs : List Value} {tn : Tok}
   (f : FontAt w s.heap x num rows ax dx es n dc dp kvs vs tn) {code : Int} {t : Tok} {r : Row} (hk : find rows code = some r)
   (h : ∀ h' tk, s.heap.StaysIn h' → Q (.bool true) {s with heap := h', toks := tk}) : wpAny (model p0 w) A (call (.ref 386) [.ref x, .int code t]) Q E s :=
  font_has_spec R X T f fun h' tk k => by rw [hk]; exact h h' tk k
theorem font_has_f (R : Rm 1 A) (X : (KF w.params).In s.heap) (T : TR mg mb s.heap) {x : Addr} {num ax : Int} {rows : List Row} {dx : Addr} {es : List DictEntry} {n : Nat} {dc dp : Addr} {kvs : List (Int × Value)} {vs : List Value} {tn : Tok}
   (f : FontAt w s.heap x num rows ax dx es n dc dp kvs vs tn) {code : Int} {t : Tok} (hk : find rows code = none)
   (h : ∀ h' tk, s.heap.StaysIn h' → Q (.bool false) {s with heap := h', toks := tk}) : wpAny (model p0 w) A (call (.ref 386) [.ref x, .int code t]) Q E s :=
  font_has_spec R X T f fun h' tk k => by rw [hk]; exact h h' tk k
noncomputable def Kd.isP : Kd → Bool
  | .pieces .. => true
  | _ => false
theorem font_pieces_t (R : Rm 1 A) (X : (KF w.params).In s.heap) (T : TR mg mb s.heap) {x : Addr} {num ax : Int} {rows : List Row} {dx : Addr} {es : List DictEntry} {n : Nat} {dc dp : Addr} {kvs : List (Int × Value)} {vs : List Value} {tn : Tok}
   (f : FontAt w s.heap x num rows ax dx es n dc dp kvs vs tn) {code a b c d : Int} {t : Tok} (hk : (rowD rows code).kd = .pieces a b c d)
   (h : ∀ h' tk, s.heap.StaysIn h' → ∀ va ws, IsTup s.heap va ws.toArray → IntsAre ws [a, b, c, d] → Q (.ref va) {s with heap := h', toks := tk}) : wpAny (model p0 w) A (call (.ref 435) [.ref x, .int code t]) Q E s :=
  font_pieces_spec R X T f fun h' tk k v hv => by
    rw [hk] at hv
    obtain ⟨va, ws, rfl, i1, i2⟩ := hv
    exact h h' tk k va ws i1 i2
theorem font_pieces_n (R : Rm 1 A) (X : (KF w.params).In s.heap) (T : TR mg mb s.heap) {x : Addr} {num ax : Int} {rows : List Row} {dx : Addr} {es : List DictEntry} {n : Nat} {dc dp : Addr} {kvs : List (Int × Value)} {vs : List Value} {tn : Tok}
   (f : FontAt w s.heap x num rows ax dx es n dc dp kvs vs tn) {code : Int} {t : Tok} (hk : (rowD rows code).kd.isP = false)
   (h : ∀ h' tk, s.heap.StaysIn h' → Q .none {s with heap := h', toks := tk}) : wpAny (model p0 w) A (call (.ref 435) [.ref x, .int code t]) Q E s :=
  font_pieces_spec R X T f fun h' tk k v hv => by
    revert hv hk
    cases (rowD rows code).kd with
    | plain => rintro _ rfl; exact h h' tk k
    | larger => rintro _ rfl; exact h h' tk k
    | pieces => intro q; cases q
theorem fam_has_t (R : Rm 2 A) (X : (KF w.params).In s.heap) (T : TR mg mb s.heap) {x dx dr : Addr} {es : List DictEntry} {n : Nat} {kvs : List (Int × Value)} {fs : List (Int × Fo)} (f : FamAt w s.heap x dx dr es n kvs fs) {fam size : Int} {t1 t2 : Tok} (h1 : 0 ≤ fam) (h2 : fam ≤ 15) (h3 : 0 ≤ size) (h4 : size ≤ 2)
   {fo : Fo} (hk : findF fs (fam * 3 + size) = some fo) (h : ∀ h' tk, s.heap.StaysIn h' → Q (.bool true) {s with heap := h', toks := tk}) : wpAny (model p0 w) A (call (.ref 169) [.ref x, .int fam t1, .int size t2]) Q E s :=
  fam_has_spec R X T f h1 h2 h3 h4 fun h' tk k => by rw [hk]; exact h h' tk k
theorem fam_has_f (R : Rm 2 A) (X : (KF w.params).In s.heap) (T : TR mg mb s.heap) {x dx dr : Addr} {es : List DictEntry} {n : Nat} {kvs : List (Int × Value)} {fs : List (Int × Fo)} (f : FamAt w s.heap x dx dr es n kvs fs) {fam size : Int} {t1 t2 : Tok} (h1 : 0 ≤ fam) (h2 : fam ≤ 15) (h3 : 0 ≤ size) (h4 : size ≤ 2)
   (hk : findF fs (fam * 3 + size) = none) (h : ∀ h' tk, s.heap.StaysIn h' → Q (.bool false) {s with heap := h', toks := tk}) : wpAny (model p0 w) A (call (.ref 169) [.ref x, .int fam t1, .int size t2]) Q E s :=
  fam_has_spec R X T f h1 h2 h3 h4 fun h' tk k => by rw [hk]; exact h h' tk k
theorem ksetGv2 : True := by
  k_with "call ref" => ((with_reducible show wpAny _ _ (call (Value.ref 386) _ _) _ _ _); (rename Fr _ _ _ _ => kF0); (rename FontAt _ _ _ _ _ _ _ _ _ _ _ _ _ _ => kf); refine' font_has_f (mg := mg) (mb := mb) ?k1 ?k2 ?k3 (FontAt.keeps kf (Fr.keep kF0)) ?k4 ?_; (case k1 => walk_at "p world"); (case k2 => walk_at "p world"); (case k3 => walk_at "p world"); (case k4 => k_asm); walk_at "p after")
  k_with "call ref" => ((with_reducible show wpAny _ _ (call (Value.ref 386) _ _) _ _ _); (rename Fr _ _ _ _ => kF0); (rename FontAt _ _ _ _ _ _ _ _ _ _ _ _ _ _ => kf); refine' font_has_t (mg := mg) (mb := mb) ?k1 ?k2 ?k3 (FontAt.keeps kf (Fr.keep kF0)) ?k4 ?_; (case k1 => walk_at "p world"); (case k2 => walk_at "p world"); (case k3 => walk_at "p world"); (case k4 => k_asm); walk_at "p after")
  k_with "call ref" => ((with_reducible show wpAny _ _ (call (Value.ref 435) _ _) _ _ _); (rename Fr _ _ _ _ => kF0); (rename FontAt _ _ _ _ _ _ _ _ _ _ _ _ _ _ => kf); refine' font_pieces_n (mg := mg) (mb := mb) ?k1 ?k2 ?k3 (FontAt.keeps kf (Fr.keep kF0)) ?k4 ?_; (case k1 => walk_at "p world"); (case k2 => walk_at "p world"); (case k3 => walk_at "p world"); (case k4 => k_asm); walk_at "p after")
  k_with "call ref" => ((with_reducible show wpAny _ _ (call (Value.ref 435) _ _) _ _ _); (rename Fr _ _ _ _ => kF0); (rename FontAt _ _ _ _ _ _ _ _ _ _ _ _ _ _ => kf); refine' font_pieces_t (mg := mg) (mb := mb) ?k1 ?k2 ?k3 (FontAt.keeps kf (Fr.keep kF0)) ?k4 ?_; (case k1 => walk_at "p world"); (case k2 => walk_at "p world"); (case k3 => walk_at "p world"); (case k4 => k_asm); walk_at "p after")
  k_with "call ref" => ((with_reducible show wpAny _ _ (call (Value.ref 169) _ _) _ _ _); (rename Fr _ _ _ _ => kF0); (rename FamAt _ _ _ _ _ _ _ _ _ => kf); refine' fam_has_f (mg := mg) (mb := mb) ?k1 ?k2 ?k3 (FamAt.keeps kf (Fr.keep kF0)) ?k4 ?k5 ?k6 ?k7 ?k8 ?_; (case k1 => walk_at "p world"); (case k2 => walk_at "p world"); (case k3 => walk_at "p world"); (case k8 => k_asm); (case k4 => omega); (case k5 => omega); (case k6 => omega); (case k7 => omega); walk_at "p after")
  k_with "call ref" => ((with_reducible show wpAny _ _ (call (Value.ref 169) _ _) _ _ _); (rename Fr _ _ _ _ => kF0); (rename FamAt _ _ _ _ _ _ _ _ _ => kf); refine' fam_has_t (mg := mg) (mb := mb) ?k1 ?k2 ?k3 (FamAt.keeps kf (Fr.keep kF0)) ?k4 ?k5 ?k6 ?k7 ?k8 ?_; (case k1 => walk_at "p world"); (case k2 => walk_at "p world"); (case k3 => walk_at "p world"); (case k8 => k_asm); (case k4 => omega); (case k5 => omega); (case k6 => omega); (case k7 => omega); walk_at "p after")
  trivial
theorem check_delimiter_spec (R : Rm 3 A) (X : (KF w.params).In s.heap) (T : TR mg mb s.heap) {da : Addr} {d0 d1 d2 d3 : Int} {t0 t1 t2 t3 : Tok} (hd : IsTup s.heap da #[.int d0 t0, .int d1 t1, .int d2 t2, .int d3 t3])
   (h0 : 0 ≤ d0) (h0' : d0 ≤ 15) (h1 : 0 ≤ d1) (h1' : d1 ≤ 255) (h2 : 0 ≤ d2) (h2' : d2 ≤ 15) (h3 : 0 ≤ d3) (h3' : d3 ≤ 255)
   (h : ∀ h' tk, s.heap.StaysIn h' → Q (.ref da) {s with heap := h', toks := tk}) : wpAny (model p0 w) A (call (.ref 148) [.ref da]) Q E s := by
  refine callF (binds := [("delimiter", .ref da)]) R X T rfl (by k_is) (BindsTo.of_eq (by kernel_rfl)) (by kernel_rfl) rfl rfl rfl (by kernel_rfl) (fun L h₁ tk F N X T => ?_)
  repeat' (first | walk1 | (dsimp only; walk1))
  · rename (Array.size _ : Int) ≠ 4 => a
    exact absurd (by simp) a
  · rename Fr _ _ _ _ => F9
    exact h _ _ F9.keep
noncomputable def chain (rows : List Row) : Nat → Int → List Row
  | 0, _ => []
  | n + 1, c => match find rows c with
    | none => []
    | some r => r :: (match r.kd with
      | .larger c' => chain rows n c'
      | _ => [])
noncomputable def chainF (rows : List Row) (c : Int) : List Row := chain rows 20 c
structure WFr (rows : List Row) : Prop where
  lo : ∀ r ∈ rows, 0 ≤ r.code
  up : ∀ r ∈ rows, ∀ c, r.kd = .larger c → r.code < c ∧ c ≤ 10
theorem find_mem {rows : List Row} {c : Int} {r : Row} (h : find rows c = some r) : r ∈ rows ∧ r.code = c := by
  have h1 := List.mem_of_find?_eq_some h
  have h2 := List.find?_some h
  exact ⟨h1, by simpa using h2⟩
theorem chain_same {rows : List Row} (W : WFr rows) : ∀ (n m : Nat) (c : Int), 0 ≤ c → 11 ≤ c + n → 11 ≤ c + m → 1 ≤ n → 1 ≤ m → chain rows n c = chain rows m c := by
  intro n
  induction n with
  | zero => intro m c _ _ _ h; omega
  | succ n ih =>
    intro m c h0 h1 h2 _ h4
    obtain ⟨m, rfl⟩ : ∃ k, m = k + 1 := ⟨m - 1, by omega⟩
    unfold chain
    cases e : find rows c with
    | none => rfl
    | some r =>
      obtain ⟨hm, hc⟩ := find_mem e
      refine congrArg (List.cons r) ?_
      cases k : r.kd with
      | larger c' =>
        have := W.up r hm c' k
        dsimp only
        exact ih m c' (by omega) (by omega) (by omega) (by omega) (by omega)
      | plain => rfl
      | pieces => rfl
theorem chainF_none {rows : List Row} {c : Int} (e : find rows c = none) : chainF rows c = [] := by
  unfold chainF chain; rw [e]
theorem chainF_some {rows : List Row} (W : WFr rows) {c : Int} {r : Row} (e : find rows c = some r) : chainF rows c = r :: (match r.kd with | .larger c' => chainF rows c' | _ => []) := by
  unfold chainF
  rw [show (20 : Nat) = 19 + 1 from rfl, chain, e]
  refine congrArg (List.cons r) ?_
  obtain ⟨hm, hc⟩ := find_mem e
  have := W.lo r hm
  cases k : r.kd with
  | larger c' =>
    have := W.up r hm c' k
    dsimp only
    exact chain_same W _ _ c' (by omega) (by omega) (by omega) (by omega) (by omega)
  | plain => rfl
  | pieces => rfl
noncomputable def scan (high : Int) : List (Int × Row) → Option (Int × Row) → Int → Option (Int × Row)
  | [], best, _ => best
  | (p, r) :: rest, best, most => match r.kd with
    | .pieces .. => some (p, r)
    | _ => if most < r.ht + r.dp then (if high ≤ r.ht + r.dp then some (p, r) else scan high rest (some (p, r)) (r.ht + r.dp)) else scan high rest best most
noncomputable def lvls : Nat → List Int
  | 0 => []
  | n + 1 => (n : Int) :: lvls n
noncomputable def wayAt (fs : List (Int × Fo)) (f c lv : Int) : List (Int × Row) := match findF fs (f * 3 + lv) with
  | none => []
  | some fo => (chainF fo.rows c).map fun r => (f * 3 + lv, r)
noncomputable def waysL (fs : List (Int × Fo)) (f c : Int) (ls : List Int) : List (Int × Row) := ls.flatMap (wayAt fs f c)
noncomputable def ways1 (fs : List (Int × Fo)) (n : Nat) (f c : Int) : List (Int × Row) := if f = 0 ∧ c = 0 then [] else waysL fs f c (lvls n)
noncomputable def GrownV (kvs : List (Int × Value)) (best : Option (Int × Row)) (v : Value) (bn : List (Addr × Obj)) : Prop := match best with
  | none => v = .none ∧ bn = []
  | some (p, r) => ∃ (a : Addr) (fa : Addr) (t : Tok) (k : Nat), v = .ref a ∧ valueAt kvs p = some (.ref fa) ∧ bn = [(a, { cls := .type "tuple", data := .seq #[.ref fa, .int r.code t] k })]
end
end Mine
end
section
open Sem (wp)
open AutoSeq1 (wpAny_loadPart')
set_option maxHeartbeats 1000000
namespace Mine
section
variable {prog : Program} {w : World} {A : Around} {E : Value → Shared → Prop} {s : Shared}
theorem nextTup_item {it t : Addr} {i : Nat} {items : Array Value} {x : Value} {Q : Value → Shared → Prop} (hit : s.heap.IsTupleIter it t i) (ht : s.heap.IsTuple t items) (hx : items[i]? = some x)
    (hQ : ∀ h', h'.IsTupleIter it t (i + 1) → Heap.SameBut it s.heap h' → Q x { s with heap := h' }) : wpAny (model prog w) A (Builtin.SmallTypes.nextOf (.ref it)) Q E s := by
  obtain ⟨o, ho, hc, hd⟩ := id hit
  obtain ⟨ol, hol, _, nl, hdl⟩ := ht
  unfold Builtin.SmallTypes.nextOf
  refine wpAny_bind (wpAny_callSpecial?_slot (name := Str.ofString "__next__") hit.typeIs PySem.F.slot_tuple_iterator_next
    (wpAny_call_entry PySem.F.slot_tuple_iterator_next hit.typeIs PySem.F.entry_tuple_iterator_next ?_ (PySem.F.args_tuple_iterator_next_1 _)))
  show wpAny _ _ (field (.ref it) 0 >>= _) _ _ s
  refine wpAny_bind (wpAny_field ho hd (x := .ref t) rfl ?_)
  show wpAny _ _ (if (Value.ref t == Value.none) = true then _ else _) _ _ s
  rw [if_neg (show ¬ ((Value.ref t == Value.none) = true) from Bool.false_ne_true)]
  show wpAny _ _ (field (.ref it) 1 >>= _) _ _ s
  refine wpAny_bind (wpAny_field ho hd (x := .int i 0) rfl ?_)
  show wpAny _ _ (seqItems? (.ref t) >>= _) _ _ s
  refine wpAny_bind (wpAny_seqItems hol hdl ?_)
  simp only [Int.toNat_natCast, hx]
  refine wpAny_bind (wpAny_setField ho hd (by simp) (wpAny_pure ⟨x, rfl, wpAny_pure (hQ _ ?_ (Heap.SameBut.update ..))⟩))
  exact ⟨_, Heap.get?_update_self _ ho (Obj.isFreed_of_fields (Obj.data_mapFields hd _)), (Obj.cls_mapFields ..).trans hc, by
    rw [Obj.data_mapFields hd]; simp [rawInt]⟩
theorem nextTup_end {it t : Addr} {i : Nat} {items : Array Value} {Q : Value → Shared → Prop} (hh : A.handled = none) (hit : s.heap.IsTupleIter it t i) (ht : s.heap.IsTuple t items) (hx : items[i]? = none)
    (hE : ∀ h' e, Heap.ExtBut it s.heap h' → (∃ o, h'.get? e = some o ∧ o.cls = .type "StopIteration") → E (.ref e) { s with heap := h' }) : wpAny (model prog w) A (Builtin.SmallTypes.nextOf (.ref it)) Q E s := by
  obtain ⟨o, ho, hc, hd⟩ := id hit
  obtain ⟨ol, hol, _, nl, hdl⟩ := ht
  unfold Builtin.SmallTypes.nextOf
  refine wpAny_bind (wpAny_callSpecial?_slot (name := Str.ofString "__next__") hit.typeIs PySem.F.slot_tuple_iterator_next
    (wpAny_call_entry PySem.F.slot_tuple_iterator_next hit.typeIs PySem.F.entry_tuple_iterator_next ?_ (PySem.F.args_tuple_iterator_next_1 _)))
  show wpAny _ _ (field (.ref it) 0 >>= _) _ _ s
  refine wpAny_bind (wpAny_field ho hd (x := .ref t) rfl ?_)
  show wpAny _ _ (if (Value.ref t == Value.none) = true then _ else _) _ _ s
  rw [if_neg (show ¬ ((Value.ref t == Value.none) = true) from Bool.false_ne_true)]
  show wpAny _ _ (field (.ref it) 1 >>= _) _ _ s
  refine wpAny_bind (wpAny_field ho hd (x := .int i 0) rfl ?_)
  show wpAny _ _ (seqItems? (.ref t) >>= _) _ _ s
  refine wpAny_bind (wpAny_seqItems hol hdl ?_)
  simp only [Int.toNat_natCast, hx]
  refine wpAny_bind (wpAny_rule (wpAny_bind (wpAny_setField ho hd (by simp) ?_)))
  show wpAny _ _ (newExc (.type "StopIteration") [] >>= _) _ _ _
  refine wpAny_bind ?_
  simp only [newExc, newTuple]
  refine wpAny_bind (wpAny_newObj_type ?_ (by size_fits))
  refine wpAny_bind (m := firstArgMember _ _) (wpAny_of_eq (a := Value.none) (by first | rfl | (simp only [firstArgMember]; rfl)) ?_)
  refine wpAny_newObj_type ?_ (by size_fits)
  simp only [raiseNew]
  refine wpAny_bind (wpAny_handled ?_)
  first | rw [show A.in1.handled = none from hh] | rw [hh]
  refine wpAny_bind (wpAny_pure (wpAny_throw ?_))
  exact hE _ _ (((Heap.SameBut.update ..).extBut.push _).push _) ⟨_, Heap.get?_push_size _ rfl, rfl⟩
theorem drawsTup (hh : A.handled = none) (it l : Addr) (hne : l ≠ it) (items : Array Value) :
    Draws prog w A it [it, l] items.size (fun i v => items[i]? = some v) (fun i h => h.IsTupleIter it l i ∧ h.IsTuple l items) where
  live := fun _ _ st => let ⟨o, ho, _⟩ := st.1; ⟨o, ho⟩
  frame := fun _ _ _ st hk => ⟨st.1.at fun o e => hk it (by simp) o e, st.2.at fun o e => hk l (by simp) o e⟩
  item := fun i s Q E hi st hQ => by
    refine nextTup_item st.1 st.2 (x := items[i]) (by simp [hi]) fun h' hit' hs' => ?_
    exact hQ _ h' s.toks (by simp [hi]) ⟨hit', st.2.extBut hs'.extBut hne⟩ hs'
  done := fun s Q E st hE => nextTup_end hh st.1 st.2 (by simp) hE
theorem meets_enumTup (l : Addr) (items : Array Value) (n : Nat) (dct : Option Addr) (sl : Array (Option Value)) :
    Meets (Builtin.«enumerate.__new__» ⟨[.type "enumerate", .ref l], []⟩) (fun _ R s => s.heap.get? l = some { cls := .type "tuple", dict := dct, data := .seq items n, slots := sl } ∧
      R (.ok (.ret (.ref (s.heap.push { cls := .type "tuple_iterator", data := .fields #[.ref l, .int 0 0] }).objs.size)))
        { s with heap := (s.heap.push { cls := .type "tuple_iterator", data := .fields #[.ref l, .int 0 0] }).push { cls := .type "enumerate", data := .fields #[.none, .bool false, .ref s.heap.objs.size, rawInt 0, .none, .none] } }) :=
  .of_wp fun prog w A R s h => by
    obtain ⟨hp, g, d, tk, os⟩ := s; obtain ⟨hl, h⟩ := h
    have hsub := sub_enumerate
    have hL : Heap.IsTuple (Shared.heap ⟨hp, g, d, tk, os⟩) l items := ⟨_, hl, rfl, n, rfl⟩
    wp_walk using wpAny_loadPart' hl
    refine wpAny_stack_any fun st => wpAny_pure ?_
    split
    · rename_i c _ _ _ _ _
      cases (c == Value.type "enumerate")
      · wp_walk using wpAny_loadPart' hl, wpAny_pyIter_tuple hL
        exact ⟨_, rfl, h⟩
      · wp_walk using wpAny_loadPart' hl, wpAny_pyIter_tuple hL
        exact ⟨_, rfl, h⟩
    · wp_walk using wpAny_loadPart' hl, wpAny_pyIter_tuple hL
      exact ⟨_, rfl, h⟩
theorem call_enumTup {l : Addr} {items : Array Value} {Q : Value → Shared → Prop} (hL : s.heap.IsTuple l items)
    (h : ∀ h', IsEnum h' (s.heap.objs.size + 1) s.heap.objs.size 0 .none → h'.IsTupleIter s.heap.objs.size l 0 → h'.objs.size = s.heap.objs.size + 2 →
      (∀ b o, s.heap.get? b = some o → h'.get? b = some o) → Q (.ref (s.heap.objs.size + 1)) { s with heap := h' }) :
    wpAny (model prog w) A (call (.type "enumerate") [.ref l]) Q E s := by
  obtain ⟨⟨c, dct, dt, sl⟩, hl, hc, n, hd⟩ := hL
  replace hc : c = .type "tuple" := hc
  replace hd : dt = .seq items n := hd
  subst hc hd
  refine callType_new PySem.F.called_enumerate (by decide) (PySem.F.typeCall_enumerate_1 _) (PySem.F.newCall_enumerate_1 _) (fun obj => PySem.F.args_object_init_2 obj _) PySem.F.entry_enumerate_new
    (meets_enumTup l items n dct sl) ⟨hl, ?_⟩
  have hz : (s.heap.push { cls := .type "tuple_iterator", data := .fields #[.ref l, .int 0 0] }).objs.size = s.heap.objs.size + 1 := Heap.size_push ..
  show _ ∧ _
  rw [hz]
  have he : IsEnum ((s.heap.push { cls := .type "tuple_iterator", data := .fields #[.ref l, .int 0 0] }).push
      { cls := .type "enumerate", data := .fields #[.none, .bool false, .ref s.heap.objs.size, rawInt 0, .none, .none] }) (s.heap.objs.size + 1) s.heap.objs.size 0 .none := by
    have := Heap.get?_push_size (s.heap.push { cls := .type "tuple_iterator", data := .fields #[.ref l, .int 0 0] })
      (o := { cls := .type "enumerate", data := .fields #[.none, .bool false, .ref s.heap.objs.size, rawInt 0, .none, .none] }) rfl
    rw [hz] at this; exact this
  refine ⟨⟨_, he, rfl⟩, h _ he ⟨_, Heap.get?_push_of_some _ (Heap.get?_push_size _ rfl), rfl, rfl⟩ (by rw [Heap.size_push, hz]) fun b o x => Heap.get?_push_of_some _ (Heap.get?_push_of_some _ x)⟩
end
inductive TurnEs (h₀ : Heap) (L : Addr) (its : List (Addr × Obj)) (Jn : (Str → Option Value) → List (Addr × Obj) → Prop) (s₁ s₂ : Shared) : Prop
  | mk (h' : _)(tk : _)(m' : _)(news' : _) (h0 : s₂ = { s₁ with heap := h', toks := tk }) (h1 : Fr h₀ L h' m') (h2 : News h₀ L h' (its ++ news')) (h3 : (∀ p ∈ news', ∀ q ∈ its, p.1 ≠ q.1)) (h4 : Jn m' news') : TurnEs h₀ L its Jn s₁ s₂
noncomputable def TurnPs (h₀ : Heap) (L : Addr) (its : List (Addr × Obj)) (Jn : (Str → Option Value) → List (Addr × Obj) → Prop) (s₁ : Shared) (Q : Flow → Shared → Prop) (f : Flow) (s₂ : Shared) : Prop :=
  match f with
  | .ret v => Q (.ret v) s₂
  | .brk => Q .next s₂
  | _ => TurnEs h₀ L its Jn s₁ s₂
section
variable {prog : Program} {w : World} {A : Around} {E : Value → Shared → Prop} {s : Shared} {env : Env} {h₀ : Heap} {target : Expr} {body : List Stmt} {Q : Flow → Shared → Prop}
theorem turns_coreS {I : Addr} {fp wr : List Addr} {n : Nat} {P Md : Nat → Value → Heap → Prop} {St : Nat → Heap → Prop} {m : Str → Option Value} {news : List (Addr × Obj)} (J : Nat → (Str → Option Value) → List (Addr × Obj) → Prop)
    (W : KTurns prog w A target I fp wr n P Md St) (hLf : env.locals ∉ fp) (hI0 : ∀ b ∈ wr, h₀.get? b = none) (hob : ∀ i h, St i h → ∃ its : List (Addr × Obj), its.map (·.1) = wr ∧ ∀ p ∈ its, h.get? p.1 = some p.2 ∧ ItrC p.2)
    (hax : ∀ b ∈ fp, b ∉ wr → ∃ o, ∀ i m news h, J i m news → Fr h₀ env.locals h m → News h₀ env.locals h news → h.get? b = some o)
    (hnI : ∀ p ∈ news, p.1 ∉ wr) (hst : St 0 s.heap) (F : Fr h₀ env.locals s.heap m) (N : News h₀ env.locals s.heap news) (h0 : J 0 m news)
    (turn : ∀ i v m₁ news₁ h₁ tk₁ its, ∀ K, (∀ f z, TurnPs h₀ env.locals its (J (i + 1)) { s with heap := h₁, toks := tk₁ } Q f z → KQ K f z) → its.map (·.1) = wr → (∀ p ∈ its, ItrC p.2) → i < n → P i v h₁ → J i m₁ news₁ → (∀ p ∈ news₁, p.1 ∉ wr) → Fr h₀ env.locals h₁ m₁ → News h₀ env.locals h₁ (its ++ news₁) →
      wpAny (model prog w) A (assign target env v) (fun _ s₃ => wpAny (model prog w) A (execs body env) (KQ K) E s₃) E { s with heap := h₁, toks := tk₁ })
    (done : ∀ h' tk m' news', Fr h₀ env.locals h' m' → News h₀ env.locals h' news' → J n m' news' → Q .next { s with heap := h', toks := tk }) :
    TurnsAt prog w A h₀ env target body Q E (.ref I) s := by
  refine ⟨I, fp, wr, n, P, Md, St, m, news, J, rfl, W, hLf, hI0, hnI, hst, F, N, h0, ?_, fun h' tk m' news' F' N' _ hJ => done h' tk m' news' F' N' hJ⟩
  intro i v m₁ news₁ h₁ tk₁ own hin hP hJ hoff hown hget hall hst' F₁ N₁
  obtain ⟨its, hwr, hits⟩ := hob _ _ hst'
  have hmem : ∀ p ∈ its, p.1 ∈ wr := fun p hp => hwr ▸ List.mem_map_of_mem hp
  have hio : ∀ p ∈ its, p ∈ own := fun p hp => hall p.1 (W.sub _ (hmem p hp)) (hI0 _ (hmem p hp)) p.2 (hits p hp).1
  have N₂ : News h₀ env.locals h₁ (its ++ news₁) := fun p hp => by
    rcases List.mem_append.mp hp with hp | hp
    · exact N₁ _ (List.mem_append_left _ (hio p hp))
    · exact N₁ _ (List.mem_append_right _ hp)
  refine wpAny_mono (turn i v m₁ news₁ h₁ tk₁ its _ (fun _ _ p => ⟨p⟩) hwr (fun p hp => (hits p hp).2) hin hP hJ hoff F₁ N₂) (fun _ s₃ x => wpAny_mono x (fun f s₄ y => ?_) fun _ _ e => e) fun _ _ e => e
  replace y := y.go
  have fin : TurnEs h₀ env.locals its (J (i + 1)) { s with heap := h₁, toks := tk₁ } s₄ → LoopStepU h₀ env.locals wr own (J (i + 1)) { s with heap := h₁, toks := tk₁ } .next s₄ := by
    rintro ⟨h', tk, m', news', e, F', N', ho, r⟩
    refine ⟨rfl, h', tk, m', news', e, F', fun p hp => ?_, fun p hp q => ?_, r⟩
    · rcases List.mem_append.mp hp with hp | hp
      · by_cases e1 : p.1 ∈ wr
        · rw [← hwr] at e1
          obtain ⟨q, hq, e2⟩ := List.mem_map.mp e1
          have h2 := hget p hp
          have h3 : p = q := Prod.ext e2.symm (by rw [← e2, (hits q hq).1] at h2; exact (Option.some.inj h2).symm)
          rw [h3]; exact N' _ (List.mem_append_left _ hq)
        · obtain ⟨o, hkeep⟩ := hax p.1 (hown p hp) e1
          have a1 := hkeep i m₁ news₁ h₁ hJ F₁ N₁.right
          have a2 := hkeep (i + 1) m' news' h' r F' fun p hp => N' p (List.mem_append_right _ hp)
          have a3 := N₁ p (List.mem_append_left _ hp)
          refine ⟨?_, a3.2⟩
          rw [a2, ← a1]; exact a3.1
      · exact N' _ (List.mem_append_right _ hp)
    · rw [← hwr] at q
      obtain ⟨x, hx, e2⟩ := List.mem_map.mp q
      exact ho p hp x hx e2.symm
  cases f with
  | ret v => exact y
  | brk => exact y
  | next => exact fin y
  | cont => exact fin y
theorem enum_tup {L : Addr} {elts : List Expr} {k : Nat} {pos : Pos} {l : Addr} {items : List Value} {m : Str → Option Value} {news : List (Addr × Obj)} (J : Nat → (Str → Option Value) → List (Addr × Obj) → Prop)
    (hs : IsTup h₀ l items.toArray) (F : Fr h₀ L s.heap m) (N : News h₀ L s.heap news) (h0 : J 0 m news)
    (turn : ∀ (i : Nat) T t x m₁ news₁ h₁ tk₁ its, ∀ K, (∀ f z, TurnPs h₀ L its (J (i + 1)) { s with heap := h₁, toks := tk₁ } Q f z → KQ K f z) → (∀ p ∈ its, ItrC p.2) → items[i]? = some x → IsTup h₁ T #[.int i t, x] → J i m₁ news₁ → (∀ p ∈ news₁, ∀ q ∈ its, p.1 ≠ q.1) → Fr h₀ L h₁ m₁ → News h₀ L h₁ (its ++ news₁) →
      wpAny (model prog w) A (assign (.Tuple elts k pos) env (.ref T)) (fun _ s₃ => wpAny (model prog w) A (execs body env) (KQ K) E s₃) E { s with heap := h₁, toks := tk₁ })
    (done : ∀ h' tk m' news', Fr h₀ L h' m' → News h₀ L h' news' → J items.length m' news' → Q .next { s with heap := h', toks := tk })
    (hh : A.handled = none := by rfl) (hL : env.locals = L := by rfl) :
    wpAny (model prog w) A (call (.type "enumerate") [.ref l]) (fun xv s₁ => Stop (wpAny (model prog w) A (pyIter xv) (fun it s₂ => TurnsAt prog w A h₀ env (.Tuple elts k pos) body Q E it s₂) E s₁)) E s := by
  subst hL
  have hl : s.heap.IsTuple l items.toArray := F.tup hs
  have hlt : l < s.heap.objs.size := by obtain ⟨o, ho, _⟩ := hl; exact Heap.lt_size ho
  have hLs : env.locals < s.heap.objs.size := F.ns.lt
  obtain ⟨ol, hol, _⟩ := id hs
  refine call_enumTup hl fun h' hE hI hsz hk => ⟨wpAny_pyIter_enum hE ?_⟩
  have hne1 : l ≠ s.heap.objs.size := Nat.ne_of_lt hlt
  have hne2 : l ≠ s.heap.objs.size + 1 := Nat.ne_of_lt (Nat.lt_succ_of_lt hlt)
  have W := KTurns.ofWalksU (elts := elts) (k := k) (pos := pos) (WalksT.enumerateD (prog := prog) (w := w) (A := A) (drawsTup (prog := prog) (w := w) (A := A.in1) (show A.in1.handled = none from hh) s.heap.objs.size l hne1 items.toArray) (s.heap.objs.size + 1) (Nat.succ_ne_self _) (by simp only [List.mem_cons, List.not_mem_nil, or_false]; rintro (e | e); exact Nat.succ_ne_self _ e; exact hne2 e.symm) (by simp)).toU
  refine turns_coreS J W ?lf ?i0 ?ob ?ax ?ni ⟨⟨_, hE⟩, hI, hl.at fun o e => hk _ _ e⟩ (F.keeps hk) (N.grown hk) h0 ?turn (fun h' tk m' news' F' N' hJ => done h' tk m' news' F' N' (by simpa using hJ))
  case lf =>
    simp only [List.mem_cons, List.not_mem_nil, or_false]
    rintro (e | e | e)
    · exact ktu_ne 1 hLs e
    · exact Nat.ne_of_lt hLs e
    · exact absurd (Heap.lt_size hol) (Nat.not_lt.mpr (e ▸ F.above))
  case i0 =>
    intro b hb
    simp only [List.mem_cons, List.not_mem_nil, or_false] at hb
    rcases hb with rfl | rfl
    · exact ktu_new F (Nat.le_add_right _ _)
    · exact ktu_new F (Nat.le_refl _)
  case ob =>
    rintro i h ⟨⟨old, he⟩, ⟨oi, hoi, hic, _⟩, _⟩
    obtain ⟨oe, he, hec⟩ : ∃ oe : Obj, h.get? (s.heap.objs.size + 1) = some oe ∧ ItrC oe := ⟨_, he, ItrC.of rfl (by decide)⟩
    refine ⟨[(s.heap.objs.size + 1, oe), (s.heap.objs.size, oi)], rfl, fun p hp => ?_⟩
    rcases List.mem_cons.mp hp with rfl | hp
    · exact ⟨he, hec⟩
    · rw [List.mem_singleton.mp hp]; exact ⟨hoi, ItrC.of hic (by decide)⟩
  case ax =>
    intro b hb hbw
    simp only [List.mem_cons, List.not_mem_nil, or_false] at hb hbw
    rcases hb with e | e | e
    · exact absurd (.inl e) hbw
    · exact absurd (.inr e) hbw
    · exact ⟨ol, fun i m news h _ F _ => F.keep _ _ (e ▸ hol)⟩
  case ni =>
    intro p hp hI'
    simp only [List.mem_cons, List.not_mem_nil, or_false] at hI'
    have hlp := Heap.lt_size (N p hp).1
    rcases hI' with e | e
    · exact ktu_ne 1 hlp e
    · exact Nat.ne_of_lt hlp e
  case turn =>
    rintro i v m₁ news₁ h₁ tk₁ its K hK hwr hc hi ⟨T, vals, rfl, ⟨t, x, hx, rfl⟩, hT⟩ hJ hoff F₁ N₁
    exact turn i T t x m₁ news₁ h₁ tk₁ its K hK hc (by simpa using hx) hT hJ (fun p hp q hq e => hoff p hp (hwr ▸ e ▸ List.mem_map_of_mem hq)) F₁ N₁
end
end Mine
end
section
set_option maxHeartbeats 1000000
namespace Mine
section
variable {w : World} {A : Around} {s : Shared} {E : Value → Shared → Prop} {Q : Value → Shared → Prop} {mg mb : Str → Option Value}
theorem ksetCp1 : True := by
  k_with "WStep" => (dsimp only [WStep])
  k_with "call type:enumerate" => (refine' stop_here ?_)
  k_with "TurnPs" => (dsimp only [TurnPs])
  k_with "call ref" => ((with_reducible show wpAny _ _ (call (Value.ref 109) _ _) _ _ _); refine' is_whole_spec (mg := mg) (mb := mb) ?k1 ?k2 ?k3 ?_; (case k1 => walk_at "p world"); (case k2 => walk_at "p world"); (case k3 => walk_at "p world"); walk_at "p after")
  trivial
theorem check_pieces_spec (R : Rm 3 A) (X : (KF w.params).In s.heap) (T : TR mg mb s.heap) {pa dc : Addr} {vs : List Value} {a b c d : Int} (hp : IsTup s.heap pa vs.toArray) (hi : IntsAre vs [a, b, c, d]) {kvs : List (Int × Value)} (hd : s.heap.DictOf (intKind p0 w) dc kvs) (hds : (dc == sysModules) = false)
   (ha : 0 ≤ a ∧ a ≤ 255 ∧ (a ≠ 0 → (valueAt kvs a).isSome = true)) (hb : 0 ≤ b ∧ b ≤ 255 ∧ (b ≠ 0 → (valueAt kvs b).isSome = true)) (hc' : 0 ≤ c ∧ c ≤ 255 ∧ (c ≠ 0 → (valueAt kvs c).isSome = true)) (hdd : 0 ≤ d ∧ d ≤ 255 ∧ (valueAt kvs d).isSome = true)
   (h : ∀ h' tk, s.heap.StaysIn h' → Q .none {s with heap := h', toks := tk}) : wpAny (model p0 w) A (call (.ref 334) [.ref pa, .ref dc]) Q E s := by
  refine callF (binds := [("pieces", .ref pa), ("chars", .ref dc)]) R X T rfl (by k_is) (BindsTo.of_eq (by kernel_rfl)) (by kernel_rfl) rfl rfl rfl (by kernel_rfl) (fun L h₁ tk F N X T => ?_)
  cases hi with | cons _ ta hi => cases hi with | cons _ tb hi => cases hi with | cons _ tc hi => cases hi with | cons _ td hi => cases hi with | nil =>
  repeat' (first | walk1 | (dsimp only; walk1))
  · rename (Array.size _ : Int) ≠ 4 => a9
    exact absurd (by simp) a9
  rename Fr _ _ _ _ => F8; rename News _ _ _ _ => N8
  refine For_st F8 ?_
  repeat' (first | walk1 | (dsimp only; walk1))
  rename Fr _ _ _ _ => F7; rename News _ _ _ _ => N7
  refine ⟨enum_tup (fun i m news => news = [] ∧ Has m [("chars", .ref dc)]) hp F7 N7 ⟨rfl, rfl, trivial⟩ ?_ ?_⟩
  · rintro i T t x m₁ news₁ h₁ tk₁ its kK hK hc hx hT ⟨rfl, H⟩ hoff F N
    replace F := frOf F H
    have hx : ∃ z tz, x = .int z tz ∧ 0 ≤ z ∧ z ≤ 255 ∧ ((z ≠ 0 ∨ i = 3) → (valueAt kvs z).isSome = true) := by
      match i, hx with
      | 0, hx => cases hx; exact ⟨_, _, rfl, ha.1, ha.2.1, fun q => ha.2.2 (by omega)⟩
      | 1, hx => cases hx; exact ⟨_, _, rfl, hb.1, hb.2.1, fun q => hb.2.2 (by omega)⟩
      | 2, hx => cases hx; exact ⟨_, _, rfl, hc'.1, hc'.2.1, fun q => hc'.2.2 (by omega)⟩
      | 3, hx => cases hx; exact ⟨_, _, rfl, hdd.1, hdd.2.1, fun q => hdd.2.2⟩
      | n + 4, hx => cases hx
    obtain ⟨z, tz, rfl, hz1, hz2, hz3⟩ := hx
    repeat' (first | walk1 | (dsimp only; walk1))
    · rename Fr _ _ _ _ => F6; rename News _ _ _ _ => N6
      exact ⟨_, _, _, [], rfl, F6, N6, by simp, rfl, rfl, trivial⟩
    · rename (valueAt kvs z).isSome = false => q1
      rename z ≠ 0 => q2
      exact absurd (hz3 (.inl q2)) (by rw [q1]; decide)
    · rename (valueAt kvs z).isSome = false => q1
      rename (_ : Int) = 3 => q2
      exact absurd (hz3 (.inr (by omega))) (by rw [q1]; decide)
    · rename Fr _ _ _ _ => F6; rename News _ _ _ _ => N6
      exact ⟨_, _, _, [], rfl, F6, N6, by simp, rfl, rfl, trivial⟩
  · rintro h' tk m' news' F N ⟨rfl, _⟩
    repeat' (first | walk1 | (dsimp only; walk1))
    exact h _ _ F.keep
end
end Mine
end
section
set_option maxHeartbeats 1000000
namespace Mine
section
variable {w : World} {A : Around} {s : Shared} {E : Value → Shared → Prop} {Q : Value → Shared → Prop} {mg mb : Str → Option Value}
theorem check_program_spec (R : Rm 3 A) (X : (KF w.params).In s.heap) (T : TR mg mb s.heap) {pa ka dc : Addr} (hp : IsTup s.heap pa #[]) {t : Tok}
   (h : ∀ h' tk, s.heap.StaysIn h' → Q .none {s with heap := h', toks := tk}) : wpAny (model p0 w) A (call (.ref 355) [.ref pa, .ref ka, .ref dc, .int 256 t]) Q E s := by
  refine callF (binds := [("program", .ref pa), ("kerns", .ref ka), ("chars", .ref dc), ("boundary", .int 256 t)]) R X T rfl (by k_is) (BindsTo.of_eq (by kernel_rfl)) (by kernel_rfl) rfl rfl rfl (by kernel_rfl) (fun L h₁ tk F N X T => ?_)
  repeat' (first | walk1 | (dsimp only; walk1))
  rename Fr _ _ _ _ => F8; rename News _ _ _ _ => N8
  refine For_st F8 ?_
  repeat' (first | walk1 | (dsimp only; walk1))
  rename Fr _ _ _ _ => F7; rename News _ _ _ _ => N7
  refine ⟨enum_tup (items := []) (fun i m news => news = []) hp F7 N7 rfl ?_ ?_⟩
  · rintro i T t x m₁ news₁ h₁ tk₁ its kK hK hc hx
    simp at hx
  · rintro h' tk m' news' F N rfl
    repeat' (first | walk1 | (dsimp only; walk1))
    exact h _ _ F.keep
theorem left_start_spec (R : Rm 3 A) (X : (KF w.params).In s.heap) (T : TR mg mb s.heap) {pa : Addr} (hp : IsTup s.heap pa #[])
   (h : ∀ h' tk, s.heap.StaysIn h' → ∀ t, Q (.int (-1) t) {s with heap := h', toks := tk}) : wpAny (model p0 w) A (call (.ref 362) [.ref pa]) Q E s := by
  refine callF (binds := [("program", .ref pa)]) R X T rfl (by k_is) (BindsTo.of_eq (by kernel_rfl)) (by kernel_rfl) rfl rfl rfl (by kernel_rfl) (fun L h₁ tk F N X T => ?_)
  repeat' (first | walk1 | (dsimp only; walk1))
  rename Fr _ _ _ _ => F9
  exact h _ _ F9.keep _
theorem font_name_spec (R : Rm 3 A) (X : (KF w.params).In s.heap) (T : TR mg mb s.heap) {v : Int} {t : Tok} (h1 : 1 ≤ v) (h2 : v ≤ 25)
   (h : ∀ h' tk, s.heap.StaysIn h' → ∀ (x : Str) t, x ≠ Str.ofString "" → Q (.str x t) {s with heap := h', toks := tk}) : wpAny (model p0 w) A (call (.ref 463) [.int v t]) Q E s := by
  refine callF (binds := [("number", .int v t)]) R X T rfl (by k_is) (BindsTo.of_eq (by kernel_rfl)) (by kernel_rfl) rfl rfl rfl (by kernel_rfl) (fun L h₁ tk F N X T => ?_)
  repeat' (first | walk1 | (dsimp only; walk1))
  rename Fr _ _ _ _ => F8; rename News _ _ _ _ => N8
  generalize hx : Txt.item (Str.ofString "abcdefghjklmnopqrstuvwxyz") ((v - 1).fmod 25) = x at *
  refine While_st (fun _ m news => news = [] ∧ Has m [("left", .int (v - 1) _), ("found", .str x _)]) (n₀ := 0) F8 N8 ⟨rfl, rfl, rfl, trivial⟩ ?_
  rintro n m₁ news₁ h₁ tk₁ kK hK F N ⟨rfl, H⟩
  replace F := frOf F H
  repeat' (first | walk1 | (dsimp only; walk1))
  rename Fr _ _ _ _ => F7
  rename (_ + _ ≤ Str.length _ ∧ _) => hl
  refine h _ _ F7.keep _ _ (fun e => ?_)
  rw [e] at hl
  have h9 : (Str.ofString "f").length = 1 := by decide
  have h8 : (Str.ofString "").length = 0 := by decide
  omega
end
end Mine
end
section
set_option maxHeartbeats 1000000
namespace Mine
theorem intKind_inv {p : Program} {w : World} {k : Int} {v : Value} (h : (intKind p w).is k v = true) : ∃ t, v = .int k t := by
  exact Value.isInt_shape h
section
variable {w : World} {A : Around} {E : Value → Shared → Prop} {s : Shared} {env : Env} {h₀ : Heap} {target : Expr} {body : List Stmt} {Q : Flow → Shared → Prop}
theorem turns_keys {L d : Addr} {od : Obj} {kvs : List (Int × Value)} {m : Str → Option Value} {news : List (Addr × Obj)} (J : List (Int × Value) → (Str → Option Value) → List (Addr × Obj) → Prop)
    (hds : (d == sysModules) = false) (hls : ∀ h : Heap, h.get? d = some od → h.DictOf (intKind p0 w) d kvs) (hLd : L ≠ d)
    (hax : ∀ rest m news h, J rest m news → Fr h₀ L h m → News h₀ L h news → h.get? d = some od)
    (F : Fr h₀ L s.heap m) (N : News h₀ L s.heap news) (h0 : J kvs m news)
    (turn : ∀ kv rest t m₁ news₁ h₁ tk₁ (I : Addr) ito, ∀ K, (∀ f z, TurnP h₀ L I ito (J rest) { s with heap := h₁, toks := tk₁ } Q f z → KQ K f z) → J (kv :: rest) m₁ news₁ → (∀ p ∈ news₁, p.1 ≠ I) → ItrC ito → Fr h₀ L h₁ m₁ → News h₀ L h₁ ((I, ito) :: news₁) →
      wpAny (model p0 w) A (assign target env (.int kv.1 t)) (fun _ s₃ => wpAny (model p0 w) A (execs body env) (KQ K) E s₃) E { s with heap := h₁, toks := tk₁ })
    (done : ∀ h' tk m' news', Fr h₀ L h' m' → News h₀ L h' news' → J [] m' news' → Q .next { s with heap := h', toks := tk })
    (hh : A.handled = none := by rfl) (hL : env.locals = L := by rfl) :
    Stop (wpAny (model p0 w) A (pyIter (.ref d)) (fun it s₂ => TurnsAt p0 w A h₀ env target body Q E it s₂) E s) := by
  subst hL
  refine ⟨?_⟩
  have h1 := hax _ _ _ _ h0 F N
  obtain ⟨ep, hat⟩ := (hls _ h1).dictAt
  have hne : d ≠ s.heap.objs.size := Nat.ne_of_lt hat.lt_size
  refine wpAny_pyIter_dict hds hat ?_
  refine turns_core (fun i => J (kvs.drop i)) (KTurns.ofWalks (Walks.dictKeys (knd := intKind p0 w) hh s.heap.objs.size d hne kvs ep) fun i v s Q E st q => letGo_keyiter st.1 q) (by simp) ?_ (next_is_new F) (fun i h st => ?_) ?_ (fun p hp => Nat.ne_of_lt (Heap.lt_size (N p hp).1)) ⟨⟨_, Heap.get?_push_size _ rfl, rfl, rfl⟩, hat.push _⟩ (F.push _)
    (fun p hp => ⟨Heap.get?_push_of_some _ (N p hp).1, (N p hp).2⟩) h0 ?_ ?_
  · intro q
    simp only [List.mem_cons, List.not_mem_nil, or_false] at q
    rcases q with q | q
    · exact absurd F.ns.lt (q ▸ Nat.lt_irrefl _)
    · exact hLd q
  · obtain ⟨it, hit, hc, _⟩ := st.1
    exact ⟨it, hit, ItrC.of hc (by decide)⟩
  · intro b hb hbI
    simp only [List.mem_cons, List.not_mem_nil, or_false] at hb
    rcases hb with hb | rfl
    · exact absurd hb hbI
    · exact ⟨od, fun i m news h j F N => hax _ _ _ _ j F N⟩
  · rintro i v m₁ news₁ h₁ tk₁ ito K hK hi ⟨k, x, hx, hk⟩ hJ hoff hc F₁ N₁
    obtain ⟨t, rfl⟩ := intKind_inv hk
    obtain ⟨hi', e⟩ := List.getElem?_eq_some_iff.mp hx
    rw [List.drop_eq_getElem_cons hi', e] at hJ
    exact turn (k, x) _ t m₁ news₁ h₁ tk₁ _ ito K hK hJ hoff hc F₁ N₁
  · intro h' tk m' news' F' N' hJ
    exact done h' tk m' news' F' N' (by simpa using hJ)
theorem turns_items {L d vw : Addr} {od : Obj} {elts : List Expr} {kk : Nat} {pos : Pos} {kvs : List (Int × Value)} {m : Str → Option Value} {news : List (Addr × Obj)} (J : List (Int × Value) → (Str → Option Value) → List (Addr × Obj) → Prop)
    (hvw : s.heap.IsItemsView vw d) (hls : ∀ h : Heap, h.get? d = some od → h.DictOf (intKind p0 w) d kvs) (hLd : L ≠ d)
    (hax : ∀ rest m news h, J rest m news → Fr h₀ L h m → News h₀ L h news → h.get? d = some od)
    (F : Fr h₀ L s.heap m) (N : News h₀ L s.heap news) (h0 : J kvs m news)
    (turn : ∀ kv rest t T m₁ news₁ h₁ tk₁ (I : Addr) ito, ∀ K, (∀ f z, TurnP h₀ L I ito (J rest) { s with heap := h₁, toks := tk₁ } Q f z → KQ K f z) → J (kv :: rest) m₁ news₁ → IsTup h₁ T #[.int kv.1 t, kv.2] → (∀ p ∈ news₁, p.1 ≠ I) → ItrC ito → Fr h₀ L h₁ m₁ → News h₀ L h₁ ((I, ito) :: news₁) →
      wpAny (model p0 w) A (assign (.Tuple elts kk pos) env (.ref T)) (fun _ s₃ => wpAny (model p0 w) A (execs body env) (KQ K) E s₃) E { s with heap := h₁, toks := tk₁ })
    (done : ∀ h' tk m' news', Fr h₀ L h' m' → News h₀ L h' news' → J [] m' news' → Q .next { s with heap := h', toks := tk })
    (hh : A.handled = none := by rfl) (hL : env.locals = L := by rfl) :
    Stop (wpAny (model p0 w) A (pyIter (.ref vw)) (fun it s₂ => TurnsAt p0 w A h₀ env (.Tuple elts kk pos) body Q E it s₂) E s) := by
  subst hL
  refine ⟨?_⟩
  have h1 := hax _ _ _ _ h0 F N
  obtain ⟨ep, hat⟩ := (hls _ h1).dictAt
  have hne : d ≠ s.heap.objs.size := Nat.ne_of_lt hat.lt_size
  refine wpAny_pyIter_items hvw hat ?_
  refine turns_core (fun i => J (kvs.drop i)) (kti_itemsTurns (knd := intKind p0 w) hh s.heap.objs.size d hne kvs ep) (by simp) ?_ (next_is_new F) (fun i h st => ?_) ?_ (fun p hp => Nat.ne_of_lt (Heap.lt_size (N p hp).1)) ⟨⟨.none, .none, Heap.get?_push_size _ rfl⟩, hat.push _⟩ (F.push _)
    (fun p hp => ⟨Heap.get?_push_of_some _ (N p hp).1, (N p hp).2⟩) h0 ?_ ?_
  · intro q
    simp only [List.mem_cons, List.not_mem_nil, or_false] at q
    rcases q with q | q
    · exact absurd F.ns.lt (q ▸ Nat.lt_irrefl _)
    · exact hLd q
  · obtain ⟨⟨ok, ov, he⟩, _⟩ := st
    have e1 : ∃ o : Obj, h.get? s.heap.objs.size = some o ∧ o.cls = .type "dict_itemiterator" := ⟨_, he, rfl⟩
    obtain ⟨oi, g, c⟩ := e1
    exact ⟨oi, g, ItrC.of c (by decide)⟩
  · intro b hb hbI
    simp only [List.mem_cons, List.not_mem_nil, or_false] at hb
    rcases hb with hb | rfl
    · exact absurd hb hbI
    · exact ⟨od, fun i m news h j F N => hax _ _ _ _ j F N⟩
  · rintro i v m₁ news₁ h₁ tk₁ ito K hK hi ⟨T, key, k, x, rfl, hx, hk, hT⟩ hJ hoff hc F₁ N₁
    obtain ⟨t, rfl⟩ := intKind_inv hk
    obtain ⟨hi', e⟩ := List.getElem?_eq_some_iff.mp hx
    rw [List.drop_eq_getElem_cons hi', e] at hJ
    exact turn (k, x) _ t T m₁ news₁ h₁ tk₁ _ ito K hK hJ hT hoff hc F₁ N₁
  · intro h' tk m' news' F' N' hJ
    exact done h' tk m' news' F' N' (by simpa using hJ)
theorem in_base_t {Q : Value → Shared → Prop} {L d : Addr} {m : Str → Option Value} {kvs : List (Int × Value)} {code : Int} {t : Tok} {v : Value} (F : Fr h₀ L s.heap m) (hd : h₀.DictOf (intKind p0 w) d kvs) (hs : (d == sysModules) = false) (hv : valueAt kvs code = some v)
    (h : Q (.bool true) { s with toks := s.toks + 1 }) : wpAny (model p0 w) A (compareOp .In (.int code t) (.ref d)) Q E s := in_base F hd hs (by rw [hv]; exact h)
theorem in_base_f {Q : Value → Shared → Prop} {L d : Addr} {m : Str → Option Value} {kvs : List (Int × Value)} {code : Int} {t : Tok} (F : Fr h₀ L s.heap m) (hd : h₀.DictOf (intKind p0 w) d kvs) (hs : (d == sysModules) = false) (hv : valueAt kvs code = none)
    (h : Q (.bool false) { s with toks := s.toks + 1 }) : wpAny (model p0 w) A (compareOp .In (.int code t) (.ref d)) Q E s := in_base F hd hs (by rw [hv]; exact h)
theorem dlen_base {Q : Value → Shared → Prop} {L d : Addr} {m : Str → Option Value} {kvs : List (Int × Value)} (F : Fr h₀ L s.heap m) (hd : h₀.DictOf (intKind p0 w) d kvs) (hs : (d == sysModules) = false) (hn : (kvs.length : Int) < 2 ^ 63)
    (h : Q (.int kvs.length (s.toks + 1)) { s with toks := s.toks + 1 + 1 }) : wpAny (model p0 w) A (call (.builtin "len") [.ref d]) Q E s := call_len_dict hs (hd.keep F.keep) hn h
end
end Mine
end
section
set_option maxHeartbeats 1000000
namespace Mine
section
variable {w : World} {A : Around} {s : Shared} {E : Value → Shared → Prop} {Q : Value → Shared → Prop} {mg mb : Str → Option Value}
theorem ksetCr1 : True := by
  k_with "compareOp In int ref" => (k_dflt (refine' in_base_f ?k1 ?k2 ?k3 ?k4 ?_; (case k1 => k_asm); (case k2 => k_asm); (case k3 => k_asm); (case k4 => k_asm); k_whole))
  k_with "compareOp In int ref" => (k_dflt (refine' in_base_t ?k1 ?k2 ?k3 ?k4 ?_; (case k1 => k_asm); (case k2 => k_asm); (case k3 => k_asm); (case k4 => k_asm); k_whole))
  k_with "call builtin:len" => (k_dflt (refine' dlen_base ?k1 ?k2 ?k3 ?k4 ?_; (case k1 => k_asm); (case k2 => k_asm); (case k3 => k_asm); (case k4 => k_asm); k_whole))
  trivial
theorem newsTl {h₀ h : Heap} {L : Addr} {p : Addr × Obj} {r : List (Addr × Obj)} (N : News h₀ L h (p :: r)) : News h₀ L h r := fun q hq => N q (.tail _ hq)
noncomputable def cnt (rows : List Row) (c : Int) : Nat := (rows.filter fun r => decide (r.code < c)).length
theorem cnt_le (rows : List Row) (c : Int) : cnt rows c ≤ rows.length := List.length_filter_le _ _
theorem cnt_up {rows : List Row} {a b : Int} (h : a < b) {r : Row} (hr : r ∈ rows) (hc : r.code = a) : cnt rows a + 1 ≤ cnt rows b := by
  unfold cnt
  induction rows with
  | nil => cases hr
  | cons x xs ih =>
    have mono : (xs.filter fun r => decide (r.code < a)).length ≤ (xs.filter fun r => decide (r.code < b)).length := by
      clear ih hr
      induction xs with
      | nil => exact Nat.le_refl _
      | cons y ys ih =>
        by_cases h1 : y.code < a
        · have h2 : y.code < b := Int.lt_trans h1 h
          simp only [List.filter_cons, h1, h2, decide_true, if_true, List.length_cons]; exact Nat.succ_le_succ ih
        · by_cases h2 : y.code < b
          · simp only [List.filter_cons, h1, h2, decide_true, decide_false, if_true, Bool.false_eq_true, if_false, List.length_cons]; exact Nat.le_succ_of_le ih
          · simp only [List.filter_cons, h1, h2, decide_false, Bool.false_eq_true, if_false]; exact ih
    rcases List.mem_cons.mp hr with rfl | hr
    · have h1 : ¬ r.code < a := fun q => Int.lt_irrefl _ (hc ▸ q)
      have h2 : r.code < b := hc ▸ h
      simp only [List.filter_cons, h1, h2, decide_true, decide_false, if_true, Bool.false_eq_true, if_false, List.length_cons]; exact Nat.succ_le_succ mono
    · have ih := ih hr
      by_cases h1 : x.code < a
      · have h2 : x.code < b := Int.lt_trans h1 h
        simp only [List.filter_cons, h1, h2, decide_true, if_true, List.length_cons]; exact Nat.succ_le_succ ih
      · by_cases h2 : x.code < b
        · simp only [List.filter_cons, h1, h2, decide_true, decide_false, if_true, Bool.false_eq_true, if_false, List.length_cons]; exact Nat.le_succ_of_le ih
        · simp only [List.filter_cons, h1, h2, decide_false, Bool.false_eq_true, if_false]; exact ih
inductive JR1 (rows : List Row) (bs : List (Str × Value)) (rest : List (Int × Value)) (m : Str → Option Value) (news : List (Addr × Obj)) : Prop
  | mk (rs : List Row) (h0 : news = []) (h1 : Has m bs) (h2 : All2 (fun (kv : Int × Value) (r : Row) => kv.1 = r.code ∧ r ∈ rows) rest rs) : JR1 rows bs rest m news
inductive JR2 (p : Addr × Obj) (rows : List Row) (dc : Addr) (k : Nat) (m : Str → Option Value) (news : List (Addr × Obj)) : Prop
  | mk (far turns : Int) (tf tt : Tok) (h0 : news = [p]) (h1 : Has m [("far", .int far tf), ("turns", .int turns tt), ("chars", .ref dc)]) (h2 : 0 ≤ far) (h3 : far ≤ 10) (h4 : 0 ≤ turns) (h5 : turns ≤ cnt rows far) (h6 : k = (20 - far).toNat) : JR2 p rows dc k m news
theorem check_larger_spec (R : Rm 3 A) (X : (KF w.params).In s.heap) (T : TR mg mb s.heap) {dc : Addr} {kvs : List (Int × Value)} {rows : List Row} (hd : CharsAt w s.heap dc kvs rows) (hW : WFr rows) (hne : ∀ r ∈ rows, r.code ≤ 10) (hlen : rows.length ≤ 100)
   (h : ∀ h' tk, s.heap.StaysIn h' → Q .none {s with heap := h', toks := tk}) : wpAny (model p0 w) A (call (.ref 348) [.ref dc]) Q E s := by
  refine callF (binds := [("chars", .ref dc)]) R X T rfl (by k_is) (BindsTo.of_eq (by kernel_rfl)) (by kernel_rfl) rfl rfl rfl (by kernel_rfl) (fun L h₁ tk F N X T => ?_)
  have hkl : kvs.length = rows.length := hd.2.1.length
  have hD := hd.1; have hds := hd.2.2
  have hfit : (kvs.length : Int) < 2 ^ 63 := by omega
  obtain ⟨od, hod⟩ : ∃ o, s.heap.get? dc = some o := by obtain ⟨o, _, _, e, _⟩ := hD; exact ⟨o, e⟩
  have hls : ∀ h : Heap, h.get? dc = some od → h.DictOf (intKind p0 w) dc kvs := by
    intro h e
    obtain ⟨o, es, ep, e1, r⟩ := hD
    rw [hod] at e1; cases e1
    exact ⟨od, es, ep, e, r⟩
  repeat' (first | walk1 | (dsimp only; walk1))
  rename Fr _ _ _ _ => F8; rename News _ _ _ _ => N8
  refine For_st F8 ?_
  repeat' (first | walk1 | (dsimp only; walk1))
  rename Fr _ _ _ _ => F7; rename News _ _ _ _ => N7
  refine turns_keys (JR1 rows [("chars", .ref dc)]) hds hls (fun q => absurd (Heap.lt_size hod) (Nat.not_lt.mpr (q ▸ F7.above))) (fun _ _ _ _ _ F _ => F.keep _ _ hod) F7 N7 ⟨rows, rfl, ⟨rfl, trivial⟩, ?_⟩ ?_ ?_
  · have : ∀ (ks : List (Int × Value)) (rs : List Row), All2 (fun (kv : Int × Value) (r : Row) => kv.1 = r.code ∧ CharV s.heap kv.2 r) ks rs → (∀ r ∈ rs, r ∈ rows) → All2 (fun (kv : Int × Value) (r : Row) => kv.1 = r.code ∧ r ∈ rows) ks rs := by
      intro ks rs a
      induction a with
      | nil => intro _; exact .nil
      | cons q _ ih => intro hm; exact .cons ⟨q.1, hm _ (.head _)⟩ (ih fun r hr => hm r (.tail _ hr))
    exact this _ _ hd.2.1 fun r hr => hr
  · rintro kv rest t m₁ news₁ h₁ tk₁ I ito kK hK ⟨rs, rfl, H, ha⟩ hoff hc F N
    cases ha with | cons q ha =>
    rename_i r rs
    obtain ⟨q1, q2⟩ := q
    have hb1 := hW.lo r q2
    have hb2 := hne r q2
    rw [q1]
    replace F := frOf F H
    repeat' (first | walk1 | (dsimp only; walk1))
    rename Fr _ _ _ _ => F6; rename News _ _ _ _ => N6
    refine While_st (JR2 (I, ito) rows dc) F6 (newsTl N6) ⟨_, _, _, _, rfl, ⟨rfl, rfl, rfl, trivial⟩, hb1, hb2, Int.le_refl _, by omega, rfl⟩ ?_
    rintro k m₁ news₁ h₁ tk₁ kK hK F N ⟨far, turns, tf, tt, rfl, H, hf1, hf2, ht1, ht2, hk⟩
    replace F := frOf F H
    rcases find_all2 hd.2.1 far with ⟨hv, hfi⟩ | ⟨v, r', hv, hfi, hcv⟩
    · repeat' (first | walk1 | (dsimp only; walk1))
      rename Fr _ _ _ _ => F5; rename News _ _ _ _ => N5
      exact ⟨_, _, _, [], rfl, F5, N5, by simp, rs, rfl, ⟨rfl, trivial⟩, ha⟩
    · obtain ⟨a, t0, t1, t2, t3, t4, rest', rfl, hT, hR⟩ := hcv
      obtain ⟨hm, hcc⟩ := find_mem hfi
      cases hkd : r'.kd with
      | plain =>
        rw [hkd] at hT hR
        simp only [Kd.sort] at hT
        repeat' (first | walk1 | (dsimp only; walk1))
        rename Fr _ _ _ _ => F5; rename News _ _ _ _ => N5
        exact ⟨_, _, _, [], rfl, F5, N5, by simp, rs, rfl, ⟨rfl, trivial⟩, ha⟩
      | pieces pa pb pc pd =>
        rw [hkd] at hT hR
        simp only [Kd.sort] at hT
        repeat' (first | walk1 | (dsimp only; walk1))
        rename Fr _ _ _ _ => F5; rename News _ _ _ _ => N5
        exact ⟨_, _, _, [], rfl, F5, N5, by simp, rs, rfl, ⟨rfl, trivial⟩, ha⟩
      | larger c' =>
        rw [hkd] at hT hR
        simp only [Kd.sort] at hT
        obtain ⟨t5, rfl⟩ := hR
        have hup := hW.up r' hm c' hkd
        have hcu := cnt_up (rows := rows) (a := far) (b := c') (by omega) hm hcc
        have hcl := cnt_le rows c'
        repeat' (first | walk1 | (dsimp only; walk1))
        rename Fr _ _ _ _ => F5; rename News _ _ _ _ => N5
        exact ⟨_, _, _, _, _, rfl, F5, N5, by omega, c', turns + 1, _, _, rfl, ⟨rfl, rfl, rfl, trivial⟩, by omega, by omega, by omega, by omega, rfl⟩
  · rintro h' tk m' news' F N ⟨_, rfl, _, _⟩
    repeat' (first | walk1 | (dsimp only; walk1))
    exact h _ _ F.keep
end
end Mine
end
section
set_option maxHeartbeats 1000000
namespace Mine
noncomputable def sub (h : Heap) (P : Addr → Bool) : Heap := hideAll h ((List.range h.objs.size).filter fun b => !P b)
theorem sub_get {h : Heap} {P : Addr → Bool} {b : Addr} {o : Obj} (e : h.get? b = some o) (p : P b = true) : (sub h P).get? b = some o :=
  hideAll_get _ e fun q => by have := (List.mem_filter.mp q).2; rw [p] at this; cases this
theorem sub_of {h : Heap} {P : Addr → Bool} {b : Addr} {o : Obj} (e : (sub h P).get? b = some o) : h.get? b = some o ∧ P b = true := by
  refine ⟨of_hideAll _ e, ?_⟩
  cases p : P b with
  | true => rfl
  | false =>
    have h1 : b ∈ (List.range h.objs.size).filter fun b => !P b := List.mem_filter.mpr ⟨List.mem_range.mpr (Heap.lt_size (of_hideAll _ e)), by simp [p]⟩
    have := hideAll_none ((List.range h.objs.size).filter fun b => !P b) (h := h) h1
    unfold sub at e
    rw [this] at e; cases e
structure Gx (g s h' g' : Heap) : Prop where
  a : g.StaysIn g'
  b : g'.StaysIn h'
  c : ∀ b o, g'.get? b = some o → g.get? b = some o ∨ s.get? b = none
theorem Gx.none {g s h' g' : Heap} (x : Gx g s h' g') {b : Addr} {o : Obj} (h1 : s.get? b = some o) (h2 : g.get? b = none) : g'.get? b = none := by
  cases e : g'.get? b with
  | none => rfl
  | some o' =>
    rcases x.c b o' e with q | q
    · rw [h2] at q; cases q
    · rw [h1] at q; cases q
theorem Gx.trans {g s h₁ g₁ h₂ g₂ : Heap} (x : Gx g s h₁ g₁) (k : s.StaysIn h₁) (y : Gx g₁ h₁ h₂ g₂) : Gx g s h₂ g₂ :=
  ⟨fun b o e => y.a b o (x.a b o e), y.b, fun b o e => by
    rcases y.c b o e with q | q
    · exact x.c b o q
    · refine .inr ?_
      cases e1 : s.get? b with
      | none => rfl
      | some o' => rw [k b o' e1] at q; cases q⟩
theorem Gx.later {g s h₁ h₂ g₁ : Heap} (x : Gx g s h₁ g₁) (k : h₁.StaysIn h₂) : Gx g s h₂ g₁ := ⟨x.a, fun b o e => k b o (x.b b o e), x.c⟩
theorem Gx.refl {g s h : Heap} (x : g.StaysIn h) : Gx g s h g := ⟨fun _ _ e => e, x, fun _ _ e => .inl e⟩
theorem Gx.from {g s h g' s' : Heap} (x : Gx g s h g') (k : s'.StaysIn s) : Gx g s' h g' := ⟨x.a, x.b, fun b o e => by
  rcases x.c b o e with q | q
  · exact .inl q
  · refine .inr ?_
    cases e1 : s'.get? b with
    | none => rfl
    | some o' => rw [k b o' e1] at q; cases q⟩
noncomputable def ext (g s h' : Heap) : Heap := sub h' fun b => (g.get? b).isSome || (s.get? b).isNone
theorem ext_get {g s h' : Heap} {b : Addr} {o : Obj} (e : h'.get? b = some o) (f : s.get? b = none) : (ext g s h').get? b = some o := sub_get e (by simp [f])
theorem Gx.ext {g s h' : Heap} (a : g.StaysIn s) (k : s.StaysIn h') : Gx g s h' (ext g s h') :=
  ⟨fun b o e => sub_get (k b o (a b o e)) (by simp [e]), fun b o e => (sub_of e).1, fun b o e => by
    obtain ⟨e1, e2⟩ := sub_of e
    cases q : g.get? b with
    | none =>
      refine .inr ?_
      simpa [q] using e2
    | some o' =>
      refine .inl ?_
      have := k b o' (a b o' q)
      rw [this] at e1; exact e1⟩
noncomputable def but (g : Heap) (l : List Addr) : Heap := hideAll g l
theorem but_none {g : Heap} {l : List Addr} {b : Addr} (h : b ∈ l) : (but g l).get? b = none := hideAll_none _ h
theorem but_get {g : Heap} {l : List Addr} {b : Addr} {o : Obj} (e : g.get? b = some o) (h : b ∉ l) : (but g l).get? b = some o := hideAll_get _ e h
theorem Gx.but {g s h' g' : Heap} (x : Gx g s h' g') {l : List Addr} (hl : ∀ b ∈ l, g.get? b = Option.none) : Gx g s h' (but g' l) :=
  ⟨fun b o e => but_get (x.a b o e) (fun q => by rw [hl b q] at e; cases e), fun b o e => x.b b o (of_hideAll _ e), fun b o e => x.c b o (of_hideAll _ e)⟩
structure Gh (h₀ g : Heap) (D : List (Addr × Obj)) : Prop where
  d : ∀ b o, g.get? b = some o → h₀.get? b = some o ∨ (b, o) ∈ D
theorem Gh.nil {h₀ : Heap} : Gh h₀ h₀ [] := ⟨fun _ _ e => .inl e⟩
theorem Gh.stays {h₀ g h : Heap} {L : Addr} {m : Str → Option Value} {D : List (Addr × Obj)} (x : Gh h₀ g D) (F : Fr h₀ L h m) (N : News h₀ L h D) : g.StaysIn h := fun b o e => by
  rcases x.d b o e with q | q
  · exact F.keep b o q
  · exact (N _ q).1
noncomputable def dOf (h₀ g : Heap) : List (Addr × Obj) := (List.range g.objs.size).filterMap fun b => if (h₀.get? b).isNone then (g.get? b).map fun o => (b, o) else none
theorem mem_dOf {h₀ g : Heap} {b : Addr} {o : Obj} : (b, o) ∈ dOf h₀ g ↔ h₀.get? b = none ∧ g.get? b = some o := by
  unfold dOf
  rw [List.mem_filterMap]
  constructor
  · rintro ⟨a, _, e⟩
    split at e
    · rename_i hn
      obtain ⟨o', e1, e2⟩ := Option.map_eq_some_iff.mp e
      cases e2
      exact ⟨Option.isNone_iff_eq_none.mp hn, e1⟩
    · cases e
  · rintro ⟨h1, h2⟩
    exact ⟨b, List.mem_range.mpr (Heap.lt_size h2), by simp [h1, h2]⟩
theorem Gh.grow {h₀ g h h' g' : Heap} {L : Addr} {m : Str → Option Value} {D : List (Addr × Obj)} (x : Gh h₀ g D) (F : Fr h₀ L h m) (N : News h₀ L h D) (k : h.StaysIn h') (y : Gx g h h' g') :
    Gh h₀ g' (dOf h₀ g') ∧ News h₀ L h' (dOf h₀ g') := by
  have kb : ∀ b o, h₀.get? b = some o → h'.get? b = some o := fun b o e => k b o (F.keep b o e)
  refine ⟨⟨fun b o e => ?_⟩, fun p hp => ?_⟩
  · cases q : h₀.get? b with
    | none => exact .inr (mem_dOf.mpr ⟨q, e⟩)
    | some o' =>
      refine .inl ?_
      have e1 := y.b b o e
      rw [kb b o' q] at e1; exact e1
  · obtain ⟨h1, h2⟩ := mem_dOf.mp (show (p.1, p.2) ∈ _ from hp)
    refine ⟨y.b _ _ h2, fun e => ?_, h1⟩
    have hL : ∃ o, h.get? L = some o := by
      obtain ⟨_, _, _, e, _⟩ := F.ns
      exact ⟨_, e⟩
    obtain ⟨oL, hL⟩ := hL
    rcases y.c _ _ h2 with q | q
    · rcases x.d _ _ q with r | r
      · rw [h1] at r; cases r
      · exact (N _ r).2.1 e
    · rw [e, hL] at q; cases q
theorem Gh.add {h₀ g h : Heap} {L a : Addr} {o : Obj} {D : List (Addr × Obj)} {m : Str → Option Value} (x : Gh h₀ g D) (F : Fr h₀ L h m) (N : News h₀ L h ((a, o) :: D)) :
    ∃ g', Gh h₀ g' ((a, o) :: D) ∧ g.StaysIn g' ∧ g'.get? a = some o ∧ (∀ b o', g'.get? b = some o' → g.get? b = some o' ∨ b = a) := by
  have hs := x.stays F fun p hp => N p (.tail _ hp)
  have e := (N _ (.head _)).1
  have key : ∀ b o', (sub h fun b => (g.get? b).isSome || decide (b = a)).get? b = some o' → g.get? b = some o' ∨ b = a := by
    intro b o' e1
    obtain ⟨e2, e3⟩ := sub_of e1
    by_cases hb : b = a
    · exact .inr hb
    · refine .inl ?_
      cases q : g.get? b with
      | none => simp [q, hb] at e3
      | some o2 => rw [hs b o2 q] at e2; exact e2
  refine ⟨sub h fun b => (g.get? b).isSome || decide (b = a), ⟨fun b o' e1 => ?_⟩, fun b o' e1 => sub_get (hs b o' e1) (by simp [e1]), sub_get e (by simp), key⟩
  rcases key b o' e1 with q | q
  · rcases x.d b o' q with r | r
    · exact .inl r
    · exact .inr (.tail _ r)
  · subst q
    have e2 := (sub_of e1).1
    rw [e] at e2; cases e2
    exact .inr (.head _)
theorem newsApp {h₀ h : Heap} {L : Addr} {a b : List (Addr × Obj)} (N : News h₀ L h a) (M : News h₀ L h b) : News h₀ L h (a ++ b) := fun p hp => by
  rcases List.mem_append.mp hp with q | q
  · exact N p q
  · exact M p q
theorem fresh_back {s h : Heap} {a : Addr} (k : s.StaysIn h) (e : h.get? a = none) : s.get? a = none := by
  cases q : s.get? a with
  | none => rfl
  | some o => rw [k a o q] at e; cases e
theorem ext_news {g s h₂ h' : Heap} {L a : Addr} {o : Obj} {news : List (Addr × Obj)} (k : s.StaysIn h₂) (N : News h₂ L h' news) (hm : (a, o) ∈ news) : (ext g s h').get? a = some o :=
  ext_get (N _ hm).1 (fresh_back k (N _ hm).2.2)
theorem instAt_of {h g : Heap} {x dx C : Addr} {o : Obj} (I : InstAt h x (instObj C dx) C (some o)) (e1 : g.get? x = some (instObj C dx)) (e2 : g.get? dx = some o) : InstAt g x (instObj C dx) C (some o) := ⟨e1, I.cls, I.no, e2⟩
end Mine
end
section
set_option maxHeartbeats 1000000
namespace Mine
section
variable {w : World} {A : Around} {s : Shared} {E : Value → Shared → Prop} {Q : Value → Shared → Prop} {mg mb : Str → Option Value}
theorem ksetYb1 : True := by
  k_with "call ref" => ((with_reducible show wpAny _ _ (call (Value.ref 393) _ _) _ _ _); (rename Fr _ _ _ _ => kF0); (rename FontAt _ _ _ _ _ _ _ _ _ _ _ _ _ _ => kf); refine' font_width_spec (mg := mg) (mb := mb) ?k1 ?k2 ?k3 (FontAt.keeps kf (Fr.keep kF0)) ?_; (case k1 => walk_at "p world"); (case k2 => walk_at "p world"); (case k3 => walk_at "p world"); walk_at "p after")
  k_with "call ref" => ((with_reducible show wpAny _ _ (call (Value.ref 400) _ _) _ _ _); (rename Fr _ _ _ _ => kF0); (rename FontAt _ _ _ _ _ _ _ _ _ _ _ _ _ _ => kf); refine' font_height_spec (mg := mg) (mb := mb) ?k1 ?k2 ?k3 (FontAt.keeps kf (Fr.keep kF0)) ?_; (case k1 => walk_at "p world"); (case k2 => walk_at "p world"); (case k3 => walk_at "p world"); walk_at "p after")
  k_with "call ref" => ((with_reducible show wpAny _ _ (call (Value.ref 407) _ _) _ _ _); (rename Fr _ _ _ _ => kF0); (rename FontAt _ _ _ _ _ _ _ _ _ _ _ _ _ _ => kf); refine' font_depth_spec (mg := mg) (mb := mb) ?k1 ?k2 ?k3 (FontAt.keeps kf (Fr.keep kF0)) ?_; (case k1 => walk_at "p world"); (case k2 => walk_at "p world"); (case k3 => walk_at "p world"); walk_at "p after")
  k_with "call ref" => ((with_reducible show wpAny _ _ (call (Value.ref 414) _ _) _ _ _); (rename Fr _ _ _ _ => kF0); (rename FontAt _ _ _ _ _ _ _ _ _ _ _ _ _ _ => kf); refine' font_italic_spec (mg := mg) (mb := mb) ?k1 ?k2 ?k3 (FontAt.keeps kf (Fr.keep kF0)) ?_; (case k1 => walk_at "p world"); (case k2 => walk_at "p world"); (case k3 => walk_at "p world"); walk_at "p after")
  k_with "call ref" => ((with_reducible show wpAny _ _ (call (Value.ref 386) _ _) _ _ _); (rename Fr _ _ _ _ => kF0); (rename FontAt _ _ _ _ _ _ _ _ _ _ _ _ _ _ => kf); refine' font_has_spec (mg := mg) (mb := mb) ?k1 ?k2 ?k3 (FontAt.keeps kf (Fr.keep kF0)) ?_; (case k1 => walk_at "p world"); (case k2 => walk_at "p world"); (case k3 => walk_at "p world"); walk_at "p after")
  k_with "call ref" => ((with_reducible show wpAny _ _ (call (Value.ref 428) _ _) _ _ _); (rename Fr _ _ _ _ => kF0); (rename FontAt _ _ _ _ _ _ _ _ _ _ _ _ _ _ => kf); refine' font_larger_spec (mg := mg) (mb := mb) ?k1 ?k2 ?k3 (FontAt.keeps kf (Fr.keep kF0)) ?_; (case k1 => walk_at "p world"); (case k2 => walk_at "p world"); (case k3 => walk_at "p world"); walk_at "p after")
  k_with "call ref" => ((with_reducible show wpAny _ _ (call (Value.ref 435) _ _) _ _ _); (rename Fr _ _ _ _ => kF0); (rename FontAt _ _ _ _ _ _ _ _ _ _ _ _ _ _ => kf); refine' font_pieces_spec (mg := mg) (mb := mb) ?k1 ?k2 ?k3 (FontAt.keeps kf (Fr.keep kF0)) ?_; (case k1 => walk_at "p world"); (case k2 => walk_at "p world"); (case k3 => walk_at "p world"); walk_at "p after")
  k_with "call ref" => ((with_reducible show wpAny _ _ (call (Value.ref 442) _ _) _ _ _); (rename Fr _ _ _ _ => kF0); (rename FontAt _ _ _ _ _ _ _ _ _ _ _ _ _ _ => kf); refine' font_param_spec (mg := mg) (mb := mb) ?k1 ?k2 ?k3 (FontAt.keeps kf (Fr.keep kF0)) ?_; (case k1 => walk_at "p world"); (case k2 => walk_at "p world"); (case k3 => walk_at "p world"); walk_at "p after")
  k_with "call ref" => ((with_reducible show wpAny _ _ (call (Value.ref 236) _ _) _ _ _); (rename Fr _ _ _ _ => kF); (rename News _ _ _ _ => kN); refine' char_new_spec (mg := mg) (mb := mb) ?k1 ?k2 ?k3 ?k4 ?k5 ?_; (case k1 => walk_at "p world"); (case k2 => walk_at "p world"); (case k3 => walk_at "p world"); (case k4 => omega); (case k5 => omega); intro _ _ kS _ _ _ _ f1 f2 C; (have F' := frAfter kF kS); (have N' := newsCons kF (newsCons kF (newsAfter kN kS) (CharAt.hd C) f2) (CharAt.hx C) f1); (have C1 := CharAt.font C); (have C2 := CharAt.code C); (have C3 := CharAt.kind C); (try k_sweep); clear C)
  k_with "call ref" => ((with_reducible show wpAny _ _ (call (Value.ref 257) _ _) _ _ _); (try (rename Bd _ => kB; have kb1 := Bd.w0 kB; have kb2 := Bd.w1 kB; have kb3 := Bd.h0 kB; have kb4 := Bd.h1 kB; have kb5 := Bd.d0 kB; have kb6 := Bd.d1 kB; have kb7 := Bd.i0 kB; have kb8 := Bd.i1 kB)); (rename Fr _ _ _ _ => kF); (rename News _ _ _ _ => kN); refine' box_new_spec (mg := mg) (mb := mb) ?k1 ?k2 ?k3 ?k4 ?k5 ?k6 ?k7 ?k8 ?k9 ?j1 ?j2 ?_; (case k1 => walk_at "p world"); (case k2 => walk_at "p world"); (case k3 => walk_at "p world"); (case k4 => omega); (case k5 => omega); (case k6 => omega); (case k7 => omega); (case k8 => omega); (case k9 => omega); (case j1 => omega); (case j2 => omega); intro _ _ kS _ _ _ _ f1 f2 C; (have F' := frAfter kF kS); (have N' := newsCons kF (newsCons kF (newsAfter kN kS) (BoxAt.hd C) f1) (BoxAt.hx C) f2); (try k_sweep))
  trivial
theorem char_box2 (R : Rm 6 A) (X : (KF w.params).In s.heap) (T : TR mg mb s.heap) {x : Addr} {num ax : Int} {rows : List Row} {dx : Addr} {es : List DictEntry} {n : Nat} {dc dp : Addr} {kvs : List (Int × Value)} {vs : List Value} {tn : Tok}
   (f : FontAt w s.heap x num rows ax dx es n dc dp kvs vs tn) {code : Int} {t : Tok} (h1 : 0 ≤ code) (h2 : code ≤ 255) (hb : Bd (rowD rows code))
   (h : ∀ h' tk, s.heap.StaysIn h' → ∀ x1 dx1 es1 n1 li nl c dc1 esc nc, (∀ a ∈ [x1, dx1, li, c, dc1], s.heap.get? a = none) → LetterAt h' x1 dx1 es1 n1 ((rowD rows code).wd + (rowD rows code).it) (rowD rows code).ht (rowD rows code).dp li nl c dc1 esc nc (.ref x) code → Q (.ref x1) {s with heap := h', toks := tk}) : wpAny (model p0 w) A (call (.ref 283) [.ref x, .int code t]) Q E s := by
  refine callF (binds := [("font", .ref x), ("code", .int code t)]) R X T rfl (by k_is) (BindsTo.of_eq (by kernel_rfl)) (by kernel_rfl) rfl rfl rfl (by kernel_rfl) (fun L h₁ tk F N X T => ?_)
  have I := f.inst; have m1 := f.width; have m2 := f.height; have m3 := f.depth; have m4 := f.italic
  repeat' (first | walk1 | (dsimp only; walk1))
  rename Fr _ _ _ _ => F9; rename News _ _ _ _ => N9; rename BoxAt _ _ _ _ _ _ _ _ _ _ _ => B9
  refine h _ _ F9.keep _ _ _ _ _ _ _ _ _ _ ?_ ⟨B9, N9.get (by k_mem), ⟨N9.get (by k_mem), N9.get (by k_mem), by assumption, by assumption, by assumption⟩⟩
  intro a ha
  simp only [List.mem_cons, List.not_mem_nil, or_false] at ha
  rcases ha with rfl | rfl | rfl | rfl | rfl <;> exact N9.fresh (by k_mem)
end
end Mine
end
section
set_option maxHeartbeats 1000000
namespace Mine
section
variable {w : World} {A : Around} {s : Shared} {E : Value → Shared → Prop} {Q : Value → Shared → Prop} {mg mb : Str → Option Value}
theorem dgmi_base {h₀ : Heap} {pl : Sem Bool} {Q : Value × List Value → Shared → Prop} {L d : Addr} {m : Str → Option Value} {kvs : List (Int × Value)} (F : Fr h₀ L s.heap m) (hd : h₀.DictOf (intKind p0 w) d kvs) (h : Q (.builtin "dict.items", [.ref d]) s) :
    wpAny (model p0 w) A (getMethod (.ref d) "items" pl) Q E s :=
  have hD := hd.keep F.keep
  getMethod_builtin hD.typeIs PySem.F.plainAttrs_dict PySem.F.slot_dict_items PySem.F.type_dict_items hD.mapOf.noDict h
theorem ditems_base {h₀ : Heap} {L d : Addr} {m : Str → Option Value} {news : List (Addr × Obj)} {kvs : List (Int × Value)} (F : Fr h₀ L s.heap m) (N : News h₀ L s.heap news) (hd : h₀.DictOf (intKind p0 w) d kvs) (hs : (d == sysModules) = false)
    (h : ∀ (V : Addr) h', h'.IsItemsView V d → Fr h₀ L h' m → News h₀ L h' news → Q (.ref V) { s with heap := h' }) : wpAny (model p0 w) A (call (.builtin "dict.items") [.ref d]) Q E s :=
  have hD := hd.keep F.keep
  call_meetsIn PySem.F.slot_dict_items hD.typeIs PySem.F.entry_dict_items (PySem.F.args_dict_items_1 _) (meets_dict_items (intKind p0 w) d hs) ⟨⟨kvs, hD⟩, h _ _ ⟨_, Heap.get?_push_size _ rfl, rfl, rfl⟩ (F.push _) fun p hp => ⟨Heap.get?_push_of_some _ (N p hp).1, (N p hp).2⟩⟩
structure Okr (rows : List Row) : Prop where
  wf : WFr rows
  hi : ∀ r ∈ rows, r.code ≤ 10
  bd : ∀ r ∈ rows, Bd r
  pc : ∀ r ∈ rows, ∀ a b c d, r.kd = .pieces a b c d → (0 ≤ a ∧ a ≤ 255 ∧ (a ≠ 0 → (find rows a).isSome = true)) ∧ (0 ≤ b ∧ b ≤ 255 ∧ (b ≠ 0 → (find rows b).isSome = true)) ∧ (0 ≤ c ∧ c ≤ 255 ∧ (c ≠ 0 → (find rows c).isSome = true)) ∧ (0 ≤ d ∧ d ≤ 255 ∧ (find rows d).isSome = true)
  len : rows.length ≤ 100
structure Going : Prop where
theorem If_st {env : Env} {test : Expr} {b1 b2 : List Stmt} {pos : Pos} {Q : Flow → Shared → Prop} (P : Shared → Prop)
    (h1 : Going → wpAny (model p0 w) A (exec (.If test b1 b2 pos) env) (fun f s' => f = .next ∧ P s') E s) (h2 : ∀ s', P s' → Q .next s') :
    Stop (wpAny (model p0 w) A (exec (.If test b1 b2 pos) env) Q E s) :=
  ⟨wpAny_mono (h1 ⟨⟩) (fun f s' x => by obtain ⟨rfl, p⟩ := x; exact h2 s' p) fun _ _ e => e⟩
end
end Mine
end
section
set_option maxHeartbeats 1000000
namespace Mine
section
variable {prog : Program} {w : World} {A : Around} {E : Value → Shared → Prop} {s : Shared} {h₀ : Heap} {L : Addr} {m : Str → Option Value} {news : List (Addr × Obj)}
theorem adj_run (lo : Option Nat) (b n : Nat) (ha : lo.getD 0 ≤ n) (hb : b ≤ n) : Builtin.Slice.sliceAdjust (lo.map fun a => ((a : Nat) : Int)) (some (b : Int)) 1 (n : Int) = (((lo.getD 0 : Nat) : Int), (b : Int)) := by
  unfold Builtin.Slice.sliceAdjust
  have h1 : ¬ ((1 : Int) < 0) := by omega
  cases lo with
  | none =>
    have h3 : ¬ ((b : Int) < 0) := by omega
    simp only [h1, h3, if_false, Option.map_none, Option.getD_none] at *
    congr 1
    omega
  | some a =>
    have h2 : ¬ ((a : Int) < 0) := by omega
    have h3 : ¬ ((b : Int) < 0) := by omega
    simp only [h1, h2, h3, if_false, Option.map_some, Option.getD_some] at *
    congr 1 <;> omega
theorem places_run (a b : Nat) : Builtin.Slice.slicePlaces (a : Int) (b : Int) 1 = b - a := by
  unfold Builtin.Slice.slicePlaces
  have h1 : (1 : Int) > 0 := by omega
  simp only [h1, if_true, Int.ediv_one]
  split <;> omega
inductive LoV : Value → Option Nat → Prop
  | none : LoV .none none
  | int (a : Nat) (t : Tok) : LoV (.int a t) (some a)
theorem sliceApplied_run {sl : Addr} {vl : Value} {lo : Option Nat} {b n : Nat} {u : Tok} {Q : Int × Int × Nat → Shared → Prop} (hl : LoV vl lo) (hs : s.heap.IsSliceOf sl vl (.int b u) .none) (ha : lo.getD 0 ≤ n) (hb : b ≤ n) (h : Q (((lo.getD 0 : Nat) : Int), 1, b - lo.getD 0) s) :
    wpAny (model prog w) A (Builtin.Slice.sliceApplied (.ref sl) (pure (n : Int))) Q E s := by
  obtain ⟨os, hos, hcs, hds⟩ := id hs
  unfold Builtin.Slice.sliceApplied Builtin.Slice.sliceFields
  refine wpAny_bind (wpAny_bind (wpAny_field hos hds (x := vl) rfl (wpAny_bind (wpAny_field hos hds (x := .int b u) rfl (wpAny_bind (wpAny_field hos hds (x := .none) rfl (wpAny_pure ?_)))))))
  refine wpAny_bind (slicePart_none ?_)
  show wpAny _ _ (if ((1 : Int) == 0) = true then _ else _) _ _ s
  rw [if_neg (by decide)]
  have fin : wpAny (model prog w) A (match Builtin.Slice.sliceAdjust (lo.map fun a => ((a : Nat) : Int)) (some (b : Int)) 1 (n : Int) with | (lo, hi) => pure (lo, (1 : Int), Builtin.Slice.slicePlaces lo hi 1)) Q E s := by
    rw [adj_run lo b n ha hb]
    show wpAny _ _ (pure (((lo.getD 0 : Nat) : Int), (1 : Int), Builtin.Slice.slicePlaces ((lo.getD 0 : Nat) : Int) (b : Int) 1)) _ _ s
    rw [places_run]
    exact wpAny_pure h
  cases hl with
  | none => exact wpAny_bind (slicePart_none (wpAny_bind (slicePart_int (wpAny_bind (wpAny_pure fin)))))
  | int a t => exact wpAny_bind (slicePart_int (wpAny_bind (slicePart_int (wpAny_bind (wpAny_pure fin)))))
theorem pick_mid (xs : Array Value) (a k : Nat) : ((List.range k).filterMap fun (k : Nat) => xs[((a : Int) + (k : Int) * 1).toNat]?).toArray = ((xs.toList.drop a).take k).toArray := by
  have e : (fun (k : Nat) => xs[((a : Int) + (k : Int) * 1).toNat]?) = fun k => xs[a + k]? := by
    funext k
    have : ((a : Int) + (k : Int) * 1).toNat = a + k := by omega
    rw [this]
  rw [e]
  have := pick_run xs a k
  rw [List.filterMap_map] at this
  have e2 : ((fun x => xs[x]?) ∘ fun x => a + x) = fun k => xs[a + k]? := rfl
  rw [e2] at this
  rw [this]
theorem getItem_tuple_run {t sl : Addr} {items : Array Value} {vl : Value} {lo : Option Nat} {b : Nat} {u : Tok} {Q : Value → Shared → Prop} (hl : LoV vl lo) (ht : IsTup s.heap t items) (hs : s.heap.IsSliceOf sl vl (.int b u) .none) (ha : lo.getD 0 ≤ items.size) (hb : b ≤ items.size) (hne : b - lo.getD 0 ≠ items.size)
    (h : Q (.ref s.heap.objs.size) { s with heap := s.heap.push { cls := .type "tuple", data := .seq ((items.toList.drop (lo.getD 0)).take (b - lo.getD 0)).toArray } })
    (hsz : items.size ≤ sizeLine) : wpAny (model prog w) A (getItem (.ref t) (.ref sl)) Q E s := by
  have hdrop : sizeOk (.seq ((items.toList.drop (lo.getD 0)).take (b - lo.getD 0)).toArray) := by
    show ((items.toList.drop (lo.getD 0)).take (b - lo.getD 0)).toArray.size ≤ sizeLine
    rw [List.size_toArray, List.length_take, List.length_drop, Array.length_toList]
    exact Nat.le_trans (Nat.min_le_right _ _) (Nat.le_trans (Nat.sub_le _ _) hsz)
  obtain ⟨os, hos, hcs, hds⟩ := id hs
  have hTs : s.TypeIs (.ref sl) "slice" := ⟨os, hos, hcs⟩
  unfold getItem
  try with_reducible refine wpAny_holding ?_
  first | refine wpAny_bind (wpAny_pure ?_) | skip
  refine wpAny_bind (wpAny_sequenceKey ht.typeIs (by decide) ?_)
  refine wpAny_bind (wpAny_callSpecial?_slot (name := Str.ofString "__getitem__") ht.typeIs slot_tuple_getitem
    (wpAny_call_entry slot_tuple_getitem ht.typeIs entry_tuple_getitem ?_ (args_tuple_getitem _ _)))
  show wpAny _ _ (Builtin.Tuple.tupleItemsOf (.ref t) >>= _) _ _ s
  refine wpAny_bind (tupleItemsOf_ ht ?_)
  refine wpAny_bind (wpAny_typeOf hTs ?_)
  rw [if_pos (by decide)]
  refine wpAny_bind (sliceApplied_run hl hs ha hb ?_)
  have hno : ¬ ((((lo.getD 0 : Nat) : Int) == 0 && (1 : Int) == 1 && (b - lo.getD 0) == items.size) = true) := by
    have : ((b - lo.getD 0) == items.size) = false := by rw [beq_eq_false_iff_ne]; exact hne
    rw [this]; simp
  show wpAny _ _ (if (((lo.getD 0 : Nat) : Int) == 0 && (1 : Int) == 1 && (b - lo.getD 0) == items.size) = true then _ else _) _ _ s
  rw [if_neg hno, pick_mid items (lo.getD 0) (b - lo.getD 0)]
  first
    | exact wpAny_bind (m := Builtin.Tuple.tupleExact _) (wpAny_newObj_type (wpAny_pure ⟨_, rfl, wpAny_pure h⟩) hdrop)
    | exact wpAny_bind (m := Builtin.Tuple.tupleExact _) (wpAny_newObj_type (wpAny_bind (wpAny_pure (wpAny_pure ⟨_, rfl, wpAny_pure h⟩))) hdrop)
    | exact wpAny_bind (wpAny_bind (m := Builtin.Tuple.tupleExact _) (wpAny_newObj_type (wpAny_pure (wpAny_pure ⟨_, rfl, wpAny_pure h⟩)) hdrop))
    | exact wpAny_bind (wpAny_bind (m := Builtin.Tuple.tupleExact _) (wpAny_newObj_type (wpAny_pure ⟨_, rfl, wpAny_pure h⟩) hdrop))
theorem slice_tuple_run {value slice : Expr} {t : Addr} {items : Array Value} {vl : Value} {lo : Option Nat} {b : Int} {bn : Nat} {u : Tok} {zs : List Value} {Q : Value → Shared → Prop}
    (F : Fr h₀ L s.heap m) (N : News h₀ L s.heap news) (hl : LoV vl lo) (ht : IsTup s.heap t items) (eb : b = (bn : Int)) (ha : Nat.ble (lo.getD 0) items.size = true) (hb : Nat.ble bn items.size = true) (hne : Nat.beq (bn - lo.getD 0) items.size = false)
    (hz : (items.toList.drop (lo.getD 0)).take (bn - lo.getD 0) = zs)
    (h : ∀ (D : Addr) h', Fr h₀ L h' m → News h₀ L h' ((D, { cls := .type "tuple", data := .seq zs.toArray }) :: news) → (∀ p ∈ news, p.1 < D) → Q (.ref D) { s with heap := h' })
    (hs : subscripted slice false (.ref t) (.ref s.heap.objs.size) = operate [.ref s.heap.objs.size, .ref t] (getItem (.ref t) (.ref s.heap.objs.size)))
    (hg : ∀ r, letTemporaryGo value (.ref t) r = pure ())
    (hsz : items.size ≤ sizeLine) :
    wpAny (model prog w) A (subscriptTail value slice (.ref t) (.ref s.heap.objs.size)) Q E { s with heap := s.heap.push { cls := .type "slice", data := .fields #[vl, .int b u, .none] } } := by
  subst eb
  have ht' : IsTup (s.heap.push { cls := .type "slice", data := .fields #[vl, .int bn u, .none] }) t items := ht.keeps fun _ _ e => Heap.get?_push_of_some _ e
  refine subscriptTail_ops (s := { s with heap := s.heap.push { cls := .type "slice", data := .fields #[vl, .int bn u, .none] } }) ht'.typeIs slot_tuple_getitem.lookup
    (getItem_tuple_run hl ht' (Heap.IsSliceOf.new ..) (Nat.le_of_ble_eq_true ha) (Nat.le_of_ble_eq_true hb) (Nat.ne_of_beq_eq_false hne) ?_ hsz) hs hg
  rw [hz]
  have N1 := News.push (F.push { cls := .type "slice", data := .fields #[vl, .int bn u, .none] }) (N.grown fun _ _ e => Heap.get?_push_of_some _ e) { cls := .type "tuple", data := .seq zs.toArray }
  rw [Heap.size_push] at N1
  show Q (.ref (s.heap.push _).objs.size) _
  rw [Heap.size_push]
  exact h _ _ ((F.push _).push _) N1 fun p hp => Nat.lt_succ_of_lt (Heap.lt_size (N p hp).1)
theorem llen_base {Q : Value → Shared → Prop} {d : Addr} {vs : List Value} {n : Int} (F : Fr h₀ L s.heap m) (hl : h₀.IsList d vs.toArray) (hn : (vs.length : Int) = n) (hb : n ≤ 1000000000)
    (h : Q (.int n (s.toks + 1)) { s with toks := s.toks + 1 + 1 }) : wpAny (model prog w) A (call (.builtin "len") [.ref d]) Q E s := by
  have hl' : s.heap.IsList d vs.toArray := by obtain ⟨o, e, r⟩ := hl; exact ⟨o, F.keep _ _ e, r⟩
  refine PySem.Calls.call_len_list hl' ?_ ?_
  · rw [List.size_toArray, hn]; omega
  · rw [List.size_toArray, hn]; exact h
theorem dcopy_base {mg mb : Str → Option Value} {Q : Value → Shared → Prop} {d : Addr} {kvs : List (Int × Value)} (F : Fr h₀ L s.heap m) (N : News h₀ L s.heap news) (T : TR mg mb h₀) (hd : h₀.DictOf (intKind p0 w) d kvs) (hds : (d == sysModules) = false) (hn : Nat.ble kvs.length 1000 = true)
    (h : ∀ (D : Addr) h' o, Fr h₀ L h' m → News h₀ L h' ((D, o) :: news) → (∀ p ∈ news, p.1 < D) → (D == sysModules) = false → o.IsDictOf (intKind p0 w) kvs → Q (.ref D) { s with heap := h' }) :
    wpAny (model p0 w) A (call (.type "dict") [.ref d]) Q E s := by
  refine kt_call_dict hds (hd.keep F.keep) (by have := Nat.le_of_ble_eq_true hn; rw [sizeLine_eq]; omega) fun h' hm hs => ?_
  obtain ⟨o', ho', hd'⟩ := Heap.dictOf_iff.mp hm
  have N1 := News.push F N { cls := .type "dict", data := .dict #[] }
  exact h _ h' o' ((F.push _).change hs (N1 _ (.head _)).2.1 (N1.fresh (.head _))) (N1.setHead N.apart hs ho') (fun p hp => Heap.lt_size (N p hp).1) (F.notModules (modules_low T.nolimit)) hd'
end
end Mine
end
section
set_option maxHeartbeats 1000000
namespace Mine
section
variable {w : World} {A : Around} {s : Shared} {E : Value → Shared → Prop} {Q : Value → Shared → Prop} {mg mb : Str → Option Value}
theorem ksetCs1 : True := by
  k_with "call ref" => ((with_reducible show wpAny _ _ (call (Value.ref 109) _ _) _ _ _); refine' is_whole_spec (mg := mg) (mb := mb) ?k1 ?k2 ?k3 ?_; (case k1 => walk_at "p world"); (case k2 => walk_at "p world"); (case k3 => walk_at "p world"); walk_at "p after")
  k_with "getMethod ref" => ((with_reducible show wpAny _ _ (getMethod (Value.ref _) (Str.ofString "items") _) _ _ _); k_dflt (refine' dgmi_base ?k1 ?k2 ?_; (case k1 => k_asm); (case k2 => k_asm); k_whole))
  k_with "call builtin:dict.items" => ((with_reducible show wpAny _ _ (call (Value.builtin "dict.items") [Value.ref _]) _ _ _); k_dflt (refine' ditems_base ?k1 ?k2 ?k3 ?k4 ?_; (case k1 => k_asm); (case k2 => k_asm); (case k3 => k_asm); (case k4 => k_asm)); intro V9 h9 hV9 F9 N9)
  k_with "call ref" => ((with_reducible show wpAny _ _ (call (Value.ref 327) _ _) _ _ _); refine' stop_here ?_)
  k_with "call ref" => ((with_reducible show wpAny _ _ (call (Value.ref 334) _ _) _ _ _); refine' stop_here ?_)
  k_with "subscriptTail Name Slice ref ref" => ((with_reducible show wpAny _ _ (subscriptTail _ (PySem.Expr.Slice _ (some _) none _) (Value.ref _) (Value.ref _)) _ _ _); k_dflt (refine' slice_tuple_run ?F ?N ?lo ?t ?e ?a ?b ?n ?z ?_ ?ss ?g ?zz; (case F => k_asm); (case N => k_asm); (case t => first | exact News.isTup (by k_asm) (by k_mem) | exact Fr.tup (by k_asm) (by k_asm) | k_asm); (case lo => first | exact LoV.none | exact LoV.int 1 _); (case e => first | exact (rfl : (4 : Int) = ((4 : Nat) : Int)) | exact (rfl : (5 : Int) = ((5 : Nat) : Int)) | exact (rfl : (7 : Int) = ((7 : Nat) : Int)) | exact (rfl : (2 : Int) = ((2 : Nat) : Int))); (case a => rfl); (case b => rfl); (case n => rfl); (case z => first | kl_lit | with_unfolding_all rfl); (case ss => with_unfolding_all rfl); (case g => kmk_pure); (case zz => first | exact Nat.le_of_ble_eq_true rfl | kmk_size)); intro D' h' F' N' l1; (try k_lt l1); (try k_sweep))
  k_with "subscriptTail" => ((with_reducible show wpAny _ _ (subscriptTail _ (PySem.Expr.Slice _ (some _) none _) (Value.ref _) (Value.ref _)) _ _ _); k_dflt (refine' slice_tuple_run ?F ?N ?lo ?t ?e ?a ?b ?n ?z ?_ ?ss ?g ?zz; (case F => k_asm); (case N => k_asm); (case t => first | exact News.isTup (by k_asm) (by k_mem) | exact Fr.tup (by k_asm) (by k_asm) | k_asm); (case lo => first | exact LoV.none | exact LoV.int 1 _); (case e => first | exact (rfl : (4 : Int) = ((4 : Nat) : Int)) | exact (rfl : (5 : Int) = ((5 : Nat) : Int)) | exact (rfl : (7 : Int) = ((7 : Nat) : Int)) | exact (rfl : (2 : Int) = ((2 : Nat) : Int))); (case a => rfl); (case b => rfl); (case n => rfl); (case z => first | kl_lit | with_unfolding_all rfl); (case ss => with_unfolding_all rfl); (case g => kmk_pure); (case zz => first | exact Nat.le_of_ble_eq_true rfl | kmk_size)); intro D' h' F' N' l1; (try k_lt l1); (try k_sweep))
  trivial
inductive JS1 (h : Heap) (rows : List Row) (bs : List (Str × Value)) (rest : List (Int × Value)) (m : Str → Option Value) (news : List (Addr × Obj)) : Prop
  | mk (rs : List Row) (h0 : news = []) (h1 : Has m bs) (h2 : All2 (fun (kv : Int × Value) (r : Row) => kv.1 = r.code ∧ CharV h kv.2 r ∧ r ∈ rows) rest rs) : JS1 h rows bs rest m news
theorem check_chars_spec (R : Rm 4 A) (X : (KF w.params).In s.heap) (T : TR mg mb s.heap) {dc : Addr} {kvs : List (Int × Value)} {rows : List Row} (hd : CharsAt w s.heap dc kvs rows) (hO : Okr rows) {t9 : Tok}
   (h : ∀ h' tk, s.heap.StaysIn h' → Q .none {s with heap := h', toks := tk}) : wpAny (model p0 w) A (call (.ref 341) [.ref dc, .int 0 t9]) Q E s := by
  refine callF (binds := [("chars", .ref dc), ("many", .int 0 t9)]) R X T rfl (by k_is) (BindsTo.of_eq (by kernel_rfl)) (by kernel_rfl) rfl rfl rfl (by kernel_rfl) (fun L h₁ tk F N X T => ?_)
  have hD := hd.1; have hds := hd.2.2
  obtain ⟨od, hod⟩ : ∃ o, s.heap.get? dc = some o := by obtain ⟨o, _, _, e, _⟩ := hD; exact ⟨o, e⟩
  have hls : ∀ h : Heap, h.get? dc = some od → h.DictOf (intKind p0 w) dc kvs := by
    intro h e
    obtain ⟨o, es, ep, e1, r⟩ := hD
    rw [hod] at e1; cases e1
    exact ⟨od, es, ep, e, r⟩
  repeat' (first | walk1 | (dsimp only; walk1))
  rename Fr _ _ _ _ => F8; rename News _ _ _ _ => N8
  refine For_st F8 ?_
  repeat' (first | walk1 | (dsimp only; walk1))
  rename Fr _ _ _ _ => F7; rename News _ _ _ _ => N7; rename Heap.IsItemsView _ _ _ => V7
  refine turns_items (JS1 s.heap rows [("chars", .ref dc), ("many", .int 0 t9)]) V7 hls (fun q => absurd (Heap.lt_size hod) (Nat.not_lt.mpr (q ▸ F7.above))) (fun _ _ _ _ _ F _ => F.keep _ _ hod) F7 N7 ⟨rows, rfl, ⟨rfl, rfl, trivial⟩, ?_⟩ ?_ ?_
  · have : ∀ (ks : List (Int × Value)) (rs : List Row), All2 (fun (kv : Int × Value) (r : Row) => kv.1 = r.code ∧ CharV s.heap kv.2 r) ks rs → (∀ r ∈ rs, r ∈ rows) → All2 (fun (kv : Int × Value) (r : Row) => kv.1 = r.code ∧ CharV s.heap kv.2 r ∧ r ∈ rows) ks rs := by
      intro ks rs a
      induction a with
      | nil => intro _; exact .nil
      | cons q _ ih => intro hm; exact .cons ⟨q.1, q.2, hm _ (.head _)⟩ (ih fun r hr => hm r (.tail _ hr))
    exact this _ _ hd.2.1 fun r hr => hr
  · rintro kv rest t Tp m₁ news₁ h₁ tk₁ I ito kK hK ⟨rs, rfl, H, ha⟩ hT hoff hc F N
    cases ha with | cons q ha =>
    rename_i r rs
    obtain ⟨q1, q2, q3⟩ := q
    have hb1 := hO.wf.lo r q3
    have hb2 := hO.hi r q3
    have hbd := hO.bd r q3
    obtain ⟨a, t0, t1, t2, t3, t4, rest', e2, hR, hX⟩ := q2
    rw [q1, e2] at hT
    replace F := frOf F H
    repeat' (first | walk1 | (dsimp only; walk1))
    · rename (Array.size _ : Int) ≠ 6 => a9
      exact absurd (by simp) a9
    rename Fr _ _ _ _ => F6; rename News _ _ _ _ => N6
    refine ⟨check_sizes_spec (mg := mg) (mb := mb) (ns := [r.wd, r.ht, r.dp, r.it]) (vs := [.int r.wd t0, .int r.ht t1, .int r.dp t2, .int r.it t3]) (Rm.le Rm.an (by decide)) (X.keeps F6.keep) (trKeep T F6) (.inr ⟨_, N6.get (by k_mem), rfl, _, rfl⟩) (.cons _ _ (.cons _ _ (.cons _ _ (.cons _ _ .nil)))) ?_ ?_⟩
    · have := hbd.w0; have := hbd.w1; have := hbd.h0; have := hbd.h1; have := hbd.d0; have := hbd.d1; have := hbd.i0; have := hbd.i1
      exact allC (by omega) (allC (by omega) (allC (by omega) (allC (by omega) allN)))
    intro h6 tk6 kS
    have F5 := frAfter F6 kS; have N5 := newsAfter N6 kS
    clear F6 N6 kS
    cases hkd : r.kd with
    | plain =>
      rw [hkd] at hR hX
      simp only [Kd.sort] at hR
      obtain ⟨t5, rfl⟩ := hX
      repeat' (first | walk1 | (dsimp only; walk1))
      rename Fr _ _ _ _ => F5; rename News _ _ _ _ => N5
      exact ⟨_, _, _, [], rfl, F5, newsTl (newsTl N5), by simp, rs, rfl, ⟨rfl, rfl, trivial⟩, ha⟩
    | larger c' =>
      have hup := hO.wf.up r q3 c' hkd
      rw [hkd] at hR hX
      simp only [Kd.sort] at hR
      obtain ⟨t5, rfl⟩ := hX
      repeat' (first | walk1 | (dsimp only; walk1))
      rename Fr _ _ _ _ => F5; rename News _ _ _ _ => N5
      exact ⟨_, _, _, [], rfl, F5, newsTl (newsTl N5), by simp, rs, rfl, ⟨rfl, rfl, trivial⟩, ha⟩
    | pieces pa pb pc pd =>
      have hpc := hO.pc r q3 _ _ _ _ hkd
      rw [hkd] at hR hX
      simp only [Kd.sort] at hR
      obtain ⟨ap, vs, rfl, hTp, hip⟩ := hX
      repeat' (first | walk1 | (dsimp only; walk1))
      rename Fr _ _ _ _ => F5; rename News _ _ _ _ => N5
      refine ⟨check_pieces_spec (mg := mg) (mb := mb) (Rm.le Rm.an (by decide)) (X.keeps F5.keep) (trKeep T F5) (isTup_keeps hTp F5.keep) hip (hD.keep F5.keep) hds ?_ ?_ ?_ ?_ ?_⟩
      · exact ⟨hpc.1.1, hpc.1.2.1, fun q => (hd.some _).trans (hpc.1.2.2 q)⟩
      · exact ⟨hpc.2.1.1, hpc.2.1.2.1, fun q => (hd.some _).trans (hpc.2.1.2.2 q)⟩
      · exact ⟨hpc.2.2.1.1, hpc.2.2.1.2.1, fun q => (hd.some _).trans (hpc.2.2.1.2.2 q)⟩
      · exact ⟨hpc.2.2.2.1, hpc.2.2.2.2.1, (hd.some _).trans hpc.2.2.2.2.2⟩
      intro h6 tk6 kS
      have F6 := frAfter F5 kS; have N6 := newsAfter N5 kS
      clear F5 N5 kS
      repeat' (first | walk1 | (dsimp only; walk1))
      rename Fr _ _ _ _ => F5; rename News _ _ _ _ => N5
      exact ⟨_, _, _, [], rfl, F5, newsTl (newsTl N5), by simp, rs, rfl, ⟨rfl, rfl, trivial⟩, ha⟩
  · rintro h' tk m' news' F N ⟨_, rfl, _, _⟩
    repeat' (first | walk1 | (dsimp only; walk1))
    exact h _ _ F.keep
end
end Mine
end
section
set_option maxHeartbeats 1000000
namespace Mine
section
variable {w : World} {A : Around} {s : Shared} {E : Value → Shared → Prop} {Q : Value → Shared → Prop} {mg mb : Str → Option Value}
theorem ksetFi1 : True := by
  k_with "call ref" => ((with_reducible show wpAny _ _ (call (Value.ref 109) _ _) _ _ _); refine' is_whole_spec (mg := mg) (mb := mb) ?k1 ?k2 ?k3 ?_; (case k1 => walk_at "p world"); (case k2 => walk_at "p world"); (case k3 => walk_at "p world"); walk_at "p after")
  k_with "call ref" => ((with_reducible show wpAny _ _ (call (Value.ref 327) _ _) _ _ _); refine' stop_here ?_)
  k_with "call ref" => ((with_reducible show wpAny _ _ (call (Value.ref 341) _ _) _ _ _); (rename Fr _ _ _ _ => kF0); (rename CharsAt _ _ _ _ _ => kf); refine' check_chars_spec (mg := mg) (mb := mb) ?k1 ?k2 ?k3 (CharsAt.keeps kf (Fr.keep kF0)) ?k4 ?_; (case k1 => walk_at "p world"); (case k2 => walk_at "p world"); (case k3 => walk_at "p world"); (case k4 => k_asm); walk_at "p after")
  k_with "call ref" => ((with_reducible show wpAny _ _ (call (Value.ref 348) _ _) _ _ _); (rename Fr _ _ _ _ => kF0); (rename CharsAt _ _ _ _ _ => kf); refine' check_larger_spec (mg := mg) (mb := mb) ?k1 ?k2 ?k3 (CharsAt.keeps kf (Fr.keep kF0)) ?k4 ?k5 ?k6 ?_; (case k1 => walk_at "p world"); (case k2 => walk_at "p world"); (case k3 => walk_at "p world"); (case k6 => exact Okr.len (by k_asm)); (case k5 => exact Okr.hi (by k_asm)); (case k4 => exact Okr.wf (by k_asm)); walk_at "p after")
  k_with "call ref" => ((with_reducible show wpAny _ _ (call (Value.ref 355) _ _) _ _ _); refine' check_program_spec (mg := mg) (mb := mb) ?k1 ?k2 ?k3 ?k4 ?_; (case k1 => walk_at "p world"); (case k2 => walk_at "p world"); (case k3 => walk_at "p world"); (case k4 => exact isTup_keeps (by k_asm) (Fr.keep (by k_asm))); walk_at "p after")
  k_with "call ref" => ((with_reducible show wpAny _ _ (call (Value.ref 362) _ _) _ _ _); refine' left_start_spec (mg := mg) (mb := mb) ?k1 ?k2 ?k3 ?k4 ?_; (case k1 => walk_at "p world"); (case k2 => walk_at "p world"); (case k3 => walk_at "p world"); (case k4 => exact isTup_keeps (by k_asm) (Fr.keep (by k_asm))); walk_at "p after")
  k_with "call builtin:len" => ((with_reducible show wpAny _ _ (call (Value.builtin "len") [Value.ref _]) _ _ _); k_dflt (refine' llen_base ?k1 ?k2 ?k3 ?k4 ?_; (case k1 => k_asm); (case k2 => k_asm); (case k3 => k_asm); (case k4 => omega); k_whole))
  k_with "call type:dict" => ((with_reducible show wpAny _ _ (call (Value.type "dict") [Value.ref _]) _ _ _); k_dflt (refine' dcopy_base (mg := mg) (mb := mb) ?k1 ?k2 ?k3 ?k4 ?k5 ?k6 ?_; (case k1 => k_asm); (case k2 => k_asm); (case k3 => k_asm); (case k4 => k_asm); (case k5 => k_asm); (case k6 => k_asm)); intro D9 h9 o9 F9 N9 l1 hs9 hd9; (try k_lt l1))
  trivial
theorem font_new_spec (R : Rm 7 A) (X : (KF w.params).In s.heap) (T : TR mg mb s.heap) {g : Heap} (hg : g.StaysIn s.heap) {num : Int} (h1 : 1 ≤ num) (h2 : num ≤ 255) {nm : Str} (hnm : nm ≠ Str.ofString "") {dc : Addr} {kvs : List (Int × Value)} {rows : List Row} (hd : CharsAt w s.heap dc kvs rows)
   (hdg : All2 (fun (kv : Int × Value) (r : Row) => kv.1 = r.code ∧ CharV g kv.2 r) kvs rows) (hO : Okr rows) {pl : Addr} {vs : List Value} {ax : Int} (hp : s.heap.IsList pl vs.toArray) (hi : IntsAre vs (List.replicate 21 0 ++ [ax])) (ha0 : 0 ≤ ax) (ha1 : ax ≤ 1000) {t0 t1 t2 t3 : Tok}
   (h : ∀ h' tk g' x, s.heap.StaysIn h' → Gx g s.heap h' g' → Font w g' (.ref x) num rows ax → Q (.ref x) {s with heap := h', toks := tk}) :
   wpAny (model p0 w) A (call (.ref 452) [.int num t0, .str nm t1, .int 655360 t2, .ref pl, .ref dc, .ref 464, .ref 465, .int 256 t3]) Q E s := by
  refine newM (binds := fun x => [("self", .ref x), ("number", .int num t0), ("name", .str nm t1), ("size", .int 655360 t2), ("params", .ref pl), ("chars", .ref dc), ("program", .ref 464), ("kerns", .ref 465), ("boundary", .int 256 t3)]) R X T (by k_is) (by k_is) (by k_is) rfl (by k_is) (fun x s' X' => binds_K X' rfl rfl rfl rfl rfl) (fun x => by kernel_rfl) rfl rfl rfl (by kernel_rfl) (fun x dx L h₁ h₂ tk F N X₂ T₂ hs hdx hxL hsz => ?_)
  have cs := hd.keeps hs
  have csd := cs.1; have css := cs.2.2
  have ip := isList_keeps hp hs
  have e464 : IsTup h₂ 464 #[] := ⟨_, X₂ 464 (o464 w.params) rfl, rfl, 0, rfl⟩
  have e465 : IsTup h₂ 465 #[] := ⟨_, X₂ 465 (o465 w.params) rfl, rfl, 0, rfl⟩
  have hkl : Nat.ble kvs.length 1000 = true := by
    have h1 := hd.2.1.length; have h2 := hO.len
    exact Nat.ble_eq_true_of_le (by omega)
  clear X T hd hp
  have hvl : ((vs.length : Nat) : Int) = 22 := by rw [hi.length]; rfl
  have hnm' : (nm == Str.ofString "") = false := by simpa using hnm
  repeat' (first | (exact absurd (by with_reducible assumption : (nm == Str.ofString "") = true) (by rw [hnm']; decide)) | walk1 | (dsimp only; walk1))
  rename Fr _ _ _ _ => F6; rename News _ _ _ _ => N6
  refine ⟨check_sizes_spec (mg := mg) (mb := mb) (ns := List.replicate 21 0 ++ [ax]) (vs := vs) (Rm.le Rm.an (by decide)) (X₂.keeps F6.keep) (trKeep T₂ F6) (.inl (isList_keeps ip F6.keep)) hi ?_ ?_⟩
  · intro n hn
    simp only [List.mem_append, List.mem_cons, List.not_mem_nil, or_false, List.mem_replicate] at hn
    rcases hn with ⟨_, rfl⟩ | rfl <;> omega
  intro h6 tk6 kS
  have F5 := frAfter F6 kS; have N5 := newsAfter N6 kS
  clear F6 N6 kS
  repeat' (first | walk1 | (dsimp only; walk1))
  rename Fr _ _ _ _ => F6; rename News _ _ _ _ => N6
  refine ⟨check_sizes_spec (mg := mg) (mb := mb) (ns := []) (vs := []) (Rm.le Rm.an (by decide)) (X₂.keeps F6.keep) (trKeep T₂ F6) (.inr (isTup_keeps e465 F6.keep)) .nil (fun n hn => by cases hn) ?_⟩
  intro h6 tk6 kS
  have F5 := frAfter F6 kS; have N5 := newsAfter N6 kS
  clear F6 N6 kS
  repeat' (first | walk1 | (dsimp only; walk1))
  rename Fr _ _ _ _ => F9; rename News _ _ _ _ => N9; rename Obj.IsDictOf _ _ _ => D9; rename (_ == sysModules) = false => S9
  have G9 := Gx.ext hg (fun b o e => F9.keep b o (hs b o e))
  exact h _ _ _ x (fun b o e => F9.keep b o (hs b o e)) G9 ⟨x, dx, _, _, _, _, kvs, vs, t0, rfl, {
    inst := instAt_of (InstAt.of_news N9 (by k_mem) (by k_mem)) (ext_news hs N9 (by k_mem)) (ext_news hs N9 (by k_mem))
    num := (by k_get)
    chars := (by k_get)
    params := (by k_get)
    has := (by k_get)
    width := (by k_get)
    height := (by k_get)
    depth := (by k_get)
    italic := (by k_get)
    larger := (by k_get)
    pieces := (by k_get)
    param := (by k_get)
    cs := ⟨Heap.dictOf_iff.mpr ⟨_, ext_news hs N9 (by k_mem), D9⟩, hdg.imp (fun _ _ q => ⟨q.1, q.2.keeps G9.a⟩), S9⟩
    ps := ⟨_, ext_news hs N9 (by k_mem), rfl, _, rfl⟩
    pi := hi }⟩
end
end Mine
end
section
set_option maxHeartbeats 1000000
namespace Mine
section
variable {w : World} {A : Around} {s : Shared} {E : Value → Shared → Prop} {Q : Value → Shared → Prop} {mg mb : Str → Option Value}
theorem ksetFo1 : True := by
  k_with "call ref" => ((with_reducible show wpAny _ _ (call (Value.ref 109) _ _) _ _ _); refine' is_whole_spec (mg := mg) (mb := mb) ?k1 ?k2 ?k3 ?_; (case k1 => walk_at "p world"); (case k2 => walk_at "p world"); (case k3 => walk_at "p world"); walk_at "p after")
  k_with "setItem ref int" => (refine' stop_here ?_)
  k_with "compareOp In int ref" => (k_dflt (refine' kda_in (knd := intKind _ _) ?k1 ?k2 ?k3 ?k4 (intKind_is _ _ _ _) false ?k5 ?_; (case k1 => k_asm); (case k2 => k_mem); (case k3 => k_asm); (case k4 => k_asm); (case k5 => k_asm); k_whole))
  k_with "call ref" => ((with_reducible show wpAny _ _ (call (Value.ref 452) _ _) _ _ _); refine' stop_here ?_)
  k_with "call ref" => ((with_reducible show wpAny _ _ (call (Value.ref 463) _ _) _ _ _); refine' font_name_spec (mg := mg) (mb := mb) ?k1 ?k2 ?k3 ?k4 ?k5 ?_; (case k1 => walk_at "p world"); (case k2 => walk_at "p world"); (case k3 => walk_at "p world"); (case k4 => omega); (case k5 => omega); walk_at "p after")
  k_with "binaryOp Add ref ref" => (k_dflt (refine' kde_addT ?k1 ?k2 ?k3 ?k4 ?k5 ?k6 ?k7 ?k8 ?_; (case k1 => k_asm); (case k2 => k_asm); (case k3 => first | exact News.isTup (by k_asm) (by k_mem) | exact Fr.tup (by k_asm) (by k_asm)); (case k4 => first | exact News.isTup (by k_asm) (by k_mem) | exact Fr.tup (by k_asm) (by k_asm)); (case k5 => exact List.cons_ne_nil _ _); (case k6 => exact List.cons_ne_nil _ _); (case k7 => exact Nat.le_of_ble_eq_true rfl); (case k8 => kl_lit); k_whole); intro D' h' F' N' l1; (try k_lt l1); (try k_sweep))
  trivial
inductive RowV (h : Heap) (v : Value) (r : Row) : Prop
  | mk (a : Addr) (t0 t1 t2 t3 t4 : Tok) (h0 : v = .ref a) (h1 : match r.kd with | .plain => IsTup h a #[.int r.code t0, .int r.wd t1, .int r.ht t2, .int r.dp t3, .int r.it t4] | .larger c => ∃ t5 t6, IsTup h a #[.int r.code t0, .int r.wd t1, .int r.ht t2, .int r.dp t3, .int r.it t4, .int 2 t5, .int c t6] | .pieces p q x y => ∃ t5 v, IsTup h a #[.int r.code t0, .int r.wd t1, .int r.ht t2, .int r.dp t3, .int r.it t4, .int 3 t5, v] ∧ IntTup h v [p, q, x, y]) : RowV h v r
theorem RowV.keeps {h h' : Heap} {v : Value} {r : Row} (x : RowV h v r) (k : h.StaysIn h') : RowV h' v r := by
  obtain ⟨a, t0, t1, t2, t3, t4, e, y⟩ := x
  refine ⟨a, t0, t1, t2, t3, t4, e, ?_⟩
  cases hk : r.kd with
  | plain => rw [hk] at y; exact isTup_keeps y k
  | larger => rw [hk] at y; obtain ⟨t5, t6, y⟩ := y; exact ⟨t5, t6, isTup_keeps y k⟩
  | pieces => rw [hk] at y; obtain ⟨t5, v, y, z⟩ := y; exact ⟨t5, v, isTup_keeps y k, z.keeps k⟩
inductive RowsV (h : Heap) (v : Value) (rows : List Row) : Prop
  | mk (a : _)(vs : _) (h0 : v = .ref a) (h1 : h.IsList a vs.toArray) (h2 : All2 (RowV h) vs rows) : RowsV h v rows
theorem RowsV.keeps {h h' : Heap} {v : Value} {rows : List Row} (x : RowsV h v rows) (k : h.StaysIn h') : RowsV h' v rows := by
  obtain ⟨a, vs, e, l, al⟩ := x
  exact ⟨a, vs, e, isList_keeps l k, al.imp fun _ _ q => q.keeps k⟩
theorem dset {L d : Addr} {h₀ : Heap} {m : Str → Option Value} {news : List (Addr × Obj)} {o : Obj} {kvs : List (Int × Value)} {k : Int} {t : Tok} {v : Value} {Q : Unit → Shared → Prop} (F : Fr h₀ L s.heap m) (N : News h₀ L s.heap news) (hm : (d, o) ∈ news) (hd : o.IsDictOf (intKind p0 w) kvs) (hsz : kvs.length ≤ 1000)
    (h : ∀ h' o', Fr h₀ L h' m → (∀ b o, b ≠ d → s.heap.get? b = some o → h'.get? b = some o) → h'.get? d = some o' → o'.IsDictOf (intKind p0 w) (stored kvs k v) → Q () { s with heap := h', toks := s.toks + 1 }) :
    Stop (wpAny (model p0 w) A (setItem (.ref d) (.int k t) v) Q E s) := by
  have hn := N (d, o) hm
  refine ⟨wpAny_setItem_pairs (hsz := by rw [sizeLine_eq]; omega) (intKind_is _ _ _ _) (Heap.dictOf_iff.mpr ⟨o, hn.1, hd⟩) fun h' hmm hs => ?_⟩
  obtain ⟨o', ho', hd'⟩ := Heap.dictOf_iff.mp hmm
  exact h h' o' (F.change hs hn.2.1 hn.2.2) (fun b o e1 e2 => (hs.2 b e1).trans e2) ho' hd'
inductive JFo (w : World) (g h₀ : Heap) (rows : List Row) (bs : List (Str × Value)) (rest : List Value) (m : Str → Option Value) (news : List (Addr × Obj)) : Prop
  | mk (done : _)(rs : _)(kvs : _)(dc : _)(od : _)(D : _)(g' : _) (h0 : rows = done ++ rs) (h1 : All2 (RowV g) rest rs) (h2 : news = (dc, od) :: D) (h3 : od.IsDictOf (intKind p0 w) kvs) (h4 : All2 (fun (kv : Int × Value) (r : Row) => kv.1 = r.code ∧ CharV g' kv.2 r) kvs done) (h5 : Gh h₀ g' D) (h6 : g.StaysIn g') (h7 : (∀ p ∈ D, p.1 ≠ dc)) (h8 : (∀ b o, g'.get? b = some o → g.get? b = some o ∨ h₀.get? b = none)) (h9 : (dc == sysModules) = false) (h10 : Has m (("chars", .ref dc) :: bs)) : JFo w g h₀ rows bs rest m news
noncomputable def tupO (vals : List Value) : Obj := { cls := .type "tuple", data := .seq vals.toArray }
theorem JFo.turn {g h₀ h₁ h9 h' : Heap} {L I T2 dc : Addr} {ito od o' : Obj} {rows done rs : List Row} {r : Row} {bs : List (Str × Value)} {rest : List Value} {m m' : Str → Option Value} {D : List (Addr × Obj)} {g' : Heap} {kvs : List (Int × Value)} {tk₁ tk' : Nat} {vals : List Value}
    (hrs : rows = done ++ r :: rs) (hall : All2 (RowV g) rest rs) (hdo : od.IsDictOf (intKind p0 w) kvs) (hch : All2 (fun (kv : Int × Value) (r : Row) => kv.1 = r.code ∧ CharV g' kv.2 r) kvs done) (hG : Gh h₀ g' D) (hgg : g.StaysIn g') (hDd : ∀ p ∈ D, p.1 ≠ dc) (hfr : ∀ b o, g'.get? b = some o → g.get? b = some o ∨ h₀.get? b = none) (hS : (dc == sysModules) = false)
    (hoff : ∀ p ∈ (dc, od) :: D, p.1 ≠ I) (hc : ItrC ito) (hv : valueAt kvs r.code = none)
    (F9 : Fr h₀ L h9 m) (N9 : News h₀ L h9 [(T2, tupO vals), (I, ito), (dc, od)]) (N8 : News h₀ L h9 D) (F' : Fr h₀ L h' m') (kb : ∀ b o, b ≠ dc → h9.get? b = some o → h'.get? b = some o) (ho : h'.get? dc = some o') (hd' : o'.IsDictOf (intKind p0 w) (stored kvs r.code (.ref T2)))
    (H : Has m' (("chars", .ref dc) :: bs)) (hcv : ∀ gg : Heap, g.StaysIn gg → IsTup gg T2 vals.toArray → CharV gg (.ref T2) r) :
    TurnE h₀ L I ito (JFo w g h₀ rows bs rest) { s with heap := h₁, toks := tk₁ } { s with heap := h', toks := tk' } := by
  have hdc : dc ≠ I := hoff _ (.head _)
  have a1 := N9 (T2, tupO vals) (.head _); have a2 := N9 (I, ito) (.tail _ (.head _)); have a3 := N9 (dc, od) (.tail _ (.tail _ (.head _)))
  have hT1 : T2 ≠ dc := by
    intro e
    have := a1.1.symm.trans ((congrArg h9.get? e).trans a3.1)
    cases this
    obtain ⟨es, ep, _, hdat, _⟩ := hdo
    cases hdat
  have hT2 : T2 ≠ I := by
    intro e
    have := a1.1.symm.trans ((congrArg h9.get? e).trans a2.1)
    cases this
    exact hc.tup rfl
  obtain ⟨g2, hG2, hgs, hT, hof⟩ := hG.add F9 (a := T2) (o := tupO vals) (fun p hp => by
    rcases List.mem_cons.mp hp with rfl | hp
    · exact a1
    · exact N8 p hp)
  have hg2 : g.StaysIn g2 := fun b o e => hgs b o (hgg b o e)
  rw [stored_absent hv] at hd'
  refine ⟨h', tk', m', (dc, o') :: (T2, tupO vals) :: D, rfl, F', ?_, ?_, done ++ [r], rs, kvs ++ [(r.code, .ref T2)], dc, o', (T2, tupO vals) :: D, g2, by rw [hrs]; simp, hall, rfl, hd', ?_, hG2, hg2, ?_, ?_, hS, H⟩
  · intro p hp
    rcases List.mem_cons.mp hp with rfl | hp
    · exact ⟨kb _ _ (Ne.symm hdc) a2.1, a2.2⟩
    rcases List.mem_cons.mp hp with rfl | hp
    · exact ⟨ho, a3.2⟩
    rcases List.mem_cons.mp hp with rfl | hp
    · exact ⟨kb _ _ hT1 a1.1, a1.2⟩
    · exact ⟨kb _ _ (hDd p hp) (N8 p hp).1, (N8 p hp).2⟩
  · intro p hp
    rcases List.mem_cons.mp hp with rfl | hp
    · exact hdc
    rcases List.mem_cons.mp hp with rfl | hp
    · exact hT2
    · exact hoff p (.tail _ hp)
  · refine (hch.imp fun _ _ q => ⟨q.1, q.2.keeps hgs⟩).append (.cons ⟨rfl, hcv g2 hg2 ⟨_, hT, rfl, _, rfl⟩⟩ .nil)
  · intro p hp
    rcases List.mem_cons.mp hp with rfl | hp
    · exact hT1
    · exact hDd p hp
  · intro b o e
    rcases hof b o e with q | rfl
    · exact hfr b o q
    · exact .inr a1.2.2
theorem newsPick {h₀ h : Heap} {L : Addr} {x y z a b : Addr × Obj} {D : List (Addr × Obj)} (N : News h₀ L h (x :: y :: z :: a :: b :: D)) : News h₀ L h [x, a, b] := by
  intro p hp
  simp only [List.mem_cons, List.not_mem_nil, or_false] at hp
  rcases hp with rfl | rfl | rfl
  · exact N _ (.head _)
  · exact N _ (.tail _ (.tail _ (.tail _ (.head _))))
  · exact N _ (.tail _ (.tail _ (.tail _ (.tail _ (.head _)))))
theorem all2_codes {g : Heap} {kvs : List (Int × Value)} {rows : List Row} (x : All2 (fun (kv : Int × Value) (r : Row) => kv.1 = r.code ∧ CharV g kv.2 r) kvs rows) : kvs.map (·.1) = rows.map (·.code) := by
  induction x with
  | nil => rfl
  | cons q _ ih => simp [q.1, ih]
theorem font_of_rows_spec (R : Rm 9 A) (X : (KF w.params).In s.heap) (T : TR mg mb s.heap) {g : Heap} (hg : g.StaysIn s.heap) {num : Int} (h1 : 1 ≤ num) (h2 : num ≤ 25) {rl : Value} {rows : List Row} (hr : RowsV g rl rows) (hO : Okr rows) (hnd : (rows.map (·.code)).Nodup)
   {pl : Addr} {vs : List Value} {ax : Int} (hp : s.heap.IsList pl vs.toArray) (hi : IntsAre vs (List.replicate 21 0 ++ [ax])) (ha0 : 0 ≤ ax) (ha1 : ax ≤ 1000) {t0 : Tok}
   (h : ∀ h' tk g' x, s.heap.StaysIn h' → Gx g s.heap h' g' → Font w g' (.ref x) num rows ax → Q (.ref x) {s with heap := h', toks := tk}) :
   wpAny (model p0 w) A (call (.ref 473) [.int num t0, rl, .ref pl]) Q E s := by
  obtain ⟨ra, rvs, rfl, hl, hal⟩ := hr
  refine callF (binds := [("number", .int num t0), ("rows", .ref ra), ("params", .ref pl), ("program", .ref 464), ("kerns", .ref 465), ("boundary", .int 256 _)]) R X T rfl (by k_is) (binds_K X rfl rfl rfl rfl rfl) (by kernel_rfl) rfl rfl rfl (by kernel_rfl) (fun L h₁ tk F N X T => ?_)
  repeat' (first | walk1 | (dsimp only; walk1))
  rename Fr _ _ _ _ => F8; rename News _ _ _ _ => N8; rename Obj.IsDictOf _ _ _ => D8; rename (_ == sysModules) = false => S8
  refine For_st F8 ?_
  repeat' (first | walk1 | (dsimp only; walk1))
  rename Fr _ _ _ _ => F7; rename News _ _ _ _ => N7
  refine turns_base (JFo w g s.heap rows [("number", .int num t0), ("params", .ref pl), ("program", .ref 464), ("kerns", .ref 465), ("boundary", .int 256 610)]) (.inl (isList_keeps hl hg)) F7 N7
    ⟨[], rows, [], _, _, _, g, rfl, hal, rfl, D8, .nil, ⟨fun b o e => .inl (hg b o e)⟩, fun _ _ e => e, by simp, fun b o e => .inl e, S8, rfl, rfl, rfl, rfl, rfl, rfl, trivial⟩ ?_ ?_
  · rintro v rest m₁ news₁ h₁ tk₁ I ito kK hK ⟨done, rs, kvs, dc, od, D, g', hrs, hall, rfl, hdo, hch, hG, hgg, hDd, hfr, hS, H⟩ hoff hc F N
    cases hall with | cons q hall =>
    rename_i r rs
    obtain ⟨a, u0, u1, u2, u3, u4, rfl, y⟩ := q
    replace F := frOf F H
    have hv : valueAt kvs r.code = none := valueAt_none_of_not_mem (by
      rw [all2_codes hch]
      rw [hrs, List.map_append, List.map_cons] at hnd
      have := (List.nodup_append.mp hnd).2.2
      exact fun q => this _ q _ (.head _) rfl)
    have hvn : (valueAt kvs r.code).isSome = false := by rw [hv]; rfl
    have hlen : kvs.length ≤ 1000 := by
      have h1 := hch.length; have h2 := hO.len
      rw [hrs, List.length_append] at h2
      omega
    cases hkd : r.kd with
    | plain =>
      rw [hkd] at y
      have y := isTup_keeps y hg
      repeat' (first | (rename (_ : List Int) = [] => q9; cases q9) | walk1 | (dsimp only; walk1))
      · rename Fr _ _ _ _ => F9; rename News _ _ _ _ => N9
        have S9 := And.intro F9 N9
        refine dset F9 N9 (by k_mem) hdo hlen (fun h' o' F' kb ho' hd' => ?_)
        clear F9 N9
        have N' : News s.heap L h' [] := News.nil
        repeat' (first | walk1 | (dsimp only; walk1))
        exact JFo.turn (vals := [.int r.wd u1, .int r.ht u2, .int r.dp u3, .int r.it u4, .int 0 _, .int 0 _]) hrs hall hdo hch hG hgg hDd hfr hS hoff hc hv S9.1 (newsPick S9.2) (newsTl (newsTl (newsTl (newsTl (newsTl (S9.2)))))) F' kb ho' hd' ⟨rfl, rfl, rfl, rfl, rfl, rfl, trivial⟩ (fun gg _ hT => ⟨_, _, _, _, _, _, _, rfl, by rw [hkd]; exact hT, by rw [hkd]; exact ⟨_, rfl⟩⟩)
      · rename ¬ (_ : Int) ≤ 7 => q; exact absurd (by simp) q
      · rename ¬ (4 : Int) ≤ _ => q; exact absurd (by simp) q
    | larger c =>
      rw [hkd] at y
      obtain ⟨u5, u6, y⟩ := y
      have y := isTup_keeps y hg
      repeat' (first | (rename (_ : List Int) = [] => q9; cases q9) | walk1 | (dsimp only; walk1))
      · rename Fr _ _ _ _ => F9; rename News _ _ _ _ => N9
        have S9 := And.intro F9 N9
        refine dset F9 N9 (by k_mem) hdo hlen (fun h' o' F' kb ho' hd' => ?_)
        clear F9 N9
        have N' : News s.heap L h' [] := News.nil
        repeat' (first | walk1 | (dsimp only; walk1))
        exact JFo.turn (vals := [.int r.wd u1, .int r.ht u2, .int r.dp u3, .int r.it u4, .int 2 u5, .int c u6]) hrs hall hdo hch hG hgg hDd hfr hS hoff hc hv S9.1 (newsPick S9.2) (newsTl (newsTl (newsTl (newsTl (newsTl (S9.2)))))) F' kb ho' hd' ⟨rfl, rfl, rfl, rfl, rfl, rfl, trivial⟩ (fun gg _ hT => ⟨_, _, _, _, _, _, _, rfl, by rw [hkd]; exact hT, by rw [hkd]; exact ⟨_, rfl⟩⟩)
      · rename ¬ (_ : Int) ≤ 7 => q; exact absurd (by simp) q
      · rename ¬ (4 : Int) ≤ _ => q; exact absurd (by simp) q
    | pieces pa pb pc pd =>
      rw [hkd] at y
      obtain ⟨u5, v, y, z⟩ := y
      have y := isTup_keeps y hg
      repeat' (first | (rename (_ : List Int) = [] => q9; cases q9) | walk1 | (dsimp only; walk1))
      · rename Fr _ _ _ _ => F9; rename News _ _ _ _ => N9
        have S9 := And.intro F9 N9
        refine dset F9 N9 (by k_mem) hdo hlen (fun h' o' F' kb ho' hd' => ?_)
        clear F9 N9
        have N' : News s.heap L h' [] := News.nil
        repeat' (first | walk1 | (dsimp only; walk1))
        exact JFo.turn (vals := [.int r.wd u1, .int r.ht u2, .int r.dp u3, .int r.it u4, .int 3 u5, v]) hrs hall hdo hch hG hgg hDd hfr hS hoff hc hv S9.1 (newsPick S9.2) (newsTl (newsTl (newsTl (newsTl (newsTl (S9.2)))))) F' kb ho' hd' ⟨rfl, rfl, rfl, rfl, rfl, rfl, trivial⟩ (fun gg k hT => ⟨_, _, _, _, _, _, _, rfl, by rw [hkd]; exact hT, by rw [hkd]; exact z.keeps k⟩)
      · rename ¬ (_ : Int) ≤ 7 => q; exact absurd (by simp) q
      · rename ¬ (4 : Int) ≤ _ => q; exact absurd (by simp) q
  · rintro h' tk m' news' F N ⟨done, rs, kvs, dc, od, D, g', hrs, hall, rfl, hdo, hch, hG, hgg, hDd, hfr, hS, H⟩
    cases hall
    rw [List.append_nil] at hrs
    subst hrs
    replace F := frOf F H
    repeat' (first | walk1 | (dsimp only; walk1))
    rename Fr _ _ _ _ => F9; rename News _ _ _ _ => N9; rename (_ : Str) ≠ Str.ofString "" => a9
    have hst := hG.stays F9 (newsTl N9)
    have G1 : Gx g s.heap _ g' := ⟨hgg, hst, hfr⟩
    have hp9 := isList_keeps hp F9.keep
    refine ⟨font_new_spec (mg := mg) (mb := mb) (g := g') (Rm.le Rm.an (by decide)) (X.keeps F9.keep) (trKeep T F9) hst h1 (by omega) a9 ⟨Heap.dictOf_iff.mpr ⟨od, (N9 _ (.head _)).1, hdo⟩, hch.imp fun _ _ q => ⟨q.1, q.2.keeps hst⟩, hS⟩ hch hO hp9 hi ha0 ha1 (fun h' tk g2 x kS G2 fo => ?_)⟩
    repeat walk1
    exact h _ _ g2 x (fun b o e => kS b o (F9.keep b o e)) (G1.trans F9.keep G2) fo
end
end Mine
end
section
set_option maxHeartbeats 1000000
namespace Mine
section
variable {w : World} {A : Around} {s : Shared} {E : Value → Shared → Prop} {Q : Value → Shared → Prop} {mg mb : Str → Option Value}
theorem families_new_spec (R : Rm 4 A) (X : (KF w.params).In s.heap) (T : TR mg mb s.heap) {g : Heap} (hg : g.StaysIn s.heap) {dr : Addr} {kvs : List (Int × Value)} {fs : List (Int × Fo)} (hd : s.heap.DictOf (intKind p0 w) dr kvs) (hds : (dr == sysModules) = false) (hlen : fs.length ≤ 100)
   (hall : All2 (fun (kv : Int × Value) (f : Int × Fo) => kv.1 = f.1 ∧ FontV w g kv.2 f.2) kvs fs)
   (h : ∀ h' tk g' x dx dr' es n, s.heap.StaysIn h' → Gx g s.heap h' g' → FamAt w g' x dx dr' es n kvs fs → Q (.ref x) {s with heap := h', toks := tk}) :
   wpAny (model p0 w) A (call (.ref 200) [.ref dr]) Q E s := by
  refine newM (binds := fun x => [("self", .ref x), ("rows", .ref dr)]) R X T (by k_is) (by k_is) (by k_is) rfl (by k_is) (fun x s' X' => BindsTo.of_eq (by kernel_rfl)) (fun x => by kernel_rfl) rfl rfl rfl (by kernel_rfl) (fun x dx L h₁ h₂ tk F N X₂ T₂ hs hdx hxL hsz => ?_)
  have csd := hd.keep hs
  have hkl : Nat.ble kvs.length 1000 = true := by
    have h1 := hall.length
    exact Nat.ble_eq_true_of_le (by omega)
  clear X T hd
  repeat' (first | walk1 | (dsimp only; walk1))
  rename Fr _ _ _ _ => F9; rename News _ _ _ _ => N9; rename Obj.IsDictOf _ _ _ => D9; rename (_ == sysModules) = false => S9
  have G9 := Gx.ext hg (fun b o e => F9.keep b o (hs b o e))
  exact h _ _ _ x dx _ _ _ (fun b o e => F9.keep b o (hs b o e)) G9 {
    inst := instAt_of (InstAt.of_news N9 (by k_mem) (by k_mem)) (ext_news hs N9 (by k_mem)) (ext_news hs N9 (by k_mem))
    rows := (by k_get)
    has := (by k_get)
    font := (by k_get)
    symbol := (by k_get)
    d := Heap.dictOf_iff.mpr ⟨_, ext_news hs N9 (by k_mem), D9⟩
    ds := S9
    all := hall.imp fun _ _ q => ⟨q.1, q.2.keeps G9.a⟩ }
end
end Mine
end
section
set_option maxHeartbeats 1000000
namespace Mine
section
variable {prog : Program} {w : World} {A : Around} {s : Shared} {E : Value → Shared → Prop} {Q : Value → Shared → Prop} {mg mb : Str → Option Value}
theorem callC {K : Frag} {name qual : Str} {params : Arguments} {st0 : Stmt} {body : List Stmt} {scope : Scope} {dV kV doc pm cdv ct oc : Value} {an od : Option Addr} {osl : Array (Option Value)} {f : Addr} {pos : List Value} {kw : List (Str × Value)} {binds : List (Str × Value)}
    {h₀ : Heap} {news : List (Addr × Obj)} {n : Nat} (R : Rm (n + 1) A) (X : K.In h₀) (T : TR mg mb h₀) (hk : h₀.StaysIn s.heap) (hn : ∀ p ∈ news, s.heap.get? p.1 = some p.2 ∧ h₀.get? p.1 = none)
    (ho : K.lookup f = some ⟨oc, od, .func (fnOf name qual params (st0 :: body) scope dV kV doc pm an cdv ct), osl⟩) (hcd : codeIn K cdv qual = true)
    (hbind : BindsTo s (fnOf name qual params (st0 :: body) scope dV kV doc pm an cdv ct) ⟨pos, kw⟩ binds) (hkind : (binds.all fun y => scope.names.lookup y.1 == some .local || scope.names.lookup y.1 == some .cell) = true)
    (hnd : ((cellsFrom 0 scope.names []).map (·.1)).Nodup)
    (hco : scope.isCoroutine = false) (hgen : scope.isGenerator = false) (hkd : scope.kind = .function)
    (h : ∀ L h₁ h₂ tk cells, Fr h₂ L h₁ (bindL (envOfC qual scope L f cdv).kindOf binds fun _ => none) → News h₂ L h₁ (cells ++ news) → CellsAre (bindC (envOfC qual scope L f cdv).kindOf binds fun _ => none) (cellsFrom (L + 1) scope.names []) cells →
      K.In h₂ → TR mg mb h₂ → (∀ b o, (∀ p ∈ news, p.1 ≠ b) → s.heap.get? b = some o → h₂.get? b = some o) → (∀ b o, h₂.get? b = some o → s.heap.get? b = some o) → (∀ p ∈ news, p.1 < L) → (∀ p ∈ cells, s.heap.get? p.1 = none) →
      ∀ K, (∀ fl s', Q (match fl with | .ret v => v | _ => .none) s' → KQ K fl s') → wpAny (model prog w) (An n) (execs (st0 :: body) (envOfC qual scope L f cdv))
        (KQ K) (fun _ _ => False)
        { s with heap := h₁, toks := tk }) : wpAny (model prog w) A (call (.ref f) pos kw) Q E s := by
  have st : h₀.StaysIn (hideAll s.heap (news.map (·.1))) := fun b o e => hideAll_get _ (hk b o e) (fun q => by
    obtain ⟨p, hp, rfl⟩ := List.mem_map.mp q
    rw [(hn p hp).2] at e; cases e)
  refine wpAny_call (codeAny_call_function (by have := R.d; show A.depth < 1000; omega) ((X.keeps hk) _ _ ho) rfl hco hgen rfl (codeRec_of (X.keeps hk) hcd) (hbind _ _ _ _ ?_))
  refine wpAny_newFunctionEnv_cells hkd (kindsX hkind _) fun env' he s' x => ?_
  subst he
  refine ⟨(T.nolimit.keeps hk).keeps x.toInCall.keep, codeAny_func ?_⟩
  obtain ⟨h₁, tk, rfl, _⟩ := x.done
  have hk₁ := x.toInCall.keep
  obtain ⟨cells, NC, Y⟩ := Cl.news (h₀ := s.heap) (Nat.le_refl _) fun n c hm => ⟨x.cell n c (lookup_of_mem_nodup (cellsFrom_names scope.names 0 (s.heap.objs.size + 1) [] [] rfl ▸ hnd) hm), x.above n c hm⟩
  refine wpAny_mono (R.to _ <| hideQ (h s.heap.objs.size h₁ (hideAll s.heap (List.map (fun (x : Addr × Obj) => x.fst) news)) tk cells ⟨x.toInCall.ns, fun b o e => hk₁ b o (of_hideAll _ e), Nat.le_of_eq (hideAll_size _ _)⟩ (fun p hp => ?_) Y (Frag.In.keeps X st) (T.keeps st)
    (fun b o hb e => hideAll_get _ e (fun q => by obtain ⟨p, hp, rfl⟩ := List.mem_map.mp q; exact hb p hp rfl)) (fun b o e => of_hideAll _ e) (fun p hp => Heap.lt_size (hn p hp).1) (fun p hp => (NC p hp).2.2))) (fun fl s' x => x) fun _ _ x => x.elim
  rcases List.mem_append.mp hp with hp | hp
  · refine ⟨(NC p hp).1, (NC p hp).2.1, ?_⟩
    cases q : (hideAll s.heap (news.map (·.1))).get? p.1 with
    | none => rfl
    | some o => have := of_hideAll _ q; rw [(NC p hp).2.2] at this; cases this
  · exact ⟨hk₁ _ _ (hn p hp).1, Nat.ne_of_lt (Heap.lt_size (hn p hp).1), hideAll_none _ (List.mem_map_of_mem hp)⟩
theorem callCF {K : Frag} {name qual : Str} {params : Arguments} {st0 : Stmt} {body : List Stmt} {scope : Scope} {dV kV doc pm cdv ct oc : Value} {an od : Option Addr} {osl : Array (Option Value)} {f : Addr} {pos : List Value} {kw : List (Str × Value)} {binds : List (Str × Value)}
    {n : Nat} (R : Rm (n + 1) A) (X : K.In s.heap) (T : TR mg mb s.heap)
    (ho : K.lookup f = some ⟨oc, od, .func (fnOf name qual params (st0 :: body) scope dV kV doc pm an cdv ct), osl⟩) (hcd : codeIn K cdv qual = true)
    (hbind : BindsTo s (fnOf name qual params (st0 :: body) scope dV kV doc pm an cdv ct) ⟨pos, kw⟩ binds) (hkind : (binds.all fun y => scope.names.lookup y.1 == some .local || scope.names.lookup y.1 == some .cell) = true)
    (hnd : ((cellsFrom 0 scope.names []).map (·.1)).Nodup)
    (hco : scope.isCoroutine = false) (hgen : scope.isGenerator = false) (hkd : scope.kind = .function)
    (h : ∀ L h₁ tk cells, Fr s.heap L h₁ (bindL (envOfC qual scope L f cdv).kindOf binds fun _ => none) → News s.heap L h₁ cells → CellsAre (bindC (envOfC qual scope L f cdv).kindOf binds fun _ => none) (cellsFrom (L + 1) scope.names []) cells →
      K.In s.heap → TR mg mb s.heap →
      ∀ K, (∀ fl s', Q (match fl with | .ret v => v | _ => .none) s' → KQ K fl s') → wpAny (model prog w) (An n) (execs (st0 :: body) (envOfC qual scope L f cdv))
        (KQ K) (fun _ _ => False)
        { s with heap := h₁, toks := tk }) : wpAny (model prog w) A (call (.ref f) pos kw) Q E s := by
  refine wpAny_call (codeAny_call_function (by have := R.d; show A.depth < 1000; omega) (X _ _ ho) rfl hco hgen rfl (codeRec_of X hcd) (hbind _ _ _ _ ?_))
  refine wpAny_newFunctionEnv_cells hkd (kindsX hkind _) fun env' he s' x => ?_
  subst he
  refine ⟨T.nolimit.keeps x.toInCall.keep, codeAny_func ?_⟩
  obtain ⟨h₁, tk, rfl, _⟩ := x.done
  have hk₁ := x.toInCall.keep
  obtain ⟨cells, NC, Y⟩ := Cl.news (h₀ := s.heap) (Nat.le_refl _) fun n c hm => ⟨x.cell n c (lookup_of_mem_nodup (cellsFrom_names scope.names 0 (s.heap.objs.size + 1) [] [] rfl ▸ hnd) hm), x.above n c hm⟩
  exact wpAny_mono (R.to _ <| hideQ (h s.heap.objs.size h₁ tk cells ⟨x.toInCall.ns, hk₁, Nat.le_refl _⟩ (fun p hp => ⟨(NC p hp).1, (NC p hp).2.1, (NC p hp).2.2⟩) Y X T)) (fun fl s' x => x) fun _ _ x => x.elim
section
variable {env : Env} {h₀ : Heap} {target : Expr} {body : List Stmt} {Q : Flow → Shared → Prop}
theorem turns_tupK {L : Addr} {items : List Value} {ax : Addr} {m : Str → Option Value} {news : List (Addr × Obj)} (J : List Value → (Str → Option Value) → Prop)
    (hm : (ax, { cls := .type "tuple", data := .seq items.toArray }) ∈ news) (F : Fr h₀ L s.heap m) (N : News h₀ L s.heap news) (h0 : J items m)
    (turn : ∀ v rest m₁ h₁ tk₁ (I : Addr) ito, ∀ K, (∀ f z, TurnP h₀ L I ito (fun m n => n = news ∧ J rest m) { s with heap := h₁, toks := tk₁ } Q f z → KQ K f z) → J (v :: rest) m₁ → (∀ p ∈ news, p.1 ≠ I) → ItrC ito → Fr h₀ L h₁ m₁ → News h₀ L h₁ ((I, ito) :: news) →
      wpAny (model prog w) A (assign target env v) (fun _ s₃ => wpAny (model prog w) A (execs body env) (KQ K) E s₃) E { s with heap := h₁, toks := tk₁ })
    (done : ∀ h' tk m', Fr h₀ L h' m' → News h₀ L h' news → J [] m' → Q .next { s with heap := h', toks := tk })
    (hh : A.handled = none := by rfl) (hL : env.locals = L := by rfl) :
    Stop (wpAny (model prog w) A (pyIter (.ref ax)) (fun it s₂ => TurnsAt prog w A h₀ env target body Q E it s₂) E s) := by
  subst hL
  exact ⟨turns_tup (items := items) (oax := { cls := .type "tuple", data := .seq items.toArray }) (fun rest m n => n = news ∧ J rest m) hh (fun h e => ⟨_, e, rfl, _, rfl⟩) (fun q => (N _ hm).2.1 q.symm) (fun _ _ _ _ j _ N' => (N' _ (j.1 ▸ hm)).1) F N ⟨rfl, h0⟩
    (fun v rest m₁ news₁ h₁ tk₁ I ito K hK j hoff hc F₁ N₁ => by obtain ⟨rfl, j⟩ := j; exact turn v rest m₁ h₁ tk₁ I ito K hK j hoff hc F₁ N₁) (fun h' tk m' news' F' N' j => by obtain ⟨rfl, j⟩ := j; exact done h' tk m' F' N' j)⟩
theorem turns_listK {L : Addr} {items : List Value} {ax : Addr} {k : Nat} {m : Str → Option Value} {news : List (Addr × Obj)} (J : List Value → (Str → Option Value) → Prop)
    (hm : (ax, { cls := .type "list", data := .seq items.toArray k }) ∈ news) (F : Fr h₀ L s.heap m) (N : News h₀ L s.heap news) (h0 : J items m)
    (turn : ∀ v rest m₁ h₁ tk₁ (I : Addr) ito, ∀ K, (∀ f z, TurnP h₀ L I ito (fun m n => n = news ∧ J rest m) { s with heap := h₁, toks := tk₁ } Q f z → KQ K f z) → J (v :: rest) m₁ → (∀ p ∈ news, p.1 ≠ I) → ItrC ito → Fr h₀ L h₁ m₁ → News h₀ L h₁ ((I, ito) :: news) →
      wpAny (model prog w) A (assign target env v) (fun _ s₃ => wpAny (model prog w) A (execs body env) (KQ K) E s₃) E { s with heap := h₁, toks := tk₁ })
    (done : ∀ h' tk m', Fr h₀ L h' m' → News h₀ L h' news → J [] m' → Q .next { s with heap := h', toks := tk })
    (hh : A.handled = none := by rfl) (hL : env.locals = L := by rfl) :
    Stop (wpAny (model prog w) A (pyIter (.ref ax)) (fun it s₂ => TurnsAt prog w A h₀ env target body Q E it s₂) E s) := by
  subst hL
  exact ⟨turns_list (items := items) (oax := { cls := .type "list", data := .seq items.toArray k }) (fun rest m n => n = news ∧ J rest m) hh (fun h e => ⟨_, e, rfl, _, rfl⟩) (fun q => (N _ hm).2.1 q.symm) (fun _ _ _ _ j _ N' => (N' _ (j.1 ▸ hm)).1) F N ⟨rfl, h0⟩
    (fun v rest m₁ news₁ h₁ tk₁ I ito K hK j hoff hc F₁ N₁ => by obtain ⟨rfl, j⟩ := j; exact turn v rest m₁ h₁ tk₁ I ito K hK j hoff hc F₁ N₁) (fun h' tk m' news' F' N' j => by obtain ⟨rfl, j⟩ := j; exact done h' tk m' F' N' j)⟩
end
theorem newsMk {h₀ h : Heap} {L : Addr} {p : Addr × Obj} {l l' : List (Addr × Obj)} (N : News h₀ L h l) (hm : p ∈ l) (r : News h₀ L h l') : News h₀ L h (p :: l') := fun q hq => by
  rcases List.mem_cons.mp hq with rfl | hq
  · exact N _ hm
  · exact r q hq
inductive FrP (h₀ : Heap) (L : Addr) (s₀ : Shared) (news : List (Addr × Obj)) (J : (Str → Option Value) → List (Addr × Obj) → Prop) (s' : Shared) : Prop
  | mk (h' : _)(tk : _)(m' : _)(pre : _) (h0 : s' = { s₀ with heap := h', toks := tk }) (h1 : Fr h₀ L h' m') (h2 : News h₀ L h' (pre ++ news)) (h3 : J m' pre) : FrP h₀ L s₀ news J s'
section
variable {env : Env} {h₀ : Heap} {L : Addr}
theorem If_go {m : Str → Option Value} {news : List (Addr × Obj)} {test : Expr} {b1 b2 : List Stmt} {pos : Pos} {Q : Flow → Shared → Prop} (J : (Str → Option Value) → List (Addr × Obj) → Prop) (_F : Fr h₀ L s.heap m) (_N : News h₀ L s.heap news)
    (h1 : Going → ∀ K, (∀ f s', f = .next ∧ FrP h₀ L s news J s' → KQ K f s') → wpAny (model p0 w) A (exec (.If test b1 b2 pos) env) (KQ K) E s) (h2 : ∀ h' tk m' pre, Fr h₀ L h' m' → News h₀ L h' (pre ++ news) → J m' pre → Q .next { s with heap := h', toks := tk }) :
    Stop (wpAny (model p0 w) A (exec (.If test b1 b2 pos) env) Q E s) :=
  If_st (FrP h₀ L s news J) (fun g => hideQ (h1 g)) (fun s' p => by obtain ⟨h', tk, m', news', rfl, F, N, j⟩ := p; exact h2 h' tk m' news' F N j)
theorem IfE_go {m : Str → Option Value} {news : List (Addr × Obj)} {e : Expr} {Q : Value → Shared → Prop} (J : Value → (Str → Option Value) → List (Addr × Obj) → Prop) (_F : Fr h₀ L s.heap m) (_N : News h₀ L s.heap news)
    (h1 : Going → ∀ K, (∀ v s', FrP h₀ L s news (J v) s' → KQ K v s') → wpAny (model p0 w) A (eval e env) (KQ K) E s) (h2 : ∀ v h' tk m' pre, Fr h₀ L h' m' → News h₀ L h' (pre ++ news) → J v m' pre → Q v { s with heap := h', toks := tk }) :
    Stop (wpAny (model p0 w) A (eval e env) Q E s) :=
  ⟨wpAny_mono (hideQ (h1 ⟨⟩)) (fun v s' p => by obtain ⟨h', tk, m', news', rfl, F, N, j⟩ := p; exact h2 v h' tk m' news' F N j) fun _ _ e => e⟩
end
section
open PyProof.Rows.LCg
variable {env : Env} {h₀ : Heap} {L : Addr} {m : Str → Option Value}
theorem compEnd_map {I C D : Addr} {s₁ : Shared} {oI oC oD : Obj} {S S' : List (Addr × Obj) → Prop} {r r' : Value → List (Addr × Obj) → Prop} {y : Value} {s₂ : Shared} (x : CompEnd h₀ L m s₁ I oI C oC D oD S r y s₂) (f : ∀ n, S n → r y n → S' n ∧ r' y n) : CompEnd h₀ L m s₁ I oI C oC D oD S' r' y s₂ := by
  obtain ⟨h', tk, n', e, F, N, o, hs, k⟩ := x
  exact ⟨h', tk, n', e, F, N, o, f n' hs k⟩
theorem compEnd_mono {I C D : Addr} {s₁ : Shared} {oI oC oD : Obj} {S : List (Addr × Obj) → Prop} {r r' : Value → List (Addr × Obj) → Prop} {y : Value} {s₂ : Shared} (x : CompEnd h₀ L m s₁ I oI C oC D oD S r y s₂) (f : ∀ n, r y n → r' y n) : CompEnd h₀ L m s₁ I oI C oC D oD S r' y s₂ :=
  compEnd_map x fun n a b => ⟨a, f n b⟩
theorem compTurns {elt : Expr} {x : Str} {scope : Scope} {cl : List (Str × Addr)} {S : List (Addr × Obj) → Prop} {P : Nat → Value → Prop} {Fin : List Value → List (Addr × Obj) → Prop} {n : Nat} (J : Nat → List Value → List (Addr × Obj) → Prop)
    (turn : ∀ i v ys news I oI C oC D m₂ h tk (E' : Value → Shared → Prop), i < n → P i v → J i ys news → NsObj oC m₂ → m₂ x = some v → Fr h₀ L h m → News h₀ L h ((I, oI) :: (C, oC) :: (D, lst ys) :: news) → Off3 I C D news → ((@Ne Nat I C) ∧ (@Ne Nat I D) ∧ (@Ne Nat C D)) →
      wpAny (model p0 w) A (eval elt (compEnvC scope cl C env)) (CompEnd h₀ L m { s with heap := h, toks := tk } I oI C oC D (lst ys) S (fun y news' => J (i + 1) (ys ++ [y]) news')) E' { s with heap := h, toks := tk })
    (fin : ∀ ys news, J n ys news → Fin ys news) : ∀ k i ys news, i + k = n → J i ys news → CompRest p0 w A h₀ L m env elt x scope cl s S P Fin k i ys news
  | 0, i, ys, news, e, j => CompRest.zero (fin _ _ (by have : i = n := by omega
                                                       subst this; exact j))
  | k + 1, i, ys, news, e, j => CompRest.succ fun v I oI C oC D m₂ h tk E' p hC hx F N o ne =>
      wpAny_mono (turn i v ys news I oI C oC D m₂ h tk E' (by omega) p j hC hx F N o ne) (fun y s₂ q => compEnd_mono q fun n' j' => compTurns J turn fin k (i + 1) (ys ++ [y]) n' (by omega) j') fun _ _ e => e
theorem dOf_off {g h h' g' : Heap} {D : List (Addr × Obj)} {a : Addr} (x : Gh h₀ g D) (y : Gx g h h' g') (e : ∃ o, h.get? a = some o) (hD : ∀ q ∈ D, q.1 ≠ a) : ∀ p ∈ dOf h₀ g', p.1 ≠ a := by
  intro p hp q
  obtain ⟨h1, h2⟩ := mem_dOf.mp (show (p.1, p.2) ∈ _ from hp)
  obtain ⟨o, e⟩ := e
  rcases y.c _ _ h2 with r | r
  · rcases x.d _ _ r with r | r
    · rw [h1] at r; cases r
    · exact hD _ r q
  · rw [q, e] at r; cases r
theorem letter_ext {g h h' : Heap} {x dx : Addr} {es : List DictEntry} {n : Nat} {wd ht dp : Int} {li : Addr} {nl : Nat} {c dc : Addr} {esc : List DictEntry} {nc : Nat} {fontv : Value} {code : Int} (b : LetterAt h' x dx es n wd ht dp li nl c dc esc nc fontv code) (f : ∀ a ∈ [x, dx, li, c, dc], h.get? a = none) :
    LetterAt (ext g h h') x dx es n wd ht dp li nl c dc esc nc fontv code :=
  ⟨{ b.box with hx := ext_get b.box.hx (f _ (by simp)), hd := ext_get b.box.hd (f _ (by simp)) }, ext_get b.li (f _ (by simp)), { b.ch with hx := ext_get b.ch.hx (f _ (by simp)), hd := ext_get b.ch.hd (f _ (by simp)) }⟩
inductive LetV (g : Heap) (fv : Value) (rows : List Row) (v : Value) (c : Int) : Prop
  | mk (x : _)(dx : _)(es : _)(n : _)(li : _)(nl : _)(c1 : _)(dc : _)(esc : _)(nc : _) (h0 : v = .ref x) (h1 : LetterAt g x dx es n ((rowD rows c).wd + (rowD rows c).it) (rowD rows c).ht (rowD rows c).dp li nl c1 dc esc nc fv c) : LetV g fv rows v c
theorem LetV.keeps {g g' : Heap} {fv : Value} {rows : List Row} {v : Value} {c : Int} (x : LetV g fv rows v c) (k : g.StaysIn g') : LetV g' fv rows v c :=
  let ⟨x, dx, es, n, li, nl, c1, dc, esc, nc, e, b⟩ := x; ⟨x, dx, es, n, li, nl, c1, dc, esc, nc, e, b.keeps k⟩
end
section
variable {h₀ : Heap} {L : Addr} {m : Str → Option Value}
theorem instAt_mk {g : Heap} {x dx C : Addr} {o : Obj} (e1 : g.get? x = some (instObj C dx)) (e2 : g.get? dx = some o) : InstAt g x (instObj C dx) C (some o) := ⟨e1, rfl, rfl, e2⟩
theorem attr_ghost {Q : Value → Shared → Prop} {K : Frag} {g : Heap} {x C : Addr} {ox : Obj} {es : List DictEntry} {n : Nat} {name : Str} {v : Value} {expr : Bool} {attr : Option Value} {D news : List (Addr × Obj)} (F : Fr h₀ L s.heap m) (X₀ : K.In h₀) (N : News h₀ L s.heap news) (G : Gh h₀ g D) (hs : ∀ p ∈ D, p ∈ news)
    (I : InstAt g x ox C (some (dictOf es n))) (hl : getL name es = some (some v)) (hg : plainGet K C name = true) (hh : hasDictIn K C = true) (ha : findIn K (.ref C) name = some attr) (hn : noGet K attr = true) (hv : handedIn v = true)
    (h : Q v { s with toks := s.toks + 1 }) : wpAny (model p0 w) A (getAttr (.ref x) name expr) Q E s := get_own F X₀ (instAt_keeps I (G.stays F fun p hp => N p (hs p hp))) hg hh ha hn hl hv h
theorem ext_sub {g s h' g' : Heap} (k : g'.StaysIn h') (c : ∀ b o, g'.get? b = some o → g.get? b = some o ∨ s.get? b = none) : g'.StaysIn (ext g s h') := fun b o e => sub_get (k b o e) (by
  rcases c b o e with q | q
  · simp [q]
  · simp [q])
theorem but_sub {g g' : Heap} {l : List Addr} (k : g'.StaysIn g) (c : ∀ a ∈ l, g'.get? a = none) : g'.StaysIn (but g l) := fun b o e => but_get (k b o e) (fun q => by rw [c b q] at e; cases e)
end
theorem ne_lens {l b : Addr} {items items2 : Array Value} {Q : Value → Shared → Prop} (hl : s.heap.IsList l items) (hb : s.heap.IsList b items2) (hsz : (items.size != items2.size) = true) (hu : A.units < cLine)
    (h : Q (.bool true) s) : wpAny (model p0 w) A (compareOp .NotEq (.ref l) (.ref b)) Q E s :=
  cmp_ofNotEq (PySem.SeqAt.RcNeAt.lists_lengths hl hb hsz hu _ _ _ _ h)
end
end Mine
end
section
namespace Mine
section
variable {w : World} {A : Around} {s : Shared} {E : Value → Shared → Prop} {h₀ : Heap} {L : Addr} {m : Str → Option Value} {news : List (Addr × Obj)}
noncomputable def IfPost (h₀ : Heap) (L : Addr) (s : Shared) (news : List (Addr × Obj)) (Jc J : (Str → Option Value) → List (Addr × Obj) → Prop) (f : Flow) (s' : Shared) : Prop := match f with
  | .cont => FrP h₀ L s news Jc s'
  | .next => FrP h₀ L s news J s'
  | _ => False
theorem If_goc {env : Env} {test : Expr} {b1 b2 : List Stmt} {pos : Pos} {Q : Flow → Shared → Prop} (Jc J : (Str → Option Value) → List (Addr × Obj) → Prop) (_F : Fr h₀ L s.heap m) (_N : News h₀ L s.heap news)
    (h1 : Going → ∀ K, (∀ f s', IfPost h₀ L s news Jc J f s' → KQ K f s') → wpAny (model p0 w) A (exec (.If test b1 b2 pos) env) (KQ K) E s)
    (h3 : ∀ h' tk m' pre, Fr h₀ L h' m' → News h₀ L h' (pre ++ news) → Jc m' pre → Q .cont { s with heap := h', toks := tk }) (h2 : ∀ h' tk m' pre, Fr h₀ L h' m' → News h₀ L h' (pre ++ news) → J m' pre → Q .next { s with heap := h', toks := tk }) :
    Stop (wpAny (model p0 w) A (exec (.If test b1 b2 pos) env) Q E s) :=
  ⟨wpAny_mono (hideQ (h1 ⟨⟩)) (fun f s' p => by
    cases f with
    | cont => obtain ⟨h', tk, m', news', rfl, F, N, j⟩ := p; exact h3 h' tk m' news' F N j
    | next => obtain ⟨h', tk, m', news', rfl, F, N, j⟩ := p; exact h2 h' tk m' news' F N j
    | ret v => exact p.elim
    | brk => exact p.elim) fun _ _ e => e⟩
end
end Mine
end
theorem Mine.kbase2 : True := by
  k_with_none
  k_with "om" =>
    first
    | with_reducible assumption
    | decide +kernel
    | (with_reducible show @LE.le Int _ _ _); first
      | with_reducible exact Int.natCast_nonneg _
      | with_reducible exact Int.le_refl _
      | with_reducible exact Int.le_trans (by with_reducible assumption) (by decide +kernel)
      | with_reducible exact oi1 (by with_reducible assumption) (by decide +kernel)
      | with_reducible exact oiC (by with_reducible assumption) (by decide +kernel)
      | with_reducible exact oi4 (by with_reducible assumption) (by decide +kernel)
      | with_reducible exact oi5 (by with_reducible assumption) (by decide +kernel)
      | with_reducible exact oiM (by with_reducible assumption) (by decide +kernel)
      | with_reducible exact oiB (by with_reducible assumption) (by decide +kernel)
      | with_reducible exact oiD (by with_reducible assumption) (by decide +kernel)
      | with_reducible exact Int.mul_nonneg (by decide +kernel) (by with_reducible assumption)
      | with_reducible exact Int.le_add_of_nonneg_right (by with_reducible assumption)
      | with_reducible exact Int.le_add_of_nonneg_right (by decide +kernel)
      | with_reducible exact Int.add_nonneg (by with_reducible assumption) (by decide +kernel)
      | with_reducible exact Int.add_nonneg (by decide +kernel) (by with_reducible assumption)
      | with_reducible exact oiG (by with_reducible assumption) (by decide +kernel)
      | ((repeat with_reducible refine oiE ?_); with_reducible exact Int.le_add_of_nonneg_right (by decide +kernel))
      | with_reducible exact oaR (by with_reducible assumption) (by decide +kernel)
      | with_reducible exact oaL (by with_reducible assumption) (by decide +kernel)
    | (with_reducible show @LT.lt Int _ _ _); first
      | with_reducible exact Int.lt_of_le_of_lt (by with_reducible assumption) (by decide +kernel)
      | with_reducible exact Int.lt_of_lt_of_le (by with_reducible assumption) (by decide +kernel)
      | with_reducible exact oi2 (by with_reducible assumption) (by decide +kernel)
      | with_reducible exact oi3 (by with_reducible assumption) (by decide +kernel)
      | with_reducible exact oiF (by with_reducible assumption) (by decide +kernel)
      | with_reducible exact oaS (by with_reducible assumption) (by decide +kernel)
      | with_reducible exact oaT (by with_reducible assumption) (by decide +kernel)
      | ((repeat with_reducible refine oiS ?_); with_reducible exact oi2 (by with_reducible assumption) (by decide +kernel))
      | (with_reducible refine' Int.lt_of_lt_of_le ?h ?d; (case h => (repeat (with_reducible refine' oiA ?_)); with_reducible assumption); (case d => decide +kernel))
    | (with_reducible show @LE.le Nat _ _ _); first
      | with_reducible exact Nat.le_trans (by with_reducible assumption) (by decide +kernel)
      | with_reducible exact on1 (by with_reducible assumption) (by decide +kernel)
      | with_reducible exact on4 (by with_reducible assumption) (by decide +kernel)
      | with_reducible exact on7 (by with_reducible assumption) (by with_reducible assumption) (by decide +kernel)
      | with_reducible exact on8 (by with_reducible assumption) (by with_reducible assumption) (by decide +kernel)
      | with_reducible exact onB (by with_reducible assumption) (by decide +kernel)
    | (with_reducible show @LT.lt Nat _ _ _); first
      | with_reducible exact abB (by with_reducible assumption) (by with_reducible assumption) (by decide +kernel)
      | with_reducible exact abC (by with_reducible assumption) (by with_reducible assumption) (by decide +kernel)
      | with_reducible exact abD (by with_reducible assumption) (by with_reducible assumption) (by decide +kernel)
      | with_reducible exact Nat.lt_of_le_of_lt (by with_reducible assumption) (by decide +kernel)
      | with_reducible exact Nat.lt_of_lt_of_le (by with_reducible assumption) (by decide +kernel)
      | with_reducible exact on2 (by with_reducible assumption) (by decide +kernel)
      | with_reducible exact Nat.lt_add_one _
      | ((with_reducible show Int.toNat (_ - _) + 1 < Int.toNat (_ - _) + 1); exact tnD (by omega) (by omega))
      | ((repeat with_reducible refine onS ?_); with_reducible exact on2 (by with_reducible assumption) (by decide +kernel))
    | ((with_reducible show ¬ (decide (_ ≤ _) && decide (_ ≤ _)) = !true); refine bndN ?_ ?_ <;> omega)
    | ((with_reducible show ¬ ((_ : Int) < _)); refine Int.not_lt.mpr ?_; omega)
    | ((with_reducible show ¬ ((_ : Int) ≤ _)); refine Int.not_le.mpr ?_; omega)
    | ((with_reducible show And _ _); refine And.intro ?_ ?_ <;> omega)
    | lia
  k_with "ne" =>
    (try dsimp only); first | with_reducible assumption | (refine Ne.symm ?_; with_reducible assumption) | exact Nat.ne_of_lt (by with_reducible assumption) | exact Nat.ne_of_gt (by with_reducible assumption) | (refine pkH (by with_reducible assumption) ?_; (repeat (first | exact And.left | exact id | refine pkT ?_)); done) | (refine pkS (by with_reducible assumption) ?_; (repeat (first | exact And.left | exact id | refine pkT ?_)); done) | exact nl1 (by with_reducible assumption) | exact nl2 (by with_reducible assumption) | exact Ne.symm (nl1 (by with_reducible assumption)) | exact Ne.symm (nl2 (by with_reducible assumption))
  k_with "execs cons" => (first | k_gentoks | ((first | (with_reducible show wpAny _ _ (execs [_] _) (KQ _) _ _) | (with_reducible show wpAny _ _ (execs [_] _) (KG _) _ _)); refine' execs1 ?_) | (refine' execsH ?_; first | ((fail_if_success (have := kn1)); intro kq1 kn1 ko1) | ((fail_if_success (have := kn2)); intro kq2 kn2 ko2) | ((fail_if_success (have := kn3)); intro kq3 kn3 ko3)))
  k_with "exs" => (first | k_gentoks | ((first | (with_reducible show wpAny _ _ (execs [_] _) (KQ _) _ _) | (with_reducible show wpAny _ _ (execs [_] _) (KG _) _ _)); refine' execs1 ?_) | (refine' execsN ?_; first | ((fail_if_success (have := kn1)); intro kq1 kn1) | ((fail_if_success (have := kn2)); intro kq2 kn2) | ((fail_if_success (have := kn3)); intro kq3 kn3)))
  k_with "execs cons Assign" => k_extra "exs"
  k_with "execs cons AugAssign" => k_extra "exs"
  k_with "execs cons Expr" => k_extra "exs"
  k_with "KG" => (first | (refine' kn3 _ ?_; (try clear ko3); clear kn3 kq3) | (refine' kn2 _ ?_; (try clear ko2); clear kn2 kq2) | (refine' kn1 _ ?_; (try clear ko1); clear kn1 kq1) | (refine' ko3 _ _ rfl ?_; clear ko3 kn3 kq3) | (refine' ko2 _ _ rfl ?_; clear ko2 kn2 kq2) | (refine' ko1 _ _ rfl ?_; clear ko1 kn1 kq1)); (try dsimp only)
  k_with "KQ" => (first | ((rename (∀ a s, _ → KQ _ a s) => kz); refine' kz _ _ ?_) | ((rename (∀ (_ : Unit) s, _ → KQ _ () s) => kz); refine' kz () _ ?_)); clear kz; (try clear kyb); try dsimp only
  k_with "isT" => (goal_has PySem.execs; (fail_if_success (with_reducible show wpAny _ _ _ (KQ _) _ _)); refine' hideQ ?_; intro kyb kyh)
  k_with "isTrue Compare" => k_extra "isT"
  k_with "isTrue BoolOp" => k_extra "isT"
  k_with "isTrue UnaryOp" => k_extra "isT"
  k_with "exec While BoolOp" => (refine' stop_here ?_)
  k_with "exec For Tuple Tuple cons nil" => (refine' stop_here ?_)
  k_with "exec For Name Name cons nil" => (refine' stop_here ?_)
  k_with "exec For Name Attribute cons nil" => (refine' stop_here ?_)
  k_with "last exec For Name" => (refine' stop_here ?_)
  k_with "last exec For" => (refine' stop_here ?_)
  k_with "exec While" => (refine' stop_here ?_)
  k_with "last exec While" => (refine' stop_here ?_)
  k_with "exec For" => (refine' stop_here ?_)
  k_with "last exec For Name Name" => (refine' stop_here ?_)
  k_with "exec For Name Call cons nil" => (refine' stop_here ?_)
  k_with "exec For Name Tuple cons nil" => (refine' stop_here ?_)
  k_with "exec For Tuple Name cons nil" => (refine' stop_here ?_)
  k_with "exec While Compare" => (refine' stop_here ?_)
  k_with "exec For Tuple Call cons nil" => (refine' stop_here ?_)
  trivial
section
set_option maxHeartbeats 1000000
namespace Mine
section
variable {w : World} {A : Around} {s : Shared} {E : Value → Shared → Prop} {Q : Value → Shared → Prop} {mg mb : Str → Option Value}
theorem ksetGr1 : True := by
  k_with "p world" => (first | exact Rm.le Rm.an (by decide) | k_in | exact trKeep (by k_asm) (by k_asm))
  k_with "p after" => (intro _ _ kS; (rename Fr _ _ _ _ => kF); (rename News _ _ _ _ => kN); (have _ := frAfter kF kS); (have _ := newsAfter kN kS); (try k_sweep); intros)
  k_with "WStep" => (dsimp only [WStep])
  k_with "TurnP" => (dsimp only [TurnP])
  k_with "call ref" => ((with_reducible show wpAny _ _ (call (Value.ref 169) _ _) _ _ _); (rename Fr _ _ _ _ => kF0); (rename FamAt _ _ _ _ _ _ _ _ _ => kf); refine' fam_has_f (mg := mg) (mb := mb) ?k1 ?k2 ?k3 (FamAt.keeps kf (Fr.keep kF0)) ?k4 ?k5 ?k6 ?k7 ?k8 ?_; (case k1 => walk_at "p world"); (case k2 => walk_at "p world"); (case k3 => walk_at "p world"); (case k8 => k_asm); (case k4 => omega); (case k5 => omega); (case k6 => omega); (case k7 => omega); walk_at "p after")
  k_with "call ref" => ((with_reducible show wpAny _ _ (call (Value.ref 169) _ _) _ _ _); (rename Fr _ _ _ _ => kF0); (rename FamAt _ _ _ _ _ _ _ _ _ => kf); refine' fam_has_t (mg := mg) (mb := mb) ?k1 ?k2 ?k3 (FamAt.keeps kf (Fr.keep kF0)) ?k4 ?k5 ?k6 ?k7 ?k8 ?_; (case k1 => walk_at "p world"); (case k2 => walk_at "p world"); (case k3 => walk_at "p world"); (case k8 => k_asm); (case k4 => omega); (case k5 => omega); (case k6 => omega); (case k7 => omega); walk_at "p after")
  k_with "call ref" => ((with_reducible show wpAny _ _ (call (Value.ref 176) _ _) _ _ _); (rename Fr _ _ _ _ => kF0); (rename FamAt _ _ _ _ _ _ _ _ _ => kf); refine' fam_font_spec (mg := mg) (mb := mb) ?k1 ?k2 ?k3 (FamAt.keeps kf (Fr.keep kF0)) ?k4 ?k5 ?k6 ?k7 ?k8 ?_; (case k1 => walk_at "p world"); (case k2 => walk_at "p world"); (case k3 => walk_at "p world"); (case k8 => k_asm); (case k4 => omega); (case k5 => omega); (case k6 => omega); (case k7 => omega); walk_at "p after")
  k_with "call ref" => ((with_reducible show wpAny _ _ (call (Value.ref 386) _ _) _ _ _); (rename Fr _ _ _ _ => kF0); (rename FontAt _ _ _ _ _ _ _ _ _ _ _ _ _ _ => kf); refine' font_has_f (mg := mg) (mb := mb) ?k1 ?k2 ?k3 (FontAt.keeps kf (Fr.keep kF0)) ?k4 ?_; (case k1 => walk_at "p world"); (case k2 => walk_at "p world"); (case k3 => walk_at "p world"); (case k4 => k_asm); walk_at "p after")
  k_with "call ref" => ((with_reducible show wpAny _ _ (call (Value.ref 386) _ _) _ _ _); (rename Fr _ _ _ _ => kF0); (rename FontAt _ _ _ _ _ _ _ _ _ _ _ _ _ _ => kf); refine' font_has_t (mg := mg) (mb := mb) ?k1 ?k2 ?k3 (FontAt.keeps kf (Fr.keep kF0)) ?k4 ?_; (case k1 => walk_at "p world"); (case k2 => walk_at "p world"); (case k3 => walk_at "p world"); (case k4 => k_asm); walk_at "p after")
  k_with "call ref" => ((with_reducible show wpAny _ _ (call (Value.ref 435) _ _) _ _ _); (rename Fr _ _ _ _ => kF0); (rename FontAt _ _ _ _ _ _ _ _ _ _ _ _ _ _ => kf); refine' font_pieces_n (mg := mg) (mb := mb) ?k1 ?k2 ?k3 (FontAt.keeps kf (Fr.keep kF0)) ?k4 ?_; (case k1 => walk_at "p world"); (case k2 => walk_at "p world"); (case k3 => walk_at "p world"); (case k4 => k_asm); walk_at "p after")
  k_with "call ref" => ((with_reducible show wpAny _ _ (call (Value.ref 435) _ _) _ _ _); (rename Fr _ _ _ _ => kF0); (rename FontAt _ _ _ _ _ _ _ _ _ _ _ _ _ _ => kf); refine' font_pieces_t (mg := mg) (mb := mb) ?k1 ?k2 ?k3 (FontAt.keeps kf (Fr.keep kF0)) ?k4 ?_; (case k1 => walk_at "p world"); (case k2 => walk_at "p world"); (case k3 => walk_at "p world"); (case k4 => k_asm); walk_at "p after")
  k_with "call ref" => ((with_reducible show wpAny _ _ (call (Value.ref 400) _ _) _ _ _); (rename Fr _ _ _ _ => kF0); (rename FontAt _ _ _ _ _ _ _ _ _ _ _ _ _ _ => kf); refine' font_height_spec (mg := mg) (mb := mb) ?k1 ?k2 ?k3 (FontAt.keeps kf (Fr.keep kF0)) ?_; (case k1 => walk_at "p world"); (case k2 => walk_at "p world"); (case k3 => walk_at "p world"); walk_at "p after")
  k_with "call ref" => ((with_reducible show wpAny _ _ (call (Value.ref 407) _ _) _ _ _); (rename Fr _ _ _ _ => kF0); (rename FontAt _ _ _ _ _ _ _ _ _ _ _ _ _ _ => kf); refine' font_depth_spec (mg := mg) (mb := mb) ?k1 ?k2 ?k3 (FontAt.keeps kf (Fr.keep kF0)) ?_; (case k1 => walk_at "p world"); (case k2 => walk_at "p world"); (case k3 => walk_at "p world"); walk_at "p after")
  k_with "call ref" => ((with_reducible show wpAny _ _ (call (Value.ref 428) _ _) _ _ _); (rename Fr _ _ _ _ => kF0); (rename FontAt _ _ _ _ _ _ _ _ _ _ _ _ _ _ => kf); refine' font_larger_spec (mg := mg) (mb := mb) ?k1 ?k2 ?k3 (FontAt.keeps kf (Fr.keep kF0)) ?_; (case k1 => walk_at "p world"); (case k2 => walk_at "p world"); (case k3 => walk_at "p world"); walk_at "p after")
  k_with "getAttr ref" => (k_dflt (refine' attr_base ?k1 ?k2 ?k3 ?k4 ?k5 ?k6 ?k7 ?k8 ?k9 ?_; (case k3 => k_asm); (case k1 => k_asm); (case k2 => k_asm); (case k4 => k_asm); (case k5 => k_is); (case k6 => k_is); (case k7 => k_is); (case k8 => k_is); (case k9 => k_handed); k_whole))
  k_with "getMethod ref" => (k_dflt (refine' meth_base ?k1 ?k2 ?k3 ?k4 ?k5 ?k6 ?k7 ?_; (case k3 => k_asm); (case k1 => k_asm); (case k2 => k_asm); (case k4 => k_asm); (case k5 => k_is); (case k6 => k_is); (case k7 => k_is); k_whole))
  k_with "exec If" => ((fail_if_success (rename Going => kz)); refine' stop_here ?_)
  trivial
theorem newsTail {h₀ h : Heap} {L : Addr} {p : Addr × Obj} {r : List (Addr × Obj)} (N : News h₀ L h (p :: r)) : News h₀ L h r := fun q hq => N q (.tail _ hq)
theorem newsMove {h₀ h : Heap} {L : Addr} {d t : Addr × Obj} {base bn : List (Addr × Obj)} (N : News h₀ L h (d :: t :: (base ++ bn))) : News h₀ L h (base ++ [t]) := fun p hp => N p (by
  rcases List.mem_append.mp hp with hp | hp
  · simp [hp]
  · simp only [List.mem_cons, List.not_mem_nil, or_false] at hp; simp [hp])
theorem scan_fin {high : Int} {p : Int} {r : Row} {rest : List (Int × Row)} {best : Option (Int × Row)} {most : Int} (k : r.kd.isP = false) :
    scan high ((p, r) :: rest) best most = if most < r.ht + r.dp then (if high ≤ r.ht + r.dp then some (p, r) else scan high rest (some (p, r)) (r.ht + r.dp)) else scan high rest best most := by
  cases e : r.kd with
  | plain => simp only [scan, e]
  | larger => simp only [scan, e]
  | pieces => rw [e] at k; cases k
theorem scan_p {high : Int} {p : Int} {r : Row} {rest : List (Int × Row)} {best : Option (Int × Row)} {most : Int} (k : r.kd.isP = true) : scan high ((p, r) :: rest) best most = some (p, r) := by
  cases e : r.kd with
  | plain => rw [e] at k; cases k
  | larger => rw [e] at k; cases k
  | pieces => simp only [scan, e]
theorem grown_ret {h₀ h : Heap} {L a fa : Addr} {kvs : List (Int × Value)} {p c : Int} {row : Row} {t : Tok} {k : Nat} {r : List (Addr × Obj)} (N : News h₀ L h ((a, { cls := .type "tuple", data := .seq #[.ref fa, .int c t] k }) :: r)) (hc : row.code = c) (hv : valueAt kvs p = some (.ref fa)) :
    ∃ bn, GrownV kvs (some (p, row)) (.ref a) bn ∧ ∀ q ∈ bn, h₀.get? q.1 = none ∧ h.get? q.1 = some q.2 := by
  subst hc
  refine ⟨_, ⟨a, fa, t, k, rfl, hv, rfl⟩, fun q hq => ?_⟩
  have := N q (by simp only [List.mem_cons, List.not_mem_nil, or_false] at hq; subst hq; exact .head _)
  exact ⟨this.2.2, this.1⟩
theorem grown_off {h₀ h : Heap} {L I : Addr} {ito : Obj} {kvs : List (Int × Value)} {best : Option (Int × Row)} {v : Value} {bn news : List (Addr × Obj)} (g : GrownV kvs best v bn) (N : News h₀ L h news) (hs : ∀ p ∈ bn, p ∈ news) (hI : (I, ito) ∈ news) (hc : ItrC ito) : ∀ p ∈ bn, p.1 ≠ I := by
  intro p hp e
  cases best with
  | none => rw [g.2] at hp; cases hp
  | some q =>
    obtain ⟨a, fa, t, k, _, _, rfl⟩ := g
    have hp2 := List.mem_singleton.mp hp
    have h1 := (N p (hs p hp)).1
    have h2 := (N _ hI).1
    rw [e, h2, hp2] at h1
    exact hc.tup (congrArg Obj.cls (Option.some.inj h1))
theorem chainF_neg {rows : List Row} (W : WFr rows) {c : Int} (h : c < 0) : chainF rows c = [] := by
  refine chainF_none ?_
  cases e : find rows c with
  | none => rfl
  | some r =>
    obtain ⟨hm, hc⟩ := find_mem e
    have := W.lo r hm
    omega
theorem rowD_of {rows : List Row} {c : Int} {r : Row} (e : find rows c = some r) : rowD rows c = r := by unfold rowD; rw [e]; rfl
theorem chain_next {rows : List Row} (W : WFr rows) {c : Int} {r : Row} (e : find rows c = some r) (k : r.kd.isP = false) : chainF rows c = r :: chainF rows (largerOf rows c) := by
  rw [chainF_some W e]
  refine congrArg (List.cons r) ?_
  unfold largerOf
  rw [rowD_of e]
  cases q : r.kd with
  | plain => exact (chainF_neg W (c := -1) (by decide)).symm
  | pieces => rw [q] at k; cases k
  | larger c' =>
    dsimp only
    cases z : find rows c' with
    | none => rw [chainF_none z]; exact (chainF_neg W (c := -1) (by decide)).symm
    | some r' => rfl
theorem largerOf_bd {rows : List Row} (W : WFr rows) {c : Int} {r : Row} (e : find rows c = some r) : largerOf rows c = -1 ∨ (c < largerOf rows c ∧ largerOf rows c ≤ 10) := by
  unfold largerOf
  rw [rowD_of e]
  obtain ⟨hm, hc⟩ := find_mem e
  cases q : r.kd with
  | plain => exact .inl rfl
  | pieces => exact .inl rfl
  | larger c' =>
    have := W.up r hm c' q
    dsimp only
    split
    · exact .inr (by omega)
    · exact .inl rfl
theorem range_dn {sz : Nat} (h : sz ≤ 2) : Builtin.Range.small (sz : Int) (-1) (-1) = true ∧ Builtin.Range.rangeSize (sz : Int) (-1) (-1) = ((sz + 1 : Nat) : Int) := by
  match sz, h with
  | 0, _ => exact ⟨by decide, by decide⟩
  | 1, _ => exact ⟨by decide, by decide⟩
  | 2, _ => exact ⟨by decide, by decide⟩
inductive J1 (kvs : List (Int × Value)) (fs : List (Int × Fo)) (n : Nat) (high : Int) (final : Option (Int × Row)) (bs : List (Str × Value)) (base : List (Addr × Obj)) (P0 : List (Addr × Int × Tok × Int × Tok)) (rest : List Value) (m : Str → Option Value) (news : List (Addr × Obj)) : Prop
  | mk (prs : List (Addr × Int × Tok × Int × Tok)) (best : Option (Int × Row)) (most : Int) (bv : Value) (tm : Tok) (bn : List (Addr × Obj)) (h0 : rest = prs.map (fun q => Value.ref q.1)) (h1 : (∀ q ∈ prs, q ∈ P0)) (h2 : news = base ++ bn) (h3 : GrownV kvs best bv bn) (h4 : Has m (("best", bv) :: ("most", .int most tm) :: bs)) (h5 : scan high (prs.flatMap fun q => ways1 fs n q.2.1 q.2.2.2.1) best most = final) : J1 kvs fs n high final bs base P0 rest m news
inductive J2 (kvs : List (Int × Value)) (high : Int) (final : Option (Int × Row)) (bs : List (Str × Value)) (base : List (Addr × Obj)) (wf : Nat → List (Int × Row)) (i : Nat) (m : Str → Option Value) (news : List (Addr × Obj)) : Prop
  | mk (best : _)(most : _)(bv : _)(tm : _)(bn : _) (h0 : news = base ++ bn) (h1 : GrownV kvs best bv bn) (h2 : Has m (("best", bv) :: ("most", .int most tm) :: bs)) (h3 : scan high (wf i) best most = final) : J2 kvs high final bs base wf i m news
inductive J3 (kvs : List (Int × Value)) (rows : List Row) (p : Int) (high : Int) (final : Option (Int × Row)) (bs : List (Str × Value)) (base : List (Addr × Obj)) (rest : List (Int × Row)) (k : Nat) (m : Str → Option Value) (news : List (Addr × Obj)) : Prop
  | mk (at_ : _)(best : _)(most : _)(bv : _)(tm : _)(ta : _)(bn : _) (h0 : news = base ++ bn) (h1 : GrownV kvs best bv bn) (h2 : Has m (("best", bv) :: ("most", .int most tm) :: ("at", .int at_ ta) :: bs)) (h3 : scan high ((chainF rows at_).map (fun r => (p, r)) ++ rest) best most = final) (h4 : at_ ≤ 255) (h5 : k = if at_ < 0 then 0 else (300 - at_).toNat + 1) : J3 kvs rows p high final bs base rest k m news
inductive JB' (P : Prop) (bs : List (Str × Value)) (m : Str → Option Value) (pre : List (Addr × Obj)) : Prop
  | mk (h0 : pre = []) (h1 : P) (h2 : Has m bs) : JB' P bs m pre
theorem grown_spec (R : Rm 6 A) (X : (KF w.params).In s.heap) (T : TR mg mb s.heap) {x dx dr : Addr} {es : List DictEntry} {n : Nat} {kvs : List (Int × Value)} {fs : List (Int × Fo)} (f : FamAt w s.heap x dx dr es n kvs fs) (hW : ∀ p ∈ fs, WFr p.2.rows)
   {da : Addr} {d0 d1 d2 d3 : Int} {t0 t1 t2 t3 : Tok} (hd : IsTup s.heap da #[.int d0 t0, .int d1 t1, .int d2 t2, .int d3 t3]) (h0 : 0 ≤ d0) (h0' : d0 ≤ 15) (h1 : 0 ≤ d1) (h1' : d1 ≤ 255) (h2 : 0 ≤ d2) (h2' : d2 ≤ 15) (h3 : 0 ≤ d3) (h3' : d3 ≤ 255)
   {sz : Nat} (hsz : sz ≤ 2) {high : Int} {ts th : Tok}
   (h : ∀ h' tk, s.heap.StaysIn h' → ∀ v bn, GrownV kvs (scan high (ways1 fs (sz + 1) d0 d1 ++ ways1 fs (sz + 1) d2 d3) none 0) v bn → (∀ p ∈ bn, s.heap.get? p.1 = none ∧ h'.get? p.1 = some p.2) → Q v {s with heap := h', toks := tk}) :
   wpAny (model p0 w) A (call (.ref 290) [.ref x, .ref da, .int sz ts, .int high th]) Q E s := by
  refine callF (binds := [("families", .ref x), ("delimiter", .ref da), ("size", .int sz ts), ("height", .int high th)]) R X T rfl (by k_is) (BindsTo.of_eq (by kernel_rfl)) (by kernel_rfl) rfl rfl rfl (by kernel_rfl) (fun L h₁ tk F N X T => ?_)
  repeat' (first | walk1 | (dsimp only; walk1))
  as_aux_lemma =>
    rename Fr _ _ _ _ => F9
    refine For_st F9 ?_
    repeat' (first | walk1 | (dsimp only; walk1))
    as_aux_lemma =>
      rename_i T1 g1 e1 T2 g2 e2 TT g3 F9 N9 e3
      generalize hfin : scan high (ways1 fs (sz + 1) d0 d1 ++ ways1 fs (sz + 1) d2 d3) none 0 = final at h
      replace N9 : News s.heap L g3 ((TT, { cls := .type "tuple", data := .seq #[Value.ref T1, Value.ref T2] }) :: (T2, { cls := .type "tuple", data := .seq #[.int d2 t2, .int d3 t3] }) :: (T1, { cls := .type "tuple", data := .seq #[.int d0 t0, .int d1 t1] }) :: []) := fun p hp => N9 p (by
        simp only [List.mem_cons, List.not_mem_nil, or_false] at hp ⊢
        rcases hp with rfl | rfl | rfl <;> simp)
      clear e1 e2 e3 hd
      obtain ⟨q1, hq1⟩ : ∃ o : Obj, o = { cls := .type "tuple", data := .seq #[.int d0 t0, .int d1 t1] } := ⟨_, rfl⟩
      obtain ⟨q2, hq2⟩ : ∃ o : Obj, o = { cls := .type "tuple", data := .seq #[.int d2 t2, .int d3 t3] } := ⟨_, rfl⟩
      obtain ⟨q3, hq3⟩ : ∃ o : Obj, o = { cls := .type "tuple", data := .seq #[Value.ref T1, Value.ref T2] } := ⟨_, rfl⟩
      rw [← hq1, ← hq2, ← hq3] at N9
      have hTup : ∀ q ∈ [(T1, d0, t0, d1, t1), (T2, d2, t2, d3, t3)], (∀ {h : Heap}, News s.heap L h [(TT, q3), (T2, q2), (T1, q1)] → IsTup h q.1 #[.int q.2.1 q.2.2.1, .int q.2.2.2.1 q.2.2.2.2]) ∧ 0 ≤ q.2.1 ∧ q.2.1 ≤ 15 ∧ 0 ≤ q.2.2.2.1 ∧ q.2.2.2.1 ≤ 255 := allC ⟨fun N => ⟨_, N.get (by k_mem), by rw [hq1], _, by rw [hq1]⟩, h0, h0', h1, h1'⟩ (allC ⟨fun N => ⟨_, N.get (by k_mem), by rw [hq2], _, by rw [hq2]⟩, h2, h2', h3, h3'⟩ allN)
      refine ⟨turns_tup (items := [Value.ref T1, Value.ref T2]) (J1 kvs fs (sz + 1) high final [("families", .ref x), ("size", .int sz ts), ("height", .int high th)] [(TT, q3), (T2, q2), (T1, q1)] [(T1, d0, t0, d1, t1), (T2, d2, t2, d3, t3)]) (oax := q3) rfl (fun h e => ⟨_, e, by rw [hq3], _, by rw [hq3]⟩) (fun q => (N9 _ (.head _)).2.1 q.symm) ?ax F9 N9 ?st ?turn ?done⟩
      case ax =>
        rintro rest m news h ⟨prs, best, most, bv, tm, bn, _, _, rfl, _⟩ F N
        exact N.get (.head _)
      case st => exact ⟨_, none, 0, .none, _, [], rfl, fun q hq => hq, rfl, ⟨rfl, rfl⟩, Has.of_map rfl, by simpa using hfin⟩
      case done =>
        as_aux_lemma =>
          rintro h' tk m' news' F N ⟨prs, best, most, bv, tm, bn, hr, _, rfl, G, H, hs⟩
          have hr : prs = [] := by simpa using hr.symm
          subst hr
          have hs : best = final := hs
          subst hs
          replace F := frOf F H
          simp only [List.cons_append, List.nil_append] at N
          repeat' (first | walk1 | (dsimp only; walk1))
          as_aux_lemma =>
            refine h _ _ F.keep _ bn G (fun p hp => ?_)
            have := N p (by simp [hp])
            exact ⟨this.2.2, this.1⟩
      case turn =>
        as_aux_lemma =>
          rintro v rest m₁ news₁ h₁ tk₁ I1 ito1 kK hK ⟨prs, best, most, bv, tm, bn, hr, hP, rfl, G, H, hs⟩ hoff hc1 F N
          cases prs with
          | nil => cases hr
          | cons q prs =>
          obtain ⟨Tq, fc, tf, cc, tc⟩ := q
          obtain ⟨rfl, rfl⟩ : v = .ref Tq ∧ rest = prs.map (fun q => Value.ref q.1) := by simpa using hr
          obtain ⟨hT, hb1, hb2, hb3, hb4⟩ := hTup _ (hP _ (.head _))
          replace hT := hT (fun p hp => N p (.tail _ (List.mem_append_left bn hp)))
          dsimp only at hT hb1 hb2 hb3 hb4
          replace F := frOf F H
          simp only [List.cons_append, List.nil_append] at N
          repeat' (first | walk1 | (dsimp only; walk1))
          rename Fr _ _ _ _ => F8; rename News _ _ _ _ => N8
          refine If_goc (JB' (fc = 0 ∧ cc = 0) [("best", bv), ("most", .int most tm), ("families", .ref x), ("size", .int sz ts), ("height", .int high th)]) (JB' (¬ (fc = 0 ∧ cc = 0)) [("best", bv), ("most", .int most tm), ("families", .ref x), ("size", .int sz ts), ("height", .int high th), ("family", .int fc tf), ("code", .int cc tc)]) F8 N8 (fun going => ?_) (fun h' tk m' pre' F N jj => ?_) (fun h' tk m' pre' F N jj => ?_)
          · repeat' (first | walk1 | (dsimp only; walk1))
            all_goals
              rename Fr _ _ _ _ => F9; rename News _ _ _ _ => N9
              exact ⟨_, _, _, [], rfl, F9, N9, rfl, by omega, Has.of_map rfl⟩
          · obtain ⟨rfl, hz, H⟩ := jj
            repeat walk1
            exact ⟨_, _, _, _, rfl, F, N, fun p hp => hoff p hp, prs, best, most, bv, tm, bn, rfl, fun q hq => hP q (.tail _ hq), rfl, G, H, by simpa [ways1, hz.1, hz.2] using hs⟩
          · obtain ⟨rfl, hz, H⟩ := jj
            replace F := frOf F H
            simp only [List.nil_append] at N
            have going : Going := ⟨⟩
            repeat' (first | walk1 | (dsimp only; walk1))
            rename Fr _ _ _ _ => F8
            refine For_st F8 ?_
            repeat' (first | walk1 | (dsimp only; walk1))
            as_aux_lemma =>
              rename IsRange _ _ _ _ _ _ _ _ => hr; rename Fr _ _ _ _ => F7; rename News _ _ _ _ => N7
              refine ⟨turns_range (J2 kvs high final [("families", .ref x), ("size", .int sz ts), ("height", .int high th), ("family", .int fc tf), ("code", .int cc tc)] [(I1, ito1), (TT, q3), (T2, q2), (T1, q1)] (fun i => waysL fs fc cc (lvls (sz + 1 - i)) ++ prs.flatMap fun q => ways1 fs (sz + 1) q.2.1 q.2.2.2.1)) rfl hr (range_dn hsz).1 (range_dn hsz).2 F7 N7 ?_ (fun I v s Q E q => wpAny_of_eq (a := ()) rfl q) ?_ ?_⟩
              · exact ⟨best, most, bv, tm, bn, rfl, G, Has.of_map rfl, by rw [← hs]; simp only [List.flatMap_cons, ways1, if_neg hz]; rfl⟩
              rotate_left
              · as_aux_lemma =>
                  rintro h' tk m' news' F N ⟨best, most, bv, tm, bn, rfl, G, H, hs⟩
                  replace F := frOf F H
                  simp only [List.cons_append, List.nil_append] at N
                  repeat' (first | walk1 | (dsimp only; walk1))
                  as_aux_lemma =>
                    rename Fr _ _ _ _ => F8; rename News _ _ _ _ => N8
                    refine ⟨_, _, _, _, rfl, F8, N8, ?_, prs, best, most, bv, tm, bn, rfl, fun q hq => hP q (.tail _ hq), rfl, G, Has.of_map rfl, ?_⟩
                    · exact allC (hoff _ (by k_mem)) (allC (hoff _ (by k_mem)) (allC (hoff _ (by k_mem)) (grown_off G N8 (fun p hp => by simp [hp]) (.head _) hc1)))
                    · have hs : scan high (waysL fs fc cc (lvls (sz + 1 - (sz + 1))) ++ _) best most = final := hs
                      rwa [Nat.sub_self] at hs
              · as_aux_lemma =>
                  rintro i t m₁ news₁ h₁ tk₁ I2 ito2 kK hK hi ⟨best, most, bv, tm, bn, rfl, G, H, hs⟩ hoff2 hc2 F N
                  replace F := frOf F H
                  simp only [List.cons_append, List.nil_append] at N
                  generalize hlv : (sz : Int) + (i : Int) * -1 = lv
                  have hl1 : 0 ≤ lv ∧ lv ≤ 2 := by rw [← hlv, Int.mul_neg, Int.mul_one, ← Int.sub_eq_add_neg]; exact ⟨Int.sub_nonneg_of_le (Int.ofNat_le.mpr (Nat.lt_succ_iff.mp hi)), Int.le_trans (Int.sub_le_self _ (Int.natCast_nonneg _)) (Int.ofNat_le.mpr hsz)⟩
                  obtain ⟨hl1, hl2⟩ := hl1
                  have hs' : scan high (wayAt fs fc cc lv ++ (waysL fs fc cc (lvls (sz + 1 - (i + 1))) ++ prs.flatMap fun q => ways1 fs (sz + 1) q.2.1 q.2.2.2.1)) best most = final := by
                    rw [← hs]
                    show _ = scan high (waysL fs fc cc (lvls (sz + 1 - i)) ++ _) best most
                    rw [show sz + 1 - i = (sz + 1 - (i + 1)) + 1 from (by rw [Nat.succ_sub_succ]; exact Nat.succ_sub (Nat.lt_succ_iff.mp hi)), lvls, show ((sz + 1 - (i + 1) : Nat) : Int) = lv from (by rw [Nat.succ_sub_succ, Int.ofNat_sub (Nat.lt_succ_iff.mp hi), ← hlv, Int.mul_neg, Int.mul_one, Int.sub_eq_add_neg])]
                    simp only [waysL, List.flatMap_cons, List.append_assoc]
                  have In1 := f.inst; have hm6 := f.has; have hm7 := f.font
                  cases hf : findF fs (fc * 3 + lv) with
                  | none =>
                    repeat' (first | walk1 | (dsimp only; walk1))
                    as_aux_lemma =>
                      rename Fr _ _ _ _ => F8; rename News _ _ _ _ => N8
                      refine ⟨_, _, _, _, rfl, F8, N8, fun p hp => hoff2 p hp, best, most, bv, tm, bn, rfl, G, Has.of_map rfl, ?_⟩
                      unfold wayAt at hs'
                      rw [hf] at hs'
                      exact hs'
                  | some fo =>
                    obtain ⟨v, hvv, x2, dx2, es2, n2, dc2, dp2, kvs2, vs2, tn2, rfl, f2⟩ : ∃ v, valueAt kvs (fc * 3 + lv) = some v ∧ FontV w s.heap v fo := by
                      rcases findF_all2 f.all (fc * 3 + lv) with ⟨a, b⟩ | ⟨v, r, a, b, q⟩
                      · rw [hf] at b; cases b
                      · rw [hf] at b; cases b; exact ⟨v, a, q⟩
                    have hWf : WFr fo.rows := by
                      obtain ⟨q, hq, e⟩ := Option.map_eq_some_iff.mp hf
                      have := hW q (List.mem_of_find?_eq_some hq)
                      rwa [e] at this
                    have In2 := f2.inst; have hm1 := f2.has; have hm2 := f2.pieces; have hm3 := f2.height; have hm4 := f2.depth; have hm5 := f2.larger
                    repeat' (first | walk1 | (dsimp only; walk1))
                    as_aux_lemma =>
                      rename Fr _ _ _ _ => F6; rename News _ _ _ _ => N6
                      have hs' : scan high ((chainF fo.rows cc).map (fun r => (fc * 3 + lv, r)) ++ (waysL fs fc cc (lvls (sz + 1 - (i + 1))) ++ prs.flatMap fun q => ways1 fs (sz + 1) q.2.1 q.2.2.2.1)) best most = final := by
                        unfold wayAt at hs'
                        rw [hf] at hs'
                        exact hs'
                      generalize hrs : (waysL fs fc cc (lvls (sz + 1 - (i + 1))) ++ prs.flatMap fun q => ways1 fs (sz + 1) q.2.1 q.2.2.2.1) = rs at hs'
                      refine While_st (J3 kvs fo.rows (fc * 3 + lv) high final [("font", .ref x2), ("families", .ref x), ("size", .int sz ts), ("height", .int high th), ("family", .int fc tf), ("code", .int cc tc)] [(I2, ito2), (I1, ito1), (TT, q3), (T2, q2), (T1, q1)] rs) F6 (newsTail N6) ⟨cc, best, most, bv, tm, _, bn, rfl, G, Has.of_map rfl, hs', hb4, rfl⟩ ?_
                      rintro k m₁ news₁ h₁ tk₁ kK hK F N ⟨at_, best, most, bv, tm, ta, bn, rfl, G, H, hs, hat, hk⟩
                      replace F := frOf F H
                      simp only [List.cons_append, List.nil_append] at N
                      have off2 : ∀ (bn : List (Addr × Obj)) (h' : Heap) best bv, GrownV kvs best bv bn → News s.heap L h' ((I2, ito2) :: (I1, ito1) :: (TT, q3) :: (T2, q2) :: (T1, q1) :: bn) → ∀ p ∈ (I1, ito1) :: (TT, q3) :: (T2, q2) :: (T1, q1) :: bn, p.1 ≠ I2 := by
                        exact fun bn h' best bv G N => allC (hoff2 _ (by k_mem)) (allC (hoff2 _ (by k_mem)) (allC (hoff2 _ (by k_mem)) (allC (hoff2 _ (by k_mem)) (grown_off G N (fun p hp => by simp [hp]) (.head _) hc2))))
                      by_cases hneg : at_ < 0
                      · repeat' (first | walk1 | (dsimp only; walk1))
                        as_aux_lemma =>
                          rename Fr _ _ _ _ => F8; rename News _ _ _ _ => N8
                          rw [chainF_neg hWf hneg] at hs
                          refine ⟨_, _, _, _, rfl, F8, N8, off2 bn _ _ _ G N8, best, most, bv, tm, bn, rfl, G, Has.of_map rfl, ?_⟩
                          show scan high (waysL fs fc cc (lvls (sz + 1 - (i + 1))) ++ _) best most = final
                          rw [hrs]
                          exact hs
                      · cases hfi : find fo.rows at_ with
                        | none =>
                          repeat' (first | walk1 | (dsimp only; walk1))
                          as_aux_lemma =>
                            rename Fr _ _ _ _ => F8; rename News _ _ _ _ => N8
                            rw [chainF_none hfi] at hs
                            refine ⟨_, _, _, _, rfl, F8, N8, off2 bn _ _ _ G N8, best, most, bv, tm, bn, rfl, G, Has.of_map rfl, ?_⟩
                            show scan high (waysL fs fc cc (lvls (sz + 1 - (i + 1))) ++ _) best most = final
                            rw [hrs]
                            exact hs
                        | some r =>
                          have hrow := rowD_of hfi
                          cases hkp : r.kd.isP with
                          | true =>
                            obtain ⟨pa, pb, pc, pd, hkd⟩ : ∃ a b c d, r.kd = .pieces a b c d := by
                              cases q : r.kd with
                              | plain => rw [q] at hkp; cases hkp
                              | larger => rw [q] at hkp; cases hkp
                              | pieces a b c d => exact ⟨a, b, c, d, rfl⟩
                            have hk9 : (rowD fo.rows at_).kd = .pieces pa pb pc pd := by rw [hrow]; exact hkd
                            rw [chainF_some hWf hfi, List.map_cons, List.cons_append, scan_p hkp] at hs
                            subst hs
                            repeat' (first | walk1 | (dsimp only; walk1))
                            as_aux_lemma =>
                              rename Fr _ _ _ _ => F8; rename News _ _ _ _ => N8
                              have hc := (find_mem hfi).2
                              obtain ⟨bn', G', hb'⟩ := grown_ret N8 hc hvv
                              exact h _ _ F8.keep _ bn' G' hb'
                          | false =>
                            have hc := (find_mem hfi).2
                            subst hc
                            have hk9 : (rowD fo.rows r.code).kd.isP = false := by rw [hrow, hkp]
                            have hlb := largerOf_bd hWf hfi
                            rw [chain_next hWf hfi hkp, List.map_cons, List.cons_append, scan_fin hkp] at hs
                            repeat' (first | walk1 | (dsimp only; walk1))
                            · rename Fr _ _ _ _ => F8; rename News _ _ _ _ => N8
                              rename most < _ => v1; rename high ≤ _ => v2
                              rw [hrow] at v1 v2
                              rw [if_pos v1, if_pos v2] at hs
                              subst hs
                              obtain ⟨bn', G', hb'⟩ := grown_ret (newsTail N8) rfl hvv
                              exact h _ _ F8.keep _ bn' G' hb'
                            · rename Fr _ _ _ _ => F8; rename News _ _ _ _ => N8
                              rename most < _ => v1; rename ¬ high ≤ _ => v2
                              rw [hrow] at v1 v2
                              rw [if_pos v1, if_neg v2] at hs
                              have N8 := newsMove (base := [(I2, ito2), (I1, ito1), (TT, q3), (T2, q2), (T1, q1)]) N8
                              refine ⟨_, _, _, _, _, rfl, F8, N8, ?_, _, some (fc * 3 + lv, r), _, _, _, _, _, rfl, ⟨_, x2, _, _, rfl, hvv, rfl⟩, Has.of_map rfl, (by rw [hrow]; exact hs), ?_, rfl⟩
                              · rw [hk, if_neg hneg]; split <;> omega
                              · omega
                            · rename Fr _ _ _ _ => F8; rename News _ _ _ _ => N8
                              rename ¬ most < _ => v1
                              rw [hrow] at v1
                              rw [if_neg v1] at hs
                              refine ⟨_, _, _, _, _, rfl, F8, N8, ?_, _, best, _, _, _, _, bn, rfl, G, Has.of_map rfl, hs, ?_, rfl⟩
                              · rw [hk, if_neg hneg]; split <;> omega
                              · omega
end
end Mine
end
section
set_option maxHeartbeats 1000000
namespace Mine
section
variable {w : World} {A : Around} {s : Shared} {E : Value → Shared → Prop} {Q : Value → Shared → Prop} {mg mb : Str → Option Value}
theorem ksetPb1 : True := by
  k_with "call type:enumerate" => (refine' stop_here ?_)
  k_with "TurnPs" => (dsimp only [TurnPs])
  k_with "call ref" => ((with_reducible show wpAny _ _ (call (Value.ref 393) _ _) _ _ _); (rename Fr _ _ _ _ => kF0); (rename FontAt _ _ _ _ _ _ _ _ _ _ _ _ _ _ => kf); refine' font_width_spec (mg := mg) (mb := mb) ?k1 ?k2 ?k3 (FontAt.keeps kf (Fr.keep kF0)) ?_; (case k1 => walk_at "p world"); (case k2 => walk_at "p world"); (case k3 => walk_at "p world"); walk_at "p after")
  k_with "call ref" => ((with_reducible show wpAny _ _ (call (Value.ref 400) _ _) _ _ _); (rename Fr _ _ _ _ => kF0); (rename FontAt _ _ _ _ _ _ _ _ _ _ _ _ _ _ => kf); refine' font_height_spec (mg := mg) (mb := mb) ?k1 ?k2 ?k3 (FontAt.keeps kf (Fr.keep kF0)) ?_; (case k1 => walk_at "p world"); (case k2 => walk_at "p world"); (case k3 => walk_at "p world"); walk_at "p after")
  k_with "call ref" => ((with_reducible show wpAny _ _ (call (Value.ref 407) _ _) _ _ _); (rename Fr _ _ _ _ => kF0); (rename FontAt _ _ _ _ _ _ _ _ _ _ _ _ _ _ => kf); refine' font_depth_spec (mg := mg) (mb := mb) ?k1 ?k2 ?k3 (FontAt.keeps kf (Fr.keep kF0)) ?_; (case k1 => walk_at "p world"); (case k2 => walk_at "p world"); (case k3 => walk_at "p world"); walk_at "p after")
  k_with "call ref" => ((with_reducible show wpAny _ _ (call (Value.ref 414) _ _) _ _ _); (rename Fr _ _ _ _ => kF0); (rename FontAt _ _ _ _ _ _ _ _ _ _ _ _ _ _ => kf); refine' font_italic_spec (mg := mg) (mb := mb) ?k1 ?k2 ?k3 (FontAt.keeps kf (Fr.keep kF0)) ?_; (case k1 => walk_at "p world"); (case k2 => walk_at "p world"); (case k3 => walk_at "p world"); walk_at "p after")
  k_with "getAttr ref" => (k_dflt (refine' attr_ghost ?k1 ?k2 ?kN ?kG ?kS ?k3 ?k4 ?k5 ?k6 ?k7 ?k8 ?k9 ?_; (case k3 => k_asm); (case k1 => k_asm); (case k2 => k_asm); (case kN => k_asm); (case kG => k_asm); (case kS => (intro p9 hp9; repeat (first | exact hp9 | apply List.Mem.tail))); (case k4 => k_asm); (case k5 => k_is); (case k6 => k_is); (case k7 => k_is); (case k8 => k_is); (case k9 => k_handed); k_whole))
  k_with "eval IfExp" => ((fail_if_success (rename Going => kz)); refine' stop_here ?_)
  k_with "binaryOp Add ref ref" => (k_dflt (refine' kmk_add_ints ?F ?N ?a ?b ?i ?j ?_ ?z; (case F => k_asm); (case N => k_asm); (case a => exact News.isList (by k_asm) (by k_mem)); (case b => exact News.isList (by k_asm) (by k_mem)); (case i => k_asm); (case j => k_asm); (case z => (simp only [sizeLine_eq, List.length_append]; omega))); intro D' ws' h' F' N' l1 hI'; (try k_lt l1))
  k_with "exec Assign cons ListComp" => (refine' stop_here ?_)
  k_with "CompSrc" => (refine' Stop.go ?_)
  k_with "call ref" => ((with_reducible show wpAny _ _ (call (Value.ref 283) _ _) _ _ _); refine' stop_here ?_)
  k_with "call ref" => ((with_reducible show wpAny _ _ (call (Value.ref 257) _ _) _ _ _); refine' stop_here ?_)
  k_with "compareOp NotEq ref ref" => (k_dflt (refine' ne_lens ?k1 ?k2 ?k3 ?k4 ?_; (case k1 => exact News.isList (by k_asm) (by k_mem)); (case k2 => exact News.isList (by k_asm) (by k_mem)); (case k3 => simp); (case k4 => decide); k_whole))
  trivial
noncomputable def hd2 (rows : List Row) (c : Int) : Int := (rowD rows c).ht + (rowD rows c).dp
noncomputable def pOne (rows : List Row) (c : Int) : Int := if c ≠ 0 then hd2 rows c else 0
noncomputable def pReach (rows : List Row) (a b c : Int) : Int := pOne rows a + pOne rows b + pOne rows c
noncomputable def pEach (rows : List Row) (b d : Int) : Int := if b ≠ 0 then 2 * hd2 rows d else hd2 rows d
noncomputable def pSteps (rows : List Row) (a b c d high : Int) : Int := if 0 < hd2 rows d ∧ pReach rows a b c < high then Int.fdiv (high - pReach rows a b c + pEach rows b d - 1) (pEach rows b d) else 0
noncomputable def pOpt (c : Int) : List Int := if c ≠ 0 then [c] else []
noncomputable def pMid (b d : Int) (n : Nat) : List Int := if b ≠ 0 then List.replicate n d ++ [b] ++ List.replicate n d else List.replicate n d
noncomputable def pCodes (a b c d : Int) (n : Nat) : List Int := pOpt a ++ pMid b d n ++ pOpt c
theorem pOpt_len (c : Int) : (pOpt c).length ≤ 1 := by unfold pOpt; split <;> simp
theorem pMid_len (b d : Int) (n : Nat) : (pMid b d n).length ≤ 2 * n + 1 := by
  unfold pMid
  split
  · simp only [List.length_append, List.length_replicate, List.length_cons, List.length_nil]; omega
  · rw [List.length_replicate]; omega
theorem ints_rep (n : Nat) (d : Int) (t : Tok) : IntsAre (List.replicate n [Value.int d t]).flatten (List.replicate n d) := by
  induction n with
  | zero => exact .nil
  | succ n ih => exact .cons _ _ ih
theorem pCodes_mem {a b c d : Int} {n : Nat} {z : Int} (h : z ∈ pCodes a b c d n) : z = a ∨ z = b ∨ z = c ∨ z = d := by
  have o : ∀ q, z ∈ pOpt q → z = q := fun q h => by
    unfold pOpt at h
    split at h
    · simpa using h
    · cases h
  unfold pCodes at h
  rcases List.mem_append.mp h with h | h
  · rcases List.mem_append.mp h with h | h
    · exact .inl (o _ h)
    · unfold pMid at h
      split at h
      · simp only [List.mem_append, List.mem_replicate, List.mem_singleton] at h
        rcases h with (h | h) | h
        · exact .inr (.inr (.inr h.2))
        · exact .inr (.inl h)
        · exact .inr (.inr (.inr h.2))
      · exact .inr (.inr (.inr (List.mem_replicate.mp h).2))
  · exact .inr (.inr (.inl (o _ h)))
theorem intsAre_get {vs : List Value} {ns : List Int} (h : IntsAre vs ns) : ∀ {i : Nat} {v : Value}, vs[i]? = some v → ∃ c t, v = .int c t ∧ ns[i]? = some c := by
  induction h with
  | nil => intro i v e; simp at e
  | cons n t _ ih =>
    intro i v e
    cases i with
    | zero => simp at e; subst e; exact ⟨n, t, rfl, rfl⟩
    | succ i => simp at e; obtain ⟨c, t, q, r⟩ := ih e; exact ⟨c, t, q, by simpa using r⟩
theorem take_one {α : Type} {l : List α} {i : Nat} {c : α} (h : l[i]? = some c) : l.take (i + 1) = l.take i ++ [c] := by
  rw [List.take_add_one, h]; rfl
noncomputable def headH (rows : List Row) (cs : List Int) : Int := match cs with | [] => 0 | c :: _ => (rowD rows c).ht
theorem pSteps_b {rows : List Row} {a b c d high : Int} (hB : ∀ c, Bd (rowD rows c)) (hh : high ≤ 1000) : 0 ≤ pSteps rows a b c d high * pEach rows b d ∧ pSteps rows a b c d high * pEach rows b d ≤ 5000 ∧ 0 ≤ pReach rows a b c ∧ pReach rows a b c ≤ 6000 := by
  have hp : ∀ q, 0 ≤ pOne rows q ∧ pOne rows q ≤ 2000 := fun q => by
    have := (hB q).h0; have := (hB q).h1; have := (hB q).d0; have := (hB q).d1
    unfold pOne hd2; split <;> omega
  have h1 := hp a; have h2 := hp b; have h3 := hp c
  have hE : 0 < hd2 rows d → 0 < pEach rows b d ∧ pEach rows b d ≤ 4000 := fun q => by have := (hB d).h1; have := (hB d).d1; unfold pEach; unfold hd2 at q ⊢; split <;> omega
  refine ⟨?_, ?_, by unfold pReach; omega, by unfold pReach; omega⟩
  · unfold pSteps
    split
    · rename_i q
      have ⟨e1, _⟩ := hE q.1
      exact Int.mul_nonneg (Int.fdiv_nonneg (by omega) (by omega)) (by omega)
    · simp
  · unfold pSteps
    split
    · rename_i q
      have ⟨e1, e2⟩ := hE q.1
      have h9 := Int.ediv_mul_le (high - pReach rows a b c + pEach rows b d - 1) (b := pEach rows b d) (by omega)
      rw [Int.fdiv_eq_ediv_of_nonneg _ (by omega)]
      have : 0 ≤ pReach rows a b c := by unfold pReach; omega
      omega
    · simp
theorem headH_b {rows : List Row} (hB : ∀ c, Bd (rowD rows c)) (cs : List Int) : 0 ≤ headH rows cs ∧ headH rows cs ≤ 1000 := by
  cases cs with
  | nil => exact ⟨Int.le_refl _, by show (0 : Int) ≤ 1000; decide⟩
  | cons c _ => exact ⟨(hB c).h0, (hB c).h1⟩
inductive JPb (h₀ g : Heap) (Dc C1 : Addr) (oc : Obj) (wc : List Value) (fv : Value) (rows : List Row) (cs : List Int) (i : Nat) (ys : List Value) (news : List (Addr × Obj)) : Prop
  | mk (g' : Heap) (D : List (Addr × Obj)) (h0 : news = (Dc, listOf wc.toArray 0) :: (C1, oc) :: D) (h1 : Gh h₀ g' D) (h2 : g.StaysIn g') (h3 : ∀ b o, g'.get? b = some o → g.get? b = some o ∨ h₀.get? b = none) (h4 : All2 (LetV g' fv rows) ys (cs.take i)) : JPb h₀ g Dc C1 oc wc fv rows cs i ys news
inductive JPr (rows : List Row) (rc : Int) (bs : Int → Tok → Tok → List (Str × Value)) (rest : List Value) (m : Str → Option Value) : Prop
  | mk (r : Int) (tr ts : Tok) (ns : List Int) (h0 : IntsAre rest ns) (h1 : r + (ns.map (pOne rows)).sum = rc) (h2 : Has m (bs r tr ts)) : JPr rows rc bs rest m
theorem pieces_box_spec (R : Rm 8 A) (X : (KF w.params).In s.heap) (T : TR mg mb s.heap) {x : Addr} {num ax : Int} {rows : List Row} {dx : Addr} {es : List DictEntry} {n : Nat} {dc dp : Addr} {kvs : List (Int × Value)} {vs : List Value} {tn : Tok}
   (f : FontAt w s.heap x num rows ax dx es n dc dp kvs vs tn) {pt : Addr} {ps : List Value} {a b c d high : Int} {th : Tok} (hp : IsTup s.heap pt ps.toArray) (hi : IntsAre ps [a, b, c, d]) {g : Heap} (hg : g.StaysIn s.heap) (hB : ∀ c, Bd (rowD rows c)) (ha : 0 ≤ a ∧ a ≤ 255) (hb : 0 ≤ b ∧ b ≤ 255) (hc : 0 ≤ c ∧ c ≤ 255) (hd : 0 ≤ d ∧ d ≤ 255) (hst0 : 0 ≤ pSteps rows a b c d high) (hst : pSteps rows a b c d high ≤ 200)
   (hh0 : high ≤ 1000) (h : ∀ h' tk g' x1 dx1 es1 n1 li nl ys, s.heap.StaysIn h' → Gx g s.heap h' g' → (∀ a ∈ [x1, dx1], s.heap.get? a = none ∧ g'.get? a = none) →
     BoxAt h' x1 dx1 es1 n1 3 ((rowD rows d).wd + (rowD rows d).it) (headH rows (pCodes a b c d (pSteps rows a b c d high).toNat)) (pReach rows a b c + pSteps rows a b c d high * pEach rows b d - headH rows (pCodes a b c d (pSteps rows a b c d high).toNat)) (.ref li) 0 →
     g'.get? li = some (listOf (List.toArray ys) nl) → All2 (LetV g' (.ref x) rows) ys (pCodes a b c d (pSteps rows a b c d high).toNat) → Q (.ref x1) {s with heap := h', toks := tk}) : wpAny (model p0 w) A (call (.ref 295) [.ref x, .ref pt, .int high th]) Q E s := by
  refine callCF (binds := [("font", .ref x), ("pieces", .ref pt), ("height", .int high th)]) R X T rfl (by k_is) (BindsTo.of_eq (by kernel_rfl)) (by kernel_rfl) (by decide) rfl rfl rfl (fun L h₁ tk cells F N Y X T => ?_)
  cases hi with | cons _ ta hi => cases hi with | cons _ tb hi => cases hi with | cons _ tc hi => cases hi with | cons _ td hi => cases hi with | nil =>
  have hY := CellsAre.one Y; obtain ⟨oc, rfl, d1⟩ := hY; clear Y
  have lA := pOpt_len a; have lC := pOpt_len c; have lM := pMid_len b d (pSteps rows a b c d high).toNat
  have I := f.inst; have m1 := f.width; have m2 := f.height; have m3 := f.depth; have m4 := f.italic
  repeat' (first | walk1 | (dsimp only; walk1))
  rename Fr _ _ _ _ => F8
  refine For_st F8 ?_
  repeat' (first | walk1 | (dsimp only; walk1))
  rename Fr _ _ _ _ => F7; rename News _ _ _ _ => N7
  refine turns_tupK (JPr rows (pReach rows a b c) fun r tr ts => [("reach", .int r tr), ("step", .int (hd2 rows d) ts), ("repeated", .int d td), ("bottom", .int c tc), ("middle", .int b tb), ("top", .int a ta), ("height", .int high th)]) (items := [.int a ta, .int b tb, .int c tc]) (by k_mem) F7 N7
    ⟨0, _, _, [a, b, c], .cons _ _ (.cons _ _ (.cons _ _ .nil)), by simp [pReach]; omega, Has.of_map rfl⟩ ?_ ?_
  · rintro v rest m₁ h₁ tk₁ I ito kK hK ⟨r, tr, ts, ns, hi, hsum, H⟩ hoff hc F N
    have going : Going := ⟨⟩
    cases hi with | cons i0 t0 hi =>
    replace F := frOf F H
    rw [List.map_cons, List.sum_cons] at hsum
    repeat' (first | walk1 | (dsimp only; walk1))
    · rename Fr _ _ _ _ => F9; rename News _ _ _ _ => N9; rename i0 ≠ 0 => hz
      exact ⟨_, _, _, _, rfl, F9, N9, hoff, rfl, _, _, ts, _, hi, by rw [← hsum, pOne, if_pos hz, hd2]; omega, Has.of_map rfl⟩
    · rename Fr _ _ _ _ => F9; rename News _ _ _ _ => N9; rename i0 = 0 => hz
      exact ⟨_, _, _, _, rfl, F9, N9, hoff, rfl, _, _, ts, _, hi, by rw [← hsum, pOne, if_neg (by simpa using hz)]; omega, Has.of_map rfl⟩
  · rintro h' tk m' F N ⟨r, tr, ts, ns, hi, hsum, H⟩
    cases hi
    replace F := frOf F H
    simp only [List.map_nil, List.sum_nil, Int.add_zero] at hsum
    subst hsum
    repeat' (first | walk1 | (dsimp only; walk1))
    rename Fr _ _ _ _ => F8; rename News _ _ _ _ => N8
    refine IfE_go (JV (fun t => .int (pEach rows b d) t) fun _ _ => [("reach", .int (pReach rows a b c) tr), ("step", .int (hd2 rows d) ts), ("repeated", .int d td), ("bottom", .int c tc), ("middle", .int b tb), ("top", .int a ta), ("height", .int high th)]) F8 N8 (fun going => ?_) (fun v h' tk m' pre F N j => ?_)
    · repeat' (first | walk1 | (dsimp only; walk1))
      · rename Fr _ _ _ _ => F9; rename News _ _ _ _ => N9; rename b ≠ 0 => hz
        exact ⟨_, _, _, [], rfl, F9, N9, _, 0, 0, rfl, by rw [pEach, if_pos hz], Has.of_map rfl⟩
      · rename Fr _ _ _ _ => F9; rename News _ _ _ _ => N9; rename b = 0 => hz
        exact ⟨_, _, _, [], rfl, F9, N9, _, 0, 0, rfl, by rw [pEach, if_neg (by simpa using hz)], Has.of_map rfl⟩
    · obtain ⟨te, _, _, rfl, rfl, H⟩ := j
      simp only [List.nil_append] at N
      replace F := frOf F H
      have hE : 0 < hd2 rows d → 0 < pEach rows b d ∧ pEach rows b d ≤ 4000 := fun q => by have := (hB d).h1; have := (hB d).d1; unfold pEach; unfold hd2 at q ⊢; split <;> omega
      repeat' (first | walk1 | (dsimp only; walk1))
      rename Fr _ _ _ _ => F8; rename News _ _ _ _ => N8
      refine If_go (JB fun t => [("steps", .int (pSteps rows a b c d high) t), ("each", .int (pEach rows b d) te), ("reach", .int (pReach rows a b c) tr), ("repeated", .int d td), ("bottom", .int c tc), ("middle", .int b tb), ("top", .int a ta)]) F8 N8 (fun going => ?_) (fun h' tk m' pre F N j => ?_)
      · repeat' (first | walk1 | (dsimp only; walk1))
        · have ⟨hE2, hE3⟩ := hE (by assumption)
          repeat' (first | walk1 | (dsimp only; walk1))
          rename Fr _ _ _ _ => F9; rename News _ _ _ _ => N9
          exact ⟨_, _, _, [], rfl, F9, N9, _, rfl, by rw [pSteps, if_pos ⟨by assumption, by assumption⟩]; rfl, Has.of_map rfl⟩
        · rename Fr _ _ _ _ => F9; rename News _ _ _ _ => N9
          exact ⟨_, _, _, [], rfl, F9, N9, _, rfl, by rw [pSteps, if_neg (fun q => absurd q.2 (by assumption))]; rfl, Has.of_map rfl⟩
        · rename Fr _ _ _ _ => F9; rename News _ _ _ _ => N9
          exact ⟨_, _, _, [], rfl, F9, N9, _, rfl, by rw [pSteps, if_neg (fun q => absurd q.1 (by assumption))]; rfl, Has.of_map rfl⟩
      · obtain ⟨tst, rfl, H⟩ := j
        have ⟨b1, b2, b3, b4⟩ := pSteps_b (a := a) (b := b) (c := c) (d := d) hB hh0
        generalize pSteps rows a b c d high = st at h hst0 hst lM H b1 b2 b3 b4 ⊢
        generalize pEach rows b d = ec at h H b1 b2 b3 b4 ⊢
        generalize pReach rows a b c = rc at h H b1 b2 b3 b4 ⊢
        clear hE
        simp only [List.nil_append] at N
        replace F := frOf F H
        repeat' (first | walk1 | (dsimp only; walk1))
        rename Fr _ _ _ _ => F8; rename News _ _ _ _ => N8
        refine If_go (JB fun t => [("steps", .int st t), ("each", .int ec te), ("reach", .int rc tr), ("repeated", .int d td), ("bottom", .int c tc), ("middle", .int b tb), ("top", .int a ta)]) F8 N8 (fun going => ?_) (fun h' tk m' pre F N j => ?_)
        · repeat' (first | walk1 | (dsimp only; walk1))
          rename Fr _ _ _ _ => F9; rename News _ _ _ _ => N9
          exact ⟨_, _, _, [], rfl, F9, N9, _, rfl, Has.of_map rfl⟩
        · obtain ⟨tst, rfl, H⟩ := j
          simp only [List.nil_append] at N
          replace F := frOf F H
          repeat' (first | walk1 | (dsimp only; walk1))
          rename Fr _ _ _ _ => F8; rename News _ _ _ _ => N8
          have hia : IntsAre (List.replicate st.toNat [Value.int d td]).flatten (List.replicate st.toNat d) := ints_rep _ _ _
          generalize (List.replicate st.toNat [Value.int d td]).flatten = vs0 at F8 N8 hia
          refine If_go (JC (pMid b d st.toNat) fun D t => [("codes", .ref D), ("steps", .int st t), ("each", .int ec te), ("reach", .int rc tr), ("repeated", .int d td), ("bottom", .int c tc), ("top", .int a ta)]) F8 N8 (fun going => ?_) (fun h' tk m' pre F N j => ?_)
          · repeat' (first | walk1 | (dsimp only; walk1))
            · rename Fr _ _ _ _ => F9; rename News _ _ _ _ => N9; rename b ≠ 0 => hz
              exact ⟨_, _, _, [_], rfl, F9, newsMk N9 (by k_mem) (newsMk N9 (by k_mem) (newsMk N9 (by k_mem) (newsMk N9 (by k_mem) (newsMk N9 (by k_mem) News.nil)))), _, _, _, _, rfl, by rw [pMid, if_pos hz]; assumption, Has.of_map rfl⟩
            · rename Fr _ _ _ _ => F9; rename News _ _ _ _ => N9; rename b = 0 => hz
              exact ⟨_, _, _, [_], rfl, F9, newsMk N9 (by k_mem) (newsMk N9 (by k_mem) (newsMk N9 (by k_mem) (newsMk N9 (by k_mem) (newsMk N9 (by k_mem) News.nil)))), _, _, _, _, rfl, by rw [pMid, if_neg (by simpa using hz)]; assumption, Has.of_map rfl⟩
          · obtain ⟨D, cvs, tt, kk, rfl, hcs, H⟩ := j
            simp only [List.cons_append, List.nil_append] at N
            replace F := frOf F H
            repeat' (first | walk1 | (dsimp only; walk1))
            rename Fr _ _ _ _ => F8; rename News _ _ _ _ => N8
            refine IfE_go (JD (pOpt a) [("codes", .ref D), ("steps", .int st tt), ("each", .int ec te), ("reach", .int rc tr), ("repeated", .int d td), ("bottom", .int c tc)]) F8 N8 (fun going => ?_) (fun v h' tk m' pre F N j => ?_)
            · repeat' (first | walk1 | (dsimp only; walk1))
              · rename Fr _ _ _ _ => F9; rename News _ _ _ _ => N9; rename a ≠ 0 => hz
                exact ⟨_, _, _, [_], rfl, F9, N9, _, [.int a ta], _, rfl, rfl, by rw [pOpt, if_pos hz]; exact .cons _ _ .nil, Has.of_map rfl⟩
              · rename Fr _ _ _ _ => F9; rename News _ _ _ _ => N9; rename a = 0 => hz
                exact ⟨_, _, _, [_], rfl, F9, N9, _, [], _, rfl, rfl, by rw [pOpt, if_neg (by simpa using hz)]; exact .nil, Has.of_map rfl⟩
            · obtain ⟨D1, vs1, k1, rfl, rfl, hi1, H⟩ := j
              simp only [List.cons_append, List.nil_append] at N
              replace F := frOf F H
              repeat' (first | walk1 | (dsimp only; walk1))
              rename Fr _ _ _ _ => F8; rename News _ _ _ _ => N8
              refine IfE_go (JD (pOpt c) [("codes", .ref D), ("steps", .int st tt), ("each", .int ec te), ("reach", .int rc tr), ("repeated", .int d td)]) F8 N8 (fun going => ?_) (fun v h' tk m' pre F N j => ?_)
              · repeat' (first | walk1 | (dsimp only; walk1))
                · rename Fr _ _ _ _ => F9; rename News _ _ _ _ => N9; rename c ≠ 0 => hz
                  exact ⟨_, _, _, [_], rfl, F9, N9, _, [.int c tc], _, rfl, rfl, by rw [pOpt, if_pos hz]; exact .cons _ _ .nil, Has.of_map rfl⟩
                · rename Fr _ _ _ _ => F9; rename News _ _ _ _ => N9; rename c = 0 => hz
                  exact ⟨_, _, _, [_], rfl, F9, N9, _, [], _, rfl, rfl, by rw [pOpt, if_neg (by simpa using hz)]; exact .nil, Has.of_map rfl⟩
              · obtain ⟨D2, vs2, k2, rfl, rfl, hi2, H⟩ := j
                simp only [List.cons_append, List.nil_append] at N
                replace F := frOf F H
                repeat' (first | walk1 | (dsimp only; walk1))
                rename Fr _ _ _ _ => F8; rename News _ _ _ _ => N8
                rename_i Dc wc hc8 hcd lc9 hc9
                refine ⟨LCg.Assign_ListComp_U (F₀ := F8) (by rfl) (by with_unfolding_all rfl) (by rfl) (by decide) (by rfl) (by decide) (by rfl) (by rfl) (by rfl) ?_⟩
                repeat' (first | walk1 | (dsimp only; walk1))
                have hwl : wc.length ≤ 1000 := by rw [hcd.length]; simp only [List.length_append]; omega
                refine ⟨LCg.CompSrc.ledger rfl F8 (newsMk N8 (by k_mem) (newsMk N8 (by k_mem) News.nil) : News s.heap L hc9 [(Dc, listOf wc.toArray 0), (L + 1, oc)]) (.head _) (by rw [List.size_toArray, sizeLine_eq]; omega) (fun g9 => compTurns (JPb s.heap g Dc (L + 1) oc wc (.ref x) rows (pCodes a b c d st.toNat)) ?_ ?_ _ 0 [] _ (Nat.zero_add _) ⟨g, [], rfl, ⟨fun b o e => .inl (hg b o e)⟩, fun _ _ e => e, fun b o e => .inl e, .nil⟩)⟩
                · rintro i v ys news I oI C oC D9 m₂ h9 tk9 E' hin hv ⟨g', D', rfl, hG, hgg, hfr, hall⟩ hC hx9 F N off ne
                  obtain ⟨ci, ti, rfl, hci⟩ := intsAre_get hcd (by simpa using hv)
                  clear F8 N8
                  repeat' (first | walk1 | (dsimp only; walk1))
                  rename Fr _ _ _ _ => F; rename News _ _ _ _ => N
                  have hcb : 0 ≤ ci ∧ ci ≤ 255 := by
                    have hm : ci ∈ pCodes a b c d st.toNat := List.mem_of_getElem? hci
                    rcases pCodes_mem hm with e | e | e | e <;> (rw [e]; first | exact ha | exact hb | exact hc | exact hd)
                  rename FontAt _ _ _ _ _ _ _ _ _ _ _ _ _ _ => f8
                  have f9 := f8.keeps F.keep
                  have ND : News s.heap L h9 D' := fun p hp => N p (.tail _ (.tail _ (.tail _ (.tail _ (.tail _ hp)))))
                  refine ⟨char_box2 (mg := mg) (mb := mb) (Rm.le Rm.an (by decide)) (X.keeps F.keep) (trKeep T F) f9 hcb.1 hcb.2 (hB ci) (fun h' tk' kS x1 dx1 es1 n1 li nl c1 dc1 esc nc hfr9 LA => ?_)⟩
                  have G1 := Gx.ext (hG.stays F ND) kS
                  obtain ⟨hG2, N2⟩ := hG.grow F ND kS G1
                  have N' := newsAfter N kS
                  have offm := off.mem
                  have hI : ∃ o, h9.get? I = some o := ⟨_, (N _ (.head _)).1⟩
                  have hC9 : ∃ o, h9.get? C = some o := ⟨_, (N _ (.tail _ (.head _))).1⟩
                  have hD9 : ∃ o, h9.get? D9 = some o := ⟨_, (N _ (.tail _ (.tail _ (.head _)))).1⟩
                  have o1 := dOf_off hG G1 hI (fun q hq => (offm q (.tail _ (.tail _ hq))).1)
                  have o2 := dOf_off hG G1 hC9 (fun q hq => (offm q (.tail _ (.tail _ hq))).2.1)
                  have o3 := dOf_off hG G1 hD9 (fun q hq => (offm q (.tail _ (.tail _ hq))).2.2)
                  refine LCg.CompEnd.intro (frAfter F kS) (newsMk N' (by k_mem) (newsMk N' (by k_mem) (newsMk N' (by k_mem) (newsMk N' (by k_mem) (newsMk N' (by k_mem) N2))))) _ (fun p hp => hp) (LCg.Off3.of (allC (offm _ (.head _)) (allC (offm _ (.tail _ (.head _))) fun p hp => ⟨o1 p hp, o2 p hp, o3 p hp⟩))) (Or.inr ⟨_, .head _, rfl, _, rfl⟩) ⟨_, _, rfl, hG2, fun b o e => G1.a b o (hgg b o e), ?_, ?_⟩
                  · intro b o e
                    rcases G1.c b o e with q | q
                    · exact hfr b o q
                    · refine .inr ?_
                      cases e1 : s.heap.get? b with
                      | none => rfl
                      | some o' => rw [F.keep b o' e1] at q; cases q
                  · have hci : (pCodes a b c d st.toNat)[i]? = some ci := hci
                    rw [take_one hci]
                    exact (hall.imp fun _ _ q => q.keeps G1.a).append (.cons ⟨_, _, _, _, _, _, _, _, _, _, rfl, letter_ext LA hfr9⟩ .nil)
                · rintro ys news ⟨g', D', rfl, hG, hgg, hfr, hall⟩ D9 h9 tk9 F N off
                  clear F8 N8
                  have hal2 : All2 (LetV g' (.ref x) rows) ys (pCodes a b c d st.toNat) := by
                    rw [List.take_of_length_le (by rw [List.size_toArray, hcd.length]; exact Nat.le_refl _)] at hall
                    exact hall
                  generalize hcs9 : pCodes a b c d st.toNat = cs at hal2
                  repeat' (first | walk1 | (dsimp only; walk1))
                  rename Fr _ _ _ _ => F8; rename News _ _ _ _ => N8
                  refine IfE_go (JV (fun t => .int (headH rows cs) t) fun _ _ => [("items", .ref D9), ("steps", .int st tt), ("each", .int ec te), ("reach", .int rc tr), ("repeated", .int d td)]) F8 N8 (fun going => ?_) (fun v h' tk m' pre F N j => ?_)
                  · cases hal2 with
                    | nil =>
                      repeat' (first | walk1 | (dsimp only; walk1))
                      rename Fr _ _ _ _ => F9; rename News _ _ _ _ => N9
                      exact ⟨_, _, _, [], rfl, F9, newsTl N9, _, 0, 0, rfl, rfl, Has.of_map rfl⟩
                    | cons q hal2 =>
                      obtain ⟨x1, dx1, es1, n1, li, nl, c1, dc1, esc, nc, rfl, LA⟩ := q
                      have I1 := instAt_mk LA.box.hx LA.box.hd
                      obtain ⟨t9, m9⟩ := LA.box.height
                      repeat' (first | walk1 | (dsimp only; walk1))
                      rename Fr _ _ _ _ => F9; rename News _ _ _ _ => N9
                      exact ⟨_, _, _, [], rfl, F9, newsTl N9, _, 0, 0, rfl, rfl, Has.of_map rfl⟩
                  · obtain ⟨tv, _, _, rfl, rfl, H⟩ := j
                    simp only [List.nil_append] at N
                    replace F := frOf F H
                    repeat' (first | walk1 | (dsimp only; walk1))
                    rename Fr _ _ _ _ => F9; rename News _ _ _ _ => N9
                    have b5 := headH_b hB cs
                    have b6 := (hB d).w0; have b7 := (hB d).w1; have b8 := (hB d).i0; have b9 := (hB d).i1
                    have hst9 := hG.stays F9 (fun p hp => N9 p (.tail _ (.tail _ (.tail _ hp))))
                    refine ⟨box_new_spec (mg := mg) (mb := mb) (Rm.le Rm.an (by decide)) (X.keeps F9.keep) (trKeep T F9) (by omega) (by omega) (by omega) (by omega) (by omega) (by omega) (by omega) (by omega) (fun h' tk' kS x1 dx1 es1 n1 f1 f2 B => ?_)⟩
                    have k9 : s.heap.StaysIn h' := fun b o e => kS b o (F9.keep b o e)
                    have Gf := (Gx.ext hg k9)
                    have fr1 : ∀ a ∈ [x1, dx1], s.heap.get? a = none := allC (fresh_back F9.keep f2) (allC (fresh_back F9.keep f1) allN)
                    have fr2 : ∀ a ∈ [x1, dx1], g'.get? a = none := allC (fresh_back hst9 f2) (allC (fresh_back hst9 f1) allN)
                    have hg2 : g'.StaysIn (but (ext g s.heap h') [x1, dx1]) := but_sub (ext_sub (fun b o e => kS b o (hst9 b o e)) hfr) fr2
                    have hD9 := N9 _ (.head _)
                    rw [hcs9] at h
                    repeat walk1
                    refine h h' tk' (but (ext g s.heap h') [x1, dx1]) x1 dx1 es1 n1 D9 _ ys k9 (Gf.but fun a ha => ?_) (fun a ha => ⟨fr1 a ha, but_none ha⟩) B (but_get (ext_get (kS _ _ hD9.1) hD9.2.2) fun q => ?_) (hal2.imp fun _ _ q => q.keeps hg2)
                    · exact fresh_back hg (fr1 a ha)
                    · simp only [List.mem_cons, List.not_mem_nil, or_false] at q
                      rcases q with rfl | rfl
                      · rw [f2] at hD9; cases hD9.1
                      · rw [f1] at hD9; cases hD9.1
end
end Mine
end
section
namespace Mine
noncomputable def halfv (v : Int) : Int := Int.fdiv (v + Int.fmod v 2) 2
section
variable {w : World} {A : Around} {s : Shared} {E : Value → Shared → Prop} {Q : Value → Shared → Prop} {mg mb : Str → Option Value}
theorem halved2 (R : Rm 1 A) (X : (KF w.params).In s.heap) (T : TR mg mb s.heap) {v : Int} {t : Tok}
   (h : ∀ h' tk, s.heap.StaysIn h' → ∀ t', Q (.int (halfv v) t') {s with heap := h', toks := tk}) : wpAny (model p0 w) A (call (.ref 130) [.int v t]) Q E s :=
  halved_spec R X T fun h' tk t' k => h h' tk k t'
end
end Mine
end
section
set_option maxHeartbeats 1000000
namespace Mine
section
variable {w : World} {A : Around} {s : Shared} {E : Value → Shared → Prop} {Q : Value → Shared → Prop} {mg mb : Str → Option Value}
theorem ksetDb1 : True := by
  k_with "call ref" => ((with_reducible show wpAny _ _ (call (Value.ref 148) _ _) _ _ _); refine' check_delimiter_spec (mg := mg) (mb := mb) ?k1 ?k2 ?k3 ?k4 ?k5 ?k6 ?k7 ?k8 ?k9 ?k10 ?k11 ?k12 ?_; (case k1 => walk_at "p world"); (case k2 => walk_at "p world"); (case k3 => walk_at "p world"); (case k4 => exact isTup_keeps (by k_asm) (Fr.keep (by k_asm))); (case k5 => omega); (case k6 => omega); (case k7 => omega); (case k8 => omega); (case k9 => omega); (case k10 => omega); (case k11 => omega); (case k12 => omega); walk_at "p after")
  k_with "call ref" => ((with_reducible show wpAny _ _ (call (Value.ref 183) _ _) _ _ _); (rename Fr _ _ _ _ => kF0); (rename FamAt _ _ _ _ _ _ _ _ _ => kf); refine' fam_symbol_spec (mg := mg) (mb := mb) ?k1 ?k2 ?k3 (FamAt.keeps kf (Fr.keep kF0)) ?k4 ?k5 ?k6 ?_; (case k1 => walk_at "p world"); (case k2 => walk_at "p world"); (case k3 => walk_at "p world"); (case k6 => k_asm); (case k4 => omega); (case k5 => omega); walk_at "p after")
  k_with "getAttr ref" => (k_dflt (refine' attr_base ?k1 ?k2 ?k3 ?k4 ?k5 ?k6 ?k7 ?k8 ?k9 ?_; (case k3 => k_asm); (case k1 => k_asm); (case k2 => k_asm); (case k4 => k_asm); (case k5 => k_is); (case k6 => k_is); (case k7 => k_is); (case k8 => k_is); (case k9 => k_handed); k_whole))
  k_with "getAttr ref" => (k_dflt (refine' get_own ?k1 ?k2 (InstAt.of_news ?kN ?h1 ?h2) ?k5 ?k6 ?k7 ?k8 ?k4 ?k9 ?_; (case k1 => k_asm); (case k2 => k_asm); (case kN => k_asm); (case h1 => k_mem); (case h2 => k_mem); (case k4 => k_asm); (case k5 => k_is); (case k6 => k_is); (case k7 => k_is); (case k8 => k_is); (case k9 => k_handed); k_whole))
  k_with "call ref" => ((with_reducible show wpAny _ _ (call (Value.ref 130) _ _) _ _ _); refine' halved2 (mg := mg) (mb := mb) ?k1 ?k2 ?k3 ?_; (case k1 => walk_at "p world"); (case k2 => walk_at "p world"); (case k3 => walk_at "p world"); walk_at "p after")
  k_with "call ref" => ((with_reducible show wpAny _ _ (call (Value.ref 435) _ _) _ _ _); (rename Fr _ _ _ _ => kF0); (rename FontAt _ _ _ _ _ _ _ _ _ _ _ _ _ _ => kf); refine' font_pieces_n (mg := mg) (mb := mb) ?k1 ?k2 ?k3 (FontAt.keeps kf (Fr.keep kF0)) ?k4 ?_; (case k1 => walk_at "p world"); (case k2 => walk_at "p world"); (case k3 => walk_at "p world"); (case k4 => k_asm); walk_at "p after")
  k_with "call ref" => ((with_reducible show wpAny _ _ (call (Value.ref 435) _ _) _ _ _); (rename Fr _ _ _ _ => kF0); (rename FontAt _ _ _ _ _ _ _ _ _ _ _ _ _ _ => kf); refine' font_pieces_t (mg := mg) (mb := mb) ?k1 ?k2 ?k3 (FontAt.keeps kf (Fr.keep kF0)) ?k4 ?_; (case k1 => walk_at "p world"); (case k2 => walk_at "p world"); (case k3 => walk_at "p world"); (case k4 => k_asm); walk_at "p after")
  k_with "subscriptTail" => ((with_reducible show wpAny _ _ (subscriptTail _ _ (Value.ref _) (Value.int _ _)) _ _ _); k_dflt (refine' item_base ?k1 ?k2 ?k3 ?_ ?k4; (case k1 => k_asm); (case k2 => k_asm); (case k3 => k_asm); (case k4 => with_unfolding_all rfl); k_whole))
  k_with "call ref" => ((with_reducible show wpAny _ _ (call (Value.ref 290) _ _) _ _ _); refine' stop_here ?_)
  k_with "call ref" => ((with_reducible show wpAny _ _ (call (Value.ref 276) _ _) _ _ _); refine' stop_here ?_)
  k_with "call ref" => ((with_reducible show wpAny _ _ (call (Value.ref 295) _ _) _ _ _); refine' stop_here ?_)
  k_with "call ref" => ((with_reducible show wpAny _ _ (call (Value.ref 268) _ _) _ _ _); refine' stop_here ?_)
  k_with "call ref" => ((with_reducible show wpAny _ _ (call (Value.ref 283) _ _) _ _ _); refine' stop_here ?_)
  k_with "call ref" => ((with_reducible show wpAny _ _ (call (Value.ref 257) _ _) _ _ _); (try (rename Bd _ => kB; have kb1 := Bd.w0 kB; have kb2 := Bd.w1 kB; have kb3 := Bd.h0 kB; have kb4 := Bd.h1 kB; have kb5 := Bd.d0 kB; have kb6 := Bd.d1 kB; have kb7 := Bd.i0 kB; have kb8 := Bd.i1 kB)); (rename Fr _ _ _ _ => kF); (rename News _ _ _ _ => kN); refine' box_new_spec (mg := mg) (mb := mb) ?k1 ?k2 ?k3 ?k4 ?k5 ?k6 ?k7 ?k8 ?k9 ?j1 ?j2 ?_; (case k1 => walk_at "p world"); (case k2 => walk_at "p world"); (case k3 => walk_at "p world"); (case k4 => omega); (case k5 => omega); (case k6 => omega); (case k7 => omega); (case k8 => omega); (case k9 => omega); (case j1 => omega); (case j2 => omega); intro _ _ kS _ _ _ _ f1 f2 C; (have F' := frAfter kF kS); (have N' := newsCons kF (newsCons kF (newsAfter kN kS) (BoxAt.hd C) f1) (BoxAt.hx C) f2); (try k_sweep))
  trivial
theorem chain_find {rows : List Row} : ∀ (n : Nat) (c : Int) (r : Row), r ∈ chain rows n c → find rows r.code = some r := by
  intro n
  induction n with
  | zero => intro c r h; cases h
  | succ n ih =>
    intro c r h
    unfold chain at h
    cases e : find rows c with
    | none => rw [e] at h; cases h
    | some r0 =>
      rw [e] at h
      rcases List.mem_cons.mp h with rfl | h
      · rw [(find_mem e).2]; exact e
      · cases k : r0.kd with
        | larger c' => rw [k] at h; exact ih c' r h
        | plain => rw [k] at h; cases h
        | pieces => rw [k] at h; cases h
theorem ways1_mem {fs : List (Int × Fo)} {n : Nat} {f c p : Int} {r : Row} (h : (p, r) ∈ ways1 fs n f c) : ∃ fo, findF fs p = some fo ∧ find fo.rows r.code = some r := by
  unfold ways1 at h
  split at h
  · cases h
  · obtain ⟨lv, _, h⟩ := List.mem_flatMap.mp h
    unfold wayAt at h
    cases e : findF fs (f * 3 + lv) with
    | none => rw [e] at h; cases h
    | some fo =>
      rw [e] at h
      obtain ⟨r', hr, e2⟩ := List.mem_map.mp h
      cases e2
      exact ⟨fo, e, chain_find _ _ _ hr⟩
theorem scan_mem {high : Int} : ∀ (ws : List (Int × Row)) (best : Option (Int × Row)) (most : Int) (q : Int × Row), scan high ws best most = some q → q ∈ ws ∨ best = some q := by
  intro ws
  induction ws with
  | nil => intro best most q h; exact .inr h
  | cons a ws ih =>
    obtain ⟨p, r⟩ := a
    intro best most q h
    have low : ∀ b m, scan high ws b m = some q → (b = some (p, r) ∨ b = best) → q ∈ (p, r) :: ws ∨ best = some q := fun b m h hb => by
      rcases ih _ _ _ h with h2 | h2
      · exact .inl (.tail _ h2)
      · rcases hb with hb | hb
        · rw [hb] at h2; cases h2; exact .inl (.head _)
        · rw [hb] at h2; exact .inr h2
    have go : (if most < r.ht + r.dp then (if high ≤ r.ht + r.dp then some (p, r) else scan high ws (some (p, r)) (r.ht + r.dp)) else scan high ws best most) = some q → q ∈ (p, r) :: ws ∨ best = some q := fun h => by
      split at h
      · split at h
        · cases h; exact .inl (.head _)
        · exact low _ _ h (.inl rfl)
      · exact low _ _ h (.inr rfl)
    unfold scan at h
    cases k : r.kd with
    | pieces => rw [k] at h; cases h; exact .inl (.head _)
    | plain => rw [k] at h; exact go h
    | larger => rw [k] at h; exact go h
noncomputable def BoxItems (g : Heap) (kvs : List (Int × Value)) (fs : List (Int × Fo)) (high nul bk bw bh bd : Int) (li : Addr) : Option (Int × Row) → Prop
  | none => bk = 2 ∧ bw = nul ∧ bh = 0 ∧ bd = 0 ∧ ∃ nl, g.get? li = some (listOf #[] nl)
  | some (p, r) => ∃ fa fo, valueAt kvs p = some (.ref fa) ∧ findF fs p = some fo ∧ find fo.rows r.code = some r ∧ match r.kd with
    | .pieces a b c d => bk = 3 ∧ bw = (rowD fo.rows d).wd + (rowD fo.rows d).it ∧ bh = headH fo.rows (pCodes a b c d (pSteps fo.rows a b c d high).toNat) ∧
        bd = pReach fo.rows a b c + pSteps fo.rows a b c d high * pEach fo.rows b d - headH fo.rows (pCodes a b c d (pSteps fo.rows a b c d high).toNat) ∧
        ∃ ys nl, g.get? li = some (listOf (List.toArray ys) nl) ∧ All2 (LetV g (.ref fa) fo.rows) ys (pCodes a b c d (pSteps fo.rows a b c d high).toNat)
    | _ => bk = 2 ∧ bw = r.wd + r.it ∧ bh = r.ht ∧ bd = r.dp ∧ ∃ c dc esc nc nl, g.get? li = some (listOf #[.ref c] nl) ∧ CharAt g c dc esc nc (.ref fa) r.code
structure FoOk (fo : Fo) (high : Int) : Prop where
  bd : ∀ c, Bd (rowD fo.rows c)
  lo : ∀ r ∈ fo.rows, 0 ≤ r.code ∧ r.code ≤ 10
  pc : ∀ r ∈ fo.rows, ∀ a b c d, r.kd = .pieces a b c d → (0 ≤ a ∧ a ≤ 255) ∧ (0 ≤ b ∧ b ≤ 255) ∧ (0 ≤ c ∧ c ≤ 255) ∧ (0 ≤ d ∧ d ≤ 255) ∧ 0 ≤ pSteps fo.rows a b c d high ∧ pSteps fo.rows a b c d high ≤ 200
inductive JDb (g h₀ : Heap) (kvs : List (Int × Value)) (fs : List (Int × Fo)) (high nul : Int) (found : Option (Int × Row)) (bs : List (Str × Value)) (m : Str → Option Value) (pre : List (Addr × Obj)) : Prop
  | mk (g' : _)(D : _)(x1 : _)(dx1 : _)(es1 : _)(n1 : _)(bk : _)(bw : _)(bh : _)(bd : _)(li : _) (h0 : pre = (x1, instObj 257 dx1) :: (dx1, dictOf es1 n1) :: D) (h1 : g.StaysIn g') (h2 : (∀ b o, g'.get? b = some o → g.get? b = some o ∨ h₀.get? b = none)) (h3 : Gh h₀ g' D) (h4 : (∀ a ∈ [x1, dx1], h₀.get? a = none ∧ g'.get? a = none)) (h5 : (∃ hh, BoxAt hh x1 dx1 es1 n1 bk bw bh bd (.ref li) 0)) (h6 : BoxItems g' kvs fs high nul bk bw bh bd li found) (h7 : Has m (("box", .ref x1) :: bs)) : JDb g h₀ kvs fs high nul found bs m pre
theorem boxNews {g h₀ h9 h' g' : Heap} {L : Addr} {m : Str → Option Value} {x1 dx1 : Addr} {es1 : List DictEntry} {n1 : Nat} {bk bw bh bd : Int} {li : Value} {news : List (Addr × Obj)}
    (hg : g.StaysIn h₀) (F : Fr h₀ L h9 m) (N : News h₀ L h9 news) (k : h9.StaysIn h') (G : Gx g h9 h' g') (fr : ∀ a ∈ [x1, dx1], h9.get? a = none) (B : BoxAt h' x1 dx1 es1 n1 bk bw bh bd li 0) :
    ∃ D, Gh h₀ g' D ∧ News h₀ L h' ((x1, instObj 257 dx1) :: (dx1, dictOf es1 n1) :: (D ++ news)) ∧ (∀ a ∈ [x1, dx1], h₀.get? a = none) ∧ (∀ b o, g'.get? b = some o → g.get? b = some o ∨ h₀.get? b = none) := by
  have G0 : Gh h₀ g [] := ⟨fun b o e => .inl (hg b o e)⟩
  obtain ⟨hG, ND⟩ := G0.grow F News.nil k G
  have f1 : ∀ a ∈ [x1, dx1], h₀.get? a = none := fun a ha => fresh_back F.keep (fr a ha)
  have nL : ∀ a ∈ [x1, dx1], a ≠ L := fun a ha q => by
    obtain ⟨_, _, _, eL, _⟩ := F.ns
    have e := fr a ha
    rw [q] at e
    exact absurd (e.symm.trans eL) (by simp)
  refine ⟨_, hG, ?_, f1, ?_⟩
  · intro p hp
    rcases List.mem_cons.mp hp with rfl | hp
    · exact ⟨B.hx, nL _ (by simp), f1 _ (by simp)⟩
    rcases List.mem_cons.mp hp with rfl | hp
    · exact ⟨B.hd, nL _ (by simp), f1 _ (by simp)⟩
    rcases List.mem_append.mp hp with hp | hp
    · exact ND p hp
    · exact ⟨k _ _ (N p hp).1, (N p hp).2⟩
  · intro b o e
    rcases G.c b o e with q | q
    · exact .inl q
    · exact .inr (fresh_back F.keep q)
theorem ne_of_obj {h : Heap} {a b : Addr} {o o' : Obj} (e : h.get? a = some o) (e' : h.get? b = some o') (n : o ≠ o') : a ≠ b := fun q => by rw [q] at e; rw [e] at e'; exact n (Option.some.inj e')
theorem notin2 {a x y : Addr} (h1 : a ≠ x) (h2 : a ≠ y) : a ∉ [x, y] := by simp [h1, h2]
theorem list_apart {h : Heap} {x dx li : Addr} {es : List DictEntry} {n : Nat} {k w0 a b : Int} {it : Value} {xs : Array Value} {nl : Nat} {sh : Int} (B : BoxAt h x dx es n k w0 a b it sh) (e : h.get? li = some (listOf xs nl)) : li ∉ [x, dx] :=
  notin2 (ne_of_obj e B.hx (fun q => by have := congrArg Obj.cls q; simp [W.listOf, dictOf, instObj] at this)) (ne_of_obj e B.hd (fun q => by have := congrArg Obj.cls q; simp [W.listOf, dictOf, instObj] at this))
theorem char_apart {h : Heap} {x dx c dc : Addr} {es esc : List DictEntry} {n nc : Nat} {k w0 a b code : Int} {it fv : Value} {sh : Int} (B : BoxAt h x dx es n k w0 a b it sh) (C : CharAt h c dc esc nc fv code) : c ∉ [x, dx] ∧ dc ∉ [x, dx] := by
  refine ⟨notin2 (ne_of_obj C.hx B.hx (fun q => ?_)) (ne_of_obj C.hx B.hd (fun q => by have := congrArg Obj.cls q; simp [W.listOf, dictOf, instObj] at this)), notin2 (ne_of_obj C.hd B.hx (fun q => by have := congrArg Obj.cls q; simp [W.listOf, dictOf, instObj] at this)) (ne_of_obj C.hd B.hd (fun q => ?_))⟩
  · have := congrArg Obj.cls q
    simp [instObj] at this
  · have e : esc = es := by
      have := congrArg Obj.data q
      simpa [dictOf] using (congrArg (fun d => match d with | Data.dict a _ => a.toList | _ => []) this)
    have h1 := C.kind
    obtain ⟨t, h2⟩ := B.kind
    rw [e, h2] at h1
    cases h1
theorem findF_mem {fs : List (Int × Fo)} {k : Int} {fo : Fo} (h : findF fs k = some fo) : ∃ q ∈ fs, q.2 = fo := by
  unfold findF at h
  obtain ⟨q, e, rfl⟩ := Option.map_eq_some_iff.mp h
  exact ⟨q, List.mem_of_find?_eq_some e, rfl⟩
theorem empty_box2 (R : Rm 6 A) (X : (KF w.params).In s.heap) (T : TR mg mb s.heap) {wd : Int} {t : Tok} (h1 : 0 ≤ wd) (h2 : wd ≤ 1000)
   (h : ∀ h' tk, s.heap.StaysIn h' → ∀ x1 dx1 es1 n1 li nl, (∀ a ∈ [x1, dx1, li], s.heap.get? a = none) → BoxAt h' x1 dx1 es1 n1 2 wd 0 0 (.ref li) 0 → h'.get? li = some (listOf #[] nl) → Q (.ref x1) {s with heap := h', toks := tk}) : wpAny (model p0 w) A (call (.ref 276) [.int wd t]) Q E s := by
  refine callF (binds := [("width", .int wd t)]) R X T rfl (by k_is) (binds_K X rfl rfl rfl rfl rfl) (by kernel_rfl) rfl rfl rfl (by kernel_rfl) (fun L h₁ tk F N X T => ?_)
  repeat' (first | walk1 | (dsimp only; walk1))
  rename Fr _ _ _ _ => F9; rename News _ _ _ _ => N9; rename BoxAt _ _ _ _ _ _ _ _ _ _ _ => B9
  refine h _ _ F9.keep _ _ _ _ _ _ (fun a ha => ?_) B9 (N9.get (by k_mem))
  simp only [List.mem_cons, List.not_mem_nil, or_false] at ha
  rcases ha with rfl | rfl | rfl <;> exact N9.fresh (by k_mem)
theorem halfv_b {v : Int} (h0 : -100000 ≤ v) (h1 : v ≤ 100000) : -100001 ≤ halfv v ∧ halfv v ≤ 100001 := by
  unfold halfv
  rw [Int.fmod_eq_emod_of_nonneg _ (by omega), Int.fdiv_eq_ediv_of_nonneg _ (by omega)]
  omega
theorem boxItems_b {g : Heap} {kvs : List (Int × Value)} {fs : List (Int × Fo)} {high nul bk bw bh bd : Int} {li : Addr} {found : Option (Int × Row)} (hok : ∀ p ∈ fs, FoOk p.2 high) (hh : high ≤ 1000) (I : BoxItems g kvs fs high nul bk bw bh bd li found) : -100000 ≤ bh - bd ∧ bh - bd ≤ 100000 := by
  cases found with
  | none => obtain ⟨_, _, rfl, rfl, _⟩ := I; decide
  | some pr =>
    obtain ⟨p, r⟩ := pr
    obtain ⟨fa, fo, _, hf, hr, I⟩ := I
    obtain ⟨q, hq, rfl⟩ := findF_mem hf
    have hB := (hok q hq).bd
    have let1 : ∀ z, z = r → -100000 ≤ r.ht - r.dp ∧ r.ht - r.dp ≤ 100000 := fun _ _ => by
      have e := rowD_of hr
      have b := hB r.code
      rw [e] at b
      have := b.h0; have := b.h1; have := b.d0; have := b.d1
      omega
    cases k : r.kd with
    | pieces a b c d =>
      rw [k] at I
      obtain ⟨_, _, rfl, rfl, _⟩ := I
      have ⟨b1, b2, b3, b4⟩ := pSteps_b (a := a) (b := b) (c := c) (d := d) hB hh
      have b5 := headH_b hB (pCodes a b c d (pSteps q.2.rows a b c d high).toNat)
      omega
    | plain => rw [k] at I; obtain ⟨_, _, rfl, rfl, _⟩ := I; exact let1 r rfl
    | larger => rw [k] at I; obtain ⟨_, _, rfl, rfl, _⟩ := I; exact let1 r rfl
theorem delimiter_box_spec (R : Rm 10 A) (X : (KF w.params).In s.heap) (T : TR mg mb s.heap) {g : Heap} (hg : g.StaysIn s.heap) {x dx dr : Addr} {es : List DictEntry} {n : Nat} {kvs : List (Int × Value)} {fs : List (Int × Fo)} (f : FamAt w g x dx dr es n kvs fs) (hW : ∀ p ∈ fs, WFr p.2.rows)
   {da : Addr} {d0 d1 d2 d3 : Int} {t0 t1 t2 t3 : Tok} (hd : IsTup s.heap da #[.int d0 t0, .int d1 t1, .int d2 t2, .int d3 t3]) (h0 : 0 ≤ d0) (h0' : d0 ≤ 15) (h1 : 0 ≤ d1) (h1' : d1 ≤ 255) (h2 : 0 ≤ d2) (h2' : d2 ≤ 15) (h3 : 0 ≤ d3) (h3' : d3 ≤ 255)
   {sz : Nat} (hsz : sz ≤ 2) {high nul : Int} {ts th tn : Tok} (hh : high ≤ 1000) (hn0 : 0 ≤ nul) (hn1 : nul ≤ 1000) (hok : ∀ p ∈ fs, FoOk p.2 high) {fo0 : Fo} (hf0 : findF fs (2 * 3 + sz) = some fo0) (ha0 : 0 ≤ fo0.ax) (ha1 : fo0.ax ≤ 1000)
   (h : ∀ h' tk g' x1 dx1 es1 n1 bk bw bh bd li, s.heap.StaysIn h' → Gx g s.heap h' g' → (∀ a ∈ [x1, dx1], s.heap.get? a = none ∧ g'.get? a = none) → BoxAt h' x1 dx1 es1 n1 bk bw bh bd (.ref li) (halfv (bh - bd) - fo0.ax) →
      BoxItems g' kvs fs high nul bk bw bh bd li (scan high (ways1 fs (sz + 1) d0 d1 ++ ways1 fs (sz + 1) d2 d3) none 0) → Q (.ref x1) {s with heap := h', toks := tk}) :
   wpAny (model p0 w) A (call (.ref 303) [.ref x, .ref da, .int sz ts, .int high th, .int nul tn]) Q E s := by
  refine callF (binds := [("families", .ref x), ("delimiter", .ref da), ("size", .int sz ts), ("height", .int high th), ("null_space", .int nul tn)]) R X T rfl (by k_is) (binds_K X rfl rfl rfl rfl rfl) (by kernel_rfl) rfl rfl rfl (by kernel_rfl) (fun L h₁ tk F N X T => ?_)
  have f0 := f.keeps hg
  have If := f0.inst; have mf1 := f0.symbol
  repeat' (first | walk1 | (dsimp only; walk1))
  rename Fr _ _ _ _ => F8; rename News _ _ _ _ => N8
  generalize hfin : scan high (ways1 fs (sz + 1) d0 d1 ++ ways1 fs (sz + 1) d2 d3) none 0 = found at h
  have f8 := f0.keeps F8.keep; have hd8 := isTup_keeps hd F8.keep
  refine ⟨grown_spec (mg := mg) (mb := mb) (Rm.le Rm.an (by decide)) (X.keeps F8.keep) (trKeep T F8) f8 hW hd8 h0 h0' h1 h1' h2 h2' h3 h3' hsz (fun h' tk' kS v bn hgv hbn => ?_)⟩
  rw [hfin] at hgv
  have F7 := frAfter F8 kS; have N7 := newsAfter N8 kS
  have N6 : News s.heap L h' bn := by
    intro p hp
    refine ⟨(hbn p hp).2, ?_, fresh_back F8.keep (hbn p hp).1⟩
    intro q
    obtain ⟨_, _, _, eL, _⟩ := F8.ns
    have e := (hbn p hp).1
    rw [q] at e
    exact absurd (e.symm.trans eL) (by simp)
  clear F8 N8 N7 f8 hd8
  repeat' (first | walk1 | (dsimp only; walk1))
  rename Fr _ _ _ _ => F8; rename News _ _ _ _ => N8
  refine If_go (JDb g s.heap kvs fs high nul found [("families", .ref x), ("size", .int sz ts)]) F8 N8 (fun going => ?_) (fun h' tk m' pre F N j => ?_)
  · cases found with
    | none =>
      obtain ⟨rfl, rfl⟩ := hgv
      repeat' (first | walk1 | (dsimp only; walk1))
      rename Fr _ _ _ _ => F9; rename News _ _ _ _ => N9
      refine ⟨empty_box2 (mg := mg) (mb := mb) (Rm.le Rm.an (by decide)) (X.keeps F9.keep) (trKeep T F9) hn0 hn1 (fun h' tk' kS x1 dx1 es1 n1 li nl fr B hl => ?_)⟩
      have fr2 : ∀ a ∈ [x1, dx1], Heap.get? _ a = none := fun a ha => by
        simp only [List.mem_cons, List.not_mem_nil, or_false] at ha
        rcases ha with rfl | rfl <;> exact fr _ (by simp)
      have gs9 : g.StaysIn _ := fun b o e => F9.keep b o (hg b o e)
      have G1 := (Gx.ext gs9 kS).but (l := [x1, dx1]) (fun a ha => fresh_back gs9 (fr2 a ha))
      have hli : (but (ext g _ h') [x1, dx1]).get? li = _ := but_get (ext_get hl (fr li (by simp))) (list_apart B hl)
      obtain ⟨D9, hG9, N8, q1, q2⟩ := boxNews hg F9 N9 kS G1 fr2 B
      have F8 := frAfter F9 kS
      clear F9 N9
      repeat' (first | walk1 | (dsimp only; walk1))
      rename Fr _ _ _ _ => F9; rename News _ _ _ _ => N9
      exact ⟨_, _, _, _ :: _ :: D9, rfl, F9, N9, _, D9, x1, dx1, es1, n1, _, _, _, _, li, rfl, G1.a, q2, hG9, fun a ha => ⟨q1 a ha, but_none ha⟩, ⟨h', B⟩, ⟨rfl, rfl, rfl, rfl, _, hli⟩, rfl, rfl, rfl, trivial⟩
    | some pr =>
      obtain ⟨p, r⟩ := pr
      obtain ⟨ta, fa, tt, tk9, rfl, hkv, rfl⟩ := hgv
      have hmem : ∃ fo, findF fs p = some fo ∧ find fo.rows r.code = some r := by
        rcases scan_mem _ _ _ _ hfin with q | q
        · rcases List.mem_append.mp q with q | q
          · exact ways1_mem q
          · exact ways1_mem q
        · cases q
      obtain ⟨fo, hfo, hfr⟩ := hmem
      obtain ⟨fx, fdx, fes, fn, fdc, fdp, fkvs, fvs, ftn, efa, ff⟩ : FontV w g (.ref fa) fo := by
        rcases findF_all2 f.all p with ⟨e1, _⟩ | ⟨v', f', e1, e2, q⟩
        · rw [hkv] at e1; cases e1
        · rw [hkv] at e1; cases e1
          rw [hfo] at e2; cases e2
          exact q
      cases efa
      have ffs := ff.keeps hg
      have Ix := ffs.inst; have mx := ffs.pieces
      have hrD := rowD_of hfr
      obtain ⟨pq, hpq, epq⟩ := findF_mem hfo
      have hfk := epq ▸ hok pq hpq
      have hfrm := (find_mem hfr).1
      have hco := hfk.lo r hfrm
      cases hkd : r.kd with
      | pieces pa pb pc pd =>
        have hk : (rowD fo.rows r.code).kd = .pieces pa pb pc pd := by rw [hrD]; exact hkd
        repeat' (first | walk1 | (dsimp only; walk1))
        rename Fr _ _ _ _ => F9; rename News _ _ _ _ => N9; rename IsTup _ _ _ => i9; rename IntsAre _ _ => ia9; rename Heap.StaysIn _ _ => k9; rename FontAt _ _ _ _ _ _ _ _ _ _ _ _ _ _ => ffs9
        obtain ⟨b1, b2, b3, b4, b5, b6⟩ := hfk.pc r hfrm pa pb pc pd hkd
        have ffs8 := ffs9.keeps F9.keep
        have i8 := isTup_keeps i9 k9
        have gs9 : g.StaysIn _ := fun b o e => F9.keep b o (hg b o e)
        refine ⟨pieces_box_spec (mg := mg) (mb := mb) (Rm.le Rm.an (by decide)) (X.keeps F9.keep) (trKeep T F9) ffs8 i8 ia9 gs9 hfk.bd b1 b2 b3 b4 b5 b6 hh (fun h' tk' g1 x1 dx1 es1 n1 li nl ys kS G1 fr B hl hal => ?_)⟩
        obtain ⟨D9, hG9, N8, q1, q2⟩ := boxNews hg F9 N9 kS G1 (fun a ha => (fr a ha).1) B
        have F8 := frAfter F9 kS
        clear F9 N9
        repeat' (first | walk1 | (dsimp only; walk1))
        rename Fr _ _ _ _ => F9; rename News _ _ _ _ => N9
        exact ⟨_, _, _, _ :: _ :: D9, rfl, F9, N9, _, D9, x1, dx1, es1, n1, _, _, _, _, li, rfl, G1.a, q2, hG9, fun a ha => ⟨q1 a ha, (fr a ha).2⟩, ⟨h', B⟩, ⟨fa, fo, hkv, hfo, hfr, by rw [hkd]; exact ⟨rfl, rfl, rfl, rfl, ys, nl, hl, hal⟩⟩, rfl, rfl, rfl, trivial⟩
      | plain =>
        have hk : (rowD fo.rows r.code).kd.isP = false := by rw [hrD, hkd]; rfl
        repeat' (first | walk1 | (dsimp only; walk1))
        rename Fr _ _ _ _ => F9; rename News _ _ _ _ => N9; rename FontAt _ _ _ _ _ _ _ _ _ _ _ _ _ _ => ffs9
        have ffs8 := ffs9.keeps F9.keep
        have gs9 : g.StaysIn _ := fun b o e => F9.keep b o (hg b o e)
        refine ⟨char_box2 (mg := mg) (mb := mb) (Rm.le Rm.an (by decide)) (X.keeps F9.keep) (trKeep T F9) ffs8 (by omega) (by omega) (hfk.bd _) (fun h' tk' kS x1 dx1 es1 n1 li nl c1 dc1 esc nc fr LA => ?_)⟩
        have fr2 : ∀ a ∈ [x1, dx1], Heap.get? _ a = none := fun a ha => by
          simp only [List.mem_cons, List.not_mem_nil, or_false] at ha
          rcases ha with rfl | rfl <;> exact fr _ (by simp)
        have G1 := (Gx.ext gs9 kS).but (l := [x1, dx1]) (fun a ha => fresh_back gs9 (fr2 a ha))
        have LE := letter_ext (g := g) LA fr
        have ⟨ca1, ca2⟩ := char_apart LA.box LA.ch
        have hli := but_get (l := [x1, dx1]) LE.li (list_apart LA.box LA.li)
        have hch := CharAt.mk (but_get LE.ch.hx ca1) (but_get LE.ch.hd ca2) LE.ch.font LE.ch.code LE.ch.kind
        rw [hrD] at LA
        have B := LA.box
        obtain ⟨D9, hG9, N8, q1, q2⟩ := boxNews hg F9 N9 kS G1 fr2 B
        have F8 := frAfter F9 kS
        clear F9 N9
        repeat' (first | walk1 | (dsimp only; walk1))
        rename Fr _ _ _ _ => F9; rename News _ _ _ _ => N9
        exact ⟨_, _, _, _ :: _ :: D9, rfl, F9, N9, _, D9, x1, dx1, es1, n1, _, _, _, _, li, rfl, G1.a, q2, hG9, fun a ha => ⟨q1 a ha, but_none ha⟩, ⟨h', B⟩, ⟨fa, fo, hkv, hfo, hfr, by rw [hkd]; exact ⟨rfl, rfl, rfl, rfl, _, _, _, _, _, hli, hch⟩⟩, rfl, rfl, rfl, trivial⟩
      | larger c' =>
        have hk : (rowD fo.rows r.code).kd.isP = false := by rw [hrD, hkd]; rfl
        repeat' (first | walk1 | (dsimp only; walk1))
        rename Fr _ _ _ _ => F9; rename News _ _ _ _ => N9; rename FontAt _ _ _ _ _ _ _ _ _ _ _ _ _ _ => ffs9
        have ffs8 := ffs9.keeps F9.keep
        have gs9 : g.StaysIn _ := fun b o e => F9.keep b o (hg b o e)
        refine ⟨char_box2 (mg := mg) (mb := mb) (Rm.le Rm.an (by decide)) (X.keeps F9.keep) (trKeep T F9) ffs8 (by omega) (by omega) (hfk.bd _) (fun h' tk' kS x1 dx1 es1 n1 li nl c1 dc1 esc nc fr LA => ?_)⟩
        have fr2 : ∀ a ∈ [x1, dx1], Heap.get? _ a = none := fun a ha => by
          simp only [List.mem_cons, List.not_mem_nil, or_false] at ha
          rcases ha with rfl | rfl <;> exact fr _ (by simp)
        have G1 := (Gx.ext gs9 kS).but (l := [x1, dx1]) (fun a ha => fresh_back gs9 (fr2 a ha))
        have LE := letter_ext (g := g) LA fr
        have ⟨ca1, ca2⟩ := char_apart LA.box LA.ch
        have hli := but_get (l := [x1, dx1]) LE.li (list_apart LA.box LA.li)
        have hch := CharAt.mk (but_get LE.ch.hx ca1) (but_get LE.ch.hd ca2) LE.ch.font LE.ch.code LE.ch.kind
        rw [hrD] at LA
        have B := LA.box
        obtain ⟨D9, hG9, N8, q1, q2⟩ := boxNews hg F9 N9 kS G1 fr2 B
        have F8 := frAfter F9 kS
        clear F9 N9
        repeat' (first | walk1 | (dsimp only; walk1))
        rename Fr _ _ _ _ => F9; rename News _ _ _ _ => N9
        exact ⟨_, _, _, _ :: _ :: D9, rfl, F9, N9, _, D9, x1, dx1, es1, n1, _, _, _, _, li, rfl, G1.a, q2, hG9, fun a ha => ⟨q1 a ha, but_none ha⟩, ⟨h', B⟩, ⟨fa, fo, hkv, hfo, hfr, by rw [hkd]; exact ⟨rfl, rfl, rfl, rfl, _, _, _, _, _, hli, hch⟩⟩, rfl, rfl, rfl, trivial⟩
  · obtain ⟨g', D, x1, dx1, es1, n1, bk, bw, bh, bd, li, rfl, hgg, hfr, hG, hfx, ⟨hhp, B⟩, hI, H⟩ := j
    simp only [List.cons_append, List.append_nil] at N
    replace F := frOf F H
    obtain ⟨tb1, mb1⟩ := B.height
    obtain ⟨tb2, mb2⟩ := B.depth
    repeat' (first | walk1 | (dsimp only; walk1))
    rename Fr _ _ _ _ => F9; rename News _ _ _ _ => N9
    have hst := hG.stays F9 (fun p hp => N9 p (.tail _ (.tail _ (List.mem_append_left _ hp))))
    have B9 := ({ B with hx := (N9 _ (.head _)).1, hd := (N9 _ (.tail _ (.head _))).1 } : BoxAt _ x1 dx1 es1 n1 bk bw bh bd (.ref li) 0)
    have hb := boxItems_b hok hh hI
    have hb2 := halfv_b hb.1 hb.2
    refine ⟨shifted_spec (h₀ := s.heap) (mg := mg) (mb := mb) (Rm.le Rm.an (by decide)) X T (by exact F9.keep) B9 (hfx _ (by simp)).1 (hfx _ (by simp)).1 (by omega) (by omega) (fun h' tk' kb es' n' B' => ?_)⟩
    have ksub : ∀ gg : Heap, gg.StaysIn _ → gg.get? dx1 = none → gg.StaysIn h' := fun gg k e b o q => kb b o (fun eq => by rw [eq, e] at q; cases q) (k b o q)
    repeat walk1
    exact h h' tk' g' x1 dx1 es' n' bk bw bh bd li (ksub _ F9.keep (hfx dx1 (by simp)).1) ⟨hgg, ksub _ hst (hfx dx1 (by simp)).2, hfr⟩ hfx B' hI
end
end Mine
end
theorem Mine.kbase3 : True := by
  k_with_none
  k_with "om" =>
    first
    | with_reducible assumption
    | decide +kernel
    | (with_reducible show @LE.le Int _ _ _); first
      | with_reducible exact Int.natCast_nonneg _
      | with_reducible exact Int.le_refl _
      | with_reducible exact Int.le_trans (by with_reducible assumption) (by decide +kernel)
      | with_reducible exact oi1 (by with_reducible assumption) (by decide +kernel)
      | with_reducible exact oiC (by with_reducible assumption) (by decide +kernel)
      | with_reducible exact oi4 (by with_reducible assumption) (by decide +kernel)
      | with_reducible exact oi5 (by with_reducible assumption) (by decide +kernel)
      | with_reducible exact oiM (by with_reducible assumption) (by decide +kernel)
      | with_reducible exact oiB (by with_reducible assumption) (by decide +kernel)
      | with_reducible exact oiD (by with_reducible assumption) (by decide +kernel)
      | with_reducible exact Int.mul_nonneg (by decide +kernel) (by with_reducible assumption)
      | with_reducible exact Int.le_add_of_nonneg_right (by with_reducible assumption)
      | with_reducible exact Int.le_add_of_nonneg_right (by decide +kernel)
      | with_reducible exact Int.add_nonneg (by with_reducible assumption) (by decide +kernel)
      | with_reducible exact Int.add_nonneg (by decide +kernel) (by with_reducible assumption)
      | with_reducible exact oiG (by with_reducible assumption) (by decide +kernel)
      | ((repeat with_reducible refine oiE ?_); with_reducible exact Int.le_add_of_nonneg_right (by decide +kernel))
      | with_reducible exact oaR (by with_reducible assumption) (by decide +kernel)
      | with_reducible exact oaL (by with_reducible assumption) (by decide +kernel)
    | (with_reducible show @LT.lt Int _ _ _); first
      | with_reducible exact Int.lt_of_le_of_lt (by with_reducible assumption) (by decide +kernel)
      | with_reducible exact Int.lt_of_lt_of_le (by with_reducible assumption) (by decide +kernel)
      | with_reducible exact oi2 (by with_reducible assumption) (by decide +kernel)
      | with_reducible exact oi3 (by with_reducible assumption) (by decide +kernel)
      | with_reducible exact oiF (by with_reducible assumption) (by decide +kernel)
      | with_reducible exact oaS (by with_reducible assumption) (by decide +kernel)
      | with_reducible exact oaT (by with_reducible assumption) (by decide +kernel)
      | ((repeat with_reducible refine oiS ?_); with_reducible exact oi2 (by with_reducible assumption) (by decide +kernel))
      | (with_reducible refine' Int.lt_of_lt_of_le ?h ?d; (case h => (repeat (with_reducible refine' oiA ?_)); with_reducible assumption); (case d => decide +kernel))
    | (with_reducible show @LE.le Nat _ _ _); first
      | with_reducible exact Nat.le_trans (by with_reducible assumption) (by decide +kernel)
      | with_reducible exact on1 (by with_reducible assumption) (by decide +kernel)
      | with_reducible exact on4 (by with_reducible assumption) (by decide +kernel)
      | with_reducible exact on7 (by with_reducible assumption) (by with_reducible assumption) (by decide +kernel)
      | with_reducible exact on8 (by with_reducible assumption) (by with_reducible assumption) (by decide +kernel)
      | with_reducible exact onB (by with_reducible assumption) (by decide +kernel)
    | (with_reducible show @LT.lt Nat _ _ _); first
      | with_reducible exact abB (by with_reducible assumption) (by with_reducible assumption) (by decide +kernel)
      | with_reducible exact abC (by with_reducible assumption) (by with_reducible assumption) (by decide +kernel)
      | with_reducible exact abD (by with_reducible assumption) (by with_reducible assumption) (by decide +kernel)
      | with_reducible exact Nat.lt_of_le_of_lt (by with_reducible assumption) (by decide +kernel)
      | with_reducible exact Nat.lt_of_lt_of_le (by with_reducible assumption) (by decide +kernel)
      | with_reducible exact on2 (by with_reducible assumption) (by decide +kernel)
      | with_reducible exact Nat.lt_add_one _
      | ((with_reducible show Int.toNat (_ - _) + 1 < Int.toNat (_ - _) + 1); exact tnD (by omega) (by omega))
      | ((repeat with_reducible refine onS ?_); with_reducible exact on2 (by with_reducible assumption) (by decide +kernel))
    | ((with_reducible show ¬ (decide (_ ≤ _) && decide (_ ≤ _)) = !true); refine bndN ?_ ?_ <;> omega)
    | ((with_reducible show ¬ ((_ : Int) < _)); refine Int.not_lt.mpr ?_; omega)
    | ((with_reducible show ¬ ((_ : Int) ≤ _)); refine Int.not_le.mpr ?_; omega)
    | ((with_reducible show And _ _); refine And.intro ?_ ?_ <;> omega)
    | lia
  k_with "ne" =>
    (try dsimp only); first | with_reducible assumption | (refine Ne.symm ?_; with_reducible assumption) | exact Nat.ne_of_lt (by with_reducible assumption) | exact Nat.ne_of_gt (by with_reducible assumption) | (refine pkH (by with_reducible assumption) ?_; (repeat (first | exact And.left | exact id | refine pkT ?_)); done) | (refine pkS (by with_reducible assumption) ?_; (repeat (first | exact And.left | exact id | refine pkT ?_)); done) | exact nl1 (by with_reducible assumption) | exact nl2 (by with_reducible assumption) | exact Ne.symm (nl1 (by with_reducible assumption)) | exact Ne.symm (nl2 (by with_reducible assumption))
  k_with "execs cons" => (first | k_gentoks | ((first | (with_reducible show wpAny _ _ (execs [_] _) (KQ _) _ _) | (with_reducible show wpAny _ _ (execs [_] _) (KG _) _ _)); refine' execs1 ?_) | (refine' execsH ?_; first | ((fail_if_success (have := kn1)); intro kq1 kn1 ko1) | ((fail_if_success (have := kn2)); intro kq2 kn2 ko2) | ((fail_if_success (have := kn3)); intro kq3 kn3 ko3)))
  k_with "exs" => (first | k_gentoks | ((first | (with_reducible show wpAny _ _ (execs [_] _) (KQ _) _ _) | (with_reducible show wpAny _ _ (execs [_] _) (KG _) _ _)); refine' execs1 ?_) | (refine' execsN ?_; first | ((fail_if_success (have := kn1)); intro kq1 kn1) | ((fail_if_success (have := kn2)); intro kq2 kn2) | ((fail_if_success (have := kn3)); intro kq3 kn3)))
  k_with "execs cons Assign" => k_extra "exs"
  k_with "execs cons AugAssign" => k_extra "exs"
  k_with "execs cons Expr" => k_extra "exs"
  k_with "KG" => (first | (refine' kn3 _ ?_; (try clear ko3); clear kn3 kq3) | (refine' kn2 _ ?_; (try clear ko2); clear kn2 kq2) | (refine' kn1 _ ?_; (try clear ko1); clear kn1 kq1) | (refine' ko3 _ _ rfl ?_; clear ko3 kn3 kq3) | (refine' ko2 _ _ rfl ?_; clear ko2 kn2 kq2) | (refine' ko1 _ _ rfl ?_; clear ko1 kn1 kq1)); (try dsimp only)
  k_with "KQ" => (first | ((rename (∀ a s, _ → KQ _ a s) => kz); refine' kz _ _ ?_) | ((rename (∀ (_ : Unit) s, _ → KQ _ () s) => kz); refine' kz () _ ?_)); clear kz; (try clear kyb); try dsimp only
  k_with "isT" => (goal_has PySem.execs; (fail_if_success (with_reducible show wpAny _ _ _ (KQ _) _ _)); refine' hideQ ?_; intro kyb kyh)
  k_with "isTrue Compare" => k_extra "isT"
  k_with "isTrue BoolOp" => k_extra "isT"
  k_with "isTrue UnaryOp" => k_extra "isT"
  k_with "exec While BoolOp" => (refine' stop_here ?_)
  k_with "exec For Tuple Tuple cons nil" => (refine' stop_here ?_)
  k_with "exec For Name Name cons nil" => (refine' stop_here ?_)
  k_with "exec For Name Attribute cons nil" => (refine' stop_here ?_)
  k_with "last exec For Name" => (refine' stop_here ?_)
  k_with "last exec For" => (refine' stop_here ?_)
  k_with "exec While" => (refine' stop_here ?_)
  k_with "last exec While" => (refine' stop_here ?_)
  k_with "exec For" => (refine' stop_here ?_)
  k_with "last exec For Name Name" => (refine' stop_here ?_)
  k_with "exec For Name Call cons nil" => (refine' stop_here ?_)
  k_with "exec For Name Tuple cons nil" => (refine' stop_here ?_)
  k_with "exec For Tuple Name cons nil" => (refine' stop_here ?_)
  k_with "exec While Compare" => (refine' stop_here ?_)
  k_with "exec For Tuple Call cons nil" => (refine' stop_here ?_)
  trivial
section
set_option maxHeartbeats 1000000
namespace Mine
inductive JarO (b : Int) (c : Addr) (oj oc : Obj) : Prop
  | mk (at_ tot : Int) (t1 t2 : Tok) (n1 n2 : Nat) (vs : List Value) (ns : List Int) (h0 : oj = listOf #[.ref c, .int at_ t1, .int tot t2] n1) (h1 : oc = listOf vs.toArray n2) (h2 : IntsAre vs ns) (h3 : (∀ x ∈ ns, 0 ≤ x)) (h4 : 0 ≤ at_) (h5 : at_ ≤ b) (h6 : 0 ≤ tot) (h7 : ns.length < 100) : JarO b c oj oc
theorem JarO.le {b b' : Int} {c : Addr} {oj oc : Obj} (x : JarO b c oj oc) (h : b ≤ b') : JarO b' c oj oc :=
  let ⟨a, t, t1, t2, n1, n2, vs, ns, e1, e2, i, p, q, r, u, v⟩ := x; ⟨a, t, t1, t2, n1, n2, vs, ns, e1, e2, i, p, q, Int.le_trans r h, u, v⟩
section
variable {w : World} {A : Around} {s : Shared} {E : Value → Shared → Prop} {Q : Value → Shared → Prop} {mg mb : Str → Option Value}
theorem take_fr {h₀ : Heap} {L j c : Addr} {m : Str → Option Value} {news : List (Addr × Obj)} {g1 : Obj → List (Addr × Obj)} {g2 : Obj → Obj → List (Addr × Obj)} {oj oc : Obj} {b many : Int} {tm : Tok} (R : Rm 1 A) (X : (KF w.params).In h₀) (T : TR mg mb h₀) (F : Fr h₀ L s.heap m) (N : News h₀ L s.heap news)
   (U1 : UpdF j oj news g1) (U2 : ∀ o, UpdF c oc (g1 o) (g2 o)) (hJ : JarO b c oj oc) (hjc : @Ne Nat j c) (hb : b < 100000) (hm : 0 < many) (hm2 : many ≤ 1000)
   (h : ∀ d td h' tk oj' oc', 0 ≤ d → d < many → JarO (b + 1) c oj' oc' → Fr h₀ L h' m → News h₀ L h' (g2 oj' oc') → Q (.int d td) {s with heap := h', toks := tk}) : wpAny (model p0 w) A (call (.ref 485) [.ref j, .int many tm]) Q E s := by
  obtain ⟨pre, post, hn, hg1, a1, a2⟩ := U1.split
  obtain ⟨at_, tot, t1, t2, n1, n2, vs, ns, rfl, rfl, hi, hns, h0, hab, htot, hlen⟩ := hJ
  have hjm : (j, listOf #[.ref c, .int at_ t1, .int tot t2] n1) ∈ news := by rw [hn]; simp
  have hcm : (c, listOf vs.toArray n2) ∈ news := by
    obtain ⟨pre2, post2, hn2, _, _, _⟩ := (U2 (listOf #[.ref c, .int at_ t1, .int tot t2] n1)).split
    rw [hn, ← hg1, hn2]; simp
  have kj := N _ hjm; have kc := N _ hcm
  refine take_spec R X T F.keep kj.1 kc.1 kj.2.2 kc.2.2 hjc hi hns h0 (by omega) htot hm hm2 hlen (fun d td h' tk at' t1' n1' n2' vs' ns' d0 d1 ej ec hi' hns' hl' ha1 ha2 kb => ?_)
  refine h d td h' tk (listOf #[.ref c, .int at' t1', .int tot t2] n1') (listOf vs'.toArray n2') d0 d1 ⟨at', tot, t1', t2, n1', n2', vs', ns', rfl, rfl, hi', hns', by omega, by omega, htot, by omega⟩ ?_ ?_
  · refine ⟨?_, fun q o e => kb q o (fun e1 => by rw [e1, kj.2.2] at e; cases e) (fun e1 => by rw [e1, kc.2.2] at e; cases e) (F.keep q o e), F.above⟩
    exact F.ns.at' fun o e => kb L o (fun q => kj.2.1 q.symm) (fun q => kc.2.1 q.symm) e
  · intro p hp
    obtain ⟨pre2, post2, hn2, hg2, b1, b2⟩ := (U2 (listOf #[.ref c, .int at' t1', .int tot t2] n1')).split
    rw [hg2] at hp
    have old : p.1 ≠ c → p ∈ g1 (listOf #[.ref c, .int at' t1', .int tot t2] n1') → h'.get? p.1 = some p.2 ∧ p.1 ≠ L ∧ h₀.get? p.1 = none := by
      intro hpc hp
      rw [hg1] at hp
      rcases List.mem_append.mp hp with hp | hp
      · have := N p (by rw [hn]; exact List.mem_append_left _ hp)
        exact ⟨kb _ _ (a1 p hp) hpc this.1, this.2⟩
      rcases List.mem_cons.mp hp with rfl | hp
      · exact ⟨ej, kj.2⟩
      · have := N p (by rw [hn]; exact List.mem_append_right _ (.tail _ hp))
        exact ⟨kb _ _ (a2 p hp) hpc this.1, this.2⟩
    rcases List.mem_append.mp hp with hq | hq
    · exact old (b1 p hq) (by rw [hn2]; exact List.mem_append_left _ hq)
    rcases List.mem_cons.mp hq with rfl | hq
    · exact ⟨ec, kc.2⟩
    · exact old (b2 p hq) (by rw [hn2]; exact List.mem_append_right _ (.tail _ hq))
end
end Mine
end
section
set_option maxHeartbeats 1000000
namespace Mine
section
variable {w : World} {A : Around} {s : Shared} {E : Value → Shared → Prop} {Q : Value → Shared → Prop} {mg mb : Str → Option Value}
theorem ksetLr1 : True := by
  k_with "p world" => (first | exact Rm.le Rm.an (by decide) | k_in | exact trKeep (by k_asm) (by k_asm))
  k_with "p after" => (intro _ _ kS; (rename Fr _ _ _ _ => kF); (rename News _ _ _ _ => kN); (have _ := frAfter kF kS); (have _ := newsAfter kN kS); (try k_sweep); intros)
  k_with "TurnP" => (dsimp only [TurnP])
  k_with "WStep" => (dsimp only [WStep])
  k_with "call type:enumerate" => (refine' stop_here ?_)
  k_with "TurnPs" => (dsimp only [TurnPs])
  k_with "call ref" => ((with_reducible show wpAny _ _ (call (Value.ref 485) _ _) _ _ _); (refine' take_fr (mg := mg) (mb := mb) ?kR ?kX ?kT ?kF ?kN ?u1 ?u2 ?kJ ?ne ?kb ?m0 ?m1 ?_); (case kF => k_asm); (case kN => k_asm); (case kX => k_asm); (case kT => k_asm); (case kR => exact Rm.le Rm.an (by decide)); (case kJ => k_asm); (case u1 => k_updF); (case u2 => (intro _; k_updF)); (case ne => k_asm); (case kb => omega); (case m0 => omega); (case m1 => omega); intro _ _ _ _ _ _ _ _ _ F' N'; (try dsimp only at N'); (try k_sweep))
  k_with "binaryOp Add ref ref" => (k_dflt (refine' kde_addT ?k1 ?k2 ?k3 ?k4 ?k5 ?k6 ?k7 ?k8 ?_; (case k1 => k_asm); (case k2 => k_asm); (case k3 => first | exact News.isTup (by k_asm) (by k_mem) | exact Fr.tup (by k_asm) (by k_asm)); (case k4 => first | exact News.isTup (by k_asm) (by k_mem) | exact Fr.tup (by k_asm) (by k_asm)); (case k5 => exact List.cons_ne_nil _ _); (case k6 => exact List.cons_ne_nil _ _); (case k7 => exact Nat.le_of_ble_eq_true rfl); (case k8 => kl_lit); k_whole); intro D' h' F' N' l1; (try k_lt l1); (try k_sweep))
  k_with "subscriptTail Name Slice ref ref" => ((with_reducible show wpAny _ _ (subscriptTail _ (PySem.Expr.Slice _ (some _) none _) (Value.ref _) (Value.ref _)) _ _ _); k_dflt (refine' slice_tuple_run ?F ?N ?lo ?t ?e ?a ?b ?n ?z ?_ ?ss ?g ?zz; (case F => k_asm); (case N => k_asm); (case t => first | exact News.isTup (by k_asm) (by k_mem) | exact Fr.tup (by k_asm) (by k_asm) | k_asm); (case lo => first | exact LoV.none | exact LoV.int 1 _); (case e => first | exact (rfl : (4 : Int) = ((4 : Nat) : Int)) | exact (rfl : (5 : Int) = ((5 : Nat) : Int)) | exact (rfl : (7 : Int) = ((7 : Nat) : Int)) | exact (rfl : (2 : Int) = ((2 : Nat) : Int))); (case a => rfl); (case b => rfl); (case n => rfl); (case z => first | kl_lit | with_unfolding_all rfl); (case ss => with_unfolding_all rfl); (case g => kmk_pure); (case zz => first | exact Nat.le_of_ble_eq_true rfl | kmk_size)); intro D' h' F' N' l1; (try k_lt l1); (try k_sweep))
  k_with "subscriptTail" => ((with_reducible show wpAny _ _ (subscriptTail _ (PySem.Expr.Slice _ (some _) none _) (Value.ref _) (Value.ref _)) _ _ _); k_dflt (refine' slice_tuple_run ?F ?N ?lo ?t ?e ?a ?b ?n ?z ?_ ?ss ?g ?zz; (case F => k_asm); (case N => k_asm); (case t => first | exact News.isTup (by k_asm) (by k_mem) | exact Fr.tup (by k_asm) (by k_asm) | k_asm); (case lo => first | exact LoV.none | exact LoV.int 1 _); (case e => first | exact (rfl : (4 : Int) = ((4 : Nat) : Int)) | exact (rfl : (5 : Int) = ((5 : Nat) : Int)) | exact (rfl : (7 : Int) = ((7 : Nat) : Int)) | exact (rfl : (2 : Int) = ((2 : Nat) : Int))); (case a => rfl); (case b => rfl); (case n => rfl); (case z => first | kl_lit | with_unfolding_all rfl); (case ss => with_unfolding_all rfl); (case g => kmk_pure); (case zz => first | exact Nat.le_of_ble_eq_true rfl | kmk_size)); intro D' h' F' N' l1; (try k_lt l1); (try k_sweep))
  trivial
structure RowB (cd0 : Int) (r : Row) : Prop where
  code : r.code = cd0
  w0 : 100 ≤ r.wd
  w1 : r.wd ≤ 119
  h0 : 0 ≤ r.ht
  h1 : r.ht ≤ 290
  d0 : 0 ≤ r.dp
  d1 : r.dp ≤ 40
  i0 : 0 ≤ r.it
  i1 : r.it ≤ 3
  kd : match r.kd with
    | .plain => True
    | .larger c => cd0 < c ∧ c ≤ 6
    | .pieces a b c d => (a = 7 ∨ a = 0) ∧ (b = 8 ∨ b = 0) ∧ (c = 9 ∨ c = 0) ∧ d = 10
theorem RowV.mk0 {h : Heap} {a : Addr} {c0 c1 c2 c3 c4 : Int} {t0 t1 t2 t3 t4 : Tok} (x : IsTup h a #[.int c0 t0, .int c1 t1, .int c2 t2, .int c3 t3, .int c4 t4]) : RowV h (.ref a) ⟨c0, c1, c2, c3, c4, .plain⟩ := ⟨a, t0, t1, t2, t3, t4, rfl, x⟩
theorem RowV.mk2 {h : Heap} {a : Addr} {c0 c1 c2 c3 c4 c : Int} {t0 t1 t2 t3 t4 t5 t6 : Tok} (x : IsTup h a #[.int c0 t0, .int c1 t1, .int c2 t2, .int c3 t3, .int c4 t4, .int 2 t5, .int c t6]) : RowV h (.ref a) ⟨c0, c1, c2, c3, c4, .larger c⟩ := ⟨a, t0, t1, t2, t3, t4, rfl, t5, t6, x⟩
theorem RowV.mk3 {h : Heap} {a : Addr} {c0 c1 c2 c3 c4 p q y z : Int} {v : Value} {t0 t1 t2 t3 t4 t5 : Tok} (x : IsTup h a #[.int c0 t0, .int c1 t1, .int c2 t2, .int c3 t3, .int c4 t4, .int 3 t5, v]) (i : IntTup h v [p, q, y, z]) : RowV h (.ref a) ⟨c0, c1, c2, c3, c4, .pieces p q y z⟩ := ⟨a, t0, t1, t2, t3, t4, rfl, t5, v, x, i⟩
theorem getD2 {x y d : Int} (h0 : 0 ≤ d) (h1 : d < 2) : [x, y].getD d.toNat 0 = x ∨ [x, y].getD d.toNat 0 = y := by
  have : d = 0 ∨ d = 1 := by omega
  rcases this with rfl | rfl
  · exact .inl rfl
  · exact .inr rfl
theorem Gx.ext2 {g s h' : Heap} (a : g.StaysIn s) (k : g.StaysIn h') : Gx g s h' (Mine.ext g s h') :=
  ⟨fun b o e => sub_get (k b o e) (by simp [e]), fun b o e => (sub_of e).1, fun b o e => by
    obtain ⟨e1, e2⟩ := sub_of e
    cases q : g.get? b with
    | none =>
      refine .inr ?_
      simpa [q] using e2
    | some o' =>
      refine .inl ?_
      have := k b o' q
      rw [this] at e1; exact e1⟩
theorem law_row_spec {h₀ : Heap} (R : Rm 4 A) (X : (KF w.params).In h₀) (T : TR mg mb h₀) (hk : h₀.StaysIn s.heap) {g : Heap} (hg : g.StaysIn s.heap) {j c : Addr} {oj oc : Obj} {b : Int} (hj : s.heap.get? j = some oj) (hc : s.heap.get? c = some oc) (hj0 : h₀.get? j = none) (hc0 : h₀.get? c = none) (hgj : g.get? j = none) (hgc : g.get? c = none)
   (hJ : JarO b c oj oc) (hjc : @Ne Nat j c) (hb : b < 50000) {code : Int} {tc : Tok} (h1 : 1 ≤ code) (h2 : code ≤ 6)
   (h : ∀ h' tk g' oj' oc' v r, JarO (b + 8) c oj' oc' → h'.get? j = some oj' → h'.get? c = some oc' → (∀ b o, b ≠ j → b ≠ c → s.heap.get? b = some o → h'.get? b = some o) → Gx g s.heap h' g' → RowV g' v r → RowB code r → Q v {s with heap := h', toks := tk}) :
   wpAny (model p0 w) A (call (.ref 492) [.ref j, .int code tc]) Q E s := by
  refine callM (binds := [("jar", .ref j), ("code", .int code tc)]) (news := [(j, oj), (c, oc)]) R X T hk (by intro p hp; simp only [List.mem_cons, List.not_mem_nil, or_false] at hp; rcases hp with rfl | rfl; exact ⟨hj, hj0⟩; exact ⟨hc, hc0⟩)
    rfl (by k_is) (BindsTo.of_eq (by kernel_rfl)) (by kernel_rfl) rfl rfl rfl (by kernel_rfl) (fun L h₁ h₂ tk F N X₂ T₂ hb2 hL hL2 => ?_)
  clear X T hk
  have fr : ∀ a, h₂.get? a = none → a ≠ j → a ≠ c → s.heap.get? a = none := fun a e a1 a2 => by
    cases q : s.heap.get? a with
    | none => rfl
    | some o => rw [hb2 a o (two_ne a1 a2) q] at e; cases e
  repeat' (first | (rename (_ : Int) = 2 => q2; rename (_ : Int) = 3 => q3; rw [q2] at q3; cases q3) | walk1 | (dsimp only; walk1))
  · rename Fr _ _ _ _ => F9; rename News _ _ _ _ => N9; rename JarO _ _ _ _ => J9
    have kb9 : ∀ b o, b ≠ j → b ≠ c → s.heap.get? b = some o → Heap.get? _ b = some o := fun b o b1 b2 e => F9.keep b o (hb2 b o (two_ne b1 b2) e)
    have G9 := Gx.ext2 hg (fun b o e => kb9 b o (fun q => by rw [q, hgj] at e; cases e) (fun q => by rw [q, hgc] at e; cases e) (hg b o e))
    exact h _ _ _ _ _ _ _ (J9.le (by omega)) (N9.get (by k_mem)) (N9.get (by k_mem)) kb9 G9 (RowV.mk2 ⟨_, ext_get (N9.get (by k_mem)) (fr _ (N9.fresh (by k_mem)) (by k_ne) (by k_ne)), rfl, _, rfl⟩) ⟨rfl, by first | omega | (dsimp only; omega), by first | omega | (dsimp only; omega), by first | omega | (dsimp only; omega), by first | omega | (dsimp only; omega), by first | omega | (dsimp only; omega), by first | omega | (dsimp only; omega), by first | omega | (dsimp only; omega), by first | omega | (dsimp only; omega), by first | omega | (dsimp only; omega), by first | omega | (dsimp only; omega)⟩
  · rename Fr _ _ _ _ => F9; rename News _ _ _ _ => N9; rename JarO _ _ _ _ => J9
    have kb9 : ∀ b o, b ≠ j → b ≠ c → s.heap.get? b = some o → Heap.get? _ b = some o := fun b o b1 b2 e => F9.keep b o (hb2 b o (two_ne b1 b2) e)
    have G9 := Gx.ext2 hg (fun b o e => kb9 b o (fun q => by rw [q, hgj] at e; cases e) (fun q => by rw [q, hgc] at e; cases e) (hg b o e))
    exact h _ _ _ _ _ _ _ (J9.le (by omega)) (N9.get (by k_mem)) (N9.get (by k_mem)) kb9 G9 (RowV.mk0 ⟨_, ext_get (N9.get (by k_mem)) (fr _ (N9.fresh (by k_mem)) (by k_ne) (by k_ne)), rfl, _, rfl⟩) ⟨rfl, by first | omega | (dsimp only; omega), by first | omega | (dsimp only; omega), by first | omega | (dsimp only; omega), by first | omega | (dsimp only; omega), by first | omega | (dsimp only; omega), by first | omega | (dsimp only; omega), by first | omega | (dsimp only; omega), by first | omega | (dsimp only; omega), trivial⟩
  · rename Fr _ _ _ _ => F9; rename News _ _ _ _ => N9; rename JarO _ _ _ _ => J9
    have kb9 : ∀ b o, b ≠ j → b ≠ c → s.heap.get? b = some o → Heap.get? _ b = some o := fun b o b1 b2 e => F9.keep b o (hb2 b o (two_ne b1 b2) e)
    have G9 := Gx.ext2 hg (fun b o e => kb9 b o (fun q => by rw [q, hgj] at e; cases e) (fun q => by rw [q, hgc] at e; cases e) (hg b o e))
    exact h _ _ _ _ _ _ _ (J9.le (by omega)) (N9.get (by k_mem)) (N9.get (by k_mem)) kb9 G9 (RowV.mk3 ⟨_, ext_get (N9.get (by k_mem)) (fr _ (N9.fresh (by k_mem)) (by k_ne) (by k_ne)), rfl, _, rfl⟩ ⟨_, _, rfl, ⟨_, ext_get (N9.get (by k_mem)) (fr _ (N9.fresh (by k_mem)) (by k_ne) (by k_ne)), rfl, _, rfl⟩, .cons _ _ (.cons _ _ (.cons _ _ (.cons _ _ .nil)))⟩) ⟨rfl, by first | omega | (dsimp only; omega), by first | omega | (dsimp only; omega), by first | omega | (dsimp only; omega), by first | omega | (dsimp only; omega), by first | omega | (dsimp only; omega), by first | omega | (dsimp only; omega), by first | omega | (dsimp only; omega), by first | omega | (dsimp only; omega), getD2 (by assumption) (by assumption), getD2 (by assumption) (by assumption), getD2 (by assumption) (by assumption), rfl⟩
  · rename Fr _ _ _ _ => F9; rename News _ _ _ _ => N9; rename JarO _ _ _ _ => J9
    have kb9 : ∀ b o, b ≠ j → b ≠ c → s.heap.get? b = some o → Heap.get? _ b = some o := fun b o b1 b2 e => F9.keep b o (hb2 b o (two_ne b1 b2) e)
    have G9 := Gx.ext2 hg (fun b o e => kb9 b o (fun q => by rw [q, hgj] at e; cases e) (fun q => by rw [q, hgc] at e; cases e) (hg b o e))
    exact h _ _ _ _ _ _ _ (J9.le (by omega)) (N9.get (by k_mem)) (N9.get (by k_mem)) kb9 G9 (RowV.mk0 ⟨_, ext_get (N9.get (by k_mem)) (fr _ (N9.fresh (by k_mem)) (by k_ne) (by k_ne)), rfl, _, rfl⟩) ⟨rfl, by first | omega | (dsimp only; omega), by first | omega | (dsimp only; omega), by first | omega | (dsimp only; omega), by first | omega | (dsimp only; omega), by first | omega | (dsimp only; omega), by first | omega | (dsimp only; omega), by first | omega | (dsimp only; omega), by first | omega | (dsimp only; omega), trivial⟩
end
end Mine
end
section
open PySem PySem.W PyProof.Rows PySem.Calls
set_option maxHeartbeats 1000000
namespace Mine
section
open PyProof.Rows.LCg
variable {w : World} {A : Around} {s : Shared} {E : Value → Shared → Prop} {env : Env} {h₀ : Heap} {L : Addr} {m : Str → Option Value}
abbrev testsOf (ifs : List Expr) (env : Env) : Sem Bool := forIn ifs true fun c r => if r = true then do let ok ← isTrue c env (eval c env); pure (ForInStep.yield ok) else pure (ForInStep.yield r)
abbrev nbE (w : World) (A : Around) (env : Env) (R : Result → Shared → Prop) : Value → Shared → Prop := notedBy (model p0 w) A env fun e s' => R (.error e) s'
theorem compLoop_go {elt target iter : Expr} {ifs : List Expr} {scope : Scope} {pos : Pos} {it acc : Value} {R : Result → Shared → Prop} (I : Nat → Shared → Prop)
    (turn : ∀ n s, I n s → wpAny (model p0 w) A (pyNext it) (fun r s₁ => match r with
      | none => R (.ok .next) s₁
      | some v => wpAny (model p0 w) A (letOwnedTupleGo target it v) (fun _ s₁ => wpAny (model p0 w) A (assign target env v) (fun _ s₂ =>
          wpAny (model p0 w) A (testsOf ifs env) (fun ok s₃ =>
            if ok = true then wpAny (model p0 w) A (eval elt env) (fun x s₄ =>
              wpAny (model p0 w) A (call (.builtin "list.append") [acc, x]) (fun _ s₅ => ∃ m, m < n ∧ I m s₅) (nbE w A env R) s₄) (nbE w A env R) s₃
            else ∃ m, m < n ∧ I m s₃) (nbE w A env R) s₂) (nbE w A env R) s₁) (nbE w A env R) s₁) (nbE w A env R) s)
    (n : Nat) (h : I n s) : codeAny (model p0 w) A (.compLoop (.ListComp elt [⟨target, iter, ifs, 0⟩] scope pos) 0 it acc env) R s := by
  refine codeAny_loop rfl I (fun n s hI => ?_) n h
  show wpAny _ A ((compTurn (.ListComp elt [⟨target, iter, ifs, 0⟩] scope pos) 0 it acc env).onRaise (fun x => do noteFrame x env; theTreesLotGoes x)) _ _ s
  refine wpAny_noted ?_
  rw [compTurn_list]
  refine wpAny_bind (wpAny_standAt (wpAny_bind (wpAny_mono (turn n s hI) (fun r s₁ h₁ => ?_) fun _ _ h' => h')))
  cases r with
  | none => exact wpAny_pure h₁
  | some v =>
    refine wpAny_bind (wpAny_mono h₁ (fun _ s₁ h₁ => ?_) fun _ _ h' => h')
    refine wpAny_bind (wpAny_mono h₁ (fun _ s₂ h₂ => wpAny_bind (wpAny_mono h₂ (fun ok s₃ h₃ => ?_) fun _ _ h' => h')) fun _ _ h' => h')
    cases ok with
    | false => exact wpAny_pure ⟨rfl, h₃⟩
    | true => exact wpAny_bind (wpAny_bind (wpAny_mono h₃ (fun x s₄ h₄ => wpAny_bind (wpAny_mono h₄ (fun _ s₅ h₅ => wpAny_pure (wpAny_pure ⟨rfl, h₅⟩)) fun _ _ h' => h')) fun _ _ h' => h'))
noncomputable def CTurn (w : World) (A : Around) (h₀ : Heap) (L : Addr) (m : Str → Option Value) (env : Env) (elt : Expr) (ifs : List Expr) (scope : Scope) (cl : List (Str × Addr)) (n : Nat) (P : Nat → Value → Prop) (S : List (Addr × Obj) → Prop) (Bd : Value → (Str → Option Value) → Prop) (J : Nat → List Value → List (Addr × Obj) → Prop) (s : Shared) : Prop :=
  ∀ i v ys news I oI C oC D m₂ h tk (E' : Value → Shared → Prop), ∀ K2 K, (∀ (_ : Unit) s', CompEnd h₀ L m { s with heap := h, toks := tk } I oI C oC D (lst ys) S (fun _ news' => J (i + 1) ys news') .none s' → KQ K2 () s') →
    (∀ y s', CompEnd h₀ L m { s with heap := h, toks := tk } I oI C oC D (lst ys) S (fun y news' => J (i + 1) (ys ++ [y]) news') y s' → KQ K y s') →
    i < n → P i v → J i ys news → NsObj oC m₂ → Bd v m₂ → Fr h₀ L h m → News h₀ L h ((I, oI) :: (C, oC) :: (D, lst ys) :: news) → Off3 I C D news → ((@Ne Nat I C) ∧ (@Ne Nat I D) ∧ (@Ne Nat C D)) →
    wpAny (model p0 w) A (testsOf ifs (compEnvC scope cl C env)) (fun ok s' => if ok = true then wpAny (model p0 w) A (eval elt (compEnvC scope cl C env)) (KQ K) E' s' else KQ K2 () s') E' { s with heap := h, toks := tk }
inductive CAsgE (s : Shared) (C : Addr) (h : Heap) (Bd : Value → (Str → Option Value) → Prop) (v : Value) (s' : Shared) : Prop
  | mk (h₃ : Heap) (tk₃ : Nat) (m₂ : Str → Option Value) (h0 : s' = { s with heap := h₃, toks := tk₃ }) (h1 : h₃.Ns C m₂) (h2 : ∀ b o, b ≠ C → h.get? b = some o → h₃.get? b = some o) (h3 : Bd v m₂) : CAsgE s C h Bd v s'
inductive CInv (h₀ : Heap) (L : Addr) (m : Str → Option Value) (J : Nat → List Value → List (Addr × Obj) → Prop) (St : Nat → Heap → Prop) (D C I : Addr) (s₂ : Shared) (n k : Nat) (s' : Shared) : Prop
  | mk (h' : Heap) (tk i : Nat) (ys : List Value) (m' : Str → Option Value) (news' : List (Addr × Obj)) (h0 : s' = { s₂ with heap := h', toks := tk }) (hi : i ≤ n) (hk : k = n + 1 - i) (hl : ys.length ≤ i) (hst : St i h') (hF : Fr h₀ L h' m) (hn : h'.Ns C m') (hN : News h₀ L h' ((D, lst ys) :: news')) (ho : Off3 I C D news') (hj : J i ys news') : CInv h₀ L m J St D C I s₂ n k s'
inductive CAft (h₀ : Heap) (L : Addr) (m : Str → Option Value) (J : Nat → List Value → List (Addr × Obj) → Prop) (St : Nat → Heap → Prop) (D C I : Addr) (s₂ : Shared) (m₂ : Str → Option Value) (i : Nat) (ys ys' : List Value) (s₅ : Shared) : Prop
  | mk (h₄ : Heap) (tk₄ : Nat) (news₄ : List (Addr × Obj)) (h0 : s₅ = { s₂ with heap := h₄, toks := tk₄ }) (h1 : St (i + 1) h₄) (h2 : Fr h₀ L h₄ m) (h3 : h₄.Ns C m₂) (h4 : News h₀ L h₄ ((D, lst ys) :: news₄)) (h5 : Off3 I C D news₄) (h6 : J (i + 1) ys' news₄) : CAft h₀ L m J St D C I s₂ m₂ i ys ys' s₅
noncomputable def CAsg (w : World) (A : Around) (h₀ : Heap) (L : Addr) (m : Str → Option Value) (env : Env) (target : Expr) (scope : Scope) (cl : List (Str × Addr)) (n : Nat) (P : Nat → Value → Prop) (Bd : Value → (Str → Option Value) → Prop) (J : Nat → List Value → List (Addr × Obj) → Prop) (s : Shared) : Prop :=
  ∀ i v ys news C h tk m' (E' : Value → Shared → Prop), i < n → P i v → J i ys news → Fr h₀ L h m → News h₀ L h news → h.Ns C m' → (∀ p ∈ news, p.1 ≠ C) →
    wpAny (model p0 w) A (assign target (compEnvC scope cl C env) v) (fun _ s' => CAsgE s C h Bd v s') E' { s with heap := h, toks := tk }
theorem comp_core {elt target iter : Expr} {ifs : List Expr} {scope : Scope} {cl : List (Str × Addr)} {pos : Pos} {s₂ : Shared} {I : Addr} {fp : List Addr} {n : Nat} {P : Nat → Value → Prop} {St : Nat → Heap → Prop} {S : List (Addr × Obj) → Prop} {news : List (Addr × Obj)}
    {RR : Value → Addr → Result → Shared → Prop} (J : Nat → List Value → List (Addr × Obj) → Prop) (Bd : Value → (Str → Option Value) → Prop)
    (W : Walks p0 w A I fp [I] n P St) (hsz : n ≤ sizeLine) (hIo : ∀ i h, St i h → ∃ o, h.get? I = some o)
    (hSt : ∀ i h h' o nw, St i h → h.get? I = some o → h'.get? I = some o → (∀ b o, h₀.get? b = some o → h'.get? b = some o) → News h₀ L h' nw → S nw → St i h')
    (hgo : ∀ i v (s : Shared) (Q : Unit → Shared → Prop) (E : Value → Shared → Prop), St i s.heap → Q () s → wpAny (model p0 w) A (letOwnedTupleGo target (.ref I) v) Q E s)
    (hcell : ∀ y ∈ scope.names, y.2 ≠ .cell) (hkind : scope.kind = .function) (hst : St 0 s₂.heap) (hfp : ∀ b ∈ fp, b < s₂.heap.objs.size)
    (F : Fr h₀ L s₂.heap m) (N : News h₀ L s₂.heap news) (hIL : L ≠ I) (hI₀ : h₀.get? I = none) (off : ∀ p ∈ news, p.1 ≠ I) (hJ0 : J 0 [] news)
    (hasg : CAsg w A h₀ L m env target scope cl n P Bd J s₂) (hturn : CTurn w A h₀ L m env elt ifs scope cl n P S Bd J s₂)
    (hRR : ∀ D C h tk m' ys news', Fr h₀ L h m → News h₀ L h ((D, lst ys) :: news') → Off1 D news' → h.Ns C m' → h₀.get? C = none → h₀.get? D = none → C ≠ L → D ≠ L → C ≠ D → (∀ p ∈ news', p.1 ≠ C) → J n ys news' → ys.length ≤ n → RR (.ref D) C (.ok .next) { s₂ with heap := h, toks := tk }) :
    wpAny (model p0 w) A (newList []) (fun acc s₃ => wpAny (model p0 w) A (newFunctionEnv scope env.globals cl [] env.qual none .none (some env)) (fun cenv s₄ =>
      codeAny (model p0 w) A (.compStart (.ListComp elt [⟨target, iter, ifs, 0⟩] scope pos) 0 (.ref I) acc { cenv with scope := relabel scope env }) (RR acc cenv.locals) s₄) E s₃) E s₂ := by
  refine wpAny_newObj_type (wpAny_newFunctionEnv hcell (by intro y hy; simp at hy) (fun h₁ hns₁ hsb₁ => ?_) hkind)
  dsimp only at hns₁ hsb₁ ⊢
  generalize hH2 : s₂.heap.push { cls := .type "list", dict := none, data := .seq ([] : List Value).toArray } = H2 at hns₁ hsb₁ ⊢
  have hC : H2.objs.size = s₂.heap.objs.size + 1 := by rw [← hH2, Heap.size_push]
  have hDC : s₂.heap.objs.size ≠ H2.objs.size := by rw [hC]; exact Nat.ne_of_lt (Nat.lt_succ_self _)
  have below : ∀ b, b < s₂.heap.objs.size → b ≠ H2.objs.size ∧ b ≠ s₂.heap.objs.size := fun b hb => ⟨by rw [hC]; exact Nat.ne_of_lt (Nat.lt_succ_of_lt hb), Nat.ne_of_lt hb⟩
  have hDf : s₂.heap.objs.size ∉ fp := fun hm => Nat.lt_irrefl _ (hfp _ hm)
  have hCf : H2.objs.size ∉ fp := fun hm => by have := hfp _ hm; rw [hC] at this; exact Nat.lt_irrefl _ (Nat.lt_of_succ_lt this)
  have hIlt : I < s₂.heap.objs.size := hfp I (W.sub I (List.mem_singleton.mpr rfl))
  have old : ∀ b o, s₂.heap.get? b = some o → h₁.get? b = some o := fun b o e => hsb₁.extBut b o (below b (Heap.lt_size e)).1 (Heap.get?_push_of_some _ (hH2 ▸ Heap.get?_push_of_some _ e))
  have hacc : h₁.get? s₂.heap.objs.size = some (lst []) := hsb₁.extBut _ _ hDC (Heap.get?_push_of_some _ (hH2 ▸ Heap.get?_push_size _ rfl))
  have hst₁ : St 0 h₁ := W.frame _ _ _ hst fun b _ o e => old b o e
  have fresh₀ : ∀ a, s₂.heap.objs.size ≤ a → h₀.get? a = none := fun a ha => by
    cases e : h₀.get? a with
    | none => rfl
    | some o' => exact absurd (Heap.lt_size (F.keep a o' e)) (Nat.not_lt.mpr ha)
  have hD₀ : h₀.get? s₂.heap.objs.size = none := fresh₀ _ (Nat.le_refl _)
  have hC₀ : h₀.get? H2.objs.size = none := fresh₀ _ (by rw [hC]; exact Nat.le_succ _)
  have hDL : s₂.heap.objs.size ≠ L := Ne.symm (below L F.ns.lt).2
  have hCL : H2.objs.size ≠ L := Ne.symm (below L F.ns.lt).1
  have hCI : I ≠ H2.objs.size := (below I hIlt).1
  have hDI : I ≠ s₂.heap.objs.size := (below I hIlt).2
  have off₀ : Off3 I H2.objs.size s₂.heap.objs.size news := Off3.of fun p hp => ⟨off p hp, (below _ (Heap.lt_size (N p hp).1)).1, (below _ (Heap.lt_size (N p hp).1)).2⟩
  have loop : ∀ s₃ : Shared, s₃ = { s₂ with heap := h₁, toks := s₂.toks + ([] : List (Str × Value)).length } →
      codeAny (model p0 w) A (.compLoop (.ListComp elt [⟨target, iter, ifs, 0⟩] scope pos) 0 (.ref I) (.ref s₂.heap.objs.size) (compEnvC scope cl H2.objs.size env))
        (RR (.ref s₂.heap.objs.size) H2.objs.size) s₃ := by
    rintro s₃ rfl
    refine compLoop_go
      (CInv h₀ L m J St s₂.heap.objs.size H2.objs.size I s₂ n) ?_ (n + 1)
      ⟨h₁, _, 0, [], _, news, rfl, Nat.zero_le _, rfl, Nat.le_refl _, hst₁, F.keeps old, hns₁, fun p hp => ?_, off₀, hJ0⟩
    · rintro k s' ⟨h', tk, i, ys, m', news', rfl, hi, rfl, hyl, hst', F', hn', N', off', j⟩
      have off3 := off'.mem
      by_cases hlt : i < n
      · refine W.item i _ _ _ hlt hst' fun v h₂ tk₂ hPv hst₂ hk₂ => ?_
        refine hgo (i + 1) v _ _ _ hst₂ ?_
        have N₂ : News h₀ L h₂ ((s₂.heap.objs.size, lst ys) :: news') := news_but N' hk₂ fun p hp => by
          rcases List.mem_cons.mp hp with rfl | hp
          · exact Ne.symm hDI
          · exact (off3 p hp).1
        have F₂ : Fr h₀ L h₂ m := fr_but F' hk₂ hIL hI₀
        refine wpAny_mono (hasg i v ys news' H2.objs.size h₂ _ m' _ hlt hPv j F₂ (fun p hp => N₂ p (List.mem_cons_of_mem _ hp)) (hn'.at' fun o e => hk₂ _ o (by simpa using Ne.symm hCI) e) (fun p hp => (off3 p hp).2.1)) (fun _ s₃ h₃ => ?_) fun _ _ e => e
        obtain ⟨h₃, tk₃, m₂, rfl, hn₃, hs₃, hB⟩ := h₃
        have hst₃ : St (i + 1) h₃ := W.frame _ _ _ hst₂ fun b hb o e => hs₃ b o (fun q => hCf (by have q' : b = H2.objs.size := q; rw [← q']; exact hb)) e
        obtain ⟨oI, heI⟩ := hIo _ _ hst₃
        obtain ⟨oC, heC, hoC⟩ := ns_obj hn₃
        have F₃ : Fr h₀ L h₃ m := ⟨F₂.ns.at' fun o e => hs₃ L o (fun q => hCL q.symm) e, fun b o e => hs₃ b o (fun q => by rw [q, hC₀] at e; cases e) (F₂.keep b o e), F₂.above⟩
        have N₃ : News h₀ L h₃ ((I, oI) :: (H2.objs.size, oC) :: (s₂.heap.objs.size, lst ys) :: news') := fun p hp => by
          rcases List.mem_cons.mp hp with rfl | hp
          · exact ⟨heI, Ne.symm hIL, hI₀⟩
          · rcases List.mem_cons.mp hp with rfl | hp
            · exact ⟨heC, hCL, hC₀⟩
            · have z := N₂ p hp
              refine ⟨hs₃ _ _ ?_ z.1, z.2⟩
              rcases List.mem_cons.mp hp with rfl | hp
              · exact hDC
              · exact (off3 p hp).2.1
        refine wpAny_mono (hturn i v ys news' I oI H2.objs.size oC s₂.heap.objs.size _ h₃ _ _ (fun (_ : Unit) s' => CompEnd h₀ L m { s₂ with heap := h₃, toks := tk₃ } I oI H2.objs.size oC s₂.heap.objs.size (lst ys) S (fun _ news' => J (i + 1) ys news') .none s') _ (fun _ _ p => ⟨p⟩) (fun _ _ p => ⟨p⟩) hlt hPv j hoC hB F₃ N₃ off' ⟨hCI, hDI, Ne.symm hDC⟩) (fun ok s₄ h₄ => ?_) fun _ _ e => e
        have after : ∀ {ys' : List Value} {y : Value} {s₅ : Shared}, CompEnd h₀ L m { s₂ with heap := h₃, toks := tk₃ } I oI H2.objs.size oC s₂.heap.objs.size (lst ys) S (fun _ news' => J (i + 1) ys' news') y s₅ →
            CAft h₀ L m J St s₂.heap.objs.size H2.objs.size I s₂ m₂ i ys ys' s₅ := by
          intro ys' y s₅ q
          obtain ⟨h₄, tk₄, news₄, rfl, F₄, N₄, off₄, hS₄, j₄⟩ := q
          have zI := (N₄ (I, oI) List.mem_cons_self).1
          have zC := (N₄ (H2.objs.size, oC) (List.mem_cons_of_mem _ List.mem_cons_self)).1
          have N₄' : News h₀ L h₄ ((s₂.heap.objs.size, lst ys) :: news₄) := fun p hp => N₄ p (List.mem_cons_of_mem _ (List.mem_cons_of_mem _ hp))
          exact ⟨h₄, tk₄, news₄, rfl, hSt _ _ _ _ _ hst₃ heI zI F₄.keep (fun p hp => N₄' p (List.mem_cons_of_mem _ hp)) hS₄, F₄, hoC.ns zC, N₄', off₄, j₄⟩
        cases ok with
        | false =>
          simp only [Bool.false_eq_true, if_false] at h₄ ⊢
          obtain ⟨h₇, tk₄, news₄, rfl, hst₄, F₄, n₄, N₄, off₄, j₄⟩ := after h₄.go
          exact ⟨n + 1 - (i + 1), Nat.sub_lt_sub_left (Nat.lt_succ_of_lt hlt) (Nat.lt_succ_self _), h₇, tk₄, i + 1, ys, _, news₄, rfl, hlt, rfl, by omega, hst₄, F₄, n₄, N₄, off₄, j₄⟩
        | true =>
          simp only [if_true] at h₄ ⊢
          refine wpAny_mono h₄ (fun y s₅ h₅ => ?_) fun _ _ e => e
          have h₅' : CompEnd h₀ L m { s₂ with heap := h₃, toks := tk₃ } I oI H2.objs.size oC s₂.heap.objs.size (lst ys) S (fun _ news' => J (i + 1) (ys ++ [y]) news') y s₅ := h₅.go
          obtain ⟨h₇, tk₄, news₄, rfl, hst₄, F₄, n₄, N₄, off₄, j₄⟩ := after h₅'
          have off4 := off₄.mem
          refine append_at (hsz := by show ys.toArray.size ≤ sizeLine; rw [List.size_toArray]; omega) (N₄ _ (List.mem_cons_self)).1 fun h₆ hs₆ hD₆ => ?_
          refine ⟨n + 1 - (i + 1), Nat.sub_lt_sub_left (Nat.lt_succ_of_lt hlt) (Nat.lt_succ_self _), h₆, tk₄, i + 1, ys ++ [y], _, news₄, rfl, hlt, rfl, by rw [List.length_append, List.length_singleton]; exact Nat.succ_le_succ (by assumption), W.frame _ _ _ hst₄ fun b hb o e => hs₆.extBut b o (fun q => hDf (q ▸ hb)) e, F₄.change hs₆ hDL hD₀,
            n₄.sameBut hs₆ (Ne.symm hDC), fun p hp => ?_, off₄, j₄⟩
          rcases List.mem_cons.mp hp with rfl | hp
          · exact ⟨hD₆.trans (congrArg some (lst_snoc ys y)), hDL, hD₀⟩
          · exact ⟨hs₆.extBut _ _ (off4 p hp).2.2 (N₄ p (List.mem_cons_of_mem _ hp)).1, (N₄ p (List.mem_cons_of_mem _ hp)).2⟩
      · obtain rfl : i = n := Nat.le_antisymm hi (Nat.not_lt.mp hlt)
        refine W.done _ _ _ hst' fun h₂ tk₂ hk₂ => ?_
        exact hRR _ _ h₂ tk₂ _ ys news' (fr_but F' hk₂ hIL hI₀) (news_but N' hk₂ fun p hp => by
          rcases List.mem_cons.mp hp with rfl | hp
          · exact Ne.symm hDI
          · exact (off3 p hp).1) off'.one (hn'.at' fun o e => hk₂ _ o (by simpa using Ne.symm hCI) e) hC₀ hD₀ hCL hDL (Ne.symm hDC) (fun p hp => (off3 p hp).2.1) j hyl
    · rcases List.mem_cons.mp hp with rfl | hp
      · exact ⟨hacc, hDL, hD₀⟩
      · exact ⟨old _ _ (N p hp).1, (N p hp).2⟩
  exact codeAny_compStart_list (loop _ rfl) (W.self 0 _ _ _ hst₁ (loop _ rfl))
inductive CGoE (w : World) (A : Around) (h₀ : Heap) (L : Addr) (m : Str → Option Value) (env : Env) (elt target : Expr) (ifs : List Expr) (scope : Scope) (cl : List (Str × Addr)) (Fin : Shared → List Value → List (Addr × Obj) → Prop) (it : Value) (s₂ : Shared) : Prop
  | mk (I : Addr) (fp : List Addr) (n : Nat) (P : Nat → Value → Prop) (St : Nat → Heap → Prop) (S : List (Addr × Obj) → Prop) (news : List (Addr × Obj)) (J : Nat → List Value → List (Addr × Obj) → Prop) (Bd : Value → (Str → Option Value) → Prop)
    (h0 : it = .ref I) (h1 : Walks p0 w A I fp [I] n P St) (h2 : n ≤ sizeLine) (h3 : ∀ i h, St i h → ∃ o, h.get? I = some o)
    (h4 : ∀ i h h' o nw, St i h → h.get? I = some o → h'.get? I = some o → (∀ b o, h₀.get? b = some o → h'.get? b = some o) → News h₀ L h' nw → S nw → St i h')
    (h5 : ∀ i v (s : Shared) (Q : Unit → Shared → Prop) (E : Value → Shared → Prop), St i s.heap → Q () s → wpAny (model p0 w) A (letOwnedTupleGo target (.ref I) v) Q E s)
    (h6 : St 0 s₂.heap) (h7 : ∀ b ∈ fp, b < s₂.heap.objs.size) (h8 : Fr h₀ L s₂.heap m) (h9 : News h₀ L s₂.heap news) (ha : L ≠ I) (hb : h₀.get? I = none) (hc : ∀ p ∈ news, p.1 ≠ I) (hd : J 0 [] news)
    (he : CAsg w A h₀ L m env target scope cl n P Bd J s₂) (hf : CTurn w A h₀ L m env elt ifs scope cl n P S Bd J s₂) (hg : ∀ ys news, J n ys news → ys.length ≤ n → Fin s₂ ys news) : CGoE w A h₀ L m env elt target ifs scope cl Fin it s₂
noncomputable def CGo (w : World) (A : Around) (h₀ : Heap) (L : Addr) (m : Str → Option Value) (env : Env) (elt target : Expr) (ifs : List Expr) (scope : Scope) (cl : List (Str × Addr)) (Fin : Shared → List Value → List (Addr × Obj) → Prop) (xv : Value) (s₁ : Shared) : Prop :=
  wpAny (model p0 w) A (pyIter xv) (CGoE w A h₀ L m env elt target ifs scope cl Fin) (fun _ _ => False) s₁
theorem LComp_go {elt target iter : Expr} {ifs : List Expr} {scope : Scope} {cl : List (Str × Addr)} {pos : Pos} {Q : Value → Shared → Prop} (_F₀ : Fr h₀ L s.heap m)
    (hclos : closureFor scope env = pure cl) (hcell : ∀ y ∈ scope.names, y.2 ≠ .cell) (hkind : scope.kind = .function)
    (hnames : ∀ y ∈ scope.names, y.2 = .local → scope.names.lookup y.1 = some .local)
    (h : wpAny (model p0 w) A (eval iter env) (fun xv s₁ => Stop (CGo w A h₀ L m env elt target ifs scope cl (fun s₂ => FinE h₀ L m s₂ Q) xv s₁)) E s)
    (hs : ∀ x, foldedSetIterable iter env x = pure x := by intro _; rfl) :
    wpAny (model p0 w) A (eval (.ListComp elt [⟨target, iter, ifs, 0⟩] scope pos) env) Q E s := by
  rw [eval_ListComp]
  refine wpAny_comprehension_free (use := none) rfl hs hclos hkind hnames (wpAny_mono h (fun xv s₁ h₁ => wpAny_mono h₁.go (fun it s₂ h₂ => ?_) fun _ _ x => x.elim) fun _ _ e => e)
  obtain ⟨I, fp, n, P, St, S, news, J, Bd, rfl, W, hsz, hIo, hSt, hgo, hst, hfp, F, N, hIL, hI₀, off, hJ0, ha, ht, hF⟩ := h₂
  refine comp_core J Bd W hsz hIo hSt hgo hcell hkind hst hfp F N hIL hI₀ off hJ0 ha ht ?_
  intro D C h tk m' ys news' F' N' o1 hn hC₀ hD₀ hCL hDL hCD offC fin hyl
  refine ⟨m', hn, fun h'' hs'' => hF _ _ fin hyl D h'' tk (F'.change hs'' hCL hC₀) (fun p hp => ?_) o1⟩
  refine ⟨hs''.extBut _ _ ?_ (N' p hp).1, (N' p hp).2⟩
  rcases List.mem_cons.mp hp with rfl | hp
  · exact Ne.symm hCD
  · exact offC p hp
theorem ALComp_go {elt target iter : Expr} {ifs : List Expr} {y : Str} {py : Pos} {scope : Scope} {cl : List (Str × Addr)} {pos spos : Pos} {Q : Flow → Shared → Prop} (_F₀ : Fr h₀ L s.heap m) (hLe : env.locals = L)
    (hsw : swapsWith (.ListComp elt [⟨target, iter, ifs, 0⟩] scope pos) (some (.Name y py)) spos.line env = pure true)
    (hclos : closureFor scope env = pure cl) (hcell : ∀ z ∈ scope.names, z.2 ≠ .cell) (hkind : scope.kind = .function)
    (hnames : ∀ z ∈ scope.names, z.2 = .local → scope.names.lookup z.1 = some .local)
    (hy : env.kindOf y = some .local) (hp : (env.scope.kind == .class || (env.scope.kind == .module && env.locals != env.globals)) = false)
    (h : wpAny (model p0 w) A (eval iter env) (fun xv s₁ => Stop (CGo w A h₀ L m env elt target ifs scope cl (fun s₂ => FinA h₀ L m s₂ y Q) xv s₁)) E s)
    (hs : ∀ x, foldedSetIterable iter env x = pure x := by intro _; rfl) :
    wpAny (model p0 w) A (exec (.Assign [.Name y py] (.ListComp elt [⟨target, iter, ifs, 0⟩] scope pos) spos) env) Q E s := by
  subst hLe
  rw [exec_Assign_Name_used _ _ _ _ hsw]
  refine wpAny_bind (wpAny_standAt (wpAny_bind ?_))
  show wpAny _ A (do let _ ← comprehension (.ListComp elt [⟨target, iter, ifs, 0⟩] scope pos) scope env _ (newList []) false (eval iter env) (some (assign (.Name y py) env))) _ _ s
  refine wpAny_bind (wpAny_mono (wpAny_comprehension_free (use := some (assign (.Name y py) env)) (Q := fun _ s' => Q .next s') rfl hs hclos hkind hnames
    (wpAny_mono h (fun xv s₁ h₁ => wpAny_mono h₁.go (fun it s₂ h₂ => ?_) fun _ _ x => x.elim) fun _ _ e => e)) (fun _ s' hq => wpAny_pure (wpAny_pure hq)) fun _ _ e => e)
  obtain ⟨I, fp, n, P, St, S, news, J, Bd, rfl, W, hsz, hIo, hSt, hgo, hst, hfp, F, N, hIL, hI₀, off, hJ0, ha, ht, hF⟩ := h₂
  refine comp_core J Bd W hsz hIo hSt hgo hcell hkind hst hfp F N hIL hI₀ off hJ0 ha ht ?_
  intro D C h' tk m' ys news' F' N' o1 hn hC₀ hD₀ hCL hDL hCD offC fin hyl
  show wpAny _ A (assign (.Name y py) env (.ref D)) _ _ _
  refine wpAny_assign_Name (wpAny_storeName_local hy F'.ns (fun h₂ hn₂ hs₂ => ?_) hp)
  have hL₀ : h₀.get? env.locals = none := Heap.get?_none_of_le F'.above
  have F₂ : Fr h₀ env.locals h₂ (fun z => if z = y then some (.ref D) else m z) := ⟨hn₂, fun b o e => hs₂.extBut b o (fun q => by rw [q, hL₀] at e; cases e) (F'.keep b o e), F'.above⟩
  refine ⟨m', hn.sameBut hs₂ hCL, fun h'' hs'' => hF _ _ fin hyl D h'' _ (F₂.change hs'' hCL hC₀) (fun p hp => ?_) o1⟩
  have z : h₂.get? p.1 = some p.2 := hs₂.extBut _ _ (N' p hp).2.1 (N' p hp).1
  refine ⟨hs''.extBut _ _ ?_ z, (N' p hp).2⟩
  rcases List.mem_cons.mp hp with rfl | hp
  · exact Ne.symm hCD
  · exact offC p hp
theorem casg_name {x : Str} {px : Pos} {scope : Scope} {cl : List (Str × Addr)} {n : Nat} {P : Nat → Value → Prop} {J : Nat → List Value → List (Addr × Obj) → Prop} (hx : scope.names.lookup x = some .local) (hkind : scope.kind = .function) :
    CAsg w A h₀ L m env (.Name x px) scope cl n P (fun v m₂ => m₂ x = some v) J s := by
  intro i v ys news C h tk m' E' _ _ _ _ _ hn _
  exact wpAny_assign_Name (wpAny_storeName_local (lookup_relabel_local hx) hn (fun h₃ hn₃ hs₃ => ⟨h₃, _, _, rfl, hn₃, fun b o q e => hs₃.extBut b o q e, by simp⟩) (by simp [compEnvC, relabel, hkind]))
noncomputable def Src (h₀ : Heap) (ax : Addr) (oax : Obj) (nw : List (Addr × Obj)) : Prop := h₀.get? ax = some oax ∨ (ax, oax) ∈ nw
theorem Src.at {ax : Addr} {oax : Obj} {nw : List (Addr × Obj)} {h : Heap} (x : Src h₀ ax oax nw) (k : ∀ b o, h₀.get? b = some o → h.get? b = some o) (N : News h₀ L h nw) : h.get? ax = some oax := by
  rcases x with e | e
  · exact k _ _ e
  · exact (N _ e).1
theorem cgo_list {elt target : Expr} {ifs : List Expr} {scope : Scope} {cl : List (Str × Addr)} {Fin : Shared → List Value → List (Addr × Obj) → Prop} {ax : Addr} {oax : Obj} {its : List Value} {news : List (Addr × Obj)} (J : Nat → List Value → List (Addr × Obj) → Prop) (Bd : Value → (Str → Option Value) → Prop)
    (hls : ∀ h : Heap, h.get? ax = some oax → h.IsList ax its.toArray) (hsz : its.length ≤ 5000) (F : Fr h₀ L s.heap m) (N : News h₀ L s.heap news) (hS : Src h₀ ax oax news) (hJ0 : J 0 [] news)
    (hasg : ∀ g, CAsg w A h₀ L m env target scope cl its.length (fun i v => its[i]? = some v) Bd J { s with heap := g })
    (hturn : ∀ g, CTurn w A h₀ L m env elt ifs scope cl its.length (fun i v => its[i]? = some v) (Src h₀ ax oax) Bd J { s with heap := g })
    (hF : ∀ g ys news, J its.length ys news → ys.length ≤ its.length → Fin { s with heap := g } ys news) (hh : A.handled = none := by rfl) :
    Stop (CGo w A h₀ L m env elt target ifs scope cl Fin (.ref ax) s) := by
  have hax := hS.at F.keep N
  have hl := hls _ hax
  refine ⟨wpAny_pyIter_list hl ?_⟩
  have hlt := Heap.lt_size hax
  have up : ∀ b o, s.heap.get? b = some o → (s.heap.push { cls := .type "list_iterator", data := .fields #[.ref ax, .int 0 0] }).get? b = some o := fun b o e => Heap.get?_push_of_some _ e
  have hn : its.toArray.size = its.length := by simp
  refine ⟨s.heap.objs.size, _, its.length, fun i v => its.toArray[i]? = some v, fun i h => h.IsListIter s.heap.objs.size ax i ∧ h.IsList ax its.toArray, Src h₀ ax oax, news, J, Bd, rfl, (by rw [← hn]; exact Walks.list hh s.heap.objs.size ax (Nat.ne_of_lt hlt) its.toArray), by rw [sizeLine_eq]; omega, fun i h st => by obtain ⟨o, e, _⟩ := st.1; exact ⟨o, e⟩,
    fun i h h' o nw st e e' k N S => ⟨by obtain ⟨o', q, r⟩ := st.1; rw [e] at q; cases q; exact ⟨o, e', r⟩, hls _ (S.at k N)⟩, fun i v s Q E st q => letGo_listiter st.1 q,
    ⟨⟨_, Heap.get?_push_size _ rfl, rfl, rfl⟩, hls _ (up _ _ hax)⟩, fun b hb => ?_, F.keeps up, N.grown up, Nat.ne_of_lt F.ns.lt, next_is_new F, fun p hp => Nat.ne_of_lt (Heap.lt_size (N p hp).1), hJ0, ?_, ?_, fun ys news j l => hF _ ys news j l⟩
  · show b < (s.heap.push _).objs.size
    rw [Heap.size_push]
    rcases List.mem_cons.mp hb with rfl | hb
    · exact Nat.lt_succ_self _
    · rw [List.mem_singleton.mp hb]; exact Nat.lt_succ_of_lt hlt
  · intro i v ys nw C h tk m' E' hi hp
    exact hasg _ i v ys nw C h tk m' E' hi (by simpa using hp)
  · intro i v ys nw I' oI C oC D m₂ h tk E' K2 K k2 k1 hi hp
    exact hturn _ i v ys nw I' oI C oC D m₂ h tk E' K2 K k2 k1 hi (by simpa using hp)
theorem cgo_tup {elt target : Expr} {ifs : List Expr} {scope : Scope} {cl : List (Str × Addr)} {Fin : Shared → List Value → List (Addr × Obj) → Prop} {ax : Addr} {oax : Obj} {its : List Value} {news : List (Addr × Obj)} (J : Nat → List Value → List (Addr × Obj) → Prop) (Bd : Value → (Str → Option Value) → Prop)
    (hls : ∀ h : Heap, h.get? ax = some oax → h.IsTuple ax its.toArray) (hsz : its.length ≤ 5000) (F : Fr h₀ L s.heap m) (N : News h₀ L s.heap news) (hS : Src h₀ ax oax news) (hJ0 : J 0 [] news)
    (hasg : ∀ g, CAsg w A h₀ L m env target scope cl its.length (fun i v => its[i]? = some v) Bd J { s with heap := g })
    (hturn : ∀ g, CTurn w A h₀ L m env elt ifs scope cl its.length (fun i v => its[i]? = some v) (Src h₀ ax oax) Bd J { s with heap := g })
    (hF : ∀ g ys news, J its.length ys news → ys.length ≤ its.length → Fin { s with heap := g } ys news) (hh : A.handled = none := by rfl) :
    Stop (CGo w A h₀ L m env elt target ifs scope cl Fin (.ref ax) s) := by
  have hax := hS.at F.keep N
  have hl := hls _ hax
  refine ⟨wpAny_pyIter_tuple hl ?_⟩
  have hlt := Heap.lt_size hax
  have up : ∀ b o, s.heap.get? b = some o → (s.heap.push { cls := .type "tuple_iterator", data := .fields #[.ref ax, .int 0 0] }).get? b = some o := fun b o e => Heap.get?_push_of_some _ e
  have hn : its.toArray.size = its.length := by simp
  refine ⟨s.heap.objs.size, _, its.length, fun i v => its.toArray[i]? = some v, fun i h => h.IsTupleIter s.heap.objs.size ax i ∧ h.IsTuple ax its.toArray, Src h₀ ax oax, news, J, Bd, rfl, (by rw [← hn]; exact Walks.tuple hh s.heap.objs.size ax (Nat.ne_of_lt hlt) its.toArray), by rw [sizeLine_eq]; omega, fun i h st => by obtain ⟨o, e, _⟩ := st.1; exact ⟨o, e⟩,
    fun i h h' o nw st e e' k N S => ⟨by obtain ⟨o', q, r⟩ := st.1; rw [e] at q; cases q; exact ⟨o, e', r⟩, hls _ (S.at k N)⟩, fun i v s Q E st q => letGo_tupleiter st.1 q,
    ⟨⟨_, Heap.get?_push_size _ rfl, rfl, rfl⟩, hls _ (up _ _ hax)⟩, fun b hb => ?_, F.keeps up, N.grown up, Nat.ne_of_lt F.ns.lt, next_is_new F, fun p hp => Nat.ne_of_lt (Heap.lt_size (N p hp).1), hJ0, ?_, ?_, fun ys news j l => hF _ ys news j l⟩
  · show b < (s.heap.push _).objs.size
    rw [Heap.size_push]
    rcases List.mem_cons.mp hb with rfl | hb
    · exact Nat.lt_succ_self _
    · rw [List.mem_singleton.mp hb]; exact Nat.lt_succ_of_lt hlt
  · intro i v ys nw C h tk m' E' hi hp
    exact hasg _ i v ys nw C h tk m' E' hi (by simpa using hp)
  · intro i v ys nw I' oI C oC D m₂ h tk E' K2 K k2 k1 hi hp
    exact hturn _ i v ys nw I' oI C oC D m₂ h tk E' K2 K k2 k1 hi (by simpa using hp)
theorem turn_one {I C D9 T : Addr} {oI oC o : Obj} {ys : List Value} {S : List (Addr × Obj) → Prop} {rest : Value → List (Addr × Obj) → Prop} {s₁ : Shared} {g' h9 : Heap} {D N0 : List (Addr × Obj)} {tk9 : Nat}
    (F9 : Fr h₀ L h9 m) (N9 : News h₀ L h9 ((T, o) :: (I, oI) :: (C, oC) :: (D9, lst ys) :: (N0 ++ D))) (off : Off3 I C D9 (N0 ++ D)) (n1 : @Ne Nat T I) (n2 : @Ne Nat T C) (n3 : @Ne Nat T D9) (hG : Gh h₀ g' D) (hS : ∀ D, S (N0 ++ D))
    (k : ∀ g2, Gh h₀ g2 ((T, o) :: D) → g'.StaysIn g2 → g2.get? T = some o → (∀ b o', g2.get? b = some o' → g'.get? b = some o' ∨ b = T) → h₀.get? T = none → rest (.ref T) (N0 ++ (T, o) :: D)) :
    CompEnd h₀ L m s₁ I oI C oC D9 (lst ys) S rest (.ref T) { s₁ with heap := h9, toks := tk9 } := by
  have NT := N9 (T, o) (.head _)
  obtain ⟨g2, hG2, hgs, hT, hof⟩ := hG.add F9 (a := T) (o := o) (fun p hp => by
    rcases List.mem_cons.mp hp with rfl | hp
    · exact NT
    · exact N9 p (.tail _ (.tail _ (.tail _ (.tail _ (List.mem_append_right _ hp))))))
  have offm := off.mem
  refine CompEnd.intro F9 N9 (N0 ++ (T, o) :: D) (fun p hp => ?_) (Off3.of fun p hp => ?_) (hS _) (k g2 hG2 hgs hT hof NT.2.2)
  · simp only [List.mem_cons, List.mem_append] at hp ⊢
    rcases hp with h | h | h | h | h | h <;> simp [h]
  · simp only [List.mem_cons, List.mem_append] at hp
    rcases hp with h | h | h
    · exact offm p (List.mem_append_left _ h)
    · subst h; exact ⟨n1, n2, n3⟩
    · exact offm p (List.mem_append_right _ h)
theorem Gh.step {g g' g2 : Heap} {T : Addr} (hgg : g.StaysIn g') (hfr : ∀ b o, g'.get? b = some o → g.get? b = some o ∨ h₀.get? b = none) (k : g'.StaysIn g2) (c : ∀ b o', g2.get? b = some o' → g'.get? b = some o' ∨ b = T) (hT : h₀.get? T = none) :
    g.StaysIn g2 ∧ (∀ b o, g2.get? b = some o → g.get? b = some o ∨ h₀.get? b = none) := ⟨fun b o e => k b o (hgg b o e), fun b o e => by
  rcases c b o e with q | rfl
  · exact hfr b o q
  · exact .inr hT⟩
end
noncomputable def ApD (D : List (Addr × Obj)) (l : List Addr) : Prop := ∀ p ∈ D, ∀ a ∈ l, p.1 ≠ a
theorem ApD.ne {D : List (Addr × Obj)} {l : List Addr} {a : Addr} (x : ApD D l) (h : a ∈ l) : ∀ p ∈ D, p.1 ≠ a := fun p hp => x p hp a h
theorem ApD.nil {l : List Addr} : ApD [] l := fun _ h => nomatch h
theorem ApD.cons {D : List (Addr × Obj)} {l : List Addr} {T : Addr} {o : Obj} (x : ApD D l) (h : ∀ a ∈ l, T ≠ a) : ApD ((T, o) :: D) l := fun p hp a ha => by
  rcases List.mem_cons.mp hp with rfl | hp
  · exact h a ha
  · exact x p hp a ha
theorem ApD.of {h₀ g h h' g' : Heap} {D : List (Addr × Obj)} {l : List Addr} (x : ApD D l) (G : Gh h₀ g D) (y : Gx g h h' g') (e : ∀ a ∈ l, ∃ o, h.get? a = some o) : ApD (dOf h₀ g') l := fun p hp a ha => dOf_off G y (e a ha) (x.ne ha) p hp
theorem all5 {a b c d e : Addr} {T : Addr} (h1 : @Ne Nat T a) (h2 : @Ne Nat T b) (h3 : @Ne Nat T c) (h4 : @Ne Nat T d) (h5 : @Ne Nat T e) : ∀ x ∈ [a, b, c, d, e], T ≠ x := by
  intro x hx
  simp only [List.mem_cons, List.not_mem_nil, or_false] at hx
  rcases hx with rfl | rfl | rfl | rfl | rfl <;> assumption
section
variable {w : World} {A : Around} {s : Shared} {E : Value → Shared → Prop} {h₀ : Heap} {L : Addr} {m : Str → Option Value} {news : List (Addr × Obj)}
theorem Gh.notin {g : Heap} {D : List (Addr × Obj)} {a : Addr} (G : Gh h₀ g D) (h1 : h₀.get? a = none) (h2 : ∀ p ∈ D, p.1 ≠ a) : g.get? a = none := by
  cases q : g.get? a with
  | none => rfl
  | some o =>
    rcases G.d a o q with r | r
    · rw [h1] at r; cases r
    · exact absurd rfl (h2 _ r)
theorem Gh.grow2 {g h h' g' : Heap} {D : List (Addr × Obj)} (x : Gh h₀ g D) (F : Fr h₀ L h m) (N : News h₀ L h D) (k : h₀.StaysIn h') (y : Gx g h h' g') : Gh h₀ g' (dOf h₀ g') ∧ News h₀ L h' (dOf h₀ g') := by
  refine ⟨⟨fun b o e => ?_⟩, fun p hp => ?_⟩
  · cases q : h₀.get? b with
    | none => exact .inr (mem_dOf.mpr ⟨q, e⟩)
    | some o' =>
      refine .inl ?_
      have e1 := y.b b o e
      rw [k b o' q] at e1; exact e1
  · obtain ⟨h1, h2⟩ := mem_dOf.mp (show (p.1, p.2) ∈ _ from hp)
    refine ⟨y.b _ _ h2, fun e => ?_, h1⟩
    obtain ⟨_, _, _, hL, _⟩ := F.ns
    rcases y.c _ _ h2 with q | q
    · rcases x.d _ _ q with r | r
      · rw [h1] at r; cases r
      · exact (N _ r).2.1 e
    · rw [e, hL] at q; cases q
theorem frBut {h h' : Heap} {j c : Addr} (F : Fr h₀ L h m) (kb : ∀ b o, b ≠ j → b ≠ c → h.get? b = some o → h'.get? b = some o) (hj : h₀.get? j = none) (hc : h₀.get? c = none) (hLj : L ≠ j) (hLc : L ≠ c) : Fr h₀ L h' m :=
  ⟨F.ns.at' fun o e => kb L o hLj hLc e, fun b o e => kb b o (fun q => by rw [q, hj] at e; cases e) (fun q => by rw [q, hc] at e; cases e) (F.keep b o e), F.above⟩
theorem newsBut {h h' : Heap} {j c : Addr} (N : News h₀ L h news) (kb : ∀ b o, b ≠ j → b ≠ c → h.get? b = some o → h'.get? b = some o) (hj : ∀ p ∈ news, p.1 ≠ j) (hc : ∀ p ∈ news, p.1 ≠ c) : News h₀ L h' news := fun p hp => ⟨kb _ _ (hj p hp) (hc p hp) (N p hp).1, (N p hp).2⟩
theorem gfresh {g g' g2 h h' : Heap} (F : Fr h₀ L h m) (hgg : g.StaysIn g') (hfr : ∀ b o, g'.get? b = some o → g.get? b = some o ∨ h₀.get? b = none) (y : Gx g' h h' g2) : g.StaysIn g2 ∧ ∀ b o, g2.get? b = some o → g.get? b = some o ∨ h₀.get? b = none :=
  ⟨fun b o e => y.a b o (hgg b o e), fun b o e => by
    rcases y.c b o e with q | q
    · exact hfr b o q
    · exact .inr (fresh_back F.keep q)⟩
theorem ladd2 {a b : Addr} {vs ws : List Value} {Q : Value → Shared → Prop} (F : Fr h₀ L s.heap m) (N : News h₀ L s.heap news) (ha : s.heap.IsList a vs.toArray) (hb : s.heap.IsList b ws.toArray) (hz : vs.length + ws.length ≤ 1000)
    (h : ∀ (D : Addr) h' k, Fr h₀ L h' m → News h₀ L h' ((D, listOf (vs ++ ws).toArray k) :: news) → (∀ p ∈ news, p.1 < D) → Q (.ref D) { s with heap := h' }) : wpAny (model p0 w) A (binaryOp .Add (.ref a) (.ref b)) Q E s :=
  add_lists F N ha hb (fun h' F' N' => h _ h' _ F' N' fun p hp => Heap.lt_size (N p hp).1) (by rw [sizeLine_eq]; omega)
end
end Mine
end
section
open PySem PySem.W PyProof.Rows PySem.Calls
set_option maxHeartbeats 1000000
namespace Mine
section
variable {w : World} {A : Around} {s : Shared} {E : Value → Shared → Prop} {mg mb : Str → Option Value} {h₀ : Heap} {L C : Addr} {m : Str → Option Value} {K : Frag} {scope : Scope} {cl : List (Str × Addr)} {env : Env} {x : Str} {pos : Pos} {v : Value} {Q : Value → Shared → Prop}
theorem nb_built (F : Fr h₀ L s.heap m) (X : K.In h₀) (T : TR mg mb h₀) (e : nsIn K mainGlobals x = some none) (hv : bootBuiltins x = some v) (hn : x ≠ "__name__") (h : Q v s) (hg : env.globals = mainGlobals := by rfl) (hb : env.builtins = builtinsNs := by rfl)
    (hk : (compEnvC scope cl C env).scope.kind = .function := by rfl) (hx : (compEnvC scope cl C env).kindOf x = some .globalImplicit := by rfl) (hd : (x == ("__debug__" : Str)) = false := by decide) :
    wpAny (model p0 w) A (eval (.Name x pos) (compEnvC scope cl C env)) Q E s :=
  Name_function_global hk hx (loadGlobal_builtin (env := compEnvC scope cl C env) (show s.heap.Ns env.globals mg from hg ▸ (TopRead.keeps T F.keep).g) (mg_none_of X T.g e) (show s.heap.Ns env.builtins mb from hb ▸ (TopRead.keeps T F.keep).b) ((T.builtins x hn).trans hv) h) hd
theorem tlen_base {a : Addr} {xs : Array Value} {n : Int} (F : Fr h₀ L s.heap m) (ht : IsTup h₀ a xs) (hn : ((xs.size : Nat) : Int) = n) (hb : n ≤ 1000000) (h : Q (.int n (s.toks + 1)) { s with toks := s.toks + 1 + 1 }) : wpAny (model p0 w) A (call (.builtin "len") [.ref a]) Q E s :=
  PyProof.Rows.len_tuple (F.tup ht) (by rw [hn]; omega) (by rw [hn]; exact h)
theorem lapp {d : Addr} {vs : List Value} {k : Nat} {x : Value} {news : List (Addr × Obj)} {g : Obj → List (Addr × Obj)} (F : Fr h₀ L s.heap m) (N : News h₀ L s.heap news) (U : UpdF d (W.listOf vs.toArray k) news g) (hsz : vs.length ≤ 4000)
    (h : ∀ h', Fr h₀ L h' m → News h₀ L h' (g (W.listOf (vs ++ [x]).toArray (k + 1))) → Q .none { s with heap := h' }) : wpAny (model p0 w) A (call (.builtin "list.append") [.ref d, x]) Q E s := by
  obtain ⟨pre, post, rfl, hg, a, b⟩ := U.split
  have hm := N (d, W.listOf vs.toArray k) (List.mem_append_right _ (.head _))
  refine append_at (hsz := by rw [List.size_toArray, sizeLine_eq]; omega) hm.1 fun h' hs ho => ?_
  refine h h' (F.change hs hm.2.1 hm.2.2) (hg _ ▸ N.setIn a b hs (ho.trans ?_))
  rw [List.push_toArray]
theorem chain_len {rows : List Row} : ∀ (n : Nat) (c : Int), (chain rows n c).length ≤ n := by
  intro n
  induction n with
  | zero => intro c; simp [chain]
  | succ n ih =>
    intro c
    unfold chain
    cases find rows c with
    | none => simp
    | some r =>
      simp only [List.length_cons]
      cases r.kd with
      | larger c' => have := ih c'; simp only; omega
      | plain => simp
      | pieces => simp
end
end Mine
end
section
open PySem PySem.W PyProof.Rows PySem.Calls LCg
set_option maxHeartbeats 1000000
namespace Mine
section
variable {w : World} {A : Around} {s : Shared} {E : Value → Shared → Prop} {Q : Value → Shared → Prop} {h₀ : Heap} {L : Addr} {m : Str → Option Value} {env : Env}
theorem cgo_range {elt target : Expr} {ifs : List Expr} {scope : Scope} {cl : List (Str × Addr)} {Fin : Shared → List Value → List (Addr × Obj) → Prop} {r : Addr} {a₀ b₀ c : Int} {t₀ u₀ v₀ : Tok} {n : Nat} {news : List (Addr × Obj)} (J : Nat → List Value → List (Addr × Obj) → Prop) (Bd : Value → (Str → Option Value) → Prop)
    (hr : IsRange s.heap r a₀ b₀ c t₀ u₀ v₀) (hsmall : Builtin.Range.small a₀ b₀ c = true) (hn : Builtin.Range.rangeSize a₀ b₀ c = (n : Int)) (hsz : n ≤ 5000) (F : Fr h₀ L s.heap m) (N : News h₀ L s.heap news) (hJ0 : J 0 [] news)
    (hgo : ∀ (I : Addr) v (s : Shared) (Q : Unit → Shared → Prop) (E : Value → Shared → Prop), Q () s → wpAny (model p0 w) A (letOwnedTupleGo target (.ref I) v) Q E s)
    (hasg : ∀ g, CAsg w A h₀ L m env target scope cl n (fun i v => ∃ t, v = .int (a₀ + i * c) t) Bd J { s with heap := g })
    (hturn : ∀ g, CTurn w A h₀ L m env elt ifs scope cl n (fun i v => ∃ t, v = .int (a₀ + i * c) t) (fun _ => True) Bd J { s with heap := g })
    (hF : ∀ g ys news, J n ys news → ys.length ≤ n → Fin { s with heap := g } ys news) (hh : A.handled = none := by rfl) :
    Stop (CGo w A h₀ L m env elt target ifs scope cl Fin (.ref r) s) := by
  refine ⟨wpAny_pyIter_range hr hsmall ?_⟩
  have up : ∀ (o : Obj), ∀ b o', s.heap.get? b = some o' → (s.heap.push o).get? b = some o' := fun o b o' e => Heap.get?_push_of_some _ e
  refine ⟨s.heap.objs.size, _, n, _, _, fun _ => True, news, J, Bd, rfl, Walks.range hh s.heap.objs.size a₀ c n, by rw [sizeLine_eq]; omega, fun i h st => ⟨_, st⟩,
    fun i h h' o nw st e e' k N S => ?_, fun i v s Q E st q => hgo _ v s Q E q, (by show IsRangeIter _ _ _ _ _; rw [hn]; simpa using Heap.get?_push_size _ rfl), fun b hb => ?_, F.keeps (up _), N.grown (up _), Nat.ne_of_lt F.ns.lt, next_is_new F, fun p hp => Nat.ne_of_lt (Heap.lt_size (N p hp).1), hJ0, ?_, ?_, fun ys news j l => hF _ ys news j l⟩
  · have e2 : h.get? s.heap.objs.size = some _ := st
    rw [e] at e2
    cases e2
    exact e'
  · show b < (s.heap.push _).objs.size
    rw [Heap.size_push, List.mem_singleton.mp hb]
    exact Nat.lt_succ_self _
  · exact hasg _
  · exact hturn _
theorem cgo_keys {elt target : Expr} {ifs : List Expr} {scope : Scope} {cl : List (Str × Addr)} {Fin : Shared → List Value → List (Addr × Obj) → Prop} {d : Addr} {od : Obj} {kvs : List (Int × Value)} {news : List (Addr × Obj)} (J : Nat → List Value → List (Addr × Obj) → Prop) (Bd : Value → (Str → Option Value) → Prop)
    (hds : (d == sysModules) = false) (hd : od.IsDictOf (intKind p0 w) kvs) (hsz : kvs.length ≤ 5000) (F : Fr h₀ L s.heap m) (N : News h₀ L s.heap news) (hS : Src h₀ d od news) (hJ0 : J 0 [] news)
    (hasg : ∀ g, CAsg w A h₀ L m env target scope cl kvs.length (fun i v => ∃ k x t, kvs[i]? = some (k, x) ∧ v = .int k t) Bd J { s with heap := g })
    (hturn : ∀ g, CTurn w A h₀ L m env elt ifs scope cl kvs.length (fun i v => ∃ k x t, kvs[i]? = some (k, x) ∧ v = .int k t) (Src h₀ d od) Bd J { s with heap := g })
    (hF : ∀ g ys news, J kvs.length ys news → ys.length ≤ kvs.length → Fin { s with heap := g } ys news) (hh : A.handled = none := by rfl) :
    Stop (CGo w A h₀ L m env elt target ifs scope cl Fin (.ref d) s) := by
  have hax := hS.at F.keep N
  obtain ⟨ep, hat⟩ := (Heap.dictOf_iff.mpr ⟨od, hax, hd⟩).dictAt
  have hat' : ∀ h : Heap, h.get? d = some od → h.DictAt (intKind p0 w) d kvs ep := fun h e => by
    obtain ⟨o, es, ho, r⟩ := hat
    rw [hax] at ho
    cases ho
    exact ⟨_, es, e, r⟩
  have hne : d ≠ s.heap.objs.size := Nat.ne_of_lt (Heap.lt_size hax)
  refine ⟨wpAny_pyIter_dict hds hat ?_⟩
  have up : ∀ (o : Obj), ∀ b o', s.heap.get? b = some o' → (s.heap.push o).get? b = some o' := fun o b o' e => Heap.get?_push_of_some _ e
  refine ⟨s.heap.objs.size, _, kvs.length, _, _, Src h₀ d od, news, J, Bd, rfl, Walks.dictKeys (knd := intKind p0 w) hh s.heap.objs.size d hne kvs ep, by rw [sizeLine_eq]; omega, fun i h st => by obtain ⟨o, e, _⟩ := st.1; exact ⟨o, e⟩,
    fun i h h' o nw st e e' k N S => ⟨st.1.at fun o' q => by rw [e] at q; cases q; exact e', hat' _ (S.at k N)⟩, fun i v s Q E st q => letGo_keyiter st.1 q, ⟨⟨_, Heap.get?_push_size _ rfl, rfl, rfl⟩, hat' _ (up _ _ _ hax)⟩, fun b hb => ?_, F.keeps (up _), N.grown (up _), Nat.ne_of_lt F.ns.lt, next_is_new F, fun p hp => Nat.ne_of_lt (Heap.lt_size (N p hp).1), hJ0, ?_, ?_, fun ys news j l => hF _ ys news j l⟩
  · show b < (s.heap.push _).objs.size
    rw [Heap.size_push]
    rcases List.mem_cons.mp hb with rfl | hb
    · exact Nat.lt_succ_self _
    · rw [List.mem_singleton.mp hb]; exact Nat.lt_succ_of_lt (Heap.lt_size hax)
  · intro i v ys nw C h tk m' E' hi hp
    obtain ⟨k, x, hx, hk⟩ := hp
    obtain ⟨t, rfl⟩ := intKind_inv hk
    exact hasg _ i _ ys nw C h tk m' E' hi ⟨k, x, t, hx, rfl⟩
  · intro i v ys nw I' oI C oC D m₂ h tk E' K2 K k2 k1 hi hp
    obtain ⟨k, x, hx, hk⟩ := hp
    obtain ⟨t, rfl⟩ := intKind_inv hk
    exact hturn _ i _ ys nw I' oI C oC D m₂ h tk E' K2 K k2 k1 hi ⟨k, x, t, hx, rfl⟩
end
section
variable {prog : Program} {w : World} {A : Around} {E : Value → Shared → Prop} {s : Shared} {h₀ : Heap} {L : Addr} {m : Str → Option Value} {news : List (Addr × Obj)}
theorem adj_from (a n : Nat) (ha : a ≤ n) : Builtin.Slice.sliceAdjust (some (a : Int)) none 1 (n : Int) = ((a : Int), (n : Int)) := by
  unfold Builtin.Slice.sliceAdjust
  have h1 : ¬ ((1 : Int) < 0) := by omega
  have h2 : ¬ ((a : Int) < 0) := by omega
  simp only [h1, h2, if_false]
  congr 1
  omega
theorem sliceApplied_from {sl : Addr} {a n : Nat} {t : Tok} {Q : Int × Int × Nat → Shared → Prop} (hs : s.heap.IsSliceOf sl (.int a t) .none .none) (ha : a ≤ n) (h : Q ((a : Int), 1, n - a) s) :
    wpAny (model prog w) A (Builtin.Slice.sliceApplied (.ref sl) (pure (n : Int))) Q E s := by
  obtain ⟨os, hos, hcs, hds⟩ := id hs
  unfold Builtin.Slice.sliceApplied Builtin.Slice.sliceFields
  refine wpAny_bind (wpAny_bind (wpAny_field hos hds (x := .int a t) rfl (wpAny_bind (wpAny_field hos hds (x := .none) rfl (wpAny_bind (wpAny_field hos hds (x := .none) rfl (wpAny_pure ?_)))))))
  refine wpAny_bind (slicePart_none ?_)
  show wpAny _ _ (if ((1 : Int) == 0) = true then _ else _) _ _ s
  rw [if_neg (by decide)]
  refine wpAny_bind (slicePart_int (wpAny_bind (slicePart_none (wpAny_bind (wpAny_pure ?_)))))
  show wpAny _ _ (match Builtin.Slice.sliceAdjust (some (a : Int)) none 1 (n : Int) with | (lo, hi) => pure (lo, (1 : Int), Builtin.Slice.slicePlaces lo hi 1)) _ _ s
  rw [adj_from a n ha]
  show wpAny _ _ (pure ((a : Int), (1 : Int), Builtin.Slice.slicePlaces (a : Int) (n : Int) 1)) _ _ s
  rw [places_run]
  exact wpAny_pure h
theorem getItem_tuple_from {t sl : Addr} {items : Array Value} {a : Nat} {u : Tok} {Q : Value → Shared → Prop} (ht : IsTup s.heap t items) (hs : s.heap.IsSliceOf sl (.int a u) .none .none) (ha : a ≤ items.size) (h0 : 0 < a) (hi : 0 < items.size)
    (h : Q (.ref s.heap.objs.size) { s with heap := s.heap.push { cls := .type "tuple", data := .seq ((items.toList.drop a).take (items.size - a)).toArray } })
    (hsz : items.size ≤ sizeLine) : wpAny (model prog w) A (getItem (.ref t) (.ref sl)) Q E s := by
  have hdrop : sizeOk (.seq ((items.toList.drop a).take (items.size - a)).toArray) := by
    show ((items.toList.drop a).take (items.size - a)).toArray.size ≤ sizeLine
    rw [List.size_toArray, List.length_take, List.length_drop, Array.length_toList]
    exact Nat.le_trans (Nat.min_le_right _ _) (Nat.le_trans (Nat.sub_le _ _) hsz)
  obtain ⟨os, hos, hcs, hds⟩ := id hs
  have hTs : s.TypeIs (.ref sl) "slice" := ⟨os, hos, hcs⟩
  unfold getItem
  try with_reducible refine wpAny_holding ?_
  first | refine wpAny_bind (wpAny_pure ?_) | skip
  refine wpAny_bind (wpAny_sequenceKey ht.typeIs (by decide) ?_)
  refine wpAny_bind (wpAny_callSpecial?_slot (name := Str.ofString "__getitem__") ht.typeIs slot_tuple_getitem
    (wpAny_call_entry slot_tuple_getitem ht.typeIs entry_tuple_getitem ?_ (args_tuple_getitem _ _)))
  show wpAny _ _ (Builtin.Tuple.tupleItemsOf (.ref t) >>= _) _ _ s
  refine wpAny_bind (tupleItemsOf_ ht ?_)
  refine wpAny_bind (wpAny_typeOf hTs ?_)
  rw [if_pos (by decide)]
  refine wpAny_bind (sliceApplied_from hs ha ?_)
  have hno : ¬ (((a : Int) == 0 && (1 : Int) == 1 && (items.size - a) == items.size) = true) := by
    have : ((items.size - a) == items.size) = false := by rw [beq_eq_false_iff_ne]; exact Nat.ne_of_lt (Nat.sub_lt hi h0)
    rw [this]; simp
  show wpAny _ _ (if ((a : Int) == 0 && (1 : Int) == 1 && (items.size - a) == items.size) = true then _ else _) _ _ s
  rw [if_neg hno, pick_mid items a (items.size - a)]
  first
    | exact wpAny_bind (m := Builtin.Tuple.tupleExact _) (wpAny_newObj_type (wpAny_pure ⟨_, rfl, wpAny_pure h⟩) hdrop)
    | exact wpAny_bind (m := Builtin.Tuple.tupleExact _) (wpAny_newObj_type (wpAny_bind (wpAny_pure (wpAny_pure ⟨_, rfl, wpAny_pure h⟩))) hdrop)
    | exact wpAny_bind (wpAny_bind (m := Builtin.Tuple.tupleExact _) (wpAny_newObj_type (wpAny_pure (wpAny_pure ⟨_, rfl, wpAny_pure h⟩)) hdrop))
    | exact wpAny_bind (wpAny_bind (m := Builtin.Tuple.tupleExact _) (wpAny_newObj_type (wpAny_pure ⟨_, rfl, wpAny_pure h⟩) hdrop))
theorem slice_tuple_from {value slice : Expr} {t : Addr} {items : Array Value} {b : Int} {a : Nat} {u : Tok} {zs : List Value} {Q : Value → Shared → Prop}
    (F : Fr h₀ L s.heap m) (N : News h₀ L s.heap news) (ht : IsTup s.heap t items) (eb : b = (a : Int)) (ha : Nat.ble a items.size = true) (h0 : 0 < a) (hi : 0 < items.size)
    (hz : (items.toList.drop a).take (items.size - a) = zs)
    (h : ∀ (D : Addr) h', Fr h₀ L h' m → News h₀ L h' ((D, { cls := .type "tuple", data := .seq zs.toArray }) :: news) → (∀ p ∈ news, p.1 < D) → Q (.ref D) { s with heap := h' })
    (hs : subscripted slice false (.ref t) (.ref s.heap.objs.size) = operate [.ref s.heap.objs.size, .ref t] (getItem (.ref t) (.ref s.heap.objs.size)))
    (hg : ∀ r, letTemporaryGo value (.ref t) r = pure ())
    (hsz : items.size ≤ sizeLine) :
    wpAny (model prog w) A (subscriptTail value slice (.ref t) (.ref s.heap.objs.size)) Q E { s with heap := s.heap.push { cls := .type "slice", data := .fields #[.int b u, .none, .none] } } := by
  subst eb
  have ht' : IsTup (s.heap.push { cls := .type "slice", data := .fields #[.int a u, .none, .none] }) t items := ht.keeps fun _ _ e => Heap.get?_push_of_some _ e
  refine subscriptTail_ops (s := { s with heap := s.heap.push { cls := .type "slice", data := .fields #[.int a u, .none, .none] } }) ht'.typeIs slot_tuple_getitem.lookup
    (getItem_tuple_from ht' (Heap.IsSliceOf.new ..) (Nat.le_of_ble_eq_true ha) h0 hi ?_ hsz) hs hg
  rw [hz]
  have N1 := News.push (F.push { cls := .type "slice", data := .fields #[.int a u, .none, .none] }) (N.grown fun _ _ e => Heap.get?_push_of_some _ e) { cls := .type "tuple", data := .seq zs.toArray }
  rw [Heap.size_push] at N1
  show Q (.ref (s.heap.push _).objs.size) _
  rw [Heap.size_push]
  exact h _ _ ((F.push _).push _) N1 fun p hp => Nat.lt_succ_of_lt (Heap.lt_size (N p hp).1)
end
end Mine
end
section
set_option maxHeartbeats 1000000
namespace Mine
section
variable {w : World} {A : Around} {s : Shared} {E : Value → Shared → Prop} {Q : Value → Shared → Prop} {mg mb : Str → Option Value}
theorem ksetLl1 : True := by
  k_with "eval ListComp" => (refine' stop_here ?_)
  k_with "eval Name" => ((with_reducible show wpAny _ _ (eval (Expr.Name _ _) (compEnvC _ _ _ _)) _ _ _); k_dflt (refine nb_built (mg := mg) (mb := mb) (by k_asm) (by k_asm) (by k_asm) (by k_is) (by boot_by_name) (by decide) ?_))
  k_with "call builtin:len" => ((with_reducible show wpAny _ _ (call (Value.builtin "len") [Value.ref _]) _ _ _); k_dflt (refine' tlen_base ?k1 ?k2 ?k3 ?k4 ?_; (case k1 => k_asm); (case k2 => k_asm); (case k3 => first | exact (rfl : _ = (5 : Int)) | exact (rfl : _ = (7 : Int)) | exact (rfl : _ = (6 : Int)) | exact (rfl : _ = (4 : Int))); (case k4 => decide); k_whole))
  trivial
noncomputable def leadR (codes : List Int) (r : Row) : Row := match r.kd with
  | .larger c => if c ∈ codes then r else { r with kd := .plain }
  | _ => r
noncomputable def leads (rows : List Row) : List Row := rows.map (leadR (rows.map (·.code)))
noncomputable def JL1 (N0 : List (Addr × Obj)) (rows : List Row) (i : Nat) (ys : List Value) (news : List (Addr × Obj)) : Prop := news = N0 ∧ IntsAre ys ((rows.take i).map (·.code))
inductive JL2 (h₀ g : Heap) (N0 : List (Addr × Obj)) (rows : List Row) (codes : List Int) (i : Nat) (ys : List Value) (news : List (Addr × Obj)) : Prop
  | mk (g' : _)(D : _) (h0 : news = N0 ++ D) (h1 : Gh h₀ g' D) (h2 : g.StaysIn g') (h3 : (∀ b o, g'.get? b = some o → g.get? b = some o ∨ h₀.get? b = none)) (h4 : All2 (RowV g') ys ((rows.take i).map (leadR codes))) : JL2 h₀ g N0 rows codes i ys news
theorem intsSnoc {vs : List Value} {ns : List Int} (h : IntsAre vs ns) (n : Int) (t : Tok) : IntsAre (vs ++ [.int n t]) (ns ++ [n]) := by
  induction h with
  | nil => exact .cons _ _ .nil
  | cons _ _ _ ih => exact .cons _ _ ih
theorem law_leads_spec (R : Rm 4 A) (X : (KF w.params).In s.heap) (T : TR mg mb s.heap) {g : Heap} (hg : g.StaysIn s.heap) {rl : Value} {rows : List Row} (hr : RowsV g rl rows) (hlen : rows.length ≤ 100)
   (h : ∀ h' tk g' v, s.heap.StaysIn h' → Gx g s.heap h' g' → RowsV g' v (leads rows) → Q v {s with heap := h', toks := tk}) :
   wpAny (model p0 w) A (call (.ref 502) [rl]) Q E s := by
  obtain ⟨ra, rvs, rfl, hl, hal⟩ := hr
  refine callCF (binds := [("rows", .ref ra)]) R X T rfl (by k_is) (BindsTo.of_eq (by kernel_rfl)) (by kernel_rfl) (by decide) rfl rfl rfl (fun L h₁ tk cells F N Y X T => ?_)
  have hY := CellsAre.one Y; obtain ⟨oc, rfl, d1⟩ := hY; clear Y
  repeat' (first | walk1 | (dsimp only; walk1))
  rename Fr _ _ _ _ => F8; rename News _ _ _ _ => N8
  have hlb := isList_keeps hl hg
  have hrl : rvs.length = rows.length := hal.length
  obtain ⟨obj, hobj⟩ : ∃ o, s.heap.get? ra = some o := by obtain ⟨o, e, _⟩ := hlb; exact ⟨o, e⟩
  have hls : ∀ h : Heap, h.get? ra = some obj → h.IsList ra rvs.toArray := by
    intro h e
    obtain ⟨o, e1, r⟩ := hlb
    rw [hobj] at e1; cases e1
    exact ⟨obj, e, r⟩
  refine ⟨LComp_go F8 (by with_unfolding_all rfl) (by decide) (by rfl) (by decide) ?_⟩
  repeat' (first | walk1 | (dsimp only; walk1))
  rename Fr _ _ _ _ => F7; rename News _ _ _ _ => N7
  refine cgo_list (JL1 _ rows) _ hls (by omega) F7 N7 (.inl hobj) ⟨rfl, .nil⟩ (fun g9 => casg_name (by rfl) (by rfl)) ?_ ?_
  · rintro g9 i v ys news I oI C oC D9 m₂ h9 tk9 E' kK2 kK hK2 hK hi hv ⟨rfl, hys⟩ hC hx9 F N off ne
    obtain ⟨r, hri, hrv⟩ := hal.get hv
    obtain ⟨a, u0, u1, u2, u3, u4, rfl, y⟩ := hrv.keeps hg
    clear F7 N7
    refine wpAny_tests_nil ?_
    simp only [if_true]
    cases hkd : r.kd with
    | plain =>
      rw [hkd] at y
      repeat' (first | walk1 | (dsimp only; walk1))
      rename Fr _ _ _ _ => F9; rename News _ _ _ _ => N9
      exact LCg.CompEnd.intro F9 N9 _ (fun p hp => hp) off (.inl hobj) ⟨rfl, by rw [take_one hri, List.map_append]; exact intsSnoc hys _ _⟩
    | larger c =>
      rw [hkd] at y
      obtain ⟨u5, u6, y⟩ := y
      repeat' (first | walk1 | (dsimp only; walk1))
      rename Fr _ _ _ _ => F9; rename News _ _ _ _ => N9
      exact LCg.CompEnd.intro F9 N9 _ (fun p hp => hp) off (.inl hobj) ⟨rfl, by rw [take_one hri, List.map_append]; exact intsSnoc hys _ _⟩
    | pieces pa pb pc pd =>
      rw [hkd] at y
      obtain ⟨u5, pv, y, z⟩ := y
      repeat' (first | walk1 | (dsimp only; walk1))
      rename Fr _ _ _ _ => F9; rename News _ _ _ _ => N9
      exact LCg.CompEnd.intro F9 N9 _ (fun p hp => hp) off (.inl hobj) ⟨rfl, by rw [take_one hri, List.map_append]; exact intsSnoc hys _ _⟩
  · rintro g9 ys news ⟨rfl, hys⟩ hyl D1 h9 tk9 F N off
    clear F7 N7
    rw [show rvs.length = rows.length from hrl, List.take_length] at hys
    repeat' (first | walk1 | (dsimp only; walk1))
    rename Fr _ _ _ _ => F8; rename News _ _ _ _ => N8
    refine ⟨LComp_go F8 (by with_unfolding_all rfl) (by decide) (by rfl) (by decide) ?_⟩
    repeat' (first | walk1 | (dsimp only; walk1))
    rename Fr _ _ _ _ => F7; rename News _ _ _ _ => N7
    refine cgo_list (JL2 s.heap g _ rows (rows.map (·.code))) _ hls (by omega) F7 N7 (.inl hobj) ⟨g, [], (List.append_nil _).symm, ⟨fun b o e => .inl (hg b o e)⟩, fun _ _ e => e, fun b o e => .inl e, .nil⟩ (fun g9 => casg_name (by rfl) (by rfl)) ?_ ?_
    · rintro g9 i v ys2 news I oI C oC D9 m₂ h9 tk9 E' kK2 kK hK2 hK hi hv ⟨g', D', rfl, hG, hgg, hfr, hall⟩ hC hx9 F N off ne
      obtain ⟨r, hri, hrv⟩ := hal.get hv
      obtain ⟨a, u0, u1, u2, u3, u4, rfl, y⟩ := hrv.keeps hg
      have hrg := hrv
      clear F7 N7
      simp only [List.cons_append, List.nil_append] at N
      refine wpAny_tests_nil ?_
      simp only [if_true]
      cases hkd : r.kd with
      | plain =>
        rw [hkd] at y
        repeat' (first | walk1 | (dsimp only; walk1))
        rename Fr _ _ _ _ => F9; rename News _ _ _ _ => N9
        exact LCg.CompEnd.intro F9 N9 _ (fun p hp => hp) off (.inl hobj) ⟨g', D', rfl, hG, hgg, hfr, by rw [take_one hri, List.map_append]; exact hall.append (.cons (by rw [show leadR (rows.map (·.code)) r = r by unfold leadR; rw [hkd]]; exact hrg.keeps hgg) .nil)⟩
      | larger c =>
        rw [hkd] at y
        obtain ⟨u5, u6, y⟩ := y
        repeat' (first | walk1 | (dsimp only; walk1))
        · have hm : c ∈ rows.map (·.code) := by
            rename (List.any _ _) = true => ha
            obtain ⟨z, hz, e⟩ := List.any_eq_true.mp ha
            rw [← eq_of_beq e]; exact hz
          rename Fr _ _ _ _ => F9; rename News _ _ _ _ => N9
          exact LCg.CompEnd.intro F9 N9 _ (fun p hp => hp) off (.inl hobj) ⟨g', D', rfl, hG, hgg, hfr, by rw [take_one hri, List.map_append]; exact hall.append (.cons (by rw [show leadR (rows.map (·.code)) r = r by unfold leadR; rw [hkd]; exact if_pos hm]; exact hrg.keeps hgg) .nil)⟩
        · have hm : c ∉ rows.map (·.code) := by
            rename (List.any _ _) = false => ha
            intro hm
            exact absurd (beq_self_eq_true c) (by have := List.any_eq_false.mp ha c hm; exact this)
          rename Fr _ _ _ _ => F9; rename News _ _ _ _ => N9
          refine turn_one F9 N9 off (by k_ne) (by k_ne) (by k_ne) hG (fun _ => .inl hobj) (fun g2 hG2 k2 hT c2 hT0 => ?_)
          obtain ⟨q1, q2⟩ := Gh.step hgg hfr k2 c2 hT0
          refine ⟨g2, _, rfl, hG2, q1, q2, ?_⟩
          rw [take_one hri, List.map_append]
          refine (hall.imp fun _ _ q => q.keeps k2).append (.cons ?_ .nil)
          rw [show leadR (rows.map (·.code)) r = ⟨r.code, r.wd, r.ht, r.dp, r.it, .plain⟩ by unfold leadR; rw [hkd]; exact if_neg hm]
          exact RowV.mk0 ⟨_, hT, rfl, _, rfl⟩
      | pieces pa pb pc pd =>
        rw [hkd] at y
        obtain ⟨u5, pv, y, z⟩ := y
        repeat' (first | walk1 | (dsimp only; walk1))
        rename Fr _ _ _ _ => F9; rename News _ _ _ _ => N9
        exact LCg.CompEnd.intro F9 N9 _ (fun p hp => hp) off (.inl hobj) ⟨g', D', rfl, hG, hgg, hfr, by rw [take_one hri, List.map_append]; exact hall.append (.cons (by rw [show leadR (rows.map (·.code)) r = r by unfold leadR; rw [hkd]]; exact hrg.keeps hgg) .nil)⟩
    · rintro g9 ys2 news ⟨g', D', rfl, hG, hgg, hfr, hall⟩ hyl D9 h9 tk9 F N off
      simp only [List.cons_append, List.nil_append] at N
      have hst := hG.stays F (fun p hp => N p (by simp [hp]))
      have m9 := N (D9, LCg.lst ys2) (.head _)
      have G9 := Gx.ext hg (fun b o e => F.keep b o e)
      have hsub := ext_sub (g := g) (s := s.heap) hst hfr
      rw [show rvs.length = rows.length from hrl, List.take_length] at hall
      repeat' (first | walk1 | (dsimp only; walk1))
      exact h _ _ _ _ F.keep G9 ⟨D9, ys2, rfl, ⟨_, ext_get m9.1 m9.2.2, rfl, _, rfl⟩, hall.imp fun _ _ q => q.keeps hsub⟩
end
end Mine
end
section
open PySem PySem.W PyProof.Rows PySem.Calls
set_option maxHeartbeats 1000000
namespace Mine
section
variable {w : World} {A : Around} {s : Shared} {E : Value → Shared → Prop}
theorem cls_base {Q : Value → Shared → Prop} {K : Frag} {h₀ : Heap} {L x C : Addr} {m : Str → Option Value} {ox : Obj} {es : List DictEntry} {n : Nat} {name : Str} {a : Value} {expr : Bool} (F : Fr h₀ L s.heap m) (X₀ : K.In h₀)
    (I : InstAt h₀ x ox C (some (dictOf es n))) (hl : getL name es = some none) (hg : plainGet K C name = true) (hh : hasDictIn K C = true) (ha : findIn K (.ref C) name = some (some a)) (hn : specialIn K a "__get__" = some none) (hv : handedIn a = true) (hc : copiedNames.contains name = false)
    (h : Q a { s with toks := s.toks + 1 }) : wpAny (model p0 w) A (getAttr (.ref x) name expr) Q E s := get_cls F X₀ (instAt_keeps I F.keep) hg hh ha hn hv hc hl h
noncomputable def rowF (r : Row) : Int → Option Int
  | .ofNat 0 => some r.code
  | .ofNat 1 => some r.wd
  | .ofNat 2 => some r.ht
  | .ofNat 3 => some r.dp
  | .ofNat 4 => some r.it
  | _ => none
theorem RowV.any {h : Heap} {v : Value} {r : Row} (x : RowV h v r) : ∃ (a : Addr) (t0 t1 t2 t3 t4 : Tok) (l : List Value), v = .ref a ∧ IsTup h a (List.toArray (.int r.code t0 :: .int r.wd t1 :: .int r.ht t2 :: .int r.dp t3 :: .int r.it t4 :: l)) ∧ l.length ≤ 2 := by
  obtain ⟨a, u0, u1, u2, u3, u4, rfl, y⟩ := x
  cases hkd : r.kd with
  | plain => rw [hkd] at y; exact ⟨a, u0, u1, u2, u3, u4, [], rfl, y, by simp⟩
  | larger => rw [hkd] at y; obtain ⟨t5, t6, y⟩ := y; exact ⟨a, u0, u1, u2, u3, u4, [_, _], rfl, y, by simp⟩
  | pieces => rw [hkd] at y; obtain ⟨t5, v, y, _⟩ := y; exact ⟨a, u0, u1, u2, u3, u4, [_, _], rfl, y, by simp⟩
theorem RowV.ref {h : Heap} {v : Value} {r : Row} (x : RowV h v r) : ∃ a, v = .ref a ∧ RowV h (.ref a) r := by
  obtain ⟨a, _, _, _, _, _, _, rfl, _⟩ := x.any
  exact ⟨a, rfl, x⟩
theorem row_item {value slice : Expr} {h₀ : Heap} {L a : Addr} {m : Str → Option Value} {r : Row} {k : Int} {u : Tok} {v : Int} {Q : Value → Shared → Prop} (F : Fr h₀ L s.heap m) (x : RowV h₀ (.ref a) r) (hv : rowF r k = some v) (h : ∀ t, Q (.int v t) s)
    (hs : subscripted slice false (.ref a) (.int k u) = operate [.ref a, .int k u] (getItem (.ref a) (.int k u))) (hg : ∀ r, letTemporaryGo value (.ref a) r = pure ()) :
    wpAny (model p0 w) A (subscriptTail value slice (.ref a) (.int k u)) Q E s := by
  obtain ⟨a, t0, t1, t2, t3, t4, l, e, y, hl⟩ := x.any
  cases e
  have y := isTup_keeps y F.keep
  have hsz : (List.toArray (Value.int r.code t0 :: .int r.wd t1 :: .int r.ht t2 :: .int r.dp t3 :: .int r.it t4 :: l)).size = l.length + 5 := by simp
  have ix : ∀ n : Nat, n < 5 → seqIndex? (n : Int) (List.toArray (Value.int r.code t0 :: .int r.wd t1 :: .int r.ht t2 :: .int r.dp t3 :: .int r.it t4 :: l)).size = some n := fun n hn => by
    rw [hsz]
    have : l.length = 0 ∨ l.length = 1 ∨ l.length = 2 := by omega
    have : n = 0 ∨ n = 1 ∨ n = 2 ∨ n = 3 ∨ n = 4 := by omega
    rcases ‹l.length = 0 ∨ l.length = 1 ∨ l.length = 2› with e | e | e <;> rw [e] <;> rcases this with rfl | rfl | rfl | rfl | rfl <;> rfl
  match k, hv with
  | .ofNat 0, hv => cases hv; exact item_tuple y (by decide) (by decide) (ix 0 (by decide)) rfl (h _) hs hg
  | .ofNat 1, hv => cases hv; exact item_tuple y (by decide) (by decide) (ix 1 (by decide)) rfl (h _) hs hg
  | .ofNat 2, hv => cases hv; exact item_tuple y (by decide) (by decide) (ix 2 (by decide)) rfl (h _) hs hg
  | .ofNat 3, hv => cases hv; exact item_tuple y (by decide) (by decide) (ix 3 (by decide)) rfl (h _) hs hg
  | .ofNat 4, hv => cases hv; exact item_tuple y (by decide) (by decide) (ix 4 (by decide)) rfl (h _) hs hg
end
end Mine
end
section
set_option maxHeartbeats 1000000
namespace Mine
section
variable {w : World} {A : Around} {s : Shared} {E : Value → Shared → Prop} {Q : Value → Shared → Prop} {mg mb : Str → Option Value}
theorem ksetLc1 : True := by
  k_with "setItem ref int" => (refine' stop_here ?_)
  k_with "compareOp In int ref" => (k_dflt (refine' kda_in (knd := intKind _ _) ?k1 ?k2 ?k3 ?k4 (intKind_is _ _ _ _) false ?k5 ?_; (case k1 => k_asm); (case k2 => k_mem); (case k3 => k_asm); (case k4 => k_asm); (case k5 => k_asm); k_whole))
  k_with "compareOp In int ref" => (k_dflt (refine' kda_in (knd := intKind _ _) ?k1 ?k2 ?k3 ?k4 (intKind_is _ _ _ _) true ?k5 ?_; (case k1 => k_asm); (case k2 => k_mem); (case k3 => k_asm); (case k4 => k_asm); (case k5 => k_asm); k_whole))
  k_with "subscriptTail" => ((with_reducible show wpAny _ _ (subscriptTail _ _ (Value.ref _) (Value.int _ _)) _ _ _); k_dflt (refine' kda_item (knd := intKind _ _) ?k1 ?k2 ?k3 (intKind_is _ _ _ _) ?k4 ?_ ?k5 ?k6; (case k1 => k_asm); (case k2 => k_mem); (case k3 => k_asm); (case k4 => k_asm); (case k5 => with_unfolding_all rfl); (case k6 => (intro _; with_unfolding_all rfl)); k_whole))
  k_with "call builtin:list.append" => (k_dflt (refine' lapp ?F ?N ?U ?z ?_; (case F => k_asm); (case N => k_asm); (case U => k_updF); (case z => omega)); intro h' F' N'; (try dsimp only at N'); (try k_sweep))
  k_with "subscriptTail" => ((with_reducible show wpAny _ _ (subscriptTail _ _ (Value.ref _) (Value.int _ _)) _ _ _); k_dflt (refine' row_item ?k1 ?k2 ?k3 ?_ ?k5 ?k6; (case k1 => k_asm); (case k2 => k_asm); (case k3 => with_unfolding_all rfl); (case k5 => with_unfolding_all rfl); (case k6 => (intro _; with_unfolding_all rfl)); k_whole); intro _)
  trivial
theorem find_rows {g : Heap} {kvs : List (Int × Value)} {rows : List Row} (x : All2 (fun (kv : Int × Value) (r : Row) => kv.1 = r.code ∧ RowV g kv.2 r) kvs rows) (code : Int) :
    (valueAt kvs code = none ∧ find rows code = none) ∨ ∃ v r, valueAt kvs code = some v ∧ find rows code = some r ∧ RowV g v r := by
  induction x with
  | nil => exact .inl ⟨rfl, rfl⟩
  | @cons kv r kvs rows q _ ih =>
    obtain ⟨q1, q2⟩ := q
    by_cases e : r.code = code
    · refine .inr ⟨kv.2, r, ?_, ?_, q2⟩
      · simp [valueAt, q1, e]
      · simp [find, e]
    · have e1 : valueAt (kv :: kvs) code = valueAt kvs code := by simp [valueAt, q1, e]
      have e2 : find (r :: rows) code = find rows code := by simp [find, e]
      rw [e1, e2]
      exact ih
theorem rows_codes {g : Heap} {kvs : List (Int × Value)} {rows : List Row} (x : All2 (fun (kv : Int × Value) (r : Row) => kv.1 = r.code ∧ RowV g kv.2 r) kvs rows) : kvs.map (·.1) = rows.map (·.code) := by
  induction x with
  | nil => rfl
  | cons q _ ih => simp [q.1, ih]
inductive JC1 (w : World) (g : Heap) (lf : Addr) (lo : Obj) (dc : Addr) (rows : List Row) (code : Int) (tc : Tok) (rest : List Value) (m : Str → Option Value) (news : List (Addr × Obj)) : Prop
  | mk (done : _)(rs : _)(kvs : _)(od : _) (h0 : rows = done ++ rs) (h1 : All2 (RowV g) rest rs) (h2 : news = [(lf, lo), (dc, od)]) (h3 : od.IsDictOf (intKind p0 w) kvs) (h4 : All2 (fun (kv : Int × Value) (r : Row) => kv.1 = r.code ∧ RowV g kv.2 r) kvs done) (h5 : Has m [("by_code", .ref dc), ("found", .ref lf), ("code", .int code tc)]) : JC1 w g lf lo dc rows code tc rest m news
inductive JLc (w : World) (g : Heap) (lf dc : Addr) (rows : List Row) (code : Int) (kvs : List (Int × Value)) (n : Nat) (m : Str → Option Value) (news : List (Addr × Obj)) : Prop
  | mk (cd : Int) (tcd : Tok) (ys : List Value) (pre : List Row) (k : Nat) (od : Obj) (h0 : news = [(lf, W.listOf ys.toArray k), (dc, od)]) (h1 : All2 (RowV g) ys pre) (h2 : pre ++ chainF rows cd = chainF rows code) (h3 : cd = -1 ∨ 0 ≤ cd) (h4 : cd ≤ 255) (h5 : od.IsDictOf (intKind p0 w) kvs) (h6 : Has m [("by_code", .ref dc), ("found", .ref lf), ("code", .int cd tcd)]) (h7 : n = if cd < 0 then 0 else (300 - cd).toNat + 1) : JLc w g lf dc rows code kvs n m news
theorem law_chain_spec (R : Rm 4 A) (X : (KF w.params).In s.heap) (T : TR mg mb s.heap) {g : Heap} (hg : g.StaysIn s.heap) {rl : Value} {rows : List Row} (hr : RowsV g rl rows) (hlen : rows.length ≤ 100) (hW : WFr rows) (hhi : ∀ r ∈ rows, r.code ≤ 10) (hnd : (rows.map (·.code)).Nodup) {code : Int} {tc : Tok} (hc0 : 0 ≤ code) (hc1 : code ≤ 255)
   (h : ∀ h' tk g' v, s.heap.StaysIn h' → Gx g s.heap h' g' → RowsV g' v (chainF rows code) → Q v {s with heap := h', toks := tk}) :
   wpAny (model p0 w) A (call (.ref 509) [rl, .int code tc]) Q E s := by
  obtain ⟨ra, rvs, rfl, hl, hal⟩ := hr
  refine callF (binds := [("rows", .ref ra), ("code", .int code tc)]) R X T rfl (by k_is) (BindsTo.of_eq (by kernel_rfl)) (by kernel_rfl) rfl rfl rfl (by kernel_rfl) (fun L h₁ tk F N X T => ?_)
  repeat' (first | walk1 | (dsimp only; walk1))
  rename Fr _ _ _ _ => F8
  refine For_st F8 ?_
  repeat' (first | walk1 | (dsimp only; walk1))
  rename Fr _ _ _ _ => F7; rename News _ _ _ _ => N7
  rename_i dc hA5 od0 lo hs fs hdi fi l12 lf hA4 l11 D3 hA3 l1 hA hB hC
  have hlb := isList_keeps hl hg
  have hrl : rvs.length = rows.length := hal.length
  have hneg : find rows (-1) = none := by
    cases e : find rows (-1) with
    | none => rfl
    | some r => have := hW.lo r (find_mem e).1; have := (find_mem e).2; omega
  refine turns_base (JC1 w g lf (W.listOf #[] 0) dc rows code tc) (.inl hlb) F7 (newsMk N7 (by k_mem) (newsMk N7 (by k_mem) News.nil)) ⟨[], rows, [], od0, rfl, hal, rfl, hdi, .nil, rfl, rfl, rfl, trivial⟩ ?_ ?_
  · rintro v rest m₁ news₁ h₁ tk₁ I ito kK hK ⟨done, rs, kvs, od, hrs, hall, rfl, hdo, hch, H⟩ hoff hc F N
    cases hall with | cons q hall =>
    rename_i r rs
    have hI1 : @Ne Nat lf I := hoff _ (.head _)
    have hI2 : @Ne Nat dc I := hoff _ (.tail _ (.head _))
    generalize W.listOf #[] 0 = lo9 at hK N
    have hv9 : valueAt kvs r.code = none := valueAt_none_of_not_mem (by
      rw [rows_codes hch]
      rw [hrs, List.map_append, List.map_cons] at hnd
      have := (List.nodup_append.mp hnd).2.2
      exact fun q => this _ q _ (.head _) rfl)
    have hkl : kvs.length ≤ 1000 := by
      have h1 := hch.length
      rw [hrs, List.length_append] at hlen
      omega
    have hrg := q
    obtain ⟨a, rfl, hrow⟩ := (q.keeps hg).ref
    replace F := frOf F H
    clear F7 N7
    repeat' (first | walk1 | (dsimp only; walk1))
    rename Fr _ _ _ _ => F9; rename News _ _ _ _ => N9
    refine dset F9 N9 (by k_mem) hdo hkl (fun h' o' F' kb ho' hd' => ?_)
    have S9 := And.intro F9 N9
    clear F9 N9
    have N' : News s.heap L h' [] := News.nil
    repeat' (first | walk1 | (dsimp only; walk1))
    obtain ⟨F9, N9⟩ := S9
    rw [stored_absent hv9] at hd'
    have md := N9 (dc, od) (by k_mem); have ml := N9 (lf, lo9) (by k_mem); have mi := N9 (I, ito) (by k_mem)
    exact ⟨h', _, _, [(lf, lo9), (dc, o')], rfl, F', (fun p hp => by
      simp only [List.mem_cons, List.not_mem_nil, or_false] at hp
      rcases hp with rfl | rfl | rfl
      · exact ⟨kb _ _ (by k_ne) mi.1, mi.2⟩
      · exact ⟨kb _ _ (by k_ne) ml.1, ml.2⟩
      · exact ⟨ho', md.2⟩), (fun p hp => by
      simp only [List.mem_cons, List.not_mem_nil, or_false] at hp
      rcases hp with rfl | rfl
      · exact hI1
      · exact hI2), done ++ [r], rs, kvs ++ [(r.code, .ref a)], o', by rw [hrs]; simp, hall, rfl, hd', hch.append (.cons ⟨rfl, hrg⟩ .nil), rfl, rfl, rfl, trivial⟩
  · rintro h' tk' m' news' F N ⟨done, rs, kvs, od, hrs, hall, rfl, hdo, hch, H⟩
    cases hall
    rw [List.append_nil] at hrs
    subst hrs
    replace F := frOf F H
    clear F7 N7
    repeat' (first | walk1 | (dsimp only; walk1))
    rename Fr _ _ _ _ => F8; rename News _ _ _ _ => N8
    refine While_st (JLc w g lf dc rows code kvs) F8 N8 ⟨code, tc, [], [], 0, od, rfl, .nil, rfl, .inr hc0, hc1, hdo, ⟨rfl, rfl, rfl, trivial⟩, rfl⟩ ?_
    rintro n m₁ news₁ h₁ tk₁ kK hK F N ⟨cd, tcd, ys, pre, k, od, rfl, hys, hpre, hcd, hcd2, hdo, H, rfl⟩
    replace F := frOf F H
    clear F8 N8
    rcases find_rows hch cd with ⟨hv, hfi⟩ | ⟨v, r, hv, hfi, hrg⟩
    · have hvn : (valueAt kvs cd).isSome = false := by rw [hv]; rfl
      rw [chainF_none hfi, List.append_nil] at hpre
      subst hpre
      have m9 := N (lf, W.listOf ys.toArray k) (by k_mem)
      have kst : s.heap.StaysIn h₁ := fun b o e => F.keep b o e
      have G9 := Gx.ext hg kst
      repeat' (first | walk1 | (dsimp only; walk1))
      exact h _ _ _ _ kst G9 ⟨lf, ys, rfl, ⟨_, ext_get m9.1 m9.2.2, rfl, _, rfl⟩, hys.imp fun _ _ q => q.keeps G9.a⟩
    · have hvs : (valueAt kvs cd).isSome = true := by rw [hv]; rfl
      have hmm := find_mem hfi
      have hcd0 : ¬ cd < 0 := by have := hW.lo r hmm.1; have := hmm.2; omega
      have hyl : ys.length ≤ 20 := by
        have h1 := hys.length; have h2 := chain_len (rows := rows) 20 code
        have h3 := congrArg List.length hpre
        rw [List.length_append] at h3
        unfold chainF at h3
        omega
      obtain ⟨a, u0, u1, u2, u3, u4, rfl, y⟩ := hrg.keeps hg
      cases hkd : r.kd with
      | plain =>
        rw [hkd] at y
        repeat' (first | walk1 | (dsimp only; walk1))
        rename Fr _ _ _ _ => F9; rename News _ _ _ _ => N9
        exact ⟨_, _, _, _, _, rfl, F9, N9, (by rw [if_neg hcd0]; simp), -1, _, ys ++ [.ref a], pre ++ [r], _, od, rfl, hys.append (.cons hrg .nil), by rw [← hpre, chainF_some hW hfi, hkd]; simp [chainF_none hneg], .inl rfl, by omega, hdo, ⟨rfl, rfl, rfl, trivial⟩, rfl⟩
      | larger c9 =>
        rw [hkd] at y
        obtain ⟨u5, u6, y⟩ := y
        repeat' (first | walk1 | (dsimp only; walk1))
        rename Fr _ _ _ _ => F9; rename News _ _ _ _ => N9
        exact ⟨_, _, _, _, _, rfl, F9, N9, (by have := hW.up r hmm.1 c9 hkd; have := hW.lo r hmm.1; have := hmm.2; rw [if_neg hcd0, if_neg (by omega)]; omega), c9, _, ys ++ [.ref a], pre ++ [r], _, od, rfl, hys.append (.cons hrg .nil), by rw [← hpre, chainF_some hW hfi, hkd]; simp, .inr (by have := hW.up r hmm.1 c9 hkd; have := hW.lo r hmm.1; omega), by have := hW.up r hmm.1 c9 hkd; omega, hdo, ⟨rfl, rfl, rfl, trivial⟩, rfl⟩
      | pieces pa pb pc pd =>
        rw [hkd] at y
        obtain ⟨u5, pv, y, z⟩ := y
        repeat' (first | walk1 | (dsimp only; walk1))
        rename Fr _ _ _ _ => F9; rename News _ _ _ _ => N9
        exact ⟨_, _, _, _, _, rfl, F9, N9, (by rw [if_neg hcd0]; simp), -1, _, ys ++ [.ref a], pre ++ [r], _, od, rfl, hys.append (.cons hrg .nil), by rw [← hpre, chainF_some hW hfi, hkd]; simp [chainF_none hneg], .inl rfl, by omega, hdo, ⟨rfl, rfl, rfl, trivial⟩, rfl⟩
end
end Mine
end
section
set_option maxHeartbeats 1000000
namespace Mine
section
variable {w : World} {A : Around} {s : Shared} {E : Value → Shared → Prop} {Q : Value → Shared → Prop} {mg mb : Str → Option Value}
noncomputable def ab (x : Int) : Int := if x < 0 then -x else x
theorem ab0 (x : Int) : 0 ≤ ab x := by unfold ab; split <;> omega
theorem law_jar_spec (R : Rm 4 A) (X : (KF w.params).In s.heap) (T : TR mg mb s.heap) {sa : Addr} {vs : List Value} {ns : List Int} (hl : s.heap.IsList sa vs.toArray) (hi : IntsAre vs ns) (hlen : ns.length ≤ 63)
   (h : ∀ h' tk j c oj oc, s.heap.StaysIn h' → s.heap.get? j = none → s.heap.get? c = none → h'.get? j = some oj → h'.get? c = some oc → JarO 0 c oj oc → @Ne Nat j c → Q (.ref j) {s with heap := h', toks := tk}) :
   wpAny (model p0 w) A (call (.ref 478) [.ref sa]) Q E s := by
  refine callF (binds := [("script", .ref sa)]) R X T rfl (by k_is) (BindsTo.of_eq (by kernel_rfl)) (by kernel_rfl) rfl rfl rfl (by kernel_rfl) (fun L h₁ tk F N X T => ?_)
  repeat' (first | walk1 | (dsimp only; walk1))
  rename Fr _ _ _ _ => F8; rename News _ _ _ _ => N8
  refine ⟨LComp_go F8 (by with_unfolding_all rfl) (by decide) (by rfl) (by decide) ?_⟩
  repeat' (first | walk1 | (dsimp only; walk1))
  rename Fr _ _ _ _ => F7; rename News _ _ _ _ => N7; rename IntsAre _ (List.take _ _) => hI7
  rename_i D7 ws7 h7 hc7 hl7 _
  have hwl : ws7.length = (List.take 60 ns).length := IntsAre.length hI7
  have hw60 : ws7.length ≤ 60 := by omega
  refine cgo_list (fun i ys news => news = [(D7, W.listOf ws7.toArray 0)] ∧ IntsAre ys (((ns.take 60).take i).map ab)) _ (its := ws7) (oax := W.listOf ws7.toArray 0) (fun h e => ⟨_, e, rfl, _, rfl⟩) (by omega) F7 N7 (.inr (.head _)) ⟨rfl, .nil⟩ (fun g9 => casg_name (by rfl) (by rfl)) ?_ ?_
  · rintro g9 i v ys news I oI C oC D9 m₂ h9 tk9 E' kK2 kK hK2 hK hi hv ⟨rfl, hys⟩ hC hx9 F N off ne
    obtain ⟨c, t, rfl, hci⟩ := intsAre_get hI7 hv
    clear F7 N7
    refine wpAny_tests_nil ?_
    simp only [if_true]
    repeat' (first | walk1 | (dsimp only; walk1))
    try dsimp only
    exact LCg.CompEnd.intro F N _ (fun p hp => hp) off (.inr (.head _)) ⟨rfl, by rw [take_one hci, List.map_append]; exact intsSnoc hys _ _⟩
  · rintro g9 ys news ⟨rfl, hys⟩ hyl D1 h9 tk9 F N off
    clear F7 N7
    rw [hwl, List.take_length] at hys
    repeat' (first | walk1 | (dsimp only; walk1))
    rename Fr _ _ _ _ => F8; rename News _ _ _ _ => N8
    refine ⟨LComp_go F8 (by with_unfolding_all rfl) (by decide) (by rfl) (by decide) ?_⟩
    repeat' (first | walk1 | (dsimp only; walk1))
    rename Fr _ _ _ _ => F7; rename News _ _ _ _ => N7
    rename IntsAre _ (List.take _ _) => hI6
    rename_i D6 ws6 h6 hc6 hl6 ll6
    have hwl6 : ws6.length = (List.take 60 ns).length := IntsAre.length hI6
    refine cgo_list (fun i zs news => news = [(D6, W.listOf ws6.toArray 0), (D1, LCg.lst ys), (D7, W.listOf ws7.toArray 0)] ∧ IntsAre zs (((ns.take 60).take i).map fun x => Int.fmod (ab x) 65521)) _ (its := ws6) (oax := W.listOf ws6.toArray 0) (fun h e => ⟨_, e, rfl, _, rfl⟩) (by omega) F7 N7 (.inr (.head _)) ⟨rfl, .nil⟩ (fun g9 => casg_name (by rfl) (by rfl)) ?_ ?_
    · rintro g9 i v zs news I oI C oC D9 m₂ h9 tk9 E' kK2 kK hK2 hK hi hv ⟨rfl, hzs⟩ hC hx9 F N off ne
      obtain ⟨c, t, rfl, hci⟩ := intsAre_get hI6 hv
      clear F7 N7
      refine wpAny_tests_nil ?_
      simp only [if_true]
      repeat' (first | walk1 | (dsimp only; walk1))
      try dsimp only
      exact LCg.CompEnd.intro F N _ (fun p hp => hp) off (.inr (.head _)) ⟨rfl, by rw [take_one hci, List.map_append]; exact intsSnoc hzs _ _⟩
    · rintro g9 zs news ⟨rfl, hzs⟩ hzl D2 h9 tk9 F N off
      clear F7 N7
      rw [hwl6, List.take_length] at hzs
      repeat' (first | walk1 | (dsimp only; walk1))
      rename Fr _ _ _ _ => F7; rename News _ _ _ _ => N7
      rename_i j6 h6 lj
      have Nj := N7 (j6, _) (.head _)
      have Nc := N7 (D1, _) (.tail _ (.tail _ (.tail _ (.head _))))
      refine h _ _ j6 D1 _ _ (fun b o e => F7.keep b o e) Nj.2.2 Nc.2.2 Nj.1 Nc.1 ⟨0, _, _, _, _, _, ys, _, rfl, rfl, hys, ?_, by decide, by decide, ?_, ?_⟩ (fun q => by have := lj.2.2.1; rw [q] at this; exact Nat.lt_irrefl _ this)
      · intro x hx
        obtain ⟨z, _, rfl⟩ := List.mem_map.mp hx
        exact ab0 z
      · have : ∀ l : List Int, 0 ≤ (l.map fun x => Int.fmod (ab x) 65521).sum := by
          intro l
          induction l with
          | nil => simp
          | cons a l ih =>
            have := Int.fmod_nonneg (ab0 a) (by decide : (0:Int) ≤ 65521)
            simp only [List.map_cons, List.sum_cons]; omega
        exact this _
      · rw [List.length_map]; omega
end
end Mine
end
section
set_option maxHeartbeats 1000000
namespace Mine
section
variable {w : World} {A : Around} {s : Shared} {E : Value → Shared → Prop} {Q : Value → Shared → Prop} {mg mb : Str → Option Value}
theorem ksetLt1 : True := by
  k_with "getAttr ref" => (k_dflt (refine' cls_base ?k1 ?k2 ?k3 ?k4 ?k5 ?k6 ?k7 ?k8 ?k9 ?k0 ?_; (case k3 => k_asm); (case k1 => k_asm); (case k2 => k_asm); (case k4 => k_asm); (case k5 => k_is); (case k6 => k_is); (case k7 => k_is); (case k8 => k_is); (case k9 => k_handed); (case k0 => decide +kernel); k_whole))
  k_with "getAttr ref" => (k_dflt (refine' attr_base ?k1 ?k2 ?k3 ?k4 ?k5 ?k6 ?k7 ?k8 ?k9 ?_; (case k3 => k_asm); (case k1 => k_asm); (case k2 => k_asm); (case k4 => k_asm); (case k5 => k_is); (case k6 => k_is); (case k7 => k_is); (case k8 => k_is); (case k9 => k_handed); k_whole))
  trivial
theorem letter_right_spec (R : Rm 4 A) (X : (KF w.params).In s.heap) (T : TR mg mb s.heap) {x dx li c dc : Addr} {es esc : List DictEntry} {n nc nl : Nat} {fv rv : Value} {r : Row} {sh : Int}
   (B : BoxAt s.heap x dx es n 2 (r.wd + r.it) r.ht r.dp (.ref li) sh) (hl : s.heap.get? li = some (listOf #[.ref c] nl)) (C : CharAt s.heap c dc esc nc fv r.code) (hrv : RowV s.heap rv r)
   (h : ∀ h' tk, s.heap.StaysIn h' → Q (.bool true) {s with heap := h', toks := tk}) :
   wpAny (model p0 w) A (call (.ref 524) [.ref x, rv]) Q E s := by
  obtain ⟨a, rfl, hrow⟩ := hrv.ref
  clear hrv
  refine callF (binds := [("box", .ref x), ("row", .ref a)]) R X T rfl (by k_is) (BindsTo.of_eq (by kernel_rfl)) (by kernel_rfl) rfl rfl rfl (by kernel_rfl) (fun L h₁ tk F N X T => ?_)
  have I0 : InstAt s.heap x (instObj 257 dx) 257 (some (dictOf es n)) := instAt_mk B.hx B.hd
  have I1 : InstAt s.heap c (instObj 236 dc) 236 (some (dictOf esc nc)) := instAt_mk C.hx C.hd
  obtain ⟨t1, b1⟩ := B.kind; obtain ⟨t2, b2⟩ := B.width; obtain ⟨t3, b3⟩ := B.height; obtain ⟨t4, b4⟩ := B.depth; have b5 := B.items
  obtain ⟨t6, b6⟩ := C.code; have b7 := C.kind
  repeat' (first | walk1 | (dsimp only; walk1))
  rename Fr _ _ _ _ => F8; rename News _ _ _ _ => N8
  refine ⟨LComp_go F8 (by with_unfolding_all rfl) (by decide) (by rfl) (by decide) ?_⟩
  repeat' (first | walk1 | (dsimp only; walk1))
  rename Fr _ _ _ _ => F7; rename News _ _ _ _ => N7
  refine cgo_list (fun i ys news => (i = 0 ∧ ys = [] ∧ news = []) ∨ (i = 1 ∧ ∃ T t, ys = [.ref T] ∧ news = [(T, tupO [.int 0 t, .int r.code t6])])) _ (its := [.ref c]) (oax := listOf #[.ref c] nl) (fun h e => ⟨_, e, rfl, _, rfl⟩) (by simp) F7 News.nil (.inl hl) (.inl ⟨rfl, rfl, rfl⟩) (fun g9 => casg_name (by rfl) (by rfl)) ?_ ?_
  · rintro g9 i v ys news I oI C oC D9 m₂ h9 tk9 E' kK2 kK hK2 hK hi hv hJ hC hx9 F N off ne
    obtain rfl : i = 0 := by simpa using hi
    obtain rfl : v = .ref c := by simpa using hv.symm
    rcases hJ with ⟨_, rfl, rfl⟩ | ⟨h1, _⟩
    case inr => cases h1
    clear F7 N7
    refine wpAny_tests_nil ?_
    simp only [if_true]
    repeat' (first | walk1 | (dsimp only; walk1))
    exact .inr ⟨by trivial, _, _, rfl, rfl⟩
  · rintro g9 ys news hJ hyl D1 h9 tk9 F N off
    rcases hJ with ⟨h1, _⟩ | ⟨_, TT, t9, rfl, rfl⟩
    case inl => cases h1
    clear F7 N7
    repeat' (first | walk1 | (dsimp only; walk1))
    rename Fr _ _ _ _ => F9
    exact h _ _ F9.keep
end
end Mine
end
section
set_option autoImplicit false
namespace Mine
open PySem PySem.W PySem.Calls
noncomputable def sum2 (q : Int × Row) : Int := q.2.ht + q.2.dp
noncomputable def hitB (high : Int) (q : Int × Row) : Bool := (match q.2.kd with | .pieces .. => true | _ => false) || (decide (high ≤ sum2 q) && decide (0 < sum2 q))
noncomputable def mx (ws : List (Int × Row)) : Int := (ws.map sum2).foldr max 0
noncomputable def lchosen (ws : List (Int × Row)) (high : Int) : Option (Int × Row) := match ws.find? (hitB high) with
  | some q => some q
  | none => ws.find? fun q => decide (0 < mx ws) && decide (sum2 q = mx ws)
noncomputable def scanR (high : Int) (ws : List (Int × Row)) (best : Option (Int × Row)) (most : Int) : Option (Int × Row) := match ws.find? (hitB high) with
  | some q => some q
  | none => if most < mx ws then ws.find? (fun q => decide (sum2 q = mx ws)) else best
theorem mx_nn (ws : List (Int × Row)) : 0 ≤ mx ws := by
  unfold mx
  induction ws with
  | nil => exact Int.le_refl _
  | cons q ws ih => exact Int.le_trans ih (Int.le_max_right _ _)
theorem mx_cons (q : Int × Row) (ws : List (Int × Row)) : mx (q :: ws) = max (sum2 q) (mx ws) := rfl
theorem scanR_f {high : Int} {q : Int × Row} {ws : List (Int × Row)} (h : hitB high q = false) (best : Option (Int × Row)) (most : Int) : scanR high (q :: ws) best most = match ws.find? (hitB high) with
  | some q => some q
  | none => if most < max (sum2 q) (mx ws) then (q :: ws).find? (fun q' => decide (sum2 q' = max (sum2 q) (mx ws))) else best := by
  unfold scanR; rw [List.find?_cons, h]; rfl
theorem scan_eq {high : Int} : ∀ (ws : List (Int × Row)) (best : Option (Int × Row)) (most : Int), 0 ≤ most → (most = 0 ∨ most < high) → scan high ws best most = scanR high ws best most
  | [], best, most, h0, _ => (if_neg (Int.not_lt.mpr h0)).symm
  | (p, r) :: ws, best, most, h0, h1 => by
    cases hk : r.kd.isP with
    | true =>
      have hh : hitB high (p, r) = true := by
        unfold hitB; cases hk2 : r.kd with
        | pieces => rfl
        | plain => rw [hk2] at hk; cases hk
        | larger => rw [hk2] at hk; cases hk
      rw [scan_p hk]
      unfold scanR
      rw [List.find?_cons, hh]
    | false =>
      have hb : hitB high (p, r) = (decide (high ≤ r.ht + r.dp) && decide (0 < r.ht + r.dp)) := by
        unfold hitB
        cases hk2 : r.kd with
        | pieces => rw [hk2] at hk; cases hk
        | plain => rfl
        | larger => rfl
      have he : sum2 (p, r) = r.ht + r.dp := rfl
      rw [scan_fin hk]
      generalize r.ht + r.dp = a at hb he
      by_cases c1 : most < a
      · rw [if_pos c1]
        by_cases c2 : high ≤ a
        · unfold scanR
          rw [if_pos c2, List.find?_cons, hb, decide_eq_true c2, decide_eq_true (Int.lt_of_le_of_lt h0 c1)]
          rfl
        · rw [if_neg c2, scan_eq ws _ _ (Int.le_trans h0 (Int.le_of_lt c1)) (.inr (Int.not_le.mp c2)), scanR_f (by rw [hb, decide_eq_false c2]; rfl), he]
          unfold scanR
          cases ws.find? (hitB high) with
          | some q => rfl
          | none =>
            dsimp only
            by_cases c3 : a < mx ws
            · rw [if_pos c3, Int.max_eq_right (Int.le_of_lt c3), if_pos (Int.lt_trans c1 c3), List.find?_cons, he, decide_eq_false (Int.ne_of_lt c3)]
            · rw [if_neg c3, Int.max_eq_left (Int.not_lt.mp c3), if_pos c1, List.find?_cons, he, decide_eq_true rfl]
      · have h2 := Int.not_lt.mp c1
        rw [if_neg c1, scan_eq ws _ _ h0 h1, scanR_f (by
          rw [hb, Bool.and_eq_false_iff]
          exact h1.elim (fun e => .inr (decide_eq_false fun h => c1 (e ▸ h))) fun e => .inl (decide_eq_false fun h => Int.lt_irrefl _ (Int.lt_of_lt_of_le e (Int.le_trans h h2)))), he]
        unfold scanR
        cases ws.find? (hitB high) with
        | some q => rfl
        | none =>
          dsimp only
          by_cases c3 : most < mx ws
          · have h3 := Int.lt_of_le_of_lt h2 c3
            rw [if_pos c3, Int.max_eq_right (Int.le_of_lt h3), if_pos c3, List.find?_cons, he, decide_eq_false (Int.ne_of_lt h3)]
          · rw [if_neg c3, if_neg (Int.not_lt.mpr (Int.max_le.mpr ⟨h2, Int.not_lt.mp c3⟩))]
theorem scan_lchosen (high : Int) (ws : List (Int × Row)) : scan high ws none 0 = lchosen ws high := by
  rw [scan_eq ws none 0 (by decide) (.inl rfl)]
  unfold scanR lchosen
  cases ws.find? (hitB high) with
  | some q => rfl
  | none =>
    dsimp only
    by_cases c : 0 < mx ws
    · rw [if_pos c]; simp only [decide_eq_true c, Bool.true_and]
    · rw [if_neg c]; simp only [decide_eq_false c, Bool.false_and]
      exact (List.find?_eq_none.mpr (by simp)).symm
end Mine
end
theorem Mine.kbase4 : True := by
  k_with_none
  k_with "om" =>
    first
    | with_reducible assumption
    | decide +kernel
    | (with_reducible show @LE.le Int _ _ _); first
      | with_reducible exact Int.natCast_nonneg _
      | with_reducible exact Int.le_refl _
      | with_reducible exact Int.le_trans (by with_reducible assumption) (by decide +kernel)
      | with_reducible exact oi1 (by with_reducible assumption) (by decide +kernel)
      | with_reducible exact oiC (by with_reducible assumption) (by decide +kernel)
      | with_reducible exact oi4 (by with_reducible assumption) (by decide +kernel)
      | with_reducible exact oi5 (by with_reducible assumption) (by decide +kernel)
      | with_reducible exact oiM (by with_reducible assumption) (by decide +kernel)
      | with_reducible exact oiB (by with_reducible assumption) (by decide +kernel)
      | with_reducible exact oiD (by with_reducible assumption) (by decide +kernel)
      | with_reducible exact Int.mul_nonneg (by decide +kernel) (by with_reducible assumption)
      | with_reducible exact Int.le_add_of_nonneg_right (by with_reducible assumption)
      | with_reducible exact Int.le_add_of_nonneg_right (by decide +kernel)
      | with_reducible exact Int.add_nonneg (by with_reducible assumption) (by decide +kernel)
      | with_reducible exact Int.add_nonneg (by decide +kernel) (by with_reducible assumption)
      | with_reducible exact oiG (by with_reducible assumption) (by decide +kernel)
      | ((repeat with_reducible refine oiE ?_); with_reducible exact Int.le_add_of_nonneg_right (by decide +kernel))
      | with_reducible exact oaR (by with_reducible assumption) (by decide +kernel)
      | with_reducible exact oaL (by with_reducible assumption) (by decide +kernel)
    | (with_reducible show @LT.lt Int _ _ _); first
      | with_reducible exact Int.lt_of_le_of_lt (by with_reducible assumption) (by decide +kernel)
      | with_reducible exact Int.lt_of_lt_of_le (by with_reducible assumption) (by decide +kernel)
      | with_reducible exact oi2 (by with_reducible assumption) (by decide +kernel)
      | with_reducible exact oi3 (by with_reducible assumption) (by decide +kernel)
      | with_reducible exact oiF (by with_reducible assumption) (by decide +kernel)
      | with_reducible exact oaS (by with_reducible assumption) (by decide +kernel)
      | with_reducible exact oaT (by with_reducible assumption) (by decide +kernel)
      | ((repeat with_reducible refine oiS ?_); with_reducible exact oi2 (by with_reducible assumption) (by decide +kernel))
      | (with_reducible refine' Int.lt_of_lt_of_le ?h ?d; (case h => (repeat (with_reducible refine' oiA ?_)); with_reducible assumption); (case d => decide +kernel))
    | (with_reducible show @LE.le Nat _ _ _); first
      | with_reducible exact Nat.le_trans (by with_reducible assumption) (by decide +kernel)
      | with_reducible exact on1 (by with_reducible assumption) (by decide +kernel)
      | with_reducible exact on4 (by with_reducible assumption) (by decide +kernel)
      | with_reducible exact on7 (by with_reducible assumption) (by with_reducible assumption) (by decide +kernel)
      | with_reducible exact on8 (by with_reducible assumption) (by with_reducible assumption) (by decide +kernel)
      | with_reducible exact onB (by with_reducible assumption) (by decide +kernel)
    | (with_reducible show @LT.lt Nat _ _ _); first
      | with_reducible exact abB (by with_reducible assumption) (by with_reducible assumption) (by decide +kernel)
      | with_reducible exact abC (by with_reducible assumption) (by with_reducible assumption) (by decide +kernel)
      | with_reducible exact abD (by with_reducible assumption) (by with_reducible assumption) (by decide +kernel)
      | with_reducible exact Nat.lt_of_le_of_lt (by with_reducible assumption) (by decide +kernel)
      | with_reducible exact Nat.lt_of_lt_of_le (by with_reducible assumption) (by decide +kernel)
      | with_reducible exact on2 (by with_reducible assumption) (by decide +kernel)
      | with_reducible exact Nat.lt_add_one _
      | ((with_reducible show Int.toNat (_ - _) + 1 < Int.toNat (_ - _) + 1); exact tnD (by omega) (by omega))
      | ((repeat with_reducible refine onS ?_); with_reducible exact on2 (by with_reducible assumption) (by decide +kernel))
    | ((with_reducible show ¬ (decide (_ ≤ _) && decide (_ ≤ _)) = !true); refine bndN ?_ ?_ <;> omega)
    | ((with_reducible show ¬ ((_ : Int) < _)); refine Int.not_lt.mpr ?_; omega)
    | ((with_reducible show ¬ ((_ : Int) ≤ _)); refine Int.not_le.mpr ?_; omega)
    | ((with_reducible show And _ _); refine And.intro ?_ ?_ <;> omega)
    | lia
  k_with "ne" =>
    (try dsimp only); first | with_reducible assumption | (refine Ne.symm ?_; with_reducible assumption) | exact Nat.ne_of_lt (by with_reducible assumption) | exact Nat.ne_of_gt (by with_reducible assumption) | (refine pkH (by with_reducible assumption) ?_; (repeat (first | exact And.left | exact id | refine pkT ?_)); done) | (refine pkS (by with_reducible assumption) ?_; (repeat (first | exact And.left | exact id | refine pkT ?_)); done) | exact nl1 (by with_reducible assumption) | exact nl2 (by with_reducible assumption) | exact Ne.symm (nl1 (by with_reducible assumption)) | exact Ne.symm (nl2 (by with_reducible assumption))
  k_with "execs cons" => (first | k_gentoks | ((first | (with_reducible show wpAny _ _ (execs [_] _) (KQ _) _ _) | (with_reducible show wpAny _ _ (execs [_] _) (KG _) _ _)); refine' execs1 ?_) | (refine' execsH ?_; first | ((fail_if_success (have := kn1)); intro kq1 kn1 ko1) | ((fail_if_success (have := kn2)); intro kq2 kn2 ko2) | ((fail_if_success (have := kn3)); intro kq3 kn3 ko3)))
  k_with "exs" => (first | k_gentoks | ((first | (with_reducible show wpAny _ _ (execs [_] _) (KQ _) _ _) | (with_reducible show wpAny _ _ (execs [_] _) (KG _) _ _)); refine' execs1 ?_) | (refine' execsN ?_; first | ((fail_if_success (have := kn1)); intro kq1 kn1) | ((fail_if_success (have := kn2)); intro kq2 kn2) | ((fail_if_success (have := kn3)); intro kq3 kn3)))
  k_with "execs cons Assign" => k_extra "exs"
  k_with "execs cons AugAssign" => k_extra "exs"
  k_with "execs cons Expr" => k_extra "exs"
  k_with "KG" => (first | (refine' kn3 _ ?_; (try clear ko3); clear kn3 kq3) | (refine' kn2 _ ?_; (try clear ko2); clear kn2 kq2) | (refine' kn1 _ ?_; (try clear ko1); clear kn1 kq1) | (refine' ko3 _ _ rfl ?_; clear ko3 kn3 kq3) | (refine' ko2 _ _ rfl ?_; clear ko2 kn2 kq2) | (refine' ko1 _ _ rfl ?_; clear ko1 kn1 kq1)); (try dsimp only)
  k_with "KQ" => (first | ((rename (∀ a s, _ → KQ _ a s) => kz); refine' kz _ _ ?_) | ((rename (∀ (_ : Unit) s, _ → KQ _ () s) => kz); refine' kz () _ ?_)); clear kz; (try clear kyb); try dsimp only
  k_with "isT" => (goal_has PySem.execs; (fail_if_success (with_reducible show wpAny _ _ _ (KQ _) _ _)); refine' hideQ ?_; intro kyb kyh)
  k_with "isTrue Compare" => k_extra "isT"
  k_with "isTrue BoolOp" => k_extra "isT"
  k_with "isTrue UnaryOp" => k_extra "isT"
  k_with "exec While BoolOp" => (refine' stop_here ?_)
  k_with "exec For Tuple Tuple cons nil" => (refine' stop_here ?_)
  k_with "exec For Name Name cons nil" => (refine' stop_here ?_)
  k_with "exec For Name Attribute cons nil" => (refine' stop_here ?_)
  k_with "last exec For Name" => (refine' stop_here ?_)
  k_with "last exec For" => (refine' stop_here ?_)
  k_with "exec While" => (refine' stop_here ?_)
  k_with "last exec While" => (refine' stop_here ?_)
  k_with "exec For" => (refine' stop_here ?_)
  k_with "last exec For Name Name" => (refine' stop_here ?_)
  k_with "exec For Name Call cons nil" => (refine' stop_here ?_)
  k_with "exec For Name Tuple cons nil" => (refine' stop_here ?_)
  k_with "exec For Tuple Name cons nil" => (refine' stop_here ?_)
  k_with "exec While Compare" => (refine' stop_here ?_)
  k_with "exec For Tuple Call cons nil" => (refine' stop_here ?_)
  trivial
local macro_rules | `(tactic| k_all) => `(tactic| exact Mine.ApD.ne (by assumption) (by simp))
section
set_option maxHeartbeats 1000000
namespace Mine
section
variable {w : World} {A : Around} {s : Shared} {E : Value → Shared → Prop} {Q : Value → Shared → Prop} {mg mb : Str → Option Value}
theorem ksetLf1 : True := by
  k_with "p world" => (first | exact Rm.le Rm.an (by decide) | k_in | exact trKeep (by k_asm) (by k_asm))
  k_with "p after" => (intro _ _ kS; (rename Fr _ _ _ _ => kF); (rename News _ _ _ _ => kN); (have _ := frAfter kF kS); (have _ := newsAfter kN kS); (try k_sweep); intros)
  k_with "TurnP" => (dsimp only [TurnP])
  k_with "WStep" => (dsimp only [WStep])
  k_with "call type:enumerate" => (refine' stop_here ?_)
  k_with "TurnPs" => (dsimp only [TurnPs])
  k_with "call ref" => ((with_reducible show wpAny _ _ (call (Value.ref 485) _ _) _ _ _); (refine' take_fr (mg := mg) (mb := mb) ?kR ?kX ?kT ?kF ?kN ?u1 ?u2 ?kJ ?ne ?kb ?m0 ?m1 ?_); (case kF => k_asm); (case kN => k_asm); (case kX => k_asm); (case kT => k_asm); (case kR => exact Rm.le Rm.an (by decide)); (case kJ => k_asm); (case u1 => k_updF); (case u2 => (intro _; k_updF)); (case ne => k_asm); (case kb => omega); (case m0 => omega); (case m1 => omega); intro _ _ _ _ _ _ _ _ _ F' N'; (try dsimp only at N'); (try k_sweep))
  k_with "binaryOp Add ref ref" => (k_dflt (refine' kde_addT ?k1 ?k2 ?k3 ?k4 ?k5 ?k6 ?k7 ?k8 ?_; (case k1 => k_asm); (case k2 => k_asm); (case k3 => first | exact News.isTup (by k_asm) (by k_mem) | exact Fr.tup (by k_asm) (by k_asm)); (case k4 => first | exact News.isTup (by k_asm) (by k_mem) | exact Fr.tup (by k_asm) (by k_asm)); (case k5 => exact List.cons_ne_nil _ _); (case k6 => exact List.cons_ne_nil _ _); (case k7 => exact Nat.le_of_ble_eq_true rfl); (case k8 => kl_lit); k_whole); intro D' h' F' N' l1; (try k_lt l1); (try k_sweep))
  k_with "subscriptTail Name Slice ref ref" => ((with_reducible show wpAny _ _ (subscriptTail _ (PySem.Expr.Slice _ (some _) none _) (Value.ref _) (Value.ref _)) _ _ _); k_dflt (refine' slice_tuple_run ?F ?N ?lo ?t ?e ?a ?b ?n ?z ?_ ?ss ?g ?zz; (case F => k_asm); (case N => k_asm); (case t => first | exact News.isTup (by k_asm) (by k_mem) | exact Fr.tup (by k_asm) (by k_asm) | k_asm); (case lo => first | exact LoV.none | exact LoV.int 1 _); (case e => first | exact (rfl : (4 : Int) = ((4 : Nat) : Int)) | exact (rfl : (5 : Int) = ((5 : Nat) : Int)) | exact (rfl : (7 : Int) = ((7 : Nat) : Int)) | exact (rfl : (2 : Int) = ((2 : Nat) : Int))); (case a => rfl); (case b => rfl); (case n => rfl); (case z => first | kl_lit | with_unfolding_all rfl); (case ss => with_unfolding_all rfl); (case g => kmk_pure); (case zz => first | exact Nat.le_of_ble_eq_true rfl | kmk_size)); intro D' h' F' N' l1; (try k_lt l1); (try k_sweep))
  k_with "subscriptTail" => ((with_reducible show wpAny _ _ (subscriptTail _ (PySem.Expr.Slice _ (some _) none _) (Value.ref _) (Value.ref _)) _ _ _); k_dflt (refine' slice_tuple_run ?F ?N ?lo ?t ?e ?a ?b ?n ?z ?_ ?ss ?g ?zz; (case F => k_asm); (case N => k_asm); (case t => first | exact News.isTup (by k_asm) (by k_mem) | exact Fr.tup (by k_asm) (by k_asm) | k_asm); (case lo => first | exact LoV.none | exact LoV.int 1 _); (case e => first | exact (rfl : (4 : Int) = ((4 : Nat) : Int)) | exact (rfl : (5 : Int) = ((5 : Nat) : Int)) | exact (rfl : (7 : Int) = ((7 : Nat) : Int)) | exact (rfl : (2 : Int) = ((2 : Nat) : Int))); (case a => rfl); (case b => rfl); (case n => rfl); (case z => first | kl_lit | with_unfolding_all rfl); (case ss => with_unfolding_all rfl); (case g => kmk_pure); (case zz => first | exact Nat.le_of_ble_eq_true rfl | kmk_size)); intro D' h' F' N' l1; (try k_lt l1); (try k_sweep))
  k_with "exec Assign cons ListComp" => (refine' stop_here ?_)
  k_with "eval ListComp" => (refine' stop_here ?_)
  k_with "binaryOp Add ref ref" => (refine' stop_here ?_)
  k_with "binaryOp Add ref ref" => (k_dflt (refine' ladd2 ?F ?N ?a ?b ?z ?_; (case F => k_asm); (case N => k_asm); (case a => exact News.isList (by k_asm) (by k_mem)); (case b => exact News.isList (by k_asm) (by k_mem)); (case z => (simp only [List.length_append, List.length_cons, List.length_nil]; omega))); intro S hS kS F9 N9 lS; (try k_lt lS); (try k_sweep))
  k_with "setItem ref int" => (refine' stop_here ?_)
  k_with "call ref" => ((with_reducible show wpAny _ _ (call (Value.ref 492) _ _) _ _ _); refine' stop_here ?_)
  k_with "exec If" => ((fail_if_success (rename Going => kz)); refine' stop_here ?_)
  trivial
theorem Off3.app {I C D : Addr} {a b : List (Addr × Obj)} (x : ∀ p ∈ a, p.1 ≠ I ∧ p.1 ≠ C ∧ p.1 ≠ D) (y : ∀ p ∈ b, p.1 ≠ I ∧ p.1 ≠ C ∧ p.1 ≠ D) : LCg.Off3 I C D (a ++ b) := LCg.Off3.of fun p hp => by
  rcases List.mem_append.mp hp with q | q
  · exact x p q
  · exact y p q
noncomputable def P0 (c : Int) : Row := ⟨c, 90 + c, 3 * c, c.fmod 4, 1, .plain⟩
inductive JP (h₀ g : Heap) (l : List Addr) (N0 : List (Addr × Obj)) (i : Nat) (ys : List Value) (news : List (Addr × Obj)) : Prop
  | mk (g' : _)(D : _) (h0 : news = N0 ++ D) (h1 : ApD D l) (h2 : Gh h₀ g' D) (h3 : g.StaysIn g') (h4 : (∀ b o, g'.get? b = some o → g.get? b = some o ∨ h₀.get? b = none)) (h5 : All2 (RowV g') ys ((([7, 8, 9] : List Int).take i).map P0)) : JP h₀ g l N0 i ys news
structure FrontOk (fr : List Row) : Prop where
  all : ∀ r ∈ fr, RowB r.code r ∧ 1 ≤ r.code ∧ r.code ≤ 6
  up : fr.Pairwise fun a b => a.code < b.code
  six : ∃ r ∈ fr, r.code = 6
structure PcOk (pc : List Row) : Prop where
  eq : ∃ x y, pc = [P0 7, P0 8, P0 9, ⟨10, 95, 12 + x, y, 2, .plain⟩] ∧ 0 ≤ x ∧ x < 9 ∧ 0 ≤ y ∧ y < 3
structure FontsOk (pre : List Int) (done : List (Int × List Row)) (pc : List Row) : Prop where
  nd : (done.map (·.1)).Nodup
  sub : ∀ k ∈ done.map (·.1), k ∈ pre
  six : ∀ k ∈ pre, 6 ≤ k → k ∈ done.map (·.1)
  all : ∀ f ∈ done, ∃ fr, f.2 = fr ++ pc ∧ FrontOk fr
  len : done.length ≤ pre.length
inductive JF (w : World) (h₀ g : Heap) (L j c dc pl tt : Addr) (ot : Obj) (b : Int) (pc : List Row) (rest : List Value) (m : Str → Option Value) (news : List (Addr × Obj)) : Prop
  | mk (pre : _)(ps : _)(done : _)(kvs : _)(od : _)(oj : _)(oc : _)(o1 : _)(o2 : _)(D : _)(g' : _)(pys : _)(pk : _) (h0 : ([3, 4, 5, 6, 7, 8, 9, 10, 11] : List Int) = pre ++ ps) (h1 : IntsAre rest ps) (h2 : news = (dc, od) :: (L + 1 + 1, o1) :: (L + 1, o2) :: (j, oj) :: (c, oc) :: D) (h3 : (∃ ov, o1.data = .cell ov)) (h4 : o2.data = .cell (some (.ref j))) (h5 : JarO (b + 50 * pre.length) c oj oc) (h6 : od.IsDictOf (intKind p0 w) kvs) (h7 : All2 (fun (kv : Int × Value) (f : Int × List Row) => kv.1 = f.1 ∧ RowsV g' kv.2 f.2) kvs done) (h8 : ApD D [dc, L + 1 + 1, L + 1, j, c]) (h9 : Gh h₀ g' D) (h10 : g.StaysIn g') (h11 : (∀ b o, g'.get? b = some o → g.get? b = some o ∨ h₀.get? b = none)) (h12 : g'.get? tt = some ot) (h13 : g'.get? pl = some (listOf (List.toArray pys) pk)) (h14 : All2 (RowV g') pys pc) (h15 : FontsOk pre done pc) (h16 : Has m [("found", .ref dc), ("pieces", .ref pl)]) : JF w h₀ g L j c dc pl tt ot b pc rest m news
noncomputable def SixP (i : Nat) (rs : List Row) : Prop := 6 ≤ i → ∃ r ∈ rs, r.code = 6
inductive JRf2 (h₀ g g0 : Heap) (j c : Addr) (b : Int) (l : List Addr) (N0 : List (Addr × Obj)) (i : Nat) (ys : List Value) (news : List (Addr × Obj)) : Prop
  | mk (oj : _)(oc : _)(g' : _)(D : _)(rs : _) (h0 : news = (j, oj) :: (c, oc) :: (N0 ++ D)) (h1 : JarO (b + 8 * i) c oj oc) (h2 : ApD D l) (h3 : Gh h₀ g' D) (h4 : g.StaysIn g') (h5 : (∀ b o, g'.get? b = some o → g.get? b = some o ∨ h₀.get? b = none)) (h6 : g0.StaysIn g') (h7 : All2 (RowV g') ys rs) (h8 : (∀ r ∈ rs, RowB r.code r ∧ 1 ≤ r.code ∧ r.code ≤ i)) (h9 : rs.Pairwise (fun a b => a.code < b.code)) (h10 : SixP i rs) : JRf2 h₀ g g0 j c b l N0 i ys news
theorem all2_keys {g : Heap} {kvs : List (Int × Value)} {fs : List (Int × List Row)} (x : All2 (fun (kv : Int × Value) (f : Int × List Row) => kv.1 = f.1 ∧ RowsV g kv.2 f.2) kvs fs) : kvs.map (·.1) = fs.map (·.1) := by
  induction x with
  | nil => rfl
  | cons q _ ih => simp [q.1, ih]
theorem six_get {i : Nat} {c : Int} (h : ([1, 2, 3, 4, 5, 6] : List Int)[i]? = some c) : c = i + 1 ∧ i < 6 := by
  match i, h with
  | 0, h => simp at h; omega
  | 1, h => simp at h; omega
  | 2, h => simp at h; omega
  | 3, h => simp at h; omega
  | 4, h => simp at h; omega
  | 5, h => simp at h; omega
  | n + 6, h => simp at h
theorem fonts_none {pre ps : List Int} {p9 : Int} (hps : ([3, 4, 5, 6, 7, 8, 9, 10, 11] : List Int) = pre ++ p9 :: ps) (q1 : p9 ∈ pre) : False := by
  have hnd : ([3, 4, 5, 6, 7, 8, 9, 10, 11] : List Int).Nodup := by decide
  rw [hps] at hnd
  exact (List.nodup_append.mp hnd).2.2 _ q1 _ (.head _) rfl
theorem FontsOk.skip {pre : List Int} {p9 : Int} {done : List (Int × List Row)} {pc : List Row} (hF : FontsOk pre done pc) (hlt : p9 < 6) : FontsOk (pre ++ [p9]) done pc := ⟨hF.nd, fun k hk => List.mem_append_left _ (hF.sub k hk), fun k hk h6 => by
    rcases List.mem_append.mp hk with hk | hk
    · exact hF.six k hk h6
    · simp at hk; omega, hF.all, by rw [List.length_append]; have := hF.len; omega⟩
theorem FontsOk.snoc {pre ps : List Int} {p9 : Int} {done : List (Int × List Row)} {pc rs : List Row} (hps : ([3, 4, 5, 6, 7, 8, 9, 10, 11] : List Int) = pre ++ p9 :: ps) (hF : FontsOk pre done pc) (hrs : ∀ r ∈ rs, RowB r.code r ∧ 1 ≤ r.code ∧ r.code ≤ (6 : Nat)) (hup : rs.Pairwise (fun a b => a.code < b.code)) (hsix : SixP 6 rs) : FontsOk (pre ++ [p9]) (done ++ [(p9, rs ++ pc)]) pc := by
  refine ⟨?_, ?_, ?_, ?_, ?_⟩
  · rw [List.map_append, List.nodup_append]
    refine ⟨hF.nd, by simp, fun a ha b hb => ?_⟩
    obtain rfl : b = p9 := by simpa using hb
    intro q
    subst q
    exact fonts_none hps (hF.sub _ ha)
  · intro k hk
    rw [List.map_append] at hk
    rcases List.mem_append.mp hk with hk | hk
    · exact List.mem_append_left _ (hF.sub k hk)
    · exact List.mem_append_right _ (by simpa using hk)
  · intro k hk h6
    rw [List.map_append]
    rcases List.mem_append.mp hk with hk | hk
    · exact List.mem_append_left _ (hF.six k hk h6)
    · exact List.mem_append_right _ (by simpa using hk)
  · intro f hf
    rcases List.mem_append.mp hf with hf | hf
    · exact hF.all f hf
    · obtain rfl : f = (p9, rs ++ pc) := by simpa using hf
      exact ⟨rs, rfl, ⟨hrs, hup, hsix (by simp)⟩⟩
  · have := hF.len; simp; omega
theorem rows_more {i : Nat} {rs : List Row} (hrs : ∀ r ∈ rs, RowB r.code r ∧ 1 ≤ r.code ∧ r.code ≤ (i : Int)) : ∀ r ∈ rs, RowB r.code r ∧ 1 ≤ r.code ∧ r.code ≤ ((i + 1 : Nat) : Int) := fun r hr => by
  have := hrs r hr; exact ⟨this.1, this.2.1, by omega⟩
theorem rows_snoc {i : Nat} {rs : List Row} {r : Row} (hr : RowB ((i : Int) + 1) r) (hrs : ∀ r ∈ rs, RowB r.code r ∧ 1 ≤ r.code ∧ r.code ≤ (i : Int)) : ∀ r' ∈ rs ++ [r], RowB r'.code r' ∧ 1 ≤ r'.code ∧ r'.code ≤ ((i + 1 : Nat) : Int) := fun r' hr' => by
  rcases List.mem_append.mp hr' with hr' | hr'
  · exact rows_more hrs r' hr'
  · obtain rfl : r' = r := by simpa using hr'
    have e := hr.code
    refine ⟨by rw [e]; exact hr, by omega, by rw [e]; simp⟩
theorem rows_up {i : Nat} {rs : List Row} {r : Row} (hr : RowB ((i : Int) + 1) r) (hrs : ∀ r ∈ rs, RowB r.code r ∧ 1 ≤ r.code ∧ r.code ≤ (i : Int)) (hup : rs.Pairwise (fun a b => a.code < b.code)) : (rs ++ [r]).Pairwise (fun a b => a.code < b.code) := by
  rw [List.pairwise_append]
  refine ⟨hup, by simp, fun a ha b hb => ?_⟩
  obtain rfl : b = r := by simpa using hb
  have := (hrs a ha).2.2; have := hr.code
  omega
theorem rows_six {i : Nat} {rs : List Row} {r : Row} (hr : RowB ((i : Int) + 1) r) (hi6 : i < 6) : SixP (i + 1) (rs ++ [r]) := fun h6 => by
  refine ⟨r, by simp, ?_⟩
  have := hr.code
  omega
theorem nine_bd {pre ps : List Int} {p9 : Int} (hps : ([3, 4, 5, 6, 7, 8, 9, 10, 11] : List Int) = pre ++ p9 :: ps) : 3 ≤ p9 ∧ p9 ≤ 11 := by
  have hm : p9 ∈ ([3, 4, 5, 6, 7, 8, 9, 10, 11] : List Int) := by rw [hps]; simp
  have hd : ∀ z ∈ ([3, 4, 5, 6, 7, 8, 9, 10, 11] : List Int), 3 ≤ z ∧ z ≤ 11 := by decide
  exact hd _ hm
theorem ApD.of5 {D : List (Addr × Obj)} {x y a b c d e : Addr} (h : ApD D [x, y, a, b, c, d, e]) : ApD D [a, b, c, d, e] := fun p hp z hz => h p hp z (.tail _ (.tail _ hz))
theorem ApD.push {D : List (Addr × Obj)} {l : List Addr} {a : Addr} (h1 : ∀ p ∈ D, p.1 ≠ a) (h : ApD D l) : ApD D (a :: l) := fun p hp => allC (h1 p hp) (h p hp)
theorem law_fonts_spec {h₀ : Heap} (R : Rm 6 A) (X : (KF w.params).In h₀) (T : TR mg mb h₀) (hk : h₀.StaysIn s.heap) {g : Heap} (hg : g.StaysIn s.heap) {j c : Addr} {oj oc : Obj} {b : Int} (hj : s.heap.get? j = some oj) (hc : s.heap.get? c = some oc) (hj0 : h₀.get? j = none) (hc0 : h₀.get? c = none) (hgj : g.get? j = none) (hgc : g.get? c = none)
   (hJ : JarO b c oj oc) (hjc : @Ne Nat j c) (hb : b < 40000)
   (h : ∀ h' tk g' dc kvs fonts pc, (∀ b o, b ≠ j → b ≠ c → s.heap.get? b = some o → h'.get? b = some o) → Gx g s.heap h' g' → g'.DictOf (intKind p0 w) dc kvs → (dc == sysModules) = false → All2 (fun (kv : Int × Value) (f : Int × List Row) => kv.1 = f.1 ∧ RowsV g' kv.2 f.2) kvs fonts → FontsOk [3, 4, 5, 6, 7, 8, 9, 10, 11] fonts pc → PcOk pc → Q (.ref dc) {s with heap := h', toks := tk}) :
   wpAny (model p0 w) A (call (.ref 497) [.ref j]) Q E s := by
  refine callC (binds := [("jar", .ref j)]) (news := [(j, oj), (c, oc)]) R X T hk (by intro p hp; simp only [List.mem_cons, List.not_mem_nil, or_false] at hp; rcases hp with rfl | rfl; exact ⟨hj, hj0⟩; exact ⟨hc, hc0⟩)
    rfl (by k_is) (BindsTo.of_eq (by kernel_rfl)) (by kernel_rfl) (by decide) rfl rfl rfl (fun L h₁ h₂ tk cells F N Y X₂ T₂ hb2 hb3 hL hcl => ?_)
  have hY := CellsAre.two Y; obtain ⟨o1, o2, rfl, d1, d2⟩ := hY; clear Y
  simp only [List.cons_append, List.nil_append] at N
  have fr : ∀ a, h₂.get? a = none → a ≠ j → a ≠ c → s.heap.get? a = none := fun a e a1 a2 => by
    cases q : s.heap.get? a with
    | none => rfl
    | some o => rw [hb2 a o (two_ne a1 a2) q] at e; cases e
  have hLj : @LT.lt Nat _ j L := hL (j, oj) (by simp)
  have hLc : @LT.lt Nat _ c L := hL (c, oc) (by simp)
  clear X T hk
  repeat' (first | walk1 | (dsimp only; walk1))
  have hg2 : g.StaysIn h₂ := fun b o e => hb2 b o (two_ne (fun q => by rw [q, hgj] at e; cases e) (fun q => by rw [q, hgc] at e; cases e)) (hg b o e)
  rename Fr _ _ _ _ => F8; rename News _ _ _ _ => N8
  rename_i dc hp8 od lo hds fs8 hdi fi8 l18 hh8
  refine ⟨LComp_go F8 (by with_unfolding_all rfl) (by decide) (by rfl) (by decide) ?_⟩
  repeat' (first | walk1 | (dsimp only; walk1))
  rename Fr _ _ _ _ => F7; rename News _ _ _ _ => N7
  refine cgo_tup (JP h₂ g [dc, L + 1 + 1, L + 1, j, c] _) _ (its := [.int 7 _, .int 8 _, .int 9 _]) (fun h e => ⟨_, e, rfl, _, rfl⟩) (by simp) F7 N7 (.inr (by k_mem)) ⟨g, [], (List.append_nil _).symm, ApD.nil, ⟨fun b o e => .inl (hg2 b o e)⟩, fun _ _ e => e, fun b o e => .inl e, .nil⟩ (fun g9 => casg_name (by rfl) (by rfl)) ?_ ?_
  · rintro g9 i v ys news I oI C oC D9 m₂ h9 tk9 E' kK2 kK hK2 hK hi hv ⟨g', D', rfl, hAp, hG, hgg, hfr, hall⟩ hC hx9 F N off ne
    clear F7 N7
    simp only [List.cons_append, List.nil_append] at N
    refine wpAny_tests_nil ?_
    simp only [if_true]
    obtain ⟨ci, ti, rfl, hci⟩ := intsAre_get (.cons _ _ (.cons _ _ (.cons _ _ .nil))) hv
    repeat' (first | walk1 | (dsimp only; walk1))
    rename Fr _ _ _ _ => F9; rename News _ _ _ _ => N9
    refine turn_one F9 N9 off (by k_ne) (by k_ne) (by k_ne) hG (fun _ => .inr (by k_mem)) (fun g2 hG2 k2 hT c2 hT0 => ?_)
    obtain ⟨q1, q2⟩ := Gh.step hgg hfr k2 c2 hT0
    refine ⟨g2, _, rfl, hAp.cons (all5 (by k_ne) (by k_ne) (by k_ne) (by k_ne) (by k_ne)), hG2, q1, q2, ?_⟩
    rw [take_one hci, List.map_append]
    exact (hall.imp fun _ _ q => q.keeps k2).append (.cons (RowV.mk0 ⟨_, hT, rfl, _, rfl⟩) .nil)
  · rintro g9 ys news ⟨g', D', rfl, hAp, hG, hgg, hfr, hall⟩ hyl D9 h9 tk9 F N off
    simp only [List.cons_append, List.nil_append] at N
    replace hall : All2 (RowV g') ys [P0 7, P0 8, P0 9] := hall
    simp only [LCg.Off1, List.cons_append, List.nil_append] at off
    replace hyl : ys.length ≤ 3 := hyl
    clear F7 N7
    repeat' (first | walk1 | (dsimp only; walk1))
    rename Fr _ _ _ _ => F8; rename News _ _ _ _ => N8
    rename_i da tda hda tkda oja oca a1 a2 Ja db tdb hdb tkdb ojb ocb b1 b2 Jb T hT1 lT l5 h5 ll5 hl9
    have ND : News h₂ L hl9 D' := fun p hp => N8 p (by simp [hp])
    obtain ⟨g3, hG3, k3, hT3, c3⟩ := hG.add F8 (newsMk N8 (p := (T, _)) (.tail _ (.tail _ (.head _))) ND)
    have hT0 : h₂.get? T = none := (N8 (T, _) (.tail _ (.tail _ (.head _)))).2.2
    obtain ⟨q1, q2⟩ := Gh.step hgg hfr k3 c3 hT0
    obtain ⟨g4, hG4, k4, hS4, c4⟩ := hG3.add F8 (newsMk N8 (p := (S, _)) (.head _) (newsMk N8 (p := (T, _)) (.tail _ (.tail _ (.head _))) ND))
    have hS0 : h₂.get? S = none := (N8 (S, _) (.head _)).2.2
    obtain ⟨q3, q4⟩ := Gh.step q1 q2 k4 c4 hS0
    have hpc : All2 (RowV g4) (ys ++ [Value.ref T]) ([P0 7, P0 8, P0 9] ++ [⟨10, 95, 12 + da, db, 2, .plain⟩]) := (hall.imp fun _ _ q => (q.keeps k3).keeps k4).append (.cons (RowV.mk0 ⟨_, k4 _ _ hT3, rfl, _, rfl⟩) .nil)
    have hPc : PcOk ([P0 7, P0 8, P0 9] ++ [⟨10, 95, 12 + da, db, 2, .plain⟩]) := ⟨da, db, rfl, a1, a2, b1, b2⟩
    have hAp4 := ApD.cons (T := S) (o := W.listOf (ys ++ [Value.ref T]).toArray kS) (ApD.cons (T := T) (o := tupO [.int 10 tk9, .int 95 (tk9 + 1), .int (12 + da) tkda, .int db tdb, .int 2 tkdb]) hAp (all5 (by k_ne) (by k_ne) (by k_ne) (by k_ne) (by k_ne))) (all5 (by k_ne) (by k_ne) (by k_ne) (by k_ne) (by k_ne))
    generalize [P0 7, P0 8, P0 9] ++ [(⟨10, 95, 12 + da, db, 2, .plain⟩ : Row)] = pc at hpc hPc
    refine For_st F8 ?_
    repeat' (first | walk1 | (dsimp only; walk1))
    rename Fr _ _ _ _ => F9; rename News _ _ _ _ => N9
    rename_i hh9 hk9 nm9
    have N8' : News h₂ L hh9 _ := fun p hp => ⟨hk9 _ _ (N8 p hp).1, (N8 p hp).2⟩
    dsimp only at N9 ⊢
    clear hk9
    have e0 : @LT.lt Nat _ dc hl9.objs.size := Heap.lt_size (N8 (dc, od) (by k_mem)).1
    have e1 : @LT.lt Nat _ (L + 1 + 1) hl9.objs.size := Heap.lt_size (N8 (L + 1 + 1, o1) (by k_mem)).1
    have e2 : @LT.lt Nat _ (L + 1) hl9.objs.size := Heap.lt_size (N8 (L + 1, o2) (by k_mem)).1
    have e3 : @LT.lt Nat _ j hl9.objs.size := Heap.lt_size (N8 (j, ojb) (by k_mem)).1
    have e4 : @LT.lt Nat _ c hl9.objs.size := Heap.lt_size (N8 (c, ocb) (by k_mem)).1
    generalize hl9.objs.size = TT at N9 e0 e1 e2 e3 e4 ⊢
    have hTT0 : h₂.get? TT = none := (N9 (TT, _) (.head _)).2.2
    obtain ⟨g5, hG5, k5, hTT5, c5⟩ := hG4.add F9 (newsMk N9 (p := (TT, _)) (.head _) (newsMk N8' (p := (S, _)) (.head _) (newsMk N8' (p := (T, _)) (.tail _ (.tail _ (.head _))) (fun p hp => N9 p (.tail _ hp)))))
    obtain ⟨q5, q6⟩ := Gh.step q3 q4 k5 c5 hTT0
    have hAp5 := ApD.cons (T := TT) (o := tupO [.int 3 tk, .int 4 (tk + 1), .int 5 (tk + 1 + 1), .int 6 (tk + 1 + 1 + 1), .int 7 (tk + 1 + 1 + 1 + 1), .int 8 (tk + 1 + 1 + 1 + 1 + 1), .int 9 (tk + 1 + 1 + 1 + 1 + 1 + 1), .int 10 (tk + 1 + 1 + 1 + 1 + 1 + 1 + 1), .int 11 (tk + 1 + 1 + 1 + 1 + 1 + 1 + 1 + 1)]) hAp4 (all5 (by k_ne) (by k_ne) (by k_ne) (by k_ne) (by k_ne))
    obtain ⟨oT, hoT⟩ : ∃ o, o = tupO [.int 3 tk, .int 4 (tk + 1), .int 5 (tk + 1 + 1), .int 6 (tk + 1 + 1 + 1), .int 7 (tk + 1 + 1 + 1 + 1), .int 8 (tk + 1 + 1 + 1 + 1 + 1), .int 9 (tk + 1 + 1 + 1 + 1 + 1 + 1), .int 10 (tk + 1 + 1 + 1 + 1 + 1 + 1 + 1), .int 11 (tk + 1 + 1 + 1 + 1 + 1 + 1 + 1 + 1)] := ⟨_, rfl⟩
    replace hTT5 : g5.get? TT = some oT := by rw [hoT]; exact hTT5
    refine ⟨turns_tup (items := [.int 3 tk, .int 4 (tk + 1), .int 5 (tk + 1 + 1), .int 6 (tk + 1 + 1 + 1), .int 7 (tk + 1 + 1 + 1 + 1), .int 8 (tk + 1 + 1 + 1 + 1 + 1), .int 9 (tk + 1 + 1 + 1 + 1 + 1 + 1), .int 10 (tk + 1 + 1 + 1 + 1 + 1 + 1 + 1), .int 11 (tk + 1 + 1 + 1 + 1 + 1 + 1 + 1 + 1)]) (oax := oT) (JF w h₂ g L j c dc S TT oT (b + 2) pc) rfl (fun h e => by rw [hoT] at e; exact ⟨_, e, rfl, _, rfl⟩) (fun q => (N9 _ (.head _)).2.1 q.symm) ?ax F9 (newsMk N8' (p := (dc, od)) (by k_mem) (newsMk N8' (p := (L + 1 + 1, o1)) (by k_mem) (newsMk N8' (p := (L + 1, o2)) (by k_mem) (newsMk N8' (p := (j, ojb)) (by k_mem) (newsMk N8' (p := (c, ocb)) (by k_mem) (newsMk N9 (p := (TT, _)) (.head _) (newsMk N8' (p := (S, _)) (.head _) (newsMk N8' (p := (T, _)) (.tail _ (.tail _ (.head _))) (fun p hp => N9 p (.tail _ hp)))))))))) ?st ?turn ?done⟩
    case st =>
      exact ⟨[], _, [], _, _, _, _, _, _, _, g5, _, _, rfl, .cons _ _ (.cons _ _ (.cons _ _ (.cons _ _ (.cons _ _ (.cons _ _ (.cons _ _ (.cons _ _ (.cons _ _ .nil)))))))), rfl, ⟨_, d1⟩, d2, Jb.le (by simp; omega), hdi, .nil, hAp5, hG5, q5, q6, hTT5, k5 _ _ hS4, hpc.imp (fun _ _ q => q.keeps k5), ⟨by simp, by simp, by simp, by simp, by simp⟩, rfl, rfl, trivial⟩
    case ax =>
      rintro rest m' news' h' ⟨pre, ps, done, kvs, od, oj, oc, o1, o2, D, g', pys, pk, hps, hi, rfl, ⟨ov, d1⟩, d2, J, hdo, hch, hAp, hG, hgg, hfr, htt, hpl, hpa, hF, H⟩ F N
      exact hG.stays F (fun p hp => N p (by simp [hp])) _ _ htt
    case done =>
      rintro h' tk m' news' F N ⟨pre, ps, done, kvs, od, oj, oc, o1, o2, D, g', pys, pk, hps, hi, rfl, ⟨ov, d1⟩, d2, J, hdo, hch, hAp, hG, hgg, hfr, htt, hpl, hpa, hF, H⟩
      cases hi
      rw [List.append_nil] at hps
      subst hps
      replace F := frOf F H
      have hst : g'.StaysIn h' := hG.stays F (fun p hp => N p (by simp [hp]))
      have kb9 : ∀ b o, b ≠ j → b ≠ c → s.heap.get? b = some o → h'.get? b = some o := fun b o b1 b2 e => F.keep b o (hb2 b o (two_ne b1 b2) e)
      have G9 := Gx.ext2 hg (fun b o e => kb9 b o (fun q => by rw [q, hgj] at e; cases e) (fun q => by rw [q, hgc] at e; cases e) (hg b o e))
      have hsub : g'.StaysIn (ext g s.heap h') := fun b o e => sub_get (hst b o e) (by
        rcases hfr b o e with q | q
        · simp [q]
        · have hbD : (b, o) ∈ D := by
            rcases hG.d b o e with r | r
            · rw [q] at r; cases r
            · exact r
          simp [fr b q (hAp _ hbD j (by simp)) (hAp _ hbD c (by simp))])
      have hdc := N (dc, od) (.head _)
      have hdc9 : (ext g s.heap h').get? dc = some od := ext_get hdc.1 (fr dc hdc.2.2 (by k_ne) (by k_ne))
      have fin := h h' tk _ dc kvs done pc kb9 G9 (Heap.dictOf_iff.mpr ⟨od, hdc9, hdo⟩) lo (hch.imp fun _ _ q => ⟨q.1, q.2.keeps hsub⟩) hF hPc
      repeat' (first | walk1 | (dsimp only; walk1))
      exact h _ _ _ dc kvs done pc kb9 G9 (Heap.dictOf_iff.mpr ⟨od, hdc9, hdo⟩) lo (hch.imp fun _ _ q => ⟨q.1, q.2.keeps hsub⟩) hF hPc
    case turn =>
      rintro v rest m₁ news₁ h₁ tk₁ I ito kK hK ⟨pre, ps, done, kvs, od, oj, oc, o1, o2, D, g', pys, pk, hps, hi, rfl, ⟨ov, d1⟩, d2, J, hdo, hch, hAp, hG, hgg, hfr, htt, hpl, hpa, hF, H⟩ hoff hc F N
      cases hi with | cons p9 tp9 hi =>
      rename_i rest ps
      have hpre : pre.length ≤ 8 := by have := congrArg List.length hps; simp at this; omega
      have hp9 := nine_bd hps
      have hI1 : @Ne Nat dc I := hoff _ (.head _)
      have hI2 : @Ne Nat (L + 1 + 1) I := hoff _ (.tail _ (.head _))
      have hI3 : @Ne Nat (L + 1) I := hoff _ (.tail _ (.tail _ (.head _)))
      have hI4 : @Ne Nat j I := hoff _ (.tail _ (.tail _ (.tail _ (.head _))))
      have hI5 : @Ne Nat c I := hoff _ (.tail _ (.tail _ (.tail _ (.tail _ (.head _)))))
      have hAp0 := hAp
      replace hAp := ApD.push (fun p hp => hoff p (.tail _ (.tail _ (.tail _ (.tail _ (.tail _ hp)))))) hAp0
      replace F := frOf F H
      clear N8 N9 N8' nm9
      repeat' (first | walk1 | (dsimp only; walk1))
      rename Fr _ _ _ _ => F8; rename News _ _ _ _ => N8
      refine If_goc (fun m pre => pre = [] ∧ p9 < 6 ∧ Has m [("found", .ref dc), ("pieces", .ref S), ("place", .int p9 tp9)]) (fun m pre => pre = [] ∧ Has m [("found", .ref dc), ("pieces", .ref S), ("place", .int p9 tp9)]) F8 N8 (fun going => ?_) (fun h' tk m' pre' F N jj => ?_) (fun h' tk m' pre' F N jj => ?_)
      · repeat' (first | walk1 | (dsimp only; walk1))
        · rename Fr _ _ _ _ => F9; rename News _ _ _ _ => N9
          exact ⟨_, _, _, [], rfl, F9, N9, rfl, by assumption, rfl, rfl, rfl, trivial⟩
        · rename Fr _ _ _ _ => F9; rename News _ _ _ _ => N9
          exact ⟨_, _, _, [], rfl, F9, N9, rfl, rfl, rfl, rfl, trivial⟩
        · rename Fr _ _ _ _ => F9; rename News _ _ _ _ => N9
          exact ⟨_, _, _, [], rfl, F9, N9, rfl, rfl, rfl, rfl, trivial⟩
      · obtain ⟨rfl, hlt6, H⟩ := jj
        simp only [List.nil_append] at N
        rename JarO _ _ _ _ => J9
        repeat walk1
        exact ⟨h', tk, m', (dc, od) :: (L + 1 + 1, _) :: (L + 1, o2) :: (j, _) :: (c, _) :: D, rfl, F, N, allC hI1 (allC hI2 (allC hI3 (allC hI4 (allC hI5 (hAp.ne (.head _)))))), pre ++ [p9], ps, done, kvs, od, _, _, _, o2, D, g', pys, pk, by rw [hps]; simp, hi, rfl, ⟨_, by assumption⟩, d2, J9.le (by rw [List.length_append]; simp; omega), hdo, hch, hAp0, hG, hgg, hfr, htt, hpl, hpa, hF.skip hlt6, H.1, H.2.1, trivial⟩
      · obtain ⟨rfl, H⟩ := jj
        simp only [List.nil_append] at N
        replace F := frOf F H
        repeat' (first | walk1 | (dsimp only; walk1))
        rename Fr _ _ _ _ => FA; rename News _ _ _ _ => NA; rename JarO _ _ _ _ => J9
        have SA := And.intro FA NA
        rename_i hA tkA dd tdd hB tkB ojx ocx ad1 ad2 hC oX dX
        refine ⟨ALComp_go FA (by rfl) (by with_unfolding_all rfl) (by with_unfolding_all rfl) (by decide) (by rfl) (by decide) (by rfl) (by rfl) ?_⟩
        repeat' (first | walk1 | (dsimp only; walk1))
        rename Fr _ _ _ _ => F7; rename News _ _ _ _ => N7
        rename_i hF7 hk9 nm9
        have N7' : News h₂ L hF7 _ := fun p hp => ⟨hk9 _ _ (SA.2 p hp).1, (SA.2 p hp).2⟩
        dsimp only at N7 ⊢
        have f0 : @LT.lt Nat _ dc h'.objs.size := Heap.lt_size (SA.2 (dc, od) (by k_mem)).1
        have f1 : @LT.lt Nat _ (L + 1 + 1) h'.objs.size := Heap.lt_size (SA.2 (L + 1 + 1, oX) (by k_mem)).1
        have f2 : @LT.lt Nat _ (L + 1) h'.objs.size := Heap.lt_size (SA.2 (L + 1, o2) (by k_mem)).1
        have f3 : @LT.lt Nat _ j h'.objs.size := Heap.lt_size (SA.2 (j, ojx) (by k_mem)).1
        have f4 : @LT.lt Nat _ c h'.objs.size := Heap.lt_size (SA.2 (c, ocx) (by k_mem)).1
        have f5 : @LT.lt Nat _ I h'.objs.size := Heap.lt_size (SA.2 (I, ito) (by k_mem)).1
        have hApS : ∀ p ∈ D, p.1 ≠ h'.objs.size := fun p hp => Nat.ne_of_lt (Heap.lt_size (SA.2 p (by simp [hp])).1)
        clear hk9 nm9
        generalize h'.objs.size = T6 at N7 f0 f1 f2 f3 f4 f5 hApS ⊢
        have ND7 : News h₂ L hF7 D := fun p hp => N7' p (by simp [hp])
        obtain ⟨o6, ho6⟩ : ∃ o, o = tupO [.int 1 tk, .int 2 (tk + 1), .int 3 (tk + 1 + 1), .int 4 (tk + 1 + 1 + 1), .int 5 (tk + 1 + 1 + 1 + 1), .int 6 (tk + 1 + 1 + 1 + 1 + 1)] := ⟨_, rfl⟩
        have N7 : News h₂ L hF7 [(T6, o6)] := newsMk (by rw [ho6]; exact N7) (.head _) News.nil
        refine cgo_tup (its := [.int 1 tk, .int 2 (tk + 1), .int 3 (tk + 1 + 1), .int 4 (tk + 1 + 1 + 1), .int 5 (tk + 1 + 1 + 1 + 1), .int 6 (tk + 1 + 1 + 1 + 1 + 1)]) (oax := o6)
          (JRf2 h₂ g g' j c (b + 2 + 50 * pre.length + 1) [T6, I, dc, L + 1 + 1, L + 1, j, c] [(T6, o6), (I, ito), (dc, od), (L + 1 + 1, oX), (L + 1, o2)]) _ (fun h e => by rw [ho6] at e; exact ⟨_, e, rfl, _, rfl⟩) (by simp) F7
          (newsMk N7' (p := (j, ojx)) (by k_mem) (newsMk N7' (p := (c, ocx)) (by k_mem) (newsMk N7 (.head _) (newsMk N7' (p := (I, ito)) (by k_mem) (newsMk N7' (p := (dc, od)) (by k_mem) (newsMk N7' (p := (L + 1 + 1, oX)) (by k_mem) (newsMk N7' (p := (L + 1, o2)) (by k_mem) ND7))))))) (.inr (by k_mem)) ?st0 (fun g9 => casg_name (by rfl) (by rfl)) ?turn2 ?fin2
        case st0 =>
          refine ⟨ojx, ocx, g', D, [], rfl, J9.le (by simp), ?_, hG, hgg, hfr, fun _ _ e => e, .nil, by simp, by simp, fun q => by omega⟩
          exact ApD.push hApS hAp
        case turn2 =>
          rintro g9 i v ys news I2 oI2 C2 oC2 D9 m₂ h9 tk9 E' kK2 kK hK2 hK hi2 hv ⟨oj2, oc2, g2, D2, rs, rfl, JJ, hAp2, hG2, hgg2, hfr2, hg02, hall2, hrs, hup, hsix⟩ hC2 hx9 F N off ne
          simp only [List.cons_append, List.nil_append] at N off
          have offm := off.mem
          obtain ⟨ci, ti, rfl, hci⟩ := intsAre_get (.cons _ _ (.cons _ _ (.cons _ _ (.cons _ _ (.cons _ _ (.cons _ _ .nil)))))) hv
          obtain ⟨rfl, hi6⟩ := six_get hci
          clear F7 N7 N7'
          have ND2 : News h₂ L h9 D2 := fun p hp => N p (by simp [hp])
          have hst2 := hG2.stays F ND2
          have key : ∀ tkx, wpAny (model p0 w) (An 5) (call (.ref 492) [.ref j, .int ((i : Int) + 1) ti]) (KQ kK) E' { s with heap := h9, toks := tkx } := by
            intro tkx
            have mj := N (j, oj2) (by k_mem); have mc := N (c, oc2) (by k_mem)
            refine law_row_spec (mg := mg) (mb := mb) (h₀ := h₂) (g := g2) (Rm.le Rm.an (by decide)) X₂ T₂ (by exact F.keep) hst2 mj.1 mc.1 mj.2.2 mc.2.2 (hG2.notin mj.2.2 (hAp2.ne (by simp))) (hG2.notin mc.2.2 (hAp2.ne (by simp))) JJ hjc (by omega) (by omega) (by omega) (fun h' tk' g3 oj3 oc3 v r J3 ej ec kb G3 hv hr => ?_)
            have kb0 : h₂.StaysIn h' := fun q o e => kb q o (fun e1 => by rw [e1, mj.2.2] at e; cases e) (fun e1 => by rw [e1, mc.2.2] at e; cases e) (F.keep q o e)
            obtain ⟨hG3, N3⟩ := hG2.grow2 F ND2 kb0 G3
            have F3 := frBut F kb mj.2.2 mc.2.2 (fun q => mj.2.1 q.symm) (fun q => mc.2.1 q.symm)
            obtain ⟨q1, q2⟩ := gfresh F hgg2 hfr2 G3
            have oj9 := offm (j, oj2) (by k_mem); have oc9 := offm (c, oc2) (by k_mem)
            have ex : ∀ {a : Addr} {o : Obj}, h9.get? a = some o → ∃ o, h9.get? a = some o := fun e => ⟨_, e⟩
            have n1 := N (I2, oI2) (by k_mem); have n2 := N (C2, oC2) (by k_mem); have n3 := N (D9, LCg.lst ys) (by k_mem)
            have n4 := N (T6, _) (.tail _ (.tail _ (.tail _ (.tail _ (.tail _ (.head _)))))); have n5 := N (I, ito) (by k_mem); have n6 := N (dc, od) (by k_mem); have n7 := N (L + 1 + 1, oX) (by k_mem); have n8 := N (L + 1, o2) (by k_mem)
            have nn : ∀ {p : Addr × Obj}, (h9.get? p.1 = some p.2 ∧ p.1 ≠ L ∧ h₂.get? p.1 = none) → p.1 ≠ j → p.1 ≠ c → h'.get? p.1 = some p.2 ∧ p.1 ≠ L ∧ h₂.get? p.1 = none := fun x a1 a2 => ⟨kb _ _ a1 a2 x.1, x.2⟩
            refine hK _ _ <| LCg.CompEnd.intro F3 (all := (I2, oI2) :: (C2, oC2) :: (D9, LCg.lst ys) :: (j, oj3) :: (c, oc3) :: ([(T6, o6), (I, ito), (dc, od), (L + 1 + 1, oX), (L + 1, o2)] ++ dOf h₂ g3)) (allC (nn n1 (fun q => oj9.1 q.symm) (fun q => oc9.1 q.symm)) (allC (nn n2 (fun q => oj9.2.1 q.symm) (fun q => oc9.2.1 q.symm)) (allC (nn n3 (fun q => oj9.2.2 q.symm) (fun q => oc9.2.2 q.symm)) (allC ⟨ej, mj.2⟩ (allC ⟨ec, mc.2⟩ (allC (nn n4 (by k_ne) (by k_ne)) (allC (nn n5 (by k_ne) (by k_ne)) (allC (nn n6 (by k_ne) (by k_ne)) (allC (nn n7 (by k_ne) (by k_ne)) (allC (nn n8 (by k_ne) (by k_ne)) N3)))))))))) _ (fun p hp => hp) (LCg.Off3.of (allC oj9 (allC oc9 (allC (offm _ (by k_mem)) (allC (offm _ (by k_mem)) (allC (offm _ (by k_mem)) (allC (offm _ (by k_mem)) (allC (offm _ (by k_mem)) (fun p hp => ⟨dOf_off hG2 G3 (ex n1.1) (fun q hq => (offm q (by simp [hq])).1) p hp, dOf_off hG2 G3 (ex n2.1) (fun q hq => (offm q (by simp [hq])).2.1) p hp, dOf_off hG2 G3 (ex n3.1) (fun q hq => (offm q (by simp [hq])).2.2) p hp⟩))))))))) (Or.inr (by k_mem)) ⟨oj3, oc3, g3, _, rs ++ [r], rfl, J3.le (by simp; omega), ApD.of hAp2 hG2 G3 (allC (ex n4.1) (allC (ex n5.1) (allC (ex n6.1) (allC (ex n7.1) (allC (ex n8.1) (allC (ex mj.1) (allC (ex mc.1) allN))))))), hG3, q1, q2, fun b o e => G3.a b o (hg02 b o e), (hall2.imp fun _ _ q => q.keeps G3.a).append (.cons hv .nil), rows_snoc hr hrs, rows_up hr hrs hup, rows_six hr hi6⟩
          clear ND2 hst2
          refine wpAny_tests_one ?_
          repeat' (first | walk1 | (dsimp only; walk1))
          · exact ⟨key _⟩
          · rename Fr _ _ _ _ => F9; rename News _ _ _ _ => N9
            refine LCg.CompEnd.intro F9 N9 _ (fun p hp => hp) off (Or.inr (by simp)) ⟨oj2, oc2, g2, D2, rs, rfl, JJ.le (by simp; omega), hAp2, hG2, hgg2, hfr2, hg02, hall2, rows_more hrs, hup, fun h6 => by omega⟩
        case fin2 =>
          rintro g9 ys news ⟨oj2, oc2, g2, D2, rs, rfl, JJ, hAp2, hG2, hgg2, hfr2, hg02, hall2, hrs, hup, hsix⟩ hyl D9 h9 tk9 F N off
          simp only [List.cons_append, List.nil_append] at N off
          simp only [LCg.Off1] at off
          clear F7 N7 N7'
          repeat' (first | walk1 | (dsimp only; walk1))
          rename Fr _ _ _ _ => F9; rename News _ _ _ _ => N9
          have ND9 : News h₂ L _ D2 := fun p hp => N9 p (by simp [hp])
          have hst9 := hG2.stays F9 ND9
          have hpcl : pys.length = 4 := by
            obtain ⟨x9, y9, e9, _⟩ := hPc.eq
            rw [hpa.length, e9]; rfl
          have hyl6 : ys.length ≤ 6 := hyl
          refine ⟨ladd2 (vs := ys) (ws := pys) F9 N9 (News.isList N9 (by k_mem)) ⟨_, hst9 _ _ (hg02 _ _ hpl), rfl, _, rfl⟩ (by omega) (fun RL h7 k7 F7 N7 l7 => ?_)⟩
          have l8 : ∀ p ∈ D2, p.1 < RL := fun p hp => l7 p (by simp [hp])
          k_lt l7
          have hv9 : valueAt kvs p9 = none := valueAt_none_of_not_mem (by
            rw [all2_keys hch]
            intro q
            have q1 := hF.sub p9 q
            exact fonts_none hps q1)
          have hkl : kvs.length ≤ 1000 := by have := hch.length; have := hF.len; omega
          clear F9 N9
          repeat' (first | walk1 | (dsimp only; walk1))
          rename Fr _ _ _ _ => F9; rename News _ _ _ _ => N9
          refine dset F9 N9 (by k_mem) hdo hkl (fun h8 o8 F8 kb8 ho8 hd8 => ?_)
          have S9 := And.intro F9 N9
          clear F9 N9
          have N' : News h₂ L h8 [] := News.nil
          repeat' (first | walk1 | (dsimp only; walk1))
          obtain ⟨F9, N9⟩ := S9
          rw [stored_absent hv9] at hd8
          have mRL := N9 (RL, W.listOf (ys ++ pys).toArray k7) (by k_mem)
          obtain ⟨g5, hG5, k5, hRL, c5⟩ := hG2.add F9 (newsMk N9 (p := (RL, W.listOf (ys ++ pys).toArray k7)) (by k_mem) (fun p hp => N9 p (by simp [hp])))
          obtain ⟨q5, q6⟩ := Gh.step hgg2 hfr2 k5 c5 mRL.2.2
          have md := N9 (dc, od) (by k_mem)
          have nn : ∀ {p : Addr × Obj}, p.1 ≠ dc → p ∈ _ → Heap.get? h8 p.1 = some p.2 ∧ p.1 ≠ L ∧ h₂.get? p.1 = none := fun {p} a1 hp => ⟨kb8 _ _ a1 (N9 p hp).1, (N9 p hp).2⟩
          refine ⟨h8, _, _, (dc, o8) :: (L + 1 + 1, oX) :: (L + 1, o2) :: (j, oj2) :: (c, oc2) :: (RL, W.listOf (ys ++ pys).toArray k7) :: D2, rfl, F8, allC (nn (by k_ne) (by k_mem)) (allC ⟨ho8, md.2⟩ (allC (nn (by k_ne) (by k_mem)) (allC (nn (by k_ne) (by k_mem)) (allC (nn (by k_ne) (by k_mem)) (allC (nn (by k_ne) (by k_mem)) (allC (nn (by k_ne) (by k_mem)) (fun p hp => nn (hAp2.ne (by simp) p hp) (by simp [hp])))))))), allC hI1 (allC hI2 (allC hI3 (allC hI4 (allC hI5 (allC (by k_ne) (hAp2.ne (by simp))))))), pre ++ [p9], ps, done ++ [(p9, rs ++ pc)], kvs ++ [(p9, .ref RL)], o8, oj2, oc2, oX, o2, _, g5, pys, pk, by rw [hps]; simp, hi, rfl, ⟨_, dX⟩, d2, JJ.le (by rw [List.length_append]; simp; omega), hd8, (hch.imp fun _ _ q => ⟨q.1, (q.2.keeps hg02).keeps k5⟩).append (.cons ⟨rfl, RL, ys ++ pys, rfl, ⟨_, hRL, rfl, _, rfl⟩, (hall2.imp fun _ _ q => q.keeps k5).append (hpa.imp fun _ _ q => (q.keeps hg02).keeps k5)⟩ .nil), ApD.cons hAp2.of5 (all5 (by k_ne) (by k_ne) (by k_ne) (by k_ne) (by k_ne)), hG5, q5, q6, k5 _ _ (hg02 _ _ htt), k5 _ _ (hg02 _ _ hpl), hpa.imp (fun _ _ q => (q.keeps hg02).keeps k5), hF.snoc hps hrs hup hsix, rfl, rfl, trivial⟩
end
end Mine
end
section
open PySem PySem.W PyProof.Rows PySem.Calls
set_option maxHeartbeats 1000000
namespace Mine
section
variable {w : World} {A : Around} {s : Shared} {E : Value → Shared → Prop} {mg mb : Str → Option Value} {h₀ : Heap} {L C : Addr} {m : Str → Option Value} {K : Frag} {scope : Scope} {cl : List (Str × Addr)} {env : Env} {x : Str} {pos : Pos} {v : Value} {Q : Value → Shared → Prop}
theorem ghostAll {g h : Heap} (F : Fr h₀ L h m) (hg : g.StaysIn h₀) (l : List Addr) (hl : ∀ a ∈ l, h₀.get? a = none) :
    ∃ g' D, Gh h₀ g' D ∧ News h₀ L h D ∧ ApD D l ∧ g.StaysIn g' ∧ (∀ b o, g'.get? b = some o → g.get? b = some o ∨ h₀.get? b = none) ∧ g'.StaysIn h ∧
      (∀ b o, h.get? b = some o → h₀.get? b = none → b ≠ L → b ∉ l → g'.get? b = some o) ∧
      (∀ gg : Heap, gg.StaysIn h → (∀ b o, gg.get? b = some o → g.get? b = some o ∨ h₀.get? b = none) → (∀ a ∈ l, gg.get? a = none) → gg.get? L = none → gg.StaysIn g') := by
  have hL0 : h₀.get? L = none := Heap.get?_none_of_le F.above
  have hl' : ∀ a ∈ L :: l, h₀.get? a = none := fun a ha => by
    rcases List.mem_cons.mp ha with rfl | ha
    · exact hL0
    · exact hl a ha
  have G := (Gx.ext hg (h' := h) (fun b o e => F.keep b o e)).but (l := L :: l) (fun a ha => fresh_back hg (hl' a ha))
  refine ⟨but (ext g h₀ h) (L :: l), dOf h₀ (but (ext g h₀ h) (L :: l)), ⟨fun b o e => ?_⟩, fun p hp => ?_, fun p hp a ha q => ?_, G.a, G.c, G.b, fun b o e1 e2 e3 e4 => but_get (ext_get e1 e2) (by simp [e3, e4]), fun gg k c n1 n2 => but_sub (ext_sub k c) (fun a ha => ?_)⟩
  · cases q : h₀.get? b with
    | none => exact .inr (mem_dOf.mpr ⟨q, e⟩)
    | some o' =>
      refine .inl ?_
      have e1 := G.b b o e
      rw [F.keep b o' q] at e1; exact e1
  · obtain ⟨h1, h2⟩ := mem_dOf.mp (show (p.1, p.2) ∈ _ from hp)
    refine ⟨G.b _ _ h2, fun q => ?_, h1⟩
    rw [q, but_none (.head _)] at h2; cases h2
  · obtain ⟨h1, h2⟩ := mem_dOf.mp (show (p.1, p.2) ∈ _ from hp)
    rw [q, but_none (.tail _ ha)] at h2; cases h2
  · rcases List.mem_cons.mp ha with rfl | ha
    · exact n2
    · exact n1 a ha
theorem Gh.noL {g h : Heap} {D : List (Addr × Obj)} (G : Gh h₀ g D) (F : Fr h₀ L h m) (N : News h₀ L h D) : g.get? L = none := by
  cases q : g.get? L with
  | none => rfl
  | some o =>
    rcases G.d L o q with r | r
    · rw [Heap.get?_none_of_le F.above] at r; cases r
    · exact absurd rfl (N _ r).2.1
open PyProof.Rows.LCg in
theorem turn_one2 {I C D9 T : Addr} {oI oC o : Obj} {ys : List Value} {S : List (Addr × Obj) → Prop} {rest : Value → List (Addr × Obj) → Prop} {s₁ : Shared} {g' h9 : Heap} {D N0 : List (Addr × Obj)} {tk9 : Nat}
    (F9 : Fr h₀ L h9 m) (N9 : News h₀ L h9 ((T, o) :: (I, oI) :: (C, oC) :: (D9, lst ys) :: (N0 ++ D))) (off : Off3 I C D9 (N0 ++ D)) (n1 : @Ne Nat T I) (n2 : @Ne Nat T C) (n3 : @Ne Nat T D9) (hG : Gh h₀ g' D) (hS : S (N0 ++ (T, o) :: D))
    (k : ∀ g2, Gh h₀ g2 ((T, o) :: D) → g'.StaysIn g2 → g2.get? T = some o → (∀ b o', g2.get? b = some o' → g'.get? b = some o' ∨ b = T) → h₀.get? T = none → rest (.ref T) (N0 ++ (T, o) :: D)) :
    CompEnd h₀ L m s₁ I oI C oC D9 (lst ys) S rest (.ref T) { s₁ with heap := h9, toks := tk9 } :=
  compEnd_map (turn_one (S := fun _ => True) F9 N9 off n1 n2 n3 hG (fun _ => trivial) (fun g2 a b c d e => And.intro (k g2 a b c d e) rfl) (rest := fun v nw => rest v nw ∧ nw = N0 ++ (T, o) :: D)) fun n _ r => ⟨by rw [r.2]; exact hS, r.1⟩
end
end Mine
end
section
set_option maxHeartbeats 1000000
namespace Mine
section
variable {w : World} {A : Around} {s : Shared} {E : Value → Shared → Prop} {Q : Value → Shared → Prop} {mg mb : Str → Option Value}
theorem ksetLw1 : True := by
  k_with "binaryOp Add ref ref" => (k_dflt (refine' kde_addT ?k1 ?k2 ?k3 ?k4 ?k5 ?k6 ?k7 ?k8 ?_; (case k1 => k_asm); (case k2 => k_asm); (case k3 => first | exact News.isTup (by k_asm) (by k_mem) | exact Fr.tup (by k_asm) (by k_asm)); (case k4 => first | exact News.isTup (by k_asm) (by k_mem) | exact Fr.tup (by k_asm) (by k_asm)); (case k5 => exact List.cons_ne_nil _ _); (case k6 => exact List.cons_ne_nil _ _); (case k7 => exact Nat.le_of_ble_eq_true rfl); (case k8 => kl_lit); k_whole); intro D' h' F' N' l1; (try k_lt l1); (try k_sweep))
  k_with "call builtin:len" => ((with_reducible show wpAny _ _ (call (Value.builtin "len") [Value.ref _]) _ _ _); k_dflt (refine' tlen_base ?k1 ?k2 ?k3 ?k4 ?_; (case k1 => k_asm); (case k2 => k_asm); (case k3 => first | exact (rfl : _ = (5 : Int)) | exact (rfl : _ = (7 : Int)) | exact (rfl : _ = (6 : Int)) | exact (rfl : _ = (4 : Int))); (case k4 => decide); k_whole))
  k_with "compareOp In int ref" => (k_dflt (refine' in_base_f ?k1 ?k2 ?k3 ?k4 ?_; (case k1 => k_asm); (case k2 => k_asm); (case k3 => k_asm); (case k4 => k_asm); k_whole))
  k_with "compareOp In int ref" => (k_dflt (refine' in_base_t ?k1 ?k2 ?k3 ?k4 ?_; (case k1 => k_asm); (case k2 => k_asm); (case k3 => k_asm); (case k4 => k_asm); k_whole))
  k_with "subscriptTail" => ((with_reducible show wpAny _ _ (subscriptTail _ _ (Value.ref _) (Value.int _ _)) _ _ _); k_dflt (refine' item_base ?k1 ?k2 ?k3 ?_ ?k4; (case k1 => k_asm); (case k2 => k_asm); (case k3 => k_asm); (case k4 => with_unfolding_all rfl); k_whole))
  k_with "call builtin:list.append" => (k_dflt (refine' lapp ?F ?N ?U ?z ?_; (case F => k_asm); (case N => k_asm); (case U => k_updF); (case z => omega)); intro h' F' N'; (try dsimp only at N'); (try k_sweep))
  k_with "binaryOp Add ref ref" => (refine' stop_here ?_)
  k_with "call ref" => ((with_reducible show wpAny _ _ (call (Value.ref 509) _ _) _ _ _); refine' stop_here ?_)
  trivial
inductive WayV (g : Heap) (v : Value) (q : Int × Row) : Prop
  | mk (a : _)(t : _)(rv : _) (h0 : v = .ref a) (h1 : IsTup g a #[.int q.1 t, rv]) (h2 : RowV g rv q.2) : WayV g v q
theorem WayV.keeps {g g' : Heap} {v : Value} {q : Int × Row} (x : WayV g v q) (k : g.StaysIn g') : WayV g' v q := let ⟨a, t, rv, e, i, r⟩ := x; ⟨a, t, rv, e, isTup_keeps i k, r.keeps k⟩
inductive WaysV (g : Heap) (v : Value) (ws : List (Int × Row)) : Prop
  | mk (a : _)(vs : _)(n : _) (h0 : v = .ref a) (h1 : g.get? a = some (W.listOf (List.toArray vs) n)) (h2 : All2 (WayV g) vs ws) : WaysV g v ws
theorem WaysV.keeps {g g' : Heap} {v : Value} {ws : List (Int × Row)} (x : WaysV g v ws) (k : g.StaysIn g') : WaysV g' v ws := let ⟨a, vs, n, e, i, r⟩ := x; ⟨a, vs, n, e, k _ _ i, r.imp fun _ _ q => q.keeps k⟩
noncomputable def findR (fonts : List (Int × List Row)) (k : Int) : Option (List Row) := (fonts.find? fun f => decide (f.1 = k)).map (·.2)
theorem findR_all2 {g : Heap} {kvs : List (Int × Value)} {fs : List (Int × List Row)} (x : All2 (fun (kv : Int × Value) (f : Int × List Row) => kv.1 = f.1 ∧ RowsV g kv.2 f.2) kvs fs) (k : Int) :
    (valueAt kvs k = none ∧ findR fs k = none) ∨ ∃ v f, valueAt kvs k = some v ∧ findR fs k = some f ∧ RowsV g v f := by
  induction x with
  | nil => exact .inl ⟨rfl, rfl⟩
  | @cons kv r kvs rows q _ ih =>
    obtain ⟨q1, q2⟩ := q
    by_cases e : r.1 = k
    · refine .inr ⟨kv.2, r.2, ?_, ?_, q2⟩
      · simp [valueAt, q1, e]
      · simp [findR, e]
    · have e1 : valueAt (kv :: kvs) k = valueAt kvs k := by simp [valueAt, q1, e]
      have e2 : findR (r :: rows) k = findR rows k := by simp [findR, e]
      rw [e1, e2]
      exact ih
noncomputable def lway (fonts : List (Int × List Row)) (sz f c lv : Int) : List (Int × Row) :=
  if lv ≤ sz ∧ ¬ (f = 0 ∧ c = 0) then match findR fonts (3 * f + lv) with
    | some rows => (chainF rows c).map fun r => (3 * f + lv, r)
    | none => []
  else []
noncomputable def lways (fonts : List (Int × List Row)) (sz f c : Int) : List (Int × Row) := lway fonts sz f c 2 ++ (lway fonts sz f c 1 ++ (lway fonts sz f c 0 ++ []))
inductive JO (g h₀ : Heap) (L TT : Addr) (to : Obj) (fonts : List (Int × List Row)) (sz : Int) (total : List (Int × Row)) (bs : List (Str × Value)) (rest : List Value) (m : Str → Option Value) (news : List (Addr × Obj)) : Prop
  | mk (prs : List (Addr × Int × Tok × Int × Tok)) (o1 o2 : Obj) (D : List (Addr × Obj)) (g' : Heap) (lf : Value) (ws : List (Int × Row)) (h0 : news = (L + 1 + 1, o1) :: (L + 1, o2) :: D) (h1 : (∃ v, o1.data = .cell v)) (h2 : (∃ v, o2.data = .cell v)) (h3 : ApD D [L + 1 + 1, L + 1]) (h4 : Gh h₀ g' D) (h5 : g.StaysIn g') (h6 : (∀ b o, g'.get? b = some o → g.get? b = some o ∨ h₀.get? b = none)) (h7 : g'.get? TT = some to) (h8 : rest = prs.map (fun q => Value.ref q.1)) (h9 : (∀ q ∈ prs, IsTup g' q.1 #[.int q.2.1 q.2.2.1, .int q.2.2.2.1 q.2.2.2.2] ∧ 0 ≤ q.2.1 ∧ q.2.1 ≤ 15 ∧ 0 ≤ q.2.2.2.1 ∧ q.2.2.2.1 ≤ 255)) (h10 : WaysV g' lf ws) (h11 : ws ++ prs.flatMap (fun q => lways fonts sz q.2.1 q.2.2.2.1) = total) (h12 : Has m (("found", lf) :: bs)) : JO g h₀ L TT to fonts sz total bs rest m news
inductive JI (g g0 h₀ : Heap) (L I TL : Addr) (ito of tlo : Obj) (fonts : List (Int × List Row)) (sz f c : Int) (total : List (Int × Row)) (bs : List (Str × Value)) (rest : List Value) (m : Str → Option Value) (news : List (Addr × Obj)) : Prop
  | mk (ls : List Int) (o1 : Obj) (D : List (Addr × Obj)) (g' : Heap) (lf : Value) (ws : List (Int × Row)) (h0 : news = (I, ito) :: (L + 1 + 1, o1) :: (L + 1, of) :: D) (h1 : (∃ v, o1.data = .cell v)) (h2 : ApD D [I, L + 1 + 1, L + 1]) (h3 : Gh h₀ g' D) (h4 : g0.StaysIn g') (h5 : g.StaysIn g') (h6 : (∀ b o, g'.get? b = some o → g.get? b = some o ∨ h₀.get? b = none)) (h7 : g'.get? TL = some tlo) (h8 : IntsAre rest ls) (h9 : (∀ l ∈ ls, 0 ≤ l ∧ l ≤ 2)) (h10 : WaysV g' lf ws) (h11 : ws ++ ls.flatMap (lway fonts sz f c) = total) (h12 : Has m (("found", lf) :: bs)) : JI g g0 h₀ L I TL ito of tlo fonts sz f c total bs rest m news
inductive JW3 (h₀ g g3 : Heap) (D3 : List (Addr × Obj)) (l : List Addr) (N0 : List (Addr × Obj)) (qs : List (Int × Row)) (i : Nat) (ys : List Value) (news : List (Addr × Obj)) : Prop
  | mk (g' : _)(D : _) (h0 : news = N0 ++ D) (h1 : ApD D l) (h2 : Gh h₀ g' D) (h3 : g3.StaysIn g') (h4 : g.StaysIn g') (h5 : (∀ b o, g'.get? b = some o → g.get? b = some o ∨ h₀.get? b = none)) (h6 : (∀ p ∈ D3, p ∈ D)) (h7 : All2 (WayV g') ys (qs.take i)) : JW3 h₀ g g3 D3 l N0 qs i ys news
theorem lway_len (fonts : List (Int × List Row)) (sz f c lv : Int) : (lway fonts sz f c lv).length ≤ 20 := by
  unfold lway
  split
  · split
    · rw [List.length_map]; exact chain_len 20 c
    · simp
  · simp
theorem lways_len (fonts : List (Int × List Row)) (sz f c : Int) : (lways fonts sz f c).length ≤ 60 := by
  unfold lways
  have h1 := lway_len fonts sz f c 2; have h2 := lway_len fonts sz f c 1; have h3 := lway_len fonts sz f c 0
  simp only [List.length_append, List.length_nil]
  omega
theorem law_ways_spec (R : Rm 6 A) (X : (KF w.params).In s.heap) (T : TR mg mb s.heap) {g : Heap} (hg : g.StaysIn s.heap) {df : Addr} {kvs : List (Int × Value)} {fonts : List (Int × List Row)} (hd : s.heap.DictOf (intKind p0 w) df kvs) (hds : (df == sysModules) = false)
   (hall : All2 (fun (kv : Int × Value) (f : Int × List Row) => kv.1 = f.1 ∧ RowsV g kv.2 f.2) kvs fonts) {da : Addr} {d0 d1 d2 d3 : Int} {t0 t1 t2 t3 : Tok} (hdl : IsTup s.heap da #[.int d0 t0, .int d1 t1, .int d2 t2, .int d3 t3]) {sz : Int} {ts : Tok}
   (h0 : 0 ≤ d0) (h0' : d0 ≤ 15) (h1 : 0 ≤ d1) (h1' : d1 ≤ 255) (h2 : 0 ≤ d2) (h2' : d2 ≤ 15) (h3 : 0 ≤ d3) (h3' : d3 ≤ 255) (hok : ∀ f ∈ fonts, f.2.length ≤ 100 ∧ WFr f.2 ∧ (∀ r ∈ f.2, r.code ≤ 10) ∧ (f.2.map (·.code)).Nodup)
   (h : ∀ h' tk g' v, s.heap.StaysIn h' → Gx g s.heap h' g' → WaysV g' v (lways fonts sz d0 d1 ++ lways fonts sz d2 d3) → Q v {s with heap := h', toks := tk}) :
   wpAny (model p0 w) A (call (.ref 514) [.ref df, .ref da, .int sz ts]) Q E s := by
  refine callCF (binds := [("fonts", .ref df), ("delimiter", .ref da), ("size", .int sz ts)]) R X T rfl (by k_is) (BindsTo.of_eq (by kernel_rfl)) (by kernel_rfl) (by decide) rfl rfl rfl (fun L h₁ tk cells F N Y X T => ?_)
  as_aux_lemma =>
    have hY := CellsAre.two Y; obtain ⟨o1, o2, rfl, c1, c2⟩ := hY; clear Y
    have hL1 : s.heap.get? (L + 1 + 1) = none := (N (L + 1 + 1, o1) (by k_mem)).2.2
    have hL2 : s.heap.get? (L + 1) = none := (N (L + 1, o2) (by k_mem)).2.2
    have hLs : ∀ a ∈ [L + 1 + 1, L + 1], s.heap.get? a = none := fun a ha => by
      simp only [List.mem_cons, List.not_mem_nil, or_false] at ha
      rcases ha with rfl | rfl <;> assumption
    repeat' (first | walk1 | (dsimp only; walk1))
    as_aux_lemma =>
      rename Fr _ _ _ _ => F8
      refine For_st F8 ?_
      repeat' (first | walk1 | (dsimp only; walk1))
      as_aux_lemma =>
        rename Fr _ _ _ _ => F9; rename News _ _ _ _ => N9
        rename_i lf hA4 l13 hA3 T1 hA2 l12 T2 hA1 l11 TT hA0 l10
        obtain ⟨g1, D1, hG1, ND1, hAp1, k1, fr1, st1, all1, _⟩ := ghostAll F9 hg [L + 1 + 1, L + 1] hLs
        have mT := fun {a : Addr} {o : Obj} (e : (a, o) ∈ _) (n1 : @Ne Nat a (L + 1 + 1)) (n2 : @Ne Nat a (L + 1)) => all1 a o (N9 (a, o) e).1 (N9 (a, o) e).2.2 (N9 (a, o) e).2.1 (by simp only [List.mem_cons, List.not_mem_nil, or_false]; rintro (q | q); exact n1 q; exact n2 q)
        have gTT := mT (a := TT) (o := tupO [.ref T1, .ref T2]) (by k_mem) (by k_ne) (by k_ne)
        have gT1 := mT (a := T1) (o := tupO [.int d0 t0, .int d1 t1]) (by k_mem) (by k_ne) (by k_ne)
        have gT2 := mT (a := T2) (o := tupO [.int d2 t2, .int d3 t3]) (by k_mem) (by k_ne) (by k_ne)
        have glf := mT (a := lf) (o := W.listOf #[] 0) (by k_mem) (by k_ne) (by k_ne)
        refine ⟨turns_tup (items := [.ref T1, .ref T2]) (oax := tupO [.ref T1, .ref T2]) (JO g s.heap L TT (tupO [.ref T1, .ref T2]) fonts sz (lways fonts sz d0 d1 ++ lways fonts sz d2 d3) [("fonts", .ref df), ("delimiter", .ref da), ("size", .int sz ts)]) rfl (fun h e => ⟨_, e, rfl, _, rfl⟩) (fun q => (N9 (TT, _) (.head _)).2.1 q.symm) ?ax F9 (newsMk N9 (p := (L + 1 + 1, o1)) (by k_mem) (newsMk N9 (p := (L + 1, o2)) (by k_mem) ND1)) ?st ?turn ?done⟩
        case st =>
          as_aux_lemma =>
            refine ⟨[(T1, d0, t0, d1, t1), (T2, d2, t2, d3, t3)], o1, o2, D1, g1, .ref lf, [], rfl, ⟨_, c1⟩, ⟨_, c2⟩, hAp1, hG1, k1, fr1, gTT, rfl, fun q hq => ?_, ⟨lf, [], _, rfl, glf, .nil⟩, by simp, rfl, rfl, rfl, rfl, trivial⟩
            simp only [List.mem_cons, List.not_mem_nil, or_false] at hq
            rcases hq with rfl | rfl
            · exact ⟨⟨_, gT1, rfl, _, rfl⟩, h0, h0', h1, h1'⟩
            · exact ⟨⟨_, gT2, rfl, _, rfl⟩, h2, h2', h3, h3'⟩
        case ax =>
          rintro rest m' news' h' ⟨prs, o1, o2, D, g', lf, ws, rfl, _, _, hAp, hG, hgg, hfr, hTT, _⟩ F N
          exact hG.stays F (fun p hp => N p (by simp [hp])) _ _ hTT
        case done =>
          as_aux_lemma =>
            rintro h' tk' m' news' F N ⟨prs, o1, o2, D, g', lf, ws, rfl, _, _, hAp, hG, hgg, hfr, hTT, hrest, hprs, hws, htot, H⟩
            have : prs = [] := by cases prs with | nil => rfl | cons _ _ => cases hrest
            subst this
            simp only [List.flatMap_nil, List.append_nil] at htot
            subst htot
            replace F := frOf F H
            have hst := hG.stays F (fun p hp => N p (by simp [hp]))
            have kst : s.heap.StaysIn h' := fun b o e => F.keep b o e
            have G9 : Gx g s.heap h' g' := ⟨hgg, hst, hfr⟩
            clear F9 N9 ND1
            repeat' (first | walk1 | (dsimp only; walk1))
            exact h _ _ _ _ kst G9 hws
        case turn =>
          as_aux_lemma =>
            rintro v rest m₁ news₁ h₁ tk₁ I ito kK hK ⟨prs, o1, o2, D, g', lf, ws, rfl, ⟨v1, c1⟩, ⟨v2, c2⟩, hAp, hG, hgg, hfr, hTT, hrest, hprs, hws, htot, H⟩ hoff hc F N
            cases prs with
            | nil => cases hrest
            | cons pr prs =>
            obtain ⟨pa, f, tf, c, tc⟩ := pr
            obtain ⟨rfl, rfl⟩ : v = .ref pa ∧ rest = prs.map (fun q => Value.ref q.1) := by simpa using hrest
            obtain ⟨hpt, hf0, hf1, hc0, hc1⟩ := hprs _ (.head _)
            dsimp only at hpt hf0 hf1 hc0 hc1
            have hI1 : @Ne Nat (L + 1 + 1) I := hoff _ (.head _)
            have hI2 : @Ne Nat (L + 1) I := hoff _ (.tail _ (.head _))
            have hI0 : s.heap.get? I = none := (N (I, ito) (.head _)).2.2
            have hAp0 := hAp
            replace hAp : ApD D [I, L + 1 + 1, L + 1] := fun p hp a ha => by
              rcases List.mem_cons.mp ha with rfl | ha
              · exact hoff p (.tail _ (.tail _ hp))
              · exact hAp0 p hp a ha
            have hptH := isTup_keeps hpt (hG.stays F (fun p hp => N p (by simp [hp])))
            replace F := frOf F H
            clear F9 N9 ND1
            repeat' (first | walk1 | (dsimp only; walk1))
            as_aux_lemma =>
              rename Fr _ _ _ _ => F8; rename News _ _ _ _ => N8
              refine For_st F8 ?_
              have SA := And.intro F8 N8
              repeat' (first | walk1 | (dsimp only; walk1))
              as_aux_lemma =>
                rename Fr _ _ _ _ => F9; rename News _ _ _ _ => N9
                rename_i hh3 FX NX hh2 of dof hh1 TL hT lTL
                have hTL := N9 (TL, tupO [.int 2 tk, .int 1 (tk + 1), .int 0 (tk + 1 + 1)]) (by k_mem)
                have hl3 : ∀ a ∈ [I, L + 1 + 1, L + 1], s.heap.get? a = none := fun a ha => by
                  simp only [List.mem_cons, List.not_mem_nil, or_false] at ha
                  rcases ha with rfl | rfl | rfl <;> assumption
                obtain ⟨g2, D2, hG2, ND2, hAp2, k2, fr2, st2, all2, sub2⟩ := ghostAll F9 hg [I, L + 1 + 1, L + 1] hl3
                have ND9 : News s.heap L _ D := fun p hp => N9 p (by simp [hp])
                have hs2 : g'.StaysIn g2 := sub2 g' (hG.stays F9 ND9) hfr (fun a ha => hG.notin (hl3 a ha) (hAp.ne ha)) (hG.noL F9 ND9)
                have gTL := all2 TL _ hTL.1 hTL.2.2 hTL.2.1 (by simp only [List.mem_cons, List.not_mem_nil, or_false]; rintro (q | q | q); exact absurd q (by k_ne); exact absurd q (by k_ne); exact absurd q (by k_ne))
                refine ⟨turns_tup (items := [.int 2 tk, .int 1 (tk + 1), .int 0 (tk + 1 + 1)]) (oax := tupO [.int 2 tk, .int 1 (tk + 1), .int 0 (tk + 1 + 1)]) (JI g g' s.heap L I TL ito of (tupO [.int 2 tk, .int 1 (tk + 1), .int 0 (tk + 1 + 1)]) fonts sz f c (ws ++ lways fonts sz f c) [("code", .int c tc), ("fonts", .ref df), ("delimiter", .ref da), ("size", .int sz ts)]) rfl (fun h e => ⟨_, e, rfl, _, rfl⟩) (fun q => hTL.2.1 q.symm) ?ax F9 (newsMk N9 (p := (I, ito)) (by k_mem) (newsMk N9 (p := (L + 1 + 1, o1)) (by k_mem) (newsMk N9 (p := (L + 1, of)) (by k_mem) ND2))) ?st ?turn ?done⟩
                case st =>
                  exact ⟨[2, 1, 0], o1, D2, g2, lf, ws, rfl, ⟨_, c1⟩, hAp2, hG2, hs2, k2, fr2, gTL, .cons _ _ (.cons _ _ (.cons _ _ .nil)), by simp, hws.keeps hs2, rfl, rfl, rfl, rfl, rfl, rfl, trivial⟩
                case ax =>
                  rintro rest m' news' h' ⟨ls, o1, D, g', lf, ws, rfl, _, hAp, hG, _, hgg, hfr, hTT, _⟩ F N
                  exact hG.stays F (fun p hp => N p (by simp [hp])) _ _ hTT
                case done =>
                  as_aux_lemma =>
                    rintro h' tk' m' news' F N ⟨ls, o1', D', g3, lf', ws', rfl, c1', hAp', hG', hk3, hgg', hfr', hTT', hil, hls, hws', htot', H⟩
                    cases hil
                    simp only [List.flatMap_nil, List.append_nil] at htot'
                    subst htot'
                    clear F9 N9 ND2 ND9
                    have SF := And.intro F N
                    repeat' (first | walk1 | (dsimp only; walk1))
                    as_aux_lemma =>
                      obtain ⟨F, N⟩ := SF
                      refine ⟨h', tk', m', (L + 1 + 1, o1') :: (L + 1, of) :: D', rfl, F, N, ?_, prs, o1', of, D', g3, lf', _, rfl, c1', ⟨_, dof⟩, ?_, hG', hgg', hfr', hk3 _ _ hTT, rfl, ?_, hws', ?_, H.1, H.2.2.1, H.2.2.2.1, H.2.2.2.2.1, trivial⟩
                      · as_aux_lemma =>
                          intro p hp
                          rcases List.mem_cons.mp hp with rfl | hp
                          · exact hI1
                          rcases List.mem_cons.mp hp with rfl | hp
                          · exact hI2
                          · exact hAp'.ne (by simp) p hp
                      · exact fun p hp a ha => hAp' p hp a (.tail _ ha)
                      · intro q hq
                        have := hprs q (.tail _ hq)
                        exact ⟨isTup_keeps this.1 hk3, this.2⟩
                      · rw [← htot, List.flatMap_cons, List.append_assoc]
                case turn =>
                  as_aux_lemma =>
                    rintro v rest m₁ news₁ h₁ tk₁ I2 ito2 kK hK ⟨ls, o1', D', g3, lf', ws', rfl, ⟨v1', c1'⟩, hAp', hG', hk3, hgg', hfr', hTT', hil, hls, ⟨la, lvs, ln, rfl, gla, hwv⟩, htot', H⟩ hoff2 hc2 F N
                    cases hil with | cons lv tlv hil =>
                    rename_i rest ls
                    have hlv := hls lv (.head _)
                    have hJ1 : @Ne Nat I I2 := hoff2 _ (.head _)
                    have hJ2 : @Ne Nat (L + 1 + 1) I2 := hoff2 _ (.tail _ (.head _))
                    have hJ3 : @Ne Nat (L + 1) I2 := hoff2 _ (.tail _ (.tail _ (.head _)))
                    have hI20 : s.heap.get? I2 = none := (N (I2, ito2) (.head _)).2.2
                    have hApK := hAp'
                    replace hAp' : ApD D' [I2, I, L + 1 + 1, L + 1] := fun p hp a ha => by
                      rcases List.mem_cons.mp ha with rfl | ha
                      · exact hoff2 p (.tail _ (.tail _ (.tail _ hp)))
                      · exact hApK p hp a ha
                    have hl4 : ∀ a ∈ [I2, I, L + 1 + 1, L + 1], s.heap.get? a = none := fun a ha => by
                      rcases List.mem_cons.mp ha with rfl | ha
                      · exact hI20
                      · exact hl3 a ha
                    replace F := frOf F H
                    clear F9 N9 ND2 ND9 hAp2 hAp hAp0
                    rcases findR_all2 hall (3 * f + lv) with ⟨hv, hfi⟩ | ⟨v, rws, hv, hfi, hrw⟩
                    · repeat' (first | walk1 | (dsimp only; walk1))
                      as_aux_lemma =>
                        rename Fr _ _ _ _ => F8; rename News _ _ _ _ => N8
                        refine If_go (fun m pre => pre = [] ∧ Has m [("found", .ref la), ("code", .int c tc), ("fonts", .ref df), ("delimiter", .ref da), ("size", .int sz ts)]) F8 N8 (fun going => ?_) (fun h' tk m' pre F N j => ?_)
                        · repeat' (first | walk1 | (dsimp only; walk1))
                          all_goals (rename Fr _ _ _ _ => F7; rename News _ _ _ _ => N7; exact ⟨_, _, _, [], rfl, F7, (by first | exact N7 | exact newsTl (newsTl N7)), rfl, rfl, rfl, rfl, rfl, rfl, trivial⟩)
                        · as_aux_lemma =>
                            obtain ⟨rfl, H⟩ := j
                            simp only [List.nil_append] at N
                            have hnil : lway fonts sz f c lv = [] := by unfold lway; rw [hfi]; split <;> rfl
                            rw [List.flatMap_cons, hnil, List.nil_append] at htot'
                            have SF := And.intro F N
                            repeat' (first | walk1 | (dsimp only; walk1))
                            as_aux_lemma =>
                              obtain ⟨F, N⟩ := SF
                              exact ⟨h', tk, m', (I, ito) :: (L + 1 + 1, _) :: (L + 1, of) :: D', rfl, F, N, (fun p hp => by
                                rcases List.mem_cons.mp hp with rfl | hp
                                · exact hJ1
                                rcases List.mem_cons.mp hp with rfl | hp
                                · exact hJ2
                                rcases List.mem_cons.mp hp with rfl | hp
                                · exact hJ3
                                · exact hAp'.ne (by simp) p hp), ls, _, D', g3, .ref la, ws', rfl, ⟨_, by assumption⟩, hApK, hG', hk3, hgg', hfr', hTT', hil, fun l hl => hls l (.tail _ hl), ⟨la, lvs, ln, rfl, gla, hwv⟩, htot', H.1, H.2.1, H.2.2.1, H.2.2.2.1, H.2.2.2.2.1, trivial⟩
                    · as_aux_lemma =>
                        obtain ⟨ra, rvs, rfl, hrl, hral⟩ := hrw
                        repeat' (first | walk1 | (dsimp only; walk1))
                        as_aux_lemma =>
                          rename Fr _ _ _ _ => F8; rename News _ _ _ _ => N8
                          refine If_go (fun m pre => ∃ g5 la5, Gh s.heap g5 pre ∧ ApD pre [I2, I, L + 1 + 1, L + 1] ∧ g3.StaysIn g5 ∧ g.StaysIn g5 ∧ (∀ b o, g5.get? b = some o → g.get? b = some o ∨ s.heap.get? b = none) ∧ WaysV g5 (.ref la5) (ws' ++ lway fonts sz f c lv) ∧ Has m [("found", .ref la5), ("code", .int c tc), ("fonts", .ref df), ("delimiter", .ref da), ("size", .int sz ts)]) F8 (newsMk N8 (p := (I2, ito2)) (by k_mem) (newsMk N8 (p := (I, ito)) (by k_mem) (newsMk N8 (p := (L + 1 + 1, _)) (.tail _ (.tail _ (.head _))) (newsMk N8 (p := (L + 1, of)) (by k_mem) News.nil)))) (fun going => ?_) (fun h' tk m' pre F N j => ?_)
                          · repeat' (first | walk1 | (dsimp only; walk1))
                            · rename Fr _ _ _ _ => F7; rename News _ _ _ _ => N7
                              refine ⟨_, _, _, D', rfl, F7, (fun p hp => N7 p (by simp only [List.mem_append, List.mem_cons, List.not_mem_nil, or_false] at hp ⊢; rcases hp with h | h | h | h | h <;> simp [h])), g3, la, hG', hAp', fun _ _ e => e, hgg', hfr', ?_, rfl, rfl, rfl, rfl, rfl, trivial⟩
                              rw [show lway fonts sz f c lv = [] by unfold lway; rw [if_neg (fun q => by rename (_ && _) = true => e9; simp at e9; exact q.2 e9)], List.append_nil]
                              exact ⟨la, lvs, ln, rfl, gla, hwv⟩
                            · rename Fr _ _ _ _ => F7; rename News _ _ _ _ => N7; rename (_ && _) = false => e9; rename lv ≤ sz => hlvs
                              have hway : lway fonts sz f c lv = (chainF rws c).map fun r => (3 * f + lv, r) := by
                                unfold lway
                                rw [if_pos ⟨hlvs, fun q => by rw [q.1, q.2] at e9; cases e9⟩, hfi]
                              obtain ⟨ok1, ok2, ok3, ok4⟩ : rws.length ≤ 100 ∧ WFr rws ∧ (∀ r ∈ rws, r.code ≤ 10) ∧ (rws.map (·.code)).Nodup := by
                                unfold findR at hfi
                                obtain ⟨q, e, rfl⟩ := Option.map_eq_some_iff.mp hfi
                                exact hok q (List.mem_of_find?_eq_some e)
                              refine ⟨LComp_go F7 (by with_unfolding_all rfl) (by decide) (by rfl) (by decide) ?_⟩
                              repeat' (first | walk1 | (dsimp only; walk1))
                              as_aux_lemma =>
                                rename Fr _ _ _ _ => F7; rename News _ _ _ _ => N7
                                have ND7 : News s.heap L _ D' := fun p hp => N7 p (by simp [hp])
                                have hst7 := hG'.stays F7 ND7
                                refine ⟨law_chain_spec (mg := mg) (mb := mb) (g := g3) (Rm.le Rm.an (by decide)) (X.keeps F7.keep) (trKeep T F7) hst7 (RowsV.keeps ⟨ra, rvs, rfl, hrl, hral⟩ hgg') ok1 ok2 ok3 ok4 hc0 hc1 (fun h7 tk7 g6 v6 k7 G6 hv6 => ?_)⟩
                                obtain ⟨hG6, N6⟩ := hG'.grow F7 ND7 k7 G6
                                obtain ⟨q1, q2⟩ := gfresh F7 hgg' hfr' G6
                                have F6 := frAfter F7 k7
                                have N7a := newsAfter N7 k7
                                obtain ⟨rb, rbs, rfl, ⟨ob, eob, rob⟩, hrb⟩ := hv6
                                have hAp6 : ApD (dOf s.heap g6) [I2, I, L + 1 + 1, L + 1] := ApD.of hAp' hG' G6 (fun a ha => by
                                  simp only [List.mem_cons, List.not_mem_nil, or_false] at ha
                                  rcases ha with rfl | rfl | rfl | rfl
                                  · exact ⟨_, (N7 (a, ito2) (by k_mem)).1⟩
                                  · exact ⟨_, (N7 (a, ito) (by k_mem)).1⟩
                                  · exact ⟨_, (N7 (L + 1 + 1, _) (by first | exact .head _ | exact .tail _ (.tail _ (.tail _ (.tail _ (.head _)))))).1⟩
                                  · exact ⟨_, (N7 (L + 1, of) (by k_mem)).1⟩)
                                have hls : ∀ h : Heap, h.get? rb = some ob → h.IsList rb rbs.toArray := fun h e => ⟨ob, e, rob⟩
                                have hsrc : ∀ D, (∀ p ∈ dOf s.heap g6, p ∈ D) → Src s.heap rb ob D := fun D hD => by
                                  rcases hG6.d rb ob eob with q | q
                                  · exact .inl q
                                  · exact .inr (hD _ q)
                                have hrbl : rbs.length ≤ 20 := by have := hrb.length; have := chain_len (rows := rws) 20 c; unfold chainF at *; omega
                                have l7 : ∀ a ∈ [I2, I, L + 1 + 1, L + 1], ∃ o, Heap.get? _ a = some o := fun a ha => by
                                  simp only [List.mem_cons, List.not_mem_nil, or_false] at ha
                                  rcases ha with rfl | rfl | rfl | rfl
                                  · exact ⟨_, (N7a (a, ito2) (by k_mem)).1⟩
                                  · exact ⟨_, (N7a (a, ito) (by k_mem)).1⟩
                                  · exact ⟨_, (N7a (L + 1 + 1, _) (by first | exact .head _ | exact .tail _ (.tail _ (.tail _ (.tail _ (.head _)))))).1⟩
                                  · exact ⟨_, (N7a (L + 1, of) (by k_mem)).1⟩
                                refine cgo_list (JW3 s.heap g g6 (dOf s.heap g6) [I2, I, L + 1 + 1, L + 1] [(I2, ito2), (I, ito), (L + 1 + 1, _), (L + 1, of)] ((chainF rws c).map fun r => (3 * f + lv, r))) _ hls (by omega) F6 (newsMk N7a (p := (I2, ito2)) (by k_mem) (newsMk N7a (p := (I, ito)) (by k_mem) (newsMk N7a (p := (L + 1 + 1, _)) (by first | exact .head _ | exact .tail _ (.tail _ (.tail _ (.tail _ (.head _))))) (newsMk N7a (p := (L + 1, of)) (by k_mem) N6)))) (hsrc _ (fun p hp => by simp [hp]))
                                  ⟨g6, _, rfl, hAp6, hG6, fun _ _ e => e, q1, q2, fun _ h => h, .nil⟩ (fun g9 => casg_name (by rfl) (by rfl)) ?_ ?_
                                · as_aux_lemma =>
                                    rintro g9 i v ys news I3 oI3 C3 oC3 D9 m₂ h9 tk9 E' kK2 kK hK2 hK hi hv ⟨g4, D4, rfl, hAp4, hG4, hk64, hgg4, hfr4, hsub, hall4⟩ hC hx9 F N off ne
                                    obtain ⟨r, hri, hrv⟩ := hrb.get hv
                                    simp only [List.cons_append, List.nil_append] at N
                                    clear F7 N7 F6 N7a N6 ND7
                                    refine wpAny_tests_nil ?_
                                    simp only [if_true]
                                    repeat' (first | walk1 | (dsimp only; walk1))
                                    as_aux_lemma =>
                                      rename Fr _ _ _ _ => F9; rename News _ _ _ _ => N9
                                      refine turn_one2 F9 N9 off (by k_ne) (by k_ne) (by k_ne) hG4 (hsrc _ (fun p hp => by have := hsub p hp; simp [this])) (fun gT hGT kT hT cT hT0 => ?_)
                                      obtain ⟨q3, q4⟩ := Gh.step hgg4 hfr4 kT cT hT0
                                      refine ⟨gT, _, rfl, hAp4.cons (fun a ha => ?_), hGT, fun b o e => kT b o (hk64 b o e), q3, q4, fun p hp => .tail _ (hsub p hp), ?_⟩
                                      · simp only [List.mem_cons, List.not_mem_nil, or_false] at ha
                                        rcases ha with rfl | rfl | rfl | rfl <;> k_ne
                                      · rw [take_one (c := (3 * f + lv, r)) (by rw [List.getElem?_map, hri]; rfl)]
                                        exact (hall4.imp fun _ _ q => q.keeps kT).append (.cons ⟨_, _, _, rfl, ⟨_, hT, rfl, _, rfl⟩, (hrv.keeps hk64).keeps kT⟩ .nil)
                                · as_aux_lemma =>
                                    rintro g9 ys news ⟨g4, D4, rfl, hAp4, hG4, hk64, hgg4, hfr4, hsub, hall4⟩ hyl D9 h9 tk9 F N off
                                    simp only [List.cons_append, List.nil_append] at N off
                                    simp only [LCg.Off1] at off
                                    clear F7 N7 F6 N7a N6 ND7
                                    have hyl9 : ys.length ≤ 20 := by omega
                                    rw [List.take_of_length_le (by rw [List.length_map]; have := hrb.length; omega), ← hway] at hall4
                                    have hst4 := hG4.stays F (fun p hp => N p (by simp [hp]))
                                    have hlvl : lvs.length ≤ 500 := by
                                      have h1 := hwv.length; have h2 := congrArg List.length htot'; have h3 := congrArg List.length htot
                                      have h4 := lways_len fonts sz f c; have h5 := lways_len fonts sz d0 d1; have h6 := lways_len fonts sz d2 d3
                                      simp only [List.length_append] at h2 h3
                                      omega
                                    repeat' (first | walk1 | (dsimp only; walk1))
                                    as_aux_lemma =>
                                      rename Fr _ _ _ _ => F9; rename News _ _ _ _ => N9
                                      have hla := hst4 _ _ (hk64 _ _ (G6.a _ _ gla))
                                      refine ⟨ladd2 (vs := lvs) (ws := ys) F9 N9 ⟨_, hla, rfl, _, rfl⟩ (News.isList N9 (by k_mem)) (by omega) (fun RL h5 k5 F5 N5 l5 => ?_)⟩
                                      k_lt l5
                                      have SG := And.intro F5 N5
                                      clear F9 N9
                                      repeat' (first | walk1 | (dsimp only; walk1))
                                      as_aux_lemma =>
                                        rename Fr _ _ _ _ => F9; rename News _ _ _ _ => N9
                                        obtain ⟨g8, D8, hG8, ND8, hAp8, k8, fr8, st8, all8, sub8⟩ := ghostAll F9 hg [I2, I, L + 1 + 1, L + 1] hl4
                                        have ND4 : News s.heap L _ D4 := fun p hp => N9 p (by simp [hp])
                                        have hs8 : g4.StaysIn g8 := sub8 g4 (hG4.stays F9 ND4) hfr4 (fun a ha => hG4.notin (hl4 a ha) (hAp4.ne ha)) (hG4.noL F9 ND4)
                                        have mRL := N9 (RL, W.listOf (lvs ++ ys).toArray k5) (by k_mem)
                                        have gRL := all8 RL _ mRL.1 mRL.2.2 mRL.2.1 (by simp only [List.mem_cons, List.not_mem_nil, or_false]; rintro (q | q | q | q); exact absurd q (by k_ne); exact absurd q (by k_ne); exact absurd q (by k_ne); exact absurd q (by k_ne))
                                        refine ⟨_, _, _, D8, rfl, F9, (fun p hp => ?_), g8, RL, hG8, hAp8, fun b o e => hs8 b o (hk64 b o (G6.a b o e)), k8, fr8, ⟨RL, lvs ++ ys, _, rfl, gRL, (hwv.imp fun _ _ q => ((q.keeps G6.a).keeps hk64).keeps hs8).append (hall4.imp fun _ _ q => q.keeps hs8)⟩, rfl, rfl, rfl, rfl, rfl, trivial⟩
                                        rcases List.mem_append.mp hp with hp | hp
                                        · exact ND8 p hp
                                        · simp only [List.mem_cons, List.not_mem_nil, or_false] at hp
                                          rcases hp with h | h | h | h <;> exact N9 p (by simp [h])
                            · rename Fr _ _ _ _ => F7; rename News _ _ _ _ => N7
                              refine ⟨_, _, _, D', rfl, F7, (fun p hp => N7 p (by simp only [List.mem_append, List.mem_cons, List.not_mem_nil, or_false] at hp ⊢; rcases hp with h | h | h | h | h <;> simp [h])), g3, la, hG', hAp', fun _ _ e => e, hgg', hfr', ?_, rfl, rfl, rfl, rfl, rfl, trivial⟩
                              rw [show lway fonts sz f c lv = [] by unfold lway; rw [if_neg (fun q => absurd q.1 (by assumption))], List.append_nil]
                              exact ⟨la, lvs, ln, rfl, gla, hwv⟩
                          · as_aux_lemma =>
                              obtain ⟨g5, la5, hG5, hAp5, k35, k5, fr5, hw5, H⟩ := j
                              have SF := And.intro F N
                              rw [List.flatMap_cons, ← List.append_assoc] at htot'
                              repeat' (first | walk1 | (dsimp only; walk1))
                              as_aux_lemma =>
                                obtain ⟨F, N⟩ := SF
                                exact ⟨h', tk, m', (I, ito) :: (L + 1 + 1, _) :: (L + 1, of) :: pre, rfl, F, (newsMk N (p := (I2, ito2)) (by simp) (newsMk N (p := (I, ito)) (by simp) (newsMk N (p := (L + 1 + 1, _)) (List.mem_append_right _ (.tail _ (.tail _ (.head _)))) (newsMk N (p := (L + 1, of)) (by simp) (fun p hp => N p (by simp [hp])))))), (fun p hp => by
                                  rcases List.mem_cons.mp hp with rfl | hp
                                  · exact hJ1
                                  rcases List.mem_cons.mp hp with rfl | hp
                                  · exact hJ2
                                  rcases List.mem_cons.mp hp with rfl | hp
                                  · exact hJ3
                                  · exact hAp5.ne (by simp) p hp), ls, _, pre, g5, .ref la5, _, rfl, ⟨_, by assumption⟩, fun p hp a ha => hAp5 p hp a (.tail _ ha), hG5, fun b o e => k35 b o (hk3 b o e), k5, fr5, k35 _ _ hTT', hil, fun l hl => hls l (.tail _ hl), hw5, htot', H.1, H.2.1, H.2.2.1, H.2.2.2.1, H.2.2.2.2.1, trivial⟩
end
end Mine
end
section
open PySem PySem.W PyProof.Rows PySem.Calls
set_option maxHeartbeats 1000000
namespace Mine
section
variable {w : World} {A : Around} {s : Shared} {E : Value → Shared → Prop} {h₀ : Heap} {L : Addr} {m : Str → Option Value} {env : Env}
noncomputable def BdP (g : Heap) (x y : Str) (v : Value) (m₂ : Str → Option Value) : Prop := ∀ T a b, v = .ref T → IsTup g T #[a, b] → m₂ x = some a ∧ m₂ y = some b
theorem isTup_same {h : Heap} {T : Addr} {xs ys : Array Value} (a : IsTup h T xs) (b : IsTup h T ys) : xs = ys := by
  obtain ⟨o, e, c, n, d⟩ := a
  obtain ⟨o', e', c', n', d'⟩ := b
  rw [e] at e'; cases e'
  rw [d] at d'; cases d'
  rfl
theorem casg_pair {g : Heap} {x y : Str} {px py pos : Pos} {k : Nat} {scope : Scope} {cl : List (Str × Addr)} {n : Nat} {P : Nat → Value → Prop} {J : Nat → List Value → List (Addr × Obj) → Prop} (hg : g.StaysIn h₀) (hx : scope.names.lookup x = some .local) (hy : scope.names.lookup y = some .local) (hxy : x ≠ y) (hkind : scope.kind = .function)
    (hv : ∀ i v, P i v → ∃ T a b, v = .ref T ∧ IsTup g T #[a, b]) (hh : A.handled = none := by rfl) :
    CAsg w A h₀ L m env (.Tuple [.Name x px, .Name y py] k pos) scope cl n P (BdP g x y) J s := by
  intro i v ys news C h tk m' E' _ hp _ F _ hn _
  obtain ⟨T, a, b, rfl, hT⟩ := hv i v hp
  have hTh : IsTup h T #[a, b] := isTup_keeps (isTup_keeps hT hg) F.keep
  have hC : C < h.objs.size := hn.lt
  refine wpAny_assign_Tuple hh hTh rfl rfl (fun h' ex => ?_)
  have hn' : h'.Ns C m' := hn.at' fun o e => ex C o (Nat.ne_of_lt hC) e
  show wpAny _ A (holding [b] (assign (.Name x px) (compEnvC scope cl C env) a) >>= fun _ => (holding [] (assign (.Name y py) (compEnvC scope cl C env) b) >>= fun _ => pure ())) _ _ _
  refine wpAny_bind (wpAny_holding (wpAny_assign_Name (wpAny_storeName_local (lookup_relabel_local hx) hn' (fun h₃ hn₃ hs₃ => ?_) (by simp [compEnvC, relabel, hkind]))))
  refine wpAny_bind (wpAny_holding (wpAny_assign_Name (wpAny_storeName_local (lookup_relabel_local hy) hn₃ (fun h₄ hn₄ hs₄ => ?_) (by simp [compEnvC, relabel, hkind]))))
  refine wpAny_pure ⟨h₄, _, _, rfl, hn₄, fun q o q1 e => hs₄.extBut q o q1 (hs₃.extBut q o q1 (ex q o (Nat.ne_of_lt (Heap.lt_size e)) e)), ?_⟩
  intro T' a' b' e hT'
  cases e
  have := isTup_same hT hT'
  simp only [List.toArray_inj, Array.mk.injEq, List.cons.injEq, and_true] at this
  obtain ⟨rfl, rfl⟩ := this
  simp [hxy]
end
end Mine
end
theorem Mine.kbase5 : True := by
  k_with_none
  k_with "om" =>
    first
    | with_reducible assumption
    | decide +kernel
    | (with_reducible show @LE.le Int _ _ _); first
      | with_reducible exact Int.natCast_nonneg _
      | with_reducible exact Int.le_refl _
      | with_reducible exact Int.le_trans (by with_reducible assumption) (by decide +kernel)
      | with_reducible exact oi1 (by with_reducible assumption) (by decide +kernel)
      | with_reducible exact oiC (by with_reducible assumption) (by decide +kernel)
      | with_reducible exact oi4 (by with_reducible assumption) (by decide +kernel)
      | with_reducible exact oi5 (by with_reducible assumption) (by decide +kernel)
      | with_reducible exact oiM (by with_reducible assumption) (by decide +kernel)
      | with_reducible exact oiB (by with_reducible assumption) (by decide +kernel)
      | with_reducible exact oiD (by with_reducible assumption) (by decide +kernel)
      | with_reducible exact Int.mul_nonneg (by decide +kernel) (by with_reducible assumption)
      | with_reducible exact Int.le_add_of_nonneg_right (by with_reducible assumption)
      | with_reducible exact Int.le_add_of_nonneg_right (by decide +kernel)
      | with_reducible exact Int.add_nonneg (by with_reducible assumption) (by decide +kernel)
      | with_reducible exact Int.add_nonneg (by decide +kernel) (by with_reducible assumption)
      | with_reducible exact oiG (by with_reducible assumption) (by decide +kernel)
      | ((repeat with_reducible refine oiE ?_); with_reducible exact Int.le_add_of_nonneg_right (by decide +kernel))
      | with_reducible exact oaR (by with_reducible assumption) (by decide +kernel)
      | with_reducible exact oaL (by with_reducible assumption) (by decide +kernel)
    | (with_reducible show @LT.lt Int _ _ _); first
      | with_reducible exact Int.lt_of_le_of_lt (by with_reducible assumption) (by decide +kernel)
      | with_reducible exact Int.lt_of_lt_of_le (by with_reducible assumption) (by decide +kernel)
      | with_reducible exact oi2 (by with_reducible assumption) (by decide +kernel)
      | with_reducible exact oi3 (by with_reducible assumption) (by decide +kernel)
      | with_reducible exact oiF (by with_reducible assumption) (by decide +kernel)
      | with_reducible exact oaS (by with_reducible assumption) (by decide +kernel)
      | with_reducible exact oaT (by with_reducible assumption) (by decide +kernel)
      | ((repeat with_reducible refine oiS ?_); with_reducible exact oi2 (by with_reducible assumption) (by decide +kernel))
      | (with_reducible refine' Int.lt_of_lt_of_le ?h ?d; (case h => (repeat (with_reducible refine' oiA ?_)); with_reducible assumption); (case d => decide +kernel))
    | (with_reducible show @LE.le Nat _ _ _); first
      | with_reducible exact Nat.le_trans (by with_reducible assumption) (by decide +kernel)
      | with_reducible exact on1 (by with_reducible assumption) (by decide +kernel)
      | with_reducible exact on4 (by with_reducible assumption) (by decide +kernel)
      | with_reducible exact on7 (by with_reducible assumption) (by with_reducible assumption) (by decide +kernel)
      | with_reducible exact on8 (by with_reducible assumption) (by with_reducible assumption) (by decide +kernel)
      | with_reducible exact onB (by with_reducible assumption) (by decide +kernel)
    | (with_reducible show @LT.lt Nat _ _ _); first
      | with_reducible exact abB (by with_reducible assumption) (by with_reducible assumption) (by decide +kernel)
      | with_reducible exact abC (by with_reducible assumption) (by with_reducible assumption) (by decide +kernel)
      | with_reducible exact abD (by with_reducible assumption) (by with_reducible assumption) (by decide +kernel)
      | with_reducible exact Nat.lt_of_le_of_lt (by with_reducible assumption) (by decide +kernel)
      | with_reducible exact Nat.lt_of_lt_of_le (by with_reducible assumption) (by decide +kernel)
      | with_reducible exact on2 (by with_reducible assumption) (by decide +kernel)
      | with_reducible exact Nat.lt_add_one _
      | ((with_reducible show Int.toNat (_ - _) + 1 < Int.toNat (_ - _) + 1); exact tnD (by omega) (by omega))
      | ((repeat with_reducible refine onS ?_); with_reducible exact on2 (by with_reducible assumption) (by decide +kernel))
    | ((with_reducible show ¬ (decide (_ ≤ _) && decide (_ ≤ _)) = !true); refine bndN ?_ ?_ <;> omega)
    | ((with_reducible show ¬ ((_ : Int) < _)); refine Int.not_lt.mpr ?_; omega)
    | ((with_reducible show ¬ ((_ : Int) ≤ _)); refine Int.not_le.mpr ?_; omega)
    | ((with_reducible show And _ _); refine And.intro ?_ ?_ <;> omega)
    | lia
  k_with "ne" =>
    (try dsimp only); first | with_reducible assumption | (refine Ne.symm ?_; with_reducible assumption) | exact Nat.ne_of_lt (by with_reducible assumption) | exact Nat.ne_of_gt (by with_reducible assumption) | (refine pkH (by with_reducible assumption) ?_; (repeat (first | exact And.left | exact id | refine pkT ?_)); done) | (refine pkS (by with_reducible assumption) ?_; (repeat (first | exact And.left | exact id | refine pkT ?_)); done) | exact nl1 (by with_reducible assumption) | exact nl2 (by with_reducible assumption) | exact Ne.symm (nl1 (by with_reducible assumption)) | exact Ne.symm (nl2 (by with_reducible assumption))
  k_with "execs cons" => (first | k_gentoks | ((first | (with_reducible show wpAny _ _ (execs [_] _) (KQ _) _ _) | (with_reducible show wpAny _ _ (execs [_] _) (KG _) _ _)); refine' execs1 ?_) | (refine' execsH ?_; first | ((fail_if_success (have := kn1)); intro kq1 kn1 ko1) | ((fail_if_success (have := kn2)); intro kq2 kn2 ko2) | ((fail_if_success (have := kn3)); intro kq3 kn3 ko3)))
  k_with "exs" => (first | k_gentoks | ((first | (with_reducible show wpAny _ _ (execs [_] _) (KQ _) _ _) | (with_reducible show wpAny _ _ (execs [_] _) (KG _) _ _)); refine' execs1 ?_) | (refine' execsN ?_; first | ((fail_if_success (have := kn1)); intro kq1 kn1) | ((fail_if_success (have := kn2)); intro kq2 kn2) | ((fail_if_success (have := kn3)); intro kq3 kn3)))
  k_with "execs cons Assign" => k_extra "exs"
  k_with "execs cons AugAssign" => k_extra "exs"
  k_with "execs cons Expr" => k_extra "exs"
  k_with "KG" => (first | (refine' kn3 _ ?_; (try clear ko3); clear kn3 kq3) | (refine' kn2 _ ?_; (try clear ko2); clear kn2 kq2) | (refine' kn1 _ ?_; (try clear ko1); clear kn1 kq1) | (refine' ko3 _ _ rfl ?_; clear ko3 kn3 kq3) | (refine' ko2 _ _ rfl ?_; clear ko2 kn2 kq2) | (refine' ko1 _ _ rfl ?_; clear ko1 kn1 kq1)); (try dsimp only)
  k_with "KQ" => (first | ((rename (∀ a s, _ → KQ _ a s) => kz); refine' kz _ _ ?_) | ((rename (∀ (_ : Unit) s, _ → KQ _ () s) => kz); refine' kz () _ ?_)); clear kz; (try clear kyb); try dsimp only
  k_with "isT" => (goal_has PySem.execs; (fail_if_success (with_reducible show wpAny _ _ _ (KQ _) _ _)); refine' hideQ ?_; intro kyb kyh)
  k_with "isTrue Compare" => k_extra "isT"
  k_with "isTrue BoolOp" => k_extra "isT"
  k_with "isTrue UnaryOp" => k_extra "isT"
  k_with "exec While BoolOp" => (refine' stop_here ?_)
  k_with "exec For Tuple Tuple cons nil" => (refine' stop_here ?_)
  k_with "exec For Name Name cons nil" => (refine' stop_here ?_)
  k_with "exec For Name Attribute cons nil" => (refine' stop_here ?_)
  k_with "last exec For Name" => (refine' stop_here ?_)
  k_with "last exec For" => (refine' stop_here ?_)
  k_with "exec While" => (refine' stop_here ?_)
  k_with "last exec While" => (refine' stop_here ?_)
  k_with "exec For" => (refine' stop_here ?_)
  k_with "last exec For Name Name" => (refine' stop_here ?_)
  k_with "exec For Name Call cons nil" => (refine' stop_here ?_)
  k_with "exec For Name Tuple cons nil" => (refine' stop_here ?_)
  k_with "exec For Tuple Name cons nil" => (refine' stop_here ?_)
  k_with "exec While Compare" => (refine' stop_here ?_)
  k_with "exec For Tuple Call cons nil" => (refine' stop_here ?_)
  trivial
section
set_option maxHeartbeats 1000000
namespace Mine
section
variable {w : World} {A : Around} {s : Shared} {E : Value → Shared → Prop} {Q : Value → Shared → Prop} {mg mb : Str → Option Value}
theorem ksetLh1 : True := by
  k_with "p world" => (first | exact Rm.le Rm.an (by decide) | k_in | exact trKeep (by k_asm) (by k_asm))
  k_with "p after" => (intro _ _ kS; (rename Fr _ _ _ _ => kF); (rename News _ _ _ _ => kN); (have _ := frAfter kF kS); (have _ := newsAfter kN kS); (try k_sweep); intros)
  k_with "TurnP" => (dsimp only [TurnP])
  k_with "WStep" => (dsimp only [WStep])
  k_with "call type:enumerate" => (refine' stop_here ?_)
  k_with "TurnPs" => (dsimp only [TurnPs])
  k_with "binaryOp Add ref ref" => (k_dflt (refine' kde_addT ?k1 ?k2 ?k3 ?k4 ?k5 ?k6 ?k7 ?k8 ?_; (case k1 => k_asm); (case k2 => k_asm); (case k3 => first | exact News.isTup (by k_asm) (by k_mem) | exact Fr.tup (by k_asm) (by k_asm)); (case k4 => first | exact News.isTup (by k_asm) (by k_mem) | exact Fr.tup (by k_asm) (by k_asm)); (case k5 => exact List.cons_ne_nil _ _); (case k6 => exact List.cons_ne_nil _ _); (case k7 => exact Nat.le_of_ble_eq_true rfl); (case k8 => kl_lit); k_whole); intro D' h' F' N' l1; (try k_lt l1); (try k_sweep))
  k_with "subscriptTail Name Slice ref ref" => ((with_reducible show wpAny _ _ (subscriptTail _ (PySem.Expr.Slice _ (some _) none _) (Value.ref _) (Value.ref _)) _ _ _); k_dflt (refine' slice_tuple_run ?F ?N ?lo ?t ?e ?a ?b ?n ?z ?_ ?ss ?g ?zz; (case F => k_asm); (case N => k_asm); (case t => first | exact News.isTup (by k_asm) (by k_mem) | exact Fr.tup (by k_asm) (by k_asm) | k_asm); (case lo => first | exact LoV.none | exact LoV.int 1 _); (case e => first | exact (rfl : (4 : Int) = ((4 : Nat) : Int)) | exact (rfl : (5 : Int) = ((5 : Nat) : Int)) | exact (rfl : (7 : Int) = ((7 : Nat) : Int)) | exact (rfl : (2 : Int) = ((2 : Nat) : Int))); (case a => rfl); (case b => rfl); (case n => rfl); (case z => first | kl_lit | with_unfolding_all rfl); (case ss => with_unfolding_all rfl); (case g => kmk_pure); (case zz => first | exact Nat.le_of_ble_eq_true rfl | kmk_size)); intro D' h' F' N' l1; (try k_lt l1); (try k_sweep))
  k_with "subscriptTail" => ((with_reducible show wpAny _ _ (subscriptTail _ (PySem.Expr.Slice _ (some _) none _) (Value.ref _) (Value.ref _)) _ _ _); k_dflt (refine' slice_tuple_run ?F ?N ?lo ?t ?e ?a ?b ?n ?z ?_ ?ss ?g ?zz; (case F => k_asm); (case N => k_asm); (case t => first | exact News.isTup (by k_asm) (by k_mem) | exact Fr.tup (by k_asm) (by k_asm) | k_asm); (case lo => first | exact LoV.none | exact LoV.int 1 _); (case e => first | exact (rfl : (4 : Int) = ((4 : Nat) : Int)) | exact (rfl : (5 : Int) = ((5 : Nat) : Int)) | exact (rfl : (7 : Int) = ((7 : Nat) : Int)) | exact (rfl : (2 : Int) = ((2 : Nat) : Int))); (case a => rfl); (case b => rfl); (case n => rfl); (case z => first | kl_lit | with_unfolding_all rfl); (case ss => with_unfolding_all rfl); (case g => kmk_pure); (case zz => first | exact Nat.le_of_ble_eq_true rfl | kmk_size)); intro D' h' F' N' l1; (try k_lt l1); (try k_sweep))
  k_with "call builtin:len" => ((with_reducible show wpAny _ _ (call (Value.builtin "len") [Value.ref _]) _ _ _); k_dflt (refine' tlen_base ?k1 ?k2 ?k3 ?k4 ?_; (case k1 => k_asm); (case k2 => k_asm); (case k3 => first | exact (rfl : _ = (5 : Int)) | exact (rfl : _ = (7 : Int)) | exact (rfl : _ = (6 : Int)) | exact (rfl : _ = (4 : Int))); (case k4 => decide); k_whole))
  k_with "setItem ref int" => (refine' stop_here ?_)
  k_with "compareOp In int ref" => (k_dflt (refine' in_base_f ?k1 ?k2 ?k3 ?k4 ?_; (case k1 => k_asm); (case k2 => k_asm); (case k3 => k_asm); (case k4 => k_asm); k_whole))
  k_with "compareOp In int ref" => (k_dflt (refine' in_base_t ?k1 ?k2 ?k3 ?k4 ?_; (case k1 => k_asm); (case k2 => k_asm); (case k3 => k_asm); (case k4 => k_asm); k_whole))
  k_with "subscriptTail" => ((with_reducible show wpAny _ _ (subscriptTail _ _ (Value.ref _) (Value.int _ _)) _ _ _); k_dflt (refine' item_base ?k1 ?k2 ?k3 ?_ ?k4; (case k1 => k_asm); (case k2 => k_asm); (case k3 => k_asm); (case k4 => with_unfolding_all rfl); k_whole))
  k_with "call builtin:list.append" => (k_dflt (refine' lapp ?F ?N ?U ?z ?_; (case F => k_asm); (case N => k_asm); (case U => k_updF); (case z => omega)); intro h' F' N'; (try dsimp only at N'); (try k_sweep))
  k_with "eval ListComp" => (refine' stop_here ?_)
  k_with "call builtin:max" => (refine' stop_here ?_)
  k_with "binaryOp Add ref ref" => (k_dflt (refine' kmk_add_ints ?F ?N ?a ?b ?i ?j ?_ ?z; (case F => k_asm); (case N => k_asm); (case a => exact News.isList (by k_asm) (by k_mem)); (case b => exact News.isList (by k_asm) (by k_mem)); (case i => k_asm); (case j => k_asm); (case z => (simp only [sizeLine_eq, List.length_append]; omega))); intro D' ws' h' F' N' l1 hI'; (try k_lt l1))
  k_with "subscriptTail" => ((with_reducible show wpAny _ _ (subscriptTail _ _ (Value.ref _) (Value.int _ _)) _ _ _); k_dflt (refine' row_item ?k1 ?k2 ?k3 ?_ ?k5 ?k6; (case k1 => k_asm); (case k2 => k_asm); (case k3 => with_unfolding_all rfl); (case k5 => with_unfolding_all rfl); (case k6 => (intro _; with_unfolding_all rfl)); k_whole); intro _)
  trivial
noncomputable def ChosenV (g : Heap) (v : Value) : Option (Int × Row) → Prop
  | none => v = .none
  | some q => WayV g v q
theorem mx_le {ws : List (Int × Row)} : (∀ a ∈ ws.map sum2 ++ [0], a ≤ mx ws) ∧ mx ws ∈ ws.map sum2 ++ [0] := by
  unfold mx
  induction ws with
  | nil => simp
  | cons q ws ih =>
    simp only [List.map_cons, List.foldr_cons, List.cons_append, List.mem_cons]
    refine ⟨fun a ha => ?_, ?_⟩
    · rcases ha with rfl | ha
      · exact Int.le_max_left _ _
      · exact Int.le_trans (ih.1 a ha) (Int.le_max_right _ _)
    · rcases Int.le_total (sum2 q) ((ws.map sum2).foldr max 0) with h | h
      · rw [Int.max_eq_right h]; exact .inr ih.2
      · exact .inl (Int.max_eq_left h)
theorem find_app {α : Type} {f : α → Bool} {pre qs : List α} {q : α} (h : ∀ x ∈ pre, f x = false) (hq : f q = true) : (pre ++ q :: qs).find? f = some q := by
  induction pre with
  | nil => simp [hq]
  | cons a pre ih =>
    rw [List.cons_append, List.find?_cons, h a (.head _)]
    exact ih fun x hx => h x (.tail _ hx)
theorem find_no {α : Type} {f : α → Bool} {l : List α} (h : ∀ x ∈ l, f x = false) : l.find? f = none := List.find?_eq_none.mpr fun x hx => by rw [h x hx]; decide
theorem hit_n {high p : Int} {r : Row} (k : r.kd.isP = false) (h1 : high ≤ r.ht + r.dp) (h2 : 0 < r.ht + r.dp) : hitB high (p, r) = true := by
  unfold hitB sum2
  rw [decide_eq_true h1, decide_eq_true h2]; simp
theorem miss_n {high p : Int} {r : Row} (k : r.kd.isP = false) (h : ¬ (high ≤ r.ht + r.dp ∧ 0 < r.ht + r.dp)) : hitB high (p, r) = false := by
  unfold hitB sum2
  cases hk : r.kd with
  | pieces => rw [hk] at k; cases k
  | plain => simp; omega
  | larger => simp; omega
inductive JH1 (g : Heap) (ws : List (Int × Row)) (bs : List (Str × Value)) (P : Int × Row → Prop) (rest : List Value) (m : Str → Option Value) (news : List (Addr × Obj)) : Prop
  | mk (h0 : news = []) (h1 : Has m bs) (pre qs : List (Int × Row)) (h2 : ws = pre ++ qs) (h3 : All2 (WayV g) rest qs) (h4 : ∀ q ∈ pre, P q) : JH1 g ws bs P rest m news
theorem law_chosen_spec (R : Rm 4 A) (X : (KF w.params).In s.heap) (T : TR mg mb s.heap) {g : Heap} (hg : g.StaysIn s.heap) {wl : Value} {ws : List (Int × Row)} (hw : WaysV g wl ws) (hlen : ws.length ≤ 500) {high : Int} {th : Tok}
   (h : ∀ h' tk g' v, s.heap.StaysIn h' → Gx g s.heap h' g' → ChosenV g' v (lchosen ws high) → Q v {s with heap := h', toks := tk}) :
   wpAny (model p0 w) A (call (.ref 519) [wl, .int high th]) Q E s := by
  obtain ⟨wa, wvs, wn, rfl, hwa, hal⟩ := hw
  refine callF (binds := [("ways", .ref wa), ("high", .int high th)]) R X T rfl (by k_is) (BindsTo.of_eq (by kernel_rfl)) (by kernel_rfl) rfl rfl rfl (by kernel_rfl) (fun L h₁ tk F N X T => ?_)
  have hbase := hg _ _ hwa
  have hlb : SeqAt s.heap wa wvs := .inl ⟨_, hbase, rfl, _, rfl⟩
  have hwl : wvs.length = ws.length := hal.length
  repeat' (first | walk1 | (dsimp only; walk1))
  rename Fr _ _ _ _ => F8
  refine For_st F8 ?_
  repeat' (first | walk1 | (dsimp only; walk1))
  rename Fr _ _ _ _ => F7; rename News _ _ _ _ => N7
  refine turns_base (JH1 g ws [("ways", .ref wa), ("high", .int high th)] (fun q => hitB high q = false)) hlb F7 N7 ⟨rfl, ⟨rfl, rfl, trivial⟩, [], ws, rfl, hal, by simp⟩ ?_ ?_
  · rintro v rest m₁ news₁ h₁ tk₁ I ito kK hK ⟨rfl, H, pre, qs, hps, hall, hpre⟩ hoff hc F N
    cases hall with | cons q hall =>
    rename_i pr qs
    obtain ⟨p, r⟩ := pr
    obtain ⟨ta, tp, rv, rfl, htup, hrv⟩ := q
    replace hrv : RowV g rv r := hrv
    obtain ⟨a, u0, u1, u2, u3, u4, rfl, y⟩ := hrv.keeps hg
    have htb : IsTup s.heap ta #[.int p tp, .ref a] := isTup_keeps htup hg
    replace F := frOf F H
    clear F7 N7
    cases hkd : r.kd with
    | plain =>
      have hkd2 : r.kd.isP = false := by rw [hkd]; rfl
      rw [hkd] at y
      repeat' (first | (walk1 <;> (try dsimp only)) | (dsimp only; walk1))
      · rename Fr _ _ _ _ => F9; rename News _ _ _ _ => N9
        have G9 := Gx.ext hg F9.keep
        refine h _ _ _ _ F9.keep G9 ?_
        rw [show lchosen ws high = some (p, r) by unfold lchosen; rw [hps, find_app hpre (hit_n hkd2 (by assumption) (by assumption))]]
        exact ⟨_, _, _, rfl, ⟨_, ext_get (N9 _ (.head _)).1 (N9 _ (.head _)).2.2, rfl, _, rfl⟩, hrv.keeps G9.a⟩
      · rename Fr _ _ _ _ => F9; rename News _ _ _ _ => N9
        exact ⟨_, _, _, [], rfl, F9, N9, by simp, rfl, ⟨rfl, rfl, trivial⟩, pre ++ [(p, r)], qs, by rw [hps]; simp, hall, fun q hq => by
          rcases List.mem_append.mp hq with hq | hq
          · exact hpre q hq
          · obtain rfl : q = (p, r) := by simpa using hq
            exact miss_n hkd2 (by omega)⟩
      · rename Fr _ _ _ _ => F9; rename News _ _ _ _ => N9
        exact ⟨_, _, _, [], rfl, F9, N9, by simp, rfl, ⟨rfl, rfl, trivial⟩, pre ++ [(p, r)], qs, by rw [hps]; simp, hall, fun q hq => by
          rcases List.mem_append.mp hq with hq | hq
          · exact hpre q hq
          · obtain rfl : q = (p, r) := by simpa using hq
            exact miss_n hkd2 (by omega)⟩
    | larger c9 =>
      have hkd2 : r.kd.isP = false := by rw [hkd]; rfl
      rw [hkd] at y
      obtain ⟨u5, u6, y⟩ := y
      repeat' (first | (walk1 <;> (try dsimp only)) | (dsimp only; walk1))
      · rename Fr _ _ _ _ => F9; rename News _ _ _ _ => N9
        have G9 := Gx.ext hg F9.keep
        refine h _ _ _ _ F9.keep G9 ?_
        rw [show lchosen ws high = some (p, r) by unfold lchosen; rw [hps, find_app hpre (hit_n hkd2 (by assumption) (by assumption))]]
        exact ⟨_, _, _, rfl, ⟨_, ext_get (N9 _ (.head _)).1 (N9 _ (.head _)).2.2, rfl, _, rfl⟩, hrv.keeps G9.a⟩
      · rename Fr _ _ _ _ => F9; rename News _ _ _ _ => N9
        exact ⟨_, _, _, [], rfl, F9, N9, by simp, rfl, ⟨rfl, rfl, trivial⟩, pre ++ [(p, r)], qs, by rw [hps]; simp, hall, fun q hq => by
          rcases List.mem_append.mp hq with hq | hq
          · exact hpre q hq
          · obtain rfl : q = (p, r) := by simpa using hq
            exact miss_n hkd2 (by omega)⟩
      · rename Fr _ _ _ _ => F9; rename News _ _ _ _ => N9
        exact ⟨_, _, _, [], rfl, F9, N9, by simp, rfl, ⟨rfl, rfl, trivial⟩, pre ++ [(p, r)], qs, by rw [hps]; simp, hall, fun q hq => by
          rcases List.mem_append.mp hq with hq | hq
          · exact hpre q hq
          · obtain rfl : q = (p, r) := by simpa using hq
            exact miss_n hkd2 (by omega)⟩
    | pieces pa pb pc pd =>
      rw [hkd] at y
      obtain ⟨u5, pv, y, z⟩ := y
      repeat' (first | (walk1 <;> (try dsimp only)) | (dsimp only; walk1))
      · rename Fr _ _ _ _ => F9; rename News _ _ _ _ => N9
        have G9 := Gx.ext hg F9.keep
        refine h _ _ _ _ F9.keep G9 ?_
        rw [show lchosen ws high = some (p, r) by unfold lchosen; rw [hps, find_app hpre (by simp [hitB, hkd])]]
        exact ⟨_, _, _, rfl, ⟨_, ext_get (N9 _ (.head _)).1 (N9 _ (.head _)).2.2, rfl, _, rfl⟩, hrv.keeps G9.a⟩
  · rintro h' tk' m' news' F N ⟨rfl, H, pre, qs, hps, hall, hpre⟩
    cases hall
    rw [List.append_nil] at hps
    subst hps
    have hnone : ws.find? (hitB high) = none := find_no hpre
    replace F := frOf F H
    clear F7 N7
    have lws : (ws.map sum2).length ≤ 500 := by rw [List.length_map]; exact hlen
    repeat' (first | walk1 | (dsimp only; walk1))
    rename Fr _ _ _ _ => F8; rename News _ _ _ _ => N8
    refine ⟨LComp_go F8 (by with_unfolding_all rfl) (by decide) (by rfl) (by decide) ?_⟩
    repeat' (first | walk1 | (dsimp only; walk1))
    rename Fr _ _ _ _ => F7; rename News _ _ _ _ => N7
    refine cgo_list (fun i ys news => news = [] ∧ IntsAre ys ((ws.take i).map sum2)) _ (its := wvs) (oax := W.listOf (List.toArray wvs) wn) (fun h e => ⟨_, e, rfl, _, rfl⟩) (by omega) F7 N7 (.inl hbase) ⟨rfl, .nil⟩ (fun g9 => casg_pair hg (by rfl) (by rfl) (by decide) (by rfl) (fun i v hv => ?_)) ?_ ?_
    · obtain ⟨q9, _, ta, tp, rv, e9, ht9, _⟩ := hal.get hv
      exact ⟨ta, _, _, e9, ht9⟩
    · rintro g9 i v ys news I oI C oC D9 m₂ h9 tk9 E' kK2 kK hK2 hK hi hv ⟨rfl, hys⟩ hC hx9 F N off ne
      obtain ⟨pr, hqi, ta, tp, rv, rfl, htup, hrv⟩ := hal.get hv
      obtain ⟨p, r⟩ := pr
      replace hrv : RowV g rv r := hrv
      obtain ⟨a, rfl, hrow⟩ := (hrv.keeps hg).ref
      obtain ⟨hx1, hx2⟩ := hx9 ta _ _ rfl htup
      clear F7 N7
      refine wpAny_tests_nil ?_
      simp only [if_true]
      repeat' (first | walk1 | (dsimp only; walk1))
      rw [take_one hqi, List.map_append]; exact intsSnoc hys _ _
    · rintro g9 ys news ⟨rfl, hys⟩ hyl D1 h9 tk9 F N off
      clear F7 N7
      rw [hwl, List.take_length] at hys
      repeat' (first | walk1 | (dsimp only; walk1))
      rename Fr _ _ _ _ => F8; rename News _ _ _ _ => N8
      rename IntsAre _ (_ ++ _) => hI8
      refine ⟨kso_max F8 N8 (News.isList N8 (.head _)) hI8 (by simp) rfl (fun h8 M t8 tk8 F7 N7 hM1 hM2 => ?_)⟩
      have hMx : M = mx ws := by
        have h1 := (mx_le (ws := ws)).1 M hM1
        have h2 := hM2 _ (mx_le (ws := ws)).2
        exact Int.le_antisymm h1 h2
      subst hMx
      clear F8 N8
      repeat' (first | walk1 | (dsimp only; walk1))
      rename Fr _ _ _ _ => F8
      refine For_st F8 ?_
      repeat' (first | walk1 | (dsimp only; walk1))
      rename Fr _ _ _ _ => F7; rename News _ _ _ _ => N7
      refine turns_base (JH1 g ws [("ways", .ref wa), ("high", .int high th), ("reach", .int (mx ws) t8)] (fun q => (decide (0 < mx ws) && decide (sum2 q = mx ws)) = false)) hlb F7 News.nil ⟨rfl, ⟨rfl, rfl, rfl, trivial⟩, [], ws, rfl, hal, by simp⟩ ?_ ?_
      · rintro v rest m₁ news₁ h₁ tk₁ I ito kK hK ⟨rfl, H, pre, qs, hps, hall, hpre⟩ hoff hc F N
        cases hall with | cons q hall =>
        rename_i pr qs
        obtain ⟨p, r⟩ := pr
        obtain ⟨ta, tp, rv, rfl, htup, hrv⟩ := q
        replace hrv : RowV g rv r := hrv
        obtain ⟨a, rfl, hrow⟩ := (hrv.keeps hg).ref
        have htb : IsTup s.heap ta #[.int p tp, .ref a] := isTup_keeps htup hg
        replace F := frOf F H
        clear F7 N7
        repeat' (first | (walk1 <;> (try dsimp only)) | (dsimp only; walk1))
        · rename Fr _ _ _ _ => F9; rename News _ _ _ _ => N9; rename (0 < mx ws) => hp; rename (_ = mx ws) => he
          have G9 := Gx.ext hg F9.keep
          refine h _ _ _ _ F9.keep G9 ?_
          have hfa := find_app (f := fun q => decide (0 < mx ws) && decide (sum2 q = mx ws)) (qs := qs) hpre (q := (p, r)) (by rw [decide_eq_true hp, decide_eq_true (by exact he)]; rfl)
          rw [← hps] at hfa
          rw [show lchosen ws high = some (p, r) by unfold lchosen; rw [hnone]; exact hfa]
          exact ⟨_, _, _, rfl, ⟨_, ext_get (N9 _ (.head _)).1 (N9 _ (.head _)).2.2, rfl, _, rfl⟩, hrv.keeps G9.a⟩
        · rename Fr _ _ _ _ => F9; rename News _ _ _ _ => N9
          exact ⟨_, _, _, [], rfl, F9, N9, by simp, rfl, ⟨rfl, rfl, rfl, trivial⟩, pre ++ [(p, r)], qs, by rw [List.append_assoc]; exact hps, hall, fun q hq => by
            rcases List.mem_append.mp hq with hq | hq
            · exact hpre q hq
            · obtain rfl : q = (p, r) := by simpa using hq
              show (decide (0 < mx ws) && decide (r.ht + r.dp = mx ws)) = false
              rw [Bool.and_eq_false_iff]
              first | (left; exact decide_eq_false (by assumption)) | (right; exact decide_eq_false (by assumption))⟩
        · rename Fr _ _ _ _ => F9; rename News _ _ _ _ => N9
          exact ⟨_, _, _, [], rfl, F9, N9, by simp, rfl, ⟨rfl, rfl, rfl, trivial⟩, pre ++ [(p, r)], qs, by rw [List.append_assoc]; exact hps, hall, fun q hq => by
            rcases List.mem_append.mp hq with hq | hq
            · exact hpre q hq
            · obtain rfl : q = (p, r) := by simpa using hq
              show (decide (0 < mx ws) && decide (r.ht + r.dp = mx ws)) = false
              rw [Bool.and_eq_false_iff]
              first | (left; exact decide_eq_false (by assumption)) | (right; exact decide_eq_false (by assumption))⟩
      · rintro h' tk' m' news' F N ⟨rfl, H, pre, qs, hps, hall, hpre⟩
        cases hall
        rw [List.append_nil] at hps
        subst hps
        have hnone2 := find_no hpre
        replace F := frOf F H
        clear F7 N7
        repeat' (first | walk1 | (dsimp only; walk1))
        have G9 := Gx.ext hg F.keep
        exact h _ tk' _ .none F.keep G9 (by rw [show lchosen ws high = none by unfold lchosen; rw [hnone]; exact hnone2]; rfl)
end
end Mine
end
section
set_option autoImplicit false
namespace Mine
open PySem PySem.W PySem.Calls
theorem leadR_code (cs : List Int) (r : Row) : (leadR cs r).code = r.code := by
  unfold leadR; split
  · split <;> rfl
  · rfl
theorem leadR_dims (cs : List Int) (r : Row) : (leadR cs r).wd = r.wd ∧ (leadR cs r).ht = r.ht ∧ (leadR cs r).dp = r.dp ∧ (leadR cs r).it = r.it := by
  unfold leadR; split
  · split <;> exact ⟨rfl, rfl, rfl, rfl⟩
  · exact ⟨rfl, rfl, rfl, rfl⟩
theorem leadR_kd (cs : List Int) (r : Row) : (leadR cs r).kd = r.kd ∨ (leadR cs r).kd = .plain := by
  unfold leadR; split
  · split
    · exact .inl rfl
    · exact .inr rfl
  · exact .inl rfl
theorem leads_codes (rows : List Row) : (leads rows).map (·.code) = rows.map (·.code) := by
  unfold leads
  rw [List.map_map]
  exact List.map_congr_left fun r _ => leadR_code _ r
theorem find_leads (rows : List Row) (c : Int) : find (leads rows) c = (find rows c).map (leadR (rows.map (·.code))) := by
  unfold leads
  generalize rows.map (·.code) = cs
  unfold find
  induction rows with
  | nil => rfl
  | cons r rows ih =>
    simp only [List.map_cons, List.find?_cons, leadR_code]
    split
    · rfl
    · exact ih
theorem find_app_hi {fr pc : List Row} (h : ∀ r ∈ fr, r.code ≤ 6) {c : Int} (hc : 6 < c) : find (fr ++ pc) c = find pc c := by
  unfold find
  rw [List.find?_append]
  rw [List.find?_eq_none.mpr (fun r hr => by have := h r hr; simp; omega)]
  rfl
inductive Rws (rows : List Row) (x y : Int) : Prop
  | mk (fr : _) (h0 : rows = leads (fr ++ [P0 7, P0 8, P0 9, ⟨10, 95, 12 + x, y, 2, .plain⟩])) (h1 : FrontOk fr) (h2 : 0 ≤ x) (h3 : x < 9) (h4 : 0 ≤ y) (h5 : y < 3) : Rws rows x y
theorem Rws.find {rows : List Row} {x y : Int} (R : Rws rows x y) : find rows 7 = some (P0 7) ∧ find rows 8 = some (P0 8) ∧ find rows 9 = some (P0 9) ∧ find rows 10 = some ⟨10, 95, 12 + x, y, 2, .plain⟩ := by
  obtain ⟨fr, rfl, hf, _⟩ := R
  have h6 : ∀ r ∈ fr, r.code ≤ 6 := fun r hr => (hf.all r hr).2.2
  refine ⟨?_, ?_, ?_, ?_⟩ <;> (rw [find_leads, find_app_hi h6 (by decide)]; rfl)
theorem Rws.of {rows : List Row} {x y : Int} (R : Rws rows x y) {r : Row} (h : r ∈ rows) : (∃ c, RowB c { r with kd := .plain } ∧ 1 ≤ r.code ∧ r.code ≤ 6 ∧ (match r.kd with
    | .plain => True
    | .larger c => r.code < c ∧ c ≤ 6
    | .pieces a b c d => (a = 7 ∨ a = 0) ∧ (b = 8 ∨ b = 0) ∧ (c = 9 ∨ c = 0) ∧ d = 10)) ∨ (r = P0 7 ∨ r = P0 8 ∨ r = P0 9 ∨ r = ⟨10, 95, 12 + x, y, 2, .plain⟩) := by
  obtain ⟨fr, rfl, hf, _⟩ := R
  unfold leads at h
  obtain ⟨r0, h0, rfl⟩ := List.mem_map.mp h
  rcases List.mem_append.mp h0 with h0 | h0
  · left
    obtain ⟨b, c1, c2⟩ := hf.all r0 h0
    have d := leadR_dims ((fr ++ [P0 7, P0 8, P0 9, ⟨10, 95, 12 + x, y, 2, .plain⟩]).map (·.code)) r0
    have k := leadR_kd ((fr ++ [P0 7, P0 8, P0 9, ⟨10, 95, 12 + x, y, 2, .plain⟩]).map (·.code)) r0
    have e := leadR_code ((fr ++ [P0 7, P0 8, P0 9, ⟨10, 95, 12 + x, y, 2, .plain⟩]).map (·.code)) r0
    generalize leadR ((fr ++ [P0 7, P0 8, P0 9, ⟨10, 95, 12 + x, y, 2, .plain⟩]).map (·.code)) r0 = r1 at d k e
    obtain ⟨d1, d2, d3, d4⟩ := d
    refine ⟨r0.code, ⟨e, by rw [d1]; exact b.w0, by rw [d1]; exact b.w1, by rw [d2]; exact b.h0, by rw [d2]; exact b.h1, by rw [d3]; exact b.d0, by rw [d3]; exact b.d1, by rw [d4]; exact b.i0, by rw [d4]; exact b.i1, trivial⟩, by rw [e]; exact c1, by rw [e]; exact c2, ?_⟩
    rcases k with k | k
    · rw [k, e]; exact b.kd
    · rw [k]; trivial
  · right
    simp only [List.mem_cons, List.not_mem_nil, or_false] at h0
    rcases h0 with rfl | rfl | rfl | rfl
    · exact .inl rfl
    · exact .inr (.inl rfl)
    · exact .inr (.inr (.inl rfl))
    · exact .inr (.inr (.inr rfl))
theorem Rws.bd {rows : List Row} {x y : Int} (R : Rws rows x y) {r : Row} (h : r ∈ rows) : Bd r ∧ 1 ≤ r.code ∧ r.code ≤ 10 := by
  have R0 := R
  obtain ⟨_, _, _, x0, x1, y0, y1⟩ := R0
  rcases R.of h with ⟨c, b, c1, c2, _⟩ | rfl | rfl | rfl | rfl
  · have := b.w0; have := b.w1; have := b.h0; have := b.h1; have := b.d0; have := b.d1; have := b.i0; have := b.i1
    dsimp only at *
    exact ⟨⟨by omega, by omega, by omega, by omega, by omega, by omega, by omega, by omega⟩, by omega, by omega⟩
  · exact ⟨⟨by decide, by decide, by decide, by decide, by decide, by decide, by decide, by decide⟩, by decide, by decide⟩
  · exact ⟨⟨by decide, by decide, by decide, by decide, by decide, by decide, by decide, by decide⟩, by decide, by decide⟩
  · exact ⟨⟨by decide, by decide, by decide, by decide, by decide, by decide, by decide, by decide⟩, by decide, by decide⟩
  · exact ⟨⟨by simp, by simp, by show 0 ≤ 12 + x; omega, by show 12 + x ≤ 1000; omega, y0, by show y ≤ 1000; omega, by simp, by simp⟩, by simp, by simp⟩
theorem Rws.kd {rows : List Row} {x y : Int} (R : Rws rows x y) {r : Row} (h : r ∈ rows) : match r.kd with
    | .plain => True
    | .larger c => r.code < c ∧ c ≤ 6
    | .pieces a b c d => (a = 7 ∨ a = 0) ∧ (b = 8 ∨ b = 0) ∧ (c = 9 ∨ c = 0) ∧ d = 10 := by
  rcases R.of h with ⟨c, b, c1, c2, k⟩ | rfl | rfl | rfl | rfl
  · exact k
  all_goals trivial
theorem Rws.pieces {rows : List Row} {x y : Int} (R : Rws rows x y) {r : Row} (h : r ∈ rows) {a b c d : Int} (e : r.kd = .pieces a b c d) : (a = 7 ∨ a = 0) ∧ (b = 8 ∨ b = 0) ∧ (c = 9 ∨ c = 0) ∧ d = 10 := by
  have := R.kd h
  rw [e] at this
  exact this
theorem Rws.codes {rows : List Row} {x y : Int} (R : Rws rows x y) : (rows.map (·.code)).Nodup ∧ rows.length ≤ 20 := by
  obtain ⟨fr, rfl, hf, _⟩ := R
  rw [leads_codes]
  have hnd : (fr.map (·.code)).Nodup := by
    rw [List.Nodup, List.pairwise_map]
    exact hf.up.imp fun h e => by omega
  have hup : (fr.map (·.code)).Pairwise (· < ·) := by rw [List.pairwise_map]; exact hf.up
  constructor
  · rw [List.map_append, List.nodup_append]
    refine ⟨hnd, by show ([7, 8, 9, 10] : List Int).Nodup; decide, fun a ha b hb e => ?_⟩
    obtain ⟨r, hr, rfl⟩ := List.mem_map.mp ha
    have := (hf.all r hr).2.2
    have h7 : ∀ z ∈ ([7, 8, 9, 10] : List Int), 6 < z := by decide
    have := h7 b hb
    omega
  · unfold leads
    rw [List.length_map, List.length_append]
    have hl : ∀ (l : List Int) (k : Nat), l.Pairwise (· < ·) → (∀ z ∈ l, 6 < z + k ∧ z ≤ 6) → l.length ≤ k := by
      intro l
      induction l with
      | nil => intro k _ _; exact Nat.zero_le _
      | cons a l ih =>
        intro k hp hz
        cases hp with | cons h1 h2 =>
        have ha := hz a (.head _)
        have := ih (k - 1) h2 (fun z hzl => by have := h1 z hzl; have := hz z (.tail _ hzl); omega)
        simp only [List.length_cons]; omega
    have := hl _ 6 hup (fun z hz => by obtain ⟨r, hr, rfl⟩ := List.mem_map.mp hz; have := hf.all r hr; exact ⟨by omega, this.2.2⟩)
    rw [List.length_map] at this
    simp only [List.length_cons, List.length_nil]; omega
theorem Rws.wf {rows : List Row} {x y : Int} (R : Rws rows x y) : WFr rows := ⟨fun r hr => by have := (R.bd hr).2.1; omega, fun r hr c e => by
  have := R.kd hr
  rw [e] at this
  exact ⟨this.1, by omega⟩⟩
theorem Rws.ok {rows : List Row} {x y : Int} (R : Rws rows x y) : Okr rows := ⟨R.wf, fun r hr => (R.bd hr).2.2, fun r hr => (R.bd hr).1, fun r hr a b c d e => by
  obtain ⟨f7, f8, f9, f10⟩ := R.find
  obtain ⟨h1, h2, h3, rfl⟩ := R.pieces hr e
  refine ⟨⟨by omega, by omega, fun n => ?_⟩, ⟨by omega, by omega, fun n => ?_⟩, ⟨by omega, by omega, fun n => ?_⟩, by omega, by omega, by rw [f10]; rfl⟩
  · rcases h1 with rfl | rfl
    · rw [f7]; rfl
    · exact absurd rfl n
  · rcases h2 with rfl | rfl
    · rw [f8]; rfl
    · exact absurd rfl n
  · rcases h3 with rfl | rfl
    · rw [f9]; rfl
    · exact absurd rfl n, by have := R.codes.2; omega⟩
theorem Rws.bdD {rows : List Row} {x y : Int} (R : Rws rows x y) (c : Int) : Bd (rowD rows c) := by
  unfold rowD
  cases e : Mine.find rows c with
  | none => exact ⟨by simp, by simp, by simp, by simp, by simp, by simp, by simp, by simp⟩
  | some r => exact (R.bd (find_mem e).1).1
theorem Rws.hd10 {rows : List Row} {x y : Int} (R : Rws rows x y) : hd2 rows 10 = 12 + x + y ∧ 12 ≤ hd2 rows 10 := by
  have : hd2 rows 10 = 12 + x + y := by unfold hd2; rw [rowD_of R.find.2.2.2]
  obtain ⟨_, _, _, x0, x1, y0, y1⟩ := R
  exact ⟨this, by omega⟩
theorem Rws.steps {rows : List Row} {x y : Int} (R : Rws rows x y) {a b c high : Int} (hh : high ≤ 600) : 0 ≤ pSteps rows a b c 10 high ∧ pSteps rows a b c 10 high ≤ 200 := by
  have h12 := R.hd10.2
  have h0 := (pSteps_b (rows := rows) (a := a) (b := b) (c := c) (d := 10) (high := high) R.bdD (by omega)).2.2.1
  unfold pSteps
  split
  · rename_i q
    have hE : hd2 rows 10 ≤ pEach rows b 10 := by unfold pEach; split <;> omega
    generalize pEach rows b 10 = e at hE
    refine ⟨Int.fdiv_nonneg (by omega) (by omega), ?_⟩
    rw [Int.fdiv_eq_ediv_of_nonneg _ (by omega)]
    have : (high - pReach rows a b c + e - 1) / e ≤ (200 * e) / e := Int.ediv_le_ediv (by omega) (by omega)
    rwa [Int.mul_ediv_cancel _ (by omega)] at this
  · exact ⟨by decide, by decide⟩
theorem Rws.fo {rows : List Row} {x y : Int} (R : Rws rows x y) {num ax high : Int} (hh : high ≤ 600) : FoOk ⟨num, rows, ax⟩ high := ⟨R.bdD, fun r hr => ⟨by have := (R.bd hr).2.1; omega, (R.bd hr).2.2⟩, fun r hr a b c d e => by
  obtain ⟨h1, h2, h3, rfl⟩ := R.pieces hr e
  exact ⟨⟨by omega, by omega⟩, ⟨by omega, by omega⟩, ⟨by omega, by omega⟩, ⟨by omega, by omega⟩, R.steps hh⟩⟩
noncomputable def foOf (ax : Int → Int) (fonts : List (Int × List Row)) : List (Int × Fo) := fonts.map fun f => (f.1, ⟨1 + f.1, f.2, ax f.1⟩)
theorem findF_foOf (ax : Int → Int) (fonts : List (Int × List Row)) (k : Int) : findF (foOf ax fonts) k = (findR fonts k).map fun rows => ⟨1 + k, rows, ax k⟩ := by
  unfold findF findR foOf
  induction fonts with
  | nil => rfl
  | cons f fonts ih =>
    simp only [List.map_cons, List.find?_cons]
    by_cases e : f.1 = k
    · simp [e]
    · simp only [decide_eq_false e]
      exact ih
theorem ways_lways (ax : Int → Int) (fonts : List (Int × List Row)) (n : Nat) (hn : n ≤ 2) (f c : Int) : ways1 (foOf ax fonts) (n + 1) f c = lways fonts n f c := by
  unfold ways1 lways
  by_cases z : f = 0 ∧ c = 0
  · rw [if_pos z]
    unfold lway
    simp only [z, and_self, not_true, and_false, if_false, List.append_nil]
  · rw [if_neg z]
    have hl : ∀ lv : Int, lway fonts n f c lv = if lv ≤ n then wayAt (foOf ax fonts) f c lv else [] := by
      intro lv
      unfold lway wayAt
      rw [findF_foOf, show f * 3 + lv = 3 * f + lv by omega]
      by_cases h : lv ≤ n
      · rw [if_pos ⟨h, z⟩, if_pos h]
        cases findR fonts (3 * f + lv) <;> rfl
      · rw [if_neg (fun q => h q.1), if_neg h]
    unfold waysL
    simp only [hl]
    match n, hn with
    | 0, _ => rfl
    | 1, _ => rfl
    | 2, _ => rfl
theorem halfv_ok (v : Int) : 0 ≤ v - 2 * halfv v + 1 ∧ v - 2 * halfv v + 1 ≤ 1 := by
  unfold halfv
  rw [Int.fdiv_eq_ediv_of_nonneg _ (by decide), Int.fmod_eq_emod_of_nonneg _ (by decide)]
  omega
end Mine
end
theorem Mine.kbase6 : True := by
  k_with_none
  k_with "om" =>
    first
    | with_reducible assumption
    | decide +kernel
    | (with_reducible show @LE.le Int _ _ _); first
      | with_reducible exact Int.natCast_nonneg _
      | with_reducible exact Int.le_refl _
      | with_reducible exact Int.le_trans (by with_reducible assumption) (by decide +kernel)
      | with_reducible exact oi1 (by with_reducible assumption) (by decide +kernel)
      | with_reducible exact oiC (by with_reducible assumption) (by decide +kernel)
      | with_reducible exact oi4 (by with_reducible assumption) (by decide +kernel)
      | with_reducible exact oi5 (by with_reducible assumption) (by decide +kernel)
      | with_reducible exact oiM (by with_reducible assumption) (by decide +kernel)
      | with_reducible exact oiB (by with_reducible assumption) (by decide +kernel)
      | with_reducible exact oiD (by with_reducible assumption) (by decide +kernel)
      | with_reducible exact Int.mul_nonneg (by decide +kernel) (by with_reducible assumption)
      | with_reducible exact Int.le_add_of_nonneg_right (by with_reducible assumption)
      | with_reducible exact Int.le_add_of_nonneg_right (by decide +kernel)
      | with_reducible exact Int.add_nonneg (by with_reducible assumption) (by decide +kernel)
      | with_reducible exact Int.add_nonneg (by decide +kernel) (by with_reducible assumption)
      | with_reducible exact oiG (by with_reducible assumption) (by decide +kernel)
      | ((repeat with_reducible refine oiE ?_); with_reducible exact Int.le_add_of_nonneg_right (by decide +kernel))
      | with_reducible exact oaR (by with_reducible assumption) (by decide +kernel)
      | with_reducible exact oaL (by with_reducible assumption) (by decide +kernel)
    | (with_reducible show @LT.lt Int _ _ _); first
      | with_reducible exact Int.lt_of_le_of_lt (by with_reducible assumption) (by decide +kernel)
      | with_reducible exact Int.lt_of_lt_of_le (by with_reducible assumption) (by decide +kernel)
      | with_reducible exact oi2 (by with_reducible assumption) (by decide +kernel)
      | with_reducible exact oi3 (by with_reducible assumption) (by decide +kernel)
      | with_reducible exact oiF (by with_reducible assumption) (by decide +kernel)
      | with_reducible exact oaS (by with_reducible assumption) (by decide +kernel)
      | with_reducible exact oaT (by with_reducible assumption) (by decide +kernel)
      | ((repeat with_reducible refine oiS ?_); with_reducible exact oi2 (by with_reducible assumption) (by decide +kernel))
      | (with_reducible refine' Int.lt_of_lt_of_le ?h ?d; (case h => (repeat (with_reducible refine' oiA ?_)); with_reducible assumption); (case d => decide +kernel))
    | (with_reducible show @LE.le Nat _ _ _); first
      | with_reducible exact Nat.le_trans (by with_reducible assumption) (by decide +kernel)
      | with_reducible exact on1 (by with_reducible assumption) (by decide +kernel)
      | with_reducible exact on4 (by with_reducible assumption) (by decide +kernel)
      | with_reducible exact on7 (by with_reducible assumption) (by with_reducible assumption) (by decide +kernel)
      | with_reducible exact on8 (by with_reducible assumption) (by with_reducible assumption) (by decide +kernel)
      | with_reducible exact onB (by with_reducible assumption) (by decide +kernel)
    | (with_reducible show @LT.lt Nat _ _ _); first
      | with_reducible exact abB (by with_reducible assumption) (by with_reducible assumption) (by decide +kernel)
      | with_reducible exact abC (by with_reducible assumption) (by with_reducible assumption) (by decide +kernel)
      | with_reducible exact abD (by with_reducible assumption) (by with_reducible assumption) (by decide +kernel)
      | with_reducible exact Nat.lt_of_le_of_lt (by with_reducible assumption) (by decide +kernel)
      | with_reducible exact Nat.lt_of_lt_of_le (by with_reducible assumption) (by decide +kernel)
      | with_reducible exact on2 (by with_reducible assumption) (by decide +kernel)
      | with_reducible exact Nat.lt_add_one _
      | ((with_reducible show Int.toNat (_ - _) + 1 < Int.toNat (_ - _) + 1); exact tnD (by omega) (by omega))
      | ((repeat with_reducible refine onS ?_); with_reducible exact on2 (by with_reducible assumption) (by decide +kernel))
    | ((with_reducible show ¬ (decide (_ ≤ _) && decide (_ ≤ _)) = !true); refine bndN ?_ ?_ <;> omega)
    | ((with_reducible show ¬ ((_ : Int) < _)); refine Int.not_lt.mpr ?_; omega)
    | ((with_reducible show ¬ ((_ : Int) ≤ _)); refine Int.not_le.mpr ?_; omega)
    | ((with_reducible show And _ _); refine And.intro ?_ ?_ <;> omega)
    | lia
  k_with "ne" =>
    (try dsimp only); first | with_reducible assumption | (refine Ne.symm ?_; with_reducible assumption) | exact Nat.ne_of_lt (by with_reducible assumption) | exact Nat.ne_of_gt (by with_reducible assumption) | (refine pkH (by with_reducible assumption) ?_; (repeat (first | exact And.left | exact id | refine pkT ?_)); done) | (refine pkS (by with_reducible assumption) ?_; (repeat (first | exact And.left | exact id | refine pkT ?_)); done) | exact nl1 (by with_reducible assumption) | exact nl2 (by with_reducible assumption) | exact Ne.symm (nl1 (by with_reducible assumption)) | exact Ne.symm (nl2 (by with_reducible assumption))
  k_with "execs cons" => (first | k_gentoks | ((first | (with_reducible show wpAny _ _ (execs [_] _) (KQ _) _ _) | (with_reducible show wpAny _ _ (execs [_] _) (KG _) _ _)); refine' execs1 ?_) | (refine' execsH ?_; first | ((fail_if_success (have := kn1)); intro kq1 kn1 ko1) | ((fail_if_success (have := kn2)); intro kq2 kn2 ko2) | ((fail_if_success (have := kn3)); intro kq3 kn3 ko3)))
  k_with "exs" => (first | k_gentoks | ((first | (with_reducible show wpAny _ _ (execs [_] _) (KQ _) _ _) | (with_reducible show wpAny _ _ (execs [_] _) (KG _) _ _)); refine' execs1 ?_) | (refine' execsN ?_; first | ((fail_if_success (have := kn1)); intro kq1 kn1) | ((fail_if_success (have := kn2)); intro kq2 kn2) | ((fail_if_success (have := kn3)); intro kq3 kn3)))
  k_with "execs cons Assign" => k_extra "exs"
  k_with "execs cons AugAssign" => k_extra "exs"
  k_with "execs cons Expr" => k_extra "exs"
  k_with "KG" => (first | (refine' kn3 _ ?_; (try clear ko3); clear kn3 kq3) | (refine' kn2 _ ?_; (try clear ko2); clear kn2 kq2) | (refine' kn1 _ ?_; (try clear ko1); clear kn1 kq1) | (refine' ko3 _ _ rfl ?_; clear ko3 kn3 kq3) | (refine' ko2 _ _ rfl ?_; clear ko2 kn2 kq2) | (refine' ko1 _ _ rfl ?_; clear ko1 kn1 kq1)); (try dsimp only)
  k_with "KQ" => (first | ((rename (∀ a s, _ → KQ _ a s) => kz); refine' kz _ _ ?_) | ((rename (∀ (_ : Unit) s, _ → KQ _ () s) => kz); refine' kz () _ ?_)); clear kz; (try clear kyb); try dsimp only
  k_with "isT" => (goal_has PySem.execs; (fail_if_success (with_reducible show wpAny _ _ _ (KQ _) _ _)); refine' hideQ ?_; intro kyb kyh)
  k_with "isTrue Compare" => k_extra "isT"
  k_with "isTrue BoolOp" => k_extra "isT"
  k_with "isTrue UnaryOp" => k_extra "isT"
  k_with "exec While BoolOp" => (refine' stop_here ?_)
  k_with "exec For Tuple Tuple cons nil" => (refine' stop_here ?_)
  k_with "exec For Name Name cons nil" => (refine' stop_here ?_)
  k_with "exec For Name Attribute cons nil" => (refine' stop_here ?_)
  k_with "last exec For Name" => (refine' stop_here ?_)
  k_with "last exec For" => (refine' stop_here ?_)
  k_with "exec While" => (refine' stop_here ?_)
  k_with "last exec While" => (refine' stop_here ?_)
  k_with "exec For" => (refine' stop_here ?_)
  k_with "last exec For Name Name" => (refine' stop_here ?_)
  k_with "exec For Name Call cons nil" => (refine' stop_here ?_)
  k_with "exec For Name Tuple cons nil" => (refine' stop_here ?_)
  k_with "exec For Tuple Name cons nil" => (refine' stop_here ?_)
  k_with "exec While Compare" => (refine' stop_here ?_)
  k_with "exec For Tuple Call cons nil" => (refine' stop_here ?_)
  trivial
section
set_option maxHeartbeats 1000000
namespace Mine
section
variable {w : World} {A : Around} {s : Shared} {E : Value → Shared → Prop} {Q : Value → Shared → Prop} {mg mb : Str → Option Value}
theorem ksetLz1 : True := by
  k_with "p world" => (first | exact Rm.le Rm.an (by decide) | k_in | exact trKeep (by k_asm) (by k_asm))
  k_with "p after" => (intro _ _ kS; (rename Fr _ _ _ _ => kF); (rename News _ _ _ _ => kN); (have _ := frAfter kF kS); (have _ := newsAfter kN kS); (try k_sweep); intros)
  k_with "TurnP" => (dsimp only [TurnP])
  k_with "WStep" => (dsimp only [WStep])
  k_with "call type:enumerate" => (refine' stop_here ?_)
  k_with "TurnPs" => (dsimp only [TurnPs])
  k_with "exec If" => ((fail_if_success (rename Going => kz)); refine' stop_here ?_)
  k_with "eval IfExp" => ((fail_if_success (rename Going => kz)); refine' stop_here ?_)
  k_with "binaryOp Add ref ref" => (k_dflt (refine' kde_addT ?k1 ?k2 ?k3 ?k4 ?k5 ?k6 ?k7 ?k8 ?_; (case k1 => k_asm); (case k2 => k_asm); (case k3 => first | exact News.isTup (by k_asm) (by k_mem) | exact Fr.tup (by k_asm) (by k_asm)); (case k4 => first | exact News.isTup (by k_asm) (by k_mem) | exact Fr.tup (by k_asm) (by k_asm)); (case k5 => exact List.cons_ne_nil _ _); (case k6 => exact List.cons_ne_nil _ _); (case k7 => exact Nat.le_of_ble_eq_true rfl); (case k8 => kl_lit); k_whole); intro D' h' F' N' l1; (try k_lt l1); (try k_sweep))
  k_with "call ref" => ((with_reducible show wpAny _ _ (call (Value.ref 524) _ _) _ _ _); refine' stop_here ?_)
  k_with "setItem ref int" => (refine' stop_here ?_)
  k_with "compareOp In int ref" => (k_dflt (refine' in_base_f ?k1 ?k2 ?k3 ?k4 ?_; (case k1 => k_asm); (case k2 => k_asm); (case k3 => k_asm); (case k4 => k_asm); k_whole))
  k_with "compareOp In int ref" => (k_dflt (refine' in_base_t ?k1 ?k2 ?k3 ?k4 ?_; (case k1 => k_asm); (case k2 => k_asm); (case k3 => k_asm); (case k4 => k_asm); k_whole))
  k_with "subscriptTail" => ((with_reducible show wpAny _ _ (subscriptTail _ _ (Value.ref _) (Value.int _ _)) _ _ _); k_dflt (refine' kda_item (knd := intKind _ _) ?k1 ?k2 ?k3 (intKind_is _ _ _ _) ?k4 ?_ ?k5 ?k6; (case k1 => k_asm); (case k2 => k_mem); (case k3 => k_asm); (case k4 => k_asm); (case k5 => with_unfolding_all rfl); (case k6 => (intro _; with_unfolding_all rfl)); k_whole))
  k_with "subscriptTail" => ((with_reducible show wpAny _ _ (subscriptTail _ _ (Value.ref _) (Value.int _ _)) _ _ _); k_dflt (refine' item_base ?k1 ?k2 ?k3 ?_ ?k4; (case k1 => k_asm); (case k2 => k_asm); (case k3 => k_asm); (case k4 => with_unfolding_all rfl); k_whole))
  k_with "subscriptTail" => ((with_reducible show wpAny _ _ (subscriptTail _ _ (Value.ref _) (Value.int _ _)) _ _ _); k_dflt (refine' row_item ?k1 ?k2 ?k3 ?_ ?k5 ?k6; (case k1 => k_asm); (case k2 => k_asm); (case k3 => with_unfolding_all rfl); (case k5 => with_unfolding_all rfl); (case k6 => (intro _; with_unfolding_all rfl)); k_whole); intro _)
  k_with "eval ListComp" => (refine' stop_here ?_)
  k_with "exec Assign cons ListComp" => (refine' stop_here ?_)
  k_with "CompSrc" => (refine' Stop.go ?_)
  k_with "eval Name" => ((with_reducible show wpAny _ _ (eval (Expr.Name _ _) (compEnvC _ _ _ _)) _ _ _); k_dflt (refine nb_built (mg := mg) (mb := mb) (by k_asm) (by k_asm) (by k_asm) (by k_is) (by boot_by_name) (by decide) ?_))
  k_with "getAttr ref" => (k_dflt (refine' cls_base ?k1 ?k2 ?k3 ?k4 ?k5 ?k6 ?k7 ?k8 ?k9 ?k0 ?_; (case k3 => k_asm); (case k1 => k_asm); (case k2 => k_asm); (case k4 => k_asm); (case k5 => k_is); (case k6 => k_is); (case k7 => k_is); (case k8 => k_is); (case k9 => k_handed); (case k0 => decide +kernel); k_whole))
  k_with "getAttr ref" => (k_dflt (refine' attr_base ?k1 ?k2 ?k3 ?k4 ?k5 ?k6 ?k7 ?k8 ?k9 ?_; (case k3 => k_asm); (case k1 => k_asm); (case k2 => k_asm); (case k4 => k_asm); (case k5 => k_is); (case k6 => k_is); (case k7 => k_is); (case k8 => k_is); (case k9 => k_handed); k_whole))
  k_with "binaryOp Add ref ref" => (k_dflt (refine' kmk_add_ints ?F ?N ?a ?b ?i ?j ?_ ?z; (case F => k_asm); (case N => k_asm); (case a => exact News.isList (by k_asm) (by k_mem)); (case b => exact News.isList (by k_asm) (by k_mem)); (case i => k_asm); (case j => k_asm); (case z => (simp only [sizeLine_eq, List.length_append]; omega))); intro D' ws' h' F' N' l1 hI'; (try k_lt l1))
  trivial
inductive JZ1 (w : World) (h₀ : Heap) (dc : Addr) (rows : List Row) (bs : List (Str × Value)) (rest : List Value) (m : Str → Option Value) (news : List (Addr × Obj)) : Prop
  | mk (done : _)(rs : _)(kvs : _)(od : _) (h0 : rows = done ++ rs) (h1 : All2 (RowV h₀) rest rs) (h2 : news = [(dc, od)]) (h3 : od.IsDictOf (intKind p0 w) kvs) (h4 : All2 (fun (kv : Int × Value) (r : Row) => kv.1 = r.code ∧ RowV h₀ kv.2 r) kvs done) (h5 : Has m bs) : JZ1 w h₀ dc rows bs rest m news
theorem count_pCodes {a b c : Int} {S : Nat} (ha : a ≠ 10) (hb : b ≠ 10) (hc : c ≠ 10) : List.count 10 (pCodes a b c 10 S) = if b ≠ 0 then 2 * S else S := by
  have o : ∀ z : Int, z ≠ 10 → List.count 10 (pOpt z) = 0 := fun z hz => by
    unfold pOpt; split
    · rw [List.count_cons, List.count_nil, if_neg (by simpa using hz)]
    · rfl
  unfold pCodes pMid
  rw [List.count_append, List.count_append, o a ha, o c hc]
  split
  · rw [List.count_append, List.count_append, List.count_replicate_self, List.count_cons, List.count_nil, if_neg (by simpa using hb)]; omega
  · rw [List.count_replicate_self]; omega
theorem flat_rep (n : Nat) (x : Int) : (List.replicate n [x]).flatten = List.replicate n x := by
  induction n with
  | zero => rfl
  | succ n ih => rw [List.replicate_succ, List.replicate_succ, List.flatten_cons, ih]; rfl
theorem due_pCodes (a b c : Int) (S : Nat) : (([a] ++ List.replicate S 10 ++ [b] ++ (if b ≠ 0 then List.replicate S 10 else []) ++ [c]).filter fun z => decide (z ≠ 0)) = pCodes a b c 10 S := by
  have o : ∀ z : Int, ([z].filter fun z => decide (z ≠ 0)) = pOpt z := fun z => by
    unfold pOpt; by_cases h : z = 0
    · subst h; rfl
    · simp [h]
  have r : ((List.replicate S (10 : Int)).filter fun z => decide (z ≠ 0)) = List.replicate S 10 := List.filter_eq_self.mpr fun z hz => by rw [List.eq_of_mem_replicate hz]; rfl
  unfold pCodes pMid
  simp only [List.filter_append, o, r]
  by_cases h : b = 0
  · subst h
    simp only [ne_eq, not_true, if_false, List.filter_nil, List.append_nil]
    rw [show pOpt 0 = [] from rfl, List.append_nil]
  · rw [if_pos h, if_pos h, r]
    rw [show pOpt b = [b] by unfold pOpt; rw [if_pos h]]
    simp
theorem pCodes_len {a b c : Int} {S : Nat} (hS : S ≤ 200) : (pCodes a b c 10 S).length ≤ 500 := by
  have h1 := pOpt_len a; have h2 := pOpt_len c; have h3 := pMid_len b 10 S
  unfold pCodes; simp only [List.length_append]; omega
theorem half_two (S : Nat) : Int.fdiv ((2 * S : Nat) : Int) 2 = (S : Int) := by rw [Int.fdiv_eq_ediv_of_nonneg _ (by decide)]; omega
inductive JZ2 (h : Heap) (fv : Value) (rows : List Row) (nw : List (Addr × Obj)) (bs : List (Str × Value)) (rest : List Value) (m : Str → Option Value) (news : List (Addr × Obj)) : Prop
  | mk (cs : List Int) (h0 : news = nw) (h1 : All2 (LetV h fv rows) rest cs) (h2 : ∀ z ∈ cs, (find rows z).isSome = true) (h3 : Has m bs) : JZ2 h fv rows nw bs rest m news
set_option maxHeartbeats 8000000 in
theorem pieces_right_spec (R : Rm 6 A) (X : (KF w.params).In s.heap) (T : TR mg mb s.heap) {x dx li pt : Addr} {es : List DictEntry} {n nl : Nat} {fv rl : Value} {rows : List Row} {bw bh bd sh high : Int} {th : Tok} {ys ps : List Value} {a b c : Int} {S : Nat}
   (B : BoxAt s.heap x dx es n 3 bw bh bd (.ref li) sh) (hli : s.heap.get? li = some (listOf (List.toArray ys) nl)) (hys : All2 (LetV s.heap fv rows) ys (pCodes a b c 10 S)) (hr : RowsV s.heap rl rows)
   (hp : IsTup s.heap pt ps.toArray) (hi : IntsAre ps [a, b, c, 10]) (hlen : rows.length ≤ 100) (hnd : (rows.map (·.code)).Nodup) (hS : S ≤ 200)
   (ha : a ≠ 10) (hb : b ≠ 10) (hc : c ≠ 10) (hfd : ∀ z ∈ pCodes a b c 10 S, (find rows z).isSome = true) (h10 : (find rows 10).isSome = true)
   (hbw : bw = (rowD rows 10).wd + (rowD rows 10).it) (hbh : bh = headH rows (pCodes a b c 10 S)) (hsum : bh + bd = ((pCodes a b c 10 S).map (hd2 rows)).sum) (hw1 : high ≤ bh + bd) (hw2 : 0 < S → bh + bd - hd2 rows 10 * (if b ≠ 0 then 2 else 1) < high)
   (h : ∀ h' tk, s.heap.StaysIn h' → Q (.bool true) {s with heap := h', toks := tk}) :
   wpAny (model p0 w) A (call (.ref 529) [.ref x, rl, .ref pt, .int high th]) Q E s := by
  obtain ⟨ra, rvs, rfl, hl, hal⟩ := hr
  refine callF (binds := [("box", .ref x), ("rows", .ref ra), ("pieces", .ref pt), ("high", .int high th)]) R X T rfl (by k_is) (BindsTo.of_eq (by kernel_rfl)) (by kernel_rfl) rfl rfl rfl (by kernel_rfl) (fun L h₁ tk F N X T => ?_)
  cases hi with | cons _ ta hi => cases hi with | cons _ tb hi => cases hi with | cons _ tc hi => cases hi with | cons _ td hi => cases hi with | nil =>
  repeat' (first | walk1 | (dsimp only; walk1))
  rename Fr _ _ _ _ => F8
  refine For_st F8 ?_
  repeat' (first | walk1 | (dsimp only; walk1))
  rename Fr _ _ _ _ => F7; rename News _ _ _ _ => N7
  rename_i dc hA5 od0 lo hs fs hdi fi l12 hA4
  have hrl : rvs.length = rows.length := hal.length
  refine turns_base (JZ1 w s.heap dc rows [("by_code", .ref dc), ("again", .int 10 td), ("bottom", .int c tc), ("middle", .int b tb), ("top", .int a ta), ("box", .ref x), ("high", .int high th)]) (.inl hl) F7 N7 ⟨[], rows, [], od0, rfl, hal, rfl, hdi, .nil, Has.of_map rfl⟩ ?_ ?_
  · rintro v rest m₁ news₁ h₁ tk₁ I ito kK hK ⟨done, rs, kvs, od, hrs, hall, rfl, hdo, hch, H⟩ hoff hc F N
    cases hall with | cons q hall =>
    rename_i r rs
    have hI2 : @Ne Nat dc I := hoff _ (.head _)
    have hv9 : valueAt kvs r.code = none := valueAt_none_of_not_mem (by
      rw [rows_codes hch]
      rw [hrs, List.map_append, List.map_cons] at hnd
      have := (List.nodup_append.mp hnd).2.2
      exact fun q => this _ q _ (.head _) rfl)
    have hkl : kvs.length ≤ 1000 := by
      have h1 := hch.length
      rw [hrs, List.length_append] at hlen
      omega
    obtain ⟨ra9, rfl, hrow⟩ := q.ref
    replace F := frOf F H
    clear F7 N7 q
    repeat' (first | walk1 | (dsimp only; walk1))
    rename Fr _ _ _ _ => F9; rename News _ _ _ _ => N9
    refine dset F9 N9 (by k_mem) hdo hkl (fun h' o' F' kb ho' hd' => ?_)
    have S9 := And.intro F9 N9
    clear F9 N9
    have N' : News s.heap L h' [] := News.nil
    repeat' (first | walk1 | (dsimp only; walk1))
    obtain ⟨F9, N9⟩ := S9
    rw [stored_absent hv9] at hd'
    have md := N9 (dc, od) (by k_mem); have mi := N9 (I, ito) (by k_mem)
    exact ⟨h', _, _, [(dc, o')], rfl, F', (fun p hp => by
      simp only [List.mem_cons, List.not_mem_nil, or_false] at hp
      rcases hp with rfl | rfl
      · exact ⟨kb _ _ (by k_ne) mi.1, mi.2⟩
      · exact ⟨ho', md.2⟩), (fun p hp => by
      simp only [List.mem_cons, List.not_mem_nil, or_false] at hp
      rcases hp with rfl
      exact hI2), done ++ [r], rs, kvs ++ [(r.code, .ref ra9)], o', by rw [hrs]; simp, hall, rfl, hd', hch.append (.cons ⟨rfl, hrow⟩ .nil), Has.of_map rfl⟩
  · rintro h' tk' m' news' F N ⟨done, rs, kvs, od, hrs, hall, rfl, hdo, hch, H⟩
    cases hall
    rw [List.append_nil] at hrs
    subst hrs
    replace F := frOf F H
    clear F7 N7
    repeat' (first | walk1 | (dsimp only; walk1))
    rename Fr _ _ _ _ => F8; rename News _ _ _ _ => N8
    have I0 : InstAt s.heap x (instObj 257 dx) 257 (some (dictOf es n)) := instAt_mk B.hx B.hd
    obtain ⟨t1, b1⟩ := B.kind; obtain ⟨t2, b2⟩ := B.width; obtain ⟨t3, b3⟩ := B.height; obtain ⟨t4, b4⟩ := B.depth; have b5 := B.items
    refine ⟨ALComp_go F8 (by rfl) (by with_unfolding_all rfl) (by with_unfolding_all rfl) (by decide) (by rfl) (by decide) (by rfl) (by rfl) ?_⟩
    repeat' (first | walk1 | (dsimp only; walk1))
    rename Fr _ _ _ _ => F7; rename News _ _ _ _ => N7
    have hyl : ys.length = (pCodes a b c 10 S).length := hys.length
    have hcl : (pCodes a b c 10 S).length ≤ 500 := pCodes_len hS
    have hcnt : List.count 10 (pCodes a b c 10 S) = if b ≠ 0 then 2 * S else S := count_pCodes ha hb hc
    have hdue := due_pCodes a b c S
    generalize pCodes a b c 10 S = pcs at hys hfd hbh hsum hyl hcl hcnt hdue
    refine cgo_list (fun i zs news => news = [(dc, od)] ∧ IntsAre zs (pcs.take i)) _ (its := ys) (oax := listOf (List.toArray ys) nl) (fun h e => ⟨_, e, rfl, _, rfl⟩) (by omega) F7 N7 (.inl hli) ⟨rfl, .nil⟩ (fun g9 => casg_name (by rfl) (by rfl)) ?_ ?_
    · rintro g9 i v zs news I oI C oC D9 m₂ h9 tk9 E' kK2 kK hK2 hK hi hv ⟨rfl, hzs⟩ hC hx9 F N off ne
      obtain ⟨cd, hci, x1, dx1, es1, n1, li1, nl1, c1, dc1, esc1, nc1, rfl, LA⟩ := hys.get hv
      have I1 : InstAt s.heap x1 (instObj 257 dx1) 257 (some (dictOf es1 n1)) := instAt_mk LA.box.hx LA.box.hd
      have I2 : InstAt s.heap c1 (instObj 236 dc1) 236 (some (dictOf esc1 nc1)) := instAt_mk LA.ch.hx LA.ch.hd
      have q1 := LA.box.items; obtain ⟨t9, q2⟩ := LA.ch.code
      have hl1 : s.heap.IsList li1 #[.ref c1] := ⟨_, LA.li, rfl, _, rfl⟩
      clear F7 N7
      refine wpAny_tests_nil ?_
      simp only [if_true]
      repeat' (first | walk1 | (dsimp only; walk1))
      try dsimp only
      exact LCg.CompEnd.intro F N _ (fun p hp => hp) off (.inl hli) ⟨rfl, by rw [take_one hci]; exact intsSnoc hzs _ _⟩
    · rintro g9 zs news ⟨rfl, hzs⟩ hzl D1 h9 tk9 F N off
      clear F7 N7
      rw [hyl, List.take_length] at hzs
      have hrep := ints_rep S 10 td
      generalize hkk : (if b ≠ 0 then (2 : Int) else 1) = kk at hw2
      repeat' (first | walk1 | (dsimp only; walk1))
      rename Fr _ _ _ _ => F8; rename News _ _ _ _ => N8
      refine IfE_go (JV (fun t => .int (S : Int) t) (fun tn _ => [("turns", .int ((List.count 10 pcs : Nat) : Int) tn), ("codes", .ref D1), ("by_code", .ref dc), ("again", .int 10 td), ("bottom", .int c tc), ("middle", .int b tb), ("top", .int a ta), ("box", .ref x), ("high", .int high th)])) F8 N8 (fun going => ?_) (fun v h' tk m' pre F N j => ?_)
      · repeat' (first | walk1 | (dsimp only; walk1))
        · rename Fr _ _ _ _ => F9; rename News _ _ _ _ => N9; rename b ≠ 0 => hz
          exact ⟨_, _, _, [], rfl, F9, N9, _, _, 0, rfl, by rw [hcnt, if_pos hz, half_two S], Has.of_map rfl⟩
        · rename Fr _ _ _ _ => F9; rename News _ _ _ _ => N9; rename b = 0 => hz
          exact ⟨_, _, _, [], rfl, F9, N9, _, _, 0, rfl, by rw [hcnt, if_neg (by simpa using hz)], Has.of_map rfl⟩
      obtain ⟨tS, tn, _, rfl, rfl, H⟩ := j
      simp only [List.nil_append] at N
      replace F := frOf F H
      repeat' (first | walk1 | (dsimp only; walk1))
      rename Fr _ _ _ _ => F8
      obtain ⟨m0, F0, H0⟩ : ∃ m0, Fr s.heap L _ m0 ∧ Has m0 [("half", .int (S : Int) tS), ("turns", .int ((List.count 10 pcs : Nat) : Int) tn), ("codes", .ref D1), ("by_code", .ref dc), ("again", .int 10 td), ("bottom", .int c tc), ("middle", .int b tb), ("top", .int a ta), ("box", .ref x), ("high", .int high th)] := ⟨_, F8, Has.of_map rfl⟩
      have F8 := frOf F0 H0
      clear F0
      refine ⟨ALComp_go F8 (by rfl) (by with_unfolding_all rfl) (by with_unfolding_all rfl) (by decide) (by rfl) (by decide) (by rfl) (by rfl) ?_⟩
      repeat' (first | walk1 | (dsimp only; walk1))
      rename Fr _ _ _ _ => F8; rename News _ _ _ _ => N8
      refine IfE_go (fun v m pre => ∃ D9 vs9 k9, v = .ref D9 ∧ pre = [(D9, listOf (List.toArray vs9) k9)] ∧ IntsAre vs9 (if b ≠ 0 then List.replicate S 10 else []) ∧ m = frm [("half", .int (S : Int) tS), ("turns", .int ((List.count 10 pcs : Nat) : Int) tn), ("codes", .ref D1), ("by_code", .ref dc), ("again", .int 10 td), ("bottom", .int c tc), ("middle", .int b tb), ("top", .int a ta), ("box", .ref x), ("high", .int high th)] m0) F8 N8 (fun going => ?_) (fun v h' tk m' pre F N j => ?_)
      · repeat' (first | walk1 | (dsimp only; walk1))
        · rename Fr _ _ _ _ => F9; rename News _ _ _ _ => N9; rename b ≠ 0 => hz
          exact ⟨_, _, _, [_], rfl, F9, newsMk N9 (.head _) (fun q hq => N9 q (.tail _ (.tail _ hq))), _, _, _, rfl, rfl, by rw [if_pos hz]; exact hrep, rfl⟩
        · rename Fr _ _ _ _ => F9; rename News _ _ _ _ => N9; rename b = 0 => hz
          exact ⟨_, _, _, [_], rfl, F9, N9, _, [], _, rfl, rfl, by rw [if_neg (by simpa using hz)]; exact .nil, rfl⟩
      obtain ⟨D4, vs4, k4, rfl, rfl, hi4, rfl⟩ := j
      simp only [List.cons_append, List.nil_append] at N
      have hl4 : (if b ≠ 0 then List.replicate S (10 : Int) else []).length ≤ S := by split <;> simp
      generalize hn4 : (if b ≠ 0 then List.replicate S (10 : Int) else []) = ns4 at hi4 hl4
      repeat' (first | walk1 | (dsimp only; walk1))
      rename Fr _ _ _ _ => F7; rename News _ _ _ _ => N7; rename IntsAre _ (_ ++ [c]) => hI9
      rename_i Ds ws9 _ _
      generalize hns : (_ ++ [c] : List Int) = ns9 at hI9
      rw [show (List.replicate ((S : Int)).toNat [(10 : Int)]).flatten = List.replicate S 10 from flat_rep S 10, ← hn4] at hns
      have hn9 : ns9.filter (fun z => decide (z ≠ 0)) = pcs := by rw [← hns]; exact hdue
      have hw9 := IntsAre.length hI9
      have hl9 : ws9.length ≤ 2000 := by
        rw [hw9, ← hns, hn4]; simp only [List.length_append, List.length_cons, List.length_nil, List.length_replicate]; omega
      refine cgo_list (fun i us news => news = [(Ds, W.listOf ws9.toArray 0), (D1, LCg.lst zs), (dc, od)] ∧ IntsAre us ((ns9.take i).filter (fun z => decide (z ≠ 0)))) _ (its := ws9) (oax := W.listOf ws9.toArray 0) (fun h e => ⟨_, e, rfl, _, rfl⟩) (by omega) F7 (newsMk N7 (.head _) (newsMk N7 (p := (D1, LCg.lst zs)) (by k_mem) (newsMk N7 (p := (dc, od)) (by k_mem) News.nil))) (.inr (.head _)) ⟨rfl, .nil⟩ (fun g9 => casg_name (by rfl) (by rfl)) ?_ ?_
      · rintro g9 i v us news I oI C oC D9 m₂ h9 tk9 E' kK2 kK hK2 hK hi hv ⟨rfl, hus⟩ hC hx9 F N off ne
        obtain ⟨cd, t9, rfl, hci⟩ := intsAre_get hI9 hv
        clear F7 N7
        refine wpAny_tests_one ?_
        repeat' (first | walk1 | (dsimp only; walk1))
        · (try dsimp only); rename cd ≠ 0 => hz
          exact LCg.CompEnd.intro F N _ (fun p hp => hp) off (.inr (.head _)) ⟨rfl, by rw [take_one hci, List.filter_append, List.filter_cons, if_pos (by simpa using hz)]; exact intsSnoc hus _ _⟩
        · (try dsimp only); rename cd = 0 => hz
          exact LCg.CompEnd.intro F N _ (fun p hp => hp) off (.inr (.head _)) ⟨rfl, by rw [take_one hci, List.filter_append, List.filter_cons, if_neg (by simpa using hz), List.filter_nil, List.append_nil]; exact hus⟩
      · rintro g9 us news ⟨rfl, hus⟩ hul D2 h9 tk9 F N off
        clear F7 N7
        rw [hw9, List.take_length, hn9] at hus
        clear hns hn9 hI9 hw9 hl9
        repeat' (first | walk1 | (dsimp only; walk1))
        rename Fr _ _ _ _ => F8; rename News _ _ _ _ => N8
        refine If_go (JB (fun _ => [("turns", .int ((List.count 10 pcs : Nat) : Int) tn), ("codes", .ref D1), ("by_code", .ref dc), ("again", .int 10 td), ("middle", .int b tb), ("box", .ref x), ("high", .int high th)])) F8 (newsMk N8 (p := (D1, LCg.lst zs)) (by k_mem) (newsMk N8 (p := (dc, od)) (by k_mem) News.nil)) (fun going => ?_) (fun h' tk m' pre F N j => ?_)
        · repeat' (first | walk1 | (dsimp only; walk1))
          all_goals
            rename Fr _ _ _ _ => F9; rename News _ _ _ _ => N9
            exact ⟨_, _, _, [], rfl, F9, newsMk N9 (p := (D1, LCg.lst zs)) (by k_mem) (newsMk N9 (p := (dc, od)) (by k_mem) News.nil), 0, rfl, Has.of_map rfl⟩
        obtain ⟨_, rfl, H⟩ := j
        simp only [List.nil_append] at N
        replace F := frOf F H
        repeat' (first | walk1 | (dsimp only; walk1))
        rename Fr _ _ _ _ => F8
        refine For_st F8 ?_
        repeat' (first | walk1 | (dsimp only; walk1))
        rename Fr _ _ _ _ => F7; rename News _ _ _ _ => N7
        refine turns_base (JZ2 s.heap fv rows [(D1, LCg.lst zs), (dc, od)] [("turns", .int ((List.count 10 pcs : Nat) : Int) tn), ("codes", .ref D1), ("by_code", .ref dc), ("again", .int 10 td), ("middle", .int b tb), ("box", .ref x), ("high", .int high th)]) (.inl ⟨_, hli, rfl, _, rfl⟩) F7 (newsMk N7 (p := (D1, LCg.lst zs)) (by k_mem) (newsMk N7 (p := (dc, od)) (by k_mem) News.nil)) ⟨_, rfl, hys, hfd, Has.of_map rfl⟩ ?_ ?_
        · rintro v rest m₁ news₁ h₁ tk₁ I ito kK hK ⟨cs, rfl, hall, hcsf, H⟩ hoff hcx F N
          cases hall with | cons q hall =>
          rename_i cd cs
          obtain ⟨x1, dx1, es1, n1, li1, nl1, c1, dc1, esc1, nc1, rfl, LA⟩ := q
          have going : Going := ⟨⟩
          have I1 : InstAt s.heap x1 (instObj 257 dx1) 257 (some (dictOf es1 n1)) := instAt_mk LA.box.hx LA.box.hd
          have I2 : InstAt s.heap c1 (instObj 236 dc1) 236 (some (dictOf esc1 nc1)) := instAt_mk LA.ch.hx LA.ch.hd
          have q1 := LA.box.items; obtain ⟨t9, q2⟩ := LA.ch.code; obtain ⟨t8, q3⟩ := LA.box.shift
          have hl1 : s.heap.IsList li1 #[.ref c1] := ⟨_, LA.li, rfl, _, rfl⟩
          have hcd := hcsf cd (.head _)
          rcases find_rows hch cd with ⟨_, e⟩ | ⟨v, r, hv9, hfi, hrow⟩
          · rw [e] at hcd; cases hcd
          obtain ⟨ra9, rfl, hrow⟩ := hrow.ref
          replace F := frOf F H
          clear F7 N7
          repeat' (first | walk1 | (dsimp only; walk1))
          rename Fr _ _ _ _ => F9; rename News _ _ _ _ => N9
          have hrc : r.code = cd := (find_mem hfi).2
          subst hrc
          rw [rowD_of hfi] at LA
          refine ⟨letter_right_spec (mg := mg) (mb := mb) (Rm.le Rm.an (by decide)) (X.keeps F9.keep) (trKeep T F9) (r := r) (LA.box.keeps F9.keep) (F9.keep _ _ LA.li) (LA.ch.keeps F9.keep) (hrow.keeps F9.keep) (fun h8 tk8 k8 => ?_)⟩
          have F6 := frAfter F9 k8
          have N6 := newsAfter N9 k8
          clear F9 N9
          repeat' (first | walk1 | (dsimp only; walk1))
          exact ⟨_, _, _, [_, _], rfl, F6, N6, hoff, cs, rfl, hall, fun z hz => hcsf z (.tail _ hz), Has.of_map rfl⟩
        · rintro h' tk' m' news' F N ⟨_, rfl, _, _, H⟩
          replace F := frOf F H
          clear F7 N7
          repeat' (first | walk1 | (dsimp only; walk1))
          rename Fr _ _ _ _ => F8
          refine ⟨LComp_go F8 (by with_unfolding_all rfl) (by decide) (by rfl) (by decide) ?_⟩
          repeat' (first | walk1 | (dsimp only; walk1))
          rename Fr _ _ _ _ => F7; rename News _ _ _ _ => N7
          refine cgo_list (fun i us news => news = [(D1, LCg.lst zs), (dc, od)] ∧ IntsAre us ((pcs.take i).map (hd2 rows))) _ (its := ys) (oax := listOf (List.toArray ys) nl) (fun h e => ⟨_, e, rfl, _, rfl⟩) (by omega) F7 N7 (.inl hli) ⟨rfl, .nil⟩ (fun g9 => casg_name (by rfl) (by rfl)) ?_ ?_
          · rintro g9 i v us news I oI C oC D9 m₂ h9 tk9 E' kK2 kK hK2 hK hi hv ⟨rfl, hus⟩ hC hx9 F N off ne
            obtain ⟨cd, hci, x1, dx1, es1, n1, li1, nl1, c1, dc1, esc1, nc1, rfl, LA⟩ := hys.get hv
            have I1 : InstAt s.heap x1 (instObj 257 dx1) 257 (some (dictOf es1 n1)) := instAt_mk LA.box.hx LA.box.hd
            obtain ⟨t9, q2⟩ := LA.box.height; obtain ⟨t8, q3⟩ := LA.box.depth
            clear F7 N7
            refine wpAny_tests_nil ?_
            simp only [if_true]
            repeat' (first | walk1 | (dsimp only; walk1))
            try dsimp only
            exact LCg.CompEnd.intro F N _ (fun p hp => hp) off (.inl hli) ⟨rfl, by rw [take_one hci, List.map_append]; exact intsSnoc hus _ _⟩
          · rintro g9 us news ⟨rfl, hus⟩ hul D2 h9 tk9 F N off
            clear F7 N7
            rw [hyl, List.take_length] at hus
            rcases find_rows hch 10 with ⟨_, e⟩ | ⟨v, r, hv10, hfi, hrow⟩
            · rw [e] at h10; cases h10
            obtain ⟨ra9, rfl, hrow⟩ := hrow.ref
            rw [rowD_of hfi] at hbw
            have hE : hd2 rows 10 = r.ht + r.dp := by unfold hd2; rw [rowD_of hfi]
            rw [hE] at hw2
            subst hbw
            generalize List.map (hd2 rows) pcs = hds at hus hsum
            have hw3 : 0 < List.count 10 pcs → bh + bd - (r.ht + r.dp) * kk < high := fun q => hw2 (by rw [hcnt] at q; split at q <;> omega)
            clear hw2
            repeat' (first | (walk1 <;> (try dsimp only)) | (dsimp only; walk1))
            rename Fr _ _ _ _ => F8; rename News _ _ _ _ => N8
            refine IfE_go (JV (fun t => .int kk t) (fun t1 t2 => [("each", .int (r.ht + r.dp) t1), ("whole", .int hds.sum t2), ("turns", .int ((List.count 10 pcs : Nat) : Int) tn), ("codes", .ref D1), ("by_code", .ref dc), ("again", .int 10 td), ("middle", .int b tb), ("box", .ref x), ("high", .int high th)])) F8 (newsMk N8 (p := (D1, LCg.lst zs)) (by k_mem) (newsMk N8 (p := (dc, od)) (by k_mem) News.nil)) (fun going => ?_) (fun v h' tk m' pre F N j => ?_)
            · repeat' (first | walk1 | (dsimp only; walk1))
              · rename Fr _ _ _ _ => F9; rename News _ _ _ _ => N9; rename b ≠ 0 => hz
                exact ⟨_, _, _, [], rfl, F9, newsMk N9 (p := (D1, LCg.lst zs)) (by k_mem) (newsMk N9 (p := (dc, od)) (by k_mem) News.nil), _, _, _, rfl, by rw [← hkk, if_pos hz], Has.of_map rfl⟩
              · rename Fr _ _ _ _ => F9; rename News _ _ _ _ => N9; rename b = 0 => hz
                exact ⟨_, _, _, [], rfl, F9, newsMk N9 (p := (D1, LCg.lst zs)) (by k_mem) (newsMk N9 (p := (dc, od)) (by k_mem) News.nil), _, _, _, rfl, by rw [← hkk, if_neg (by simpa using hz)], Has.of_map rfl⟩
            obtain ⟨tkk, te, tw, rfl, rfl, H⟩ := j
            simp only [List.nil_append] at N
            replace F := frOf F H
            repeat' (first | (walk1 <;> (try dsimp only)) | (dsimp only; walk1))
            rename Fr _ _ _ _ => F8; rename News _ _ _ _ => N8
            refine If_go (JB (fun _ => [("codes", .ref D1), ("by_code", .ref dc), ("again", .int 10 td), ("box", .ref x)])) F8 N8 (fun going => ?_) (fun h' tk m' pre F N j => ?_)
            · repeat' (first | (walk1 <;> (try dsimp only)) | (dsimp only; walk1))
              all_goals first
                | (exfalso; omega)
                | (rename Fr _ _ _ _ => F9; rename News _ _ _ _ => N9; exact ⟨_, _, _, [], rfl, F9, N9, 0, rfl, Has.of_map rfl⟩)
            obtain ⟨_, rfl, H⟩ := j
            simp only [List.nil_append] at N
            replace F := frOf F H
            rcases pcs with _ | ⟨c9, cs9⟩
            · cases hys; cases hzs
              rw [show headH rows [] = 0 from rfl] at hbh
              subst hbh
              have going : Going := ⟨⟩
              repeat' (first | (walk1 <;> (try dsimp only)) | (dsimp only; walk1))
              all_goals first
                | (exfalso; omega)
                | (exact absurd rfl (by assumption))
                | (exfalso; rename (decide (_ :: _ = []) = true) => hdd; simp at hdd; done)
                | (rename Fr _ _ _ _ => F9; exact h _ _ F9.keep)
                | (rename Fr _ _ _ _ => F9; rw [beq_self_eq_true]; exact h _ _ F9.keep)
            · cases hys with | cons q hys =>
              cases hzs with | cons _ t7 hzs =>
              obtain ⟨x1, dx1, es1, n1, li1, nl1, c1, dc1, esc1, nc1, rfl, LA⟩ := q
              have I1 : InstAt s.heap x1 (instObj 257 dx1) 257 (some (dictOf es1 n1)) := instAt_mk LA.box.hx LA.box.hd
              obtain ⟨t9, q2⟩ := LA.box.height
              have hl0 : s.heap.IsList li (List.toArray (Value.ref x1 :: _)) := ⟨_, hli, rfl, _, rfl⟩
              rw [show headH rows (c9 :: cs9) = (rowD rows c9).ht from rfl] at hbh
              subst hbh
              have going : Going := ⟨⟩
              repeat' (first | (walk1 <;> (try dsimp only)) | (dsimp only; walk1))
              all_goals first
                | (exfalso; omega)
                | (exact absurd rfl (by assumption))
                | (exfalso; rename (decide (_ :: _ = []) = true) => hdd; simp at hdd; done)
                | (rename Fr _ _ _ _ => F9; exact h _ _ F9.keep)
                | (rename Fr _ _ _ _ => F9; rw [beq_self_eq_true]; exact h _ _ F9.keep)
end
end Mine
end
section
open PySem PySem.W PyProof.Rows PySem.Calls
set_option maxHeartbeats 1000000
namespace Mine
section
open PyProof.Rows.LCg PySem.SeqAt
variable {w : World} {A : Around} {s : Shared} {E : Value → Shared → Prop} {h₀ : Heap} {L : Addr} {m : Str → Option Value} {news D : List (Addr × Obj)} {g : Heap}
theorem Gh.now (G : Gh h₀ g D) (F : Fr h₀ L s.heap m) (N : News h₀ L s.heap news) (hs : ∀ p ∈ D, p ∈ news) : g.StaysIn s.heap := G.stays F fun p hp => N p (hs p hp)
theorem sub_fresh {h g : Heap} (k : h.StaysIn g) : ∀ b o, g.get? b = some o → h.get? b = some o ∨ h.get? b = none := fun b o e => by
  cases q : h.get? b with
  | none => exact .inr rfl
  | some o' => rw [k b o' q] at e; exact .inl e
theorem item_g {Q : Value → Shared → Prop} {value slice : Expr} {d : Addr} {kvs : List (Int × Value)} {code : Int} {t : Tok} {v : Value} (F : Fr h₀ L s.heap m) (N : News h₀ L s.heap news) (G : Gh h₀ g D) (hs : ∀ p ∈ D, p ∈ news) (hd : g.DictOf (intKind p0 w) d kvs) (hv : valueAt kvs code = some v)
    (h : Q v { s with toks := s.toks + 1 }) (hss : subscripted slice false (.ref d) (.int code t) = operate [.ref d, .int code t] (getItem (.ref d) (.int code t))) : wpAny (model p0 w) A (subscriptTail value slice (.ref d) (.int code t)) Q E s :=
  have hm := (hd.keep (G.now F N hs)).mapOf
  tail_any hm.typeIs slot_dict_getitem.lookup (wpAny_getItem_of (intKind_is _ _ _ _) hm hv h) hss
theorem dcopy_g {mg mb : Str → Option Value} {Q : Value → Shared → Prop} {d : Addr} {kvs : List (Int × Value)} (F : Fr h₀ L s.heap m) (N : News h₀ L s.heap news) (T : TR mg mb h₀) (G : Gh h₀ g D) (hs : ∀ p ∈ D, p ∈ news) (hd : g.DictOf (intKind p0 w) d kvs) (hds : (d == sysModules) = false) (hn : kvs.length ≤ 1000)
    (h : ∀ (D : Addr) h' o, Fr h₀ L h' m → News h₀ L h' ((D, o) :: news) → (∀ p ∈ news, p.1 < D) → (D == sysModules) = false → o.IsDictOf (intKind p0 w) kvs → Q (.ref D) { s with heap := h' }) :
    wpAny (model p0 w) A (call (.type "dict") [.ref d]) Q E s := by
  refine kt_call_dict hds (hd.keep (G.now F N hs)) (by rw [sizeLine_eq]; omega) fun h' hm hs => ?_
  obtain ⟨o', ho', hd'⟩ := Heap.dictOf_iff.mp hm
  have N1 := News.push F N { cls := .type "dict", data := .dict #[] }
  exact h _ h' o' ((F.push _).change hs (N1 _ (.head _)).2.1 (N1.fresh (.head _))) (N1.setHead N.apart hs ho') (fun p hp => Heap.lt_size (N p hp).1) (F.notModules (modules_low T.nolimit)) hd'
theorem tup_g {a : Addr} {xs : Array Value} (F : Fr h₀ L s.heap m) (N : News h₀ L s.heap news) (G : Gh h₀ g D) (hs : ∀ p ∈ D, p ∈ news) (ht : IsTup g a xs) : IsTup s.heap a xs := isTup_keeps ht (G.now F N hs)
theorem tlen_g {Q : Value → Shared → Prop} {a : Addr} {xs : Array Value} {n : Int} (F : Fr h₀ L s.heap m) (N : News h₀ L s.heap news) (G : Gh h₀ g D) (hs : ∀ p ∈ D, p ∈ news) (ht : IsTup g a xs) (hn : ((xs.size : Nat) : Int) = n) (hb : n ≤ 1000000) (h : Q (.int n (s.toks + 1)) { s with toks := s.toks + 1 + 1 }) : wpAny (model p0 w) A (call (.builtin "len") [.ref a]) Q E s :=
  PyProof.Rows.len_tuple (tup_g F N G hs ht) (by rw [hn]; omega) (by rw [hn]; exact h)
theorem item_tg {Q : Value → Shared → Prop} {value slice : Expr} {t : Addr} {l : List Value} {k : Int} {u : Tok} {j : Nat} {x : Value} (F : Fr h₀ L s.heap m) (N : News h₀ L s.heap news) (G : Gh h₀ g D) (hs : ∀ p ∈ D, p ∈ news) (ht : IsTup g t l.toArray)
    (hlo : -(2 ^ 63) ≤ k) (hhi : k < 2 ^ 63) (hj : seqIndex? k l.length = some j) (hx : l[j]? = some x) (h : Q x s)
    (hs9 : subscripted slice false (.ref t) (.int k u) = operate [.ref t, .int k u] (getItem (.ref t) (.int k u))) (hg9 : ∀ r, letTemporaryGo value (.ref t) r = pure ()) :
    wpAny (model p0 w) A (subscriptTail value slice (.ref t) (.int k u)) Q E s := item_tupleL (tup_g F N G hs ht) hlo hhi hj hx h hs9 hg9
theorem item_lg {Q : Value → Shared → Prop} {value slice : Expr} {a : Addr} {l : List Value} {k : Int} {u : Tok} {x : Value} (F : Fr h₀ L s.heap m) (N : News h₀ L s.heap news) (G : Gh h₀ g D) (hs : ∀ p ∈ D, p ∈ news) (hl : g.IsList a l.toArray)
    (h0 : 0 ≤ k) (hfit : k < 2 ^ 63) (hx : l[k.toNat]? = some x) (h : Q x s)
    (hs9 : subscripted slice false (.ref a) (.int k u) = operate [.ref a, .int k u] (getItem (.ref a) (.int k u))) (hg9 : ∀ r, letTemporaryGo value (.ref a) r = pure ()) :
    wpAny (model p0 w) A (subscriptTail value slice (.ref a) (.int k u)) Q E s := PyProof.Rows.item_listL (isList_keeps hl (G.now F N hs)) h0 hfit hx h hs9 hg9
theorem BoxItems.keeps {g g' : Heap} {kvs : List (Int × Value)} {fs : List (Int × Fo)} {high nul bk bw bh bd : Int} {li : Addr} {o : Option (Int × Row)} (I : BoxItems g kvs fs high nul bk bw bh bd li o) (k : g.StaysIn g') : BoxItems g' kvs fs high nul bk bw bh bd li o := by
  cases o with
  | none => obtain ⟨a, b, c, d, nl, e⟩ := I; exact ⟨a, b, c, d, nl, k _ _ e⟩
  | some pr =>
    obtain ⟨p, r⟩ := pr
    obtain ⟨fa, fo, a, b, c, I⟩ := I
    refine ⟨fa, fo, a, b, c, ?_⟩
    cases hk : r.kd with
    | plain => rw [hk] at I; obtain ⟨i1, i2, i3, i4, c1, dc, esc, nc, nl, i5, i6⟩ := I; exact ⟨i1, i2, i3, i4, c1, dc, esc, nc, nl, k _ _ i5, i6.keeps k⟩
    | larger => rw [hk] at I; obtain ⟨i1, i2, i3, i4, c1, dc, esc, nc, nl, i5, i6⟩ := I; exact ⟨i1, i2, i3, i4, c1, dc, esc, nc, nl, k _ _ i5, i6.keeps k⟩
    | pieces => rw [hk] at I; obtain ⟨i1, i2, i3, i4, ys, nl, i5, i6⟩ := I; exact ⟨i1, i2, i3, i4, ys, nl, k _ _ i5, i6.imp fun _ _ q => q.keeps k⟩
inductive SnapV (w : World) (g : Heap) (v : Value) (q : Int × List (Int × Value)) : Prop
  | mk (T : _)(t : _)(d : _) (h0 : v = .ref T) (h1 : IsTup g T #[.int q.1 t, .ref d]) (h2 : g.DictOf (intKind p0 w) d q.2) (h3 : (d == sysModules) = false) : SnapV w g v q
theorem SnapV.keeps {g g' : Heap} {v : Value} {q : Int × List (Int × Value)} (x : SnapV w g v q) (k : g.StaysIn g') : SnapV w g' v q := let ⟨T, t, d, e, i, j, l⟩ := x; ⟨T, t, d, e, isTup_keeps i k, j.keep k, l⟩
theorem hits_self {K : Type} [DecidableEq K] {kb : List (K × Value)} : ∀ l : List (K × Value), (∀ p ∈ l, valueAt kb p.1 = some p.2) → KeqHits A s kb l true
  | [], _ => .nil
  | (k, v) :: l, h => .hit (b := true) (e := true) (h _ (.head _)) (EqAt.same v) (hits_self l fun p hp => h p (.tail _ hp))
theorem valueAt_mem {kvs : List (Int × Value)} (hn : (kvs.map (·.1)).Nodup) : ∀ p ∈ kvs, valueAt kvs p.1 = some p.2 := by
  induction kvs with
  | nil => intro p hp; cases hp
  | cons a l ih =>
    intro p hp
    rw [List.map_cons, List.nodup_cons] at hn
    rcases List.mem_cons.mp hp with rfl | hp
    · simp [valueAt]
    · have hne : a.1 ≠ p.1 := fun e => hn.1 (by rw [e]; exact List.mem_map.mpr ⟨p, hp, rfl⟩)
      have := ih hn.2 p hp
      simp only [valueAt] at this ⊢
      simp [List.find?_cons, hne, this]
theorem dictOf_nodup {d : Addr} {kvs : List (Int × Value)} {h : Heap} (hd : h.DictOf (intKind p0 w) d kvs) : (kvs.map (·.1)).Nodup := let ⟨_, x⟩ := hd.dictAt; x.nodup
theorem pairs_any {p p' : Program} {w w' : World} {es : List DictEntry} {kvs : List (Int × Value)} (h : Pairs (intKind p w) es kvs) : Pairs (intKind p' w') es kvs := by
  induction h with
  | nil => exact .nil
  | cons a b _ ih => exact .cons a b ih
theorem dictOf_any {p p' : Program} {w w' : World} {h : Heap} {d : Addr} {kvs : List (Int × Value)} (x : h.DictOf (intKind p w) d kvs) : h.DictOf (intKind p' w') d kvs := by
  obtain ⟨o, es, ep, e, a, b, c, d, f⟩ := x
  exact ⟨o, es, ep, e, a, b, c, pairs_any d, f⟩
theorem eq_snap {v u : Value} {q : Int × List (Int × Value)} (h1 : SnapV w s.heap v q) (h2 : SnapV w s.heap u q) (hu : A.units < cLine) (hu1 : A.in1.units < cLine) : EqAt A s v u true := by
  obtain ⟨T, t, d, rfl, i, j, l⟩ := h1
  obtain ⟨T', t', d', rfl, i', j', l'⟩ := h2
  by_cases e : T = T'
  · subst e; exact EqAt.same _
  · refine EqAt.of_refs e ?_
    have key : EqAt A.in1 s (.ref d) (.ref d') true := by
      by_cases e2 : d = d'
      · subst e2; exact EqAt.same _
      · refine EqAt.of_refs e2 (fun prog w' E Q hq => ?_)
        refine keq_eq (knd := intKind prog w') (r := true) l l' (dictOf_any j) (dictOf_any j') hu1 (fun _ => hits_self _ (valueAt_mem (dictOf_nodup j))) ?_
        simpa using hq
    exact RcAt.tuples (e := fun _ => true) i i' hu fun k h1 h2 => by
      have hk : k < 2 := h1
      have : k = 0 ∨ k = 1 := by omega
      rcases this with rfl | rfl
      · have := EqAt.int_int (A := A.in1) (s := s) q.1 t q.1 t'
        rw [beq_self_eq_true] at this
        exact this
      · exact key
theorem ne_snap {l b : Addr} {vs us : List Value} {qs : List (Int × List (Int × Value))} {Q : Value → Shared → Prop} (hl : s.heap.IsList l vs.toArray) (hb : s.heap.IsList b us.toArray) (h1 : All2 (SnapV w s.heap) vs qs) (h2 : All2 (SnapV w s.heap) us qs) (hu : A.units < cLine) (hu1 : A.in1.units < cLine) (hu2 : A.in1.in1.units < cLine)
    (h : Q (.bool false) s) : wpAny (model p0 w) A (compareOp .NotEq (.ref l) (.ref b)) Q E s := by
  have hsz : vs.toArray.size = us.toArray.size := by simp [h1.length, h2.length]
  refine cmp_ofNotEq (RcNeAt.lists (e := fun _ => true) hl hb hsz hu (fun j a1 a2 => ?_) _ _ _ _ (by rw [show (!((List.range vs.toArray.size).all fun _ => true)) = false by simp]; exact h))
  have e1 : vs[j]? = some vs.toArray[j] := by simp at a1 ⊢
  have e2 : us[j]? = some us.toArray[j] := by simp at a2 ⊢
  obtain ⟨q, x1, x2⟩ := h1.get e1
  obtain ⟨q', y1, y2⟩ := h2.get e2
  rw [x1] at y1
  cases y1
  exact eq_snap x2 y2 hu1 hu2
theorem sum_pCodes (rows : List Row) (a b c d : Int) (n : Nat) : ((pCodes a b c d n).map (hd2 rows)).sum = pReach rows a b c + (n : Int) * pEach rows b d := by
  have o : ∀ z, ((pOpt z).map (hd2 rows)).sum = pOne rows z := fun z => by unfold pOpt pOne; split <;> simp
  have r : ((List.replicate n d).map (hd2 rows)).sum = (n : Int) * hd2 rows d := by
    rw [List.map_replicate]
    induction n with
    | zero => simp
    | succ n ih => rw [List.replicate_succ, List.sum_cons, ih, Int.natCast_succ, Int.add_mul]; omega
  unfold pCodes pMid pReach pEach
  rw [List.map_append, List.map_append, List.sum_append, List.sum_append, o, o]
  by_cases h : b = 0
  · subst h
    simp only [ne_eq, not_true, if_false, r]
    rw [show pOne rows 0 = 0 by unfold pOne; rw [if_neg (by decide)]]
    omega
  · rw [if_pos h, if_pos h, List.map_append, List.map_append, List.sum_append, List.sum_append, r]
    rw [show pOne rows b = hd2 rows b by unfold pOne; rw [if_pos h]]
    simp only [List.map_cons, List.map_nil, List.sum_cons, List.sum_nil]
    have : (n : Int) * (2 * hd2 rows d) = (n : Int) * hd2 rows d + (n : Int) * hd2 rows d := by rw [← Int.mul_assoc, Int.mul_comm (n : Int) 2, Int.mul_assoc, Int.two_mul]
    omega
theorem pSteps_fit {rows : List Row} {a b c d high : Int} (hd : 0 < hd2 rows d) : high ≤ pReach rows a b c + pSteps rows a b c d high * pEach rows b d ∧ (0 < pSteps rows a b c d high → pReach rows a b c + pSteps rows a b c d high * pEach rows b d - pEach rows b d < high) := by
  have hE : 0 < pEach rows b d := by unfold pEach; split <;> omega
  unfold pSteps
  by_cases q : pReach rows a b c < high
  · rw [if_pos ⟨hd, q⟩]
    generalize pReach rows a b c = R0 at q
    generalize pEach rows b d = e at hE
    rw [Int.fdiv_eq_ediv_of_nonneg _ (by omega)]
    have h1 := Int.emod_add_mul_ediv (high - R0 + e - 1) e
    have h2 := Int.emod_nonneg (high - R0 + e - 1) (by omega : e ≠ 0)
    have h3 := Int.emod_lt_of_pos (high - R0 + e - 1) hE
    rw [Int.mul_comm e] at h1
    generalize (high - R0 + e - 1) / e * e = z at h1
    omega
  · rw [if_neg (fun x => q x.2)]
    omega
theorem pEach_mul (rows : List Row) (b d : Int) : pEach rows b d = hd2 rows d * (if b ≠ 0 then 2 else 1) := by
  unfold pEach; split <;> omega
theorem eq_int {A : Around} {s : Shared} (k : Int) (t u : Tok) : EqAt A s (.int k t) (.int k u) true := by
  have := EqAt.int_int (A := A) (s := s) k t k u
  rw [beq_self_eq_true] at this
  exact this
theorem eq_box5 {a b li ln : Addr} {k w0 : Int} {t0 t1 t2 t3 u0 u1 u2 u3 : Tok} {Q : Value → Shared → Prop} (ha : IsTup s.heap a #[.int k t0, .int w0 t1, .int 0 t2, .int 0 t3, .ref li]) (hb : IsTup s.heap b #[.int k u0, .int w0 u1, .int 0 u2, .int 0 u3, .ref ln]) (h1 : s.heap.IsList li #[]) (h2 : s.heap.IsList ln #[])
    (hu : A.units < cLine) (hu1 : A.in1.units < cLine) (h : Q (.bool true) s) : wpAny (model p0 w) A (compareOp .Eq (.ref a) (.ref b)) Q E s := by
  have hl : EqAt A.in1 s (.ref li) (.ref ln) true := by
    by_cases e : li = ln
    · subst e; exact EqAt.same _
    · exact EqAt.of_refs e (RcAt.lists (e := fun _ => true) h1 h2 rfl hu1 fun j a1 _ => absurd a1 (Nat.not_lt_zero j))
  refine eq_tupleAt (e := fun _ => true) ha hb hu (fun j a1 a2 => ?_) h
  have hj : j < 5 := a1
  have : j = 0 ∨ j = 1 ∨ j = 2 ∨ j = 3 ∨ j = 4 := by omega
  rcases this with rfl | rfl | rfl | rfl | rfl
  · exact eq_int _ _ _
  · exact eq_int _ _ _
  · exact eq_int _ _ _
  · exact eq_int _ _ _
  · exact hl
theorem pCodes_nz {a b c d : Int} {n : Nat} (hd : d ≠ 0) {z : Int} (h : z ∈ pCodes a b c d n) : z ≠ 0 := by
  have o : ∀ q, z ∈ pOpt q → z ≠ 0 := fun q h => by
    unfold pOpt at h
    split at h
    · rename_i hq; rw [List.mem_singleton.mp h]; exact hq
    · cases h
  have r : z ∈ List.replicate n d → z ≠ 0 := fun h => by rw [List.eq_of_mem_replicate h]; exact hd
  unfold pCodes at h
  rcases List.mem_append.mp h with h | h
  · rcases List.mem_append.mp h with h | h
    · exact o _ h
    · unfold pMid at h
      split at h
      · rename_i hb
        rcases List.mem_append.mp h with h | h
        · rcases List.mem_append.mp h with h | h
          · exact r h
          · rw [List.mem_singleton.mp h]; exact hb
        · exact r h
      · exact r h
  · exact o _ h
theorem Rws.isome {rows : List Row} {x y a b c : Int} {n : Nat} (R : Rws rows x y) (h1 : a = 7 ∨ a = 0) (h2 : b = 8 ∨ b = 0) (h3 : c = 9 ∨ c = 0) : ∀ z ∈ pCodes a b c 10 n, (Mine.find rows z).isSome = true := fun z hz => by
  obtain ⟨f7, f8, f9, f10⟩ := R.find
  have nz := pCodes_nz (by decide) hz
  rcases pCodes_mem hz with rfl | rfl | rfl | rfl
  · rcases h1 with rfl | rfl
    · rw [f7]; rfl
    · exact absurd rfl nz
  · rcases h2 with rfl | rfl
    · rw [f8]; rfl
    · exact absurd rfl nz
  · rcases h3 with rfl | rfl
    · rw [f9]; rfl
    · exact absurd rfl nz
  · rw [f10]; rfl
theorem turn_snap {I C D9 T D2 : Addr} {oI oC o o2 : Obj} {ys : List Value} {S : List (Addr × Obj) → Prop} {rest : Value → List (Addr × Obj) → Prop} {s₁ : Shared} {g' h9 : Heap} {D N0 : List (Addr × Obj)} {tk9 : Nat}
    (F9 : Fr h₀ L h9 m) (N9 : News h₀ L h9 ((T, o) :: (D2, o2) :: (I, oI) :: (C, oC) :: (D9, lst ys) :: (N0 ++ D))) (off : Off3 I C D9 (N0 ++ D)) (n1 : @Ne Nat T I) (n2 : @Ne Nat T C) (n3 : @Ne Nat T D9) (m1 : @Ne Nat D2 I) (m2 : @Ne Nat D2 C) (m3 : @Ne Nat D2 D9) (hG : Gh h₀ g' D)
    (hS : S (N0 ++ (T, o) :: (D2, o2) :: D))
    (k : ∀ g2, Gh h₀ g2 ((T, o) :: (D2, o2) :: D) → g'.StaysIn g2 → g2.get? T = some o → g2.get? D2 = some o2 → rest (.ref T) (N0 ++ (T, o) :: (D2, o2) :: D)) :
    CompEnd h₀ L m s₁ I oI C oC D9 (lst ys) S rest (.ref T) { s₁ with heap := h9, toks := tk9 } := by
  have ND : News h₀ L h9 D := fun p hp => N9 p (.tail _ (.tail _ (.tail _ (.tail _ (.tail _ (List.mem_append_right _ hp))))))
  obtain ⟨g2, hG2, hgs, hT2, _⟩ := hG.add F9 (a := D2) (o := o2) (fun p hp => by
    rcases List.mem_cons.mp hp with rfl | hp
    · exact N9 _ (.tail _ (.head _))
    · exact ND p hp)
  obtain ⟨g3, hG3, hgs3, hT3, _⟩ := hG2.add F9 (a := T) (o := o) (fun p hp => by
    rcases List.mem_cons.mp hp with rfl | hp
    · exact N9 _ (.head _)
    rcases List.mem_cons.mp hp with rfl | hp
    · exact N9 _ (.tail _ (.head _))
    · exact ND p hp)
  have offm := off.mem
  refine CompEnd.intro F9 N9 (N0 ++ (T, o) :: (D2, o2) :: D) (fun p hp => ?_) (Off3.of fun p hp => ?_) hS (k g3 hG3 (fun b o e => hgs3 b o (hgs b o e)) hT3 (hgs3 _ _ hT2))
  · simp only [List.mem_cons, List.mem_append] at hp ⊢
    rcases hp with h | h | h | h | h | h | h <;> simp [h]
  · simp only [List.mem_cons, List.mem_append] at hp
    rcases hp with h | h | h | h
    · exact offm p (List.mem_append_left _ h)
    · rw [h]; exact ⟨n1, n2, n3⟩
    · rw [h]; exact ⟨m1, m2, m3⟩
    · exact offm p (List.mem_append_right _ h)
end
end Mine
end
section
set_option maxHeartbeats 4000000
namespace Mine
section
variable {w : World} {A : Around} {s : Shared} {E : Value → Shared → Prop} {Q : Value → Shared → Prop} {mg mb : Str → Option Value}
theorem ksetLv1 : True := by
  k_with "call ref" => ((with_reducible show wpAny _ _ (call (Value.ref 478) _ _) _ _ _); refine' stop_here ?_)
  k_with "call ref" => ((with_reducible show wpAny _ _ (call (Value.ref 497) _ _) _ _ _); refine' stop_here ?_)
  k_with "call ref" => ((with_reducible show wpAny _ _ (call (Value.ref 502) _ _) _ _ _); refine' stop_here ?_)
  k_with "call ref" => ((with_reducible show wpAny _ _ (call (Value.ref 473) _ _) _ _ _); refine' stop_here ?_)
  k_with "call ref" => ((with_reducible show wpAny _ _ (call (Value.ref 200) _ _) _ _ _); refine' stop_here ?_)
  k_with "call ref" => ((with_reducible show wpAny _ _ (call (Value.ref 303) _ _) _ _ _); refine' stop_here ?_)
  k_with "call ref" => ((with_reducible show wpAny _ _ (call (Value.ref 514) _ _) _ _ _); refine' stop_here ?_)
  k_with "call ref" => ((with_reducible show wpAny _ _ (call (Value.ref 519) _ _) _ _ _); refine' stop_here ?_)
  k_with "call ref" => ((with_reducible show wpAny _ _ (call (Value.ref 529) _ _) _ _ _); refine' stop_here ?_)
  k_with "call ref" => ((with_reducible show wpAny _ _ (call (Value.ref 524) _ _) _ _ _); refine' stop_here ?_)
  k_with "compareOp NotEq ref ref" => (refine' stop_here ?_)
  k_with "compareOp Eq ref ref" => (refine' stop_here ?_)
  k_with "binaryOp Add ref ref" => (k_dflt (refine' kde_addT ?k1 ?k2 ?k3 ?k4 ?k5 ?k6 ?k7 ?k8 ?_; (case k1 => k_asm); (case k2 => k_asm); (case k3 => first | exact News.isTup (by k_asm) (by k_mem) | exact Fr.tup (by k_asm) (by k_asm)); (case k4 => first | exact News.isTup (by k_asm) (by k_mem) | exact Fr.tup (by k_asm) (by k_asm)); (case k5 => exact List.cons_ne_nil _ _); (case k6 => exact List.cons_ne_nil _ _); (case k7 => exact Nat.le_of_ble_eq_true rfl); (case k8 => kl_lit); k_whole); intro D' h' F' N' l1; (try k_lt l1); (try k_sweep))
  k_with "subscriptTail Name Slice ref ref" => ((with_reducible show wpAny _ _ (subscriptTail _ (PySem.Expr.Slice _ (some _) none _) (Value.ref _) (Value.ref _)) _ _ _); k_dflt (refine' slice_tuple_run ?F ?N ?lo ?t ?e ?a ?b ?n ?z ?_ ?ss ?g ?zz; (case F => k_asm); (case N => k_asm); (case t => first | exact News.isTup (by k_asm) (by k_mem) | exact Fr.tup (by k_asm) (by k_asm) | k_asm); (case lo => first | exact LoV.none | exact LoV.int 1 _); (case e => first | exact (rfl : (4 : Int) = ((4 : Nat) : Int)) | exact (rfl : (5 : Int) = ((5 : Nat) : Int)) | exact (rfl : (7 : Int) = ((7 : Nat) : Int)) | exact (rfl : (2 : Int) = ((2 : Nat) : Int))); (case a => rfl); (case b => rfl); (case n => rfl); (case z => first | kl_lit | with_unfolding_all rfl); (case ss => with_unfolding_all rfl); (case g => kmk_pure); (case zz => first | exact Nat.le_of_ble_eq_true rfl | kmk_size)); intro D' h' F' N' l1; (try k_lt l1); (try k_sweep))
  k_with "subscriptTail" => ((with_reducible show wpAny _ _ (subscriptTail _ (PySem.Expr.Slice _ (some _) none _) (Value.ref _) (Value.ref _)) _ _ _); k_dflt (refine' slice_tuple_run ?F ?N ?lo ?t ?e ?a ?b ?n ?z ?_ ?ss ?g ?zz; (case F => k_asm); (case N => k_asm); (case t => first | exact News.isTup (by k_asm) (by k_mem) | exact Fr.tup (by k_asm) (by k_asm) | k_asm); (case lo => first | exact LoV.none | exact LoV.int 1 _); (case e => first | exact (rfl : (4 : Int) = ((4 : Nat) : Int)) | exact (rfl : (5 : Int) = ((5 : Nat) : Int)) | exact (rfl : (7 : Int) = ((7 : Nat) : Int)) | exact (rfl : (2 : Int) = ((2 : Nat) : Int))); (case a => rfl); (case b => rfl); (case n => rfl); (case z => first | kl_lit | with_unfolding_all rfl); (case ss => with_unfolding_all rfl); (case g => kmk_pure); (case zz => first | exact Nat.le_of_ble_eq_true rfl | kmk_size)); intro D' h' F' N' l1; (try k_lt l1); (try k_sweep))
  k_with "subscriptTail Name Slice ref ref" => ((with_reducible show wpAny _ _ (subscriptTail _ (PySem.Expr.Slice (some _) none none _) (Value.ref _) (Value.ref _)) _ _ _); k_dflt (refine' slice_tuple_from ?F ?N ?t ?e ?a ?h0 ?hi ?z ?_ ?ss ?g ?zz; (case F => k_asm); (case N => k_asm); (case t => exact News.isTup (by k_asm) (by k_mem)); (case e => exact (rfl : (2 : Int) = ((2 : Nat) : Int))); (case a => rfl); (case h0 => exact Nat.le_of_ble_eq_true rfl); (case hi => exact Nat.le_of_ble_eq_true rfl); (case z => first | kl_lit | with_unfolding_all rfl); (case ss => with_unfolding_all rfl); (case g => kmk_pure); (case zz => first | exact Nat.le_of_ble_eq_true rfl | kmk_size)); intro D' h' F' N' l1; (try k_lt l1); (try k_sweep))
  k_with "call ref" => ((with_reducible show wpAny _ _ (call (Value.ref 485) _ _) _ _ _); (refine' take_fr (mg := mg) (mb := mb) ?kR ?kX ?kT ?kF ?kN ?u1 ?u2 ?kJ ?ne ?kb ?m0 ?m1 ?_); (case kF => k_asm); (case kN => k_asm); (case kX => k_asm); (case kT => k_asm); (case kR => exact Rm.le Rm.an (by decide)); (case kJ => k_asm); (case u1 => k_updF); (case u2 => (intro _; k_updF)); (case ne => k_asm); (case kb => omega); (case m0 => omega); (case m1 => omega); intro _ _ _ _ _ _ _ _ _ F' N'; (try dsimp only at N'); (try k_sweep))
  k_with "getAttr ref" => (k_dflt (refine' cls_base ?k1 ?k2 ?k3 ?k4 ?k5 ?k6 ?k7 ?k8 ?k9 ?k0 ?_; (case k3 => k_asm); (case k1 => k_asm); (case k2 => k_asm); (case k4 => k_asm); (case k5 => k_is); (case k6 => k_is); (case k7 => k_is); (case k8 => k_is); (case k9 => k_handed); (case k0 => decide +kernel); k_whole))
  k_with "getAttr ref" => (k_dflt (refine' attr_ghost ?k1 ?k2 ?kN ?kG ?kS ?k3 ?k4 ?k5 ?k6 ?k7 ?k8 ?k9 ?_; (case k3 => k_asm); (case k1 => k_asm); (case k2 => k_asm); (case kN => k_asm); (case kG => k_asm); (case kS => (intro p9 hp9; repeat (first | exact hp9 | apply List.Mem.tail))); (case k4 => k_asm); (case k5 => k_is); (case k6 => k_is); (case k7 => k_is); (case k8 => k_is); (case k9 => k_handed); k_whole))
  k_with "getAttr ref" => (k_dflt (refine' get_own ?k1 ?k2 (InstAt.of_news ?kN ?h1 ?h2) ?k5 ?k6 ?k7 ?k8 ?k4 ?k9 ?_; (case k1 => k_asm); (case k2 => k_asm); (case kN => k_asm); (case h1 => k_mem); (case h2 => k_mem); (case k4 => k_asm); (case k5 => k_is); (case k6 => k_is); (case k7 => k_is); (case k8 => k_is); (case k9 => k_handed); k_whole))
  k_with "subscriptTail" => ((with_reducible show wpAny _ _ (subscriptTail _ _ (Value.ref _) (Value.int _ _)) _ _ _); k_dflt (refine' item_g ?k1 ?kN ?kG ?kS ?k2 ?k3 ?_ ?k4; (case k1 => k_asm); (case kN => k_asm); (case kG => k_asm); (case k2 => k_asm); (case k3 => k_asm); (case kS => (intro p9 hp9; repeat (first | exact hp9 | apply List.Mem.tail))); (case k4 => with_unfolding_all rfl); k_whole))
  k_with "call type:dict" => ((with_reducible show wpAny _ _ (call (Value.type "dict") [Value.ref _]) _ _ _); k_dflt (refine' dcopy_g (mg := mg) (mb := mb) ?k1 ?k2 ?k3 ?kG ?kS ?k4 ?k5 ?k6 ?_; (case k1 => k_asm); (case k2 => k_asm); (case k3 => k_asm); (case kG => k_asm); (case k4 => k_asm); (case kS => (intro p9 hp9; repeat (first | exact hp9 | apply List.Mem.tail))); (case k5 => k_asm); (case k6 => omega)); intro D2 hD2 oD2 FF NN lD hsD hdD; (try k_lt lD))
  k_with "subscriptTail" => ((first | (with_reducible show wpAny _ _ (subscriptTail _ _ (Value.ref _) (Value.int 5 _)) _ _ _) | (with_reducible show wpAny _ _ (subscriptTail _ _ (Value.ref _) (Value.int 6 _)) _ _ _)); k_dflt (refine' item_tg ?kF ?kN ?kG ?kS ?kT ?k1 ?k2 ?k3 ?k4 ?_ ?k5 ?k6; (case kF => k_asm); (case kN => k_asm); (case kG => k_asm); (case kT => k_asm); (case kS => (intro p9 hp9; repeat (first | exact hp9 | apply List.Mem.tail))); (case k1 => decide); (case k2 => decide); (case k3 => rfl); (case k4 => rfl); (case k5 => with_unfolding_all rfl); (case k6 => (intro _; with_unfolding_all rfl)); k_whole))
  k_with "subscriptTail" => ((with_reducible show wpAny _ _ (subscriptTail _ _ (Value.ref _) (Value.int 0 _)) _ _ _); k_dflt (refine' item_lg ?kF ?kN ?kG ?kS ?kT ?k1 ?k2 ?k3 ?_ ?k5 ?k6; (case kF => k_asm); (case kN => k_asm); (case kG => k_asm); (case kT => k_asm); (case kS => (intro p9 hp9; repeat (first | exact hp9 | apply List.Mem.tail))); (case k1 => decide); (case k2 => decide); (case k3 => rfl); (case k5 => with_unfolding_all rfl); (case k6 => (intro _; with_unfolding_all rfl)); k_whole))
  k_with "call builtin:len" => ((with_reducible show wpAny _ _ (call (Value.builtin "len") [Value.ref _]) _ _ _); k_dflt (refine' tlen_g ?kF ?kN ?kG ?kS ?kT ?k3 ?k4 ?_; (case kF => k_asm); (case kN => k_asm); (case kG => k_asm); (case kT => k_asm); (case kS => (intro p9 hp9; repeat (first | exact hp9 | apply List.Mem.tail))); (case k3 => first | exact (rfl : _ = (5 : Int)) | exact (rfl : _ = (7 : Int))); (case k4 => decide); k_whole))
  k_with "subscriptTail" => ((with_reducible show wpAny _ _ (subscriptTail _ _ (Value.ref _) (Value.int _ _)) _ _ _); k_dflt (refine' kda_item (knd := intKind _ _) ?k1 ?k2 ?k3 (intKind_is _ _ _ _) ?k4 ?_ ?k5 ?k6; (case k1 => k_asm); (case k2 => k_mem); (case k3 => k_asm); (case k4 => k_asm); (case k5 => with_unfolding_all rfl); (case k6 => (intro _; with_unfolding_all rfl)); k_whole))
  k_with "binaryOp Add ref ref" => (k_dflt (refine' kmk_add_ints ?F ?N ?a ?b ?i ?j ?_ ?z; (case F => k_asm); (case N => k_asm); (case a => exact News.isList (by k_asm) (by k_mem)); (case b => exact News.isList (by k_asm) (by k_mem)); (case i => k_asm); (case j => k_asm); (case z => (simp only [sizeLine_eq, List.length_append]; omega))); intro D' ws' h' F' N' l1 hI'; (try k_lt l1))
  trivial
inductive JDel (e : Int) (te : Tok) (m : Str → Option Value) (pre : List (Addr × Obj)) : Prop
  | mk (D : _)(d0 : _)(d1 : _)(d2 : _)(d3 : _)(t0 : _)(t1 : _)(t2 : _)(t3 : _) (h0 : pre = [(D, { cls := .type "tuple", data := .seq #[.int d0 t0, .int d1 t1, .int d2 t2, .int d3 t3] })]) (h1 : (0 ≤ d0 ∧ d0 ≤ 3 ∧ 0 ≤ d1 ∧ d1 ≤ 7 ∧ 0 ≤ d2 ∧ d2 ≤ 3 ∧ 0 ≤ d3 ∧ d3 ≤ 7)) (h2 : Has m [("delimiter", .ref D), ("empty", .int e te)]) : JDel e te m pre
theorem allLt_mem {d : Nat} : ∀ {l : List (Addr × Obj)}, AllLt d l → ∀ p ∈ l, @LT.lt Nat _ p.1 d
  | [], _, _, hp => nomatch hp
  | _ :: _, h, p, hp => by
    rcases List.mem_cons.mp hp with rfl | hp
    · exact h.1
    · exact allLt_mem h.2 p hp
theorem all2_fst {β : Type} {P : Int × Value → Int × β → Prop} {kvs : List (Int × Value)} {fs : List (Int × β)} (x : All2 (fun (kv : Int × Value) (f : Int × β) => kv.1 = f.1 ∧ P kv f) kvs fs) : kvs.map (·.1) = fs.map (·.1) := by
  induction x with
  | nil => rfl
  | cons q _ ih => rw [List.map_cons, List.map_cons, q.1, ih]
theorem newsSet {h₀ h h' : Heap} {L d : Addr} {o o' : Obj} {pre post : List (Addr × Obj)} (N : News h₀ L h (pre ++ (d, o) :: post)) (kb : ∀ b x, b ≠ d → h.get? b = some x → h'.get? b = some x) (e : h'.get? d = some o') (hp : ∀ p ∈ pre ++ post, p.1 ≠ d) : News h₀ L h' (pre ++ (d, o') :: post) := fun p hm => by
  rcases List.mem_append.mp hm with hm | hm
  · have x := N p (List.mem_append_left _ hm)
    exact ⟨kb _ _ (hp p (List.mem_append_left _ hm)) x.1, x.2⟩
  rcases List.mem_cons.mp hm with rfl | hm
  · exact ⟨e, (N (d, o) (List.mem_append_right _ (.head _))).2⟩
  · have x := N p (List.mem_append_right _ (.tail _ hm))
    exact ⟨kb _ _ (hp p (List.mem_append_right _ hm)) x.1, x.2⟩
theorem news_ex {h₀ h : Heap} {L : Addr} {l D : List (Addr × Obj)} (N : News h₀ L h (l ++ D)) : ∀ a ∈ l.map (·.1), ∃ o, h.get? a = some o := fun a ha => by
  obtain ⟨p, hp, rfl⟩ := List.mem_map.mp ha
  exact ⟨_, (N p (List.mem_append_left _ hp)).1⟩
theorem newsSwap {h₀ h : Heap} {L : Addr} {l D D' : List (Addr × Obj)} (N : News h₀ L h (l ++ D)) (M : News h₀ L h D') : News h₀ L h (l ++ D') := fun p hp => by
  rcases List.mem_append.mp hp with hp | hp
  · exact N p (List.mem_append_left _ hp)
  · exact M p hp
theorem newsTail2 {h₀ h : Heap} {L : Addr} {l D : List (Addr × Obj)} (N : News h₀ L h (l ++ D)) : News h₀ L h D := fun p hp => N p (List.mem_append_right _ hp)
theorem font_num {w : World} {g : Heap} {fa : Addr} {num : Int} {rows : List Row} {ax : Int} (x : Font w g (.ref fa) num rows ax) : ∃ dx es n tn, InstAt g fa (instObj 452 dx) 452 (some (dictOf es n)) ∧ getL "number" es = some (some (.int num tn)) := by
  obtain ⟨_, dx, es, n, dc, dp, kvs, vs, tn, e, F⟩ := x
  cases e
  exact ⟨dx, es, n, tn, F.inst, F.num⟩
theorem font_of {w : World} {g : Heap} {kvs : List (Int × Value)} {ax : Int → Int} {fl : List (Int × List Row)} (x : All2 (fun (kv : Int × Value) (f : Int × Fo) => kv.1 = f.1 ∧ FontV w g kv.2 f.2) kvs (foOf ax fl)) {p : Int} {fa : Addr} {rw9 : List Row} (hv : valueAt kvs p = some (.ref fa)) (hf : findR fl p = some rw9) : ∃ dx es n tn, InstAt g fa (instObj 452 dx) 452 (some (dictOf es n)) ∧ getL "number" es = some (some (.int (1 + p) tn)) := by
  rcases findF_all2 x p with ⟨e, _⟩ | ⟨v, f, e1, e2, e3⟩
  · rw [hv] at e; cases e
  · rw [hv] at e1; cases e1
    rw [findF_foOf, hf] at e2; cases e2
    exact font_num e3
theorem rows_of {g : Heap} {kvs : List (Int × Value)} {fl : List (Int × List Row)} (x : All2 (fun (kv : Int × Value) (f : Int × List Row) => kv.1 = f.1 ∧ RowsV g kv.2 f.2) kvs fl) {p : Int} {rw9 : List Row} (hf : findR fl p = some rw9) : ∃ vf, valueAt kvs p = some vf ∧ RowsV g vf rw9 := by
  rcases findR_all2 x p with ⟨_, e⟩ | ⟨v, rws, e1, e2, e3⟩
  · rw [hf] at e; cases e
  · rw [hf] at e2; cases e2; exact ⟨v, e1, e3⟩
inductive SnapSrc (w : World) (g : Heap) (kv : Int × Value) (q : Int × List (Int × Value)) : Prop
  | mk (h0 : kv.1 = q.1) (x : Addr) (dx : Addr) (es : List DictEntry) (n : Nat) (dc : Addr) (h1 : kv.2 = .ref x) (h2 : InstAt g x (instObj 452 dx) 452 (some (dictOf es n))) (h3 : getL "chars" es = some (some (.ref dc))) (h4 : g.DictOf (intKind p0 w) dc q.2) (h5 : (dc == sysModules) = false) (h6 : q.2.length ≤ 100) : SnapSrc w g kv q
theorem SnapSrc.keeps {w : World} {g g' : Heap} {kv : Int × Value} {q : Int × List (Int × Value)} (x : SnapSrc w g kv q) (k : g.StaysIn g') : SnapSrc w g' kv q :=
  let ⟨e, a, dx, es, n, dc, i1, i2, i3, i4, i5, i6⟩ := x; ⟨e, a, dx, es, n, dc, i1, instAt_keeps i2 k, i3, i4.keep k, i5, i6⟩
theorem snap_src {w : World} {g : Heap} {kvs : List (Int × Value)} {fs : List (Int × Fo)} (x : All2 (fun (kv : Int × Value) (f : Int × Fo) => kv.1 = f.1 ∧ FontV w g kv.2 f.2) kvs fs) (hl : ∀ f ∈ fs, f.2.rows.length ≤ 100) : ∃ qs, All2 (SnapSrc w g) kvs qs := by
  induction x with
  | nil => exact ⟨[], .nil⟩
  | @cons kv f kvs fs q _ ih =>
    obtain ⟨qs, hq⟩ := ih fun f hf => hl f (.tail _ hf)
    obtain ⟨_, x, dx, es, n, dc, dp, ks, vs, tn, e, F⟩ := q
    refine ⟨(kv.1, ks) :: qs, .cons ⟨rfl, x, dx, es, n, dc, e, F.inst, F.chars, F.cs.1, F.cs.2.2, ?_⟩ hq⟩
    have h1 := F.cs.2.1.length
    have h2 := hl f (.head _)
    show ks.length ≤ 100
    omega
inductive JSn (w : World) (h₀ g0 : Heap) (l : List Addr) (N0 : List (Addr × Obj)) (qs : List (Int × List (Int × Value))) (i : Nat) (ys : List Value) (news : List (Addr × Obj)) : Prop
  | mk (D : _)(g : _) (h0 : news = N0 ++ D) (h1 : ApD D l) (h2 : Gh h₀ g D) (h3 : g0.StaysIn g) (h4 : All2 (SnapV w g) ys (qs.take i)) : JSn w h₀ g0 l N0 qs i ys news
theorem off1_mem {D : Addr} : ∀ {l : List (Addr × Obj)}, LCg.Off1 D l → ∀ p ∈ l, p.1 ≠ D
  | [], _, _, hp => nomatch hp
  | _ :: _, h, p, hp => by
    rcases List.mem_cons.mp hp with rfl | hp
    · exact h.1
    · exact off1_mem h.2 p hp
theorem sz_in {n : Nat} (h : n ≤ 2) : 2 * 3 + (n : Int) ∈ ([3, 4, 5, 6, 7, 8, 9, 10, 11] : List Int) := by
  match n, h with
  | 0, _ => decide
  | 1, _ => decide
  | 2, _ => decide
theorem sz_mod {n : Nat} (h : n ≤ 2) : (Int.fmod (2 * 3 + (n : Int)) 3).toNat = Int.toNat (n : Int) := by
  match n, h with
  | 0, _ => rfl
  | 1, _ => rfl
  | 2, _ => rfl
theorem nine_in {z : Int} (hz : z ∈ ([3, 4, 5, 6, 7, 8, 9, 10, 11] : List Int)) : 3 ≤ z ∧ z ≤ 11 := by
  have hd : ∀ z ∈ ([3, 4, 5, 6, 7, 8, 9, 10, 11] : List Int), 3 ≤ z ∧ z ≤ 11 := by decide
  exact hd _ hz
theorem or_ne7 {a : Int} (h : a = 7 ∨ a = 0) : a ≠ 10 := by rcases h with rfl | rfl <;> decide
theorem or_ne8 {a : Int} (h : a = 8 ∨ a = 0) : a ≠ 10 := by rcases h with rfl | rfl <;> decide
theorem or_ne9 {a : Int} (h : a = 9 ∨ a = 0) : a ≠ 10 := by rcases h with rfl | rfl <;> decide
inductive JLw (w : World) (h₀ : Heap) (L df dr dc D9 D3 : Addr) (o9 od9 oD3 odc : Obj) (kvs : List (Int × Value)) (ax : Int → Int) (fonts : List (Int × List Row)) (bs : List (Str × Value)) (rest : List (Int × Value)) (m : Str → Option Value) (news : List (Addr × Obj)) : Prop
  | mk (done fr : List (Int × List Row)) (kvf kvr : List (Int × Value)) (odf odr o2 : Obj) (D : List (Addr × Obj)) (g : Heap) (kpre : List (Int × Value)) (h0 : fonts = done ++ fr) (h1 : kvs = kpre ++ rest) (h2 : news = (df, odf) :: (dr, odr) :: (D9, od9) :: (D3, oD3) :: (L + 1 + 1, o2) :: (L + 1, o9) :: D) (h3 : odf.IsDictOf (intKind p0 w) kvf) (h4 : odr.IsDictOf (intKind p0 w) kvr) (h5 : o2.data = .cell (some (.ref dr))) (h6 : ApD D [df, dr, D9, D3, L + 1 + 1, L + 1]) (h7 : Gh h₀ g D) (h8 : h₀.StaysIn g) (h9 : g.get? dc = some odc) (h10 : All2 (fun (kv : Int × Value) (f : Int × List Row) => kv.1 = f.1 ∧ RowsV g kv.2 f.2) rest fr) (h11 : All2 (fun (kv : Int × Value) (f : Int × List Row) => kv.1 = f.1 ∧ RowsV g kv.2 f.2) kvf (done.map fun f => (f.1, leads f.2))) (h12 : All2 (fun (kv : Int × Value) (f : Int × Fo) => kv.1 = f.1 ∧ FontV w g kv.2 f.2) kvr (foOf ax (done.map fun f => (f.1, leads f.2)))) (h13 : Has m bs) : JLw w h₀ L df dr dc D9 D3 o9 od9 oD3 odc kvs ax fonts bs rest m news
set_option maxHeartbeats 8000000 in
inductive LvA (h₀ h : Heap) (L j c : Addr) (o1 : Obj) : Prop
  | mk (m0 : Str → Option Value) (e : Int) (te : Tok) (pre : List (Addr × Obj)) (oja oca o9 : Obj) (F : Fr h₀ L h m0) (N : News h₀ L h (pre ++ [(j, oja), (c, oca), (L + 1 + 1, o1), (L + 1, o9)])) (hJ : JarO 10 c oja oca) (hd : o9.data = .cell (some (.ref j))) (jd : JDel e te m0 pre) : LvA h₀ h L j c o1
inductive LvB (h₀ h : Heap) (L j c D3 : Addr) (o1 o9 o3 : Obj) : Prop
  | mk (m4 : Str → Option Value) (sz : Int) (tsz : Tok) (hd9 : Int) (tth : Tok) (nul : Int) (tnu : Tok) (ojb ocb : Obj) (F : Fr h₀ L h m4) (N : News h₀ L h [(D3, o3), (j, ojb), (c, ocb), (L + 1 + 1, o1), (L + 1, o9)]) (hJ : JarO 20 c ojb ocb) (hs : 0 ≤ sz ∧ sz ≤ 2) (hh : -30 ≤ hd9 ∧ hd9 ≤ 600) (hn : 0 ≤ nul ∧ nul ≤ 50) (H : Has m4 [("size", .int sz tsz), ("high", .int hd9 tth), ("none", .int nul tnu), ("delimiter", .ref D3)]) : LvB h₀ h L j c D3 o1 o9 o3
inductive JAx (L j c D3 : Addr) (o1 o9 o3 : Obj) (i : Nat) (ys : List Value) (news : List (Addr × Obj)) : Prop
  | mk (oj oc : Obj) (axs : List Int) (h0 : news = [(D3, o3), (j, oj), (c, oc), (L + 1 + 1, o1), (L + 1, o9)]) (hJ : JarO (20 + i) c oj oc) (hi : IntsAre ys axs) (ha : ∀ a ∈ axs, 0 ≤ a ∧ a ≤ 60) (hl : axs.length = i) : JAx L j c D3 o1 o9 o3 i ys news
theorem law_spec (R : Rm 20 A) (X : (KF w.params).In s.heap) (T : TR mg mb s.heap) {sa : Addr} {vs : List Value} {ns : List Int} (hl : s.heap.IsList sa vs.toArray) (hi : IntsAre vs ns) (hlen : ns.length ≤ 63)
    (h : ∀ h' tk, s.heap.StaysIn h' → Q (.bool true) {s with heap := h', toks := tk}) : wpAny (model p0 w) A (call (.ref 534) [.ref sa]) Q E s := by
  refine callCF (binds := [("script", .ref sa)]) R X T rfl (by k_is) (BindsTo.of_eq (by kernel_rfl)) (by kernel_rfl) (by decide) rfl rfl rfl (fun L h₁ tk cells F N Y X T => ?_)
  have hY := CellsAre.two Y; obtain ⟨o1, o2, rfl, d1, d2⟩ := hY; clear Y
  obtain ⟨v1, d1⟩ : ∃ v, o1.data = .cell v := ⟨_, d1⟩
  obtain ⟨v2, d2⟩ : ∃ v, o2.data = .cell v := ⟨_, d2⟩
  replace F := frOf (bs := [("script", .ref sa)]) F ⟨rfl, trivial⟩
  repeat' (first | walk1 | (dsimp only; walk1))
  refine ⟨law_jar_spec (mg := mg) (mb := mb) (Rm.le Rm.an (by decide)) (X.keeps F.keep) (trKeep T F) (isList_keeps hl F.keep) hi hlen (fun h8 tk8 j c oj oc k8 j0 c0 ej ec hJ hjc => ?_)⟩
  have nC : ∀ a o, (a, o) ∈ [(L + 1 + 1, o1), (L + 1, o2)] → (@Ne Nat j a) ∧ (@Ne Nat c a) := fun a o hm => by
    have := (N (a, o) hm).1
    exact ⟨fun q => (by rw [q] at j0; rw [j0] at this; cases this), fun q => (by rw [q] at c0; rw [c0] at this; cases this)⟩
  obtain ⟨nj1, nc1⟩ := nC (L + 1 + 1) o1 (.head _)
  obtain ⟨nj2, nc2⟩ := nC (L + 1) o2 (.tail _ (.head _))
  clear nC
  have F8 := frAfter F k8
  have N8 := newsCons F (newsCons F (newsAfter N k8) ec c0) ej j0
  clear F N
  repeat' (first | walk1 | (dsimp only; walk1))
  rename Fr _ _ _ _ => F8; rename News _ _ _ _ => N8; rename JarO _ _ _ _ => hJ9
  obtain ⟨m0, e, te, pre, oja, oca, o9, F0, N0, hJ, do9, j0⟩ : LvA s.heap _ L j c o1 := ⟨_, _, _, [_], _, _, _, F8, N8, hJ9.le (by omega), by assumption, _, _, _, _, _, _, _, _, _, rfl, by omega, rfl, rfl, trivial⟩
  clear F8 N8 hJ9
  obtain ⟨D0, d00, d01, d02, d03, t00, t01, t02, t03, rfl, hD0, H0⟩ := j0
  simp only [List.cons_append, List.nil_append] at N0
  replace F0 := frOf F0 H0
  refine If_go (JDel e te) F0 (newsTl N0) (fun going => ?_) (fun h' tk m' pre F1 N1 j9 => ?_)
  · repeat' (first | walk1 | (dsimp only; walk1))
    · rename Fr _ _ _ _ => F9; rename News _ _ _ _ => N9
      exact ⟨_, _, _, [_], rfl, F9, newsMk N9 (.head _) (newsMk N9 (p := (j, _)) (by k_mem) (newsMk N9 (p := (c, _)) (by k_mem) (newsMk N9 (p := (L + 1 + 1, o1)) (by k_mem) (newsMk N9 (p := (L + 1, _)) (by k_mem) News.nil)))), _, _, _, _, _, _, _, _, _, rfl, by omega, rfl, rfl, trivial⟩
    · rename Fr _ _ _ _ => F9; rename News _ _ _ _ => N9
      exact ⟨_, _, _, [_], rfl, F9, N9, _, _, _, _, _, _, _, _, _, rfl, by omega, rfl, rfl, trivial⟩
  clear F0 N0 H0 hD0
  obtain ⟨D1, d10, d11, d12, d13, t10, t11, t12, t13, rfl, hD1, H1⟩ := j9
  simp only [List.cons_append, List.nil_append] at N1
  replace F1 := frOf F1 H1
  repeat' (first | walk1 | (dsimp only; walk1))
  refine If_go (JDel e te) F1 (newsTl N1) (fun going => ?_) (fun h' tk m' pre F2 N2 j9 => ?_)
  · repeat' (first | walk1 | (dsimp only; walk1))
    · rename Fr _ _ _ _ => F9; rename News _ _ _ _ => N9
      exact ⟨_, _, _, [_], rfl, F9, newsMk N9 (.head _) (newsMk N9 (p := (j, _)) (by k_mem) (newsMk N9 (p := (c, _)) (by k_mem) (newsMk N9 (p := (L + 1 + 1, o1)) (by k_mem) (newsMk N9 (p := (L + 1, _)) (by k_mem) News.nil)))), _, _, _, _, _, _, _, _, _, rfl, by omega, rfl, rfl, trivial⟩
    · rename Fr _ _ _ _ => F9; rename News _ _ _ _ => N9
      exact ⟨_, _, _, [_], rfl, F9, N9, _, _, _, _, _, _, _, _, _, rfl, by omega, rfl, rfl, trivial⟩
  clear F1 N1 H1 hD1
  obtain ⟨D2, d20, d21, d22, d23, t20, t21, t22, t23, rfl, hD2, H2⟩ := j9
  simp only [List.cons_append, List.nil_append] at N2
  replace F2 := frOf F2 H2
  repeat' (first | walk1 | (dsimp only; walk1))
  refine If_go (JDel e te) F2 (newsTl N2) (fun going => ?_) (fun h' tk m' pre F3 N3 j9 => ?_)
  · repeat' (first | walk1 | (dsimp only; walk1))
    · rename Fr _ _ _ _ => F9; rename News _ _ _ _ => N9
      exact ⟨_, _, _, [_], rfl, F9, newsMk N9 (.head _) (newsMk N9 (p := (j, _)) (by k_mem) (newsMk N9 (p := (c, _)) (by k_mem) (newsMk N9 (p := (L + 1 + 1, o1)) (by k_mem) (newsMk N9 (p := (L + 1, _)) (by k_mem) News.nil)))), _, _, _, _, _, _, _, _, _, rfl, by omega, rfl, rfl, trivial⟩
    · rename Fr _ _ _ _ => F9; rename News _ _ _ _ => N9
      exact ⟨_, _, _, [_], rfl, F9, N9, _, _, _, _, _, _, _, _, _, rfl, by omega, rfl, rfl, trivial⟩
  clear F2 N2 H2 hD2
  obtain ⟨D3, d30, d31, d32, d33, t30, t31, t32, t33, rfl, hD3, H3⟩ := j9
  simp only [List.cons_append, List.nil_append] at N3
  replace F3 := frOf F3 H3
  have nDt : ∀ o : Obj, o.cls ≠ .type "tuple" → ({ cls := .type "tuple", data := .seq #[.int d30 t30, .int d31 t31, .int d32 t32, .int d33 t33] } : Obj) ≠ o := fun o ho q => ho (by rw [← q])
  have nDj : @Ne Nat D3 j := ne_of_obj (N3 (D3, _) (.head _)).1 (N3 (j, _) (by k_mem)).1 (nDt _ (by obtain ⟨_, _, _, _, _, _, _, _, rfl, _⟩ := hJ; show Value.type "list" ≠ Value.type "tuple"; intro q; injection q with q; exact absurd q (by decide)))
  have nDc : @Ne Nat D3 c := ne_of_obj (N3 (D3, _) (.head _)).1 (N3 (c, _) (by k_mem)).1 (nDt _ (by obtain ⟨_, _, _, _, _, _, _, _, _, rfl, _⟩ := hJ; show Value.type "list" ≠ Value.type "tuple"; intro q; injection q with q; exact absurd q (by decide)))
  have nD1 : @Ne Nat D3 (L + 1 + 1) := ne_of_obj (N3 (D3, _) (.head _)).1 (N3 (L + 1 + 1, _) (by k_mem)).1 (fun q => by have q2 : _ = o1 := q; rw [← q2] at d1; cases d1)
  have nD2 : @Ne Nat D3 (L + 1) := ne_of_obj (N3 (D3, _) (.head _)).1 (N3 (L + 1, _) (by k_mem)).1 (fun q => by have q2 : _ = o9 := q; rw [← q2] at do9; cases do9)
  clear nDt
  repeat' (first | walk1 | (dsimp only; walk1))
  rename Fr _ _ _ _ => F8; rename News _ _ _ _ => N8; rename JarO _ _ _ _ => hJ9
  obtain ⟨m4, sz, tsz, hd9, tth, nul, tnu, ojb, ocb, F4, N4, hJ4, hsz, hhd, hnu, H4⟩ : LvB s.heap _ L j c D3 o1 o9 { cls := .type "tuple", data := .seq #[.int d30 t30, .int d31 t31, .int d32 t32, .int d33 t33] } := ⟨_, _, _, _, _, _, _, _, _, F8, newsTl N8, hJ9.le (by omega), by omega, by omega, by omega, rfl, rfl, rfl, rfl, trivial⟩
  have F4 := frOf F4 H4
  clear hJ9 H4 H3
  refine ⟨ALComp_go F4 (by rfl) (by with_unfolding_all rfl) (by with_unfolding_all rfl) (by decide) (by rfl) (by decide) (by rfl) (by rfl) ?_⟩
  repeat' (first | walk1 | (dsimp only; walk1))
  rename Fr _ _ _ _ => F7; rename News _ _ _ _ => N7; rename IsRange _ _ _ _ _ _ _ _ => hRg
  refine cgo_range (n := 3) (JAx L j c D3 o1 o9 { cls := .type "tuple", data := .seq #[.int d30 t30, .int d31 t31, .int d32 t32, .int d33 t33] }) _ hRg (by rfl) (by rfl) (by decide) F7 N7 ⟨ojb, ocb, [], rfl, hJ4.le (by simp), .nil, by simp, rfl⟩ (fun I v s Q E q => wpAny_of_eq (a := ()) rfl q) (fun g9 => casg_name (by rfl) (by rfl)) ?_ ?_
  · rintro g9 i v ys news I oI C oC D9 m₂ h9 tk9 E' kK2 kK hK2 hK hi hv ⟨oj5, oc5, axs, rfl, hJ5, hys, hax, hal⟩ hC hx9 F N off ne
    obtain ⟨t, rfl⟩ := hv
    have offm := off.mem
    obtain ⟨x1, x2, x3⟩ := offm (j, oj5) (by k_mem)
    obtain ⟨y1, y2, y3⟩ := offm (c, oc5) (by k_mem)
    have x1' := Ne.symm x1; have x2' := Ne.symm x2; have x3' := Ne.symm x3
    have y1' := Ne.symm y1; have y2' := Ne.symm y2; have y3' := Ne.symm y3
    clear F7 N7 offm
    refine wpAny_tests_nil ?_
    simp only [if_true]
    repeat' (first | walk1 | (dsimp only; walk1))
    rename Fr _ _ _ _ => F9; rename News _ _ _ _ => N9; rename JarO _ _ _ _ => hJ9
    exact LCg.CompEnd.intro F9 N9 _ (fun p hp => hp) off trivial ⟨_, _, _, rfl, hJ9.le (by omega), intsSnoc hys _ _, fun a ha => by
      rcases List.mem_append.mp ha with ha | ha
      · exact hax a ha
      · rw [List.mem_singleton.mp ha]; omega, by simp [hal]⟩
  · rintro g9 ys news ⟨oj5, oc5, axs, rfl, hJ5, hys, hax, hal⟩ hyl D9 h9 tk9 F N off
    clear F7 N7
    repeat' (first | walk1 | (dsimp only; walk1))
    have mj := N (j, oj5) (by k_mem); have mc := N (c, oc5) (by k_mem)
    obtain ⟨x1, x2, x3, x4, x5⟩ : (@Ne Nat D9 j) ∧ (@Ne Nat D9 c) ∧ (@Ne Nat D9 (L + 1 + 1)) ∧ (@Ne Nat D9 (L + 1)) ∧ (@Ne Nat D9 D3) := ⟨fun q => off.2.1 q.symm, fun q => off.2.2.1 q.symm, fun q => off.2.2.2.1 q.symm, fun q => off.2.2.2.2.1 q.symm, fun q => off.1 q.symm⟩
    refine ⟨law_fonts_spec (mg := mg) (mb := mb) (h₀ := s.heap) (g := s.heap) (Rm.le Rm.an (by decide)) X T (by exact F.keep) (by exact F.keep) mj.1 mc.1 mj.2.2 mc.2.2 mj.2.2 mc.2.2 hJ5 hjc (by omega) (fun h6 tk6 g6 dc kvs fonts pc kb G6 hdd hds hall hFO hPc => ?_)⟩
    have kb0 : s.heap.StaysIn h6 := fun b o e => kb b o (fun q => by rw [q, mj.2.2] at e; cases e) (fun q => by rw [q, mc.2.2] at e; cases e) (F.keep b o e)
    obtain ⟨hG6, ND6⟩ := Gh.nil.grow2 F News.nil kb0 G6
    have hAp6 : ApD (dOf s.heap g6) [D9, D3, L + 1 + 1, L + 1] := ApD.of ApD.nil Gh.nil G6 (fun a ha => by
      simp only [List.mem_cons, List.not_mem_nil, or_false] at ha
      rcases ha with rfl | rfl | rfl | rfl
      · exact ⟨_, (N (a, _) (.head _)).1⟩
      · exact ⟨_, (N (a, _) (.tail _ (.head _))).1⟩
      · exact ⟨_, (N (L + 1 + 1, o1) (by k_mem)).1⟩
      · exact ⟨_, (N (L + 1, o9) (by k_mem)).1⟩)
    have F6 := frBut F kb mj.2.2 mc.2.2 (fun q => mj.2.1 q.symm) (fun q => mc.2.1 q.symm)
    have nn : ∀ p : Addr × Obj, (h9.get? p.1 = some p.2 ∧ p.1 ≠ L ∧ s.heap.get? p.1 = none) → p.1 ≠ j → p.1 ≠ c → News s.heap L h6 [p] := fun p x a1 a2 q hq => by
      rw [List.mem_singleton.mp hq]; exact ⟨kb _ _ a1 a2 x.1, x.2⟩
    obtain ⟨oD3, hoD3⟩ : ∃ o : Obj, o = { cls := .type "tuple", data := .seq #[.int d30 t30, .int d31 t31, .int d32 t32, .int d33 t33] } := ⟨_, rfl⟩
    have hT3 : ∀ {h : Heap}, h.get? D3 = some oD3 → IsTup h D3 #[.int d30 t30, .int d31 t31, .int d32 t32, .int d33 t33] := fun e => by rw [hoD3] at e; exact ⟨_, e, rfl, _, rfl⟩
    have N6 : News s.heap L h6 ((D9, LCg.lst ys) :: (D3, oD3) :: (L + 1 + 1, o1) :: (L + 1, o9) :: dOf s.heap g6) :=
      newsMk (nn _ (N (D9, LCg.lst ys) (.head _)) x1 x2) (.head _) (newsMk (nn (D3, oD3) (by rw [hoD3]; exact N (D3, _) (.tail _ (.head _))) nDj nDc) (.head _) (newsMk (nn _ (N (L + 1 + 1, o1) (by k_mem)) (Ne.symm nj1) (Ne.symm nc1)) (.head _) (newsMk (nn _ (N (L + 1, o9) (by k_mem)) (Ne.symm nj2) (Ne.symm nc2)) (.head _) ND6)))
    obtain ⟨odc, edc, hdc⟩ := Heap.dictOf_iff.mp hdd
    clear nn hdd hoD3
    generalize dOf s.heap g6 = D6 at hG6 ND6 hAp6 N6
    clear F N mj mc hJ5 ND6
    repeat' (first | walk1 | (dsimp only; walk1))
    rename Fr _ _ _ _ => F8; rename News _ _ _ _ => N8
    rename_i _ df _ odf lof _ _ hdf0 _ lf dr _ odr lor _ _ hdr0 _ lr TT _ lT _ _ _ o2 do2
    refine For_st F8 ?_
    repeat' (first | walk1 | (dsimp only; walk1))
    rename Fr _ _ _ _ => F7; rename News _ _ _ _ => N7
    have hx3 : ∀ k : Int, 0 ≤ Int.fmod k 3 ∧ Int.fmod k 3 < 3 := fun k => ⟨Int.fmod_nonneg_of_pos k (by decide), Int.fmod_lt_of_pos k (by decide)⟩
    obtain ⟨xx, yy, rfl, hxx0, hxx1, hyy0, hyy1⟩ := hPc.eq
    have hRws : ∀ f ∈ fonts, Rws (leads f.2) xx yy ∧ 3 ≤ f.1 ∧ f.1 ≤ 11 := fun f hf => by
      obtain ⟨fr, e, ok⟩ := hFO.all f hf
      have hk := hFO.sub f.1 (List.mem_map.mpr ⟨f, hf, rfl⟩)
      exact ⟨⟨fr, by rw [e], ok, hxx0, hxx1, hyy0, hyy1⟩, nine_in hk⟩
    have hxa : ∀ n : Nat, 0 ≤ axs.getD n 0 ∧ axs.getD n 0 ≤ 60 := fun n => by
      rw [List.getD_eq_getElem?_getD]
      cases e : axs[n]? with
      | none => exact ⟨by decide, by decide⟩
      | some a => exact hax a (List.mem_of_getElem? e)
    have hfn : fonts.length ≤ 9 := hFO.len
    have hkl : kvs.length ≤ 9 := by rw [hall.length]; exact hfn
    have hls : ∀ h : Heap, h.get? dc = some odc → h.DictOf (intKind p0 w) dc kvs := fun h e => Heap.dictOf_iff.mpr ⟨odc, e, hdc⟩
    have hknd := dictOf_nodup (hls g6 edc)
    generalize hax9 : (fun k : Int => axs.getD (Int.fmod k 3).toNat 0) = ax9
    have NJ := newsTl N7
    have hne1 : @Ne Nat dr df := Nat.ne_of_gt lr.1
    have hne2 : @Ne Nat D9 df := Nat.ne_of_lt lf.1
    have hne3 : @Ne Nat D3 df := Nat.ne_of_lt lf.2.1
    have hne4 : @Ne Nat (L + 1 + 1) df := Nat.ne_of_lt lf.2.2.1
    have hne5 : @Ne Nat (L + 1) df := Nat.ne_of_lt lf.2.2.2.1
    have hnr2 : @Ne Nat D9 dr := Nat.ne_of_lt lr.2.1
    have hnr3 : @Ne Nat D3 dr := Nat.ne_of_lt lr.2.2.1
    have hnr4 : @Ne Nat (L + 1 + 1) dr := Nat.ne_of_lt lr.2.2.2.1
    have hnr5 : @Ne Nat (L + 1) dr := Nat.ne_of_lt lr.2.2.2.2.1
    have hAp7 : ApD D6 [df, dr, D9, D3, L + 1 + 1, L + 1] := fun p hp a ha => by
      rcases List.mem_cons.mp ha with rfl | ha
      · exact Nat.ne_of_lt (allLt_mem lf.2.2.2.2 p hp)
      rcases List.mem_cons.mp ha with rfl | ha
      · exact Nat.ne_of_lt (allLt_mem lr.2.2.2.2.2 p hp)
      · exact hAp6 p hp a ha
    refine turns_keys (JLw w s.heap L df dr dc D9 D3 o9 (LCg.lst ys) oD3 odc kvs ax9 fonts [("fonts", .ref df), ("drawn", .ref dc), ("axes", .ref D9), ("size", .int sz tsz), ("high", .int hd9 tth), ("none", .int nul tnu), ("delimiter", .ref D3)]) hds hls ?hLd ?hax F7 (newsMk NJ (p := (df, _)) (by k_mem) (newsMk NJ (.head _) (fun p hp => NJ p (.tail _ (.tail _ hp))))) ?st ?turn ?done
    case hLd => exact fun q => by rw [← q, hG6.noL F7 (fun p hp => N7 p (by simp [hp]))] at edc; cases edc
    case hax =>
      rintro rest m news h ⟨done, fr, kvf, kvr, odf, odr, o2, D, g, kpre, hfo, hkp, rfl, hdf, hdr, do2, hAp, hG, hgg, hdc, hall, hF, hR, H⟩ F N
      exact hG.stays F (fun p hp => N p (by simp [hp])) _ _ hdc
    case st =>
      exact ⟨[], fonts, [], [], odf, odr, o2, D6, g6, [], rfl, rfl, rfl, hdf0, hdr0, do2, hAp7, hG6, G6.a, edc, hall, .nil, .nil, rfl, rfl, rfl, rfl, rfl, rfl, rfl, trivial⟩
    case done =>
      rintro h' tk' m' news' F N ⟨done, fr, kvf, kvr, odf, odr, o2, D, g, kpre, hfo, hkp, rfl, hdf, hdr, do2, hAp, hG, hgg, hdc, hall, hF, hR, H⟩
      cases hall
      rw [List.append_nil] at hfo
      subst hfo
      replace F := frOf F H
      clear F7 N7 NJ
      repeat' (first | walk1 | (dsimp only; walk1))
      rename Fr _ _ _ _ => F8
      refine ⟨ALComp_go F8 (by rfl) (by with_unfolding_all rfl) (by with_unfolding_all rfl) (by decide) (by rfl) (by decide) (by rfl) (by rfl) ?_⟩
      repeat' (first | walk1 | (dsimp only; walk1))
      have hlen9 : kvr.length ≤ 9 := by have := hR.length; unfold foOf at this; rw [List.length_map, List.length_map] at this; omega
      obtain ⟨qs, hqs⟩ := snap_src hR (fun f hf => by
        unfold foOf at hf
        obtain ⟨f1, hf1, rfl⟩ := List.mem_map.mp hf
        obtain ⟨f2, hf2, rfl⟩ := List.mem_map.mp hf1
        have := (hRws f2 hf2).1.codes.2
        show (leads f2.2).length ≤ 100
        omega)
      have hndr : (kvr.map (·.1)).Nodup := dictOf_nodup (Heap.dictOf_iff.mpr ⟨odr, (N (dr, odr) (by k_mem)).1, hdr⟩)
      rename Fr _ _ _ _ => F7; rename News _ _ _ _ => N7
      refine cgo_keys (JSn w s.heap g [df, dr, D9, D3, L + 1 + 1, L + 1] [(df, odf), (dr, odr), (D9, LCg.lst ys), (D3, oD3), (L + 1 + 1, o2), (L + 1, o9)] qs) _ lor hdr (by omega) F7 N7 (.inr (by k_mem)) ⟨D, g, rfl, hAp, hG, fun _ _ e => e, .nil⟩ (fun g9 => casg_name (by rfl) (by rfl)) ?_ ?_
      · rintro g9 i v zs news I oI C oC DC m₂ h9 tk9 E' kK2 kK hK2 hK hi9 hv ⟨D5, g5, rfl, hAp5, hG5, hk5, hzs⟩ hC hx9 F N off ne
        obtain ⟨k9, x9, t9, hki, rfl⟩ := hv
        obtain ⟨q9, hqi, rfl, fa, dx9, es9, n9, dc9, rfl, I9, c9, hd9, hs9, hl9⟩ := hqs.get hki
        simp only [List.cons_append, List.nil_append] at N off
        have offm := off.mem
        have hvr : valueAt kvr q9.1 = some (.ref fa) := valueAt_mem hndr (q9.1, .ref fa) (List.mem_of_getElem? hki)
        have I9 := instAt_keeps I9 hk5
        have hd9 := hd9.keep hk5
        clear F7 N7
        refine wpAny_tests_nil ?_
        simp only [if_true]
        repeat' (first | walk1 | (dsimp only; walk1))
        rename_i FF NN hh FT NT hkT _ _
        dsimp only at NT ⊢
        have e1 := Heap.lt_size (NN (I, oI) (by k_mem)).1
        have e2 := Heap.lt_size (NN (C, oC) (by k_mem)).1
        have e3 := Heap.lt_size (NN (DC, LCg.lst zs) (by k_mem)).1
        have eT : ∀ a ∈ ([df, dr, D9, D3, L + 1 + 1, L + 1] : List Addr), @Ne Nat hD2.objs.size a := allC (Nat.ne_of_gt (Heap.lt_size (NN (df, odf) (by k_mem)).1)) (allC (Nat.ne_of_gt (Heap.lt_size (NN (dr, odr) (by k_mem)).1)) (allC (Nat.ne_of_gt (Heap.lt_size (NN (D9, LCg.lst ys) (by k_mem)).1)) (allC (Nat.ne_of_gt (Heap.lt_size (NN (D3, oD3) (by k_mem)).1)) (allC (Nat.ne_of_gt (Heap.lt_size (NN (L + 1 + 1, o2) (by k_mem)).1)) (allC (Nat.ne_of_gt (Heap.lt_size (NN (L + 1, o9) (by k_mem)).1)) allN)))))
        generalize hD2.objs.size = TT at NT e1 e2 e3 eT ⊢
        have hAp2 := (hAp5.cons (o := oD2) (allC (Nat.ne_of_gt lD.2.2.2.1) (allC (Nat.ne_of_gt lD.2.2.2.2.1) (allC (Nat.ne_of_gt lD.2.2.2.2.2.1) (allC (Nat.ne_of_gt lD.2.2.2.2.2.2.1) (allC (Nat.ne_of_gt lD.2.2.2.2.2.2.2.1) (allC (Nat.ne_of_gt lD.2.2.2.2.2.2.2.2.1) allN))))))).cons (o := { cls := .type "tuple", data := .seq #[.int q9.1 t9, .ref D2] }) eT
        refine turn_snap (N0 := [(df, odf), (dr, odr), (D9, LCg.lst ys), (D3, oD3), (L + 1 + 1, o2), (L + 1, o9)]) FT NT off (Nat.ne_of_gt e1) (Nat.ne_of_gt e2) (Nat.ne_of_gt e3) (Nat.ne_of_gt lD.1) (Nat.ne_of_gt lD.2.1) (Nat.ne_of_gt lD.2.2.1) hG5 (.inr (by simp)) (fun g2 hG2 k2 hT hD2' => ⟨_, g2, rfl, hAp2, hG2, fun b o e => k2 b o (hk5 b o e), ?_⟩)
        rw [take_one hqi]
        exact (hzs.imp fun _ _ q => q.keeps k2).append (.cons ⟨TT, t9, D2, rfl, ⟨_, hT, rfl, _, rfl⟩, Heap.dictOf_iff.mpr ⟨_, hD2', hdD⟩, hsD⟩ .nil)
      · rintro g9 zs news ⟨D5, g5, rfl, hAp5, hG5, hk5, hzs⟩ hzl DC h9 tk9 F N off
        clear F7 N7
        simp only [List.cons_append, List.nil_append] at N off
        have hq9 := hqs.length
        rw [hq9, List.take_length] at hzs
        have hAp := ApD.push (fun p hp => off1_mem off p (.tail _ (.tail _ (.tail _ (.tail _ (.tail _ (.tail _ hp))))))) hAp5
        replace hR := hR.imp (fun _ _ q => (⟨q.1, Font.keeps q.2 hk5⟩ : _ ∧ FontV w g5 _ _))
        replace hF := hF.imp (fun _ _ q => (⟨q.1, q.2.keeps hk5⟩ : _ ∧ RowsV g5 _ _))
        replace hqs := hqs.imp (fun _ _ q => q.keeps hk5)
        replace hgg : s.heap.StaysIn g5 := fun b o e => hk5 b o (hgg b o e)
        clear hk5 hG hAp5 hdc
        repeat' (first | walk1 | (dsimp only; walk1))
        rename Fr _ _ _ _ => F8; rename News _ _ _ _ => N8
        obtain ⟨szn, rfl⟩ : ∃ n : Nat, sz = (n : Int) := Int.eq_ofNat_of_zero_le hsz.1
        have hszn : szn ≤ 2 := by omega
        generalize hfl : (fonts.map fun f => (f.1, leads f.2)) = fl at hR hF
        have hflR : ∀ f ∈ fl, Rws f.2 xx yy := fun f hf => by
          rw [← hfl] at hf
          obtain ⟨f1, hf1, rfl⟩ := List.mem_map.mp hf
          exact (hRws f1 hf1).1
        have hfsR : ∀ p ∈ foOf ax9 fl, Rws p.2.rows xx yy := fun p hp => by
          unfold foOf at hp
          obtain ⟨f1, hf1, rfl⟩ := List.mem_map.mp hp
          exact hflR f1 hf1
        have hax : ∀ k, ax9 k = axs.getD (Int.fmod k 3).toNat 0 := fun k => by rw [← hax9]
        obtain ⟨r6, hr6⟩ : ∃ r6, findR fl (2 * 3 + (szn : Int)) = some r6 := by
          have hk := hFO.six (2 * 3 + (szn : Int)) (sz_in hszn) (by omega)
          obtain ⟨f1, hf1, e1⟩ := List.mem_map.mp hk
          unfold findR
          cases e : fl.find? (fun f => decide (f.1 = 2 * 3 + (szn : Int))) with
          | some q => exact ⟨q.2, rfl⟩
          | none =>
            have := List.find?_eq_none.mp e (f1.1, leads f1.2) (by rw [← hfl]; exact List.mem_map.mpr ⟨f1, hf1, rfl⟩)
            rw [e1] at this
            simp at this
        have hfo0 : findF (foOf ax9 fl) (2 * 3 + (szn : Int)) = some ⟨1 + (2 * 3 + (szn : Int)), r6, ax9 (2 * 3 + (szn : Int))⟩ := by rw [findF_foOf, hr6]; rfl
        have hfsl : (foOf ax9 fl).length ≤ 100 := by have := hR.length; omega
        have ND8 : News s.heap L _ D5 := fun p hp => N8 p (by simp [hp])
        have NE : News s.heap L _ ([(DC, LCg.lst zs), (df, odf), (dr, odr), (D9, LCg.lst ys), (D3, oD3), (L + 1 + 1, o2), (L + 1, o9)] ++ _) := fun p hp => N8 p (by first | exact hp | exact .tail _ hp | exact .tail _ (.tail _ hp) | exact .tail _ (.tail _ (.tail _ hp)) | exact .tail _ (.tail _ (.tail _ (.tail _ hp))) | exact .tail _ (.tail _ (.tail _ (.tail _ (.tail _ hp)))))
        have ex8 : ∀ a ∈ [DC, df, dr, D9, D3, L + 1 + 1, L + 1], ∃ o, Heap.get? _ a = some o := news_ex NE
        refine ⟨families_new_spec (mg := mg) (mb := mb) (g := g5) (Rm.le Rm.an (by decide)) (X.keeps F8.keep) (trKeep T F8) (hG5.stays F8 ND8) (Heap.dictOf_iff.mpr ⟨odr, (N8 (dr, odr) (by k_mem)).1, hdr⟩) lor hfsl hR (fun h6 tk6 g6 fx fdx fdr fes fn k6 G6 hFA => ?_)⟩
        obtain ⟨hG6, ND⟩ := hG5.grow F8 ND8 k6 G6
        have hAp6 := hAp.of hG5 G6 ex8
        have F7 := frAfter F8 k6
        have N7a := newsAfter N8 k6
        generalize dOf s.heap g6 = D6 at hG6 ND hAp6
        have N7 : News s.heap L h6 ((DC, LCg.lst zs) :: (df, odf) :: (dr, odr) :: (D9, LCg.lst ys) :: (D3, oD3) :: (L + 1 + 1, o2) :: (L + 1, o9) :: D6) := newsSwap (newsAfter NE k6) ND
        replace hF := hF.imp (fun _ _ q => (⟨q.1, q.2.keeps G6.a⟩ : _ ∧ RowsV g6 _ _))
        replace hqs := hqs.imp (fun _ _ q => q.keeps G6.a)
        replace hgg : s.heap.StaysIn g6 := fun b o e => G6.a b o (hgg b o e)
        replace hzs := hzs.imp (fun _ _ q => q.keeps G6.a)
        clear F8 N8 ND8 N7a ex8 NE ND hG5 hAp hR G6
        repeat' (first | walk1 | (dsimp only; walk1))
        rename Fr _ _ _ _ => F8; rename News _ _ _ _ => N8
        have ND8 : News s.heap L _ D6 := fun p hp => N8 p (by simp [hp])
        have NE : News s.heap L _ ([(DC, LCg.lst zs), (df, odf), (dr, odr), (D9, LCg.lst ys), (D3, oD3), (L + 1 + 1, o2), (L + 1, o9)] ++ _) := fun p hp => N8 p (by first | exact hp | exact .tail _ hp | exact .tail _ (.tail _ hp) | exact .tail _ (.tail _ (.tail _ hp)) | exact .tail _ (.tail _ (.tail _ (.tail _ hp))) | exact .tail _ (.tail _ (.tail _ (.tail _ (.tail _ hp)))))
        have ex8 : ∀ a ∈ [DC, df, dr, D9, D3, L + 1 + 1, L + 1], ∃ o, Heap.get? _ a = some o := news_ex NE
        have hxf := hxa (Int.fmod (2 * 3 + (szn : Int)) 3).toNat
        refine ⟨delimiter_box_spec (mg := mg) (mb := mb) (g := g6) (Rm.le Rm.an (by decide)) (X.keeps F8.keep) (trKeep T F8) (hG6.stays F8 ND8) hFA (fun p hp => (hfsR p hp).wf) (hT3 (N8 (D3, oD3) (by k_mem)).1) (by omega) (by omega) (by omega) (by omega) (by omega) (by omega) (by omega) (by omega) hszn (by omega) (by omega) (by omega) (fun p hp => (hfsR p hp).fo (by omega)) hfo0 (by rw [hax]; exact hxf.1) (by rw [hax]; exact Int.le_trans hxf.2 (by decide)) (fun h7 tk7 g7 x1 dx1 es1 n1 bk bw bh bd li k7 G7 hfr B hI => ?_)⟩
        obtain ⟨hG7, ND⟩ := hG6.grow F8 ND8 k7 G7
        have hAp7 := hAp6.of hG6 G7 ex8
        have hApx : ∀ p ∈ dOf s.heap g7, p.1 ≠ x1 ∧ p.1 ≠ dx1 := fun p hp => by
          have := (mem_dOf.mp (show (p.1, p.2) ∈ _ from hp)).2
          exact ⟨fun q => (by rw [q, (hfr x1 (by simp)).2] at this; cases this), fun q => (by rw [q, (hfr dx1 (by simp)).2] at this; cases this)⟩
        have F7 := frAfter F8 k7
        have N7a := newsAfter N8 k7
        generalize dOf s.heap g7 = D7 at hG7 ND hAp7 hApx
        have N7 : News s.heap L h7 ((x1, instObj 257 dx1) :: (dx1, dictOf es1 n1) :: (DC, LCg.lst zs) :: (df, odf) :: (dr, odr) :: (D9, LCg.lst ys) :: (D3, oD3) :: (L + 1 + 1, o2) :: (L + 1, o9) :: D7) := newsCons F8 (newsCons F8 (newsMk N7a (by k_mem) (newsMk N7a (by k_mem) (newsMk N7a (by k_mem) (newsMk N7a (by k_mem) (newsMk N7a (by k_mem) (newsMk N7a (by k_mem) (newsMk N7a (by k_mem) ND))))))) B.hd (hfr dx1 (by simp)).1) B.hx (hfr x1 (by simp)).1
        have hApB := ApD.push (fun p hp => (hApx p hp).1) (ApD.push (fun p hp => (hApx p hp).2) hAp7)
        have going : Going := ⟨⟩
        replace hF := hF.imp (fun _ _ q => (⟨q.1, q.2.keeps G7.a⟩ : _ ∧ RowsV g7 _ _))
        replace hqs := hqs.imp (fun _ _ q => q.keeps G7.a)
        replace hgg : s.heap.StaysIn g7 := fun b o e => G7.a b o (hgg b o e)
        replace hzs := hzs.imp (fun _ _ q => q.keeps G7.a)
        have hFA7 := hFA.keeps G7.a
        clear F8 N8 ND8 N7a ex8 NE ND hG6 hAp6 G7 hAp7 hApx hFA
        repeat' (first | walk1 | (dsimp only; walk1))
        rename Fr _ _ _ _ => F8
        refine ⟨LComp_go F8 (by with_unfolding_all rfl) (by decide) (by rfl) (by decide) ?_⟩
        repeat' (first | walk1 | (dsimp only; walk1))
        rename Fr _ _ _ _ => F7; rename News _ _ _ _ => N7
        refine cgo_keys (JSn w s.heap g7 [x1, dx1, DC, df, dr, D9, D3, L + 1 + 1, L + 1] [(x1, instObj 257 dx1), (dx1, dictOf es1 n1), (DC, LCg.lst zs), (df, odf), (dr, odr), (D9, LCg.lst ys), (D3, oD3), (L + 1 + 1, o2), (L + 1, o9)] qs) _ lor hdr (by omega) F7 N7 (.inr (by k_mem)) ⟨D7, g7, rfl, hApB, hG7, fun _ _ e => e, .nil⟩ (fun g9 => casg_name (by rfl) (by rfl)) ?_ ?_
        · rintro g9 i v us news I oI C oC DD m₂ h9 tk9 E' kK2 kK hK2 hK hi9 hv ⟨D5, g5, rfl, hAp5, hG5, hk5, hus⟩ hC hx9 F N off ne
          obtain ⟨k9, x9, t9, hki, rfl⟩ := hv
          obtain ⟨q9, hqi, rfl, fa, dx9, es9, n9, dc9, rfl, I9, c9, hd9', hs9, hl9⟩ := hqs.get hki
          simp only [List.cons_append, List.nil_append] at N off
          have hvr : valueAt kvr q9.1 = some (.ref fa) := valueAt_mem hndr (q9.1, .ref fa) (List.mem_of_getElem? hki)
          have I9 := instAt_keeps I9 hk5
          have hd9' := hd9'.keep hk5
          clear F7 N7
          refine wpAny_tests_nil ?_
          simp only [if_true]
          repeat' (first | walk1 | (dsimp only; walk1))
          rename_i FF NN hh FT NT hkT _ _
          dsimp only at NT ⊢
          have e1 := Heap.lt_size (NN (I, oI) (by k_mem)).1
          have e2 := Heap.lt_size (NN (C, oC) (by k_mem)).1
          have e3 := Heap.lt_size (NN (DD, LCg.lst us) (by k_mem)).1
          have eT : ∀ a ∈ ([x1, dx1, DC, df, dr, D9, D3, L + 1 + 1, L + 1] : List Addr), @Ne Nat hD2.objs.size a := allC (Nat.ne_of_gt (Heap.lt_size (NN (x1, instObj 257 dx1) (by k_mem)).1)) (allC (Nat.ne_of_gt (Heap.lt_size (NN (dx1, dictOf es1 n1) (by k_mem)).1)) (allC (Nat.ne_of_gt (Heap.lt_size (NN (DC, LCg.lst zs) (by k_mem)).1)) (allC (Nat.ne_of_gt (Heap.lt_size (NN (df, odf) (by k_mem)).1)) (allC (Nat.ne_of_gt (Heap.lt_size (NN (dr, odr) (by k_mem)).1)) (allC (Nat.ne_of_gt (Heap.lt_size (NN (D9, LCg.lst ys) (by k_mem)).1)) (allC (Nat.ne_of_gt (Heap.lt_size (NN (D3, oD3) (by k_mem)).1)) (allC (Nat.ne_of_gt (Heap.lt_size (NN (L + 1 + 1, o2) (by k_mem)).1)) (allC (Nat.ne_of_gt (Heap.lt_size (NN (L + 1, o9) (by k_mem)).1)) allN))))))))
          generalize hD2.objs.size = TT at NT e1 e2 e3 eT ⊢
          have hAp2 := (hAp5.cons (o := oD2) (allC (Nat.ne_of_gt lD.2.2.2.1) (allC (Nat.ne_of_gt lD.2.2.2.2.1) (allC (Nat.ne_of_gt lD.2.2.2.2.2.1) (allC (Nat.ne_of_gt lD.2.2.2.2.2.2.1) (allC (Nat.ne_of_gt lD.2.2.2.2.2.2.2.1) (allC (Nat.ne_of_gt lD.2.2.2.2.2.2.2.2.1) (allC (Nat.ne_of_gt lD.2.2.2.2.2.2.2.2.2.1) (allC (Nat.ne_of_gt lD.2.2.2.2.2.2.2.2.2.2.1) (allC (Nat.ne_of_gt lD.2.2.2.2.2.2.2.2.2.2.2.1) allN)))))))))).cons (o := { cls := .type "tuple", data := .seq #[.int q9.1 t9, .ref D2] }) eT
          refine turn_snap (N0 := [(x1, instObj 257 dx1), (dx1, dictOf es1 n1), (DC, LCg.lst zs), (df, odf), (dr, odr), (D9, LCg.lst ys), (D3, oD3), (L + 1 + 1, o2), (L + 1, o9)]) FT NT off (Nat.ne_of_gt e1) (Nat.ne_of_gt e2) (Nat.ne_of_gt e3) (Nat.ne_of_gt lD.1) (Nat.ne_of_gt lD.2.1) (Nat.ne_of_gt lD.2.2.1) hG5 (.inr (by simp)) (fun g2 hG2 k2 hT hD2' => ⟨_, g2, rfl, hAp2, hG2, fun b o e => k2 b o (hk5 b o e), ?_⟩)
          rw [take_one hqi]
          exact (hus.imp fun _ _ q => q.keeps k2).append (.cons ⟨TT, t9, D2, rfl, ⟨_, hT, rfl, _, rfl⟩, Heap.dictOf_iff.mpr ⟨_, hD2', hdD⟩, hsD⟩ .nil)
        · rintro g9 us news ⟨D5, g5, rfl, hAp5, hG5, hk5, hus⟩ hul DD h9 tk9 F N off
          clear F7 N7
          simp only [List.cons_append, List.nil_append] at N off
          rw [hq9, List.take_length] at hus
          repeat' (first | walk1 | (dsimp only; walk1))
          have kst5 := hG5.stays F (fun p hp => N p (by simp [hp]))
          refine ⟨ne_snap ⟨_, (N (DC, LCg.lst zs) (by k_mem)).1, rfl, _, rfl⟩ ⟨_, (N (DD, LCg.lst us) (by k_mem)).1, rfl, _, rfl⟩ (hzs.imp fun _ _ q => (q.keeps hk5).keeps kst5) (hus.imp fun _ _ q => q.keeps kst5) (by decide) (by decide) (by decide) ?_⟩
          obtain ⟨tb1, b1⟩ := B.kind; obtain ⟨tb2, b2⟩ := B.width; obtain ⟨tb3, b3⟩ := B.height; obtain ⟨tb4, b4⟩ := B.depth; have b5 := B.items; obtain ⟨tb6, b6⟩ := B.shift
          have hxs : ax9 (2 * 3 + (szn : Int)) = axs.getD (Int.toNat (szn : Int)) 0 := by
            rw [hax, sz_mod hszn]
          dsimp only at b6
          rw [hxs] at b6
          have hv9 := halfv_ok (bh - bd)
          generalize halfv (bh - bd) = hv0 at b6 hv9
          replace hF := hF.imp (fun _ _ q => (⟨q.1, q.2.keeps hk5⟩ : _ ∧ RowsV g5 _ _))
          replace hgg : s.heap.StaysIn g5 := fun b o e => hk5 b o (hgg b o e)
          have hFA5 := hFA7.keeps hk5
          replace hI := hI.keeps hk5
          clear hqs hzs hus kst5 hk5 hG7 hApB hFA7 off
          repeat' (first | (walk1 <;> (try dsimp only)) | (dsimp only; walk1))
          rename Fr _ _ _ _ => F8; rename News _ _ _ _ => N8
          have hok9 : ∀ f ∈ fl, f.2.length ≤ 100 ∧ WFr f.2 ∧ (∀ r ∈ f.2, r.code ≤ 10) ∧ (f.2.map (·.code)).Nodup := fun f hf => by
            have h1 := hflR f hf
            exact ⟨by have := h1.codes.2; omega, h1.wf, fun r hr => (h1.bd hr).2.2, h1.codes.1⟩
          have ND8 : News s.heap L _ D5 := fun p hp => N8 p (by simp [hp])
          refine ⟨law_ways_spec (mg := mg) (mb := mb) (g := g5) (Rm.le Rm.an (by decide)) (X.keeps F8.keep) (trKeep T F8) (hG5.stays F8 ND8) (Heap.dictOf_iff.mpr ⟨odf, (N8 (df, odf) (by k_mem)).1, hdf⟩) lof hF (hT3 (N8 (D3, oD3) (by k_mem)).1) (by omega) (by omega) (by omega) (by omega) (by omega) (by omega) (by omega) (by omega) hok9 (fun h6 tk6 g6 v6 k6 G6 hv6 => ?_)⟩
          obtain ⟨hG6, ND⟩ := hG5.grow F8 ND8 k6 G6
          have F7 := frAfter F8 k6
          have N7a := newsAfter N8 k6
          generalize dOf s.heap g6 = D6 at hG6 ND
          have N7 : News s.heap L h6 ((x1, instObj 257 dx1) :: (dx1, dictOf es1 n1) :: (df, odf) :: D6) := newsMk N7a (by k_mem) (newsMk N7a (by k_mem) (newsMk N7a (by k_mem) ND))
          replace hF := hF.imp (fun _ _ q => (⟨q.1, q.2.keeps G6.a⟩ : _ ∧ RowsV g6 _ _))
          replace hI := hI.keeps G6.a
          replace hFA5 := hFA5.keeps G6.a
          have hlw : (lways fl (szn : Int) d30 d31 ++ lways fl (szn : Int) d32 d33).length ≤ 500 := by
            have h1 := lways_len fl (szn : Int) d30 d31; have h2 := lways_len fl (szn : Int) d32 d33
            rw [List.length_append]; omega
          rw [ways_lways ax9 fl szn hszn, ways_lways ax9 fl szn hszn, scan_lchosen] at hI
          clear F8 N8 ND8 N7a ND hG5 hAp5 G6
          repeat' (first | walk1 | (dsimp only; walk1))
          rename Fr _ _ _ _ => F8; rename News _ _ _ _ => N8
          have ND8 : News s.heap L _ D6 := fun p hp => N8 p (by simp [hp])
          refine ⟨law_chosen_spec (mg := mg) (mb := mb) (g := g6) (Rm.le Rm.an (by decide)) (X.keeps F8.keep) (trKeep T F8) (hG6.stays F8 ND8) hv6 hlw (fun h7 tk7 g7 v7 k7 G7 hv7 => ?_)⟩
          obtain ⟨hG7, ND⟩ := hG6.grow F8 ND8 k7 G7
          have F7 := frAfter F8 k7
          have N7a := newsAfter N8 k7
          generalize dOf s.heap g7 = D7 at hG7 ND
          have N7 : News s.heap L h7 ((x1, instObj 257 dx1) :: (dx1, dictOf es1 n1) :: (df, odf) :: D7) := newsMk N7a (by k_mem) (newsMk N7a (by k_mem) (newsMk N7a (by k_mem) ND))
          replace hF := hF.imp (fun _ _ q => (⟨q.1, q.2.keeps G7.a⟩ : _ ∧ RowsV g7 _ _))
          replace hI := hI.keeps G7.a
          replace hFA5 := hFA5.keeps G7.a
          clear F8 N8 ND8 N7a ND hG6 hv6 G7
          generalize lchosen (lways fl (szn : Int) d30 d31 ++ lways fl (szn : Int) d32 d33) hd9 = ch at hI hv7
          cases ch with
          | none =>
            obtain ⟨rfl, rfl, rfl, rfl, nl9, hli9⟩ := hI
            cases hv7
            repeat' (first | walk1 | (dsimp only; walk1))
            rename Fr _ _ _ _ => F8; rename News _ _ _ _ => N8
            refine ⟨eq_box5 ⟨_, (N8 _ (.tail _ (.tail _ (.head _)))).1, rfl, _, rfl⟩ ⟨_, (N8 _ (.head _)).1, rfl, _, rfl⟩ (isList_keeps (⟨_, hli9, rfl, _, rfl⟩ : g7.IsList li #[]) (hG7.stays F8 (fun p hp => N8 p (by simp [hp])))) ⟨_, (N8 _ (.tail _ (.head _))).1, rfl, _, rfl⟩ (by decide) (by decide) ?_⟩
            repeat walk1
            exact h _ _ F8.keep
          | some pr =>
            obtain ⟨p9, r9⟩ := pr
            obtain ⟨fa, fo, hva, hfo9, hfr9, hI⟩ := hI
            obtain ⟨ta, tp9, rv, rfl, hTa, hRv⟩ := hv7
            replace hRv : RowV g7 rv r9 := hRv
            replace hTa : IsTup g7 ta #[.int p9 tp9, rv] := hTa
            have hRvS := hRv
            obtain ⟨ra, u0, u1, u2, u3, u4, rfl, y9⟩ := hRv
            have hRv : RowV g7 (.ref ra) r9 := hRvS
            clear hRvS
            rw [findF_foOf] at hfo9
            obtain ⟨rw9, hfr9', rfl⟩ := Option.map_eq_some_iff.mp hfo9
            obtain ⟨vf, hvf9, hvR9⟩ := rows_of hF hfr9'
            obtain ⟨fdx9, fes9, fn9, ftn9, If9, nf9⟩ := font_of hFA5.all hva hfr9'
            have hRw9 : Rws rw9 xx yy := by
              unfold findR at hfr9'
              obtain ⟨q, e, rfl⟩ := Option.map_eq_some_iff.mp hfr9'
              exact hflR q (List.mem_of_find?_eq_some e)
            clear hFA5 hF
            iterate 18 (first | walk1 | (dsimp only; walk1))
            rename Fr _ _ _ _ => F8; rename News _ _ _ _ => N8
            refine unpackN_ F8 N8 (tup_g F8 N8 hG7 (fun p hp => by simp [hp]) hTa) rfl rfl rfl (fun h8 F8' N8' => ?_)
            clear F8 N8
            cases hk9 : r9.kd with
            | plain =>
              rw [hk9] at y9 hI
              obtain ⟨rfl, rfl, rfl, rfl, c1, dc1, esc1, nc1, nl1, hli1, hC⟩ := hI
              have hlg : g7.IsList li #[.ref c1] := ⟨_, hli1, rfl, _, rfl⟩
              have Ic : InstAt g7 c1 (instObj 236 dc1) 236 (some (dictOf esc1 nc1)) := instAt_mk hC.hx hC.hd
              have hcf := hC.font
              repeat' (first | walk1 | (dsimp only; walk1))
              rename Fr _ _ _ _ => F8; rename News _ _ _ _ => N8
              have ks8 := hG7.stays F8 (fun p hp => N8 p (by simp [hp]))
              refine ⟨letter_right_spec (mg := mg) (mb := mb) (Rm.le Rm.an (by decide)) (X.keeps F8.keep) (trKeep T F8) (r := r9) { B with hx := (N8 (x1, instObj 257 dx1) (by k_mem)).1, hd := (N8 (dx1, dictOf es1 n1) (by k_mem)).1 } (ks8 _ _ hli1) (hC.keeps ks8) (hRv.keeps ks8) (fun h8 tk8 k8 => ?_)⟩
              have F6 := frAfter F8 k8
              have N6 := newsAfter N8 k8
              clear F8 N8 ks8
              repeat' (first | walk1 | (dsimp only; walk1))
              all_goals first
                | (rename Fr _ _ _ _ => F9; exact h _ _ F9.keep)
                | (rename Fr _ _ _ _ => F9; rw [beq_self_eq_true]; exact h _ _ F9.keep)
                | (exact absurd rfl (by assumption))
            | larger c9 =>
              rw [hk9] at y9 hI
              obtain ⟨t5, t6, y9⟩ := y9
              obtain ⟨rfl, rfl, rfl, rfl, c1, dc1, esc1, nc1, nl1, hli1, hC⟩ := hI
              have hlg : g7.IsList li #[.ref c1] := ⟨_, hli1, rfl, _, rfl⟩
              have Ic : InstAt g7 c1 (instObj 236 dc1) 236 (some (dictOf esc1 nc1)) := instAt_mk hC.hx hC.hd
              have hcf := hC.font
              repeat' (first | walk1 | (dsimp only; walk1))
              rename Fr _ _ _ _ => F8; rename News _ _ _ _ => N8
              have ks8 := hG7.stays F8 (fun p hp => N8 p (by simp [hp]))
              refine ⟨letter_right_spec (mg := mg) (mb := mb) (Rm.le Rm.an (by decide)) (X.keeps F8.keep) (trKeep T F8) (r := r9) { B with hx := (N8 (x1, instObj 257 dx1) (by k_mem)).1, hd := (N8 (dx1, dictOf es1 n1) (by k_mem)).1 } (ks8 _ _ hli1) (hC.keeps ks8) (hRv.keeps ks8) (fun h8 tk8 k8 => ?_)⟩
              have F6 := frAfter F8 k8
              have N6 := newsAfter N8 k8
              clear F8 N8 ks8
              repeat' (first | walk1 | (dsimp only; walk1))
              all_goals first
                | (rename Fr _ _ _ _ => F9; exact h _ _ F9.keep)
                | (rename Fr _ _ _ _ => F9; rw [beq_self_eq_true]; exact h _ _ F9.keep)
                | (exact absurd rfl (by assumption))
            | pieces pa pb pc pd =>
              rw [hk9] at y9 hI
              obtain ⟨t5, pv, y9, z9⟩ := y9
              obtain ⟨pt9, pvs9, rfl, hpt9, hpi9⟩ := z9
              obtain ⟨hp1, hp2, hp3, rfl⟩ := hRw9.pieces (find_mem hfr9).1 hk9
              obtain ⟨rfl, hbw9, hbh9, hbd9, zs9, nl1, hli1, hys9⟩ := hI
              have hst := hRw9.steps (a := pa) (b := pb) (c := pc) (high := hd9) (by omega)
              have h12 := hRw9.hd10.2
              obtain ⟨ft1, ft2⟩ := pSteps_fit (rows := rw9) (a := pa) (b := pb) (c := pc) (high := hd9) (d := 10) (by omega)
              have hSn : (((pSteps rw9 pa pb pc 10 hd9).toNat : Nat) : Int) = pSteps rw9 pa pb pc 10 hd9 := Int.toNat_of_nonneg hst.1
              have hsm := sum_pCodes rw9 pa pb pc 10 (pSteps rw9 pa pb pc 10 hd9).toNat
              rw [hSn] at hsm
              have hpm := pEach_mul rw9 pb 10
              have q1 : rw9.length ≤ 100 := by have := hRw9.codes.2; omega
              have q2 : (pSteps rw9 pa pb pc 10 hd9).toNat ≤ 200 := by omega
              have q0 : bh + bd = pReach rw9 pa pb pc + pSteps rw9 pa pb pc 10 hd9 * pEach rw9 pb 10 := by rw [hbh9, hbd9, Int.add_comm, Int.sub_add_cancel]
              have q3 : bh + bd = ((pCodes pa pb pc 10 (pSteps rw9 pa pb pc 10 hd9).toNat).map (hd2 rw9)).sum := by rw [q0, hsm]
              have q4 : hd9 ≤ bh + bd := by rw [q0]; exact ft1
              have q5 : 0 < (pSteps rw9 pa pb pc 10 hd9).toNat → bh + bd - hd2 rw9 10 * (if pb ≠ 0 then 2 else 1) < hd9 := fun q => by
                have q' : 0 < pSteps rw9 pa pb pc 10 hd9 := by rw [← hSn]; exact Int.natCast_pos.mpr q
                rw [← hpm, q0]; exact ft2 q'
              have q6 : pa ≠ 10 := or_ne7 hp1
              have q7 : pb ≠ 10 := or_ne8 hp2
              have q8 : pc ≠ 10 := or_ne9 hp3
              repeat' (first | walk1 | (dsimp only; walk1))
              rename Fr _ _ _ _ => F8; rename News _ _ _ _ => N8
              have ks8 := hG7.stays F8 (fun p hp => N8 p (by simp [hp]))
              refine ⟨pieces_right_spec (mg := mg) (mb := mb) (Rm.le Rm.an (by decide)) (X.keeps F8.keep) (trKeep T F8) { B with hx := (N8 (x1, instObj 257 dx1) (by k_mem)).1, hd := (N8 (dx1, dictOf es1 n1) (by k_mem)).1 } (ks8 _ _ hli1) (hys9.imp fun _ _ q => q.keeps ks8) (hvR9.keeps ks8) (isTup_keeps hpt9 ks8) hpi9 q1 hRw9.codes.1 q2 q6 q7 q8 (hRw9.isome hp1 hp2 hp3) (by rw [hRw9.find.2.2.2]; rfl) hbw9 hbh9 q3 q4 q5 (fun h8 tk8 k8 => ?_)⟩
              have F6 := frAfter F8 k8
              clear N8 ks8
              repeat' (first | walk1 | (dsimp only; walk1))
              all_goals first
                | (exact h _ _ F6.keep)
                | (rename Fr _ _ _ _ => F9; exact h _ _ F9.keep)
    case turn =>
      rintro ⟨k9, v9⟩ rest t9 m₁ news₁ h₁ tk₁ I ito kK hK ⟨done, fr, kvf, kvr, odf, odr, o2, D, g, kpre, hfo, hkp, rfl, hdf, hdr, do2, hAp, hG, hgg, hdc, hall, hF, hR, H⟩ hoff hc9 F N
      cases hall with | cons q hall =>
      rename_i f fr
      obtain ⟨qk, qv⟩ := q
      dsimp only at qk qv
      subst qk
      have hI1 : @Ne Nat df I := hoff _ (.head _)
      have hI2 : @Ne Nat dr I := hoff _ (.tail _ (.head _))
      have hI3 : @Ne Nat D9 I := hoff _ (.tail _ (.tail _ (.head _)))
      have hI4 : @Ne Nat D3 I := hoff _ (.tail _ (.tail _ (.tail _ (.head _))))
      have hI5 : @Ne Nat (L + 1 + 1) I := hoff _ (.tail _ (.tail _ (.tail _ (.tail _ (.head _)))))
      have hI6 : @Ne Nat (L + 1) I := hoff _ (.tail _ (.tail _ (.tail _ (.tail _ (.tail _ (.head _))))))
      have hApI := ApD.push (fun p hp => hoff p (.tail _ (.tail _ (.tail _ (.tail _ (.tail _ (.tail _ hp))))))) hAp
      have hfm : f ∈ fonts := by rw [hfo]; simp
      obtain ⟨hRw, hk3, hk11⟩ := hRws f hfm
      have hdg := hls g hdc
      have hvk : valueAt kvs f.1 = some v9 := valueAt_mem hknd (f.1, v9) (by rw [hkp]; simp)
      have hfl : f.2.length ≤ 100 := by have := hRw.codes.2; unfold leads at this; rw [List.length_map] at this; omega
      have hx3f := hx3 f.1
      have hdl : done.length ≤ 9 := by have := congrArg List.length hfo; rw [List.length_append] at this; omega
      have hndk : ∀ g : Int × List Row, g ∈ done → g.1 ≠ f.1 := fun g hg e => by
        have hnd := hFO.nd
        rw [hfo, List.map_append, List.map_cons] at hnd
        exact (List.nodup_append.mp hnd).2.2 _ (List.mem_map.mpr ⟨g, hg, rfl⟩) _ (.head _) e
      have hvf : valueAt kvf f.1 = none := valueAt_none_of_not_mem (by
        rw [all2_keys hF, List.map_map]
        intro q
        obtain ⟨g, hg, e⟩ := List.mem_map.mp q
        exact hndk g hg e)
      have hvr : valueAt kvr f.1 = none := valueAt_none_of_not_mem (by
        rw [all2_fst hR]
        unfold foOf
        rw [List.map_map, List.map_map]
        intro q
        obtain ⟨g, hg, e⟩ := List.mem_map.mp q
        exact hndk g hg e)
      have hkf : kvf.length ≤ 1000 := by have := hF.length; rw [List.length_map] at this; omega
      have hkr : kvr.length ≤ 1000 := by have := hR.length; unfold foOf at this; rw [List.length_map, List.length_map] at this; omega
      replace F := frOf F H
      clear F7 N7 NJ hoff
      repeat' (first | walk1 | (dsimp only; walk1))
      rename Fr _ _ _ _ => F8; rename News _ _ _ _ => N8
      have ND8 : News s.heap L _ D := fun p hp => N8 p (by simp [hp])
      have NE : News s.heap L _ ([(I, ito), (df, odf), (dr, odr), (D9, LCg.lst ys), (D3, oD3), (L + 1 + 1, o2), (L + 1, o9)] ++ _) := fun p hp => N8 p (by first | exact hp | exact .tail _ hp | exact .tail _ (.tail _ hp) | exact .tail _ (.tail _ (.tail _ hp)) | exact .tail _ (.tail _ (.tail _ (.tail _ hp))) | exact .tail _ (.tail _ (.tail _ (.tail _ (.tail _ hp)))))
      have ex8 : ∀ a ∈ [I, df, dr, D9, D3, L + 1 + 1, L + 1], ∃ o, Heap.get? _ a = some o := news_ex NE
      refine ⟨law_leads_spec (mg := mg) (mb := mb) (g := g) (Rm.le Rm.an (by decide)) (X.keeps F8.keep) (trKeep T F8) (hG.stays F8 ND8) qv hfl (fun h8 tk8 g8 v8 k8 G8 hv8 => ?_)⟩
      obtain ⟨hG8, ND⟩ := hG.grow F8 ND8 k8 G8
      have hAp8 := hApI.of hG G8 ex8
      have F7 := frAfter F8 k8
      have N7a := newsAfter N8 k8
      generalize dOf s.heap g8 = D8 at hG8 ND hAp8
      have N7 : News s.heap L h8 ((I, ito) :: (df, odf) :: (dr, odr) :: (D9, LCg.lst ys) :: (D3, _) :: (L + 1 + 1, o2) :: (L + 1, o9) :: D8) := newsSwap (newsAfter NE k8) ND
      clear F8 N8 ND8 N7a ex8 NE ND
      repeat' (first | walk1 | (dsimp only; walk1))
      rename Fr _ _ _ _ => F8; rename News _ _ _ _ => N8
      refine dset F8 N8 (by k_mem) hdf hkf (fun h' odf' F' kb ho' hdf' => ?_)
      have N' := newsSet (pre := [(I, ito)]) N8 kb ho' (allC (Ne.symm hI1) (allC hne1 (allC hne2 (allC hne3 (allC hne4 (allC hne5 (hAp8.ne (by k_mem))))))))
      simp only [List.cons_append, List.nil_append] at N'
      clear F8 N8 kb ho'
      rw [stored_absent hvf] at hdf'
      have hvf' : valueAt (kvf ++ [(f.1, v8)]) f.1 = some v8 := by
        unfold valueAt at hvf ⊢
        rw [List.find?_append, Option.map_eq_none_iff.mp hvf]
        simp
      repeat' (first | walk1 | (dsimp only; walk1))
      rename Fr _ _ _ _ => F8; rename News _ _ _ _ => N8
      have ND8 : News s.heap L _ D8 := fun p hp => N8 p (by simp [hp])
      have NE : News s.heap L _ ([(I, ito), (df, odf'), (dr, odr), (D9, LCg.lst ys), (D3, oD3), (L + 1 + 1, o2), (L + 1, o9)] ++ _) := fun p hp => N8 p (by first | exact hp | exact .tail _ hp | exact .tail _ (.tail _ hp) | exact .tail _ (.tail _ (.tail _ hp)) | exact .tail _ (.tail _ (.tail _ (.tail _ hp))) | exact .tail _ (.tail _ (.tail _ (.tail _ (.tail _ hp)))))
      have ex8 : ∀ a ∈ [I, df, dr, D9, D3, L + 1 + 1, L + 1], ∃ o, Heap.get? _ a = some o := news_ex NE
      have hxf := hxa (Int.fmod f.1 3).toNat
      refine ⟨font_of_rows_spec (mg := mg) (mb := mb) (g := g8) (Rm.le Rm.an (by decide)) (X.keeps F8.keep) (trKeep T F8) (hG8.stays F8 ND8) (by omega) (by omega) hv8 hRw.ok hRw.codes.1 ⟨_, (N8 _ (.head _)).1, rfl, _, rfl⟩ (.cons 0 _ (.cons 0 _ (.cons 0 _ (.cons 0 _ (.cons 0 _ (.cons 0 _ (.cons 0 _ (.cons 0 _ (.cons 0 _ (.cons 0 _ (.cons 0 _ (.cons 0 _ (.cons 0 _ (.cons 0 _ (.cons 0 _ (.cons 0 _ (.cons 0 _ (.cons 0 _ (.cons 0 _ (.cons 0 _ (.cons 0 _ (.cons _ _ .nil)))))))))))))))))))))) hxf.1 (by omega) (fun h10 tk10 g10 x10 k10 G10 hx10 => ?_)⟩
      obtain ⟨hG10, ND⟩ := hG8.grow F8 ND8 k10 G10
      have hAp10 := hAp8.of hG8 G10 ex8
      have F7 := frAfter F8 k10
      have N7a := newsAfter N8 k10
      generalize dOf s.heap g10 = D10 at hG10 ND hAp10
      have N7 : News s.heap L h10 ((I, ito) :: (df, odf') :: (dr, odr) :: (D9, LCg.lst ys) :: (D3, oD3) :: (L + 1 + 1, o2) :: (L + 1, o9) :: D10) := newsSwap (newsAfter NE k10) ND
      clear F8 N8 ND8 N7a ex8 NE ND
      repeat' (first | walk1 | (dsimp only; walk1))
      rename Fr _ _ _ _ => F8; rename News _ _ _ _ => N8
      refine dset F8 N8 (by k_mem) hdr hkr (fun h' odr' F' kb ho' hdr' => ?_)
      have N' := newsSet (pre := [(I, ito), (df, odf')]) N8 kb ho' (allC (Ne.symm hI2) (allC (Ne.symm hne1) (allC hnr2 (allC hnr3 (allC hnr4 (allC hnr5 (hAp10.ne (by k_mem))))))))
      simp only [List.cons_append, List.nil_append] at N'
      clear F8 N8 kb ho'
      rw [stored_absent hvr] at hdr'
      repeat' (first | walk1 | (dsimp only; walk1))
      refine ⟨h', _, _, (df, odf') :: (dr, odr') :: (D9, _) :: (D3, _) :: (L + 1 + 1, o2) :: (L + 1, o9) :: D10, rfl, F', N', allC hI1 (allC hI2 (allC hI3 (allC hI4 (allC hI5 (allC hI6 (hAp10.ne (.head _))))))), done ++ [f], fr, kvf ++ [(f.1, v8)], kvr ++ [(f.1, .ref x10)], odf', odr', o2, D10, g10, kpre ++ [(f.1, v9)], by rw [hfo]; simp, by rw [hkp]; simp, rfl, hdf', hdr', do2, fun p hp a ha => hAp10 p hp a (.tail _ ha), hG10, fun b o e => G10.a b o (G8.a b o (hgg b o e)), G10.a _ _ (G8.a _ _ hdc), hall.imp fun _ _ q => ⟨q.1, (q.2.keeps G8.a).keeps G10.a⟩, ?_, ?_, rfl, rfl, rfl, rfl, rfl, rfl, rfl, trivial⟩
      · rw [List.map_append]
        exact (hF.imp fun _ _ q => ⟨q.1, (q.2.keeps G8.a).keeps G10.a⟩).append (.cons ⟨rfl, hv8.keeps G10.a⟩ .nil)
      · unfold foOf
        rw [List.map_append, List.map_append]
        exact (hR.imp fun _ _ q => ⟨q.1, Font.keeps (Font.keeps q.2 G8.a) G10.a⟩).append (.cons ⟨rfl, by rw [← hax9]; exact hx10⟩ .nil)
end
end Mine
end
section
set_option maxHeartbeats 2000000
open Mine
theorem PySem.Challenge.cw_sq0040_01_holds : PySem.Challenge.rw_sq0040_01.Holds := by
  refine head0 ?_
  intro w s₀ s₁ mg mb G Y fa o pm cd doc dV kV ho hd hcd hD hmg hg args vals as hpre hlay hrd hwl hlo
  refine Ground.open G ?_
  intro T B D TE TW
  have hfa : fa = 534 := by
    have e : mg d0.name = some (.ref 534) := mg_of Y T.g (by kernel_rfl)
    rw [hmg] at e
    injection e with e
    injection e
  subst hfa
  clear ho hd hcd hD hmg
  wrow_args hpre hlay hrd hwl hlo
  rename (¬ _ < _) => hlen
  rename Heap.IsList _ _ _ => hl
  rename IntsAre _ _ => hi
  refine law_spec (mg := mg) (mb := mb) ⟨rfl, by decide, by decide⟩ Y (topRead_of T) hl hi (by omega) (fun h' tk hk => ?_)
  exact ⟨.inl ⟨_, .bool true, [], rfl, fun _ => rfl, by constructor, by wrow_post, fun _ => ⟨.nil, fun _ h => nomatch h⟩⟩, .of_keep hk, rfl, .of_eq hg⟩
end
end
