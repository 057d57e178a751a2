import PyProof.Rows.All
import Wide.All
import OpenK.AllK
import Wide.FinOn
import KE.LcTurns
import Lean
import PySem.Challenge.RW_rh0099_01
open PySem PySem.W PySem.Calls PyProof.Rows
set_option Elab.async false
set_option maxRecDepth 100000
set_option maxHeartbeats 8000000
namespace Mine
noncomputable section
local macro_rules | `(∅) => `(by kernel_rfl)
set_option genInjectivity false
set_option genSizeOf false
noncomputable abbrev pw : Program := PySem.Challenge.pw_rh0099_01
noncomputable def stAt (i : Nat) : Stmt := pw.main.body.getD i (.Pass default)
noncomputable def meAt (i j : Nat) : Stmt := match stAt i with
 | .ClassDef _ _ _ b _ _ _ _ _ _ _ => b.getD j (.Pass default)
 | s => s
noncomputable def fnd (s : Stmt) : FuncData := match s with
 | .FunctionDef name args body _ _ _ scope _ _ _ => { name := name, qualname := name, params := args, body := .stmts body, scope := scope, globals := 3, closure := [], defaults := .none, kwdefaults := .none }
 | _ => default
noncomputable def life0 : Life := {}
noncomputable def drawn0 : Drawn := {}
noncomputable def gens0 : Array GenState := #[]
noncomputable def eT : Obj := ⟨(.type "tuple"), none, (.seq #[] 0), #[]⟩
noncomputable def eF : Obj := ⟨.none, none, (.fields #[]), #[]⟩
noncomputable def tU (x : Array Value) : Obj := ⟨(.type "tuple"), none, (.seq x 0), #[]⟩
noncomputable def fA (s : Stmt) (q : Str) : Obj := ⟨.none, none, (.func { fnd s with qualname := q, globals := 0, closure := [], defaults := .none, kwdefaults := .none, doc := .none, pyModule := .none, annotations := none, code := .none, closureTuple := .none, builtins := 0 }), #[]⟩
noncomputable def fB (s : Stmt) (q : Str) (d : Value) (m : Str) (t : Tok) (c : Addr) : Obj := ⟨(.type "function"), none, (.func { fnd s with qualname := q, globals := 3, closure := [], defaults := d, kwdefaults := .none, doc := .none, pyModule := (.str m t), annotations := none, code := (.ref c), closureTuple := .none, builtins := 0 }), #[]⟩
noncomputable def cO (n q : Str) (t : Tok) (l a b c f : Int) (r1 r2 : Addr) (v3 v4 v5 : Value) (x : Int) (y : Tok) (z : Bool) : Obj := ⟨(.type "code"), none, (.fields #[(.str n t), (.str q (t + 1)), (.str "/claim/cut.py" (t + 2)), (.int l 0), (.int a 0), (.int b 0), (.int c 0), (.int f 0), (.ref r1), (.bool z), (.int 181 0), (.ref r2), .none, v3, v4, v5, (.int x 0), (.int l 0), (.str "/claim/cut.py" y)]), #[]⟩
noncomputable def dE (P : Params) (k : String) (t : Tok) (v : Value) : DictEntry := ⟨PyData.keyHash P k, .str k t, v⟩
noncomputable def lF (o : Obj) : BT := .node o .nil .nil
noncomputable def o13_a : Obj := cO "<module>" "<module>" 182 1 0 0 0 0 11 12 .none .none .none 185 186 false
noncomputable def o14_a : Obj := ⟨(.type "frame"), none, .plain, #[(some (.ref 13)), (some (.ref 3)), (some (.ref 3)), none, (some (.str "__main__" 164)), none, (some (.ref 0))]⟩
noncomputable def h_a (P : Params) : Heap := ⟨⟨[boot_o_0 P, boot_o_1 P, boot_o_2 P, boot_o_3 P, boot_o_4 P, boot_o_5 P, boot_o_6 P, boot_o_7 P, boot_o_8 P, boot_o_9 P, boot_o_10 P, eT, eF, o13_a, o14_a]⟩, life0⟩
noncomputable def t_b (P : Params) : BT := (.node (boot_o_0 P) (.node (boot_o_1 P) (.node (boot_o_3 P) (lF (boot_o_7 P)) (lF eT)) (.node (boot_o_5 P) (lF (boot_o_9 P)) (lF o13_a))) (.node (boot_o_2 P) (.node (boot_o_4 P) (lF (boot_o_8 P)) (lF eF)) (.node (boot_o_6 P) (lF (boot_o_10 P)) (lF o14_a))))
noncomputable def o3_1 (P : Params) : Obj := ⟨(.type "dict"), none, (.dict #[dE P "__name__" 165 (.str "clausemill.symbols" 194), dE P "__doc__" 166 .none, dE P "__package__" 167 .none, dE P "__loader__" 168 (.builtin "__main__.__loader__#opaque"), dE P "__spec__" 169 .none, dE P "__annotations__" 170 (.ref 6), dE P "__builtins__" 171 (.ref 4), dE P "__file__" 173 (.str "/claim/cut.py" 172), dE P "__cached__" 174 .none, dE P "_wall" 193 (.ref 21), dE P "A_NIL" 197 (.int 0 196), dE P "A_MINUS" 199 (.int 3 198), dE P "A_COMMA" 201 (.int 7 200), dE P "A_BAR" 203 (.int 8 202), dE P "F_DOT" 205 (.int 0 204), dE P "F_COMMA" 207 (.int 1 206), dE P "F_CURLY" 209 (.int 9 208), dE P "F_VARNAME" 211 (.int 17 210), dE P "fixed_atoms" 217 (.ref 28), dE P "fixed_functors" 223 (.ref 35)] 20), #[]⟩
noncomputable def o12_1 : Obj := ⟨.none, none, (.fields #[(.int 1 0), (.int 0 0), (.ref 20), (.int 13 0), (.int 0 0), (.ref 27), (.int 15 0), (.int 0 0), (.ref 34)]), #[]⟩
noncomputable def o17_1 : Obj := tU #[(.str "k" 190)]
noncomputable def o19_1 : Obj := fA (stAt 0) "_wall"
noncomputable def o20_1 : Obj := cO "_wall" "_wall" 187 1 1 0 0 3 15 16 (.ref 17) (.ref 18) (.ref 19) 191 192 true
noncomputable def o21_1 : Obj := fB (stAt 0) "_wall" .none "__main__" 164 20
noncomputable def o26_1 : Obj := fA (stAt 10) "fixed_atoms"
noncomputable def o27_1 : Obj := cO "fixed_atoms" "fixed_atoms" 212 13 0 0 0 3 22 23 (.ref 24) (.ref 25) (.ref 26) 215 216 true
noncomputable def o28_1 : Obj := fB (stAt 10) "fixed_atoms" .none "clausemill.symbols" 194 27
noncomputable def o33_1 : Obj := fA (stAt 11) "fixed_functors"
noncomputable def o34_1 : Obj := cO "fixed_functors" "fixed_functors" 218 15 0 0 0 3 29 30 (.ref 31) (.ref 32) (.ref 33) 221 222 true
noncomputable def o35_1 : Obj := fB (stAt 11) "fixed_functors" .none "clausemill.symbols" 194 34
noncomputable def t_1 (P : Params) : BT := (.node (boot_o_0 P) (.node (boot_o_1 P) (.node (o3_1 P) (.node (boot_o_7 P) (.node eT (lF eT) .nil) (lF eF)) (.node eT (.node o19_1 (lF o35_1) .nil) (lF o27_1))) (.node (boot_o_5 P) (.node (boot_o_9 P) (.node o17_1 (lF o33_1) .nil) (lF eT)) (.node o13_a (lF o21_1) (lF eT)))) (.node (boot_o_2 P) (.node (boot_o_4 P) (.node (boot_o_8 P) (.node eF (lF eT) .nil) (lF eT)) (.node o12_1 (lF o20_1) (lF o28_1))) (.node (boot_o_6 P) (.node (boot_o_10 P) (.node eT (lF o34_1) .nil) (lF o26_1)) (.node o14_a (lF eT) (lF eF)))))
noncomputable def o3_2 (P : Params) : Obj := ⟨(.type "dict"), none, (.dict #[dE P "__name__" 165 (.str "clausemill.chars" 353), dE P "__doc__" 166 .none, dE P "__package__" 167 .none, dE P "__loader__" 168 (.builtin "__main__.__loader__#opaque"), dE P "__spec__" 169 .none, dE P "__annotations__" 170 (.ref 6), dE P "__builtins__" 171 (.ref 4), dE P "__file__" 173 (.str "/claim/cut.py" 172), dE P "__cached__" 174 .none, dE P "_wall" 193 (.ref 21), dE P "A_NIL" 197 (.int 0 196), dE P "A_MINUS" 199 (.int 3 198), dE P "A_COMMA" 201 (.int 7 200), dE P "A_BAR" 203 (.int 8 202), dE P "F_DOT" 205 (.int 0 204), dE P "F_COMMA" 207 (.int 1 206), dE P "F_CURLY" 209 (.int 9 208), dE P "F_VARNAME" 211 (.int 17 210), dE P "fixed_atoms" 217 (.ref 28), dE P "fixed_functors" 223 (.ref 35), dE P "Symbols" 342 (.ref 122), dE P "list_items" 352 (.ref 133)] 22), #[]⟩
noncomputable def o12_2 : Obj := ⟨.none, none, (.fields #[(.int 1 0), (.int 0 0), (.ref 20), (.int 13 0), (.int 0 0), (.ref 27), (.int 15 0), (.int 0 0), (.ref 34), (.int 17 0), (.int 0 0), (.ref 41), (.int 72 0), (.int 0 0), (.ref 132)]), #[]⟩
noncomputable def o37_2 : Obj := ⟨(.type "builtin_function_or_method"), none, (.fields #[(.builtin "type.__prepare__"), (.type "type")]), #[]⟩
noncomputable def o38_2 (P : Params) : Obj := ⟨(.type "dict"), none, (.dict #[dE P "__module__" 231 (.str "clausemill.symbols" 194), dE P "__qualname__" 233 (.str "Symbols" 232), dE P "__firstlineno__" 235 (.int 17 234), dE P "__init__" 244 (.ref 49), dE P "atom" 254 (.ref 56), dE P "text" 262 (.ref 63), dE P "functor" 274 (.ref 70), dE P "func" 283 (.ref 77), dE P "name" 291 (.ref 84), dE P "arity" 299 (.ref 91), dE P "label" 307 (.ref 98), dE P "count" 314 (.ref 105), dE P "functor_count" 321 (.ref 112), dE P "known" 330 (.ref 119), dE P "__static_attributes__" 335 (.ref 120)] 15), #[]⟩
noncomputable def o40_2 : Obj := ⟨.none, none, (.fields #[(.int 19 0), (.int 4 0), (.ref 48), (.int 29 0), (.int 4 0), (.ref 55), (.int 38 0), (.int 4 0), (.ref 62), (.int 41 0), (.int 4 0), (.ref 69), (.int 51 0), (.int 4 0), (.ref 76), (.int 54 0), (.int 4 0), (.ref 83), (.int 57 0), (.int 4 0), (.ref 90), (.int 60 0), (.int 4 0), (.ref 97), (.int 63 0), (.int 4 0), (.ref 104), (.int 66 0), (.int 4 0), (.ref 111), (.int 69 0), (.int 4 0), (.ref 118)]), #[]⟩
noncomputable def o41_2 : Obj := cO "Symbols" "Symbols" 226 17 0 0 0 0 39 40 .none .none .none 229 230 false
noncomputable def o42_2 : Obj := ⟨(.type "frame"), none, .plain, #[(some (.ref 41)), (some (.ref 3)), (some (.ref 38)), none, (some (.str "clausemill.symbols" 194)), none, (some (.ref 0))]⟩
noncomputable def o45_2 : Obj := tU #[(.str "self" 239), (.str "text" 240), (.str "row" 241)]
noncomputable def o47_2 : Obj := fA (meAt 12 0) "Symbols.__init__"
noncomputable def o48_2 : Obj := cO "__init__" "Symbols.__init__" 236 19 1 0 0 3 43 44 (.ref 45) (.ref 46) (.ref 47) 242 243 true
noncomputable def o49_2 : Obj := fB (meAt 12 0) "Symbols.__init__" .none "clausemill.symbols" 194 48
noncomputable def o52_2 : Obj := tU #[(.str "self" 248), (.str "text" 249), (.str "found" 250), (.str "number" 251)]
noncomputable def o54_2 : Obj := fA (meAt 12 1) "Symbols.atom"
noncomputable def o55_2 : Obj := cO "atom" "Symbols.atom" 245 29 2 0 0 3 50 51 (.ref 52) (.ref 53) (.ref 54) 252 253 true
noncomputable def o56_2 : Obj := fB (meAt 12 1) "Symbols.atom" .none "clausemill.symbols" 194 55
noncomputable def o59_2 : Obj := tU #[(.str "self" 258), (.str "number" 259)]
noncomputable def o61_2 : Obj := fA (meAt 12 2) "Symbols.text"
noncomputable def o62_2 : Obj := cO "text" "Symbols.text" 255 38 2 0 0 3 57 58 (.ref 59) (.ref 60) (.ref 61) 260 261 true
noncomputable def o63_2 : Obj := fB (meAt 12 2) "Symbols.text" .none "clausemill.symbols" 194 62
noncomputable def o66_2 : Obj := tU #[(.str "self" 266), (.str "atom" 267), (.str "arity" 268), (.str "key" 269), (.str "found" 270), (.str "number" 271)]
noncomputable def o68_2 : Obj := fA (meAt 12 3) "Symbols.functor"
noncomputable def o69_2 : Obj := cO "functor" "Symbols.functor" 263 41 3 0 0 3 64 65 (.ref 66) (.ref 67) (.ref 68) 272 273 true
noncomputable def o70_2 : Obj := fB (meAt 12 3) "Symbols.functor" .none "clausemill.symbols" 194 69
noncomputable def o73_2 : Obj := tU #[(.str "self" 278), (.str "text" 279), (.str "arity" 280)]
noncomputable def o75_2 : Obj := fA (meAt 12 4) "Symbols.func"
noncomputable def o76_2 : Obj := cO "func" "Symbols.func" 275 51 3 0 0 3 71 72 (.ref 73) (.ref 74) (.ref 75) 281 282 true
noncomputable def o77_2 : Obj := fB (meAt 12 4) "Symbols.func" .none "clausemill.symbols" 194 76
noncomputable def o80_2 : Obj := tU #[(.str "self" 287), (.str "functor" 288)]
noncomputable def o82_2 : Obj := fA (meAt 12 5) "Symbols.name"
noncomputable def o83_2 : Obj := cO "name" "Symbols.name" 284 54 2 0 0 3 78 79 (.ref 80) (.ref 81) (.ref 82) 289 290 true
noncomputable def o84_2 : Obj := fB (meAt 12 5) "Symbols.name" .none "clausemill.symbols" 194 83
noncomputable def o87_2 : Obj := tU #[(.str "self" 295), (.str "functor" 296)]
noncomputable def o89_2 : Obj := fA (meAt 12 6) "Symbols.arity"
noncomputable def o90_2 : Obj := cO "arity" "Symbols.arity" 292 57 2 0 0 3 85 86 (.ref 87) (.ref 88) (.ref 89) 297 298 true
noncomputable def o91_2 : Obj := fB (meAt 12 6) "Symbols.arity" .none "clausemill.symbols" 194 90
noncomputable def o94_2 : Obj := tU #[(.str "self" 303), (.str "functor" 304)]
noncomputable def o96_2 : Obj := fA (meAt 12 7) "Symbols.label"
noncomputable def o97_2 : Obj := cO "label" "Symbols.label" 300 60 2 0 0 3 92 93 (.ref 94) (.ref 95) (.ref 96) 305 306 true
noncomputable def o98_2 : Obj := fB (meAt 12 7) "Symbols.label" .none "clausemill.symbols" 194 97
noncomputable def o101_2 : Obj := tU #[(.str "self" 311)]
noncomputable def o103_2 : Obj := fA (meAt 12 8) "Symbols.count"
noncomputable def o104_2 : Obj := cO "count" "Symbols.count" 308 63 1 0 0 3 99 100 (.ref 101) (.ref 102) (.ref 103) 312 313 true
noncomputable def o105_2 : Obj := fB (meAt 12 8) "Symbols.count" .none "clausemill.symbols" 194 104
noncomputable def o108_2 : Obj := tU #[(.str "self" 318)]
noncomputable def o110_2 : Obj := fA (meAt 12 9) "Symbols.functor_count"
noncomputable def o111_2 : Obj := cO "functor_count" "Symbols.functor_count" 315 66 1 0 0 3 106 107 (.ref 108) (.ref 109) (.ref 110) 319 320 true
noncomputable def o112_2 : Obj := fB (meAt 12 9) "Symbols.functor_count" .none "clausemill.symbols" 194 111
noncomputable def o115_2 : Obj := tU #[(.str "self" 325), (.str "text" 326), (.str "arity" 327)]
noncomputable def o117_2 : Obj := fA (meAt 12 10) "Symbols.known"
noncomputable def o118_2 : Obj := cO "known" "Symbols.known" 322 69 3 0 0 3 113 114 (.ref 115) (.ref 116) (.ref 117) 328 329 true
noncomputable def o119_2 : Obj := fB (meAt 12 10) "Symbols.known" .none "clausemill.symbols" 194 118
noncomputable def o120_2 : Obj := tU #[(.str "atom_numbers" 331), (.str "functor_numbers" 332), (.str "functors" 333), (.str "texts" 334)]
noncomputable def o121_2 (P : Params) : Obj := ⟨(.type "dict"), none, (.dict #[dE P "__module__" 231 (.str "clausemill.symbols" 194), dE P "__firstlineno__" 235 (.int 17 234), dE P "__init__" 244 (.ref 49), dE P "atom" 254 (.ref 56), dE P "text" 262 (.ref 63), dE P "functor" 274 (.ref 70), dE P "func" 283 (.ref 77), dE P "name" 291 (.ref 84), dE P "arity" 299 (.ref 91), dE P "label" 307 (.ref 98), dE P "count" 314 (.ref 105), dE P "functor_count" 321 (.ref 112), dE P "known" 330 (.ref 119), dE P "__static_attributes__" 335 (.ref 120), dE P "__dict__" 337 (.ref 123), dE P "__weakref__" 339 (.ref 124), dE P "__doc__" 340 .none] 4), #[]⟩
noncomputable def o122_2 : Obj := ⟨(.type "type"), none, (.cls { name := "Symbols", bases := [(.type "object")], mro := [(.ref 122), (.type "object")], ns := 121, qualname := "Symbols", hasDict := true, slotNames := [], subclasses := [], abstract := false, collection := none, hasDel := false }), #[none, none, (some (.str "Symbols" 224)), (some (.str "Symbols" 232)), (some (.builtin "object.__new__")), (some (.bool true))]⟩
noncomputable def o123_2 : Obj := ⟨(.type "getset_descriptor"), none, (.fields #[(.str "__dict__" 336), (.ref 122), (.builtin "function.__dict__"), (.builtin "function.__dict__#set")]), #[]⟩
noncomputable def o124_2 : Obj := ⟨(.type "getset_descriptor"), none, (.fields #[(.str "__weakref__" 338), (.ref 122), (.builtin "ExceptionGroup.__weakref__"), .none]), #[]⟩
noncomputable def o125_2 : Obj := ⟨(.type "super"), none, (.fields #[(.ref 122), (.ref 122), (.ref 122)]), #[]⟩
noncomputable def o126_2 : Obj := ⟨(.type "builtin_function_or_method"), none, (.fields #[(.builtin "object.__init_subclass__"), (.ref 122)]), #[]⟩
noncomputable def o129_2 : Obj := tU #[(.str "term" 348), (.str "items" 349)]
noncomputable def o131_2 : Obj := fA (stAt 14) "list_items"
noncomputable def o132_2 : Obj := cO "list_items" "list_items" 345 72 1 0 0 3 127 128 (.ref 129) (.ref 130) (.ref 131) 350 351 true
noncomputable def o133_2 : Obj := fB (stAt 14) "list_items" .none "clausemill.terms" 343 132
noncomputable def t_2 (P : Params) : BT := (.node (boot_o_0 P) (.node (boot_o_1 P) (.node (o3_2 P) (.node (boot_o_7 P) (.node eT (.node eT (.node o63_2 (lF eT) .nil) (lF eT)) (.node o47_2 (lF eF) (lF o111_2))) (.node eF (.node eT (lF eT) (lF o103_2)) (.node o55_2 (lF o87_2) (lF o119_2)))) (.node eT (.node o19_1 (.node o35_1 (.node eT (lF o131_2) .nil) (lF eT)) (.node eF (lF o83_2) (lF o115_2))) (.node o27_1 (.node eT (lF o75_2) (lF eF)) (.node o59_2 (lF o91_2) (lF o123_2))))) (.node (boot_o_5 P) (.node (boot_o_9 P) (.node o17_1 (.node o33_1 (.node eF (lF o129_2) .nil) (lF o97_2)) (.node o49_2 (lF eT) (lF eT))) (.node eT (.node o41_2 (lF o73_2) (lF o105_2)) (.node eT (lF o89_2) (lF (o121_2 P))))) (.node o13_a (.node o21_1 (.node o37_2 (.node o69_2 (lF o133_2) .nil) (lF o101_2)) (.node eT (lF eT) (lF o117_2))) (.node eT (.node o45_2 (lF o77_2) (lF eT)) (.node o61_2 (lF eF) (lF o125_2)))))) (.node (boot_o_2 P) (.node (boot_o_4 P) (.node (boot_o_8 P) (.node eF (.node eT (.node eT (lF eF) .nil) (lF o96_2)) (.node o48_2 (lF o80_2) (lF o112_2))) (.node eT (.node o40_2 (lF eF) (lF o104_2)) (.node o56_2 (lF eT) (lF o120_2)))) (.node o12_2 (.node o20_1 (.node eT (.node o68_2 (lF o132_2) .nil) (lF eF)) (.node o52_2 (lF o84_2) (lF eT))) (.node o28_1 (.node eF (lF o76_2) (lF o108_2)) (.node eT (lF eT) (lF o124_2))))) (.node (boot_o_6 P) (.node (boot_o_10 P) (.node eT (.node o34_1 (.node o66_2 (lF eT) .nil) (lF o98_2)) (.node eT (lF o82_2) (lF eF))) (.node o26_1 (.node o42_2 (lF eT) (lF eT)) (.node eF (lF o90_2) (lF o122_2)))) (.node o14_a (.node eT (.node (o38_2 P) (lF o70_2) (lF eT)) (.node o54_2 (lF eF) (lF o118_2))) (.node eF (.node eT (lF eT) (lF o110_2)) (.node o62_2 (lF o94_2) (lF o126_2)))))))
noncomputable def o3_3 (P : Params) : Obj := ⟨(.type "dict"), none, (.dict #[dE P "__name__" 165 (.str "clausemill.operators" 423), dE P "__doc__" 166 .none, dE P "__package__" 167 .none, dE P "__loader__" 168 (.builtin "__main__.__loader__#opaque"), dE P "__spec__" 169 .none, dE P "__annotations__" 170 (.ref 6), dE P "__builtins__" 171 (.ref 4), dE P "__file__" 173 (.str "/claim/cut.py" 172), dE P "__cached__" 174 .none, dE P "_wall" 193 (.ref 21), dE P "A_NIL" 197 (.int 0 196), dE P "A_MINUS" 199 (.int 3 198), dE P "A_COMMA" 201 (.int 7 200), dE P "A_BAR" 203 (.int 8 202), dE P "F_DOT" 205 (.int 0 204), dE P "F_COMMA" 207 (.int 1 206), dE P "F_CURLY" 209 (.int 9 208), dE P "F_VARNAME" 211 (.int 17 210), dE P "fixed_atoms" 217 (.ref 28), dE P "fixed_functors" 223 (.ref 35), dE P "Symbols" 342 (.ref 122), dE P "list_items" 352 (.ref 133), dE P "is_digit" 361 (.ref 140), dE P "is_small" 368 (.ref 147), dE P "is_capital" 375 (.ref 154), dE P "is_alnum" 382 (.ref 161), dE P "is_symbol" 389 (.ref 168), dE P "number_text" 399 (.ref 175), dE P "is_alnum_name" 407 (.ref 182), dE P "is_symbol_name" 415 (.ref 189), dE P "is_plain_name" 422 (.ref 196), dE P "COMMA_PRIORITY" 426 (.int 1000 425), dE P "PREFIX_TYPES" 429 (.ref 197), dE P "INFIX_TYPES" 433 (.ref 198), dE P "POSTFIX_TYPES" 436 (.ref 199), dE P "standard_rows" 442 (.ref 206), dE P "fixity" 449 (.ref 213), dE P "bounds" 458 (.ref 220)] 38), #[]⟩
noncomputable def o12_3 : Obj := ⟨.none, none, (.fields #[(.int 1 0), (.int 0 0), (.ref 20), (.int 13 0), (.int 0 0), (.ref 27), (.int 15 0), (.int 0 0), (.ref 34), (.int 17 0), (.int 0 0), (.ref 41), (.int 72 0), (.int 0 0), (.ref 132), (.int 79 0), (.int 0 0), (.ref 139), (.int 81 0), (.int 0 0), (.ref 146), (.int 83 0), (.int 0 0), (.ref 153), (.int 85 0), (.int 0 0), (.ref 160), (.int 87 0), (.int 0 0), (.ref 167), (.int 89 0), (.int 0 0), (.ref 174), (.int 99 0), (.int 0 0), (.ref 181), (.int 106 0), (.int 0 0), (.ref 188), (.int 113 0), (.int 0 0), (.ref 195), (.int 124 0), (.int 0 0), (.ref 205), (.int 126 0), (.int 0 0), (.ref 212), (.int 134 0), (.int 0 0), (.ref 219)]), #[]⟩
noncomputable def o136_3 : Obj := tU #[(.str "code" 358)]
noncomputable def o138_3 : Obj := fA (stAt 16) "is_digit"
noncomputable def o139_3 : Obj := cO "is_digit" "is_digit" 355 79 1 0 0 3 134 135 (.ref 136) (.ref 137) (.ref 138) 359 360 true
noncomputable def o140_3 : Obj := fB (stAt 16) "is_digit" .none "clausemill.chars" 353 139
noncomputable def o143_3 : Obj := tU #[(.str "code" 365)]
noncomputable def o145_3 : Obj := fA (stAt 17) "is_small"
noncomputable def o146_3 : Obj := cO "is_small" "is_small" 362 81 1 0 0 3 141 142 (.ref 143) (.ref 144) (.ref 145) 366 367 true
noncomputable def o147_3 : Obj := fB (stAt 17) "is_small" .none "clausemill.chars" 353 146
noncomputable def o150_3 : Obj := tU #[(.str "code" 372)]
noncomputable def o152_3 : Obj := fA (stAt 18) "is_capital"
noncomputable def o153_3 : Obj := cO "is_capital" "is_capital" 369 83 1 0 0 3 148 149 (.ref 150) (.ref 151) (.ref 152) 373 374 true
noncomputable def o154_3 : Obj := fB (stAt 18) "is_capital" .none "clausemill.chars" 353 153
noncomputable def o157_3 : Obj := tU #[(.str "code" 379)]
noncomputable def o159_3 : Obj := fA (stAt 19) "is_alnum"
noncomputable def o160_3 : Obj := cO "is_alnum" "is_alnum" 376 85 1 0 0 3 155 156 (.ref 157) (.ref 158) (.ref 159) 380 381 true
noncomputable def o161_3 : Obj := fB (stAt 19) "is_alnum" .none "clausemill.chars" 353 160
noncomputable def o164_3 : Obj := tU #[(.str "code" 386)]
noncomputable def o166_3 : Obj := fA (stAt 20) "is_symbol"
noncomputable def o167_3 : Obj := cO "is_symbol" "is_symbol" 383 87 1 0 0 3 162 163 (.ref 164) (.ref 165) (.ref 166) 387 388 true
noncomputable def o168_3 : Obj := fB (stAt 20) "is_symbol" .none "clausemill.chars" 353 167
noncomputable def o171_3 : Obj := tU #[(.str "value" 393), (.str "rest" 394), (.str "pieces" 395), (.str "piece" 396)]
noncomputable def o173_3 : Obj := fA (stAt 21) "number_text"
noncomputable def o174_3 : Obj := cO "number_text" "number_text" 390 89 1 0 0 3 169 170 (.ref 171) (.ref 172) (.ref 173) 397 398 true
noncomputable def o175_3 : Obj := fB (stAt 21) "number_text" .none "clausemill.chars" 353 174
noncomputable def o178_3 : Obj := tU #[(.str "text" 403), (.str "char" 404)]
noncomputable def o180_3 : Obj := fA (stAt 22) "is_alnum_name"
noncomputable def o181_3 : Obj := cO "is_alnum_name" "is_alnum_name" 400 99 1 0 0 3 176 177 (.ref 178) (.ref 179) (.ref 180) 405 406 true
noncomputable def o182_3 : Obj := fB (stAt 22) "is_alnum_name" .none "clausemill.chars" 353 181
noncomputable def o185_3 : Obj := tU #[(.str "text" 411), (.str "char" 412)]
noncomputable def o187_3 : Obj := fA (stAt 23) "is_symbol_name"
noncomputable def o188_3 : Obj := cO "is_symbol_name" "is_symbol_name" 408 106 1 0 0 3 183 184 (.ref 185) (.ref 186) (.ref 187) 413 414 true
noncomputable def o189_3 : Obj := fB (stAt 23) "is_symbol_name" .none "clausemill.chars" 353 188
noncomputable def o192_3 : Obj := tU #[(.str "text" 419)]
noncomputable def o194_3 : Obj := fA (stAt 24) "is_plain_name"
noncomputable def o195_3 : Obj := cO "is_plain_name" "is_plain_name" 416 113 1 0 0 3 190 191 (.ref 192) (.ref 193) (.ref 194) 420 421 true
noncomputable def o196_3 : Obj := fB (stAt 24) "is_plain_name" .none "clausemill.chars" 353 195
noncomputable def o197_3 : Obj := tU #[(.str "fx" 427), (.str "fy" 428)]
noncomputable def o198_3 : Obj := tU #[(.str "xfx" 430), (.str "xfy" 431), (.str "yfx" 432)]
noncomputable def o199_3 : Obj := tU #[(.str "xf" 434), (.str "yf" 435)]
noncomputable def o204_3 : Obj := fA (stAt 30) "standard_rows"
noncomputable def o205_3 : Obj := cO "standard_rows" "standard_rows" 437 124 0 0 0 3 200 201 (.ref 202) (.ref 203) (.ref 204) 440 441 true
noncomputable def o206_3 : Obj := fB (stAt 30) "standard_rows" .none "clausemill.operators" 423 205
noncomputable def o209_3 : Obj := tU #[(.str "type_text" 446)]
noncomputable def o211_3 : Obj := fA (stAt 31) "fixity"
noncomputable def o212_3 : Obj := cO "fixity" "fixity" 443 126 1 0 0 3 207 208 (.ref 209) (.ref 210) (.ref 211) 447 448 true
noncomputable def o213_3 : Obj := fB (stAt 31) "fixity" .none "clausemill.operators" 423 212
noncomputable def o216_3 : Obj := tU #[(.str "priority" 453), (.str "type_text" 454), (.str "lower" 455)]
noncomputable def o218_3 : Obj := fA (stAt 32) "bounds"
noncomputable def o219_3 : Obj := cO "bounds" "bounds" 450 134 2 0 0 3 214 215 (.ref 216) (.ref 217) (.ref 218) 456 457 true
noncomputable def o220_3 : Obj := fB (stAt 32) "bounds" .none "clausemill.operators" 423 219
noncomputable def t_3 (P : Params) : BT := (.node (boot_o_0 P) (.node (boot_o_1 P) (.node (o3_3 P) (.node (boot_o_7 P) (.node eT (.node eT (.node o63_2 (lF eT) (lF eF)) (.node eT (lF o159_3) .nil)) (.node o47_2 (.node eF (lF o143_3) (lF eT)) (.node o111_2 (lF o175_3) .nil))) (.node eF (.node eT (.node eT (lF eF) (lF o199_3)) (.node o103_2 (lF o167_3) .nil)) (.node o55_2 (.node o87_2 (lF eT) (lF eF)) (.node o119_2 (lF eT) .nil)))) (.node eT (.node o19_1 (.node o35_1 (.node eT (lF o131_2) (lF o195_3)) (.node eT (lF eF) .nil)) (.node eF (.node o83_2 (lF o147_3) (lF o211_3)) (.node o115_2 (lF eT) .nil))) (.node o27_1 (.node eT (.node o75_2 (lF o139_3) (lF eT)) (.node eF (lF o171_3) .nil)) (.node o59_2 (.node o91_2 (lF eT) (lF o219_3)) (.node o123_2 (lF o187_3) .nil))))) (.node (boot_o_5 P) (.node (boot_o_9 P) (.node o17_1 (.node o33_1 (.node eF (lF o129_2) (lF eT)) (.node o97_2 (lF o161_3) .nil)) (.node o49_2 (.node eT (lF o145_3) (lF o209_3)) (.node eT (lF eF) .nil))) (.node eT (.node o41_2 (.node o73_2 (lF eT) (lF eF)) (.node o105_2 (lF eT) .nil)) (.node eT (.node o89_2 (lF o153_3) (lF eT)) (.node (o121_2 P) (lF o185_3) .nil)))) (.node o13_a (.node o21_1 (.node o37_2 (.node o69_2 (lF o133_2) (lF o197_3)) (.node o101_2 (lF eT) .nil)) (.node eT (.node eT (lF eF) (lF o213_3)) (.node o117_2 (lF o181_3) .nil))) (.node eT (.node o45_2 (.node o77_2 (lF eT) (lF o205_3)) (.node eT (lF o173_3) .nil)) (.node o61_2 (.node eF (lF o157_3) .nil) (.node o125_2 (lF o189_3) .nil)))))) (.node (boot_o_2 P) (.node (boot_o_4 P) (.node (boot_o_8 P) (.node eF (.node eT (.node eT (lF eF) (lF o192_3)) (.node o96_2 (lF o160_3) .nil)) (.node o48_2 (.node o80_2 (lF eT) (lF eF)) (.node o112_2 (lF eT) .nil))) (.node eT (.node o40_2 (.node eF (lF o136_3) (lF eT)) (.node o104_2 (lF o168_3) .nil)) (.node o56_2 (.node eT (lF o152_3) (lF o216_3)) (.node o120_2 (lF eF) .nil)))) (.node o12_3 (.node o20_1 (.node eT (.node o68_2 (lF o132_2) (lF o196_3)) (.node eF (lF o164_3) .nil)) (.node o52_2 (.node o84_2 (lF eT) (lF o212_3)) (.node eT (lF o180_3) .nil))) (.node o28_1 (.node eF (.node o76_2 (lF o140_3) (lF o204_3)) (.node o108_2 (lF eT) .nil)) (.node eT (.node eT (lF eF) (lF o220_3)) (.node o124_2 (lF o188_3) .nil))))) (.node (boot_o_6 P) (.node (boot_o_10 P) (.node eT (.node o34_1 (.node o66_2 (lF eT) (lF o194_3)) (.node o98_2 (lF eT) .nil)) (.node eT (.node o82_2 (lF o146_3) (lF eT)) (.node eF (lF o178_3) .nil))) (.node o26_1 (.node o42_2 (.node eT (lF o138_3) (lF eT)) (.node eT (lF eF) .nil)) (.node eF (.node o90_2 (lF o154_3) (lF o218_3)) (.node o122_2 (lF eT) .nil)))) (.node o14_a (.node eT (.node (o38_2 P) (.node o70_2 (lF eT) (lF o198_3)) (.node eT (lF o166_3) .nil)) (.node o54_2 (.node eF (lF o150_3) (lF eT)) (.node o118_2 (lF o182_3) .nil))) (.node eF (.node eT (.node eT (lF eF) (lF o206_3)) (.node o110_2 (lF o174_3) .nil)) (.node o62_2 (.node o94_2 (lF eT) .nil) (.node o126_2 (lF eT) .nil)))))))
noncomputable def o3_4 (P : Params) : Obj := ⟨(.type "dict"), none, (.dict #[dE P "__name__" 165 (.str "clausemill.writer" 559), dE P "__doc__" 166 .none, dE P "__package__" 167 .none, dE P "__loader__" 168 (.builtin "__main__.__loader__#opaque"), dE P "__spec__" 169 .none, dE P "__annotations__" 170 (.ref 6), dE P "__builtins__" 171 (.ref 4), dE P "__file__" 173 (.str "/claim/cut.py" 172), dE P "__cached__" 174 .none, dE P "_wall" 193 (.ref 21), dE P "A_NIL" 197 (.int 0 196), dE P "A_MINUS" 199 (.int 3 198), dE P "A_COMMA" 201 (.int 7 200), dE P "A_BAR" 203 (.int 8 202), dE P "F_DOT" 205 (.int 0 204), dE P "F_COMMA" 207 (.int 1 206), dE P "F_CURLY" 209 (.int 9 208), dE P "F_VARNAME" 211 (.int 17 210), dE P "fixed_atoms" 217 (.ref 28), dE P "fixed_functors" 223 (.ref 35), dE P "Symbols" 342 (.ref 122), dE P "list_items" 352 (.ref 133), dE P "is_digit" 361 (.ref 140), dE P "is_small" 368 (.ref 147), dE P "is_capital" 375 (.ref 154), dE P "is_alnum" 382 (.ref 161), dE P "is_symbol" 389 (.ref 168), dE P "number_text" 399 (.ref 175), dE P "is_alnum_name" 407 (.ref 182), dE P "is_symbol_name" 415 (.ref 189), dE P "is_plain_name" 422 (.ref 196), dE P "COMMA_PRIORITY" 426 (.int 1000 425), dE P "PREFIX_TYPES" 429 (.ref 197), dE P "INFIX_TYPES" 433 (.ref 198), dE P "POSTFIX_TYPES" 436 (.ref 199), dE P "standard_rows" 442 (.ref 206), dE P "fixity" 449 (.ref 213), dE P "bounds" 458 (.ref 220), dE P "OperatorTable" 558 (.ref 287), dE P "WHOLE_PRIORITY" 562 (.int 1201 561), dE P "ARGUMENT_PRIORITY" 564 (.int 999 563), dE P "escaped" 572 (.ref 298), dE P "quoted_text" 581 (.ref 305), dE P "atom_text" 591 (.ref 313), dE P "numbered_text" 599 (.ref 320)] 45), #[]⟩
noncomputable def o12_4 : Obj := ⟨.none, none, (.fields #[(.int 1 0), (.int 0 0), (.ref 20), (.int 13 0), (.int 0 0), (.ref 27), (.int 15 0), (.int 0 0), (.ref 34), (.int 17 0), (.int 0 0), (.ref 41), (.int 72 0), (.int 0 0), (.ref 132), (.int 79 0), (.int 0 0), (.ref 139), (.int 81 0), (.int 0 0), (.ref 146), (.int 83 0), (.int 0 0), (.ref 153), (.int 85 0), (.int 0 0), (.ref 160), (.int 87 0), (.int 0 0), (.ref 167), (.int 89 0), (.int 0 0), (.ref 174), (.int 99 0), (.int 0 0), (.ref 181), (.int 106 0), (.int 0 0), (.ref 188), (.int 113 0), (.int 0 0), (.ref 195), (.int 124 0), (.int 0 0), (.ref 205), (.int 126 0), (.int 0 0), (.ref 212), (.int 134 0), (.int 0 0), (.ref 219), (.int 149 0), (.int 0 0), (.ref 226), (.int 198 0), (.int 0 0), (.ref 297), (.int 207 0), (.int 0 0), (.ref 304), (.int 213 0), (.int 0 0), (.ref 312), (.int 218 0), (.int 0 0), (.ref 319)]), #[]⟩
noncomputable def o222_4 : Obj := ⟨(.type "builtin_function_or_method"), none, (.fields #[(.builtin "type.__prepare__"), (.type "type")]), #[]⟩
noncomputable def o223_4 (P : Params) : Obj := ⟨(.type "dict"), none, (.dict #[dE P "__module__" 466 (.str "clausemill.operators" 423), dE P "__qualname__" 468 (.str "OperatorTable" 467), dE P "__firstlineno__" 470 (.int 149 469), dE P "__init__" 483 (.ref 235), dE P "prefix" 491 (.ref 242), dE P "infix" 499 (.ref 249), dE P "postfix" 507 (.ref 256), dE P "is_operator" 515 (.ref 263), dE P "table_of" 524 (.ref 270), dE P "add" 535 (.ref 277), dE P "rows" 546 (.ref 284), dE P "__static_attributes__" 551 (.ref 285)] 12), #[]⟩
noncomputable def o225_4 : Obj := ⟨.none, none, (.fields #[(.int 151 0), (.int 4 0), (.ref 234), (.int 162 0), (.int 4 0), (.ref 241), (.int 165 0), (.int 4 0), (.ref 248), (.int 168 0), (.int 4 0), (.ref 255), (.int 171 0), (.int 4 0), (.ref 262), (.int 174 0), (.int 4 0), (.ref 269), (.int 182 0), (.int 4 0), (.ref 276), (.int 189 0), (.int 4 0), (.ref 283)]), #[]⟩
noncomputable def o226_4 : Obj := cO "OperatorTable" "OperatorTable" 461 149 0 0 0 0 224 225 .none .none .none 464 465 false
noncomputable def o227_4 : Obj := ⟨(.type "frame"), none, .plain, #[(some (.ref 226)), (some (.ref 3)), (some (.ref 223)), none, (some (.str "clausemill.operators" 423)), none, (some (.ref 0))]⟩
noncomputable def o228_4 : Obj := tU #[(.bool true)]
noncomputable def o231_4 : Obj := tU #[(.str "self" 474), (.str "symbols" 475), (.str "standard" 476), (.str "priority" 477), (.str "type_text" 478), (.str "names" 479), (.str "name" 480)]
noncomputable def o233_4 : Obj := fA (meAt 33 0) "OperatorTable.__init__"
noncomputable def o234_4 : Obj := cO "__init__" "OperatorTable.__init__" 471 151 3 0 0 3 229 230 (.ref 231) (.ref 232) (.ref 233) 481 482 true
noncomputable def o235_4 : Obj := fB (meAt 33 0) "OperatorTable.__init__" (.ref 228) "clausemill.operators" 423 234
noncomputable def o238_4 : Obj := tU #[(.str "self" 487), (.str "a" 488)]
noncomputable def o240_4 : Obj := fA (meAt 33 1) "OperatorTable.prefix"
noncomputable def o241_4 : Obj := cO "prefix" "OperatorTable.prefix" 484 162 2 0 0 3 236 237 (.ref 238) (.ref 239) (.ref 240) 489 490 true
noncomputable def o242_4 : Obj := fB (meAt 33 1) "OperatorTable.prefix" .none "clausemill.operators" 423 241
noncomputable def o245_4 : Obj := tU #[(.str "self" 495), (.str "a" 496)]
noncomputable def o247_4 : Obj := fA (meAt 33 2) "OperatorTable.infix"
noncomputable def o248_4 : Obj := cO "infix" "OperatorTable.infix" 492 165 2 0 0 3 243 244 (.ref 245) (.ref 246) (.ref 247) 497 498 true
noncomputable def o249_4 : Obj := fB (meAt 33 2) "OperatorTable.infix" .none "clausemill.operators" 423 248
noncomputable def o252_4 : Obj := tU #[(.str "self" 503), (.str "a" 504)]
noncomputable def o254_4 : Obj := fA (meAt 33 3) "OperatorTable.postfix"
noncomputable def o255_4 : Obj := cO "postfix" "OperatorTable.postfix" 500 168 2 0 0 3 250 251 (.ref 252) (.ref 253) (.ref 254) 505 506 true
noncomputable def o256_4 : Obj := fB (meAt 33 3) "OperatorTable.postfix" .none "clausemill.operators" 423 255
noncomputable def o259_4 : Obj := tU #[(.str "self" 511), (.str "a" 512)]
noncomputable def o261_4 : Obj := fA (meAt 33 4) "OperatorTable.is_operator"
noncomputable def o262_4 : Obj := cO "is_operator" "OperatorTable.is_operator" 508 171 2 0 0 3 257 258 (.ref 259) (.ref 260) (.ref 261) 513 514 true
noncomputable def o263_4 : Obj := fB (meAt 33 4) "OperatorTable.is_operator" .none "clausemill.operators" 423 262
noncomputable def o266_4 : Obj := tU #[(.str "self" 519), (.str "type_text" 520), (.str "kind" 521)]
noncomputable def o268_4 : Obj := fA (meAt 33 5) "OperatorTable.table_of"
noncomputable def o269_4 : Obj := cO "table_of" "OperatorTable.table_of" 516 174 2 0 0 3 264 265 (.ref 266) (.ref 267) (.ref 268) 522 523 true
noncomputable def o270_4 : Obj := fB (meAt 33 5) "OperatorTable.table_of" .none "clausemill.operators" 423 269
noncomputable def o273_4 : Obj := tU #[(.str "self" 528), (.str "priority" 529), (.str "type_text" 530), (.str "a" 531), (.str "table" 532)]
noncomputable def o275_4 : Obj := fA (meAt 33 6) "OperatorTable.add"
noncomputable def o276_4 : Obj := cO "add" "OperatorTable.add" 525 182 4 0 0 3 271 272 (.ref 273) (.ref 274) (.ref 275) 533 534 true
noncomputable def o277_4 : Obj := fB (meAt 33 6) "OperatorTable.add" .none "clausemill.operators" 423 276
noncomputable def o280_4 : Obj := tU #[(.str "self" 539), (.str "found" 540), (.str "table" 541), (.str "a" 542), (.str "entry" 543)]
noncomputable def o282_4 : Obj := fA (meAt 33 7) "OperatorTable.rows"
noncomputable def o283_4 : Obj := cO "rows" "OperatorTable.rows" 536 189 1 0 0 3 278 279 (.ref 280) (.ref 281) (.ref 282) 544 545 true
noncomputable def o284_4 : Obj := fB (meAt 33 7) "OperatorTable.rows" .none "clausemill.operators" 423 283
noncomputable def o285_4 : Obj := tU #[(.str "infixes" 547), (.str "postfixes" 548), (.str "prefixes" 549), (.str "symbols" 550)]
noncomputable def o286_4 (P : Params) : Obj := ⟨(.type "dict"), none, (.dict #[dE P "__module__" 466 (.str "clausemill.operators" 423), dE P "__firstlineno__" 470 (.int 149 469), dE P "__init__" 483 (.ref 235), dE P "prefix" 491 (.ref 242), dE P "infix" 499 (.ref 249), dE P "postfix" 507 (.ref 256), dE P "is_operator" 515 (.ref 263), dE P "table_of" 524 (.ref 270), dE P "add" 535 (.ref 277), dE P "rows" 546 (.ref 284), dE P "__static_attributes__" 551 (.ref 285), dE P "__dict__" 553 (.ref 288), dE P "__weakref__" 555 (.ref 289), dE P "__doc__" 556 .none] 4), #[]⟩
noncomputable def o287_4 : Obj := ⟨(.type "type"), none, (.cls { name := "OperatorTable", bases := [(.type "object")], mro := [(.ref 287), (.type "object")], ns := 286, qualname := "OperatorTable", hasDict := true, slotNames := [], subclasses := [], abstract := false, collection := none, hasDel := false }), #[none, none, (some (.str "OperatorTable" 459)), (some (.str "OperatorTable" 467)), (some (.builtin "object.__new__")), (some (.bool true))]⟩
noncomputable def o288_4 : Obj := ⟨(.type "getset_descriptor"), none, (.fields #[(.str "__dict__" 552), (.ref 287), (.builtin "function.__dict__"), (.builtin "function.__dict__#set")]), #[]⟩
noncomputable def o289_4 : Obj := ⟨(.type "getset_descriptor"), none, (.fields #[(.str "__weakref__" 554), (.ref 287), (.builtin "ExceptionGroup.__weakref__"), .none]), #[]⟩
noncomputable def o290_4 : Obj := ⟨(.type "super"), none, (.fields #[(.ref 287), (.ref 287), (.ref 287)]), #[]⟩
noncomputable def o291_4 : Obj := ⟨(.type "builtin_function_or_method"), none, (.fields #[(.builtin "object.__init_subclass__"), (.ref 287)]), #[]⟩
noncomputable def o294_4 : Obj := tU #[(.str "code" 568), (.str "digits" 569)]
noncomputable def o296_4 : Obj := fA (stAt 37) "escaped"
noncomputable def o297_4 : Obj := cO "escaped" "escaped" 565 198 1 0 0 3 292 293 (.ref 294) (.ref 295) (.ref 296) 570 571 true
noncomputable def o298_4 : Obj := fB (stAt 37) "escaped" .none "clausemill.writer" 559 297
noncomputable def o301_4 : Obj := tU #[(.str "text" 576), (.str "parts" 577), (.str "char" 578)]
noncomputable def o303_4 : Obj := fA (stAt 38) "quoted_text"
noncomputable def o304_4 : Obj := cO "quoted_text" "quoted_text" 573 207 1 0 0 3 299 300 (.ref 301) (.ref 302) (.ref 303) 579 580 true
noncomputable def o305_4 : Obj := fB (stAt 38) "quoted_text" .none "clausemill.writer" 559 304
noncomputable def o306_4 : Obj := tU #[(.bool true)]
noncomputable def o309_4 : Obj := tU #[(.str "symbols" 585), (.str "a" 586), (.str "quoted" 587), (.str "text" 588)]
noncomputable def o311_4 : Obj := fA (stAt 39) "atom_text"
noncomputable def o312_4 : Obj := cO "atom_text" "atom_text" 582 213 3 0 0 3 307 308 (.ref 309) (.ref 310) (.ref 311) 589 590 true
noncomputable def o313_4 : Obj := fB (stAt 39) "atom_text" (.ref 306) "clausemill.writer" 559 312
noncomputable def o316_4 : Obj := tU #[(.str "number" 595), (.str "letter" 596)]
noncomputable def o318_4 : Obj := fA (stAt 40) "numbered_text"
noncomputable def o319_4 : Obj := cO "numbered_text" "numbered_text" 592 218 1 0 0 3 314 315 (.ref 316) (.ref 317) (.ref 318) 597 598 true
noncomputable def o320_4 : Obj := fB (stAt 40) "numbered_text" .none "clausemill.writer" 559 319
noncomputable def t_4 (P : Params) : BT := (.node (boot_o_0 P) (.node (boot_o_1 P) (.node (o3_4 P) (.node (boot_o_7 P) (.node eT (.node eT (.node o63_2 (.node eT (lF o255_4) .nil) (.node eF (lF o319_4) .nil)) (.node eT (.node o159_3 (lF o287_4) .nil) (lF (o223_4 P)))) (.node o47_2 (.node eF (.node o143_3 (lF eT) .nil) (lF eT)) (.node o111_2 (.node o175_3 (lF o303_4) .nil) (lF eT)))) (.node eF (.node eT (.node eT (.node eF (lF o263_4) .nil) (lF o199_3)) (.node o103_2 (.node o167_3 (lF eT) .nil) (lF o231_4))) (.node o55_2 (.node o87_2 (.node eT (lF eF) .nil) (lF eF)) (.node o119_2 (.node eT (lF o311_4) .nil) (lF o247_4))))) (.node eT (.node o19_1 (.node o35_1 (.node eT (.node o131_2 (lF o259_4) .nil) (lF o195_3)) (.node eT (.node eF (lF o291_4) .nil) (lF o227_4))) (.node eF (.node o83_2 (.node o147_3 (lF o275_4) .nil) (lF o211_3)) (.node o115_2 (.node eT (lF eT) .nil) (lF eT)))) (.node o27_1 (.node eT (.node o75_2 (.node o139_3 (lF eT) .nil) (lF eT)) (.node eF (.node o171_3 (lF eT) .nil) (lF o235_4))) (.node o59_2 (.node o91_2 (.node eT (lF o283_4) .nil) (lF o219_3)) (.node o123_2 (.node o187_3 (lF eF) .nil) (lF eF)))))) (.node (boot_o_5 P) (.node (boot_o_9 P) (.node o17_1 (.node o33_1 (.node eF (.node o129_2 (lF eT) .nil) (lF eT)) (.node o97_2 (.node o161_3 (lF o289_4) .nil) (lF o225_4))) (.node o49_2 (.node eT (.node o145_3 (lF o273_4) .nil) (lF o209_3)) (.node eT (.node eF (lF o305_4) .nil) (lF o241_4)))) (.node eT (.node o41_2 (.node o73_2 (.node eT (lF eF) .nil) (lF eF)) (.node o105_2 (.node eT (lF o297_4) .nil) (lF o233_4))) (.node eT (.node o89_2 (.node o153_3 (lF eT) .nil) (lF eT)) (.node (o121_2 P) (.node o185_3 (lF o313_4) .nil) (lF o249_4))))) (.node o13_a (.node o21_1 (.node o37_2 (.node o69_2 (.node o133_2 (lF o261_4) .nil) (lF o197_3)) (.node o101_2 (.node eT (lF eF) .nil) (lF eT))) (.node eT (.node eT (.node eF (lF o277_4) .nil) (lF o213_3)) (.node o117_2 (.node o181_3 (lF o309_4) .nil) (lF o245_4)))) (.node eT (.node o45_2 (.node o77_2 (.node eT (lF o269_4) .nil) (lF o205_3)) (.node eT (.node o173_3 (lF o301_4) .nil) (lF eF))) (.node o61_2 (.node eF (.node o157_3 (lF o285_4) .nil) (lF eT)) (.node o125_2 (.node o189_3 (lF eT) .nil) (lF eT))))))) (.node (boot_o_2 P) (.node (boot_o_4 P) (.node (boot_o_8 P) (.node eF (.node eT (.node eT (.node eF (lF o256_4) .nil) (.node o192_3 (lF o320_4) .nil)) (.node o96_2 (.node o160_3 (lF o288_4) .nil) (lF eT))) (.node o48_2 (.node o80_2 (.node eT (lF eF) .nil) (lF eF)) (.node o112_2 (.node eT (lF o304_4) .nil) (lF o240_4)))) (.node eT (.node o40_2 (.node eF (.node o136_3 (lF eT) .nil) (lF eT)) (.node o104_2 (.node o168_3 (lF o296_4) .nil) (lF eT))) (.node o56_2 (.node eT (.node o152_3 (lF o280_4) .nil) (lF o216_3)) (.node o120_2 (.node eF (lF o312_4) .nil) (lF o248_4))))) (.node o12_4 (.node o20_1 (.node eT (.node o68_2 (.node o132_2 (lF eT) .nil) (lF o196_3)) (.node eF (.node o164_3 (lF eT) .nil) (lF o228_4))) (.node o52_2 (.node o84_2 (.node eT (lF o276_4) .nil) (lF o212_3)) (.node eT (.node o180_3 (lF eF) .nil) (lF eF)))) (.node o28_1 (.node eF (.node o76_2 (.node o140_3 (lF o268_4) .nil) (lF o204_3)) (.node o108_2 (.node eT (lF eF) .nil) (lF eT))) (.node eT (.node eT (.node eF (lF o284_4) .nil) (lF o220_3)) (.node o124_2 (.node o188_3 (lF o316_4) .nil) (lF o252_4)))))) (.node (boot_o_6 P) (.node (boot_o_10 P) (.node eT (.node o34_1 (.node o66_2 (.node eT (lF eF) .nil) (lF o194_3)) (.node o98_2 (.node eT (lF o290_4) .nil) (lF o226_4))) (.node eT (.node o82_2 (.node o146_3 (lF eT) .nil) (lF eT)) (.node eF (.node o178_3 (lF o306_4) .nil) (lF o242_4)))) (.node o26_1 (.node o42_2 (.node eT (.node o138_3 (lF o266_4) .nil) (lF eT)) (.node eT (.node eF (lF o298_4) .nil) (lF o234_4))) (.node eF (.node o90_2 (.node o154_3 (lF o282_4) .nil) (lF o218_3)) (.node o122_2 (.node eT (lF eT) .nil) (lF eT))))) (.node o14_a (.node eT (.node (o38_2 P) (.node o70_2 (.node eT (lF o262_4) .nil) (lF o198_3)) (.node eT (.node o166_3 (lF o294_4) .nil) (lF eF))) (.node o54_2 (.node eF (.node o150_3 (lF eT) .nil) (lF eT)) (.node o118_2 (.node o182_3 (lF eT) .nil) (lF eT)))) (.node eF (.node eT (.node eT (.node eF (lF o270_4) .nil) (lF o206_3)) (.node o110_2 (.node o174_3 (lF eT) .nil) (lF o238_4))) (.node o62_2 (.node o94_2 (.node eT (lF (o286_4 P)) .nil) (lF o222_4)) (.node o126_2 (.node eT (lF o318_4) .nil) (lF o254_4))))))))
noncomputable def o3_5 (P : Params) : Obj := ⟨(.type "dict"), none, (.dict #[dE P "__name__" 165 (.str "clausemill.writer" 559), dE P "__doc__" 166 .none, dE P "__package__" 167 .none, dE P "__loader__" 168 (.builtin "__main__.__loader__#opaque"), dE P "__spec__" 169 .none, dE P "__annotations__" 170 (.ref 6), dE P "__builtins__" 171 (.ref 4), dE P "__file__" 173 (.str "/claim/cut.py" 172), dE P "__cached__" 174 .none, dE P "_wall" 193 (.ref 21), dE P "A_NIL" 197 (.int 0 196), dE P "A_MINUS" 199 (.int 3 198), dE P "A_COMMA" 201 (.int 7 200), dE P "A_BAR" 203 (.int 8 202), dE P "F_DOT" 205 (.int 0 204), dE P "F_COMMA" 207 (.int 1 206), dE P "F_CURLY" 209 (.int 9 208), dE P "F_VARNAME" 211 (.int 17 210), dE P "fixed_atoms" 217 (.ref 28), dE P "fixed_functors" 223 (.ref 35), dE P "Symbols" 342 (.ref 122), dE P "list_items" 352 (.ref 133), dE P "is_digit" 361 (.ref 140), dE P "is_small" 368 (.ref 147), dE P "is_capital" 375 (.ref 154), dE P "is_alnum" 382 (.ref 161), dE P "is_symbol" 389 (.ref 168), dE P "number_text" 399 (.ref 175), dE P "is_alnum_name" 407 (.ref 182), dE P "is_symbol_name" 415 (.ref 189), dE P "is_plain_name" 422 (.ref 196), dE P "COMMA_PRIORITY" 426 (.int 1000 425), dE P "PREFIX_TYPES" 429 (.ref 197), dE P "INFIX_TYPES" 433 (.ref 198), dE P "POSTFIX_TYPES" 436 (.ref 199), dE P "standard_rows" 442 (.ref 206), dE P "fixity" 449 (.ref 213), dE P "bounds" 458 (.ref 220), dE P "OperatorTable" 558 (.ref 287), dE P "WHOLE_PRIORITY" 562 (.int 1201 561), dE P "ARGUMENT_PRIORITY" 564 (.int 999 563), dE P "escaped" 572 (.ref 298), dE P "quoted_text" 581 (.ref 305), dE P "atom_text" 591 (.ref 313), dE P "numbered_text" 599 (.ref 320), dE P "is_word" 607 (.ref 327), dE P "is_tight" 614 (.ref 334)] 47), #[]⟩
noncomputable def o12_5 : Obj := ⟨.none, none, (.fields #[(.int 1 0), (.int 0 0), (.ref 20), (.int 13 0), (.int 0 0), (.ref 27), (.int 15 0), (.int 0 0), (.ref 34), (.int 17 0), (.int 0 0), (.ref 41), (.int 72 0), (.int 0 0), (.ref 132), (.int 79 0), (.int 0 0), (.ref 139), (.int 81 0), (.int 0 0), (.ref 146), (.int 83 0), (.int 0 0), (.ref 153), (.int 85 0), (.int 0 0), (.ref 160), (.int 87 0), (.int 0 0), (.ref 167), (.int 89 0), (.int 0 0), (.ref 174), (.int 99 0), (.int 0 0), (.ref 181), (.int 106 0), (.int 0 0), (.ref 188), (.int 113 0), (.int 0 0), (.ref 195), (.int 124 0), (.int 0 0), (.ref 205), (.int 126 0), (.int 0 0), (.ref 212), (.int 134 0), (.int 0 0), (.ref 219), (.int 149 0), (.int 0 0), (.ref 226), (.int 198 0), (.int 0 0), (.ref 297), (.int 207 0), (.int 0 0), (.ref 304), (.int 213 0), (.int 0 0), (.ref 312), (.int 218 0), (.int 0 0), (.ref 319), (.int 223 0), (.int 0 0), (.ref 326), (.int 226 0), (.int 0 0), (.ref 333)]), #[]⟩
noncomputable def o323_5 : Obj := tU #[(.str "char" 603), (.str "code" 604)]
noncomputable def o325_5 : Obj := fA (stAt 41) "is_word"
noncomputable def o326_5 : Obj := cO "is_word" "is_word" 600 223 1 0 0 3 321 322 (.ref 323) (.ref 324) (.ref 325) 605 606 true
noncomputable def o327_5 : Obj := fB (stAt 41) "is_word" .none "clausemill.writer" 559 326
noncomputable def o330_5 : Obj := tU #[(.str "text" 611)]
noncomputable def o332_5 : Obj := fA (stAt 42) "is_tight"
noncomputable def o333_5 : Obj := cO "is_tight" "is_tight" 608 226 1 0 0 3 328 329 (.ref 330) (.ref 331) (.ref 332) 612 613 true
noncomputable def o334_5 : Obj := fB (stAt 42) "is_tight" .none "clausemill.writer" 559 333
noncomputable def t_5 (P : Params) : BT := (.node (boot_o_0 P) (.node (boot_o_1 P) (.node (o3_5 P) (.node (boot_o_7 P) (.node eT (.node eT (.node o63_2 (.node eT (lF o255_4) .nil) (.node eF (lF o319_4) .nil)) (.node eT (.node o159_3 (lF o287_4) .nil) (lF (o223_4 P)))) (.node o47_2 (.node eF (.node o143_3 (lF eT) .nil) (lF eT)) (.node o111_2 (.node o175_3 (lF o303_4) .nil) (lF eT)))) (.node eF (.node eT (.node eT (.node eF (lF o263_4) .nil) (.node o199_3 (lF o327_5) .nil)) (.node o103_2 (.node o167_3 (lF eT) .nil) (lF o231_4))) (.node o55_2 (.node o87_2 (.node eT (lF eF) .nil) (lF eF)) (.node o119_2 (.node eT (lF o311_4) .nil) (lF o247_4))))) (.node eT (.node o19_1 (.node o35_1 (.node eT (.node o131_2 (lF o259_4) .nil) (.node o195_3 (lF o323_5) .nil)) (.node eT (.node eF (lF o291_4) .nil) (lF o227_4))) (.node eF (.node o83_2 (.node o147_3 (lF o275_4) .nil) (lF o211_3)) (.node o115_2 (.node eT (lF eT) .nil) (lF eT)))) (.node o27_1 (.node eT (.node o75_2 (.node o139_3 (lF eT) .nil) (.node eT (lF eT) .nil)) (.node eF (.node o171_3 (lF eT) .nil) (lF o235_4))) (.node o59_2 (.node o91_2 (.node eT (lF o283_4) .nil) (lF o219_3)) (.node o123_2 (.node o187_3 (lF eF) .nil) (lF eF)))))) (.node (boot_o_5 P) (.node (boot_o_9 P) (.node o17_1 (.node o33_1 (.node eF (.node o129_2 (lF eT) .nil) (.node eT (lF eT) .nil)) (.node o97_2 (.node o161_3 (lF o289_4) .nil) (lF o225_4))) (.node o49_2 (.node eT (.node o145_3 (lF o273_4) .nil) (lF o209_3)) (.node eT (.node eF (lF o305_4) .nil) (lF o241_4)))) (.node eT (.node o41_2 (.node o73_2 (.node eT (lF eF) .nil) (.node eF (lF eF) .nil)) (.node o105_2 (.node eT (lF o297_4) .nil) (lF o233_4))) (.node eT (.node o89_2 (.node o153_3 (lF eT) .nil) (lF eT)) (.node (o121_2 P) (.node o185_3 (lF o313_4) .nil) (lF o249_4))))) (.node o13_a (.node o21_1 (.node o37_2 (.node o69_2 (.node o133_2 (lF o261_4) .nil) (.node o197_3 (lF o325_5) .nil)) (.node o101_2 (.node eT (lF eF) .nil) (lF eT))) (.node eT (.node eT (.node eF (lF o277_4) .nil) (lF o213_3)) (.node o117_2 (.node o181_3 (lF o309_4) .nil) (lF o245_4)))) (.node eT (.node o45_2 (.node o77_2 (.node eT (lF o269_4) .nil) (.node o205_3 (lF o333_5) .nil)) (.node eT (.node o173_3 (lF o301_4) .nil) (lF eF))) (.node o61_2 (.node eF (.node o157_3 (lF o285_4) .nil) (lF eT)) (.node o125_2 (.node o189_3 (lF eT) .nil) (lF eT))))))) (.node (boot_o_2 P) (.node (boot_o_4 P) (.node (boot_o_8 P) (.node eF (.node eT (.node eT (.node eF (lF o256_4) .nil) (.node o192_3 (lF o320_4) .nil)) (.node o96_2 (.node o160_3 (lF o288_4) .nil) (lF eT))) (.node o48_2 (.node o80_2 (.node eT (lF eF) .nil) (lF eF)) (.node o112_2 (.node eT (lF o304_4) .nil) (lF o240_4)))) (.node eT (.node o40_2 (.node eF (.node o136_3 (lF eT) .nil) (.node eT (lF eT) .nil)) (.node o104_2 (.node o168_3 (lF o296_4) .nil) (lF eT))) (.node o56_2 (.node eT (.node o152_3 (lF o280_4) .nil) (lF o216_3)) (.node o120_2 (.node eF (lF o312_4) .nil) (lF o248_4))))) (.node o12_5 (.node o20_1 (.node eT (.node o68_2 (.node o132_2 (lF eT) .nil) (.node o196_3 (lF eT) .nil)) (.node eF (.node o164_3 (lF eT) .nil) (lF o228_4))) (.node o52_2 (.node o84_2 (.node eT (lF o276_4) .nil) (lF o212_3)) (.node eT (.node o180_3 (lF eF) .nil) (lF eF)))) (.node o28_1 (.node eF (.node o76_2 (.node o140_3 (lF o268_4) .nil) (.node o204_3 (lF o332_5) .nil)) (.node o108_2 (.node eT (lF eF) .nil) (lF eT))) (.node eT (.node eT (.node eF (lF o284_4) .nil) (lF o220_3)) (.node o124_2 (.node o188_3 (lF o316_4) .nil) (lF o252_4)))))) (.node (boot_o_6 P) (.node (boot_o_10 P) (.node eT (.node o34_1 (.node o66_2 (.node eT (lF eF) .nil) (.node o194_3 (lF eF) .nil)) (.node o98_2 (.node eT (lF o290_4) .nil) (lF o226_4))) (.node eT (.node o82_2 (.node o146_3 (lF eT) .nil) (lF eT)) (.node eF (.node o178_3 (lF o306_4) .nil) (lF o242_4)))) (.node o26_1 (.node o42_2 (.node eT (.node o138_3 (lF o266_4) .nil) (.node eT (lF o330_5) .nil)) (.node eT (.node eF (lF o298_4) .nil) (lF o234_4))) (.node eF (.node o90_2 (.node o154_3 (lF o282_4) .nil) (lF o218_3)) (.node o122_2 (.node eT (lF eT) .nil) (lF eT))))) (.node o14_a (.node eT (.node (o38_2 P) (.node o70_2 (.node eT (lF o262_4) .nil) (.node o198_3 (lF o326_5) .nil)) (.node eT (.node o166_3 (lF o294_4) .nil) (lF eF))) (.node o54_2 (.node eF (.node o150_3 (lF eT) .nil) (lF eT)) (.node o118_2 (.node o182_3 (lF eT) .nil) (lF eT)))) (.node eF (.node eT (.node eT (.node eF (lF o270_4) .nil) (.node o206_3 (lF o334_5) .nil)) (.node o110_2 (.node o174_3 (lF eT) .nil) (lF o238_4))) (.node o62_2 (.node o94_2 (.node eT (lF (o286_4 P)) .nil) (lF o222_4)) (.node o126_2 (.node eT (lF o318_4) .nil) (lF o254_4))))))))
noncomputable def o3_6 (P : Params) : Obj := ⟨(.type "dict"), none, (.dict #[dE P "__name__" 165 (.str "clausemill.writer" 559), dE P "__doc__" 166 .none, dE P "__package__" 167 .none, dE P "__loader__" 168 (.builtin "__main__.__loader__#opaque"), dE P "__spec__" 169 .none, dE P "__annotations__" 170 (.ref 6), dE P "__builtins__" 171 (.ref 4), dE P "__file__" 173 (.str "/claim/cut.py" 172), dE P "__cached__" 174 .none, dE P "_wall" 193 (.ref 21), dE P "A_NIL" 197 (.int 0 196), dE P "A_MINUS" 199 (.int 3 198), dE P "A_COMMA" 201 (.int 7 200), dE P "A_BAR" 203 (.int 8 202), dE P "F_DOT" 205 (.int 0 204), dE P "F_COMMA" 207 (.int 1 206), dE P "F_CURLY" 209 (.int 9 208), dE P "F_VARNAME" 211 (.int 17 210), dE P "fixed_atoms" 217 (.ref 28), dE P "fixed_functors" 223 (.ref 35), dE P "Symbols" 342 (.ref 122), dE P "list_items" 352 (.ref 133), dE P "is_digit" 361 (.ref 140), dE P "is_small" 368 (.ref 147), dE P "is_capital" 375 (.ref 154), dE P "is_alnum" 382 (.ref 161), dE P "is_symbol" 389 (.ref 168), dE P "number_text" 399 (.ref 175), dE P "is_alnum_name" 407 (.ref 182), dE P "is_symbol_name" 415 (.ref 189), dE P "is_plain_name" 422 (.ref 196), dE P "COMMA_PRIORITY" 426 (.int 1000 425), dE P "PREFIX_TYPES" 429 (.ref 197), dE P "INFIX_TYPES" 433 (.ref 198), dE P "POSTFIX_TYPES" 436 (.ref 199), dE P "standard_rows" 442 (.ref 206), dE P "fixity" 449 (.ref 213), dE P "bounds" 458 (.ref 220), dE P "OperatorTable" 558 (.ref 287), dE P "WHOLE_PRIORITY" 562 (.int 1201 561), dE P "ARGUMENT_PRIORITY" 564 (.int 999 563), dE P "escaped" 572 (.ref 298), dE P "quoted_text" 581 (.ref 305), dE P "atom_text" 591 (.ref 313), dE P "numbered_text" 599 (.ref 320), dE P "is_word" 607 (.ref 327), dE P "is_tight" 614 (.ref 334), dE P "Writer" 834 (.ref 472)] 48), #[]⟩
noncomputable def o12_6 : Obj := ⟨.none, none, (.fields #[(.int 1 0), (.int 0 0), (.ref 20), (.int 13 0), (.int 0 0), (.ref 27), (.int 15 0), (.int 0 0), (.ref 34), (.int 17 0), (.int 0 0), (.ref 41), (.int 72 0), (.int 0 0), (.ref 132), (.int 79 0), (.int 0 0), (.ref 139), (.int 81 0), (.int 0 0), (.ref 146), (.int 83 0), (.int 0 0), (.ref 153), (.int 85 0), (.int 0 0), (.ref 160), (.int 87 0), (.int 0 0), (.ref 167), (.int 89 0), (.int 0 0), (.ref 174), (.int 99 0), (.int 0 0), (.ref 181), (.int 106 0), (.int 0 0), (.ref 188), (.int 113 0), (.int 0 0), (.ref 195), (.int 124 0), (.int 0 0), (.ref 205), (.int 126 0), (.int 0 0), (.ref 212), (.int 134 0), (.int 0 0), (.ref 219), (.int 149 0), (.int 0 0), (.ref 226), (.int 198 0), (.int 0 0), (.ref 297), (.int 207 0), (.int 0 0), (.ref 304), (.int 213 0), (.int 0 0), (.ref 312), (.int 218 0), (.int 0 0), (.ref 319), (.int 223 0), (.int 0 0), (.ref 326), (.int 226 0), (.int 0 0), (.ref 333), (.int 228 0), (.int 0 0), (.ref 340)]), #[]⟩
noncomputable def o336_6 : Obj := ⟨(.type "builtin_function_or_method"), none, (.fields #[(.builtin "type.__prepare__"), (.type "type")]), #[]⟩
noncomputable def o337_6 (P : Params) : Obj := ⟨(.type "dict"), none, (.dict #[dE P "__module__" 622 (.str "clausemill.writer" 559), dE P "__qualname__" 624 (.str "Writer" 623), dE P "__firstlineno__" 626 (.int 228 625), dE P "__init__" 641 (.ref 349), dE P "text" 654 (.ref 357), dE P "raw" 662 (.ref 364), dE P "token" 670 (.ref 371), dE P "needs_space" 678 (.ref 378), dE P "later" 687 (.ref 385), dE P "write" 699 (.ref 392), dE P "variable_text" 708 (.ref 399), dE P "is_numbered" 716 (.ref 406), dE P "write_atom" 726 (.ref 413), dE P "write_list" 738 (.ref 420), dE P "write_functional" 748 (.ref 427), dE P "shape" 759 (.ref 434), dE P "write_operation" 777 (.ref 441), dE P "left_limit" 788 (.ref 448), dE P "prefix_operator" 797 (.ref 455), dE P "infix_operator" 806 (.ref 462), dE P "postfix_operator" 815 (.ref 469), dE P "__static_attributes__" 827 (.ref 470)] 22), #[]⟩
noncomputable def o339_6 : Obj := ⟨.none, none, (.fields #[(.int 230 0), (.int 4 0), (.ref 348), (.int 247 0), (.int 4 0), (.ref 356), (.int 264 0), (.int 4 0), (.ref 363), (.int 270 0), (.int 4 0), (.ref 370), (.int 276 0), (.int 4 0), (.ref 377), (.int 287 0), (.int 4 0), (.ref 384), (.int 291 0), (.int 4 0), (.ref 391), (.int 313 0), (.int 4 0), (.ref 398), (.int 321 0), (.int 4 0), (.ref 405), (.int 326 0), (.int 4 0), (.ref 412), (.int 335 0), (.int 4 0), (.ref 419), (.int 349 0), (.int 4 0), (.ref 426), (.int 361 0), (.int 4 0), (.ref 433), (.int 383 0), (.int 4 0), (.ref 440), (.int 403 0), (.int 4 0), (.ref 447), (.int 409 0), (.int 4 0), (.ref 454), (.int 417 0), (.int 4 0), (.ref 461), (.int 430 0), (.int 4 0), (.ref 468)]), #[]⟩
noncomputable def o340_6 : Obj := cO "Writer" "Writer" 617 228 0 0 0 0 338 339 .none .none .none 620 621 false
noncomputable def o341_6 : Obj := ⟨(.type "frame"), none, .plain, #[(some (.ref 340)), (some (.ref 3)), (some (.ref 337)), none, (some (.str "clausemill.writer" 559)), none, (some (.ref 0))]⟩
noncomputable def o342_6 : Obj := tU #[(.bool true), (.bool false), (.bool false), .none]
noncomputable def o345_6 : Obj := tU #[(.str "self" 630), (.str "symbols" 631), (.str "operators" 632), (.str "quoted" 633), (.str "ignore_ops" 634), (.str "numbervars" 635), (.str "names" 636), (.str "k" 637), (.str "text" 638)]
noncomputable def o347_6 : Obj := fA (meAt 43 0) "Writer.__init__"
noncomputable def o348_6 : Obj := cO "__init__" "Writer.__init__" 627 230 7 0 0 3 343 344 (.ref 345) (.ref 346) (.ref 347) 639 640 true
noncomputable def o349_6 : Obj := fB (meAt 43 0) "Writer.__init__" (.ref 342) "clausemill.writer" 559 348
noncomputable def o350_6 : Obj := tU #[(.int 1201 561)]
noncomputable def o353_6 : Obj := tU #[(.str "self" 645), (.str "term" 646), (.str "most" 647), (.str "kind" 648), (.str "item" 649), (.str "limit" 650), (.str "alone" 651)]
noncomputable def o355_6 : Obj := fA (meAt 43 1) "Writer.text"
noncomputable def o356_6 : Obj := cO "text" "Writer.text" 642 247 3 0 0 3 351 352 (.ref 353) (.ref 354) (.ref 355) 652 653 true
noncomputable def o357_6 : Obj := fB (meAt 43 1) "Writer.text" (.ref 350) "clausemill.writer" 559 356
noncomputable def o360_6 : Obj := tU #[(.str "self" 658), (.str "text" 659)]
noncomputable def o362_6 : Obj := fA (meAt 43 2) "Writer.raw"
noncomputable def o363_6 : Obj := cO "raw" "Writer.raw" 655 264 2 0 0 3 358 359 (.ref 360) (.ref 361) (.ref 362) 660 661 true
noncomputable def o364_6 : Obj := fB (meAt 43 2) "Writer.raw" .none "clausemill.writer" 559 363
noncomputable def o367_6 : Obj := tU #[(.str "self" 666), (.str "text" 667)]
noncomputable def o369_6 : Obj := fA (meAt 43 3) "Writer.token"
noncomputable def o370_6 : Obj := cO "token" "Writer.token" 663 270 2 0 0 3 365 366 (.ref 367) (.ref 368) (.ref 369) 668 669 true
noncomputable def o371_6 : Obj := fB (meAt 43 3) "Writer.token" .none "clausemill.writer" 559 370
noncomputable def o374_6 : Obj := tU #[(.str "self" 674), (.str "first" 675)]
noncomputable def o376_6 : Obj := fA (meAt 43 4) "Writer.needs_space"
noncomputable def o377_6 : Obj := cO "needs_space" "Writer.needs_space" 671 276 2 0 0 3 372 373 (.ref 374) (.ref 375) (.ref 376) 676 677 true
noncomputable def o378_6 : Obj := fB (meAt 43 4) "Writer.needs_space" .none "clausemill.writer" 559 377
noncomputable def o381_6 : Obj := tU #[(.str "self" 682), (.str "items" 683), (.str "item" 684)]
noncomputable def o383_6 : Obj := fA (meAt 43 5) "Writer.later"
noncomputable def o384_6 : Obj := cO "later" "Writer.later" 679 287 2 0 0 3 379 380 (.ref 381) (.ref 382) (.ref 383) 685 686 true
noncomputable def o385_6 : Obj := fB (meAt 43 5) "Writer.later" .none "clausemill.writer" 559 384
noncomputable def o388_6 : Obj := tU #[(.str "self" 691), (.str "term" 692), (.str "most" 693), (.str "alone" 694), (.str "kind" 695), (.str "shape" 696)]
noncomputable def o390_6 : Obj := fA (meAt 43 6) "Writer.write"
noncomputable def o391_6 : Obj := cO "write" "Writer.write" 688 291 4 0 0 3 386 387 (.ref 388) (.ref 389) (.ref 390) 697 698 true
noncomputable def o392_6 : Obj := fB (meAt 43 6) "Writer.write" .none "clausemill.writer" 559 391
noncomputable def o395_6 : Obj := tU #[(.str "self" 703), (.str "k" 704), (.str "text" 705)]
noncomputable def o397_6 : Obj := fA (meAt 43 7) "Writer.variable_text"
noncomputable def o398_6 : Obj := cO "variable_text" "Writer.variable_text" 700 313 2 0 0 3 393 394 (.ref 395) (.ref 396) (.ref 397) 706 707 true
noncomputable def o399_6 : Obj := fB (meAt 43 7) "Writer.variable_text" .none "clausemill.writer" 559 398
noncomputable def o402_6 : Obj := tU #[(.str "self" 712), (.str "term" 713)]
noncomputable def o404_6 : Obj := fA (meAt 43 8) "Writer.is_numbered"
noncomputable def o405_6 : Obj := cO "is_numbered" "Writer.is_numbered" 709 321 2 0 0 3 400 401 (.ref 402) (.ref 403) (.ref 404) 714 715 true
noncomputable def o406_6 : Obj := fB (meAt 43 8) "Writer.is_numbered" .none "clausemill.writer" 559 405
noncomputable def o409_6 : Obj := tU #[(.str "self" 720), (.str "a" 721), (.str "alone" 722), (.str "text" 723)]
noncomputable def o411_6 : Obj := fA (meAt 43 9) "Writer.write_atom"
noncomputable def o412_6 : Obj := cO "write_atom" "Writer.write_atom" 717 326 3 0 0 3 407 408 (.ref 409) (.ref 410) (.ref 411) 724 725 true
noncomputable def o413_6 : Obj := fB (meAt 43 9) "Writer.write_atom" .none "clausemill.writer" 559 412
noncomputable def o416_6 : Obj := tU #[(.str "self" 730), (.str "term" 731), (.str "items" 732), (.str "tail" 733), (.str "rows" 734), (.str "item" 735)]
noncomputable def o418_6 : Obj := fA (meAt 43 10) "Writer.write_list"
noncomputable def o419_6 : Obj := cO "write_list" "Writer.write_list" 727 335 2 0 0 3 414 415 (.ref 416) (.ref 417) (.ref 418) 736 737 true
noncomputable def o420_6 : Obj := fB (meAt 43 10) "Writer.write_list" .none "clausemill.writer" 559 419
noncomputable def o423_6 : Obj := tU #[(.str "self" 742), (.str "term" 743), (.str "rows" 744), (.str "item" 745)]
noncomputable def o425_6 : Obj := fA (meAt 43 11) "Writer.write_functional"
noncomputable def o426_6 : Obj := cO "write_functional" "Writer.write_functional" 739 349 2 0 0 3 421 422 (.ref 423) (.ref 424) (.ref 425) 746 747 true
noncomputable def o427_6 : Obj := fB (meAt 43 11) "Writer.write_functional" .none "clausemill.writer" 559 426
noncomputable def o430_6 : Obj := tU #[(.str "self" 752), (.str "term" 753), (.str "name" 754), (.str "args" 755), (.str "entry" 756)]
noncomputable def o432_6 : Obj := fA (meAt 43 12) "Writer.shape"
noncomputable def o433_6 : Obj := cO "shape" "Writer.shape" 749 361 2 0 0 3 428 429 (.ref 430) (.ref 431) (.ref 432) 757 758 true
noncomputable def o434_6 : Obj := fB (meAt 43 12) "Writer.shape" .none "clausemill.writer" 559 433
noncomputable def o437_6 : Obj := tU #[(.str "self" 763), (.str "term" 764), (.str "shape" 765), (.str "most" 766), (.str "kind" 767), (.str "priority" 768), (.str "type_text" 769), (.str "left" 770), (.str "right" 771), (.str "name" 772), (.str "args" 773), (.str "rows" 774)]
noncomputable def o439_6 : Obj := fA (meAt 43 13) "Writer.write_operation"
noncomputable def o440_6 : Obj := cO "write_operation" "Writer.write_operation" 760 383 4 0 0 3 435 436 (.ref 437) (.ref 438) (.ref 439) 775 776 true
noncomputable def o441_6 : Obj := fB (meAt 43 13) "Writer.write_operation" .none "clausemill.writer" 559 440
noncomputable def o444_6 : Obj := tU #[(.str "self" 781), (.str "operand" 782), (.str "priority" 783), (.str "most" 784), (.str "shape" 785)]
noncomputable def o446_6 : Obj := fA (meAt 43 14) "Writer.left_limit"
noncomputable def o447_6 : Obj := cO "left_limit" "Writer.left_limit" 778 403 4 0 0 3 442 443 (.ref 444) (.ref 445) (.ref 446) 786 787 true
noncomputable def o448_6 : Obj := fB (meAt 43 14) "Writer.left_limit" .none "clausemill.writer" 559 447
noncomputable def o451_6 : Obj := tU #[(.str "self" 792), (.str "a" 793), (.str "text" 794)]
noncomputable def o453_6 : Obj := fA (meAt 43 15) "Writer.prefix_operator"
noncomputable def o454_6 : Obj := cO "prefix_operator" "Writer.prefix_operator" 789 409 2 0 0 3 449 450 (.ref 451) (.ref 452) (.ref 453) 795 796 true
noncomputable def o455_6 : Obj := fB (meAt 43 15) "Writer.prefix_operator" .none "clausemill.writer" 559 454
noncomputable def o458_6 : Obj := tU #[(.str "self" 801), (.str "a" 802), (.str "text" 803)]
noncomputable def o460_6 : Obj := fA (meAt 43 16) "Writer.infix_operator"
noncomputable def o461_6 : Obj := cO "infix_operator" "Writer.infix_operator" 798 417 2 0 0 3 456 457 (.ref 458) (.ref 459) (.ref 460) 804 805 true
noncomputable def o462_6 : Obj := fB (meAt 43 16) "Writer.infix_operator" .none "clausemill.writer" 559 461
noncomputable def o465_6 : Obj := tU #[(.str "self" 810), (.str "a" 811), (.str "text" 812)]
noncomputable def o467_6 : Obj := fA (meAt 43 17) "Writer.postfix_operator"
noncomputable def o468_6 : Obj := cO "postfix_operator" "Writer.postfix_operator" 807 430 2 0 0 3 463 464 (.ref 465) (.ref 466) (.ref 467) 813 814 true
noncomputable def o469_6 : Obj := fB (meAt 43 17) "Writer.postfix_operator" .none "clausemill.writer" 559 468
noncomputable def o470_6 : Obj := tU #[(.str "ignore_ops" 816), (.str "last" 817), (.str "names" 818), (.str "numbervars" 819), (.str "operators" 820), (.str "out" 821), (.str "prefixed" 822), (.str "quoted" 823), (.str "symbols" 824), (.str "taken" 825), (.str "work" 826)]
noncomputable def o471_6 (P : Params) : Obj := ⟨(.type "dict"), none, (.dict #[dE P "__module__" 622 (.str "clausemill.writer" 559), dE P "__firstlineno__" 626 (.int 228 625), dE P "__init__" 641 (.ref 349), dE P "text" 654 (.ref 357), dE P "raw" 662 (.ref 364), dE P "token" 670 (.ref 371), dE P "needs_space" 678 (.ref 378), dE P "later" 687 (.ref 385), dE P "write" 699 (.ref 392), dE P "variable_text" 708 (.ref 399), dE P "is_numbered" 716 (.ref 406), dE P "write_atom" 726 (.ref 413), dE P "write_list" 738 (.ref 420), dE P "write_functional" 748 (.ref 427), dE P "shape" 759 (.ref 434), dE P "write_operation" 777 (.ref 441), dE P "left_limit" 788 (.ref 448), dE P "prefix_operator" 797 (.ref 455), dE P "infix_operator" 806 (.ref 462), dE P "postfix_operator" 815 (.ref 469), dE P "__static_attributes__" 827 (.ref 470), dE P "__dict__" 829 (.ref 473), dE P "__weakref__" 831 (.ref 474), dE P "__doc__" 832 .none] 4), #[]⟩
noncomputable def o472_6 : Obj := ⟨(.type "type"), none, (.cls { name := "Writer", bases := [(.type "object")], mro := [(.ref 472), (.type "object")], ns := 471, qualname := "Writer", hasDict := true, slotNames := [], subclasses := [], abstract := false, collection := none, hasDel := false }), #[none, none, (some (.str "Writer" 615)), (some (.str "Writer" 623)), (some (.builtin "object.__new__")), (some (.bool true))]⟩
noncomputable def o473_6 : Obj := ⟨(.type "getset_descriptor"), none, (.fields #[(.str "__dict__" 828), (.ref 472), (.builtin "function.__dict__"), (.builtin "function.__dict__#set")]), #[]⟩
noncomputable def o474_6 : Obj := ⟨(.type "getset_descriptor"), none, (.fields #[(.str "__weakref__" 830), (.ref 472), (.builtin "ExceptionGroup.__weakref__"), .none]), #[]⟩
noncomputable def o475_6 : Obj := ⟨(.type "super"), none, (.fields #[(.ref 472), (.ref 472), (.ref 472)]), #[]⟩
noncomputable def o476_6 : Obj := ⟨(.type "builtin_function_or_method"), none, (.fields #[(.builtin "object.__init_subclass__"), (.ref 472)]), #[]⟩
noncomputable def t_6 (P : Params) : BT := (.node (boot_o_0 P) (.node (boot_o_1 P) (.node (o3_6 P) (.node (boot_o_7 P) (.node eT (.node eT (.node o63_2 (.node eT (lF o255_4) (lF o383_6)) (.node eF (lF o319_4) (lF o447_6))) (.node eT (.node o159_3 (lF o287_4) (lF eF)) (.node (o223_4 P) (lF eT) .nil))) (.node o47_2 (.node eF (.node o143_3 (lF eT) (lF o399_6)) (.node eT (lF eT) (lF eT))) (.node o111_2 (.node o175_3 (lF o303_4) (lF eT)) (.node eT (lF o367_6) .nil)))) (.node eF (.node eT (.node eT (.node eF (lF o263_4) (lF o391_6)) (.node o199_3 (lF o327_5) (lF o455_6))) (.node o103_2 (.node o167_3 (lF eT) (lF o423_6)) (.node o231_4 (lF eF) .nil))) (.node o55_2 (.node o87_2 (.node eT (lF eF) (lF eT)) (.node eF (lF eT) (lF (o471_6 P)))) (.node o119_2 (.node eT (lF o311_4) (lF o439_6)) (.node o247_4 (lF eT) .nil))))) (.node eT (.node o19_1 (.node o35_1 (.node eT (.node o131_2 (lF o259_4) (lF eF)) (.node o195_3 (lF o323_5) (lF o451_6))) (.node eT (.node eF (lF o291_4) (lF o419_6)) (.node o227_4 (lF o355_6) .nil))) (.node eF (.node o83_2 (.node o147_3 (lF o275_4) (lF eT)) (.node o211_3 (lF o339_6) (lF o467_6))) (.node o115_2 (.node eT (lF eT) (lF eT)) (.node eT (lF o371_6) .nil)))) (.node o27_1 (.node eT (.node o75_2 (.node o139_3 (lF eT) (lF o395_6)) (.node eT (lF eT) (lF eT))) (.node eF (.node o171_3 (lF eT) (lF o427_6)) (.node o235_4 (lF o363_6) .nil))) (.node o59_2 (.node o91_2 (.node eT (lF o283_4) (lF o411_6)) (.node o219_3 (lF o347_6) (lF o475_6))) (.node o123_2 (.node o187_3 (lF eF) (lF eF)) (.node eF (lF eT) .nil)))))) (.node (boot_o_5 P) (.node (boot_o_9 P) (.node o17_1 (.node o33_1 (.node eF (.node o129_2 (lF eT) (lF o385_6)) (.node eT (lF eT) (lF eT))) (.node o97_2 (.node o161_3 (lF o289_4) (lF eT)) (.node o225_4 (lF o353_6) .nil))) (.node o49_2 (.node eT (.node o145_3 (lF o273_4) (lF eF)) (.node o209_3 (lF (o337_6 P)) (lF o465_6))) (.node eT (.node eF (lF o305_4) (lF o433_6)) (.node o241_4 (lF o369_6) .nil)))) (.node eT (.node o41_2 (.node o73_2 (.node eT (lF eF) (lF eT)) (.node eF (lF eF) (lF eF))) (.node o105_2 (.node eT (lF o297_4) (lF o425_6)) (.node o233_4 (lF eT) .nil))) (.node eT (.node o89_2 (.node o153_3 (lF eT) (lF o409_6)) (.node eT (lF o345_6) (lF o473_6))) (.node (o121_2 P) (.node o185_3 (lF o313_4) (lF o441_6)) (.node o249_4 (lF o377_6) .nil))))) (.node o13_a (.node o21_1 (.node o37_2 (.node o69_2 (.node o133_2 (lF o261_4) (lF eT)) (.node o197_3 (lF o325_5) (lF o453_6))) (.node o101_2 (.node eT (lF eF) (lF eT)) (.node eT (lF o357_6) .nil))) (.node eT (.node eT (.node eF (lF o277_4) (lF o405_6)) (.node o213_3 (lF o341_6) (lF o469_6))) (.node o117_2 (.node o181_3 (lF o309_4) (lF o437_6)) (.node o245_4 (lF eF) .nil)))) (.node eT (.node o45_2 (.node o77_2 (.node eT (lF o269_4) (lF o397_6)) (.node o205_3 (lF o333_5) (lF o461_6))) (.node eT (.node o173_3 (lF o301_4) (lF eF)) (.node eF (lF eT) .nil))) (.node o61_2 (.node eF (.node o157_3 (lF o285_4) (lF o413_6)) (.node eT (lF o349_6) .nil)) (.node o125_2 (.node o189_3 (lF eT) (lF eT)) (.node eT (lF o381_6) .nil))))))) (.node (boot_o_2 P) (.node (boot_o_4 P) (.node (boot_o_8 P) (.node eF (.node eT (.node eT (.node eF (lF o256_4) (lF o384_6)) (.node o192_3 (lF o320_4) (lF o448_6))) (.node o96_2 (.node o160_3 (lF o288_4) (lF o416_6)) (.node eT (lF eF) .nil))) (.node o48_2 (.node o80_2 (.node eT (lF eF) (lF eT)) (.node eF (lF o336_6) (lF eF))) (.node o112_2 (.node eT (lF o304_4) (lF o432_6)) (.node o240_4 (lF eT) .nil)))) (.node eT (.node o40_2 (.node eF (.node o136_3 (lF eT) (lF o392_6)) (.node eT (lF eT) (lF eT))) (.node o104_2 (.node o168_3 (lF o296_4) (lF eT)) (.node eT (lF o360_6) .nil))) (.node o56_2 (.node eT (.node o152_3 (lF o280_4) (lF eF)) (.node o216_3 (lF eF) (lF o472_6))) (.node o120_2 (.node eF (lF o312_4) (lF o440_6)) (.node o248_4 (lF o376_6) .nil))))) (.node o12_6 (.node o20_1 (.node eT (.node o68_2 (.node o132_2 (lF eT) (lF o388_6)) (.node o196_3 (lF eT) (lF eT))) (.node eF (.node o164_3 (lF eT) (lF o420_6)) (.node o228_4 (lF o356_6) .nil))) (.node o52_2 (.node o84_2 (.node eT (lF o276_4) (lF o404_6)) (.node o212_3 (lF o340_6) (lF o468_6))) (.node eT (.node o180_3 (lF eF) (lF eF)) (.node eF (lF eT) .nil)))) (.node o28_1 (.node eF (.node o76_2 (.node o140_3 (lF o268_4) (lF eT)) (.node o204_3 (lF o332_5) (lF o460_6))) (.node o108_2 (.node eT (lF eF) (lF eT)) (.node eT (lF o364_6) .nil))) (.node eT (.node eT (.node eF (lF o284_4) (lF o412_6)) (.node o220_3 (lF o348_6) (lF o476_6))) (.node o124_2 (.node o188_3 (lF o316_4) (lF o444_6)) (.node o252_4 (lF eF) .nil)))))) (.node (boot_o_6 P) (.node (boot_o_10 P) (.node eT (.node o34_1 (.node o66_2 (.node eT (lF eF) (lF eT)) (.node o194_3 (lF eF) (lF eF))) (.node o98_2 (.node eT (lF o290_4) (lF o418_6)) (.node o226_4 (lF eT) .nil))) (.node eT (.node o82_2 (.node o146_3 (lF eT) (lF o402_6)) (.node eT (lF eT) (lF eT))) (.node eF (.node o178_3 (lF o306_4) (lF o434_6)) (.node o242_4 (lF o370_6) .nil)))) (.node o26_1 (.node o42_2 (.node eT (.node o138_3 (lF o266_4) (lF eF)) (.node eT (lF o330_5) (lF o458_6))) (.node eT (.node eF (lF o298_4) (lF o426_6)) (.node o234_4 (lF o362_6) .nil))) (.node eF (.node o90_2 (.node o154_3 (lF o282_4) (lF eT)) (.node o218_3 (lF eT) (lF o474_6))) (.node o122_2 (.node eT (lF eT) (lF eT)) (.node eT (lF o378_6) .nil))))) (.node o14_a (.node eT (.node (o38_2 P) (.node o70_2 (.node eT (lF o262_4) (lF o390_6)) (.node o198_3 (lF o326_5) (lF o454_6))) (.node eT (.node o166_3 (lF o294_4) (lF eF)) (.node eF (lF eT) .nil))) (.node o54_2 (.node eF (.node o150_3 (lF eT) (lF o406_6)) (.node eT (lF o342_6) (lF o470_6))) (.node o118_2 (.node o182_3 (lF eT) (lF eT)) (.node eT (lF o374_6) .nil)))) (.node eF (.node eT (.node eT (.node eF (lF o270_4) (lF o398_6)) (.node o206_3 (lF o334_5) (lF o462_6))) (.node o110_2 (.node o174_3 (lF eT) (lF o430_6)) (.node o238_4 (lF eF) .nil))) (.node o62_2 (.node o94_2 (.node eT (lF (o286_4 P)) (lF eT)) (.node o222_4 (lF o350_6) .nil)) (.node o126_2 (.node eT (lF o318_4) (lF o446_6)) (.node o254_4 (lF eT) .nil))))))))
noncomputable def o3_7 (P : Params) : Obj := ⟨(.type "dict"), none, (.dict #[dE P "__name__" 165 (.str "law_rh0099_01" 850), dE P "__doc__" 166 .none, dE P "__package__" 167 .none, dE P "__loader__" 168 (.builtin "__main__.__loader__#opaque"), dE P "__spec__" 169 .none, dE P "__annotations__" 170 (.ref 6), dE P "__builtins__" 171 (.ref 4), dE P "__file__" 173 (.str "/claim/cut.py" 172), dE P "__cached__" 174 .none, dE P "_wall" 193 (.ref 21), dE P "A_NIL" 197 (.int 0 196), dE P "A_MINUS" 199 (.int 3 198), dE P "A_COMMA" 201 (.int 7 200), dE P "A_BAR" 203 (.int 8 202), dE P "F_DOT" 205 (.int 0 204), dE P "F_COMMA" 207 (.int 1 206), dE P "F_CURLY" 209 (.int 9 208), dE P "F_VARNAME" 211 (.int 17 210), dE P "fixed_atoms" 217 (.ref 28), dE P "fixed_functors" 223 (.ref 35), dE P "Symbols" 342 (.ref 122), dE P "list_items" 352 (.ref 133), dE P "is_digit" 361 (.ref 140), dE P "is_small" 368 (.ref 147), dE P "is_capital" 375 (.ref 154), dE P "is_alnum" 382 (.ref 161), dE P "is_symbol" 389 (.ref 168), dE P "number_text" 399 (.ref 175), dE P "is_alnum_name" 407 (.ref 182), dE P "is_symbol_name" 415 (.ref 189), dE P "is_plain_name" 422 (.ref 196), dE P "COMMA_PRIORITY" 426 (.int 1000 425), dE P "PREFIX_TYPES" 429 (.ref 197), dE P "INFIX_TYPES" 433 (.ref 198), dE P "POSTFIX_TYPES" 436 (.ref 199), dE P "standard_rows" 442 (.ref 206), dE P "fixity" 449 (.ref 213), dE P "bounds" 458 (.ref 220), dE P "OperatorTable" 558 (.ref 287), dE P "WHOLE_PRIORITY" 562 (.int 1201 561), dE P "ARGUMENT_PRIORITY" 564 (.int 999 563), dE P "escaped" 572 (.ref 298), dE P "quoted_text" 581 (.ref 305), dE P "atom_text" 591 (.ref 313), dE P "numbered_text" 599 (.ref 320), dE P "is_word" 607 (.ref 327), dE P "is_tight" 614 (.ref 334), dE P "Writer" 834 (.ref 472), dE P "term_text" 849 (.ref 484), dE P "_law_row" 862 (.ref 491), dE P "_law_next" 870 (.ref 498), dE P "_law_sown" 883 (.ref 505), dE P "_law_inside" 891 (.ref 512), dE P "_law_beside" 904 (.ref 519), dE P "law" 910 (.ref 524)] 55), #[]⟩
noncomputable def o12_7 : Obj := ⟨.none, none, (.fields #[(.int 1 0), (.int 0 0), (.ref 20), (.int 13 0), (.int 0 0), (.ref 27), (.int 15 0), (.int 0 0), (.ref 34), (.int 17 0), (.int 0 0), (.ref 41), (.int 72 0), (.int 0 0), (.ref 132), (.int 79 0), (.int 0 0), (.ref 139), (.int 81 0), (.int 0 0), (.ref 146), (.int 83 0), (.int 0 0), (.ref 153), (.int 85 0), (.int 0 0), (.ref 160), (.int 87 0), (.int 0 0), (.ref 167), (.int 89 0), (.int 0 0), (.ref 174), (.int 99 0), (.int 0 0), (.ref 181), (.int 106 0), (.int 0 0), (.ref 188), (.int 113 0), (.int 0 0), (.ref 195), (.int 124 0), (.int 0 0), (.ref 205), (.int 126 0), (.int 0 0), (.ref 212), (.int 134 0), (.int 0 0), (.ref 219), (.int 149 0), (.int 0 0), (.ref 226), (.int 198 0), (.int 0 0), (.ref 297), (.int 207 0), (.int 0 0), (.ref 304), (.int 213 0), (.int 0 0), (.ref 312), (.int 218 0), (.int 0 0), (.ref 319), (.int 223 0), (.int 0 0), (.ref 326), (.int 226 0), (.int 0 0), (.ref 333), (.int 228 0), (.int 0 0), (.ref 340), (.int 437 0), (.int 0 0), (.ref 483), (.int 441 0), (.int 0 0), (.ref 490), (.int 452 0), (.int 0 0), (.ref 497), (.int 454 0), (.int 0 0), (.ref 504), (.int 471 0), (.int 0 0), (.ref 511), (.int 473 0), (.int 0 0), (.ref 518), (.int 481 0), (.int 0 0), (.ref 523)]), #[]⟩
noncomputable def o477_7 : Obj := tU #[(.bool true), (.bool false), (.bool false), .none, (.int 1201 561)]
noncomputable def o480_7 : Obj := tU #[(.str "symbols" 838), (.str "operators" 839), (.str "term" 840), (.str "quoted" 841), (.str "ignore_ops" 842), (.str "numbervars" 843), (.str "names" 844), (.str "most" 845), (.str "writer" 846)]
noncomputable def o482_7 : Obj := fA (stAt 44) "term_text"
noncomputable def o483_7 : Obj := cO "term_text" "term_text" 835 437 8 0 0 3 478 479 (.ref 480) (.ref 481) (.ref 482) 847 848 true
noncomputable def o484_7 : Obj := fB (stAt 44) "term_text" (.ref 477) "clausemill.writer" 559 483
noncomputable def o487_7 : Obj := tU #[(.str "script" 855), (.str "row" 856), (.str "cell" 857), (.str "rest" 858), (.str "turn" 859)]
noncomputable def o489_7 : Obj := fA (stAt 46) "_law_row"
noncomputable def o490_7 : Obj := cO "_law_row" "_law_row" 852 441 1 0 0 3 485 486 (.ref 487) (.ref 488) (.ref 489) 860 861 true
noncomputable def o491_7 : Obj := fB (stAt 46) "_law_row" .none "law_rh0099_01" 850 490
noncomputable def o494_7 : Obj := tU #[(.str "row" 866), (.str "many" 867)]
noncomputable def o496_7 : Obj := fA (stAt 47) "_law_next"
noncomputable def o497_7 : Obj := cO "_law_next" "_law_next" 863 452 2 0 0 3 492 493 (.ref 494) (.ref 495) (.ref 496) 868 869 true
noncomputable def o498_7 : Obj := fB (stAt 47) "_law_next" .none "law_rh0099_01" 850 497
noncomputable def o501_7 : Obj := tU #[(.str "row" 874), (.str "names" 875), (.str "words" 876), (.str "deep" 877), (.str "way" 878), (.str "first" 879), (.str "other" 880)]
noncomputable def o503_7 : Obj := fA (stAt 48) "_law_sown"
noncomputable def o504_7 : Obj := cO "_law_sown" "_law_sown" 871 454 4 0 0 3 499 500 (.ref 501) (.ref 502) (.ref 503) 881 882 true
noncomputable def o505_7 : Obj := fB (stAt 48) "_law_sown" .none "law_rh0099_01" 850 504
noncomputable def o508_7 : Obj := tU #[(.str "scribe" 887), (.str "term" 888)]
noncomputable def o510_7 : Obj := fA (stAt 49) "_law_inside"
noncomputable def o511_7 : Obj := cO "_law_inside" "_law_inside" 884 471 2 0 0 3 506 507 (.ref 508) (.ref 509) (.ref 510) 889 890 true
noncomputable def o512_7 : Obj := fB (stAt 49) "_law_inside" .none "law_rh0099_01" 850 511
noncomputable def o515_7 : Obj := tU #[(.str "scribe" 895), (.str "parts" 896), (.str "height" 897), (.str "kind" 898), (.str "sign" 899), (.str "line" 900), (.str "left" 901)]
noncomputable def o517_7 : Obj := fA (stAt 50) "_law_beside"
noncomputable def o518_7 : Obj := cO "_law_beside" "_law_beside" 892 473 5 0 0 3 513 514 (.ref 515) (.ref 516) (.ref 517) 902 903 true
noncomputable def o519_7 : Obj := fB (stAt 50) "_law_beside" .none "law_rh0099_01" 850 518
noncomputable def o522_7 : Obj := fA (stAt 51) "law"
noncomputable def o523_7 : Obj := cO "law" "law" 905 481 1 0 0 3 520 521 .none .none (.ref 522) 908 909 true
noncomputable def o524_7 : Obj := fB (stAt 51) "law" .none "law_rh0099_01" 850 523
noncomputable def t_7 (P : Params) : BT := (.node (boot_o_0 P) (.node (boot_o_1 P) (.node (o3_7 P) (.node (boot_o_7 P) (.node eT (.node eT (.node o63_2 (.node eT (.node o255_4 (lF o511_7) .nil) (lF o383_6)) (.node eF (lF o319_4) (lF o447_6))) (.node eT (.node o159_3 (lF o287_4) (lF eF)) (.node (o223_4 P) (lF eT) (lF eF)))) (.node o47_2 (.node eF (.node o143_3 (lF eT) (lF o399_6)) (.node eT (lF eT) (lF eT))) (.node o111_2 (.node o175_3 (lF o303_4) (lF eT)) (.node eT (lF o367_6) (lF eT))))) (.node eF (.node eT (.node eT (.node eF (.node o263_4 (lF o519_7) .nil) (lF o391_6)) (.node o199_3 (lF o327_5) (lF o455_6))) (.node o103_2 (.node o167_3 (lF eT) (lF o423_6)) (.node o231_4 (lF eF) (lF o487_7)))) (.node o55_2 (.node o87_2 (.node eT (lF eF) (lF eT)) (.node eF (lF eT) (lF (o471_6 P)))) (.node o119_2 (.node eT (lF o311_4) (lF o439_6)) (.node o247_4 (lF eT) (lF o503_7)))))) (.node eT (.node o19_1 (.node o35_1 (.node eT (.node o131_2 (.node o259_4 (lF o515_7) .nil) (lF eF)) (.node o195_3 (lF o323_5) (lF o451_6))) (.node eT (.node eF (lF o291_4) (lF o419_6)) (.node o227_4 (lF o355_6) (lF o483_7)))) (.node eF (.node o83_2 (.node o147_3 (lF o275_4) (lF eT)) (.node o211_3 (lF o339_6) (lF o467_6))) (.node o115_2 (.node eT (lF eT) (lF eT)) (.node eT (lF o371_6) (lF eT))))) (.node o27_1 (.node eT (.node o75_2 (.node o139_3 (.node eT (lF o523_7) .nil) (lF o395_6)) (.node eT (lF eT) (lF eT))) (.node eF (.node o171_3 (lF eT) (lF o427_6)) (.node o235_4 (lF o363_6) (lF o491_7)))) (.node o59_2 (.node o91_2 (.node eT (lF o283_4) (lF o411_6)) (.node o219_3 (lF o347_6) (lF o475_6))) (.node o123_2 (.node o187_3 (lF eF) (lF eF)) (.node eF (lF eT) (lF eF))))))) (.node (boot_o_5 P) (.node (boot_o_9 P) (.node o17_1 (.node o33_1 (.node eF (.node o129_2 (.node eT (lF eT) .nil) (lF o385_6)) (.node eT (lF eT) (lF eT))) (.node o97_2 (.node o161_3 (lF o289_4) (lF eT)) (.node o225_4 (lF o353_6) (lF eT)))) (.node o49_2 (.node eT (.node o145_3 (lF o273_4) (lF eF)) (.node o209_3 (lF (o337_6 P)) (lF o465_6))) (.node eT (.node eF (lF o305_4) (lF o433_6)) (.node o241_4 (lF o369_6) (lF o497_7))))) (.node eT (.node o41_2 (.node o73_2 (.node eT (.node eF (lF eF) .nil) (lF eT)) (.node eF (lF eF) (lF eF))) (.node o105_2 (.node eT (lF o297_4) (lF o425_6)) (.node o233_4 (lF eT) (lF o489_7)))) (.node eT (.node o89_2 (.node o153_3 (lF eT) (lF o409_6)) (.node eT (lF o345_6) (lF o473_6))) (.node (o121_2 P) (.node o185_3 (lF o313_4) (lF o441_6)) (.node o249_4 (lF o377_6) (lF o505_7)))))) (.node o13_a (.node o21_1 (.node o37_2 (.node o69_2 (.node o133_2 (.node o261_4 (lF o517_7) .nil) (lF eT)) (.node o197_3 (lF o325_5) (lF o453_6))) (.node o101_2 (.node eT (lF eF) (lF eT)) (.node eT (lF o357_6) (lF eT)))) (.node eT (.node eT (.node eF (lF o277_4) (lF o405_6)) (.node o213_3 (lF o341_6) (lF o469_6))) (.node o117_2 (.node o181_3 (lF o309_4) (lF o437_6)) (.node o245_4 (lF eF) (lF o501_7))))) (.node eT (.node o45_2 (.node o77_2 (.node eT (lF o269_4) (lF o397_6)) (.node o205_3 (lF o333_5) (lF o461_6))) (.node eT (.node o173_3 (lF o301_4) (lF eF)) (.node eF (lF eT) (lF eF)))) (.node o61_2 (.node eF (.node o157_3 (lF o285_4) (lF o413_6)) (.node eT (lF o349_6) (lF o477_7))) (.node o125_2 (.node o189_3 (lF eT) (lF eT)) (.node eT (lF o381_6) (lF eT)))))))) (.node (boot_o_2 P) (.node (boot_o_4 P) (.node (boot_o_8 P) (.node eF (.node eT (.node eT (.node eF (.node o256_4 (lF o512_7) .nil) (lF o384_6)) (.node o192_3 (lF o320_4) (lF o448_6))) (.node o96_2 (.node o160_3 (lF o288_4) (lF o416_6)) (.node eT (lF eF) (lF o480_7)))) (.node o48_2 (.node o80_2 (.node eT (lF eF) (lF eT)) (.node eF (lF o336_6) (lF eF))) (.node o112_2 (.node eT (lF o304_4) (lF o432_6)) (.node o240_4 (lF eT) (lF o496_7))))) (.node eT (.node o40_2 (.node eF (.node o136_3 (.node eT (lF eT) .nil) (lF o392_6)) (.node eT (lF eT) (lF eT))) (.node o104_2 (.node o168_3 (lF o296_4) (lF eT)) (.node eT (lF o360_6) (lF eT)))) (.node o56_2 (.node eT (.node o152_3 (lF o280_4) (lF eF)) (.node o216_3 (lF eF) (lF o472_6))) (.node o120_2 (.node eF (lF o312_4) (lF o440_6)) (.node o248_4 (lF o376_6) (lF o504_7)))))) (.node o12_7 (.node o20_1 (.node eT (.node o68_2 (.node o132_2 (.node eT (lF eT) .nil) (lF o388_6)) (.node o196_3 (lF eT) (lF eT))) (.node eF (.node o164_3 (lF eT) (lF o420_6)) (.node o228_4 (lF o356_6) (lF o484_7)))) (.node o52_2 (.node o84_2 (.node eT (lF o276_4) (lF o404_6)) (.node o212_3 (lF o340_6) (lF o468_6))) (.node eT (.node o180_3 (lF eF) (lF eF)) (.node eF (lF eT) (lF eF))))) (.node o28_1 (.node eF (.node o76_2 (.node o140_3 (.node o268_4 (lF o524_7) .nil) (lF eT)) (.node o204_3 (lF o332_5) (lF o460_6))) (.node o108_2 (.node eT (lF eF) (lF eT)) (.node eT (lF o364_6) (lF eT)))) (.node eT (.node eT (.node eF (lF o284_4) (lF o412_6)) (.node o220_3 (lF o348_6) (lF o476_6))) (.node o124_2 (.node o188_3 (lF o316_4) (lF o444_6)) (.node o252_4 (lF eF) (lF o508_7))))))) (.node (boot_o_6 P) (.node (boot_o_10 P) (.node eT (.node o34_1 (.node o66_2 (.node eT (.node eF (lF eF) .nil) (lF eT)) (.node o194_3 (lF eF) (lF eF))) (.node o98_2 (.node eT (lF o290_4) (lF o418_6)) (.node o226_4 (lF eT) (lF o482_7)))) (.node eT (.node o82_2 (.node o146_3 (lF eT) (lF o402_6)) (.node eT (lF eT) (lF eT))) (.node eF (.node o178_3 (lF o306_4) (lF o434_6)) (.node o242_4 (lF o370_6) (lF o498_7))))) (.node o26_1 (.node o42_2 (.node eT (.node o138_3 (.node o266_4 (lF o522_7) .nil) (lF eF)) (.node eT (lF o330_5) (lF o458_6))) (.node eT (.node eF (lF o298_4) (lF o426_6)) (.node o234_4 (lF o362_6) (lF o490_7)))) (.node eF (.node o90_2 (.node o154_3 (lF o282_4) (lF eT)) (.node o218_3 (lF eT) (lF o474_6))) (.node o122_2 (.node eT (lF eT) (lF eT)) (.node eT (lF o378_6) (lF eT)))))) (.node o14_a (.node eT (.node (o38_2 P) (.node o70_2 (.node eT (.node o262_4 (lF o518_7) .nil) (lF o390_6)) (.node o198_3 (lF o326_5) (lF o454_6))) (.node eT (.node o166_3 (lF o294_4) (lF eF)) (.node eF (lF eT) (lF eF)))) (.node o54_2 (.node eF (.node o150_3 (lF eT) (lF o406_6)) (.node eT (lF o342_6) (lF o470_6))) (.node o118_2 (.node o182_3 (lF eT) (lF eT)) (.node eT (lF o374_6) (lF eT))))) (.node eF (.node eT (.node eT (.node eF (lF o270_4) (lF o398_6)) (.node o206_3 (lF o334_5) (lF o462_6))) (.node o110_2 (.node o174_3 (lF eT) (lF o430_6)) (.node o238_4 (lF eF) (lF o494_7)))) (.node o62_2 (.node o94_2 (.node eT (lF (o286_4 P)) (lF eT)) (.node o222_4 (lF o350_6) (lF eT))) (.node o126_2 (.node eT (lF o318_4) (lF o446_6)) (.node o254_4 (lF eT) (lF o510_7)))))))))
noncomputable def h_z (P : Params) : Heap := ⟨⟨[boot_o_0 P, boot_o_1 P, boot_o_2 P, o3_7 P, boot_o_4 P, boot_o_5 P, boot_o_6 P, boot_o_7 P, boot_o_8 P, boot_o_9 P, boot_o_10 P, eT, o12_7, o13_a, o14_a, eT, eF, o17_1, eT, o19_1, o20_1, o21_1, eT, eF, eT, eT, o26_1, o27_1, o28_1, eT, eF, eT, eT, o33_1, o34_1, o35_1, eT, o37_2, o38_2 P, eT, o40_2, o41_2, o42_2, eT, eF, o45_2, eT, o47_2, o48_2, o49_2, eT, eF, o52_2, eT, o54_2, o55_2, o56_2, eT, eF, o59_2, eT, o61_2, o62_2, o63_2, eT, eF, o66_2, eT, o68_2, o69_2, o70_2, eT, eF, o73_2, eT, o75_2, o76_2, o77_2, eT, eF, o80_2, eT, o82_2, o83_2, o84_2, eT, eF, o87_2, eT, o89_2, o90_2, o91_2, eT, eF, o94_2, eT, o96_2, o97_2, o98_2, eT, eF, o101_2, eT, o103_2, o104_2, o105_2, eT, eF, o108_2, eT, o110_2, o111_2, o112_2, eT, eF, o115_2, eT, o117_2, o118_2, o119_2, o120_2, o121_2 P, o122_2, o123_2, o124_2, o125_2, o126_2, eT, eF, o129_2, eT, o131_2, o132_2, o133_2, eT, eF, o136_3, eT, o138_3, o139_3, o140_3, eT, eF, o143_3, eT, o145_3, o146_3, o147_3, eT, eF, o150_3, eT, o152_3, o153_3, o154_3, eT, eF, o157_3, eT, o159_3, o160_3, o161_3, eT, eF, o164_3, eT, o166_3, o167_3, o168_3, eT, eF, o171_3, eT, o173_3, o174_3, o175_3, eT, eF, o178_3, eT, o180_3, o181_3, o182_3, eT, eF, o185_3, eT, o187_3, o188_3, o189_3, eT, eF, o192_3, eT, o194_3, o195_3, o196_3, o197_3, o198_3, o199_3, eT, eF, eT, eT, o204_3, o205_3, o206_3, eT, eF, o209_3, eT, o211_3, o212_3, o213_3, eT, eF, o216_3, eT, o218_3, o219_3, o220_3, eT, o222_4, o223_4 P, eT, o225_4, o226_4, o227_4, o228_4, eT, eF, o231_4, eT, o233_4, o234_4, o235_4, eT, eF, o238_4, eT, o240_4, o241_4, o242_4, eT, eF, o245_4, eT, o247_4, o248_4, o249_4, eT, eF, o252_4, eT, o254_4, o255_4, o256_4, eT, eF, o259_4, eT, o261_4, o262_4, o263_4, eT, eF, o266_4, eT, o268_4, o269_4, o270_4, eT, eF, o273_4, eT, o275_4, o276_4, o277_4, eT, eF, o280_4, eT, o282_4, o283_4, o284_4, o285_4, o286_4 P, o287_4, o288_4, o289_4, o290_4, o291_4, eT, eF, o294_4, eT, o296_4, o297_4, o298_4, eT, eF, o301_4, eT, o303_4, o304_4, o305_4, o306_4, eT, eF, o309_4, eT, o311_4, o312_4, o313_4, eT, eF, o316_4, eT, o318_4, o319_4, o320_4, eT, eF, o323_5, eT, o325_5, o326_5, o327_5, eT, eF, o330_5, eT, o332_5, o333_5, o334_5, eT, o336_6, o337_6 P, eT, o339_6, o340_6, o341_6, o342_6, eT, eF, o345_6, eT, o347_6, o348_6, o349_6, o350_6, eT, eF, o353_6, eT, o355_6, o356_6, o357_6, eT, eF, o360_6, eT, o362_6, o363_6, o364_6, eT, eF, o367_6, eT, o369_6, o370_6, o371_6, eT, eF, o374_6, eT, o376_6, o377_6, o378_6, eT, eF, o381_6, eT, o383_6, o384_6, o385_6, eT, eF, o388_6, eT, o390_6, o391_6, o392_6, eT, eF, o395_6, eT, o397_6, o398_6, o399_6, eT, eF, o402_6, eT, o404_6, o405_6, o406_6, eT, eF, o409_6, eT, o411_6, o412_6, o413_6, eT, eF, o416_6, eT, o418_6, o419_6, o420_6, eT, eF, o423_6, eT, o425_6, o426_6, o427_6, eT, eF, o430_6, eT, o432_6, o433_6, o434_6, eT, eF, o437_6, eT, o439_6, o440_6, o441_6, eT, eF, o444_6, eT, o446_6, o447_6, o448_6, eT, eF, o451_6, eT, o453_6, o454_6, o455_6, eT, eF, o458_6, eT, o460_6, o461_6, o462_6, eT, eF, o465_6, eT, o467_6, o468_6, o469_6, o470_6, o471_6 P, o472_6, o473_6, o474_6, o475_6, o476_6, o477_7, eT, eF, o480_7, eT, o482_7, o483_7, o484_7, eT, eF, o487_7, eT, o489_7, o490_7, o491_7, eT, eF, o494_7, eT, o496_7, o497_7, o498_7, eT, eF, o501_7, eT, o503_7, o504_7, o505_7, eT, eF, o508_7, eT, o510_7, o511_7, o512_7, eT, eF, o515_7, eT, o517_7, o518_7, o519_7, eT, eF, o522_7, o523_7, o524_7]⟩, life0⟩
noncomputable def bE : List Stmt := behindTheImports pw
noncomputable def env0 : Env := { scope := pw.main.scope, locals := mainNs, globals := mainNs, cells := [], code := .ref 13, frame := some 14 }
noncomputable def cE : Code := .body bE env0
noncomputable def q0 : Pos := ⟨0, 0, 0, 0⟩
noncomputable def sts_1 : List Stmt := (pw.main.body.drop 0).take 12
noncomputable def pos_1 : Pos := ⟨15, 0, 16, 389⟩
noncomputable def sts_2 : List Stmt := (pw.main.body.drop 12).take 4
noncomputable def pos_2 : Pos := ⟨78, 0, 78, 8⟩
noncomputable def sts_3 : List Stmt := (pw.main.body.drop 16).take 17
noncomputable def pos_3 : Pos := ⟨134, 0, 148, 25⟩
noncomputable def sts_4 : List Stmt := (pw.main.body.drop 33).take 8
noncomputable def pos_4 : Pos := ⟨218, 0, 222, 45⟩
noncomputable def sts_5 : List Stmt := (pw.main.body.drop 41).take 2
noncomputable def pos_5 : Pos := ⟨226, 0, 227, 61⟩
noncomputable def sts_6 : List Stmt := (pw.main.body.drop 43).take 1
noncomputable def pos_6 : Pos := ⟨228, 0, 436, 26⟩
noncomputable def sts_7 : List Stmt := (pw.main.body.drop 44).take 8
noncomputable def pos_7 : Pos := ⟨481, 0, 520, 85⟩
noncomputable def pos_0 : Pos := ⟨0, 0, 0, 0⟩
noncomputable def sA (w : World) (os : OsState) : Shared := ⟨h_a w.params, gens0, drawn0, 187, os⟩
noncomputable def s_b (w : World) (os : OsState) : SharedT := ⟨t_b w.params, 15, life0, gens0, drawn0, 187, os⟩
noncomputable def s_1 (w : World) (os : OsState) : SharedT := ⟨t_1 w.params, 36, life0, gens0, drawn0, 224, os⟩
noncomputable def s_2 (w : World) (os : OsState) : SharedT := ⟨t_2 w.params, 134, life0, gens0, drawn0, 355, os⟩
noncomputable def s_3 (w : World) (os : OsState) : SharedT := ⟨t_3 w.params, 221, life0, gens0, drawn0, 459, os⟩
noncomputable def s_4 (w : World) (os : OsState) : SharedT := ⟨t_4 w.params, 321, life0, gens0, drawn0, 600, os⟩
noncomputable def s_5 (w : World) (os : OsState) : SharedT := ⟨t_5 w.params, 335, life0, gens0, drawn0, 615, os⟩
noncomputable def s_6 (w : World) (os : OsState) : SharedT := ⟨t_6 w.params, 477, life0, gens0, drawn0, 835, os⟩
noncomputable def s_7 (w : World) (os : OsState) : SharedT := ⟨t_7 w.params, 525, life0, gens0, drawn0, 911, os⟩
noncomputable abbrev ann0 : Option Value := some (.ref 6)
theorem x_pre (w : World) (os : OsState) : PySem.W.Fast.tw15667345088766844465 PySem.W.Fast.tw14364793385576792824 pw w 11 ann0 12 ⟨boot_heap w.params, gens0, boot_drawn, boot_toks, os⟩ (topStub pw) = some (sA w os, ⟨PySem.W.Fast.tw11892475500146522536 PySem.W.Fast.tw14364793385576792824 cE, cE, q0, [topFrame q0]⟩) := by kernel_rfl
theorem r_pre (w : World) (os : OsState) : topGo treeTable pw w 11 ann0 12 ⟨boot_heap w.params, gens0, boot_drawn, boot_toks, os⟩ (topStub pw) = some (sA w os, ⟨denote treeTable cE, cE, q0, [topFrame q0]⟩) := by
 rw [PySem.W.Fast.te15667345088766844465, PySem.W.Fast.te14364793385576792824, PySem.W.Fast.te11892475500146522536]; exact x_pre w os
theorem r_block (w : World) (os : OsState) : segRun treeTable pw w 11 ann0 1 5 (sA w os) (blockOf bE env0 cE q0 [topFrame q0]) = some (.next, (s_b w os).abs, cE, pos_0) := by kernel_rfl
theorem x_1 (w : World) (os : OsState) : PySem.W.Fast.tw10110043849684766642 PySem.W.Fast.tw14364793385576792824 pw w 11 ann0 1 174 (s_b w os) (piecesOf sts_1 env0 cE pos_0 [topFrame q0]) = some (.next, s_1 w os, cE, pos_1) := by kernel_rfl
theorem r_1 (w : World) (os : OsState) : segRun treeTable pw w 11 ann0 1 174 (s_b w os).abs (piecesOf sts_1 env0 cE pos_0 [topFrame q0]) = some (.next, (s_1 w os).abs, cE, pos_1) := by
 refine segRun_of ?_
 rw [PySem.W.Fast.te10110043849684766642, PySem.W.Fast.te14364793385576792824]; exact x_1 w os
theorem x_2 (w : World) (os : OsState) : PySem.W.Fast.tw10110043849684766642 PySem.W.Fast.tw14364793385576792824 pw w 11 ann0 1 608 (s_1 w os) (piecesOf sts_2 env0 cE pos_1 [topFrame q0]) = some (.next, s_2 w os, cE, pos_2) := by kernel_rfl
theorem r_2 (w : World) (os : OsState) : segRun treeTable pw w 11 ann0 1 608 (s_1 w os).abs (piecesOf sts_2 env0 cE pos_1 [topFrame q0]) = some (.next, (s_2 w os).abs, cE, pos_2) := by
 refine segRun_of ?_
 rw [PySem.W.Fast.te10110043849684766642, PySem.W.Fast.te14364793385576792824]; exact x_2 w os
theorem x_3 (w : World) (os : OsState) : PySem.W.Fast.tw10110043849684766642 PySem.W.Fast.tw14364793385576792824 pw w 11 ann0 1 417 (s_2 w os) (piecesOf sts_3 env0 cE pos_2 [topFrame q0]) = some (.next, s_3 w os, cE, pos_3) := by kernel_rfl
theorem r_3 (w : World) (os : OsState) : segRun treeTable pw w 11 ann0 1 417 (s_2 w os).abs (piecesOf sts_3 env0 cE pos_2 [topFrame q0]) = some (.next, (s_3 w os).abs, cE, pos_3) := by
 refine segRun_of ?_
 rw [PySem.W.Fast.te10110043849684766642, PySem.W.Fast.te14364793385576792824]; exact x_3 w os
theorem x_4 (w : World) (os : OsState) : PySem.W.Fast.tw10110043849684766642 PySem.W.Fast.tw14364793385576792824 pw w 11 ann0 1 621 (s_3 w os) (piecesOf sts_4 env0 cE pos_3 [topFrame q0]) = some (.next, s_4 w os, cE, pos_4) := by kernel_rfl
theorem r_4 (w : World) (os : OsState) : segRun treeTable pw w 11 ann0 1 621 (s_3 w os).abs (piecesOf sts_4 env0 cE pos_3 [topFrame q0]) = some (.next, (s_4 w os).abs, cE, pos_4) := by
 refine segRun_of ?_
 rw [PySem.W.Fast.te10110043849684766642, PySem.W.Fast.te14364793385576792824]; exact x_4 w os
theorem x_5 (w : World) (os : OsState) : PySem.W.Fast.tw10110043849684766642 PySem.W.Fast.tw14364793385576792824 pw w 11 ann0 1 67 (s_4 w os) (piecesOf sts_5 env0 cE pos_4 [topFrame q0]) = some (.next, s_5 w os, cE, pos_5) := by kernel_rfl
theorem r_5 (w : World) (os : OsState) : segRun treeTable pw w 11 ann0 1 67 (s_4 w os).abs (piecesOf sts_5 env0 cE pos_4 [topFrame q0]) = some (.next, (s_5 w os).abs, cE, pos_5) := by
 refine segRun_of ?_
 rw [PySem.W.Fast.te10110043849684766642, PySem.W.Fast.te14364793385576792824]; exact x_5 w os
theorem x_6 (w : World) (os : OsState) : PySem.W.Fast.tw10110043849684766642 PySem.W.Fast.tw14364793385576792824 pw w 11 ann0 1 835 (s_5 w os) (piecesOf sts_6 env0 cE pos_5 [topFrame q0]) = some (.next, s_6 w os, cE, pos_6) := by kernel_rfl
theorem r_6 (w : World) (os : OsState) : segRun treeTable pw w 11 ann0 1 835 (s_5 w os).abs (piecesOf sts_6 env0 cE pos_5 [topFrame q0]) = some (.next, (s_6 w os).abs, cE, pos_6) := by
 refine segRun_of ?_
 rw [PySem.W.Fast.te10110043849684766642, PySem.W.Fast.te14364793385576792824]; exact x_6 w os
theorem x_7 (w : World) (os : OsState) : PySem.W.Fast.tw10110043849684766642 PySem.W.Fast.tw14364793385576792824 pw w 11 ann0 1 246 (s_6 w os) (piecesOf sts_7 env0 cE pos_6 [topFrame q0]) = some (.next, s_7 w os, cE, pos_7) := by kernel_rfl
theorem r_7 (w : World) (os : OsState) : segRun treeTable pw w 11 ann0 1 246 (s_6 w os).abs (piecesOf sts_7 env0 cE pos_6 [topFrame q0]) = some (.next, (s_7 w os).abs, cE, pos_7) := by
 refine segRun_of ?_
 rw [PySem.W.Fast.te10110043849684766642, PySem.W.Fast.te14364793385576792824]; exact x_7 w os
noncomputable def sZ (w : World) (os : OsState) : Shared := ⟨h_z w.params, gens0, drawn0, 911, os⟩
theorem x_fin (w : World) (os : OsState) : PySem.W.Fast.tw14082659384304107361 PySem.W.Fast.tw14364793385576792824 pw w 11 ann0 4 (s_7 w os).abs ⟨doneF .next, cE, pos_7, [topFrame q0]⟩ = some (sZ w os) := by kernel_rfl
theorem r_fin (w : World) (os : OsState) : topRun treeTable pw w 11 ann0 4 (s_7 w os).abs ⟨doneF .next, cE, pos_7, [topFrame q0]⟩ = some (sZ w os) := by
 rw [PySem.W.Fast.te14082659384304107361, PySem.W.Fast.te14364793385576792824]; exact x_fin w os
theorem body_eq : (sts_1 ++ (sts_2 ++ (sts_3 ++ (sts_4 ++ (sts_5 ++ (sts_6 ++ (sts_7 ++ []))))))) = bE := by kernel_rfl
theorem c_7 (w : World) (os : OsState) : topRun treeTable pw w 11 ann0 4 (s_7 w os).abs (restOf [] env0 cE pos_7 [topFrame q0]) = some (sZ w os) := r_fin w os
theorem c_6 (w : World) (os : OsState) : topRun treeTable pw w 11 ann0 (246 + 4) (s_6 w os).abs (restOf (sts_7 ++ []) env0 cE pos_6 [topFrame q0]) = some (sZ w os) := piece_app (r_7 w os) (c_7 w os)
theorem c_6n (w : World) (os : OsState) : topRun treeTable pw w 11 ann0 250 (s_6 w os).abs (restOf (sts_7 ++ []) env0 cE pos_6 [topFrame q0]) = some (sZ w os) := c_6 w os
theorem c_5 (w : World) (os : OsState) : topRun treeTable pw w 11 ann0 (835 + 250) (s_5 w os).abs (restOf (sts_6 ++ (sts_7 ++ [])) env0 cE pos_5 [topFrame q0]) = some (sZ w os) := piece_app (r_6 w os) (c_6n w os)
theorem c_5n (w : World) (os : OsState) : topRun treeTable pw w 11 ann0 1085 (s_5 w os).abs (restOf (sts_6 ++ (sts_7 ++ [])) env0 cE pos_5 [topFrame q0]) = some (sZ w os) := c_5 w os
theorem c_4 (w : World) (os : OsState) : topRun treeTable pw w 11 ann0 (67 + 1085) (s_4 w os).abs (restOf (sts_5 ++ (sts_6 ++ (sts_7 ++ []))) env0 cE pos_4 [topFrame q0]) = some (sZ w os) := piece_app (r_5 w os) (c_5n w os)
theorem c_4n (w : World) (os : OsState) : topRun treeTable pw w 11 ann0 1152 (s_4 w os).abs (restOf (sts_5 ++ (sts_6 ++ (sts_7 ++ []))) env0 cE pos_4 [topFrame q0]) = some (sZ w os) := c_4 w os
theorem c_3 (w : World) (os : OsState) : topRun treeTable pw w 11 ann0 (621 + 1152) (s_3 w os).abs (restOf (sts_4 ++ (sts_5 ++ (sts_6 ++ (sts_7 ++ [])))) env0 cE pos_3 [topFrame q0]) = some (sZ w os) := piece_app (r_4 w os) (c_4n w os)
theorem c_3n (w : World) (os : OsState) : topRun treeTable pw w 11 ann0 1773 (s_3 w os).abs (restOf (sts_4 ++ (sts_5 ++ (sts_6 ++ (sts_7 ++ [])))) env0 cE pos_3 [topFrame q0]) = some (sZ w os) := c_3 w os
theorem c_2 (w : World) (os : OsState) : topRun treeTable pw w 11 ann0 (417 + 1773) (s_2 w os).abs (restOf (sts_3 ++ (sts_4 ++ (sts_5 ++ (sts_6 ++ (sts_7 ++ []))))) env0 cE pos_2 [topFrame q0]) = some (sZ w os) := piece_app (r_3 w os) (c_3n w os)
theorem c_2n (w : World) (os : OsState) : topRun treeTable pw w 11 ann0 2190 (s_2 w os).abs (restOf (sts_3 ++ (sts_4 ++ (sts_5 ++ (sts_6 ++ (sts_7 ++ []))))) env0 cE pos_2 [topFrame q0]) = some (sZ w os) := c_2 w os
theorem c_1 (w : World) (os : OsState) : topRun treeTable pw w 11 ann0 (608 + 2190) (s_1 w os).abs (restOf (sts_2 ++ (sts_3 ++ (sts_4 ++ (sts_5 ++ (sts_6 ++ (sts_7 ++ [])))))) env0 cE pos_1 [topFrame q0]) = some (sZ w os) := piece_app (r_2 w os) (c_2n w os)
theorem c_1n (w : World) (os : OsState) : topRun treeTable pw w 11 ann0 2798 (s_1 w os).abs (restOf (sts_2 ++ (sts_3 ++ (sts_4 ++ (sts_5 ++ (sts_6 ++ (sts_7 ++ [])))))) env0 cE pos_1 [topFrame q0]) = some (sZ w os) := c_1 w os
theorem c_b (w : World) (os : OsState) : topRun treeTable pw w 11 ann0 (174 + 2798) (s_b w os).abs (restOf (sts_1 ++ (sts_2 ++ (sts_3 ++ (sts_4 ++ (sts_5 ++ (sts_6 ++ (sts_7 ++ []))))))) env0 cE pos_0 [topFrame q0]) = some (sZ w os) := piece_app (r_1 w os) (c_1n w os)
theorem c_bn (w : World) (os : OsState) : topRun treeTable pw w 11 ann0 2972 (s_b w os).abs (restOf (sts_1 ++ (sts_2 ++ (sts_3 ++ (sts_4 ++ (sts_5 ++ (sts_6 ++ (sts_7 ++ []))))))) env0 cE pos_0 [topFrame q0]) = some (sZ w os) := c_b w os
theorem c_block (w : World) (os : OsState) : topRun treeTable pw w 11 ann0 (5 + 2972) (sA w os) ⟨denote treeTable cE, cE, q0, [topFrame q0]⟩ = some (sZ w os) :=
 piece_block (r_block w os) (by rw [← body_eq]; exact c_bn w os)
theorem run0 (w : World) (os : OsState) : topRun treeTable pw w 11 ann0 (12 + (5 + 2972)) ⟨boot_heap w.params, gens0, boot_drawn, boot_toks, os⟩ (topStub pw) = some (sZ w os) := go_top (r_pre w os) (c_block w os)
noncomputable def NN : Nat := 3989
theorem open0 (w : World) : (fencedOpening treeTable pw w NN).map (fun s => (s.heap, s.gens, s.drawn, s.toks)) = some (boot_heap w.params, Array.mk [], boot_drawn, boot_toks) :=
 boot_open ∅ (by decide) (fun s => by kernel_rfl) w
theorem size0 (w : World) : ((boot_heap w.params).isNs mainGlobals && gens0.size == 0, (boot_heap w.params).objs.size, (boot_heap w.params).nsMap mainGlobals "__annotations__") = (true, 11, ann0) := by kernel_rfl
noncomputable def qv : Program := { pw with main := { pw.main with body := pw.main.body.drop 51 } }
noncomputable def bound0 : List Str := pw.boundNames
noncomputable def loose0 : List Str := bound0.filter fun n => n != ("law" : Str)
noncomputable def K (P : Params) : Frag := (nat_lit 2, boot_o_2 P) :: (nat_lit 3, o3_7 P) :: (nat_lit 11, eT) :: (nat_lit 13, o13_a) :: (nat_lit 15, eT) :: (nat_lit 17, o17_1) :: (nat_lit 18, eT) :: (nat_lit 20, o20_1) :: (nat_lit 21, o21_1) :: (nat_lit 22, eT) :: (nat_lit 24, eT) :: (nat_lit 25, eT) :: (nat_lit 27, o27_1) :: (nat_lit 28, o28_1) :: (nat_lit 29, eT) :: (nat_lit 31, eT) :: (nat_lit 32, eT) :: (nat_lit 34, o34_1) :: (nat_lit 35, o35_1) :: (nat_lit 36, eT) :: (nat_lit 37, o37_2) :: (nat_lit 38, o38_2 P) :: (nat_lit 39, eT) :: (nat_lit 41, o41_2) :: (nat_lit 43, eT) :: (nat_lit 45, o45_2) :: (nat_lit 46, eT) :: (nat_lit 48, o48_2) :: (nat_lit 49, o49_2) :: (nat_lit 50, eT) :: (nat_lit 52, o52_2) :: (nat_lit 53, eT) :: (nat_lit 55, o55_2) :: (nat_lit 56, o56_2) :: (nat_lit 57, eT) :: (nat_lit 59, o59_2) :: (nat_lit 60, eT) :: (nat_lit 62, o62_2) :: (nat_lit 63, o63_2) :: (nat_lit 64, eT) :: (nat_lit 66, o66_2) :: (nat_lit 67, eT) :: (nat_lit 69, o69_2) :: (nat_lit 70, o70_2) :: (nat_lit 71, eT) :: (nat_lit 73, o73_2) :: (nat_lit 74, eT) :: (nat_lit 76, o76_2) :: (nat_lit 77, o77_2) :: (nat_lit 78, eT) :: (nat_lit 80, o80_2) :: (nat_lit 81, eT) :: (nat_lit 83, o83_2) :: (nat_lit 84, o84_2) :: (nat_lit 85, eT) :: (nat_lit 87, o87_2) :: (nat_lit 88, eT) :: (nat_lit 90, o90_2) :: (nat_lit 91, o91_2) :: (nat_lit 92, eT) :: (nat_lit 94, o94_2) :: (nat_lit 95, eT) :: (nat_lit 97, o97_2) :: (nat_lit 98, o98_2) :: (nat_lit 99, eT) :: (nat_lit 101, o101_2) :: (nat_lit 102, eT) :: (nat_lit 104, o104_2) :: (nat_lit 105, o105_2) :: (nat_lit 106, eT) :: (nat_lit 108, o108_2) :: (nat_lit 109, eT) :: (nat_lit 111, o111_2) :: (nat_lit 112, o112_2) :: (nat_lit 113, eT) :: (nat_lit 115, o115_2) :: (nat_lit 116, eT) :: (nat_lit 118, o118_2) :: (nat_lit 119, o119_2) :: (nat_lit 120, o120_2) :: (nat_lit 121, o121_2 P) :: (nat_lit 122, o122_2) :: (nat_lit 123, o123_2) :: (nat_lit 124, o124_2) :: (nat_lit 125, o125_2) :: (nat_lit 126, o126_2) :: (nat_lit 127, eT) :: (nat_lit 129, o129_2) :: (nat_lit 130, eT) :: (nat_lit 132, o132_2) :: (nat_lit 133, o133_2) :: (nat_lit 134, eT) :: (nat_lit 136, o136_3) :: (nat_lit 137, eT) :: (nat_lit 139, o139_3) :: (nat_lit 140, o140_3) :: (nat_lit 141, eT) :: (nat_lit 143, o143_3) :: (nat_lit 144, eT) :: (nat_lit 146, o146_3) :: (nat_lit 147, o147_3) :: (nat_lit 148, eT) :: (nat_lit 150, o150_3) :: (nat_lit 151, eT) :: (nat_lit 153, o153_3) :: (nat_lit 154, o154_3) :: (nat_lit 155, eT) :: (nat_lit 157, o157_3) :: (nat_lit 158, eT) :: (nat_lit 160, o160_3) :: (nat_lit 161, o161_3) :: (nat_lit 162, eT) :: (nat_lit 164, o164_3) :: (nat_lit 165, eT) :: (nat_lit 167, o167_3) :: (nat_lit 168, o168_3) :: (nat_lit 169, eT) :: (nat_lit 171, o171_3) :: (nat_lit 172, eT) :: (nat_lit 174, o174_3) :: (nat_lit 175, o175_3) :: (nat_lit 176, eT) :: (nat_lit 178, o178_3) :: (nat_lit 179, eT) :: (nat_lit 181, o181_3) :: (nat_lit 182, o182_3) :: (nat_lit 183, eT) :: (nat_lit 185, o185_3) :: (nat_lit 186, eT) :: (nat_lit 188, o188_3) :: (nat_lit 189, o189_3) :: (nat_lit 190, eT) :: (nat_lit 192, o192_3) :: (nat_lit 193, eT) :: (nat_lit 195, o195_3) :: (nat_lit 196, o196_3) :: (nat_lit 197, o197_3) :: (nat_lit 198, o198_3) :: (nat_lit 199, o199_3) :: (nat_lit 200, eT) :: (nat_lit 202, eT) :: (nat_lit 203, eT) :: (nat_lit 205, o205_3) :: (nat_lit 206, o206_3) :: (nat_lit 207, eT) :: (nat_lit 209, o209_3) :: (nat_lit 210, eT) :: (nat_lit 212, o212_3) :: (nat_lit 213, o213_3) :: (nat_lit 214, eT) :: (nat_lit 216, o216_3) :: (nat_lit 217, eT) :: (nat_lit 219, o219_3) :: (nat_lit 220, o220_3) :: (nat_lit 221, eT) :: (nat_lit 222, o222_4) :: (nat_lit 223, o223_4 P) :: (nat_lit 224, eT) :: (nat_lit 226, o226_4) :: (nat_lit 228, o228_4) :: (nat_lit 229, eT) :: (nat_lit 231, o231_4) :: (nat_lit 232, eT) :: (nat_lit 234, o234_4) :: (nat_lit 235, o235_4) :: (nat_lit 236, eT) :: (nat_lit 238, o238_4) :: (nat_lit 239, eT) :: (nat_lit 241, o241_4) :: (nat_lit 242, o242_4) :: (nat_lit 243, eT) :: (nat_lit 245, o245_4) :: (nat_lit 246, eT) :: (nat_lit 248, o248_4) :: (nat_lit 249, o249_4) :: (nat_lit 250, eT) :: (nat_lit 252, o252_4) :: (nat_lit 253, eT) :: (nat_lit 255, o255_4) :: (nat_lit 256, o256_4) :: (nat_lit 257, eT) :: (nat_lit 259, o259_4) :: (nat_lit 260, eT) :: (nat_lit 262, o262_4) :: (nat_lit 263, o263_4) :: (nat_lit 264, eT) :: (nat_lit 266, o266_4) :: (nat_lit 267, eT) :: (nat_lit 269, o269_4) :: (nat_lit 270, o270_4) :: (nat_lit 271, eT) :: (nat_lit 273, o273_4) :: (nat_lit 274, eT) :: (nat_lit 276, o276_4) :: (nat_lit 277, o277_4) :: (nat_lit 278, eT) :: (nat_lit 280, o280_4) :: (nat_lit 281, eT) :: (nat_lit 283, o283_4) :: (nat_lit 284, o284_4) :: (nat_lit 285, o285_4) :: (nat_lit 286, o286_4 P) :: (nat_lit 287, o287_4) :: (nat_lit 288, o288_4) :: (nat_lit 289, o289_4) :: (nat_lit 290, o290_4) :: (nat_lit 291, o291_4) :: (nat_lit 292, eT) :: (nat_lit 294, o294_4) :: (nat_lit 295, eT) :: (nat_lit 297, o297_4) :: (nat_lit 298, o298_4) :: (nat_lit 299, eT) :: (nat_lit 301, o301_4) :: (nat_lit 302, eT) :: (nat_lit 304, o304_4) :: (nat_lit 305, o305_4) :: (nat_lit 306, o306_4) :: (nat_lit 307, eT) :: (nat_lit 309, o309_4) :: (nat_lit 310, eT) :: (nat_lit 312, o312_4) :: (nat_lit 313, o313_4) :: (nat_lit 314, eT) :: (nat_lit 316, o316_4) :: (nat_lit 317, eT) :: (nat_lit 319, o319_4) :: (nat_lit 320, o320_4) :: (nat_lit 321, eT) :: (nat_lit 323, o323_5) :: (nat_lit 324, eT) :: (nat_lit 326, o326_5) :: (nat_lit 327, o327_5) :: (nat_lit 328, eT) :: (nat_lit 330, o330_5) :: (nat_lit 331, eT) :: (nat_lit 333, o333_5) :: (nat_lit 334, o334_5) :: (nat_lit 335, eT) :: (nat_lit 336, o336_6) :: (nat_lit 337, o337_6 P) :: (nat_lit 338, eT) :: (nat_lit 340, o340_6) :: (nat_lit 342, o342_6) :: (nat_lit 343, eT) :: (nat_lit 345, o345_6) :: (nat_lit 346, eT) :: (nat_lit 348, o348_6) :: (nat_lit 349, o349_6) :: (nat_lit 350, o350_6) :: (nat_lit 351, eT) :: (nat_lit 353, o353_6) :: (nat_lit 354, eT) :: (nat_lit 356, o356_6) :: (nat_lit 357, o357_6) :: (nat_lit 358, eT) :: (nat_lit 360, o360_6) :: (nat_lit 361, eT) :: (nat_lit 363, o363_6) :: (nat_lit 364, o364_6) :: (nat_lit 365, eT) :: (nat_lit 367, o367_6) :: (nat_lit 368, eT) :: (nat_lit 370, o370_6) :: (nat_lit 371, o371_6) :: (nat_lit 372, eT) :: (nat_lit 374, o374_6) :: (nat_lit 375, eT) :: (nat_lit 377, o377_6) :: (nat_lit 378, o378_6) :: (nat_lit 379, eT) :: (nat_lit 381, o381_6) :: (nat_lit 382, eT) :: (nat_lit 384, o384_6) :: (nat_lit 385, o385_6) :: (nat_lit 386, eT) :: (nat_lit 388, o388_6) :: (nat_lit 389, eT) :: (nat_lit 391, o391_6) :: (nat_lit 392, o392_6) :: (nat_lit 393, eT) :: (nat_lit 395, o395_6) :: (nat_lit 396, eT) :: (nat_lit 398, o398_6) :: (nat_lit 399, o399_6) :: (nat_lit 400, eT) :: (nat_lit 402, o402_6) :: (nat_lit 403, eT) :: (nat_lit 405, o405_6) :: (nat_lit 406, o406_6) :: (nat_lit 407, eT) :: (nat_lit 409, o409_6) :: (nat_lit 410, eT) :: (nat_lit 412, o412_6) :: (nat_lit 413, o413_6) :: (nat_lit 414, eT) :: (nat_lit 416, o416_6) :: (nat_lit 417, eT) :: (nat_lit 419, o419_6) :: (nat_lit 420, o420_6) :: (nat_lit 421, eT) :: (nat_lit 423, o423_6) :: (nat_lit 424, eT) :: (nat_lit 426, o426_6) :: (nat_lit 427, o427_6) :: (nat_lit 428, eT) :: (nat_lit 430, o430_6) :: (nat_lit 431, eT) :: (nat_lit 433, o433_6) :: (nat_lit 434, o434_6) :: (nat_lit 435, eT) :: (nat_lit 437, o437_6) :: (nat_lit 438, eT) :: (nat_lit 440, o440_6) :: (nat_lit 441, o441_6) :: (nat_lit 442, eT) :: (nat_lit 444, o444_6) :: (nat_lit 445, eT) :: (nat_lit 447, o447_6) :: (nat_lit 448, o448_6) :: (nat_lit 449, eT) :: (nat_lit 451, o451_6) :: (nat_lit 452, eT) :: (nat_lit 454, o454_6) :: (nat_lit 455, o455_6) :: (nat_lit 456, eT) :: (nat_lit 458, o458_6) :: (nat_lit 459, eT) :: (nat_lit 461, o461_6) :: (nat_lit 462, o462_6) :: (nat_lit 463, eT) :: (nat_lit 465, o465_6) :: (nat_lit 466, eT) :: (nat_lit 468, o468_6) :: (nat_lit 469, o469_6) :: (nat_lit 470, o470_6) :: (nat_lit 471, o471_6 P) :: (nat_lit 472, o472_6) :: (nat_lit 473, o473_6) :: (nat_lit 474, o474_6) :: (nat_lit 475, o475_6) :: (nat_lit 476, o476_6) :: (nat_lit 477, o477_7) :: (nat_lit 478, eT) :: (nat_lit 480, o480_7) :: (nat_lit 481, eT) :: (nat_lit 483, o483_7) :: (nat_lit 484, o484_7) :: (nat_lit 485, eT) :: (nat_lit 487, o487_7) :: (nat_lit 488, eT) :: (nat_lit 490, o490_7) :: (nat_lit 491, o491_7) :: (nat_lit 492, eT) :: (nat_lit 494, o494_7) :: (nat_lit 495, eT) :: (nat_lit 497, o497_7) :: (nat_lit 498, o498_7) :: (nat_lit 499, eT) :: (nat_lit 501, o501_7) :: (nat_lit 502, eT) :: (nat_lit 504, o504_7) :: (nat_lit 505, o505_7) :: (nat_lit 506, eT) :: (nat_lit 508, o508_7) :: (nat_lit 509, eT) :: (nat_lit 511, o511_7) :: (nat_lit 512, o512_7) :: (nat_lit 513, eT) :: (nat_lit 515, o515_7) :: (nat_lit 516, eT) :: (nat_lit 518, o518_7) :: (nat_lit 519, o519_7) :: (nat_lit 520, eT) :: (nat_lit 523, o523_7) :: (nat_lit 524, o524_7) :: []
noncomputable def asK : List Addr := [2, 3, 11, 13, 15, 17, 18, 20, 21, 22, 24, 25, 27, 28, 29, 31, 32, 34, 35, 36, 37, 38, 39, 41, 43, 45, 46, 48, 49, 50, 52, 53, 55, 56, 57, 59, 60, 62, 63, 64, 66, 67, 69, 70, 71, 73, 74, 76, 77, 78, 80, 81, 83, 84, 85, 87, 88, 90, 91, 92, 94, 95, 97, 98, 99, 101, 102, 104, 105, 106, 108, 109, 111, 112, 113, 115, 116, 118, 119, 120, 121, 122, 123, 124, 125, 126, 127, 129, 130, 132, 133, 134, 136, 137, 139, 140, 141, 143, 144, 146, 147, 148, 150, 151, 153, 154, 155, 157, 158, 160, 161, 162, 164, 165, 167, 168, 169, 171, 172, 174, 175, 176, 178, 179, 181, 182, 183, 185, 186, 188, 189, 190, 192, 193, 195, 196, 197, 198, 199, 200, 202, 203, 205, 206, 207, 209, 210, 212, 213, 214, 216, 217, 219, 220, 221, 222, 223, 224, 226, 228, 229, 231, 232, 234, 235, 236, 238, 239, 241, 242, 243, 245, 246, 248, 249, 250, 252, 253, 255, 256, 257, 259, 260, 262, 263, 264, 266, 267, 269, 270, 271, 273, 274, 276, 277, 278, 280, 281, 283, 284, 285, 286, 287, 288, 289, 290, 291, 292, 294, 295, 297, 298, 299, 301, 302, 304, 305, 306, 307, 309, 310, 312, 313, 314, 316, 317, 319, 320, 321, 323, 324, 326, 327, 328, 330, 331, 333, 334, 335, 336, 337, 338, 340, 342, 343, 345, 346, 348, 349, 350, 351, 353, 354, 356, 357, 358, 360, 361, 363, 364, 365, 367, 368, 370, 371, 372, 374, 375, 377, 378, 379, 381, 382, 384, 385, 386, 388, 389, 391, 392, 393, 395, 396, 398, 399, 400, 402, 403, 405, 406, 407, 409, 410, 412, 413, 414, 416, 417, 419, 420, 421, 423, 424, 426, 427, 428, 430, 431, 433, 434, 435, 437, 438, 440, 441, 442, 444, 445, 447, 448, 449, 451, 452, 454, 455, 456, 458, 459, 461, 462, 463, 465, 466, 468, 469, 470, 471, 472, 473, 474, 475, 476, 477, 478, 480, 481, 483, 484, 485, 487, 488, 490, 491, 492, 494, 495, 497, 498, 499, 501, 502, 504, 505, 506, 508, 509, 511, 512, 513, 515, 516, 518, 519, 520, 523, 524]
theorem asK_eq (P : Params) : asK = (K P).map (·.1) := by kernel_rfl
theorem look1 (w : World) (os : OsState) : (staticsOk (importedModules pw.main.body) (boot_heap w.params) (h_z w.params) && namesBound pw (h_z w.params) && gensDone (sZ w os) && laidKept (boot_heap w.params) (h_z w.params)) = true := by kernel_rfl
theorem look2x (w : World) (os : OsState) : PySem.W.Fast.tw4187177175401517315 qv loose0 (importedModules pw.main.body) (fun _ => true) true (sZ w os) = openGood qv loose0 := by kernel_rfl
theorem look2 (w : World) (os : OsState) : openSeen qv loose0 (importedModules pw.main.body) (fun _ => true) true (sZ w os) = openGood qv loose0 := by
 rw [PySem.W.Fast.te4187177175401517315]; exact look2x w os
theorem look3 (w : World) (os : OsState) : asK.map (sZ w os).heap.get? = (K w.params).map (fun p => some p.2) := by kernel_rfl
theorem left0 : LeftO pw qv loose0 (fun _ => true) (fun s => asK.map s.heap.get?) (fun w => (K w.params).map fun p => some p.2) NN true :=
 LeftO.of_pieces (H₀ := boot_heap) (H₁ := h_z) (gs₀ := gens0) (gs₁ := gens0) (d₀ := boot_drawn) (d₁ := drawn0) (k₀ := boot_toks) (k₁ := 911) (m₀ := 11) (ann := ann0) (M := 12 + (5 + 2972))
  open0 size0 run0 (by decide) (fun w => by
   funext os
   exact Prod.ext (look1 w os) (Prod.ext (look2 w os) (look3 w os)))
section
set_option tactic.hygienic false
abbrev lo0 : List Str := looseW qv loose0
abbrev TopAt (mean : ExcName → Option Value) (mg mb : Str → Option Value) (h : Heap) : Prop := Top qv lo0 mean mg mb h
section
variable {w : World} {A : Around} {E : Value → Shared → Prop} {s : Shared} {h₀ : Heap} {L : Addr} {m mg mb : Str → Option Value} {mean : ExcName → Option Value} {news : List (Addr × Obj)} {Q : Value → Shared → Prop}
theorem news_sub {h₀ h : Heap} {L : Addr} {l l' : List (Addr × Obj)} (N : News h₀ L h l) (k : ∀ p ∈ l', p ∈ l) : News h₀ L h l' := fun p hp => N p (k p hp)
theorem news_left {h₀ h : Heap} {L : Addr} {l l' : List (Addr × Obj)} (N : News h₀ L h (l ++ l')) : News h₀ L h l := news_sub N fun _ hp => List.mem_append.mpr (.inl hp)
noncomputable def Room (A : Around) (d : Nat) : Prop := A.depth + d ≤ 700 ∧ A.units + 8 * d ≤ 5000 ∧ A.handled = none
theorem Room.le {d d' : Nat} (r : Room A d) (h : d' ≤ d) : Room A d' := ⟨by have := r.1; lia, by have := r.2.1; lia, r.2.2⟩
theorem Room.deeper {d : Nat} {env : Env} (r : Room A (d + 1)) : Room (A.deeper env) d := ⟨by have := r.1; show A.depth + 1 + d ≤ 700; lia, by have := r.2.1; show A.units + 3 + 8 * d ≤ 5000; lia, r.2.2⟩
theorem Room.hd {d : Nat} (r : Room A d) : A.handled = none := r.2.2
theorem Room.lt {d : Nat} (r : Room A d) : A.depth < recursionLimit := by have := r.1; simp only [recursionLimit]; lia
structure NewsX (hs : Heap) (led₀ : List (Addr × Obj)) (h₀ : Heap) (L : Addr) (h : Heap) (led : List (Addr × Obj)) : Prop where
 news : News h₀ L h led
 keep : ∀ b o, hs.get? b = some o → (∀ p ∈ led₀, p.1 ≠ b) → h.get? b = some o
 new : ∀ p ∈ led, hs.get? p.1 = none ∨ ∃ q ∈ led₀, q.1 = p.1
theorem newsX_sub {hs h₀ h : Heap} {L : Addr} {l₀ l l' : List (Addr × Obj)} (N : NewsX hs l₀ h₀ L h l) (k : ∀ p ∈ l', p ∈ l) : NewsX hs l₀ h₀ L h l' := ⟨news_sub N.news k, N.keep, fun p hp => N.new p (k p hp)⟩
theorem newsX_base {hs h₀ h : Heap} {L : Addr} {l₀ l₁ l : List (Addr × Obj)} (N : NewsX hs l₀ h₀ L h l) (k : ∀ p ∈ l₀, p ∈ l₁) : NewsX hs l₁ h₀ L h l :=
 ⟨N.news, fun b o e h => N.keep b o e fun p hp => h p (k p hp), fun p hp => (N.new p hp).imp id fun ⟨q, hq, e⟩ => ⟨q, k q hq, e⟩⟩
structure Does (w : World) (f : Addr) (d : Nat) (args : List Value) (led : List (Addr × Obj)) (post : Value → List (Addr × Obj) → Prop) : Prop where
 run : ∀ {A : Around} {E : Value → Shared → Prop} {s : Shared} {h₀ : Heap} {L : Addr} {m mg mb : Str → Option Value} {mean : ExcName → Option Value} {Q : Value → Shared → Prop},
  Room A d → Fr h₀ L s.heap m → News h₀ L s.heap led → (K w.params).In h₀ → TopAt mean mg mb h₀ →
  (∀ h' tk r led', post r led' → Fr h₀ L h' m → NewsX s.heap led h₀ L h' led' → Q r { s with heap := h', toks := tk }) →
  codeAny (model pw w) A (.call (.ref f) ⟨args, []⟩) (fun r s' => match r with | .ok (.ret v) => Q v s' | .ok _ => False | .error e => E e s') s
theorem Does.use {f : Addr} {d d' : Nat} {args : List Value} {led : List (Addr × Obj)} {post : Value → List (Addr × Obj) → Prop} (D : Does w f d args led post)
  (r : Room A d') (hd : d ≤ d') (F : Fr h₀ L s.heap m) (N : News h₀ L s.heap led) (X : (K w.params).In h₀) (T : TopAt mean mg mb h₀)
  (h : ∀ h' tk r led', post r led' → Fr h₀ L h' m → News h₀ L h' led' → Q r { s with heap := h', toks := tk }) : wpAny (model pw w) A (PySem.call (.ref f) args []) Q E s := wpAny_call (D.run (r.le hd) F N X T fun h' tk r led' a b c => h h' tk r led' a b c.news)
noncomputable def Back (hs : Heap) (led₀ : List (Addr × Obj)) (h₀ : Heap) (L : Addr) (m : Str → Option Value) (g : Heap) (Q : Value → Shared → Prop) (v : Value) (s' : Shared) : Prop :=
 ∃ L' m' news', Fr g L' s'.heap m' ∧ News g L' s'.heap news' ∧ (Fr h₀ L s'.heap m → NewsX hs led₀ h₀ L s'.heap news' → Q v s')
theorem locs1 {names : List (Str × NameKind)} {binds : List (Str × Value)} (h : (binds.all fun x => decide (names.lookup x.1 = some .local)) = true) : ∀ y ∈ binds, names.lookup y.1 = some .local := fun x hx => of_decide_eq_true (List.all_eq_true.mp h x hx)
theorem back_ {hs g : Heap} {led₀ : List (Addr × Obj)} {L' : Addr} {m' : Str → Option Value} {news' : List (Addr × Obj)} {v : Value} {s' : Shared} (F' : Fr g L' s'.heap m') (N' : News g L' s'.heap news')
  (k : Fr h₀ L s'.heap m → NewsX hs led₀ h₀ L s'.heap news' → Q v s') : Back hs led₀ h₀ L m g Q v s' := ⟨L', m', news', F', N', k⟩
theorem enter_fn {d : Nat} {f : Addr} {name qual : Str} {params : Arguments} {body : List Stmt} {scope : Scope} {snames : List (Str × NameKind)} {smore} {dV kV doc pm cdv ct oc : Value} {an od : Option Addr} {osl : Array (Option Value)} {fd : FuncData} {args : Args} {binds : List (Str × Value)}
  (F : Fr h₀ L s.heap m) (N : News h₀ L s.heap news) (X : (K w.params).In h₀) (T : TopAt mean mg mb h₀)
  (ho : (K w.params).lookup f = some ⟨oc, od, .func fd, osl⟩) (hfd : fd = fnOf name qual params body scope dV kV doc pm an cdv ct) (hsc : scope = ⟨.function, snames, false, false, smore⟩) (hcd : codeIn (K w.params) cdv qual = true) (hr : Room A (d + 1))
  (hbind : BindsTo s (fnOf name qual params body ⟨.function, snames, false, false, smore⟩ dV kV doc pm an cdv ct) args binds) (hloc : ∀ y ∈ binds, snames.lookup y.1 = some .local)
  (hcell : ∀ x ∈ snames, x.2 ≠ .cell)
  (h : ∀ g L' h₁, Fr g L' h₁ (fun y => binds.reverse.lookup y) → News g L' h₁ news → (K w.params).In g → TopAt mean mg mb g → (∀ p ∈ news, p.1 < L') → Room (A.deeper (envOf qual ⟨.function, snames, false, false, smore⟩ L' f cdv)) d →
   wpAny (model pw w) (A.deeper (envOf qual ⟨.function, snames, false, false, smore⟩ L' f cdv)) (execs body (envOf qual ⟨.function, snames, false, false, smore⟩ L' f cdv))
    (fun fl s' => Back s.heap news h₀ L m g Q (match fl with | .ret v => v | _ => .none) s') (fun _ _ => False) { s with heap := h₁, toks := s.toks + binds.length }) :
  codeAny (model pw w) A (.call (.ref f) args) (fun r s' => match r with | .ok (.ret v) => Q v s' | .ok _ => False | .error e => E e s') s := by
 subst hsc
 subst hfd
 have nm : ∀ b o, h₀.get? b = some o → b ∉ news.map (·.1) := fun b o e q => by
  obtain ⟨p, hp, rfl⟩ := List.mem_map.mp q
  rw [(N p hp).2.2] at e; cases e
 have st : ∀ b o, h₀.get? b = some o → (hideAll s.heap (news.map (·.1))).get? b = some o := fun b o e => hideAll_get _ (F.keep b o e) (nm b o e)
 obtain ⟨oL, es, ep, hL, hLd, hLk, hLf⟩ := F.ns
 have nL : L ∉ news.map (·.1) := fun q => by
  obtain ⟨p, hp, e⟩ := List.mem_map.mp q
  exact (N p hp).2.1 e
 have hLg := hideAll_get (news.map (·.1)) hL nL
 refine codeAny_call_def (fd := fnOf name qual params body ⟨.function, snames, false, false, smore⟩ dV kV doc pm an cdv ct) (body := body) (binds := binds) hr.lt ((X.keeps F.keep) _ _ ho) rfl (T.nolimit.keeps F.keep) (codeRec_of (X.keeps F.keep) hcd) rfl hbind hcell hloc (fun h₁ hns hk₁ => ?_) rfl rfl rfl
 refine wpAny_mono (h (hideAll s.heap (news.map (·.1))) s.heap.objs.size h₁ ⟨hns, fun b o e => hk₁ b o (of_hideAll _ e), Nat.le_of_eq (hideAll_size _ _)⟩
  (fun p hp => ⟨hk₁ _ _ (N p hp).1, Nat.ne_of_lt (Heap.lt_size (N p hp).1), hideAll_none _ (List.mem_map_of_mem hp)⟩) (X.keeps st) (T.keeps st) (fun p hp => Heap.lt_size (N p hp).1) hr.deeper) (fun fl s' hl => ?_) (fun _ _ y => y.elim)
 obtain ⟨L', m', news', F', N', k⟩ := hl
 refine k ⟨⟨oL, es, ep, F'.keep L oL hLg, hLd, hLk, hLf⟩, fun b o e => F'.keep b o (st b o e), F.above⟩ ⟨fun p hp => ⟨(N' p hp).1, fun q => ?_, ?_⟩, fun b o e hb => F'.keep b o (hideAll_get _ e fun q => ?_), fun p hp => ?_⟩
 ·have := (N' p hp).2.2; rw [q, hLg] at this; cases this
 ·cases q : h₀.get? p.1 with
  | none => rfl
  | some o => have := (N' p hp).2.2; rw [st _ _ q] at this; cases this
 ·obtain ⟨p, hp, e'⟩ := List.mem_map.mp q
  exact hb p hp e'
 ·cases q : s.heap.get? p.1 with
  | none => exact .inl rfl
  | some o =>
   refine .inr (Classical.byContradiction fun hn => ?_)
   have := (N' p hp).2.2
   rw [hideAll_get _ q fun hm => hn (by obtain ⟨z, hz, e⟩ := List.mem_map.mp hm; exact ⟨z, hz, e⟩)] at this
   cases this
end
theorem Does.frame {w : World} {f : Addr} {d : Nat} {args : List Value} {led own : List (Addr × Obj)} {post : Value → List (Addr × Obj) → Prop} (hd : ∀ p ∈ led, ∀ q ∈ own, p.1 ≠ q.1) (D : Does w f d args led post) :
  Does w f d args (led ++ own) (fun r l => ∃ l', l = l' ++ own ∧ (∀ p ∈ l', ∀ q ∈ own, p.1 ≠ q.1) ∧ post r l') := ⟨fun {A E s h₀ L m mg mb mean Q} r F N X T k => D.run r F (news_left N) X T fun h' tk v l hp F' N' => by
 have No : News h₀ L s.heap own := news_sub N fun _ h => List.mem_append.mpr (.inr h)
 refine k h' tk v (l ++ own) ⟨l, rfl, fun p hp q hq e => ?_, hp⟩ F' ⟨fun p hp => ?_, fun b o e hb => N'.keep b o e fun p hp => hb p (List.mem_append.mpr (.inl hp)), fun p hp => ?_⟩
 ·rcases N'.new p hp with e' | ⟨z, hz, e'⟩
  ·rw [e, (No q hq).1] at e'; cases e'
  ·exact hd z hz q hq (e'.trans e)
 ·rcases List.mem_append.mp hp with h | h
  ·exact N'.news p h
  ·exact ⟨N'.keep _ _ (No p h).1 fun q hq e => hd q hq p h e, (No p h).2⟩
 ·rcases List.mem_append.mp hp with h | h
  ·exact (N'.new p h).imp id fun ⟨q, hq, e⟩ => ⟨q, List.mem_append.mpr (.inl hq), e⟩
  ·exact .inr ⟨p, List.mem_append.mpr (.inr h), rfl⟩⟩
theorem Does.sub {w : World} {f : Addr} {d : Nat} {args : List Value} {led led₁ : List (Addr × Obj)} {post : Value → List (Addr × Obj) → Prop} (hs : ∀ p ∈ led, p ∈ led₁) (D : Does w f d args led post) : Does w f d args led₁ post :=
 ⟨fun r F N X T k => D.run r F (news_sub N hs) X T fun h' tk v l hp F' N' => k h' tk v l hp F' (newsX_base N' hs)⟩
theorem Does.weak {w : World} {f : Addr} {d : Nat} {args : List Value} {led : List (Addr × Obj)} {post post' : Value → List (Addr × Obj) → Prop} (D : Does w f d args led post)
  (h : ∀ r l, post r l → ∃ l', post' r l' ∧ ∀ p ∈ l', p ∈ l) : Does w f d args led post' := ⟨fun r F N X T k => D.run r F N X T fun h' tk r l hp F' N' => by
 obtain ⟨l', hp', hs⟩ := h r l hp
 exact k h' tk r l' hp' F' (newsX_sub N' hs)⟩
end
def dkw : Option (DefRec × List (Str × Expr)) := defOf qv "law"
def dlaw : DefRec := match dkw with
 | some x => x.1
 | none => ⟨"", ⟨[], [], none, [], [], none, []⟩, [], ⟨.function, [], false, false, []⟩, default⟩
theorem dkw_eq : defOf qv "law" = some (dlaw, []) := by kernel_rfl
def Yf0 (s : Shared) : List (Option Obj) := asK.map s.heap.get?
def Ya0 (w : World) : List (Option Obj) := (K w.params).map fun p => some p.2
theorem left1 : LeftO PySem.Challenge.rw_rh0099_01.row.prog qv loose0 (fun _ => true) Yf0 Ya0 NN true := left0
def Core : Prop := ∀ (w : World) (s₁ : Shared) (mg mb : Str → Option Value) (mean : ExcName → Option Value) (l : Addr) (vs : List Value) (ns : List Int),
 (K w.params).In s₁.heap → TopAt mean mg mb s₁.heap → s₁.gens = #[] → s₁.heap.IsList l vs.toArray → IntsAre vs ns → ns.length ≤ 63 → (PyData.list (ns.map PyData.int)).layable0 = true →
 wpAny (model pw w) callerA (PySem.call (.ref 524) [.ref l]) (fun v s' => v = .bool true ∧ (∀ b o, s₁.heap.get? b = some o → s'.heap.get? b = some o) ∧ s'.os = s₁.os ∧ s'.gens = #[]) (fun _ _ => False) s₁
theorem law_at (P : Params) : nsIn (K P) mainGlobals "law" = some (some (.ref 524)) := by kernel_rfl
theorem hold (core : Core) : PySem.Challenge.rw_rh0099_01.Holds := by
 refine PySem.W.holds_law ∅ fun said => ?_
 refine PySem.W.holds_open (q := qv) (loose := loose0) (Xt := fun _ => true) (XP := fun _ _ => True) (Yf := Yf0) (Ya := Ya0) (YP := fun w h => (K w.params).In h) (N := NN) (d := dlaw) (kwd := []) left1
  (fun w s e => Frag.in_of (asK_eq w.params) e) (fun w h h' x k => Frag.In.keeps x k) (fun _ _ => trivial) (fun _ _ _ _ _ => trivial) dkw_eq ∅ ∅ (fun s _ => recFacts_nil rfl) ∅ (by assumption) (by decide +kernel) ⟨rfl, rfl, rfl, rfl, rfl, by decide +kernel⟩ ?hw ?hc
 case hw => w_witness2
 case hc =>
  intro w s₀ s₁ mg mb G Y fa o pm cd doc dV kV ho hd hcd hD hmg hg args vals as hpre hlay hrd hwl hlo
  have T := G.T
  have he : mg dlaw.name = some (.ref 524) := mg_of Y T.g (law_at _)
  obtain rfl : fa = 524 := by rw [he] at hmg; cases hmg; rfl
  wrow_args hpre hlay hrd hwl hlo
  rename_i ns _ _ hL _ _ _ _ l vs _ hl _ _ _ hI _ hc _
  refine wpAny_mono (core w s₁ mg mb _ l vs ns Y T hg hl hI (by omega) hL) (fun v s' h => ?_) (fun _ _ h => h.elim)
  obtain ⟨rfl, h1, h2, h3⟩ := h
  exact GoodW.toG ⟨.inl ⟨_, .bool true, [], rfl, fun _ => rfl, .bool true, (by first | kernel_rfl! | wrow_post), fun _ => ⟨.nil, fun _ ha => nomatch ha⟩⟩, h1, h2, h3⟩
section
set_option tactic.hygienic false
section
variable {w : World} {A : Around} {E : Value → Shared → Prop} {s : Shared} {h₀ : Heap} {env : Env} {m : Str → Option Value} {led : List (Addr × Obj)} {Q : Flow → Shared → Prop} {x : Str} {body : List Stmt}
noncomputable def TurnEnd (h₀ : Heap) (L : Addr) (own : List (Addr × Obj)) (I : Addr) (J : (Str → Option Value) → List (Addr × Obj) → Prop) (s₁ s₂ : Shared) : Prop :=
 ∃ h' tk m₂ led₂, s₂ = { s₁ with heap := h', toks := tk } ∧ Fr h₀ L h' m₂ ∧ News h₀ L h' (led₂ ++ own) ∧ (∀ p ∈ led₂, p.1 ≠ I) ∧ J m₂ led₂
noncomputable def TurnPost (h₀ : Heap) (L : Addr) (own : List (Addr × Obj)) (I : Addr) (J : (Str → Option Value) → List (Addr × Obj) → Prop) (s₁ : Shared) (Q : Flow → Shared → Prop) (f : Flow) (s₂ : Shared) : Prop := match f with
 | .ret v => Q (.ret v) s₂
 | .brk => Q .next s₂
 | .next => TurnEnd h₀ L own I J s₁ s₂
 | .cont => TurnEnd h₀ L own I J s₁ s₂
noncomputable def IterDo (w : World) (A : Around) (h₀ : Heap) (env : Env) (x : Str) (body : List Stmt) (Q : Flow → Shared → Prop) (E : Value → Shared → Prop) (xv : Value) (s₁ : Shared) : Prop :=
 wpAny (model pw w) A (pyIter xv) (fun it s₂ => LoopAtV pw w A h₀ env x body Q E it s₂) E s₁
theorem for_mine {m₀ : Str → Option Value} {px pos : Pos} {iter : Expr} (F : Fr h₀ env.locals s.heap m₀)
  (h : wpAny (model pw w) A (eval iter env) (fun xv s₁ => IterDo w A h₀ env x body Q E xv s₁) E s) (hx : env.kindOf x = some .local)
  (hp : (env.scope.kind == .class || (env.scope.kind == .module && env.locals != env.globals)) = false)
  (hs : ∀ x, foldedSetIterable iter env x = pure x)
  (hE : PassesOwn (model pw w) A env E) :
  wpAny (model pw w) A (exec (.For (.Name x px) iter body [] pos) env) Q E s := For_invV h₀ hx hp h hs hE
end
end
section
theorem nolen_rv : typeLookup (.type "list_reverseiterator") "__len__" = pure none := by rw [typeLookup_type, builtinLookup_eq_fast]; kernel_rfl
theorem hint_rv : typeLookup (.type "list_reverseiterator") "__length_hint__" = pure (some (.builtin "list_reverseiterator.__length_hint__")) := by rw [typeLookup_type, builtinLookup_eq_fast]; kernel_rfl
section
variable {w : World} {A : Around} {E : Value → Shared → Prop} {s : Shared} {I l : Addr} {items : Array Value}
theorem collect_rev {Q : List Value → Shared → Prop} (hh : A.handled = none) (hne : l ≠ I) (hit : s.heap.IsRevIter I l ((items.size : Int) - 1)) (hl : s.heap.IsList l items) (hn : items.size ≤ sizeLine)
  (hQ : ∀ h' tk, (∀ b o, b ≠ I → s.heap.get? b = some o → h'.get? b = some o) → Q items.toList.reverse { s with heap := h', toks := tk }) : wpAny (model pw w) A (collect (.ref I)) Q E s := by
 have W := (Walks.listRev (prog := pw) (w := w) (A := A.in1) hh I l hne items).toS
 have hT : ∀ i (s : Shared), (i ≤ items.size ∧ s.heap.IsRevIter I l ((items.size : Int) - 1 - (i : Int)) ∧ s.heap.IsList l items) → s.TypeIs (.ref I) "list_reverseiterator" := fun i s h => h.2.1.typeIs
 have hst : 0 ≤ items.size ∧ s.heap.IsRevIter I l ((items.size : Int) - 1 - ((0 : Nat) : Int)) ∧ s.heap.IsList l items := ⟨Nat.zero_le _, by simpa using hit, hl⟩
 have hIlt : I < s.heap.objs.size := let ⟨_, h, _⟩ := hit; Heap.lt_size h
 have hllt : l < s.heap.objs.size := let ⟨_, h, _⟩ := hl; Heap.lt_size h
 have hSf : s.heap.objs.size ∉ [I, l] := fun hm => by
  rcases List.mem_cons.mp hm with e | hm
  ·exact absurd hIlt (e ▸ Nat.lt_irrefl _)
  ·exact absurd hllt ((List.mem_singleton.mp hm) ▸ Nat.lt_irrefl _)
 have hSI : s.heap.objs.size ≠ I := Nat.ne_of_gt hIlt
 unfold collect
 refine wpAny_bind (wpAny_runValue (codeAny_builtin F.entry_proto_collect ?_))
 rw [Around.under_plainId F.plain_proto_collect _]
 show wpAny _ A.in1 (newList [] >>= fun l => again (.builtin "list.__iadd__" ⟨[l, .ref I], []⟩)) _ _ s
 refine wpAny_bind (wpAny_newObj_type ?_)
 refine wpAny_pure ⟨plainId_quiet F.plain_list_iadd _, codeAny_builtin F.entry_list_iadd ?_⟩
 rw [Around.under_plainId F.plain_list_iadd _]
 have hst₁ := W.frame 0 s (s.heap.push { cls := .type "list", data := .seq ([] : List Value).toArray }) s.toks hst (Nat.le_refl _) fun b _ o e => Heap.get?_push_of_some _ e
 have hS₁ : (s.heap.push { cls := .type "list", data := .seq ([] : List Value).toArray }).get? s.heap.objs.size = some { cls := .type "list", data := .seq ([] : List Value).toArray } := Heap.get?_push_size _ rfl
 have h1 : Builtin.List.listSameRef (.ref s.heap.objs.size) (.ref I) = false := by simp [Builtin.List.listSameRef, hSI]
 show wpAny _ A.in1 (Builtin.List.listExtendWith (.ref s.heap.objs.size) (.ref I) (.ref s.heap.objs.size)) _ _ _
 unfold Builtin.List.listExtendWith
 refine wpAny_bind (wpAny_typeOf (hT 0 _ hst₁) ?_)
 rw [if_neg (by rw [h1]; decide)]
 refine wpAny_bind (W.self 0 _ _ _ hst₁ ?_)
 refine wpAny_bind (wpAny_holding ?_)
 unfold Builtin.List.listLengthHint
 refine wpAny_bind (wpAny_specialOf (hT 0 _ hst₁) nolen_rv ?_)
 show wpAny _ A.in1 (specialOf (Value.ref I) (Str.ofString "__length_hint__") >>= _) _ _ _
 refine wpAny_bind (wpAny_specialOf (hT 0 _ hst₁) hint_rv ?_)
 generalize hid : ("list_reverseiterator.__length_hint__" : String) = id0
 wp_delta
 rw [show splitId id0 = some ("list_reverseiterator", "__length_hint__") from by subst hid; decide +kernel]
 subst hid
 refine wpAny_bind (wpAny_isInstance (b := true) (hT 0 _ hst₁) (by rw [isSubtype_type]; kernel_rfl) ?_)
 refine wpAny_pure ?_
 rw [if_neg (by decide)]
 refine wpAny_pure ⟨plainId_quiet F.plain_extend_loop _, codeAny_extend_loopS W hn _ hSf _ items.size 0 _ _ _ rfl (Nat.zero_le _) hst₁ hS₁ (ItemsOf.nil _) fun s' acc' c' hm hS' hacc => ?_⟩
 show wpAny _ A (load s.heap.objs.size >>= _) _ _ s'
 refine wpAny_bind (wpAny_load hS' ?_)
 have hm' := Moved.drop_new (o := { cls := .type "list", data := .seq ([] : List Value).toArray }) (tk := s.toks) hm (Nat.le_refl _)
 have ha : acc'.toList = items.toList.reverse := by
  apply List.ext_getElem?
  intro j
  by_cases hj : j < items.size
  ·have hj' : j < acc'.size := by rw [hacc.1]; exact hj
   have e := hacc.2 j acc'[j] (by simp [hj'])
   rw [List.getElem?_reverse (by simpa using hj), Array.length_toList, Array.getElem?_toList, Array.getElem?_toList, e]
   simp [hj']
  ·have hj' : ¬ j < acc'.size := by rw [hacc.1]; exact hj
   rw [List.getElem?_eq_none (by simpa using hj'), List.getElem?_eq_none (by simpa using hj)]
 have hs' : s' = { s with heap := s'.heap, toks := s'.toks } := by
  obtain ⟨h, g, d, t, o⟩ := s'
  obtain rfl : g = s.gens := hm'.gens
  obtain rfl : d = s.drawn := hm'.drawn
  obtain rfl : o = s.os := hm'.os
  rfl
 refine wpAny_pure ?_
 rw [ha, hs']
 exact hQ _ _ fun b o hb e => hm'.heap b o (fun h => hb (List.mem_singleton.mp h)) e
theorem join_rev {x : Str} {t : Tok} {ys : List (Str × Tok)} {Q : Value → Shared → Prop} (hh : A.handled = none) (hne : l ≠ I) (hit : s.heap.IsRevIter I l ((ys.length : Int) - 1)) (hl : s.heap.IsList l (strValues ys).toArray)
  (hok : JoinOk x (ys.reverse.map (·.1)) = true) (hn : ys.length ≤ sizeLine)
  (hQ : ∀ h' tk t', (∀ b o, b ≠ I → s.heap.get? b = some o → h'.get? b = some o) → Q (.str (Txt.join x (ys.reverse.map (·.1))) t') { s with heap := h', toks := tk }) :
  wpAny (model pw w) A (PySem.call (.builtin "str.join") [.str x t, .ref I]) Q E s := by
 have hlen : (strValues ys).toArray.size = ys.length := by simp [strValues]
 have hT : s.TypeIs (.ref I) "list_reverseiterator" := hit.typeIs
 refine wpAny_call (codeAny_call_builtin F.slot_str_join.plain F.entry_str_join (F.slot_str_join.check _ _ _ _ _ _ _ _ (typeIs_str _ _ _) (F.args_str_join_2 _ _) ?_))
 rw [join_tree_other]
 refine wpAny_bind (wpAny_typeOf hT ?_)
 show wpAny _ A.in1 ((pyIter (.ref I)).tryCatch _ >>= fun it => collect it >>= fun items => joinTail x items) _ _ s
 refine wpAny_bind (wpAny_tryCatch (wpAny_pyIter_revIter hit ?_))
 refine wpAny_bind (collect_rev (A := A.in1) hh hne (by rw [hlen]; exact hit) hl (by rw [hlen]; exact hn) fun h' tk hk => ?_)
 have e : (strValues ys).toArray.toList.reverse = strValues ys.reverse := by simp [strValues, List.map_reverse]
 rw [e]
 generalize ys.reverse = zs at hok hQ
 unfold JoinOk at hok
 rw [Bool.not_eq_true'] at hok
 have g : Gives (joinTail x (strValues zs)) (joinMade x zs) := by
  have g0 := gives_joinTail x zs hok
  cases zs with
  | nil => exact g0
  | cons p r => cases r with
   | nil => exact g0
   | cons q r' => exact g0
 exact g pw w A (wants Q E) { s with heap := h', toks := tk } (post_join zs ⟨joinFit_length hok, fun t' k => hQ h' k t' hk⟩)
theorem join_revN {h₀ : Heap} {L : Addr} {m : Str → Option Value} {led : List (Addr × Obj)} {vs : Array Value} {k : Int} {n : Nat} {x : Str} {t : Tok} {Q : Value → Shared → Prop} (ys : List (Str × Tok)) (texts : List Str) (hh : A.handled = none) (F : Fr h₀ L s.heap m)
  (N : News h₀ L s.heap ((I, revObj l k) :: led)) (hk : k = (ys.length : Int) - 1) (hvs : vs = (strValues ys).toArray) (hm : (l, listOf vs n) ∈ led) (hI : ∀ p ∈ led, p.1 ≠ I)
  (ht : ys.map (·.1) = texts) (hok : JoinOk x texts.reverse = true) (hn : ys.length ≤ 1000)
  (hQ : ∀ h' tk t', Fr h₀ L h' m → News h₀ L h' led → Q (.str (Txt.join x texts.reverse) t') { s with heap := h', toks := tk }) :
  wpAny (model pw w) A (PySem.call (.builtin "str.join") [.str x t, .ref I]) Q E s := by
 subst hk hvs ht
 rw [← List.map_reverse] at hok hQ
 have hN := N _ (List.mem_cons_self ..)
 refine join_rev (ys := ys) hh (hI _ hm) ⟨_, hN.1, rfl, rfl⟩ ⟨_, (N _ (List.mem_cons_of_mem _ hm)).1, rfl, _, rfl⟩ hok (Nat.le_trans hn (by decide)) fun h' tk t' hkeep => ?_
 obtain ⟨oL, es, ep, hL, hLr⟩ := F.ns
 refine hQ h' tk t' ⟨⟨oL, es, ep, hkeep _ _ (fun e => hN.2.1 e.symm) hL, hLr⟩, fun b o e => hkeep _ _ (fun q => by rw [q, hN.2.2] at e; cases e) (F.keep b o e), F.above⟩ fun p hp => ⟨hkeep _ _ (hI p hp) (N p (List.mem_cons_of_mem _ hp)).1, (N p (List.mem_cons_of_mem _ hp)).2⟩
end
noncomputable def cat (l : List Str) : Str := ⟨(l.flatMap (·.cps.toList)).toArray⟩
theorem cat_append (a b : List Str) : cat (a ++ b) = cat a ++ cat b := by
 apply Str.ext'
 show _ = (cat a).cps ++ (cat b).cps
 simp [cat]
theorem fold_cps (l : List Str) : ∀ acc : Array Nat, (l.foldl (fun acc p => acc ++ (Str.ofString "").cps ++ p.cps) acc) = acc ++ (cat l).cps := by
 induction l with
 | nil => intro acc; simp [cat]
 | cons a r ih =>
  intro acc
  rw [List.foldl_cons, ih]
  have e : (Str.ofString "").cps = #[] := by decide
  apply Array.ext'
  simp [e, cat]
theorem join_cat (l : List Str) : Txt.join "" l = cat l := by
 apply Str.ext'
 cases l with
 | nil => simp [Txt.join, Builtin.Str.glued, cat, Str.empty]
 | cons a r =>
  show (List.foldl (fun acc p => acc ++ (Str.ofString "").cps ++ p.cps) a.cps r) = _
  rw [fold_cps]
  simp [cat]
theorem cat_len (l : List Str) : (cat l).length = (l.map (·.length)).sum := by
 induction l with
 | nil => rfl
 | cons a r ih => rw [show a :: r = [a] ++ r from rfl, cat_append, Str.length_append, ih]; simp [cat, Str.length]
theorem strs_push (ys : List (Str × Tok)) (x : Str) (t : Tok) : (strValues ys).toArray.push (.str x t) = (strValues (ys ++ [(x, t)])).toArray := by simp [strValues]
abbrev tupO (l : List Value) : Obj := { cls := .type "tuple", data := .seq l.toArray }
section
variable {w : World} {A : Around} {E : Value → Shared → Prop} {s : Shared} {h₀ : Heap} {L : Addr} {led : List (Addr × Obj)} {value slice : Expr} {l : Addr} {vs : Array Value} {n : Nat} {k : Int} {u : Tok} {v : Value} {Q : Value → Shared → Prop}
theorem item_led (N : News h₀ L s.heap led) (hm : (l, PySem.W.listOf vs n) ∈ led) (h0 : 0 ≤ k) (hhi : k < 10000) (hx : vs[k.toNat]? = some v) (h : Q v s)
  (hs : subscripted slice false (.ref l) (.int k u) = operate [.ref l, .int k u] (getItem (.ref l) (.int k u))) : wpAny (model pw w) A (subscriptTail value slice (.ref l) (.int k u)) Q E s :=
 have hl : s.heap.IsList l vs := ⟨_, (N _ hm).1, rfl, _, rfl⟩
 tail_any hl.typeIs slot_list_getitem.lookup (wpAny_getItem_list hl h0 (by lia) hx h) hs
theorem item_tupL {vs : List Value} (N : News h₀ L s.heap led) (hm : (l, tupO vs) ∈ led) (h0 : 0 ≤ k) (hhi : k < 10000) (hx : vs[k.toNat]? = some v) (h : Q v s)
  (hs : subscripted slice false (.ref l) (.int k u) = operate [.ref l, .int k u] (getItem (.ref l) (.int k u))) : wpAny (model pw w) A (subscriptTail value slice (.ref l) (.int k u)) Q E s := by
 have hlt : k.toNat < vs.length := by
  by_cases q : k.toNat < vs.length
  ·exact q
  ·rw [List.getElem?_eq_none (by lia)] at hx; cases hx
 exact item_tupleT (j := k.toNat) ⟨_, (N _ hm).1, rfl, _, rfl⟩ (by lia) (by lia) (by unfold seqIndex?; simp; lia) hx h hs
end
section
variable {w : World} {A : Around} {E : Value → Shared → Prop} {s : Shared} {h₀ : Heap} {L : Addr} {led : List (Addr × Obj)} {l : Addr} {vs : Array Value} {n : Nat} {Q : Value → Shared → Prop}
theorem len_led (N : News h₀ L s.heap led) (hm : (l, PySem.W.listOf vs n) ∈ led) (hz : vs.size ≤ sizeLine) (h : Q (.int vs.size (s.toks + 1)) { s with toks := s.toks + 1 + 1 }) : wpAny (model pw w) A (PySem.call (.builtin "len") [.ref l]) Q E s :=
 len_list ⟨_, (N _ hm).1, rfl, _, rfl⟩ (by have : sizeLine = 16777216 := (by decide); omega) h
end
section
variable {w : World} {A : Around} {E : Value → Shared → Prop} {s : Shared} {h₀ : Heap} {env : Env} {m : Str → Option Value} {led : List (Addr × Obj)} {Q : Flow → Shared → Prop} {x : Str} {body : List Stmt}
end
section
variable {w : World} {A : Around} {E : Value → Shared → Prop} {s : Shared} {h₀ : Heap} {env : Env} {m : Str → Option Value} {led : List (Addr × Obj)} {Q : Flow → Shared → Prop} {test : PySem.Expr} {body orelse : List Stmt}
noncomputable def WEnd (h₀ : Heap) (L : Addr) (J : Nat → (Str → Option Value) → List (Addr × Obj) → Prop) (n : Nat) (s s' : Shared) : Prop :=
 ∃ h' tk m₂ led₂, s' = { s with heap := h', toks := tk } ∧ Fr h₀ L h' m₂ ∧ News h₀ L h' led₂ ∧ ∃ n', n' < n ∧ J n' m₂ led₂
noncomputable def WPost (h₀ : Heap) (L : Addr) (J : Nat → (Str → Option Value) → List (Addr × Obj) → Prop) (n : Nat) (s : Shared) (Q : Flow → Shared → Prop) (f : Flow) (s' : Shared) : Prop := match f with
 | .next => WEnd h₀ L J n s s'
 | .cont => WEnd h₀ L J n s s'
 | .brk => Q .next s'
 | .ret v => Q (.ret v) s'
theorem while_mine (J : Nat → (Str → Option Value) → List (Addr × Obj) → Prop) (hE : PassesOwn (model pw w) A env E) {k : Nat}
  (turn : ∀ n m₁ led₁ h tk, J n m₁ led₁ → Fr h₀ env.locals h m₁ → News h₀ env.locals h led₁ → wpAny (model pw w) A (isTrue test env (eval test env)) (fun b s₂ => WhlIf b (wpAny (model pw w) A (execs body env) (WPost h₀ env.locals J n { s with heap := h, toks := tk } Q) E s₂) (wpAny (model pw w) A (execs orelse env) Q E s₂)) E { s with heap := h, toks := tk }) :
  ∀ (n : Nat) (m : Str → Option Value) (led : List (Addr × Obj)) (h : Heap) (tk : Nat), J n m led → Fr h₀ env.locals h m → News h₀ env.locals h led → WhlRest pw w A E env test body orelse Q k { s with heap := h, toks := tk } := by
 intro n
 induction n using Nat.strongRecOn generalizing k with
 | _ n ih =>
  intro m led h tk hJ F N
  refine whl_turn (k := 0) hE (wpAny_mono (turn n m led h tk hJ F N) (fun b s₂ hb => ?_) fun _ _ e => e)
  unfold WhlIf at hb ⊢
  split
  ·rename_i hq
   rw [if_pos hq] at hb
   refine wpAny_mono hb (fun f s' hf => ?_) fun _ _ e => e
   have fin : WEnd h₀ env.locals J n { s with heap := h, toks := tk } s' → WhlRest pw w A E env test body orelse Q 0 s' := by
    rintro ⟨h', tk', m₂, led₂, rfl, F', N', n', hn, hj⟩
    exact ih n' hn m₂ led₂ h' tk' hj F' N'
   cases f with
   | next => exact fin hf
   | cont => exact fin hf
   | brk => exact hf
   | ret v => exact hf
  ·rename_i hq
   rw [if_neg hq] at hb
   exact hb
end
section
variable {M : Model} {A : Around} {E : Value → Shared → Prop} {s : Shared} {h₀ : Heap} {L a : Addr} {m : Str → Option Value} {cn : Str} {cs : Scope} {ccd : Value} {cl : List (Str × Addr)} {x : Str} {v : Value} {news : List (Addr × Obj)}
end
section
variable {M : Model} {A : Around} {E : Value → Shared → Prop} {h₀ : Heap} {L a : Addr} {m : Str → Option Value} {cn : Str} {names : List (Str × NameKind)} {b1 b2 : Bool} {more} {ccd : Value} {pos : Pos}
end
end
section
set_option tactic.hygienic false
structure ZS where
 m : List (Str × Value)
 own : List (Addr × Obj)
 led : List (Addr × Obj)
 tk : Nat
 sz : Nat
noncomputable def mf (mt : Str → Option Value) (m : List (Str × Value)) : Str → Option Value := m.rec mt fun p _ f y => if y = p.1 then some p.2 else f y
theorem mf_some {mt : Str → Option Value} {x : Str} {v : Value} : ∀ {m : List (Str × Value)}, m.lookup x = some v → mf mt m x = some v
 | [], h => by cases h
 | p :: m, h => by
  show (if x = p.1 then some p.2 else mf mt m x) = some v
  rw [List.lookup_cons] at h
  by_cases e : x = p.1
  ·rw [if_pos e]; rw [beq_iff_eq.mpr e] at h; exact h
  ·rw [if_neg e]; rw [beq_eq_false_iff_ne.mpr e] at h; exact mf_some h
theorem mf_look : ∀ m : List (Str × Value), mf (fun _ => none) m = fun y => m.lookup y
 | [] => rfl
 | p :: m => by
  funext y
  show (if y = p.1 then some p.2 else mf (fun _ => none) m y) = _
  rw [mf_look m, List.lookup_cons]
  by_cases e : y = p.1
  ·rw [if_pos e, beq_iff_eq.mpr e]
  ·rw [if_neg e, beq_eq_false_iff_ne.mpr e]
structure ZG (w : World) (N : List (Str × NameKind)) (d : Nat) where
 A : Around
 g : Heap
 L : Addr
 s₀ : Shared
 env : Env
 cl : List (Str × Addr)
 R : List (Addr × Obj)
 H : List (Addr × Obj)
 mt : Str → Option Value
 P : Flow → ZS → Prop
 mg : Str → Option Value
 mb : Str → Option Value
 mean : ExcName → Option Value
 X : (K w.params).In g
 T : TopAt mean mg mb g
 hr : Room A d
 he : ∃ cn b1 b2 more a ccd, env = envX cn ⟨.function, N, b1, b2, more⟩ L a ccd cl
section
variable {w : World} {N : List (Str × NameKind)} {d : Nat}
structure ZAt (G : ZG w N d) (σ : ZS) (s : Shared) : Prop where
 st : s = { G.s₀ with heap := s.heap, toks := σ.tk }
 sz : s.heap.objs.size = σ.sz
 fr : Fr G.g G.L s.heap (mf G.mt σ.m)
 nw : News G.g G.L s.heap (σ.own ++ σ.led)
 nd : (σ.own.map (·.1)).Nodup
 off : ∀ p ∈ σ.own, ∀ q ∈ σ.led, p.1 ≠ q.1
 sub : ∀ p ∈ G.R, p ∈ σ.led
 hid : News G.g G.L s.heap G.H
 hof : ∀ p ∈ σ.own ++ σ.led, ∀ q ∈ G.H, p.1 ≠ q.1
noncomputable def ZW (G : ZG w N d) (σ : ZS) {α : Type} (x : Sem α) (Kt : α → ZS → Prop) : Prop :=
 ∀ s, ZAt G σ s → wpAny (model pw w) G.A x (fun v s' => ∃ σ', ZAt G σ' s' ∧ Kt v σ') (fun _ _ => False) s
noncomputable def ZLoop (G : ZG w N d) (σ : ZS) (x : Str) (body : List Stmt) (v : Value) (Kt : Flow → ZS → Prop) : Prop :=
 ∀ s, ZAt G σ s → IterDo w G.A G.g G.env x body (fun f s' => ∃ σ', ZAt G σ' s' ∧ Kt f σ') (fun _ _ => False) v s
variable {G : ZG w N d} {σ : ZS} {s : Shared}
theorem ZAt.toks (a : ZAt G σ s) : s.toks = σ.tk := congrArg Shared.toks a.st
theorem ZAt.set (a : ZAt G σ s) (t : Nat) : ZAt G { σ with tk := t } { s with toks := t } := ⟨congrArg (fun x : Shared => { x with toks := t }) a.st, a.sz, a.fr, a.nw, a.nd, a.off, a.sub, a.hid, a.hof⟩
theorem ZAt.tick (a : ZAt G σ s) : ZAt G { σ with tk := σ.tk + 1 } { s with toks := s.toks + 1 } := by rw [a.toks]; exact a.set _
theorem ZAt.all (a : ZAt G σ s) : (K w.params).In s.heap := G.X.keeps a.fr.keep
theorem ZAt.at (a : ZAt G σ s) {p : Addr × Obj} (h : p ∈ G.R) : p ∈ σ.own ++ σ.led := List.mem_append_right _ (a.sub p h)
theorem ZW.go {α : Type} {x : Sem α} {Kt : α → ZS → Prop} {Q : α → Shared → Prop} (h : ZW G σ x Kt) (a : ZAt G σ s) (k : ∀ v σ', Kt v σ' → ∀ s', ZAt G σ' s' → Q v s') : wpAny (model pw w) G.A x Q (fun _ _ => False) s :=
 wpAny_mono (h s a) (fun v s' ⟨σ', a', hk⟩ => k v σ' hk s' a') fun _ _ f => f
theorem ZAt.heap {σ' : ZS} {h' : Heap} (a : ZAt G σ s) (ht : σ'.tk = σ.tk) (sz : h'.objs.size = σ'.sz) (fr : Fr G.g G.L h' (mf G.mt σ'.m)) (nw : News G.g G.L h' (σ'.own ++ σ'.led)) (nd : (σ'.own.map (·.1)).Nodup)
  (off : ∀ p ∈ σ'.own, ∀ q ∈ σ'.led, p.1 ≠ q.1) (sub : ∀ p ∈ G.R, p ∈ σ'.led) (hid : News G.g G.L h' G.H) (hof : ∀ p ∈ σ'.own ++ σ'.led, ∀ q ∈ G.H, p.1 ≠ q.1) : ZAt G σ' { s with heap := h' } :=
 ⟨by rw [ht]; exact congrArg (fun x : Shared => { x with heap := h' }) a.st, sz, fr, nw, nd, off, sub, hid, hof⟩
theorem ZAt.heapT {σ' : ZS} {h' : Heap} {t : Nat} (a : ZAt G σ s) (ht : σ'.tk = t) (sz : h'.objs.size = σ'.sz) (fr : Fr G.g G.L h' (mf G.mt σ'.m)) (nw : News G.g G.L h' (σ'.own ++ σ'.led)) (nd : (σ'.own.map (·.1)).Nodup)
  (off : ∀ p ∈ σ'.own, ∀ q ∈ σ'.led, p.1 ≠ q.1) (sub : ∀ p ∈ G.R, p ∈ σ'.led) (hid : News G.g G.L h' G.H) (hof : ∀ p ∈ σ'.own ++ σ'.led, ∀ q ∈ G.H, p.1 ≠ q.1) : ZAt G σ' { s with heap := h', toks := t } :=
 ⟨by rw [← ht]; exact congrArg (fun x : Shared => { x with heap := h', toks := σ'.tk }) a.st, sz, fr, nw, nd, off, sub, hid, hof⟩
theorem nodup_push {l : List (Addr × Obj)} {D : Addr} {o : Obj} (h : (l.map (·.1)).Nodup) (hd : ∀ p ∈ l, p.1 < D) : ((l ++ [(D, o)]).map (·.1)).Nodup := by
 rw [List.map_append, List.nodup_append]
 refine ⟨h, by simp, fun a ha b hb => ?_⟩
 obtain ⟨p, hp, rfl⟩ := List.mem_map.mp ha
 simp at hb; subst hb
 exact Nat.ne_of_lt (hd p hp)
theorem hof_push {own led H : List (Addr × Obj)} {D : Addr} {o : Obj} (h : ∀ p ∈ own ++ led, ∀ q ∈ H, p.1 ≠ q.1) (hd : ∀ q ∈ H, D ≠ q.1) : ∀ p ∈ (own ++ [(D, o)]) ++ led, ∀ q ∈ H, p.1 ≠ q.1 := fun p hp q hq => by
 simp only [List.mem_append, List.mem_cons, List.not_mem_nil, or_false] at hp
 rcases hp with (hp | hp) | hp
 ·exact h p (List.mem_append_left _ hp) q hq
 ·rw [hp]; exact hd q hq
 ·exact h p (List.mem_append_right _ hp) q hq
theorem ZAt.push (a : ZAt G σ s) {o : Obj} (hf : o.isFreed = false) : ZAt G { σ with own := σ.own ++ [(σ.sz, o)], sz := σ.sz + 1 } { s with heap := s.heap.push o } := by
 have lt : ∀ p ∈ σ.own ++ σ.led, p.1 < σ.sz := fun p hp => a.sz ▸ Heap.lt_size (a.nw p hp).1
 have nw := News.push a.fr a.nw o hf
 rw [a.sz] at nw
 refine a.heap rfl ?_ (a.fr.push o) (fun p hp => nw p ?_) (nodup_push a.nd fun p hp => lt p (List.mem_append_left _ hp)) ?_ a.sub (fun p hp => ⟨Heap.get?_push_of_some _ (a.hid p hp).1, (a.hid p hp).2⟩) (hof_push a.hof fun q hq => Nat.ne_of_gt (a.sz ▸ Heap.lt_size (a.hid q hq).1))
 ·show (s.heap.objs.push o).size = σ.sz + 1
  rw [Array.size_push, a.sz]
 ·simp only [List.mem_append, List.mem_cons, List.not_mem_nil, or_false] at hp ⊢
  rcases hp with (h | h) | h
  ·exact .inr (.inl h)
  ·exact .inl h
  ·exact .inr (.inr h)
 ·intro p hp q hq
  rcases List.mem_append.mp hp with h | h
  ·exact a.off p h q hq
  ·rw [List.mem_singleton.mp h]
   exact Nat.ne_of_gt (lt q (List.mem_append_right _ hq))
end
end
section
set_option tactic.hygienic false
inductive ZF
 | block (r : List Stmt)
 | store (x : Str)
 | asg (t : Expr)
 | asgA (o : Expr) (name : Str)
 | asgA2 (v : Value) (name : Str)
 | ret
 | expr
 | iff (b e : List Stmt)
 | ife (b e : Expr)
 | bin (op : Operator) (r : Expr)
 | bin2 (op : Operator) (a : Value)
 | cmp (op : CmpOp) (r : Expr)
 | cmp2 (op : CmpOp) (a : Value)
 | un (op : UnaryOp)
 | truth
 | notT
 | bt (op : BoolOp) (r : List Expr)
 | bv (op : BoolOp) (e : Expr) (r : List Expr) (pos : Pos)
 | bv2 (op : BoolOp) (v : Value) (e : Expr) (r : List Expr) (pos : Pos)
 | subI (v s : Expr)
 | subT (v s : Expr) (o : Value)
 | arg (r : List Expr) (pos : Pos)
 | argC (v : Value)
 | call (pos : Pos) (args : List Expr)
 | callV (f : Value) (first : List Value)
 | meth (name : Str) (pos : Pos) (args : List Expr)
 | attr (name : Str)
 | tup
 | lst
 | ao (es : List Expr) (vs : List Value)
 | forI (x : Str) (body : List Stmt)
 | wh (body : List Stmt)
 | sub1 (o i : Expr)
 | sub2 (v : Value) (i : Expr)
 | sub3 (v o : Value)
inductive ZI
 | v (x : Value)
 | b (x : Bool)
 | f (x : Flow)
 | l (vs : List Value)
inductive ZM
 | e (x : Expr)
 | t (x : Expr)
 | bt (op : BoolOp) (r : List Expr)
 | ss (r : List Stmt)
 | s (x : Stmt)
 | l (pos : Pos) (es : List Expr)
 | d (i : ZI)
 | pc (f : Value) (vs : List Value)
 | bo (op : Operator) (a b : Value)
 | co (op : CmpOp) (a b : Value)
 | uo (op : UnaryOp) (a : Value)
 | tr (v : Value)
 | su (v s : Expr) (o i : Value)
 | gm (o : Value) (name : Str) (pos : Pos) (args : List Expr)
 | ga (o : Value) (name : Str)
 | cw (pos : Pos) (f : Value) (first : List Value) (args : List Expr)
 | st (x : Str) (v : Value)
 | sa (o : Value) (name : Str) (v : Value)
 | as (t : Expr) (v : Value)
 | ao (es : List Expr) (vs : List Value)
 | nt (vs : List Value)
 | nl (vs : List Value)
 | lp (x : Str) (body : List Stmt) (v : Value)
 | si (o i v : Value)
structure ZC where
 σ : ZS
 k : List ZF
 md : ZM
noncomputable def no1 {α : Type} : α → Prop := fun _ => False
noncomputable def ZI.onV (i : ZI) (v : Value → Prop) : Prop := i.rec v no1 no1 no1
noncomputable def ZI.onB (i : ZI) (v : Bool → Prop) : Prop := i.rec no1 v no1 no1
noncomputable def ZI.onF (i : ZI) (v : Flow → Prop) : Prop := i.rec no1 no1 v no1
noncomputable def ZI.onL (i : ZI) (v : List Value → Prop) : Prop := i.rec no1 no1 no1 v
section
variable {w : World} {N : List (Str × NameKind)} {d : Nat}
noncomputable def zkf (G : ZG w N d) (K : ZI → ZS → Prop) (f : ZF) (i : ZI) (σ : ZS) : Prop := f.rec
 (fun r => i.onF fun x => (match x with
  | .next => ZW G σ (execs r G.env) (fun x σ => K (.f x) σ)
  | x => K (.f x) σ))
 (fun x => i.onV fun v => ZW G σ (storeName G.env x v) (fun _ σ => K (.f .next) σ))
 (fun t => i.onV fun v => ZW G σ (PySem.assign t G.env v) (fun _ σ => K (.f .next) σ))
 (fun o name => i.onV fun v => ZW G σ (eval o G.env) (fun ov σ => ZW G σ (setAttr ov name v) (fun _ σ => K (.f .next) σ)))
 (fun v name => i.onV fun ov => ZW G σ (setAttr ov name v) (fun _ σ => K (.f .next) σ))
 (i.onV fun v => K (.f (.ret v)) σ)
 (i.onV fun _ => K (.f .next) σ)
 (fun b e => i.onB fun c => ZW G σ (execs (cond c b e) G.env) (fun x σ => K (.f x) σ))
 (fun b e => i.onB fun c => ZW G σ (eval (cond c b e) G.env) (fun x σ => K (.v x) σ))
 (fun op r => i.onV fun a => ZW G σ (eval r G.env) (fun b σ => ZW G σ (binaryOp op a b) (fun v σ => K (.v v) σ)))
 (fun op a => i.onV fun b => ZW G σ (binaryOp op a b) (fun v σ => K (.v v) σ))
 (fun op r => i.onV fun a => ZW G σ (eval r G.env) (fun b σ => ZW G σ (compareOp op a b) (fun v σ => K (.v v) σ)))
 (fun op a => i.onV fun b => ZW G σ (compareOp op a b) (fun v σ => K (.v v) σ))
 (fun op => i.onV fun a => ZW G σ (unaryOp op a) (fun v σ => K (.v v) σ))
 (i.onV fun v => ZW G σ (truthy v) (fun c σ => K (.b c) σ))
 (i.onB fun c => K (.b (!c)) σ)
 (fun op r => i.onB fun c => cond (c == (op == .Or)) (K (.b c) σ) (ZW G σ (allTrue op r G.env) (fun c σ => K (.b c) σ)))
 (fun op e r pos => i.onV fun v => ZW G σ (truthy v) (fun c σ => cond (c == (op == .Or)) (K (.v v) σ) (ZW G σ (eval (.BoolOp op (e :: r) pos) G.env) (fun v σ => K (.v v) σ))))
 (fun op v e r pos => i.onB fun c => cond (c == (op == .Or)) (K (.v v) σ) (ZW G σ (eval (.BoolOp op (e :: r) pos) G.env) (fun v σ => K (.v v) σ)))
 (fun v s => i.onV fun o => ZW G σ (eval s G.env) (fun i σ => ZW G σ (subscriptTail v s o i) (fun x σ => K (.v x) σ)))
 (fun v s o => i.onV fun i => ZW G σ (subscriptTail v s o i) (fun x σ => K (.v x) σ))
 (fun r pos => i.onV fun v => ZW G σ (spliced (backTo pos (starEach r G.env))) (fun vs σ => K (.l (v :: vs)) σ))
 (fun v => i.onL fun vs => K (.l (v :: vs)) σ)
 (fun pos args => i.onV fun f => ZW G σ (callWith pos f [] (backTo pos (starEach args G.env)) []) (fun v σ => K (.v v) σ))
 (fun f first => i.onL fun vs => ZW G σ (PySem.call f (first ++ vs)) (fun v σ => K (.v v) σ))
 (fun name pos args => i.onV fun o => ∀ pl, ZW G σ (getMethod o name pl) (fun fx σ => ZW G σ (callWith pos fx.1 fx.2 (backTo pos (starEach args G.env)) []) (fun v σ => K (.v v) σ)))
 (fun name => i.onV fun o => ZW G σ (getAttr o name true) (fun v σ => K (.v v) σ))
 (i.onL fun vs => ZW G σ (newTuple vs) (fun v σ => K (.v v) σ))
 (i.onL fun vs => ZW G σ (newList vs) (fun v σ => K (.v v) σ))
 (fun es vs => i.onF fun x => x = .next ∧ ZW G σ (assignInOrder ((assignEach es G.env).map (·.2)) vs) (fun _ σ => K (.f .next) σ))
 (fun x body => i.onV fun v => ZLoop G σ x body v (fun f σ => K (.f f) σ))
 (fun body => i.onB fun c => cond c (ZW G σ (execs body G.env) (fun x σ => K (.f x) σ)) (K (.f .brk) σ))
 (fun o x => i.onV fun v => ZW G σ (eval o G.env) (fun ov σ => ZW G σ (eval x G.env) (fun iv σ => ZW G σ (setItem ov iv v) (fun _ σ => K (.f .next) σ))))
 (fun v x => i.onV fun ov => ZW G σ (eval x G.env) (fun iv σ => ZW G σ (setItem ov iv v) (fun _ σ => K (.f .next) σ)))
 (fun v ov => i.onV fun iv => ZW G σ (setItem ov iv v) (fun _ σ => K (.f .next) σ))
noncomputable def zkd (G : ZG w N d) (k : List ZF) : ZI → ZS → Prop := k.rec (fun i σ => i.onF fun x => G.P x σ) (fun f _ K => zkf G K f)
noncomputable def ZSat (G : ZG w N d) (c : ZC) : Prop := c.rec fun σ k md => md.rec
 (fun x => ZW G σ (eval x G.env) (fun v σ => zkd G k (.v v) σ))
 (fun x => ZW G σ (PySem.isTrue x G.env (eval x G.env)) (fun c σ => zkd G k (.b c) σ))
 (fun op r => ZW G σ (allTrue op r G.env) (fun c σ => zkd G k (.b c) σ))
 (fun r => ZW G σ (execs r G.env) (fun x σ => zkd G k (.f x) σ))
 (fun x => ZW G σ (exec x G.env) (fun x σ => zkd G k (.f x) σ))
 (fun pos es => ZW G σ (spliced (backTo pos (starEach es G.env))) (fun vs σ => zkd G k (.l vs) σ))
 (fun i => zkd G k i σ)
 (fun f vs => ZW G σ (PySem.call f vs) (fun v σ => zkd G k (.v v) σ))
 (fun op a b => ZW G σ (binaryOp op a b) (fun v σ => zkd G k (.v v) σ))
 (fun op a b => ZW G σ (compareOp op a b) (fun v σ => zkd G k (.v v) σ))
 (fun op a => ZW G σ (unaryOp op a) (fun v σ => zkd G k (.v v) σ))
 (fun v => ZW G σ (truthy v) (fun c σ => zkd G k (.b c) σ))
 (fun v s o i => ZW G σ (subscriptTail v s o i) (fun x σ => zkd G k (.v x) σ))
 (fun o name pos args => ∀ pl, ZW G σ (getMethod o name pl) (fun fx σ => ZW G σ (callWith pos fx.1 fx.2 (backTo pos (starEach args G.env)) []) (fun v σ => zkd G k (.v v) σ)))
 (fun o name => ZW G σ (getAttr o name true) (fun v σ => zkd G k (.v v) σ))
 (fun pos f first args => ZW G σ (callWith pos f first (backTo pos (starEach args G.env)) []) (fun v σ => zkd G k (.v v) σ))
 (fun x v => ZW G σ (storeName G.env x v) (fun _ σ => zkd G k (.f .next) σ))
 (fun o name v => ZW G σ (setAttr o name v) (fun _ σ => zkd G k (.f .next) σ))
 (fun t v => ZW G σ (PySem.assign t G.env v) (fun _ σ => zkd G k (.f .next) σ))
 (fun es vs => ZW G σ (assignInOrder ((assignEach es G.env).map (·.2)) vs) (fun _ σ => zkd G k (.f .next) σ))
 (fun vs => ZW G σ (newTuple vs) (fun v σ => zkd G k (.v v) σ))
 (fun vs => ZW G σ (newList vs) (fun v σ => zkd G k (.v v) σ))
 (fun x body v => ZLoop G σ x body v (fun f σ => zkd G k (.f f) σ))
 (fun o i v => ZW G σ (setItem o i v) (fun _ σ => zkd G k (.f .next) σ))
end
noncomputable def guard (b : Bool) (c : Option ZC) : Option ZC := cond b c none
noncomputable def one {α : Type} (l : List α) (f : α → Option ZC) : Option ZC := l.rec none fun x r _ => r.rec (f x) fun _ _ _ => none
noncomputable def nil0 {α : Type} (l : List α) (c : Option ZC) : Option ZC := l.rec c fun _ _ _ => none
noncomputable def globOf (P : Params) (x : Str) : Option (Option Value) := nsIn (K P) mainGlobals x
noncomputable def builtTab : List (Str × Value) := [("ord", .builtin "ord"), ("chr", .builtin "chr"), ("len", .builtin "len"), ("min", .builtin "min"), ("reversed", .type "reversed"), ("range", .type "range"), ("int", .type "int"), ("tuple", .type "tuple"), ("abs", .builtin "abs"), ("str", .type "str")]
noncomputable def isComp (e : Expr) : Bool := match e with
 | .ListComp .. => true
 | .SetComp .. => true
 | .DictComp .. => true
 | _ => false
noncomputable def isStar (e : Expr) : Bool := match e with
 | .Starred .. => true
 | _ => false
noncomputable def isCall (e : Expr) : Bool := match e with
 | .Call .. => true
 | _ => false
noncomputable def isSet (e : Expr) : Bool := match e with
 | .Set .. => true
 | _ => false
noncomputable def isLoc (N : List (Str × NameKind)) (x : Str) : Bool := (N.lookup x).rec false fun k => k == .local
noncomputable def isGlo (N : List (Str × NameKind)) (x : Str) : Bool := (N.lookup x).rec false fun k => k == .globalImplicit
noncomputable def put (σ : ZS) (k : List ZF) (v : Value) : Option ZC := some ⟨σ, k, .d (.v v)⟩
noncomputable def putT (σ : ZS) (k : List ZF) (v : Tok → Value) : Option ZC := some ⟨⟨σ.m, σ.own, σ.led, σ.tk + 1, σ.sz⟩, k, .d (.v (v σ.tk))⟩
noncomputable def orV (σ : ZS) (k : List ZF) (o : Option Value) : Option ZC := o.rec none fun v => put σ k v
noncomputable def stepName (N : List (Str × NameKind)) (P : Params) (σ : ZS) (k : List ZF) (x : Str) : Option ZC :=
 guard (!(x == ("__debug__" : Str))) (cond (isLoc N x) (orV σ k (σ.m.lookup x)) (guard (isGlo N x) ((globOf P x).rec none fun o => o.rec (orV σ k (builtTab.lookup x)) fun v => put σ k v)))
noncomputable def stepE (N : List (Str × NameKind)) (P : Params) (σ : ZS) (k : List ZF) (e : Expr) : Option ZC := match e with
 | .Name x _ => stepName N P σ k x
 | .Constant c _ _ => (match c with
  | .int i => putT σ k (.int i)
  | .str x => putT σ k (.str x)
  | .bool b => put σ k (.bool b)
  | .none => put σ k .none
  | _ => none)
 | .BinOp l op r _ => some ⟨σ, .bin op r :: k, .e l⟩
 | .UnaryOp op x _ => some ⟨σ, .un op :: k, .e x⟩
 | .IfExp t b e _ => some ⟨σ, .ife b e :: k, .t t⟩
 | .BoolOp op l pos => l.rec none fun x r _ => r.rec (some ⟨σ, k, .e x⟩) fun y r _ => some ⟨σ, .bv op y r pos :: k, .e x⟩
 | .Compare l ops rs _ => one ops fun op => one rs fun r => guard (!behindInMarks op r) (some ⟨σ, .cmp op r :: k, .e l⟩)
 | .Tuple es _ pos => some ⟨σ, .tup :: k, .l pos es⟩
 | .List es pos => some ⟨σ, .lst :: k, .l pos es⟩
 | .Subscript v s _ => some ⟨σ, .subI v s :: k, .e v⟩
 | .Attribute o name _ => (match o with
  | .Name x xp => some ⟨σ, .attr name :: k, .e (.Name x xp)⟩
  | _ => none)
 | .Call f args kw pos => nil0 kw (match f with
  | .Name x xp => some ⟨σ, .call pos args :: k, .e (.Name x xp)⟩
  | .Attribute o name apos => guard (!isCall o) (guard (apos.endLine == pos.line) (guard (!args.any isStar) (guard (Nat.blt args.length 30) (some ⟨σ, .meth name pos args :: k, .e o⟩))))
  | _ => none)
 | _ => none
noncomputable def stepT (σ : ZS) (k : List ZF) (e : Expr) : Option ZC := match e with
 | .UnaryOp op x p => (match op with
  | .Not => some ⟨σ, .notT :: k, .t x⟩
  | op => some ⟨σ, .truth :: k, .e (.UnaryOp op x p)⟩)
 | .BoolOp op r _ => some ⟨σ, k, .bt op r⟩
 | .Compare l ops rs _ => one ops fun op => one rs fun r => guard (!behindInMarks op r) (some ⟨σ, .cmp op r :: .truth :: k, .e l⟩)
 | .IfExp .. => none
 | e => some ⟨σ, .truth :: k, .e e⟩
noncomputable def stepAs (σ : ZS) (k : List ZF) (e t : Expr) : Option ZC := match t with
 | .Name x _ => guard (!isComp e) (some ⟨σ, .store x :: k, .e e⟩)
 | .Attribute o name _ => guard (!isComp e) (some ⟨σ, .asgA o name :: k, .e e⟩)
 | .Subscript o i _ => guard (!isComp e) (some ⟨σ, .sub1 o i :: k, .e e⟩)
 | .Tuple es u tp => (match e with
  | .Name x p => some ⟨σ, .asg (.Tuple es u tp) :: k, .e (.Name x p)⟩
  | .Call f a kw p => some ⟨σ, .asg (.Tuple es u tp) :: k, .e (.Call f a kw p)⟩
  | _ => none)
 | _ => none
noncomputable def stepS (N : List (Str × NameKind)) (σ : ZS) (k : List ZF) (s : Stmt) : Option ZC := match s with
 | .Expr e _ => guard (!isComp e) (some ⟨σ, .expr :: k, .e e⟩)
 | .Return e _ => e.rec (some ⟨σ, k, .d (.f (.ret .none))⟩) fun e => some ⟨σ, .ret :: k, .e e⟩
 | .Break _ => some ⟨σ, k, .d (.f .brk)⟩
 | .If t b o _ => some ⟨σ, .iff b o :: k, .t t⟩
 | .Assign ts e _ => one ts fun t => stepAs σ k e t
 | .For t iter body o _ => nil0 o (match t with
  | .Name x _ => guard (!isSet iter) (guard (isLoc N x) (some ⟨σ, .forI x body :: k, .e iter⟩))
  | _ => none)
 | _ => none
noncomputable def noC {α : Type} : α → Option ZC := fun _ => none
noncomputable def ZI.gV (i : ZI) (v : Value → Option ZC) : Option ZC := i.rec v noC noC noC
noncomputable def ZI.gB (i : ZI) (v : Bool → Option ZC) : Option ZC := i.rec noC v noC noC
noncomputable def ZI.gF (i : ZI) (v : Flow → Option ZC) : Option ZC := i.rec noC noC v noC
noncomputable def ZI.gL (i : ZI) (v : List Value → Option ZC) : Option ZC := i.rec noC noC noC v
noncomputable def stepF (σ : ZS) (k : List ZF) (i : ZI) (f : ZF) : Option ZC := f.rec
 (fun r => i.gF fun x => (match x with
  | .next => some ⟨σ, k, .ss r⟩
  | x => some ⟨σ, k, .d (.f x)⟩))
 (fun x => i.gV fun v => some ⟨σ, k, .st x v⟩)
 (fun t => i.gV fun v => some ⟨σ, k, .as t v⟩)
 (fun o name => i.gV fun v => some ⟨σ, .asgA2 v name :: k, .e o⟩)
 (fun v name => i.gV fun o => some ⟨σ, k, .sa o name v⟩)
 (i.gV fun v => some ⟨σ, k, .d (.f (.ret v))⟩)
 (i.gV fun _ => some ⟨σ, k, .d (.f .next)⟩)
 (fun b e => i.gB fun c => cond c (some ⟨σ, k, .ss b⟩) (some ⟨σ, k, .ss e⟩))
 (fun b e => i.gB fun c => cond c (some ⟨σ, k, .e b⟩) (some ⟨σ, k, .e e⟩))
 (fun op r => i.gV fun a => some ⟨σ, .bin2 op a :: k, .e r⟩)
 (fun op a => i.gV fun b => some ⟨σ, k, .bo op a b⟩)
 (fun op r => i.gV fun a => some ⟨σ, .cmp2 op a :: k, .e r⟩)
 (fun op a => i.gV fun b => some ⟨σ, k, .co op a b⟩)
 (fun op => i.gV fun a => some ⟨σ, k, .uo op a⟩)
 (i.gV fun v => some ⟨σ, k, .tr v⟩)
 (i.gB fun c => some ⟨σ, k, .d (.b (!c))⟩)
 (fun op r => i.gB fun c => cond (c == (op == .Or)) (some ⟨σ, k, .d (.b c)⟩) (some ⟨σ, k, .bt op r⟩))
 (fun op e r pos => i.gV fun v => some ⟨σ, .bv2 op v e r pos :: k, .tr v⟩)
 (fun op v e r pos => i.gB fun c => cond (c == (op == .Or)) (some ⟨σ, k, .d (.v v)⟩) (some ⟨σ, k, .e (.BoolOp op (e :: r) pos)⟩))
 (fun v s => i.gV fun o => some ⟨σ, .subT v s o :: k, .e s⟩)
 (fun v s o => i.gV fun i => some ⟨σ, k, .su v s o i⟩)
 (fun r pos => i.gV fun v => some ⟨σ, .argC v :: k, .l pos r⟩)
 (fun v => i.gL fun vs => some ⟨σ, k, .d (.l (v :: vs))⟩)
 (fun pos args => i.gV fun f => some ⟨σ, k, .cw pos f [] args⟩)
 (fun f first => i.gL fun vs => some ⟨σ, k, .pc f (first ++ vs)⟩)
 (fun name pos args => i.gV fun o => some ⟨σ, k, .gm o name pos args⟩)
 (fun name => i.gV fun o => some ⟨σ, k, .ga o name⟩)
 (i.gL fun vs => some ⟨σ, k, .nt vs⟩)
 (i.gL fun vs => some ⟨σ, k, .nl vs⟩)
 (fun es vs => i.gF fun x => (match x with
  | .next => some ⟨σ, k, .ao es vs⟩
  | _ => none))
 (fun x body => i.gV fun v => some ⟨σ, k, .lp x body v⟩)
 (fun body => i.gB fun c => cond c (some ⟨σ, k, .ss body⟩) (some ⟨σ, k, .d (.f .brk)⟩))
 (fun o x => i.gV fun v => some ⟨σ, .sub2 v x :: k, .e o⟩)
 (fun v x => i.gV fun o => some ⟨σ, .sub3 v o :: k, .e x⟩)
 (fun v o => i.gV fun x => some ⟨σ, k, .si o x v⟩)
noncomputable def Vint (v : Value) (f : Int → Option ZC) : Option ZC := match v with
 | .int a _ => f a
 | _ => none
noncomputable def Vstr (v : Value) (f : Str → Option ZC) : Option ZC := match v with
 | .str a _ => f a
 | _ => none
noncomputable def stepBo (σ : ZS) (k : List ZF) (op : Operator) (x y : Value) : Option ZC := match op with
 | .Add => Vint x fun a => Vint y fun b => putT σ k (.int (a + b))
 | .Mod => Vint x fun a => Vint y fun b => guard (!(b == 0)) (putT σ k (.int (a.fmod b)))
 | .Sub => Vint x fun a => Vint y fun b => putT σ k (.int (a - b))
 | _ => none
noncomputable def eqV (σ : ZS) (k : List ZF) (x y : Value) (f : Bool → Bool) : Option ZC := match x with
 | .int a _ => Vint y fun b => put σ k (.bool (f (a == b)))
 | .str a _ => Vstr y fun b => put σ k (.bool (f (a == b)))
 | _ => none
noncomputable def isV (σ : ZS) (k : List ZF) (x y : Value) (f : Bool → Bool) : Option ZC := match y with
 | .none => (match x with
  | .none => put σ k (.bool (f true))
  | .ref _ => put σ k (.bool (f false))
  | _ => none)
 | _ => none
noncomputable def ordV (σ : ZS) (k : List ZF) (x y : Value) (f : Int → Int → Bool) : Option ZC := Vint x fun a => Vint y fun b => put σ k (.bool (f a b))
noncomputable def stepCo (σ : ZS) (k : List ZF) (op : CmpOp) (x y : Value) : Option ZC := match op with
 | .Eq => eqV σ k x y id
 | .NotEq => eqV σ k x y (!·)
 | .Lt => ordV σ k x y fun a b => decide (a < b)
 | .Gt => ordV σ k x y fun a b => decide (b < a)
 | .LtE => ordV σ k x y fun a b => decide (a ≤ b)
 | .GtE => ordV σ k x y fun a b => decide (b ≤ a)
 | .Is => isV σ k x y id
 | .IsNot => isV σ k x y (!·)
 | _ => none
noncomputable def stepPc (σ : ZS) (k : List ZF) (f : Value) (vs : List Value) : Option ZC := match f with
 | .builtin id => guard (id == "ord") (one vs fun v => Vstr v fun x => x.cps.toList.rec none fun c r _ => r.rec (putT σ k (.int (c : Int))) fun _ _ _ => none)
 | _ => none
noncomputable def stepCw (P : Params) (σ : ZS) (k : List ZF) (pos : Pos) (f : Value) (first : List Value) (args : List Expr) : Option ZC := match f with
 | .ref a => guard (keepIn (K P) (.ref a)) (args.rec (some ⟨σ, k, .pc (.ref a) (first ++ [])⟩) fun e r _ => guard (!(e :: r).any isStar) (some ⟨σ, .callV (.ref a) first :: k, .l pos (e :: r)⟩))
 | .builtin id => args.rec none fun e r _ => guard (!(e :: r).any isStar) (some ⟨σ, .callV (.builtin id) first :: k, .l pos (e :: r)⟩)
 | .type id => nil0 first (args.rec none fun e r _ => guard (!(e :: r).any isStar) (some ⟨σ, .callV (.type id) [] :: k, .l pos (e :: r)⟩))
 | _ => none
noncomputable def stepTr (σ : ZS) (k : List ZF) (v : Value) : Option ZC := match v with
 | .bool b => some ⟨σ, k, .d (.b b)⟩
 | .none => some ⟨σ, k, .d (.b false)⟩
 | _ => none
noncomputable def stepAn (σ : ZS) (k : List ZF) (t : Expr) (v : Value) : Option ZC := match t with
 | .Name x _ => some ⟨σ, k, .st x v⟩
 | _ => none
noncomputable def stepUo (σ : ZS) (k : List ZF) (op : UnaryOp) (v : Value) : Option ZC := match op with
 | .USub => Vint v fun a => putT σ k (.int (-a))
 | _ => none
noncomputable def zstep (N : List (Str × NameKind)) (P : Params) (c : ZC) : Option ZC := c.rec fun σ k md => md.rec
 (fun x => stepE N P σ k x)
 (fun x => stepT σ k x)
 (fun op r => r.rec (some ⟨σ, k, .d (.b (op == .And))⟩) fun x r _ => some ⟨σ, .bt op r :: k, .t x⟩)
 (fun r => r.rec (some ⟨σ, k, .d (.f .next)⟩) fun s r _ => some ⟨σ, .block r :: k, .s s⟩)
 (fun x => stepS N σ k x)
 (fun pos es => es.rec (some ⟨σ, k, .d (.l [])⟩) fun e r _ => guard (!isStar e) (some ⟨σ, .arg r pos :: k, .e e⟩))
 (fun i => k.rec none fun f k _ => stepF σ k i f)
 (fun f vs => stepPc σ k f vs)
 (fun op a b => stepBo σ k op a b)
 (fun op a b => stepCo σ k op a b)
 (fun op a => stepUo σ k op a)
 (fun v => stepTr σ k v)
 (fun _ _ _ _ => none)
 (fun _ _ _ _ => none)
 (fun _ _ => none)
 (fun pos f first args => stepCw P σ k pos f first args)
 (fun x v => guard (isLoc N x) (some ⟨⟨(x, v) :: σ.m, σ.own, σ.led, σ.tk + 1, σ.sz⟩, k, .d (.f .next)⟩))
 (fun _ _ _ => none)
 (fun t v => stepAn σ k t v)
 (fun es vs => es.rec (vs.rec (some ⟨σ, k, .d (.f .next)⟩) fun _ _ _ => none) fun t es _ => (match t with
  | .Name x p => vs.rec none fun v vs _ => some ⟨σ, .ao es vs :: k, .as (.Name x p) v⟩
  | _ => none))
 (fun vs => guard (Nat.ble vs.length sizeLine) (some ⟨⟨σ.m, σ.own ++ [(σ.sz, tupO vs)], σ.led, σ.tk, σ.sz + 1⟩, k, .d (.v (.ref σ.sz))⟩))
 (fun vs => guard (Nat.ble vs.length sizeLine) (some ⟨⟨σ.m, σ.own ++ [(σ.sz, PySem.W.listOf vs.toArray 0)], σ.led, σ.tk, σ.sz + 1⟩, k, .d (.v (.ref σ.sz))⟩))
 (fun _ _ _ => none)
 (fun _ _ _ => none)
noncomputable def zgo (N : List (Str × NameKind)) (P : Params) (n : Nat) (c : ZC) : ZC :=
 Nat.rec (motive := fun _ => ZC → ZC) (fun c => c) (fun _ ih c => (zstep N P c).rec c ih) n c
end
section
section
variable {w : World} {N : List (Str × NameKind)} {d : Nat} {G : ZG w N d} {σ : ZS} {k : List ZF} {c' : ZC}
theorem star_cons {e : Expr} {r : List Expr} {env : Env} (h : isStar e = false) : starEach (e :: r) env = (false, eval e env) :: starEach r env := by
 cases e <;> first | rfl | cases h
theorem star_any {pos : Pos} {env : Env} : ∀ {r : List Expr}, r.any isStar = false → (backTo pos (starEach r env)).any (·.1) = false
 | [], _ => rfl
 | e :: r, h => by
  rw [List.any_cons, Bool.or_eq_false_iff] at h
  rw [star_cons h.1]
  exact star_any h.2
theorem swap_no {e : Expr} {t : Option Expr} {l : Nat} {env : Env} (h : isComp e = false) : swapsWith e t l env = pure false := by
 cases e <;> first | rfl | cases h
theorem zw_name {x : Str} {pos : Pos} {v : Value} {Kt : Value → ZS → Prop} (hl : N.lookup x = some .local) (hd : (x == ("__debug__" : Str)) = false) (hv : σ.m.lookup x = some v) (h : Kt v σ) : ZW G σ (eval (.Name x pos) G.env) Kt := fun s a => by
 obtain ⟨cn, b1, b2, more, f, ccd, e⟩ := G.he
 rw [e]
 exact nameX_L a.fr (mf_some hv) ⟨σ, a, h⟩ rfl hl hd
theorem zw_glob {x : Str} {pos : Pos} {v : Value} {Kt : Value → ZS → Prop} (hl : N.lookup x = some .globalImplicit) (hd : (x == ("__debug__" : Str)) = false) (hv : nsIn (K w.params) mainGlobals x = some (some v)) (h : Kt v σ) : ZW G σ (eval (.Name x pos) G.env) Kt := fun s a => by
 obtain ⟨cn, b1, b2, more, f, ccd, e⟩ := G.he
 rw [e]
 exact nameX_K a.fr G.X (topRead_of G.T) hv ⟨σ, a, h⟩ rfl hl hd
theorem zw_built {x : Str} {pos : Pos} {v : Value} {Kt : Value → ZS → Prop} (hl : N.lookup x = some .globalImplicit) (hd : (x == ("__debug__" : Str)) = false) (hn : x ≠ "__name__") (e0 : nsIn (K w.params) mainGlobals x = some none) (hv : bootBuiltins x = some v) (h : Kt v σ) : ZW G σ (eval (.Name x pos) G.env) Kt := fun s a => by
 obtain ⟨cn, b1, b2, more, f, ccd, e⟩ := G.he
 rw [e]
 exact nameX_B a.fr G.X (topRead_of G.T) e0 hv hn ⟨σ, a, h⟩ rfl hl hd
theorem zw_store {x : Str} {v : Value} {Kt : Unit → ZS → Prop} (hl : N.lookup x = some .local) (h : Kt () ⟨(x, v) :: σ.m, σ.own, σ.led, σ.tk + 1, σ.sz⟩) : ZW G σ (storeName G.env x v) Kt := fun s a => by
 obtain ⟨cn, b1, b2, more, f, ccd, e⟩ := G.he
 rw [e]
 refine wpAny_storeName_local (env := envX cn ⟨.function, N, b1, b2, more⟩ G.L f ccd G.cl) hl a.fr.ns (fun h' hn hs => ⟨_, ?_, h⟩) rfl
 rw [a.toks]
 exact a.heapT rfl (hs.1.trans a.sz) (a.fr.set hn hs) (a.nw.set hs) a.nd a.off a.sub (a.hid.set hs) a.hof
theorem meth_eq {o : Expr} {name : Str} {apos pos : Pos} {args : List Expr} {env : Env} (ho : ∀ f a k p, o = .Call f a k p → False) (hl : apos.endLine = pos.line) (hs : args.any isStar = false) (hn : args.length < 30) :
  eval (.Call (.Attribute o name apos) args [] pos) env = (do
   let ov ← eval o env
   standAt apos.atName
   let (f, first) ← holding [ov] (getMethod ov name (do return (← importBound o env).getD true))
   callWith pos f first (backTo pos (starEach args env)) []) := by
 have h0 : ((backTo pos (starEach args env)).all fun x => !x.1) = true := by
  have := star_any (pos := pos) (env := env) hs
  rw [List.all_eq_not_any_not]
  simp only [Bool.not_not]
  rw [this]; rfl
 have h1 : methodCallForm (args.length + 0) (backTo pos (starEach args env)) (backToKw pos (keywordEach [] env)) = true := by
  unfold methodCallForm
  rw [h0]
  show (true && true && decide (args.length + 0 + 0 < 30)) = true
  simpa using hn
 have h2 : (apos.endLine == pos.line) = true := beq_iff_eq.mpr hl
 have h3 : attributeBase o name env (eval o env) = eval o env := by
  cases o <;> first | rfl | exact absurd rfl (fun e => ho _ _ _ _ e)
 show (do
  let ov ← attributeBase o name env (eval o env)
  standAt apos.atName
  methodCall o name apos pos env ov (args.length + 0) (backTo pos (starEach args env)) (backToKw pos (keywordEach [] env))) = _
 rw [h3]
 unfold methodCall
 rw [h1]
 unfold calleeOf methodCallPos
 rw [h2]
 rfl
theorem built_ok {x : Str} {v : Value} (h : builtTab.lookup x = some v) : bootBuiltins x = some v ∧ x ≠ "__name__" := by
 unfold builtTab at h
 have key : ∀ (l : List (Str × Value)), (∀ p ∈ l, bootBuiltins p.1 = some p.2 ∧ p.1 ≠ ("__name__" : Str)) → l.lookup x = some v → bootBuiltins x = some v ∧ x ≠ "__name__" := by
  intro l
  induction l with
  | nil => intro _ h; cases h
  | cons p r ih =>
   intro hp h
   rw [List.lookup_cons] at h
   split at h
   ·rename_i e
    cases h
    rw [beq_iff_eq.mp e]
    exact hp p (.head _)
   ·exact ih (fun q hq => hp q (.tail _ hq)) h
 refine key _ ?_ h
 have h0 : bootBuiltins "ord" = some (.builtin "ord") := by boot_fast
 have h1 : bootBuiltins "chr" = some (.builtin "chr") := by boot_fast
 have h2 : bootBuiltins "len" = some (.builtin "len") := by boot_fast
 have h3 : bootBuiltins "min" = some (.builtin "min") := by boot_fast
 have h4 : bootBuiltins "reversed" = some (.type "reversed") := by boot_fast
 have h5 : bootBuiltins "range" = some (.type "range") := by boot_fast
 have h6 : bootBuiltins "int" = some (.type "int") := by boot_fast
 have h7 : bootBuiltins "tuple" = some (.type "tuple") := by boot_fast
 have h8 : bootBuiltins "abs" = some (.builtin "abs") := by boot_fast
 have h9 : bootBuiltins "str" = some (.type "str") := by boot_fast
 exact List.forall_mem_cons.mpr ⟨⟨h0, by decide⟩, List.forall_mem_cons.mpr ⟨⟨h1, by decide⟩, List.forall_mem_cons.mpr ⟨⟨h2, by decide⟩, List.forall_mem_cons.mpr ⟨⟨h3, by decide⟩, List.forall_mem_cons.mpr ⟨⟨h4, by decide⟩, List.forall_mem_cons.mpr ⟨⟨h5, by decide⟩, List.forall_mem_cons.mpr ⟨⟨h6, by decide⟩, List.forall_mem_cons.mpr ⟨⟨h7, by decide⟩, List.forall_mem_cons.mpr ⟨⟨h8, by decide⟩, List.forall_mem_cons.mpr ⟨⟨h9, by decide⟩, fun _ h => nomatch h⟩⟩⟩⟩⟩⟩⟩⟩⟩⟩
theorem no {α : Type} {c : α} {Q : Prop} (h : none = some c) : Q := nomatch h
theorem so {a c : ZC} (h : some a = some c) (hs : ZSat G c) : ZSat G a := Option.some.inj h ▸ hs
theorem guard_ok {b : Bool} {o : Option ZC} {c : ZC} (h : guard b o = some c) : b = true ∧ o = some c := by
 cases b
 ·exact no h
 ·exact ⟨rfl, h⟩
theorem guard_not {b : Bool} {o : Option ZC} {c : ZC} (h : guard (!b) o = some c) : b = false ∧ o = some c := by
 cases b
 ·exact ⟨rfl, h⟩
 ·exact no h
theorem one_ok {α : Type} {l : List α} {f : α → Option ZC} {c : ZC} (h : one l f = some c) : ∃ x, l = [x] ∧ f x = some c := by
 cases l with
 | nil => exact no h
 | cons x r =>
  cases r with
  | nil => exact ⟨x, rfl, h⟩
  | cons _ _ => exact no h
theorem nil0_ok {α : Type} {l : List α} {o : Option ZC} {c : ZC} (h : nil0 l o = some c) : l = [] ∧ o = some c := by
 cases l with
 | nil => exact ⟨rfl, h⟩
 | cons x r => exact no h
theorem gV_ok {i : ZI} {f : Value → Option ZC} {c : ZC} (h : i.gV f = some c) : ∃ v, i = .v v ∧ f v = some c := by
 cases i with
 | v v => exact ⟨v, rfl, h⟩
 | _ => exact no h
theorem gB_ok {i : ZI} {f : Bool → Option ZC} {c : ZC} (h : i.gB f = some c) : ∃ v, i = .b v ∧ f v = some c := by
 cases i with
 | b v => exact ⟨v, rfl, h⟩
 | _ => exact no h
theorem gF_ok {i : ZI} {f : Flow → Option ZC} {c : ZC} (h : i.gF f = some c) : ∃ v, i = .f v ∧ f v = some c := by
 cases i with
 | f v => exact ⟨v, rfl, h⟩
 | _ => exact no h
theorem gL_ok {i : ZI} {f : List Value → Option ZC} {c : ZC} (h : i.gL f = some c) : ∃ v, i = .l v ∧ f v = some c := by
 cases i with
 | l v => exact ⟨v, rfl, h⟩
 | _ => exact no h
theorem Vint_ok {v : Value} {f : Int → Option ZC} {c : ZC} (h : Vint v f = some c) : ∃ a t, v = .int a t ∧ f a = some c := by
 cases v with
 | int a t => exact ⟨a, t, rfl, h⟩
 | _ => exact no h
theorem Vstr_ok {v : Value} {f : Str → Option ZC} {c : ZC} (h : Vstr v f = some c) : ∃ a t, v = .str a t ∧ f a = some c := by
 cases v with
 | str a t => exact ⟨a, t, rfl, h⟩
 | _ => exact no h
theorem loc_ok {x : Str} {k : NameKind} {f : NameKind → Bool} (h : (N.lookup x).rec (motive := fun _ => Bool) false f = true) (hf : ∀ k', f k' = true → k' = k) : N.lookup x = some k := by
 cases e : N.lookup x with
 | none => rw [e] at h; cases h
 | some k' => rw [e] at h; rw [hf k' h]
theorem isLoc_ok {x : Str} (h : isLoc N x = true) : N.lookup x = some .local := loc_ok h fun _ q => eq_of_beq q
theorem isGlo_ok {x : Str} (h : isGlo N x = true) : N.lookup x = some .globalImplicit := loc_ok h fun _ q => eq_of_beq q
theorem orV_ok {o : Option Value} {c : ZC} (h : orV σ k o = some c) (hs : ZSat G c) : ∃ v, o = some v ∧ zkd G k (.v v) σ := by
 cases o with
 | none => exact no h
 | some v => exact ⟨v, rfl, so h hs⟩
theorem stepName_ok {x : Str} {pos : Pos} (h : stepName N w.params σ k x = some c') (hs : ZSat G c') : ZW G σ (eval (.Name x pos) G.env) (fun v σ => zkd G k (.v v) σ) := by
 obtain ⟨hd, h⟩ := guard_not h
 cases hl : isLoc N x with
 | true =>
  rw [hl] at h
  obtain ⟨v, hv, q⟩ := orV_ok h hs
  exact zw_name (isLoc_ok hl) hd hv q
 | false =>
  rw [hl] at h
  obtain ⟨hg, h⟩ := guard_ok h
  cases e : globOf w.params x with
  | none => rw [e] at h; exact no h
  | some o =>
   rw [e] at h
   cases o with
   | some v => exact zw_glob (isGlo_ok hg) hd e (so h hs)
   | none =>
    obtain ⟨v, hv, q⟩ := orV_ok h hs
    have b := built_ok hv
    exact zw_built (isGlo_ok hg) hd b.2 e b.1 q
theorem stepE_ok {x : Expr} (h : stepE N w.params σ k x = some c') (hs : ZSat G c') : ZW G σ (eval x G.env) (fun v σ => zkd G k (.v v) σ) := by
 cases x with
 | Name x pos => exact stepName_ok h hs
 | Constant c u p =>
  cases c with
  | int i => exact fun s a => wpAny_Constant_int ⟨_, a.tick, by rw [a.toks]; exact so h hs⟩
  | str i => exact fun s a => Constant_str ⟨_, a.tick, by rw [a.toks]; exact so h hs⟩
  | bool i => exact fun s a => Constant_bool ⟨_, a, so h hs⟩
  | none => exact fun s a => Constant_none ⟨_, a, so h hs⟩
  | _ => exact no h
 | BinOp l op r pos => have hs := so h hs; exact fun s a => wpAny_BinOp (ZW.go hs a fun _ _ h1 s1 a1 => ZW.go h1 a1 fun _ _ h2 s2 a2 => h2 s2 a2)
 | UnaryOp op x pos => have hs := so h hs; exact fun s a => UnaryOp_ (ZW.go hs a fun _ _ h1 s1 a1 => h1 s1 a1)
 | IfExp t b e pos => have hs := so h hs; exact fun s a => IfExp_ (ZW.go hs a fun c _ h1 s1 a1 => by cases c <;> exact h1 s1 a1)
 | BoolOp op l pos =>
  rcases l with _ | ⟨x, _ | ⟨y, r⟩⟩
  ·exact no h
  ·have hs := so h hs; exact fun s a => BoolOp_one (hs s a)
  ·have hs := so h hs
   intro s a
   cases op
   ·exact BoolOp_and (ZW.go hs a fun _ _ h1 s1 a1 => ZW.go h1 a1 fun c _ h2 s2 a2 => by
     cases c
     ·exact ⟨_, a2, h2⟩
     ·exact h2 s2 a2)
   ·exact BoolOp_or (ZW.go hs a fun _ _ h1 s1 a1 => ZW.go h1 a1 fun c _ h2 s2 a2 => by
     cases c
     ·exact h2 s2 a2
     ·exact ⟨_, a2, h2⟩)
 | Compare l ops rs pos =>
  obtain ⟨op, rfl, h⟩ := one_ok h
  obtain ⟨r, rfl, h⟩ := one_ok h
  obtain ⟨hb, h⟩ := guard_not h
  have hs := so h hs
  exact fun s a => wpAny_Compare1 (ZW.go hs a fun _ _ h1 s1 a1 => ZW.go h1 a1 fun _ _ h2 s2 a2 => h2 s2 a2) hb
 | Tuple es u pos => have hs := so h hs; exact fun s a => Tuple_ (ZW.go hs a fun _ _ h1 s1 a1 => h1 s1 a1)
 | List es pos => have hs := so h hs; exact fun s a => List_ (ZW.go hs a fun _ _ h1 s1 a1 => h1 s1 a1)
 | Subscript v s pos => have hs := so h hs; exact fun s a => Subscript_ (ZW.go hs a fun _ _ h1 s1 a1 => ZW.go h1 a1 fun _ _ h2 s2 a2 => h2 s2 a2)
 | Attribute o name pos =>
  cases o with
  | Name x xp => have hs := so h hs; exact fun s a => Attribute_Name_ (ZW.go hs a fun _ _ h1 s1 a1 => h1 s1 a1) rfl
  | _ => exact no h
 | Call f args kw pos =>
  obtain ⟨rfl, h⟩ := nil0_ok h
  cases f with
  | Name x xp => have hs := so h hs; exact fun s a => Call_ (ZW.go hs a fun _ _ h1 s1 a1 => h1 s1 a1) rfl
  | Attribute o name apos =>
   obtain ⟨ho, h⟩ := guard_not h
   obtain ⟨hl, h⟩ := guard_ok h
   obtain ⟨hst, h⟩ := guard_not h
   obtain ⟨hn, h⟩ := guard_ok h
   have hs := so h hs
   exact fun s a => MethodCall_ (ZW.go hs a fun _ _ h1 s1 a1 => ZW.go (h1 _) a1 fun _ _ h2 s2 a2 => h2 s2 a2) (meth_eq (fun _ _ _ _ e => by subst e; cases ho) (eq_of_beq hl) hst (Nat.le_of_ble_eq_true hn))
  | _ => exact no h
 | _ => exact no h
theorem zw_allT {op : BoolOp} {x : Expr} {r : List Expr} {Kt : Bool → ZS → Prop} (h : ZW G σ (PySem.isTrue x G.env (eval x G.env)) (fun c σ => match op, c with
  | .And, false => Kt false σ
  | .Or, true => Kt true σ
  | op, _ => ZW G σ (allTrue op r G.env) Kt)) : ZW G σ (allTrue op (x :: r) G.env) Kt := fun s a => by
 cases op
 ·refine isTrue_and (pos := default) (whole := pure .none) (ZW.go h a fun c _ h1 s1 a1 => ?_)
  cases c
  ·exact ⟨_, a1, h1⟩
  ·exact h1 s1 a1
 ·refine isTrue_or (pos := default) (whole := pure .none) (ZW.go h a fun c _ h1 s1 a1 => ?_)
  cases c
  ·exact h1 s1 a1
  ·exact ⟨_, a1, h1⟩
theorem zw_plain {x : Expr} (hs : ZSat G ⟨σ, .truth :: k, .e x⟩) (he : PySem.isTrue x G.env (eval x G.env) = (do
 let v ← eval x G.env
 standAt x.pos
 holding [v] (truthy v))) : ZW G σ (PySem.isTrue x G.env (eval x G.env)) (fun c σ => zkd G k (.b c) σ) :=
 fun s a => isTrue_plain (ZW.go hs a fun _ _ h1 s1 a1 => h1 s1 a1) he
theorem stepT_ok {x : Expr} (h : stepT σ k x = some c') (hs : ZSat G c') : ZW G σ (PySem.isTrue x G.env (eval x G.env)) (fun c σ => zkd G k (.b c) σ) := by
 cases x with
 | UnaryOp op x p =>
  cases op with
  | Not => have hs := so h hs; exact fun s a => isTrue_not (ZW.go hs a fun c _ h1 s1 a1 => ⟨_, a1, h1⟩)
  | _ => exact zw_plain (so h hs) rfl
 | BoolOp op r pos => exact so h hs
 | Compare l ops rs pos =>
  obtain ⟨op, rfl, h⟩ := one_ok h
  obtain ⟨r, rfl, h⟩ := one_ok h
  obtain ⟨hb, h⟩ := guard_not h
  have hs := so h hs
  exact fun s a => wpAny_isTrue_Compare1 (ZW.go hs a fun _ _ h1 s1 a1 => ZW.go h1 a1 fun _ _ h2 s2 a2 => ZW.go h2 a2 fun _ _ h3 s3 a3 => h3 s3 a3) hb
 | IfExp _ _ _ _ => exact no h
 | _ => exact zw_plain (so h hs) rfl
theorem stepAs_ok {e t : Expr} {pos : Pos} (h : stepAs σ k e t = some c') (hs : ZSat G c') : ZW G σ (exec (.Assign [t] e pos) G.env) (fun x σ => zkd G k (.f x) σ) := by
 cases t with
 | Name x p =>
  obtain ⟨hc, h⟩ := guard_not h
  have hs := so h hs
  exact fun s a => wpAny_Assign_Name (ZW.go hs a fun _ _ h1 s1 a1 => ZW.go h1 a1 fun _ _ h2 s2 a2 => ⟨_, a2, h2⟩) (swap_no hc)
 | Attribute o name p =>
  obtain ⟨hc, h⟩ := guard_not h
  have hs := so h hs
  exact fun s a => plainObj_wpAny_Assign_Attribute (ZW.go hs a fun _ _ h1 s1 a1 => ZW.go h1 a1 fun _ _ h2 s2 a2 => ZW.go h2 a2 fun _ _ h3 s3 a3 => ⟨_, a3, h3⟩) (swap_no hc)
 | Subscript o i p =>
  obtain ⟨hc, h⟩ := guard_not h
  have hs := so h hs
  exact fun s a => wpAny_Assign_Subscript (ZW.go hs a fun _ _ h1 s1 a1 => ZW.go h1 a1 fun _ _ h2 s2 a2 => ZW.go h2 a2 fun _ _ h3 s3 a3 => ZW.go h3 a3 fun _ _ h4 s4 a4 => ⟨_, a4, h4⟩) (swap_no hc)
 | Tuple es u tp =>
  cases e with
  | Name x p => have hs := so h hs; exact fun s a => Assign_Tuple (ZW.go hs a fun _ _ h1 s1 a1 => ZW.go h1 a1 fun _ _ h2 s2 a2 => ⟨_, a2, h2⟩) rfl rfl
  | Call _ _ _ _ => have hs := so h hs; exact fun s a => Assign_Tuple (ZW.go hs a fun _ _ h1 s1 a1 => ZW.go h1 a1 fun _ _ h2 s2 a2 => ⟨_, a2, h2⟩) rfl rfl
  | _ => exact no h
 | _ => exact no h
theorem stepS_ok {x : Stmt} (h : stepS N σ k x = some c') (hs : ZSat G c') : ZW G σ (exec x G.env) (fun x σ => zkd G k (.f x) σ) := by
 obtain ⟨cn, b1, b2, more, f, ccd, ee⟩ := G.he
 have hint : interactive G.env = false := by rw [ee]; rfl
 cases x with
 | Expr e pos =>
  obtain ⟨hc, h⟩ := guard_not h
  have hs := so h hs
  exact fun s a => wpAny_Expr_any (ZW.go hs a fun _ _ h1 s1 a1 => ⟨_, a1, h1⟩) hint (swap_no hc)
 | Return e pos =>
  cases e with
  | none => have hs := so h hs; exact fun s a => wpAny_Return_none ⟨_, a, hs⟩
  | some e => have hs := so h hs; exact fun s a => wpAny_Return_some (ZW.go hs a fun _ _ h1 s1 a1 => ⟨_, a1, h1⟩)
 | Break pos =>
  have hs := so h hs
  intro s a
  show wpAny _ _ (do standAt pos; pure Flow.brk) _ _ _
  exact wpAny_bind (wpAny_standAt (wpAny_pure ⟨_, a, hs⟩))
 | If t b o pos => have hs := so h hs; exact fun s a => wpAny_If (ZW.go hs a fun c _ h1 s1 a1 => by cases c <;> exact h1 s1 a1)
 | Assign ts e pos =>
  obtain ⟨t, rfl, h⟩ := one_ok h
  exact stepAs_ok h hs
 | For t iter body o pos =>
  obtain ⟨rfl, h⟩ := nil0_ok h
  cases t with
  | Name x px =>
   obtain ⟨hi, h⟩ := guard_not h
   obtain ⟨hl, h⟩ := guard_ok h
   have hs := so h hs
   intro s a
   have hF := a.fr
   have hs' : ZW G σ (eval iter G.env) (fun v σ => ZLoop G σ x body v (fun f σ => zkd G k (.f f) σ)) := hs
   have hgo : wpAny (model pw w) G.A (eval iter G.env) (fun xv s₁ => IterDo w G.A G.g G.env x body (fun f s' => ∃ σ', ZAt G σ' s' ∧ zkd G k (.f f) σ') (fun _ _ => False) xv s₁) (fun _ _ => False) s := ZW.go hs' a fun _ _ h1 s1 a1 => h1 s1 a1
   rw [ee] at hgo ⊢
   refine for_mine (h₀ := G.g) (m₀ := mf G.mt σ.m) hF hgo (isLoc_ok hl) rfl (fun y => ?_) ?_
   ·cases iter <;> first | rfl | cases hi
   ·passes_own
  | _ => exact no h
 | _ => exact no h
theorem stepF_ok {f : ZF} {i : ZI} (h : stepF σ k i f = some c') (hs : ZSat G c') : zkd G (f :: k) i σ := by
 cases f with
 | block r =>
  obtain ⟨v, rfl, h⟩ := gF_ok h
  cases v <;> exact so h hs
 | ao es vs =>
  obtain ⟨v, rfl, h⟩ := gF_ok h
  cases v with
  | next => exact ⟨rfl, so h hs⟩
  | _ => exact no h
 | notT => obtain ⟨v, rfl, h⟩ := gB_ok h; exact so h hs
 | iff b e => obtain ⟨v, rfl, h⟩ := gB_ok h; cases v <;> exact so h hs
 | ife b e => obtain ⟨v, rfl, h⟩ := gB_ok h; cases v <;> exact so h hs
 | bt op r => obtain ⟨v, rfl, h⟩ := gB_ok h; cases v <;> cases op <;> exact so h hs
 | bv2 op v e r pos => obtain ⟨v, rfl, h⟩ := gB_ok h; cases v <;> cases op <;> exact so h hs
 | bv op e r pos =>
  obtain ⟨v, rfl, h⟩ := gV_ok h
  have hs := so h hs
  exact fun s a => ZW.go hs a fun c σ' h1 s1 a1 => ⟨σ', a1, h1⟩
 | wh body => obtain ⟨v, rfl, h⟩ := gB_ok h; cases v <;> exact so h hs
 | argC v => obtain ⟨v, rfl, h⟩ := gL_ok h; exact so h hs
 | callV f first => obtain ⟨v, rfl, h⟩ := gL_ok h; exact so h hs
 | tup => obtain ⟨v, rfl, h⟩ := gL_ok h; exact so h hs
 | lst => obtain ⟨v, rfl, h⟩ := gL_ok h; exact so h hs
 | _ => obtain ⟨v, rfl, h⟩ := gV_ok h; exact so h hs
theorem zputk {v : Tok → Value} (h : putT σ k v = some c') (hs : ZSat G c') {s : Shared} (a : ZAt G σ s) : ∃ σ', ZAt G σ' { s with toks := s.toks + 1 } ∧ zkd G k (.v (v s.toks)) σ' := by
 rw [a.toks]
 have q := a.tick
 rw [a.toks] at q
 exact ⟨_, q, so h hs⟩
theorem zputv {v : Value} (h : put σ k v = some c') (hs : ZSat G c') {s : Shared} (a : ZAt G σ s) : ∃ σ', ZAt G σ' s ∧ zkd G k (.v v) σ' := ⟨_, a, so h hs⟩
theorem stepBo_ok {op : Operator} {x y : Value} (h : stepBo σ k op x y = some c') (hs : ZSat G c') : ZW G σ (binaryOp op x y) (fun v σ => zkd G k (.v v) σ) := by
 cases op with
 | Add =>
  obtain ⟨a, t, rfl, h⟩ := Vint_ok h
  obtain ⟨b, t2, rfl, h⟩ := Vint_ok h
  exact fun s a => wpAny_add_int (zputk h hs a)
 | Sub =>
  obtain ⟨a, t, rfl, h⟩ := Vint_ok h
  obtain ⟨b, t2, rfl, h⟩ := Vint_ok h
  exact fun s a => PyProof.Rows.sub_int' (zputk h hs a)
 | Mod =>
  obtain ⟨a, t, rfl, h⟩ := Vint_ok h
  obtain ⟨b, t2, rfl, h⟩ := Vint_ok h
  obtain ⟨hb, h⟩ := guard_not h
  exact fun s a => PyProof.Rows.mod_int (beq_eq_false_iff_ne.mp hb) (zputk h hs a)
 | _ => exact no h
theorem ordV_ok {x y : Value} {f : Int → Int → Bool} (h : ordV σ k x y f = some c') (hs : ZSat G c') : ∃ a t b t2, x = .int a t ∧ y = .int b t2 ∧ ∀ s, ZAt G σ s → ∃ σ', ZAt G σ' s ∧ zkd G k (.v (.bool (f a b))) σ' := by
 obtain ⟨a, t, rfl, h1⟩ := Vint_ok h
 obtain ⟨b, t2, rfl, h2⟩ := Vint_ok h1
 exact ⟨a, t, b, t2, rfl, rfl, fun s a => zputv h2 hs a⟩
theorem stepCo_ok {op : CmpOp} {x y : Value} (h : stepCo σ k op x y = some c') (hs : ZSat G c') : ZW G σ (compareOp op x y) (fun v σ => zkd G k (.v v) σ) := by
 cases op with
 | Eq =>
  cases x with
  | int a t => obtain ⟨b, t2, rfl, h⟩ := Vint_ok h; exact fun s a => PyProof.Rows.eq_int (zputv h hs a)
  | str a t => obtain ⟨b, t2, rfl, h⟩ := Vstr_ok h; exact fun s a => PyProof.Rows.eq_str (zputv h hs a)
  | _ => exact no h
 | NotEq =>
  cases x with
  | int a t => obtain ⟨b, t2, rfl, h⟩ := Vint_ok h; exact fun s a => PyProof.Rows.ne_int (zputv h hs a)
  | str a t => obtain ⟨b, t2, rfl, h⟩ := Vstr_ok h; exact fun s a => PyProof.Rows.ne_str (zputv h hs a)
  | _ => exact no h
 | Lt => obtain ⟨_, _, _, _, rfl, rfl, h1⟩ := ordV_ok h hs; exact fun s a => PyProof.Rows.lt_int (h1 s a)
 | Gt => obtain ⟨_, _, _, _, rfl, rfl, h1⟩ := ordV_ok h hs; exact fun s a => PyProof.Rows.gt_int (h1 s a)
 | LtE => obtain ⟨_, _, _, _, rfl, rfl, h1⟩ := ordV_ok h hs; exact fun s a => PyProof.Rows.le_int (h1 s a)
 | GtE => obtain ⟨_, _, _, _, rfl, rfl, h1⟩ := ordV_ok h hs; exact fun s a => PyProof.Rows.ge_int (h1 s a)
 | Is =>
  cases y with
  | none =>
   cases x with
   | none => exact fun s a => PySem.is_none (zputv h hs a)
   | ref _ => exact fun s a => PySem.is_none (zputv h hs a)
   | _ => exact no h
  | _ => exact no h
 | IsNot =>
  cases y with
  | none =>
   cases x with
   | none => exact fun s a => PySem.isNot_none (zputv h hs a)
   | ref _ => exact fun s a => PySem.isNot_none (zputv h hs a)
   | _ => exact no h
  | _ => exact no h
 | _ => exact no h
theorem zw_callX {pos : Pos} {f : Value} {first : List Value} {e : Expr} {r : List Expr} {Kt : Value → ZS → Prop} (hf : keepIn (K w.params) f = true) (hst : (e :: r).any isStar = false) (h : ZW G σ (spliced (backTo pos (starEach (e :: r) G.env))) (fun vs σ => ZW G σ (PySem.call f (first ++ vs)) Kt)) :
  ZW G σ (callWith pos f first (backTo pos (starEach (e :: r) G.env)) []) Kt := fun s a => by
 rw [List.any_cons, Bool.or_eq_false_iff] at hst
 exact callWith_K a.all hf (ZW.go h a fun _ _ h1 s1 a1 => ⟨a1.all, h1 s1 a1⟩) (star_cons hst.1) (star_any hst.2)
theorem zw_callB {pos : Pos} {id : String} {first : List Value} {e : Expr} {r : List Expr} {Kt : Value → ZS → Prop} (hst : (e :: r).any isStar = false) (h : ZW G σ (spliced (backTo pos (starEach (e :: r) G.env))) (fun vs σ => ZW G σ (PySem.call (.builtin id) (first ++ vs)) Kt)) :
  ZW G σ (callWith pos (.builtin id) first (backTo pos (starEach (e :: r) G.env)) []) Kt := fun s a => by
 rw [List.any_cons, Bool.or_eq_false_iff] at hst
 exact PyProof.Rows.callWith_method1 (ZW.go h a fun _ _ h1 s1 a1 => h1 s1 a1) (star_cons hst.1) (star_any hst.2)
theorem zw_new {vs : List Value} {Kt : Value → ZS → Prop} (hz : vs.length ≤ sizeLine) (h : Kt (.ref σ.sz) ⟨σ.m, σ.own ++ [(σ.sz, tupO vs)], σ.led, σ.tk, σ.sz + 1⟩) : ZW G σ (newTuple vs) Kt := fun s a =>
 wpAny_newObj_type (T := "tuple") ⟨_, a.push rfl, by rw [a.sz]; exact h⟩ (by show vs.toArray.size ≤ sizeLine; rw [List.size_toArray]; exact hz)
theorem zw_newL {vs : List Value} {Kt : Value → ZS → Prop} (hz : vs.length ≤ sizeLine) (h : Kt (.ref σ.sz) ⟨σ.m, σ.own ++ [(σ.sz, PySem.W.listOf vs.toArray 0)], σ.led, σ.tk, σ.sz + 1⟩) : ZW G σ (newList vs) Kt := fun s a =>
 wpAny_newObj_type (T := "list") ⟨_, a.push rfl, by rw [a.sz]; exact h⟩ (by show vs.toArray.size ≤ sizeLine; rw [List.size_toArray]; exact hz)
theorem stepPc_ok {f : Value} {vs : List Value} (h : stepPc σ k f vs = some c') (hs : ZSat G c') : ZW G σ (PySem.call f vs) (fun v σ => zkd G k (.v v) σ) := by
 cases f with
 | builtin id =>
  obtain ⟨e, h⟩ := guard_ok h
  obtain ⟨v, rfl, h⟩ := one_ok h
  obtain ⟨⟨⟨l⟩⟩, t, rfl, h⟩ := Vstr_ok h
  obtain rfl := eq_of_beq e
  rcases l with _ | ⟨c, _ | ⟨_, _⟩⟩
  ·exact no h
  ·exact fun s a => PySem.P.ord_of_char (zputk h hs a)
  ·exact no h
 | _ => exact no h
theorem stepCw_ok {pos : Pos} {f : Value} {first : List Value} {args : List Expr} (h : stepCw w.params σ k pos f first args = some c') (hs : ZSat G c') : ZW G σ (callWith pos f first (backTo pos (starEach args G.env)) []) (fun v σ => zkd G k (.v v) σ) := by
 cases f with
 | ref b =>
  obtain ⟨hk, h⟩ := guard_ok h
  cases args with
  | nil => have hs := so h hs; exact fun s a => callWith_K0 a.all hk (ZW.go hs a fun _ _ h1 s1 a1 => ⟨_, a1, h1⟩)
  | cons e r =>
   obtain ⟨hst, h⟩ := guard_not h
   exact zw_callX hk hst (so h hs)
 | builtin id =>
  cases args with
  | nil => exact no h
  | cons e r =>
   obtain ⟨hst, h⟩ := guard_not h
   exact zw_callB hst (so h hs)
 | type id =>
  obtain ⟨rfl, h⟩ := nil0_ok h
  cases args with
  | nil => exact no h
  | cons e r =>
   obtain ⟨hst, h⟩ := guard_not h
   have hs := so h hs
   exact fun s a => PyProof.Rows.callWith_type1 (ZW.go hs a fun _ _ h1 s1 a1 => h1 s1 a1) (star_cons (Bool.or_eq_false_iff.mp hst).1) (star_any (Bool.or_eq_false_iff.mp hst).2)
 | _ => exact no h
theorem zstep_ok {c : ZC} (h : zstep N w.params c = some c') (hs : ZSat G c') : ZSat G c := by
 obtain ⟨σ, k, md⟩ := c
 cases md with
 | e x => exact stepE_ok h hs
 | t x => exact stepT_ok h hs
 | bt op r =>
  cases r with
  | nil =>
   have hs := so h hs
   intro s a
   cases op
   ·exact wpAny_pure (a := true) ⟨_, a, hs⟩
   ·exact wpAny_pure (a := false) ⟨_, a, hs⟩
  | cons x r =>
   have hs := so h hs
   refine zw_allT fun s a => ZW.go hs a fun c _ h1 s1 a1 => ⟨_, a1, ?_⟩
   cases op <;> cases c <;> exact h1
 | ss r =>
  cases r with
  | nil => have hs := so h hs; exact fun s a => wpAny_execs_nil ⟨_, a, hs⟩
  | cons x r =>
   have hs := so h hs
   refine fun s a => wpAny_execs_cons (ZW.go hs a fun f _ h1 s1 a1 => ?_)
   cases f
   ·exact h1 s1 a1
   ·exact ⟨_, a1, h1⟩
   ·exact ⟨_, a1, h1⟩
   ·exact ⟨_, a1, h1⟩
 | s x => exact stepS_ok h hs
 | l pos es =>
  cases es with
  | nil => have hs := so h hs; exact fun s a => args_nil ⟨_, a, hs⟩
  | cons e r =>
   obtain ⟨hst, h⟩ := guard_not h
   have hs := so h hs
   exact fun s a => args_cons (ZW.go hs a fun _ _ h1 s1 a1 => ZW.go h1 a1 fun _ _ h2 s2 a2 => ⟨_, a2, h2⟩) (star_cons hst)
 | d i =>
  cases k with
  | nil => exact no h
  | cons f k => exact stepF_ok h hs
 | pc f vs => exact stepPc_ok h hs
 | bo op a b => exact stepBo_ok h hs
 | co op a b => exact stepCo_ok h hs
 | uo op v =>
  cases op with
  | USub =>
   obtain ⟨a, t, rfl, h⟩ := Vint_ok h
   exact fun s a => PyProof.Rows.neg_int (zputk h hs a)
  | _ => exact no h
 | tr v =>
  cases v with
  | bool b => have hs := so h hs; exact fun s a => wpAny_truthy_bool ⟨_, a, hs⟩
  | none => have hs := so h hs; exact fun s a => truthy_none ⟨_, a, hs⟩
  | _ => exact no h
 | cw pos f first args => exact stepCw_ok h hs
 | st x v =>
  obtain ⟨hl, h⟩ := guard_ok h
  exact zw_store (isLoc_ok hl) (so h hs)
 | as t v =>
  cases t with
  | Name x p => have hs := so h hs; exact fun s a => PyProof.Rows.assign_Name (ZW.go hs a fun _ _ h1 s1 a1 => ⟨_, a1, h1⟩)
  | _ => exact no h
 | ao es vs =>
  cases es with
  | nil =>
   cases vs with
   | nil => have hs := so h hs; exact fun s a => assignInOrder_nil ⟨_, a, hs⟩
   | cons _ _ => exact no h
  | cons t es =>
   cases t with
   | Name x p =>
    cases vs with
    | nil => exact no h
    | cons v vs =>
     have hs := so h hs
     exact fun s a => assignInOrder_cons (ZW.go hs a fun _ _ h1 s1 a1 => ZW.go h1.2 a1 fun _ _ h2 s2 a2 => ⟨_, a2, h2⟩)
   | _ => exact no h
 | nt vs =>
  obtain ⟨hb, h⟩ := guard_ok h
  exact zw_new (Nat.le_of_ble_eq_true hb) (so h hs)
 | nl vs =>
  obtain ⟨hb, h⟩ := guard_ok h
  exact zw_newL (Nat.le_of_ble_eq_true hb) (so h hs)
 | _ => exact no h
theorem zgo_ok {n : Nat} : ∀ {c : ZC}, ZSat G (zgo N w.params n c) → ZSat G c := by
 induction n with
 | zero => exact fun h => h
 | succ n ih =>
  intro c h
  have e : zgo N w.params (n + 1) c = (zstep N w.params c).rec c (zgo N w.params n) := rfl
  rw [e] at h
  cases hc : zstep N w.params c with
  | none => rw [hc] at h; exact h
  | some c' => rw [hc] at h; exact zstep_ok hc (ih h)
end
end
section
set_option tactic.hygienic false
noncomputable def obAt (P : Params) (f : Addr) : Obj := ((K P).lookup f).getD default
noncomputable def fdAt (P : Params) (f : Addr) : FuncData := match (obAt P f).data with
 | .func fd => fd
 | _ => default
noncomputable def nmAt (w : World) (f : Addr) : List (Str × NameKind) := (fdAt w.params f).scope.names
noncomputable def bdAt (w : World) (f : Addr) : List Stmt := match (fdAt w.params f).body with
 | .stmts b => b
 | _ => []
noncomputable def ZFin (post : Value → List (Addr × Obj) → Prop) : Flow → ZS → Prop := fun fl σ => ∃ l, post (match fl with | .ret v => v | _ => .none) l ∧ ∀ p ∈ l, p ∈ σ.own ++ σ.led
noncomputable def entOk (P : Params) (f : Addr) (binds : List (Str × Value)) : Bool :=
 codeIn (K P) (fdAt P f).code (fdAt P f).qualname && ((binds.all fun x => decide ((fdAt P f).scope.names.lookup x.1 = some .local)) && (fdAt P f).scope.names.all fun x => x.2 != .cell)
structure ZT {w : World} {N : List (Str × NameKind)} {d : Nat} (G : ZG w N d) (c : ZC) : Prop where
 s : ZSat G c
theorem z_enter {w : World} {d : Nat} {f : Addr} {args : List Value} (binds : List (Str × Value)) {led own₀ led₀ R : List (Addr × Obj)} {post : Value → List (Addr × Obj) → Prop}
  (e1 : (K w.params).lookup f = some ⟨(obAt w.params f).cls, (obAt w.params f).dict, .func (fnOf (fdAt w.params f).name (fdAt w.params f).qualname (fdAt w.params f).params (bdAt w f) ⟨.function, nmAt w f, false, false, (fdAt w.params f).scope.more⟩ (fdAt w.params f).defaults (fdAt w.params f).kwdefaults (fdAt w.params f).doc (fdAt w.params f).pyModule (fdAt w.params f).annotations (fdAt w.params f).code (fdAt w.params f).closureTuple), (obAt w.params f).slots⟩)
  (e2 : entOk w.params f binds = true)
  (hb : ∀ s : Shared, (K w.params).In s.heap → BindsTo s (fnOf (fdAt w.params f).name (fdAt w.params f).qualname (fdAt w.params f).params (bdAt w f) ⟨.function, nmAt w f, false, false, (fdAt w.params f).scope.more⟩ (fdAt w.params f).defaults (fdAt w.params f).kwdefaults (fdAt w.params f).doc (fdAt w.params f).pyModule (fdAt w.params f).annotations (fdAt w.params f).code (fdAt w.params f).closureTuple) ⟨args, []⟩ binds)
  (hs : ∀ p ∈ own₀ ++ led₀, p ∈ led) (hnd : (own₀.map (·.1)).Nodup) (hoff : ∀ p ∈ own₀, ∀ q ∈ led₀, p.1 ≠ q.1) (hR : ∀ p ∈ R, p ∈ led₀)
  (h : ∀ (Z : Value → List (Addr × Obj) → Prop), (∀ v l, post v l → Z v l) → ∀ (G : ZG w (nmAt w f) d) (tk sz : Nat), G.P = ZFin Z → G.R = R → ZT G ⟨⟨binds.reverse, own₀, led₀, tk, sz⟩, [], .ss (bdAt w f)⟩) : Does w f (d + 1) args led post := by
 unfold entOk at e2
 rw [Bool.and_eq_true, Bool.and_eq_true] at e2
 refine ⟨fun {A E s h₀ L m mg mb mean Q} hr F N X T k => ?_⟩
 refine enter_fn F N X T e1 rfl rfl e2.1 hr (hb s (X.keeps F.keep)) (locs1 e2.2.1) (fun x hx q => ?_) fun g L' h₁ F' N' X' T' l1 hr' => ?_
 ·have := List.all_eq_true.mp e2.2.2 x hx
  rw [q] at this
  exact absurd this (by decide)
 ·let G : ZG w (nmAt w f) d := ⟨_, g, L', { s with heap := h₁, toks := s.toks + binds.length }, envOf (fdAt w.params f).qualname ⟨.function, nmAt w f, false, false, (fdAt w.params f).scope.more⟩ L' f (fdAt w.params f).code, [], R, [], (fun _ => none), ZFin post, mg, mb, mean, X', T', hr', ⟨(fdAt w.params f).qualname, false, false, (fdAt w.params f).scope.more, f, (fdAt w.params f).code, rfl⟩⟩
  refine wpAny_mono ((h post (fun _ _ q => q) G (s.toks + binds.length) h₁.objs.size rfl rfl).s _ ⟨rfl, rfl, (mf_look binds.reverse).symm ▸ F', fun p hp => N' p (hs p hp), hnd, hoff, hR, (fun p hp => nomatch hp), (fun _ _ q hq => nomatch hq)⟩) (fun fl s'' hh => ?_) fun _ _ f => f
  obtain ⟨σ', a', l3, hp, hs3⟩ := hh
  refine back_ a'.fr (news_sub a'.nw hs3) fun kF kN => ?_
  have e9 : s'' = { s with heap := s''.heap, toks := σ'.tk } := a'.st
  rw [e9]
  cases fl <;> exact k _ _ _ l3 hp kF kN
noncomputable def fnAt (w : World) (f : Addr) : FuncData := fnOf (fdAt w.params f).name (fdAt w.params f).qualname (fdAt w.params f).params (bdAt w f) ⟨.function, nmAt w f, false, false, (fdAt w.params f).scope.more⟩ (fdAt w.params f).defaults (fdAt w.params f).kwdefaults (fdAt w.params f).doc (fdAt w.params f).pyModule (fdAt w.params f).annotations (fdAt w.params f).code (fdAt w.params f).closureTuple
noncomputable def atL (w : World) (f : Addr) : Option Obj := (K w.params).lookup f
noncomputable def atR (w : World) (f : Addr) : Option Obj := some ⟨(obAt w.params f).cls, (obAt w.params f).dict, .func (fnAt w f), (obAt w.params f).slots⟩
noncomputable def zstart (w : World) (f : Addr) (binds : List (Str × Value)) (own led : List (Addr × Obj)) (tk sz : Nat) : ZC := ⟨⟨binds.reverse, own, led, tk, sz⟩, [], .ss (bdAt w f)⟩
theorem z_in {w : World} {d : Nat} {f : Addr} {args : List Value} (binds : List (Str × Value)) {led R : List (Addr × Obj)} {post : Value → List (Addr × Obj) → Prop} (hR : ∀ p ∈ R, p ∈ led) (e1 : atL w f = atR w f) (e2 : entOk w.params f binds = true) (e3 : bindArgs (fnAt w f) ⟨args, []⟩ = Sem.pure binds)
  (h : ∀ (Z : Value → List (Addr × Obj) → Prop), (∀ v l, post v l → Z v l) → ∀ (G : ZG w (nmAt w f) d) (tk sz : Nat), G.P = ZFin Z → G.R = R → let z := zstart w f binds [] led tk sz; ZT G z) : Does w f (d + 1) args led post :=
 z_enter (own₀ := []) (led₀ := led) (R := R) binds e1 e2 (fun _ _ => BindsTo.of_eq e3) (fun _ h => h) List.nodup_nil (fun _ h => nomatch h) hR h
theorem z_inO {w : World} {d : Nat} {f : Addr} {args : List Value} (binds : List (Str × Value)) (own led : List (Addr × Obj)) {R : List (Addr × Obj)} {post : Value → List (Addr × Obj) → Prop} (hR : ∀ p ∈ R, p ∈ led) (hnd : (own.map (·.1)).Nodup) (hoff : ∀ p ∈ own, ∀ q ∈ led, p.1 ≠ q.1) (e1 : atL w f = atR w f) (e2 : entOk w.params f binds = true) (e3 : bindArgs (fnAt w f) ⟨args, []⟩ = Sem.pure binds)
  (h : ∀ (Z : Value → List (Addr × Obj) → Prop), (∀ v l, post v l → Z v l) → ∀ (G : ZG w (nmAt w f) d) (tk sz : Nat), G.P = ZFin Z → G.R = R → let z := zstart w f binds own led tk sz; ZT G z) : Does w f (d + 1) args (own ++ led) post :=
 z_enter (own₀ := own) (led₀ := led) (R := R) binds e1 e2 (fun _ _ => BindsTo.of_eq e3) (fun _ h => h) hnd hoff hR h
section
variable {α : Type}
noncomputable def onSu (md : ZM) (z : α) (f : Expr → Expr → Value → Value → α) : α := match md with | .su v s o i => f v s o i | _ => z
noncomputable def onGm (md : ZM) (z : α) (f : Value → Str → Pos → List Expr → α) : α := match md with | .gm o n p as => f o n p as | _ => z
noncomputable def onGa (md : ZM) (z : α) (f : Value → Str → α) : α := match md with | .ga o n => f o n | _ => z
noncomputable def onPc (md : ZM) (z : α) (f : Value → List Value → α) : α := match md with | .pc o n => f o n | _ => z
noncomputable def onBo (md : ZM) (z : α) (f : Operator → Value → Value → α) : α := match md with | .bo op a b => f op a b | _ => z
noncomputable def onAs (md : ZM) (z : α) (f : Expr → Value → α) : α := match md with | .as op a => f op a | _ => z
noncomputable def onNt (md : ZM) (z : α) (f : List Value → α) : α := match md with | .nt vs => f vs | _ => z
noncomputable def onD (md : ZM) (z : α) (f : ZI → α) : α := match md with | .d i => f i | _ => z
noncomputable def onRef (v : Value) (z : α) (f : Addr → α) : α := match v with | .ref a => f a | _ => z
noncomputable def onInt (v : Value) (z : α) (f : Int → α) : α := match v with | .int a _ => f a | _ => z
noncomputable def onStr (v : Value) (z : α) (f : Str → α) : α := match v with | .str a _ => f a | _ => z
noncomputable def onBool (v : Value) (z : α) (f : Bool → α) : α := match v with | .bool a => f a | _ => z
noncomputable def onBi (v : Value) (z : α) (f : String → α) : α := match v with | .builtin a => f a | _ => z
noncomputable def onTy (v : Value) (z : α) (f : String → α) : α := match v with | .type a => f a | _ => z
noncomputable def onSeq (v : Data) (z : α) (f : Array Value → Nat → α) : α := match v with | .seq a n => f a n | _ => z
noncomputable def onCons {β : Type} (l : List β) (z : α) (f : β → List β → α) : α := l.rec z fun x r _ => f x r
noncomputable def onNil {β : Type} (l : List β) (z : α) (f : α) : α := l.rec f fun _ _ _ => z
variable {z y : α}
theorem onSu_ok {md : ZM} {f : Expr → Expr → Value → Value → α} (h : onSu md z f = y) (n : z ≠ y) : ∃ v s o i, md = .su v s o i ∧ f v s o i = y := by cases md <;> first | exact ⟨_, _, _, _, rfl, h⟩ | exact absurd h n
theorem onGm_ok {md : ZM} {f : Value → Str → Pos → List Expr → α} (h : onGm md z f = y) (n : z ≠ y) : ∃ v s o i, md = .gm v s o i ∧ f v s o i = y := by cases md <;> first | exact ⟨_, _, _, _, rfl, h⟩ | exact absurd h n
theorem onGa_ok {md : ZM} {f : Value → Str → α} (h : onGa md z f = y) (n : z ≠ y) : ∃ v s, md = .ga v s ∧ f v s = y := by cases md <;> first | exact ⟨_, _, rfl, h⟩ | exact absurd h n
theorem onPc_ok {md : ZM} {f : Value → List Value → α} (h : onPc md z f = y) (n : z ≠ y) : ∃ v s, md = .pc v s ∧ f v s = y := by cases md <;> first | exact ⟨_, _, rfl, h⟩ | exact absurd h n
theorem onBo_ok {md : ZM} {f : Operator → Value → Value → α} (h : onBo md z f = y) (n : z ≠ y) : ∃ p a b, md = .bo p a b ∧ f p a b = y := by cases md <;> first | exact ⟨_, _, _, rfl, h⟩ | exact absurd h n
theorem onAs_ok {md : ZM} {f : Expr → Value → α} (h : onAs md z f = y) (n : z ≠ y) : ∃ v s, md = .as v s ∧ f v s = y := by cases md <;> first | exact ⟨_, _, rfl, h⟩ | exact absurd h n
theorem onNt_ok {md : ZM} {f : List Value → α} (h : onNt md z f = y) (n : z ≠ y) : ∃ v, md = .nt v ∧ f v = y := by cases md <;> first | exact ⟨_, rfl, h⟩ | exact absurd h n
theorem onD_ok {md : ZM} {f : ZI → α} (h : onD md z f = y) (n : z ≠ y) : ∃ v, md = .d v ∧ f v = y := by cases md <;> first | exact ⟨_, rfl, h⟩ | exact absurd h n
theorem onRef_ok {v : Value} {f : Addr → α} (h : onRef v z f = y) (n : z ≠ y) : ∃ a, v = .ref a ∧ f a = y := by cases v <;> first | exact ⟨_, rfl, h⟩ | exact absurd h n
theorem onInt_ok {v : Value} {f : Int → α} (h : onInt v z f = y) (n : z ≠ y) : ∃ a t, v = .int a t ∧ f a = y := by cases v <;> first | exact ⟨_, _, rfl, h⟩ | exact absurd h n
theorem onStr_ok {v : Value} {f : Str → α} (h : onStr v z f = y) (n : z ≠ y) : ∃ a t, v = .str a t ∧ f a = y := by cases v <;> first | exact ⟨_, _, rfl, h⟩ | exact absurd h n
theorem onBool_ok {v : Value} {f : Bool → α} (h : onBool v z f = y) (n : z ≠ y) : ∃ a, v = .bool a ∧ f a = y := by cases v <;> first | exact ⟨_, rfl, h⟩ | exact absurd h n
theorem onBi_ok {v : Value} {f : String → α} (h : onBi v z f = y) (n : z ≠ y) : ∃ a, v = .builtin a ∧ f a = y := by cases v <;> first | exact ⟨_, rfl, h⟩ | exact absurd h n
theorem onTy_ok {v : Value} {f : String → α} (h : onTy v z f = y) (n : z ≠ y) : ∃ a, v = .type a ∧ f a = y := by cases v <;> first | exact ⟨_, rfl, h⟩ | exact absurd h n
theorem onSeq_ok {v : Data} {f : Array Value → Nat → α} (h : onSeq v z f = y) (n : z ≠ y) : ∃ a k, v = .seq a k ∧ f a k = y := by cases v <;> first | exact ⟨_, _, rfl, h⟩ | exact absurd h n
theorem onCons_ok {β : Type} {l : List β} {f : β → List β → α} (h : onCons l z f = y) (n : z ≠ y) : ∃ a r, l = a :: r ∧ f a r = y := by cases l <;> first | exact ⟨_, _, rfl, h⟩ | exact absurd h n
theorem onNil_ok {β : Type} {l : List β} {f : α} (h : onNil l z f = y) (n : z ≠ y) : l = [] ∧ f = y := by cases l <;> first | exact ⟨rfl, h⟩ | exact absurd h n
theorem cond_ok {b : Bool} {x : α} (h : cond b x z = y) (n : z ≠ y) : b = true ∧ x = y := by cases b <;> first | exact ⟨rfl, h⟩ | exact absurd h n
theorem none_ne {x : α} : none ≠ some x := nofun
end
noncomputable def asSeq (t : String) (o : Obj) : Option (Array Value × Nat) := o.rec fun c d x s => onTy c none fun t' => onSeq x none fun a n => cond (t' == t && (d.isNone && onNil s.toList false true)) (some (a, n)) none
theorem asSeq_ok {t : String} {o : Obj} {its : Array Value} {n : Nat} (h : asSeq t o = some (its, n)) : o = ⟨.type t, none, .seq its n, #[]⟩ := by
 obtain ⟨c, d, x, s⟩ := o
 obtain ⟨t', rfl, h1⟩ := onTy_ok h none_ne
 obtain ⟨a, k, rfl, h2⟩ := onSeq_ok h1 none_ne
 obtain ⟨hb, h3⟩ := cond_ok h2 none_ne
 cases h3
 rw [Bool.and_eq_true, Bool.and_eq_true] at hb
 obtain ⟨e1, e2, e3⟩ := hb
 obtain rfl := eq_of_beq e1
 obtain rfl := Option.isNone_iff_eq_none.mp e2
 obtain ⟨l⟩ := s
 obtain ⟨rfl, _⟩ := onNil_ok e3 Bool.false_ne_true
 rfl
section
variable {w : World} {N : List (Str × NameKind)} {d : Nat} {G : ZG w N d} {c : ZC}
noncomputable def ZHas (G : ZG w N d) (c : ZC) (p : Addr × Obj) : Prop := p ∈ G.R ∨ p ∈ c.σ.own ++ c.σ.led
theorem zR {p : Addr × Obj} {R : List (Addr × Obj)} (e : G.R = R) (h : p ∈ R) : ZHas G c p := .inl (e ▸ h)
theorem zO {p : Addr × Obj} (j : Nat) (e : c.σ.own[j]? = some p) : ZHas G c p := .inr (List.mem_append_left _ (List.mem_of_getElem? e))
theorem zL {p : Addr × Obj} {l : List (Addr × Obj)} (e : c.σ.led = l) (h : p ∈ l) : ZHas G c p := .inr (List.mem_append_right _ (e ▸ h))
theorem ZHas.at {p : Addr × Obj} (h : ZHas G c p) {s : Shared} (a : ZAt G c.σ s) : p ∈ c.σ.own ++ c.σ.led := h.elim (fun h => a.at h) id
noncomputable def zput (c : ZC) (v : Value) : ZC := c.rec fun σ k _ => ⟨σ, k, .d (.v v)⟩
noncomputable def zputT (c : ZC) (n : Nat) (v : Value) : ZC := c.rec fun σ k _ => ⟨⟨σ.m, σ.own, σ.led, σ.tk + n, σ.sz⟩, k, .d (.v v)⟩
theorem ZT.go (n : Nat) (h : ZSat G (zgo N w.params n c)) : ZT G c := ⟨zgo_ok (n := n) h⟩
noncomputable def isSlice (e : Expr) : Bool := match e with
 | .Slice .. => true
 | _ => false
theorem slice_no {s : Expr} {a : Addr} {i : Int} {u : Tok} (h : isSlice s = false) : subscripted s false (.ref a) (.int i u) = operate [.ref a, .int i u] (getItem (.ref a) (.int i u)) := by
 cases s <;> first | rfl | cases h
noncomputable def itOf (c : ZC) (vs : List Value) : Option (Addr × Nat) := onSu c.md none fun _ s o i => onRef o none fun a => onInt i none fun i => cond (!isSlice s && (decide (0 ≤ i) && (decide (i < 10000) && (vs[i.toNat]?).isSome))) (some (a, i.toNat)) none
theorem z_item (n : Nat) {a : Addr} {vs : List Value} {i : Nat} (hm : ZHas G (zgo N w.params n c) (a, tupO vs)) (hv : itOf (zgo N w.params n c) vs = some (a, i)) (h : let c' := zput (zgo N w.params n c) (vs.getD i .none); ZT G c') : ZT G c := by
 refine ZT.go n ?_
 generalize zgo N w.params n c = c1 at *
 obtain ⟨σ, k, md⟩ := c1
 obtain ⟨v, s, o, iv, rfl, h1⟩ := onSu_ok hv none_ne
 obtain ⟨a', rfl, h2⟩ := onRef_ok h1 none_ne
 obtain ⟨i', u, rfl, h3⟩ := onInt_ok h2 none_ne
 obtain ⟨hc, h4⟩ := cond_ok h3 none_ne
 cases h4
 rw [Bool.and_eq_true, Bool.and_eq_true, Bool.and_eq_true, decide_eq_true_eq, decide_eq_true_eq, Bool.not_eq_true'] at hc
 obtain ⟨q1, q2, q3, q4⟩ := hc
 obtain ⟨x, hx⟩ := Option.isSome_iff_exists.mp q4
 intro st at'
 refine item_tupL at'.nw (hm.at at') q2 q3 (v := vs.getD i'.toNat .none) ?_ ⟨σ, at', h.s⟩ (slice_no q1)
 rw [List.getD_eq_getElem?_getD, hx]; rfl
noncomputable def getE (name : Str) (es : List DictEntry) : Option Value := (getL name es).rec none fun o => o
noncomputable def atOf (P : Params) (C : Addr) (es : List DictEntry) (c : ZC) : Option (Addr × Value) := onGa c.md none fun o name => onRef o none fun x =>
 cond (plainGet (K P) C name && hasDictIn (K P) C) ((findIn (K P) (.ref C) name).rec none fun attr => cond (noGet (K P) attr) ((getE name es).rec none fun v => cond (handedIn v) (some (x, v)) none) none) none
noncomputable def atPut (P : Params) (C : Addr) (es : List DictEntry) (c : ZC) : ZC := (atOf P C es c).rec c fun p => zputT c 1 p.2
theorem getE_ok {name : Str} {es : List DictEntry} {v : Value} (h : getE name es = some v) : getL name es = some (some v) := by
 unfold getE at h
 cases e : getL name es with
 | none => rw [e] at h; cases h
 | some o => rw [e] at h; exact congrArg some h
theorem z_attr (n : Nat) {x C dx : Addr} {es : List DictEntry} {k : Nat} (h1 : ZHas G (zgo N w.params n c) (x, instObj C dx)) (h2 : ZHas G (zgo N w.params n c) (dx, dictOf es k)) (hv : (atOf w.params C es (zgo N w.params n c)).map (·.1) = some x) (h : let c' := atPut w.params C es (zgo N w.params n c); ZT G c') : ZT G c := by
 refine ZT.go n ?_
 generalize zgo N w.params n c = c1 at *
 obtain ⟨⟨x', v⟩, e, rfl⟩ := Option.map_eq_some_iff.mp hv
 have h' : ZT G (zputT c1 1 v) := by unfold atPut at h; rw [e] at h; exact h
 clear h hv
 obtain ⟨σ, k, md⟩ := c1
 obtain ⟨o, name, rfl, e1⟩ := onGa_ok e none_ne
 obtain ⟨x1, rfl, e2⟩ := onRef_ok e1 none_ne
 obtain ⟨hb, e3⟩ := cond_ok e2 none_ne
 rw [Bool.and_eq_true] at hb
 cases hat : findIn (K w.params) (.ref C) name with
 | none => rw [hat] at e3; cases e3
 | some attr =>
  rw [hat] at e3
  obtain ⟨hng, e4⟩ := cond_ok e3 none_ne
  cases hg : getE name es with
  | none => rw [hg] at e4; cases e4
  | some v' =>
   rw [hg] at e4
   obtain ⟨hh, e5⟩ := cond_ok e4 none_ne
   cases e5
   exact fun s a => get_own a.fr G.X (W.InstAt.of_news a.nw (h1.at a) (h2.at a)) hb.1 hb.2 hat hng (getE_ok hg) hh ⟨_, a.tick, h'.s⟩
noncomputable def mtOf (P : Params) (C : Addr) (es : List DictEntry) (c : ZC) : Option (Addr × Addr) := onGm c.md none fun o name _ _ => onRef o none fun x => cond (plainGet (K P) C name)
 ((findIn (K P) (.ref C) name).rec none fun attr => attr.rec none fun f => onRef f none fun f => cond (isFn (K P) (.ref f)) ((getL name es).rec none fun v => v.rec (some (x, f)) fun _ => none) none) none
noncomputable def mtPut (P : Params) (C : Addr) (es : List DictEntry) (c : ZC) : ZC := (mtOf P C es c).rec c fun p => onGm c.md c fun _ _ pos args => ⟨c.σ, c.k, .cw pos (.ref p.2) [.ref p.1] args⟩
theorem z_meth (n : Nat) {x C dx : Addr} {es : List DictEntry} {k : Nat} (h1 : ZHas G (zgo N w.params n c) (x, instObj C dx)) (h2 : ZHas G (zgo N w.params n c) (dx, dictOf es k)) (hv : (mtOf w.params C es (zgo N w.params n c)).map (·.1) = some x) (h : let c' := mtPut w.params C es (zgo N w.params n c); ZT G c') : ZT G c := by
 refine ZT.go n ?_
 generalize zgo N w.params n c = c1 at *
 obtain ⟨⟨x', f⟩, e, rfl⟩ := Option.map_eq_some_iff.mp hv
 have h' : ZT G (onGm c1.md c1 fun _ _ pos args => ⟨c1.σ, c1.k, .cw pos (.ref f) [.ref x'] args⟩) := by unfold mtPut at h; rw [e] at h; exact h
 clear h hv
 obtain ⟨σ, k, md⟩ := c1
 obtain ⟨o, name, pos, args, rfl, e1⟩ := onGm_ok e none_ne
 obtain ⟨x1, rfl, e2⟩ := onRef_ok e1 none_ne
 obtain ⟨hb, e3⟩ := cond_ok e2 none_ne
 cases hat : findIn (K w.params) (.ref C) name with
 | none => rw [hat] at e3; cases e3
 | some attr =>
  rw [hat] at e3
  cases attr with
  | none => cases e3
  | some f' =>
   obtain ⟨f1, rfl, e4⟩ := onRef_ok e3 none_ne
   obtain ⟨hn, e5⟩ := cond_ok e4 none_ne
   cases hg : getL name es with
   | none => rw [hg] at e5; cases e5
   | some v =>
    rw [hg] at e5
    cases v with
    | some _ => cases e5
    | none =>
     cases e5
     exact fun pl s a => method_inst a.fr G.X (W.InstAt.of_news a.nw (h1.at a) (h2.at a)) hb hat hn hg ⟨_, a, h'.s⟩
noncomputable def ownL (c : ZC) (j : Nat) : Except Bool (Addr × Array Value × Nat) := (c.σ.own[j]?).rec (.error true) fun p => (asSeq "list" p.2).rec (.error true) fun q => .ok (p.1, q)
noncomputable def ownA (c : ZC) (j : Nat) : Except Bool Addr := (ownL c j).rec (fun _ => .error true) fun p => .ok p.1
theorem ownL_ok {c : ZC} {j : Nat} {D : Addr} {its : Array Value} {n : Nat} (h : ownL c j = .ok (D, its, n)) : c.σ.own[j]? = some (D, PySem.W.listOf its n) := by
 unfold ownL at h
 cases e : c.σ.own[j]? with
 | none => rw [e] at h; cases h
 | some p =>
  rw [e] at h
  cases e2 : asSeq "list" p.2 with
  | none => simp only [e2] at h; cases h
  | some q =>
   simp only [e2] at h
   cases h
   rw [← Prod.eta p, asSeq_ok e2]
theorem ownA_ok {c : ZC} {j : Nat} {D : Addr} (h : ownA c j = .ok D) : ∃ its n, c.σ.own[j]? = some (D, PySem.W.listOf its n) ∧ ownL c j = .ok (D, its, n) := by
 unfold ownA at h
 cases e : ownL c j with
 | error b => rw [e] at h; cases h
 | ok y =>
  obtain ⟨D', its, n⟩ := y
  rw [e] at h
  cases h
  exact ⟨its, n, ownL_ok e, rfl⟩
theorem ownA_ne {c : ZC} {j : Nat} : Except.error false ≠ ownA c j := by
 unfold ownA
 cases ownL c j <;> nofun
noncomputable def lmOf (name : Str) (c : ZC) : Except Bool Addr := onGm c.md (.error false) fun o x _ _ => onRef o (.error false) fun D => cond (x == name) (.ok D) (.error false)
noncomputable def lmPut (id : String) (c : ZC) : ZC := onGm c.md c fun o _ pos args => ⟨c.σ, c.k, .cw pos (.builtin id) [o] args⟩
theorem z_lm (n : Nat) (j : Nat) {name : Str} {id : String} (hs : Slot "list" name id) (ht : typeOf (Value.builtin id) = pure (Value.type "method_descriptor")) (hv : lmOf name (zgo N w.params n c) = ownA (zgo N w.params n c) j) (h : let c' := lmPut id (zgo N w.params n c); ZT G c') : ZT G c := by
 refine ZT.go n ?_
 generalize zgo N w.params n c = c1 at *
 obtain ⟨σ, k, md⟩ := c1
 obtain ⟨o, x, pos, args, rfl, e1⟩ := onGm_ok hv ownA_ne
 obtain ⟨D, rfl, e2⟩ := onRef_ok e1 ownA_ne
 obtain ⟨hx, e3⟩ := cond_ok e2 ownA_ne
 obtain rfl := eq_of_beq hx
 obtain ⟨its, n', ho, _⟩ := ownA_ok e3.symm
 exact fun pl s a => listMethod_K a.nw (List.mem_append_left _ (List.mem_of_getElem? ho)) hs ht ⟨_, a, h.s⟩
noncomputable def two {α β : Type} (l : List β) (z : α) (f : β → β → α) : α := onCons l z fun x r => onCons r z fun y r => onNil r z (f x y)
theorem two_ok {α β : Type} {l : List β} {z y : α} {f : β → β → α} (h : two l z f = y) (n : z ≠ y) : ∃ a b, l = [a, b] ∧ f a b = y := by
 obtain ⟨a, r, rfl, h1⟩ := onCons_ok h n
 obtain ⟨b, r, rfl, h2⟩ := onCons_ok h1 n
 obtain ⟨rfl, h3⟩ := onNil_ok h2 n
 exact ⟨a, b, rfl, h3⟩
noncomputable def apOf (c : ZC) : Except Bool Addr := onPc c.md (.error false) fun f vs => onBi f (.error false) fun id => cond (id == "list.append") (two vs (.error false) fun a _ => onRef a (.error false) .ok) (.error false)
noncomputable def apSz (c : ZC) (j : Nat) : Nat := (ownL c j).rec (fun _ => 0) fun p => p.2.1.size
noncomputable def okR {α : Type} (o : Except Bool (Addr × Array Value × Nat)) (z : α) (f : Addr × Array Value × Nat → α) : α := o.rec (fun _ => z) f
noncomputable def apNew (j : Nat) (c : ZC) (x : Value) (p : Addr × Array Value × Nat) : ZC := ⟨⟨c.σ.m, c.σ.own.set j (p.1, PySem.W.listOf (p.2.1.push x) (p.2.2 + 1)), c.σ.led, c.σ.tk, c.σ.sz⟩, c.k, .d (.v .none)⟩
noncomputable def apPut (j : Nat) (c : ZC) : ZC := onPc c.md c fun _ vs => two vs c fun _ x => okR (ownL c j) c (apNew j c x)
theorem own_set {σ : ZS} {s : Shared} (a : ZAt G σ s) {j : Nat} {D : Addr} {o o' : Obj} (hj : σ.own[j]? = some (D, o)) {h' : Heap} (hs : Heap.SameBut D s.heap h') (ho : h'.get? D = some o') : ZAt G { σ with own := σ.own.set j (D, o') } { s with heap := h' } := by
 have hjl : j < σ.own.length := by
  by_cases q : j < σ.own.length
  ·exact q
  ·rw [List.getElem?_eq_none (by lia)] at hj; cases hj
 have hjg : σ.own[j] = (D, o) := by rw [List.getElem?_eq_getElem hjl] at hj; exact Option.some.inj hj
 have hmem : (D, o) ∈ σ.own ++ σ.led := List.mem_append_left _ (List.mem_of_getElem? hj)
 have hN := a.nw _ hmem
 have hmap : (σ.own.set j (D, o')).map (·.1) = σ.own.map (·.1) := by
  apply List.ext_getElem?
  intro i
  rw [List.map_set, List.getElem?_set]
  by_cases e : j = i
  ·subst e
   rw [if_pos rfl, if_pos (by simpa using hjl), List.getElem?_map, hj]; rfl
  ·rw [if_neg e]
 have hmemS : ∀ p ∈ σ.own.set j (D, o'), p = (D, o') ∨ (p ∈ σ.own ∧ p.1 ≠ D) := by
  intro p hp
  obtain ⟨i, hi⟩ := List.mem_iff_getElem?.mp hp
  rw [List.getElem?_set] at hi
  by_cases e : j = i
  ·subst e
   rw [if_pos rfl, if_pos hjl] at hi
   exact .inl (Option.some.inj hi).symm
  ·rw [if_neg e] at hi
   refine .inr ⟨List.mem_of_getElem? hi, fun q => e ?_⟩
   have h1 : (σ.own.map (·.1))[i]? = some D := by rw [List.getElem?_map, hi, ← q]; rfl
   have h2 : (σ.own.map (·.1))[j]? = some D := by rw [List.getElem?_map, hj]; rfl
   have hil : i < (σ.own.map (·.1)).length := by
    by_cases r : i < (σ.own.map (·.1)).length
    ·exact r
    ·rw [List.getElem?_eq_none (by lia)] at h1; cases h1
   exact ((List.getElem?_inj hil a.nd).mp (h1.trans h2.symm)).symm
 refine a.heap rfl (hs.1.trans a.sz) (a.fr.change hs hN.2.1 hN.2.2) (fun p hp => ?_) (hmap ▸ a.nd) (fun p hp q hq => ?_) a.sub (fun p hp => ?_) (fun p hp q hq => ?_)
 ·rcases List.mem_append.mp hp with hp | hp
  ·rcases hmemS p hp with rfl | ⟨hp, hd⟩
   ·exact ⟨ho, hN.2⟩
   ·have := a.nw p (List.mem_append_left _ hp)
    exact ⟨(hs.2 _ hd).trans this.1, this.2⟩
  ·have := a.nw p (List.mem_append_right _ hp)
   exact ⟨(hs.2 _ (a.off _ (List.mem_of_getElem? hj) p hp).symm).trans this.1, this.2⟩
 ·rcases hmemS p hp with rfl | ⟨hp, hd⟩
  ·exact a.off _ (List.mem_of_getElem? hj) q hq
  ·exact a.off p hp q hq
 ·exact ⟨(hs.2 _ (a.hof _ hmem p hp).symm).trans (a.hid p hp).1, (a.hid p hp).2⟩
 ·rcases List.mem_append.mp hp with hp | hp
  ·rcases hmemS p hp with rfl | ⟨hp, hd⟩
   ·exact a.hof _ hmem q hq
   ·exact a.hof p (List.mem_append_left _ hp) q hq
  ·exact a.hof p (List.mem_append_right _ hp) q hq
theorem z_append (n : Nat) (j : Nat) (hv : apOf (zgo N w.params n c) = ownA (zgo N w.params n c) j) (hz : apSz (zgo N w.params n c) j ≤ sizeLine) (h : let c' := apPut j (zgo N w.params n c); ZT G c') : ZT G c := by
 refine ZT.go n ?_
 generalize zgo N w.params n c = c1 at *
 obtain ⟨σ, k, md⟩ := c1
 obtain ⟨f, vs, rfl, e1⟩ := onPc_ok hv ownA_ne
 obtain ⟨id, rfl, e2⟩ := onBi_ok e1 ownA_ne
 obtain ⟨hid, e3⟩ := cond_ok e2 ownA_ne
 obtain rfl := eq_of_beq hid
 obtain ⟨a0, x, rfl, e4⟩ := two_ok e3 ownA_ne
 obtain ⟨D, rfl, e5⟩ := onRef_ok e4 ownA_ne
 obtain ⟨its, n', ho, hl⟩ := ownA_ok e5.symm
 have hz' : its.size ≤ sizeLine := by unfold apSz at hz; rw [hl] at hz; exact hz
 have h' : ZT G (apNew j ⟨σ, k, .pc (.builtin "list.append") [.ref D, x]⟩ x (D, its, n')) := by
  have h0 : ZT G (okR (ownL ⟨σ, k, .pc (.builtin "list.append") [.ref D, x]⟩ j) ⟨σ, k, .pc (.builtin "list.append") [.ref D, x]⟩ (apNew j ⟨σ, k, .pc (.builtin "list.append") [.ref D, x]⟩ x)) := h
  rw [hl] at h0; exact h0
 intro s a
 have hN := a.nw _ (List.mem_append_left _ (List.mem_of_getElem? ho))
 exact append_at (hsz := hz') hN.1 fun h2 hs ho' => ⟨_, own_set a ho hs ho', h'.s⟩
noncomputable def clOf (c : ZC) : Option (Addr × List Value) := onPc c.md none fun f vs => onRef f none fun f => some (f, vs)
noncomputable def tokOf (v : Value) : Tok := match v with
 | .int _ t => t
 | .str _ t => t
 | _ => 0
noncomputable def tks (c : ZC) (i : Nat) : Tok := onPc c.md 0 fun _ vs => tokOf (vs.getD i .none)
noncomputable def zres (c : ZC) (r : Value) (own led : List (Addr × Obj)) (tk sz : Nat) : ZC := c.rec fun σ k _ => ⟨⟨σ.m, own, led, tk, sz⟩, k, .d (.v r)⟩
theorem z_callG (n : Nat) {f dd : Nat} {args : (Nat → Tok) → List Value} {cl kp : List (Addr × Obj)} {post : (Nat → Tok) → Value → List (Addr × Obj) → Prop} (D : ∀ t : Nat → Tok, Does w f dd (args t) cl (post t)) (hd : dd ≤ d) (hv : clOf (zgo N w.params n c) = some (f, args (tks (zgo N w.params n c))))
  (hs : ∀ p ∈ cl, p ∈ (zgo N w.params n c).σ.own ++ (zgo N w.params n c).σ.led) (hk : ∀ p ∈ kp, p ∈ (zgo N w.params n c).σ.own) (hnd : (kp.map (·.1)).Nodup) (hoff : ∀ p ∈ kp, ∀ q ∈ cl, p.1 ≠ q.1)
  (h : ∀ r l, post (tks (zgo N w.params n c)) r l → ∀ tk sz, (∀ p ∈ G.R, p ∈ l) ∧ (let c' := zres (zgo N w.params n c) r kp l tk sz; ZT G c')) : ZT G c := by
 refine ZT.go n ?_
 generalize zgo N w.params n c = c1 at *
 obtain ⟨σ, k, md⟩ := c1
 obtain ⟨f', vs, rfl, e0⟩ := onPc_ok hv none_ne
 obtain ⟨f1, rfl, e⟩ := onRef_ok e0 none_ne
 obtain ⟨e1, e2⟩ := Prod.mk.inj (Option.some.inj e)
 subst e1
 intro s a
 rw [e2]
 refine wpAny_call ((D _).run (G.hr.le hd) a.fr (news_sub a.nw hs) G.X G.T fun h' tk' r l hp F' N' => ?_)
 obtain ⟨hR, hn⟩ := h r l hp tk' h'.objs.size
 refine ⟨_, ?_, hn.s⟩
 have hown : ∀ p ∈ kp, s.heap.get? p.1 = some p.2 ∧ p.1 ≠ G.L ∧ G.g.get? p.1 = none := fun p hp => a.nw p (List.mem_append_left _ (hk p hp))
 have hall : ∀ p ∈ kp ++ cl, p ∈ σ.own ++ σ.led := fun p hp => (List.mem_append.mp hp).elim (fun h => List.mem_append_left _ (hk p h)) (hs p)
 refine a.heapT rfl rfl F' (fun p hp => ?_) hnd (fun p hp q hq => ?_) hR (fun p hp => ⟨N'.keep _ _ (a.hid p hp).1 fun q hq => a.hof q (hs q hq) p hp, (a.hid p hp).2⟩) (fun p hp q hq e => ?_)
 ·rcases List.mem_append.mp hp with hp | hp
  ·exact ⟨N'.keep _ _ (hown p hp).1 fun q hq e => hoff p hp q hq e.symm, (hown p hp).2⟩
  ·exact N'.news p hp
 ·intro e
  rcases N'.new q hq with e' | ⟨z, hz, e'⟩
  ·rw [← e, (hown p hp).1] at e'; cases e'
  ·exact hoff p hp z hz (e.trans e'.symm)
 ·rcases List.mem_append.mp hp with hp | hp
  ·exact a.hof p (List.mem_append_left _ (hk p hp)) q hq e
  ·rcases N'.new p hp with e' | ⟨z, hz, e'⟩
   ·rw [e, (a.hid q hq).1] at e'; cases e'
   ·exact a.hof z (hs z hz) q hq (e'.trans e)
theorem z_sz {a b : Nat} (h : b ≤ sizeLine) (e : a = b) : a ≤ sizeLine := e ▸ h
theorem z_call (n : Nat) {f dd : Nat} {args : (Nat → Tok) → List Value} {cl : List (Addr × Obj)} {post : (Nat → Tok) → Value → List (Addr × Obj) → Prop} (D : ∀ t : Nat → Tok, Does w f dd (args t) cl (post t)) (hd : dd ≤ d) (hv : clOf (zgo N w.params n c) = some (f, args (tks (zgo N w.params n c)))) (hl : (zgo N w.params n c).σ.led = cl)
  (h : ∀ r l, post (tks (zgo N w.params n c)) r l → ∀ tk sz, (∀ p ∈ G.R, p ∈ l) ∧ (let c' := zres (zgo N w.params n c) r (zgo N w.params n c).σ.own l tk sz; ZT G c')) : ZT G c := by
 refine ZT.go n ?_
 have key : ∀ s, ZAt G (zgo N w.params n c).σ s → ZSat G (zgo N w.params n c) := fun s a =>
  ZT.s (z_callG (N := N) (c := zgo N w.params n c) 0 D hd hv (fun p hp => List.mem_append_right _ (hl ▸ hp)) (kp := (zgo N w.params n c).σ.own) (fun _ h => h) a.nd (fun p hp q hq => a.off p hp q (hl ▸ hq)) h)
 generalize zgo N w.params n c = c1 at *
 obtain ⟨σ, k, md⟩ := c1
 obtain ⟨f', vs, rfl, e0⟩ := onPc_ok hv none_ne
 exact fun s a => key s a s a
theorem z_callO (n : Nat) {f dd : Nat} {args : (Nat → Tok) → List Value} {own led : List (Addr × Obj)} {post : (Nat → Tok) → Value → List (Addr × Obj) → Prop} (D : ∀ t : Nat → Tok, Does w f dd (args t) (own ++ led) (post t)) (hd : dd ≤ d) (hv : clOf (zgo N w.params n c) = some (f, args (tks (zgo N w.params n c)))) (ho : (zgo N w.params n c).σ.own = own) (hl : (zgo N w.params n c).σ.led = led)
  (h : ∀ r l, post (tks (zgo N w.params n c)) r l → ∀ tk sz, (∀ p ∈ G.R, p ∈ l) ∧ (let c' := zres (zgo N w.params n c) r [] l tk sz; ZT G c')) : ZT G c :=
 z_callG n D hd hv (fun p hp => by rw [ho, hl]; exact hp) (kp := []) (fun _ h => nomatch h) List.nodup_nil (fun _ h => nomatch h) h
noncomputable def brOf (c : ZC) : Option Bool := onD c.md none fun i => i.rec (fun _ => none) some (fun _ => none) (fun _ => none)
noncomputable def brPut (b : Bool) (c : ZC) : ZC := c.rec fun σ k _ => ⟨σ, k, .d (.b b)⟩
theorem z_br (n : Nat) (b : Bool) {x : Bool} (hx : x = b) (hv : brOf (zgo N w.params n c) = some x) (h : let c' := brPut b (zgo N w.params n c); ZT G c') : ZT G c := by
 refine ZT.go n ?_
 generalize zgo N w.params n c = c1 at *
 obtain ⟨σ, k, md⟩ := c1
 obtain ⟨i, rfl, e⟩ := onD_ok hv none_ne
 cases i with
 | b y => cases e; subst hx; exact h.s
 | _ => cases e
theorem z_split (n : Nat) (x : Bool) (hv : brOf (zgo N w.params n c) = some x) (h1 : x = true → let c' := brPut true (zgo N w.params n c); ZT G c') (h0 : x = false → let c' := brPut false (zgo N w.params n c); ZT G c') : ZT G c := by
 cases x
 ·exact z_br n false rfl hv (h0 rfl)
 ·exact z_br n true rfl hv (h1 rfl)
noncomputable def onTup {α : Type} (t : Expr) (z : α) (f : List Expr → α) : α := match t with | .Tuple es _ _ => f es | _ => z
theorem onTup_ok {α : Type} {t : Expr} {z y : α} {f : List Expr → α} (h : onTup t z f = y) (n : z ≠ y) : ∃ es u p, t = .Tuple es u p ∧ f es = y := by cases t <;> first | exact ⟨_, _, _, rfl, h⟩ | exact absurd h n
noncomputable def upOf (c : ZC) (n : Nat) : Option Addr := onAs c.md none fun t v => onTup t none fun es => onRef v none fun a => cond (!es.any isStar && Nat.beq es.length n) (some a) none
noncomputable def upPut (vs : List Value) (sz : Nat) (c : ZC) : ZC := onAs c.md c fun t _ => onTup t c fun es => ⟨⟨c.σ.m, c.σ.own, c.σ.led, c.σ.tk, sz⟩, c.k, .ao es vs⟩
theorem asg_cons {e : Expr} {r : List Expr} {env : Env} (h : isStar e = false) : assignEach (e :: r) env = (false, PySem.assign e env) :: assignEach r env := by
 cases e <;> first | rfl | cases h
theorem asg_star {env : Env} : ∀ {r : List Expr}, r.any isStar = false → (assignEach r env).length = r.length ∧ (assignEach r env).findIdx? (·.1) = none
 | [], _ => ⟨rfl, rfl⟩
 | e :: r, h => by
  rw [List.any_cons, Bool.or_eq_false_iff] at h
  have ih := asg_star (env := env) h.2
  rw [asg_cons h.1]
  exact ⟨by rw [List.length_cons, List.length_cons, ih.1], by rw [List.findIdx?_cons, ih.2]; rfl⟩
theorem z_unpack (n : Nat) {t : Addr} {vs : List Value} (hm : ZHas G (zgo N w.params n c) (t, tupO vs)) (hv : upOf (zgo N w.params n c) vs.length = some t) (h : ∀ sz, let c' := upPut vs sz (zgo N w.params n c); ZT G c') : ZT G c := by
 refine ZT.go n ?_
 generalize zgo N w.params n c = c1 at *
 obtain ⟨⟨m, own, led, tk, sz⟩, k, md⟩ := c1
 obtain ⟨t1, v1, rfl, e1⟩ := onAs_ok hv none_ne
 obtain ⟨es, u, p, rfl, e2⟩ := onTup_ok e1 none_ne
 obtain ⟨a1, rfl, e3⟩ := onRef_ok e2 none_ne
 obtain ⟨hb, e4⟩ := cond_ok e3 none_ne
 cases e4
 rw [Bool.and_eq_true, Bool.not_eq_true'] at hb
 have hl := Nat.eq_of_beq_eq_true hb.2
 have q := asg_star (env := G.env) hb.1
 intro s a
 refine assign_Tuple_tuple (items := vs.toArray) G.hr.hd (News.isTup a.nw (hm.at a)) (by rw [q.1, hl, List.size_toArray]) q.2 fun h' he => ?_
 exact ZW.go (h h'.objs.size).s (a.heap (σ' := ⟨m, own, led, tk, h'.objs.size⟩) rfl rfl (a.fr.extBut he (Nat.le_refl _)) (a.nw.extBut he (Nat.le_refl _)) a.nd a.off a.sub (a.hid.extBut he (Nat.le_refl _)) a.hof) fun _ σ' hk s' a' => ⟨σ', a', hk⟩
noncomputable def fOf (c : ZC) : Option Flow := onNil c.k none (onD c.md none fun i => i.rec (fun _ => none) (fun _ => none) some (fun _ => none))
theorem fOf_ok {c : ZC} {f : Flow} (h : fOf c = some f) : c = ⟨c.σ, [], .d (.f f)⟩ := by
 obtain ⟨σ, k, md⟩ := c
 obtain ⟨rfl, e⟩ := onNil_ok h none_ne
 obtain ⟨i, rfl, e1⟩ := onD_ok e none_ne
 cases i with
 | f y => cases e1; rfl
 | _ => cases e1
noncomputable def enOf (c : ZC) : Option Value := (fOf c).rec none fun f => match f with
 | .ret v => some v
 | .next => some .none
 | _ => none
theorem z_fl (n : Nat) {f : Flow} (hv : fOf (zgo N w.params n c) = some f) (h : G.P f (zgo N w.params n c).σ) : ZT G c := by
 refine ZT.go n ?_
 rw [fOf_ok hv]
 exact h
theorem z_endO (n : Nat) {post : Value → List (Addr × Obj) → Prop} {v : Value} {l : List (Addr × Obj)} (hP : G.P = ZFin post) (hv : enOf (zgo N w.params n c) = some v) (hs : ∀ p ∈ l, p ∈ (zgo N w.params n c).σ.own ++ (zgo N w.params n c).σ.led) (h : post v l) : ZT G c := by
 unfold enOf at hv
 cases e : fOf (zgo N w.params n c) with
 | none => rw [e] at hv; cases hv
 | some f =>
  rw [e] at hv
  refine z_fl n e ?_
  rw [hP]
  cases f <;> cases hv <;> exact ⟨l, h, hs⟩
theorem z_end (n : Nat) {post : Value → List (Addr × Obj) → Prop} {v : Value} {l : List (Addr × Obj)} (hP : G.P = ZFin post) (hv : enOf (zgo N w.params n c) = some v) (hl : (zgo N w.params n c).σ.led = l) (h : post v l) : ZT G c :=
 z_endO n hP hv (fun p hp => List.mem_append_right _ (hl ▸ hp)) h
noncomputable def zpc (c : ZC) : Bool := match c.md with
 | .pc _ _ => true
 | .nt _ => true
 | .s _ => true
 | .ss _ => true
 | .e _ => true
 | _ => false
theorem z_pc {md : ZM} {σ : ZS} {k : List ZF} (hv : zpc ⟨σ, k, md⟩ = true) (h : ∀ s, ZAt G σ s → ZSat G ⟨σ, k, md⟩) : ZSat G ⟨σ, k, md⟩ := by
 cases md with
 | pc _ _ => exact fun s a => h s a s a
 | nt _ => exact fun s a => h s a s a
 | s _ => exact fun s a => h s a s a
 | ss _ => exact fun s a => h s a s a
 | e _ => exact fun s a => h s a s a
 | _ => cases hv
theorem z_own (n : Nat) {l : List (Addr × Obj)} (hv : zpc (zgo N w.params n c) = true) (hl : (zgo N w.params n c).σ.led = l)
  (h : let own := (zgo N w.params n c).σ.own; (own.map (·.1)).Nodup → (∀ p ∈ own, ∀ q ∈ l, p.1 ≠ q.1) → (∀ p ∈ own ++ l, p.1 < (zgo N w.params n c).σ.sz) → let c' := zgo N w.params n c; ZT G c') : ZT G c := by
 refine ZT.go n ?_
 generalize zgo N w.params n c = c1 at *
 obtain ⟨σ, k, md⟩ := c1
 subst hl
 exact z_pc hv fun s a => (h a.nd a.off fun p hp => a.sz ▸ Heap.lt_size (a.nw p hp).1).s
noncomputable def adr (own : List (Addr × Obj)) (j : Nat) : Addr := (own[j]?.getD (0, default)).1
noncomputable def refs (own : List (Addr × Obj)) (js : List Nat) : List Value := js.map fun j => .ref (adr own j)
theorem adr_mem {own : List (Addr × Obj)} {j : Nat} {o : Obj} (h : own[j]? = some (adr own j, o)) : (adr own j, o) ∈ own := List.mem_of_getElem? h
end
noncomputable def tupAt (own : List (Addr × Obj)) (j : Nat) : Option (List Value) := (own[j]?).rec none fun p => (asSeq "tuple" p.2).rec none fun q => cond (Nat.beq q.2 0) (some q.1.toList) none
theorem tupAt_eq {own : List (Addr × Obj)} {j : Nat} {vs : List Value} (h : tupAt own j = some vs) : own[j]? = some (adr own j, tupO vs) := by
 unfold tupAt at h
 cases e : own[j]? with
 | none => rw [e] at h; cases h
 | some p =>
  rw [e] at h
  cases e2 : asSeq "tuple" p.2 with
  | none => simp only [e2] at h; cases h
  | some q =>
   simp only [e2] at h
   obtain ⟨hn, h3⟩ := cond_ok h none_ne
   cases h3
   obtain ⟨⟨l⟩, n⟩ := q
   obtain rfl : n = 0 := Nat.eq_of_beq_eq_true hn
   have e3 := asSeq_ok e2
   unfold adr
   rw [e, ← Prod.eta p, e3]; rfl
theorem tupAt_ok {own : List (Addr × Obj)} {j : Nat} {vs : List Value} (h : tupAt own j = some vs) : (adr own j, tupO vs) ∈ own := adr_mem (tupAt_eq h)
noncomputable def tupF {α : Type} (own : List (Addr × Obj)) (j : Nat) (f : List Value → Option α) : Option α := (tupAt own j).rec none f
theorem tupF_ok {α : Type} {own : List (Addr × Obj)} {j : Nat} {f : List Value → Option α} {y : α} (h : tupF own j f = some y) : ∃ vs, own[j]? = some (adr own j, tupO vs) ∧ f vs = some y := by
 unfold tupF at h
 cases e : tupAt own j with
 | none => rw [e] at h; cases h
 | some vs => rw [e] at h; exact ⟨vs, tupAt_eq e, h⟩
noncomputable def pairAt (own : List (Addr × Obj)) (j : Nat) : Option (Str × Int) := tupF own j fun vs => two vs none fun a b => onStr a none fun x => onInt b none fun k => some (x, k)
theorem pairAt_ok {own : List (Addr × Obj)} {j : Nat} {x : Str} {k : Int} (h : pairAt own j = some (x, k)) : ∃ t1 t2, (adr own j, tupO [.str x t1, .int k t2]) ∈ own := by
 obtain ⟨vs, m, h1⟩ := tupF_ok h
 obtain ⟨a, b, rfl, h2⟩ := two_ok h1 none_ne
 obtain ⟨x', t1, rfl, h3⟩ := onStr_ok h2 none_ne
 obtain ⟨k', t2, rfl, h4⟩ := onInt_ok h3 none_ne
 cases h4
 exact ⟨t1, t2, adr_mem m⟩
noncomputable def trpAt (own : List (Addr × Obj)) (j : Nat) : Option (Str × Int × Value) := tupF own j fun vs => onCons vs none fun a r => two r none fun b v => onStr a none fun x => onInt b none fun k => some (x, k, v)
theorem trpAt_ok {own : List (Addr × Obj)} {j : Nat} {x : Str} {f : Int} {v : Value} (h : trpAt own j = some (x, f, v)) : ∃ t1 t2, (adr own j, tupO [.str x t1, .int f t2, v]) ∈ own := by
 obtain ⟨vs, m, h1⟩ := tupF_ok h
 obtain ⟨a, r, rfl, h0⟩ := onCons_ok h1 none_ne
 obtain ⟨b, v', rfl, h2⟩ := two_ok h0 none_ne
 obtain ⟨x', t1, rfl, h3⟩ := onStr_ok h2 none_ne
 obtain ⟨k', t2, rfl, h4⟩ := onInt_ok h3 none_ne
 cases h4
 exact ⟨t1, t2, adr_mem m⟩
section
variable {w : World} {N : List (Str × NameKind)} {d : Nat} {G : ZG w N d} {c : ZC}
noncomputable def zforget (c : ZC) : List (Str × Value) × List (Addr × Obj) × List (Addr × Obj) × List ZF × ZM := (c.σ.m, c.σ.own, c.σ.led, c.k, c.md)
theorem z_join (n : Nat) {m : List (Str × Value)} {own led : List (Addr × Obj)} {k : List ZF} {md : ZM} (h : ∀ tk sz, ZT G ⟨⟨m, own, led, tk, sz⟩, k, md⟩) (hv : zforget (zgo N w.params n c) = (m, own, led, k, md)) : ZT G c := by
 refine ZT.go n ?_
 generalize zgo N w.params n c = c1 at *
 obtain ⟨⟨m1, own1, led1, tk, sz⟩, k1, md1⟩ := c1
 cases hv
 exact (h tk sz).s
noncomputable def zforgetI (c : ZC) : Option (Str × Int × List (Str × Value) × List (Addr × Obj) × List (Addr × Obj) × List ZF × ZM) := onCons c.σ.m none fun p m => onInt p.2 none fun v => some (p.1, v, m, c.σ.own, c.σ.led, c.k, c.md)
theorem z_joinI (n : Nat) {x : Str} {v : Int} {m : List (Str × Value)} {own led : List (Addr × Obj)} {k : List ZF} {md : ZM} (h : ∀ t tk sz, ZT G ⟨⟨(x, .int v t) :: m, own, led, tk, sz⟩, k, md⟩) (hv : zforgetI (zgo N w.params n c) = some (x, v, m, own, led, k, md)) : ZT G c := by
 refine ZT.go n ?_
 generalize zgo N w.params n c = c1 at *
 obtain ⟨⟨m1, own1, led1, tk, sz⟩, k1, md1⟩ := c1
 obtain ⟨p, m2, e0, e1⟩ := onCons_ok hv none_ne
 obtain rfl : m1 = p :: m2 := e0
 obtain ⟨x', v'⟩ := p
 obtain ⟨i, t, e2, e3⟩ := onInt_ok e1 none_ne
 obtain rfl : v' = .int i t := e2
 cases e3
 exact (h _ tk sz).s
noncomputable def ilOf (c : ZC) : Option (Addr × Int) := onSu c.md none fun _ s o i => onRef o none fun a => onInt i none fun i => cond (!isSlice s) (some (a, i)) none
theorem z_itemL (n : Nat) {a : Addr} {vs : List Value} {i : Int} {k : Nat} {v : Value} (hm : ZHas G (zgo N w.params n c) (a, PySem.W.listOf vs.toArray k)) (h0 : 0 ≤ i) (h1 : i < 10000) (hx : vs[i.toNat]? = some v) (hv : ilOf (zgo N w.params n c) = some (a, i)) (h : let c' := zput (zgo N w.params n c) v; ZT G c') : ZT G c := by
 refine ZT.go n ?_
 generalize zgo N w.params n c = c1 at *
 obtain ⟨σ, k, md⟩ := c1
 obtain ⟨v1, s, o, iv, rfl, e1⟩ := onSu_ok hv none_ne
 obtain ⟨a', rfl, e2⟩ := onRef_ok e1 none_ne
 obtain ⟨i', u, rfl, e3⟩ := onInt_ok e2 none_ne
 obtain ⟨hc, e4⟩ := cond_ok e3 none_ne
 cases e4
 intro st at'
 refine item_led at'.nw (hm.at at') h0 h1 (by simpa using hx) ⟨σ, at', h.s⟩ (slice_no ((Bool.not_eq_true' _).mp hc))
noncomputable def laOf (c : ZC) : Option (Addr × Addr) := onBo c.md none fun op a b => onRef a none fun a => onRef b none fun b => op.rec (some (a, b)) none none none none none none none none none none none none
noncomputable def laPut (l : List Value) (sz' : Nat) (c : ZC) : ZC := c.rec fun σ k _ => ⟨⟨σ.m, σ.own ++ [(σ.sz, PySem.W.listOf l.toArray 0)], σ.led, σ.tk, sz'⟩, k, .d (.v (.ref σ.sz))⟩
theorem ZAt.pushN {σ : ZS} {s : Shared} (a : ZAt G σ s) {o : Obj} {h' : Heap} (F' : Fr G.g G.L h' (mf G.mt σ.m)) (N' : News G.g G.L h' ((s.heap.objs.size, o) :: ((σ.own ++ σ.led) ++ G.H))) : ZAt G ⟨σ.m, σ.own ++ [(σ.sz, o)], σ.led, σ.tk, h'.objs.size⟩ { s with heap := h' } := by
 have lt : ∀ p ∈ σ.own ++ σ.led, p.1 < σ.sz := fun p hp => a.sz ▸ Heap.lt_size (a.nw p hp).1
 rw [a.sz] at N'
 refine a.heap rfl rfl F' (fun p hp => N' p ?_) (nodup_push a.nd fun p hp => lt p (List.mem_append_left _ hp)) ?_ a.sub (fun p hp => N' p (.tail _ (List.mem_append_right _ hp))) (hof_push a.hof fun q hq => Nat.ne_of_gt (a.sz ▸ Heap.lt_size (a.hid q hq).1))
 ·simp only [List.mem_append, List.mem_cons, List.not_mem_nil, or_false] at hp ⊢
  rcases hp with (h | h) | h
  ·exact .inr (.inl (.inl h))
  ·exact .inl h
  ·exact .inr (.inl (.inr h))
 ·intro p hp q hq
  rcases List.mem_append.mp hp with h | h
  ·exact a.off p h q hq
  ·rw [List.mem_singleton.mp h]
   exact Nat.ne_of_gt (lt q (List.mem_append_right _ hq))
theorem ZAt.nwH {σ : ZS} {s : Shared} (a : ZAt G σ s) : News G.g G.L s.heap ((σ.own ++ σ.led) ++ G.H) := fun p hp => (List.mem_append.mp hp).elim (a.nw p) (a.hid p)
theorem z_ladd (n : Nat) {l1 l2 : Addr} {vs ws : List Value} {k1 k2 : Nat} (h1 : ZHas G (zgo N w.params n c) (l1, PySem.W.listOf vs.toArray k1)) (h2 : ZHas G (zgo N w.params n c) (l2, PySem.W.listOf ws.toArray k2)) (hz : vs.length + ws.length ≤ 1000) (hv : laOf (zgo N w.params n c) = some (l1, l2))
  (h : ∀ sz, let c' := laPut (vs ++ ws) sz (zgo N w.params n c); ZT G c') : ZT G c := by
 refine ZT.go n ?_
 generalize zgo N w.params n c = c1 at *
 obtain ⟨σ, k, md⟩ := c1
 obtain ⟨op, a, b, rfl, e1⟩ := onBo_ok hv none_ne
 obtain ⟨a', rfl, e2⟩ := onRef_ok e1 none_ne
 obtain ⟨b', rfl, e3⟩ := onRef_ok e2 none_ne
 cases op <;> first | (cases e3; done) | skip
 cases e3
 intro st a
 refine add_lists (hsz := Nat.le_trans hz (by decide)) a.fr a.nwH (News.isList a.nw (h1.at a)) (News.isList a.nw (h2.at a)) fun h' F' N' => ?_
 refine ⟨_, a.pushN F' N', ?_⟩
 rw [a.sz]
 exact (h h'.objs.size).s
noncomputable def ntOf (c : ZC) : Bool := onNt c.md false fun vs => Nat.ble vs.length sizeLine
noncomputable def ntOwn (c : ZC) : List (Addr × Obj) := onNt c.md [] fun vs => c.σ.own ++ [(c.σ.sz, tupO vs)]
noncomputable def ntPut (own : List (Addr × Obj)) (c : ZC) : ZC := c.rec fun σ k _ => ⟨⟨σ.m, own, σ.led, σ.tk, σ.sz + 1⟩, k, .d (.v (.ref σ.sz))⟩
theorem z_nt (n : Nat) {l : List (Addr × Obj)} (hl : (zgo N w.params n c).σ.led = l) (hv : ntOf (zgo N w.params n c) = true) (h : let own := ntOwn (zgo N w.params n c); (own.map (·.1)).Nodup → (∀ p ∈ own, ∀ q ∈ l, p.1 ≠ q.1) → let c' := ntPut own (zgo N w.params n c); ZT G c') : ZT G c := by
 refine ZT.go n ?_
 generalize zgo N w.params n c = c1 at *
 obtain ⟨σ, k, md⟩ := c1
 subst hl
 obtain ⟨vs, rfl, hb⟩ := onNt_ok hv Bool.false_ne_true
 intro s a
 refine wpAny_newObj_type (T := "tuple") ⟨_, a.push rfl, ?_⟩ (by show vs.toArray.size ≤ sizeLine; rw [List.size_toArray]; exact Nat.le_of_ble_eq_true hb)
 have a2 := a.push (o := tupO vs) rfl
 rw [a.sz]
 exact (h a2.nd a2.off).s
end
end
section
set_option tactic.hygienic false
section
variable {w : World} {A : Around} {E : Value → Shared → Prop} {s : Shared} {h₀ : Heap} {env : Env} {m : Str → Option Value} {led : List (Addr × Obj)} {Q : Flow → Shared → Prop} {x : Str} {body : List Stmt}
theorem for_walk3 {I : Addr} {fp : List Addr} {n : Nat} {P : Nat → Value → Prop} {St : Nat → Heap → Prop} (W : Walks pw w A I fp [I] n P St) (hIf : I ∈ fp) (hfp : env.locals ∉ fp) (hI0 : h₀.get? I = none) (hSt : ∀ i h, St i h → ∃ o, h.get? I = some o)
  (hst : St 0 s.heap) (F : Fr h₀ env.locals s.heap m) (N : News h₀ env.locals s.heap led) (hI : ∀ p ∈ led, p.1 ≠ I) (J : Nat → (Str → Option Value) → List (Addr × Obj) → Prop) (j0 : J 0 m led)
  (turn : ∀ i v m₁ led₁ h tk own oI, i < n → P i v → J i m₁ led₁ → (∀ p ∈ led₁, p.1 ≠ I) → (∀ p ∈ own, p.1 ∈ fp) → (I, oI) ∈ own → Fr h₀ env.locals h (fun y => if y = x then some v else m₁ y) → News h₀ env.locals h (led₁ ++ own) →
   wpAny (model pw w) A (execs body env) (TurnPost h₀ env.locals own I (J (i + 1)) { s with heap := h, toks := tk } Q) E { s with heap := h, toks := tk })
  (done : ∀ m₁ led₁ h tk, J n m₁ led₁ → Fr h₀ env.locals h m₁ → News h₀ env.locals h led₁ → Q .next { s with heap := h, toks := tk }) :
  LoopAtV pw w A h₀ env x body Q E (.ref I) s := by
 refine ⟨I, fp, [I], n, P, St, m, led, J, rfl, W, hfp, fun b hb => by rw [List.mem_singleton.mp hb]; exact hI0, fun p hp hq => hI p hp (List.mem_singleton.mp hq), hst, F, N, j0, ?_, ?_⟩
 ·rintro i v m₁ led₁ s₁ own ⟨hh', tk', rfl⟩ hin hP hJ hoff hown _ hall hS F₁ N₁
  have N₂ : News h₀ env.locals hh' (led₁ ++ own) := fun p hp => N₁ p ((List.mem_append.mp hp).elim (fun h => List.mem_append.mpr (.inr h)) fun h => List.mem_append.mpr (.inl h))
  obtain ⟨oI, hoI⟩ := hSt _ _ hS
  refine wpAny_mono (turn i v m₁ led₁ hh' tk' own oI hin hP hJ (fun p hp q => hoff p hp (List.mem_singleton.mpr q)) hown (hall _ hIf hI0 _ hoI) F₁ N₂) (fun f s₂ p => ?_) fun _ _ e => e
  have fin : TurnEnd h₀ env.locals own I (J (i + 1)) { s with heap := hh', toks := tk' } s₂ → LoopStepU h₀ env.locals [I] own (J (i + 1)) { s with heap := hh', toks := tk' } .next s₂ := by
   rintro ⟨h', tk, m₂, led₂, e, F', N', hi, hj⟩
   exact ⟨rfl, h', tk, m₂, led₂, e, F', fun p hp => N' p ((List.mem_append.mp hp).elim (fun h => List.mem_append.mpr (.inr h)) fun h => List.mem_append.mpr (.inl h)), fun p hp hq => hi p hp (List.mem_singleton.mp hq), hj⟩
  cases f with
  | ret v => exact .ret p
  | brk => exact .brk p
  | next => exact .next (fin p)
  | cont => exact .cont (fin p)
 ·rintro h' tk m' news' F' N' _ hJ
  exact done m' news' h' tk hJ F' N'
theorem iter_tupM {vs : List Value} {tp : Addr} (hh : A.handled = none) (F : Fr h₀ env.locals s.heap m) (N : News h₀ env.locals s.heap led) (hm : (tp, tupO vs) ∈ led) (J : Nat → (Str → Option Value) → List (Addr × Obj) → Prop) (j0 : J 0 m led)
  (turn : ∀ I oI i v m₁ led₁ h tk own, vs[i]? = some v → J i m₁ led₁ → (∀ p ∈ led₁, p.1 ≠ I) → (∀ p ∈ own, p.1 = I ∨ p.1 = tp) → (I, oI) ∈ own → Fr h₀ env.locals h (fun z => if z = x then some v else m₁ z) → News h₀ env.locals h (led₁ ++ own) →
   wpAny (model pw w) A (execs body env) (TurnPost h₀ env.locals own I (J (i + 1)) { s with heap := h, toks := tk } Q) E { s with heap := h, toks := tk })
  (done : ∀ m₁ led₁ h tk, J vs.length m₁ led₁ → Fr h₀ env.locals h m₁ → News h₀ env.locals h led₁ → Q .next { s with heap := h, toks := tk }) :
  IterDo w A h₀ env x body Q E (.ref tp) s := by
 unfold IterDo
 have ht : s.heap.IsTuple tp vs.toArray := ⟨_, (N _ hm).1, rfl, _, rfl⟩
 have hI0 : h₀.get? s.heap.objs.size = none := by
  cases q : h₀.get? s.heap.objs.size with
  | none => rfl
  | some o => exact absurd (Heap.lt_size (F.keep _ _ q)) (Nat.lt_irrefl _)
 have hne : tp ≠ s.heap.objs.size := Nat.ne_of_lt (Heap.lt_size (N _ hm).1)
 have hLI : env.locals ∉ [s.heap.objs.size, tp] := fun h => by
  rcases List.mem_cons.mp h with e | h
  ·exact absurd F.ns.lt (by rw [e]; exact Nat.lt_irrefl _)
  ·exact (N _ hm).2.1 (List.mem_singleton.mp h).symm
 refine wpAny_pyIter_tuple ht ?_
 refine for_walk3 (s := { s with heap := s.heap.push _ }) (Walks.tuple hh s.heap.objs.size tp hne vs.toArray) (.head _) hLI hI0 (fun i h hs => let ⟨o, e, _⟩ := hs.1; ⟨o, e⟩) ⟨⟨_, Heap.get?_push_size _ rfl, rfl, rfl⟩, ht.push _⟩ (F.push _) (fun p hp => ⟨Heap.get?_push_of_some _ (N p hp).1, (N p hp).2⟩) (fun p hp => Nat.ne_of_lt (Heap.lt_size (N p hp).1)) J j0 ?_ (by simpa using done)
 intro i v m₁ led₁ h tk own oI hi hv hJ h1 h2 h3 F₁ N₁
 exact turn _ oI i v m₁ led₁ h tk own (by simpa using hv) hJ h1 (fun p hp => by
  rcases List.mem_cons.mp (h2 p hp) with e | e
  ·exact .inl e
  ·exact .inr (List.mem_singleton.mp e)) h3 F₁ N₁
theorem iter_listM {vs : List Value} {n : Nat} {tp : Addr} (hh : A.handled = none) (F : Fr h₀ env.locals s.heap m) (N : News h₀ env.locals s.heap led) (hm : (tp, PySem.W.listOf vs.toArray n) ∈ led) (J : Nat → (Str → Option Value) → List (Addr × Obj) → Prop) (j0 : J 0 m led)
  (turn : ∀ I oI i v m₁ led₁ h tk own, vs[i]? = some v → J i m₁ led₁ → (∀ p ∈ led₁, p.1 ≠ I) → (∀ p ∈ own, p.1 = I ∨ p.1 = tp) → (I, oI) ∈ own → Fr h₀ env.locals h (fun z => if z = x then some v else m₁ z) → News h₀ env.locals h (led₁ ++ own) →
   wpAny (model pw w) A (execs body env) (TurnPost h₀ env.locals own I (J (i + 1)) { s with heap := h, toks := tk } Q) E { s with heap := h, toks := tk })
  (done : ∀ m₁ led₁ h tk, J vs.length m₁ led₁ → Fr h₀ env.locals h m₁ → News h₀ env.locals h led₁ → Q .next { s with heap := h, toks := tk }) :
  IterDo w A h₀ env x body Q E (.ref tp) s := by
 unfold IterDo
 have ht : s.heap.IsList tp vs.toArray := ⟨_, (N _ hm).1, rfl, _, rfl⟩
 have hI0 : h₀.get? s.heap.objs.size = none := by
  cases q : h₀.get? s.heap.objs.size with
  | none => rfl
  | some o => exact absurd (Heap.lt_size (F.keep _ _ q)) (Nat.lt_irrefl _)
 have hne : tp ≠ s.heap.objs.size := Nat.ne_of_lt (Heap.lt_size (N _ hm).1)
 have hLI : env.locals ∉ [s.heap.objs.size, tp] := fun h => by
  rcases List.mem_cons.mp h with e | h
  ·exact absurd F.ns.lt (by rw [e]; exact Nat.lt_irrefl _)
  ·exact (N _ hm).2.1 (List.mem_singleton.mp h).symm
 refine wpAny_pyIter_list ht ?_
 refine for_walk3 (s := { s with heap := s.heap.push _ }) (Walks.list hh s.heap.objs.size tp hne vs.toArray) (.head _) hLI hI0 (fun i h hs => let ⟨o, e, _⟩ := hs.1; ⟨o, e⟩) ⟨⟨_, Heap.get?_push_size _ rfl, rfl, rfl⟩, ht.push _⟩ (F.push _) (fun p hp => ⟨Heap.get?_push_of_some _ (N p hp).1, (N p hp).2⟩) (fun p hp => Nat.ne_of_lt (Heap.lt_size (N p hp).1)) J j0 ?_ (by simpa using done)
 intro i v m₁ led₁ h tk own oI hi hv hJ h1 h2 h3 F₁ N₁
 exact turn _ oI i v m₁ led₁ h tk own (by simpa using hv) hJ h1 (fun p hp => by
  rcases List.mem_cons.mp (h2 p hp) with e | e
  ·exact .inl e
  ·exact .inr (List.mem_singleton.mp e)) h3 F₁ N₁
end
end
section
set_option tactic.hygienic false
section
variable {w : World} {N : List (Str × NameKind)} {d : Nat} {G : ZG w N d} {c : ZC}
noncomputable def zside (own led : List (Addr × Obj)) (c : ZC) : ZC := c.rec fun σ k md => ⟨⟨σ.m, own, led, σ.tk, σ.sz⟩, k, md⟩
noncomputable def zall (c : ZC) : Bool := match c.md with
 | .d _ => false
 | .gm .. => false
 | _ => true
theorem z_all {md : ZM} {σ : ZS} {k : List ZF} (hv : zall ⟨σ, k, md⟩ = true) (h : ∀ s, ZAt G σ s → ∃ σ', ZAt G σ' s ∧ ZSat G ⟨σ', k, md⟩) : ZSat G ⟨σ, k, md⟩ := by
 cases md <;> first
  | (cases hv; done)
  | exact fun s a => let ⟨_, a', h'⟩ := h s a; h' s a'
theorem z_side (n : Nat) {own led own' led' : List (Addr × Obj)} (hv : zall (zgo N w.params n c) = true) (ho : (zgo N w.params n c).σ.own = own) (hl : (zgo N w.params n c).σ.led = led) (hs : ∀ p ∈ own' ++ led', p ∈ own ++ led) (hnd : (own.map (·.1)).Nodup → (∀ p ∈ own, ∀ q ∈ led, p.1 ≠ q.1) → (own'.map (·.1)).Nodup ∧ ∀ p ∈ own', ∀ q ∈ led', p.1 ≠ q.1) (hR : ∀ p ∈ G.R, p ∈ led')
  (h : let c' := zside own' led' (zgo N w.params n c); ZT G c') : ZT G c := by
 refine ZT.go n ?_
 generalize zgo N w.params n c = c1 at *
 obtain ⟨σ, k, md⟩ := c1
 subst ho
 subst hl
 refine z_all hv fun s a => ⟨_, ?_, h.s⟩
 obtain ⟨q1, q2⟩ := hnd a.nd a.off
 exact ⟨a.st, a.sz, a.fr, fun p hp => a.nw p (hs p hp), q1, q2, hR, a.hid, fun p hp => a.hof p (hs p hp)⟩
noncomputable def onSa {α : Type} (md : ZM) (z : α) (f : Value → Str → Value → α) : α := match md with | .sa o n v => f o n v | _ => z
theorem onSa_ok {α : Type} {z y : α} {md : ZM} {f : Value → Str → Value → α} (h : onSa md z f = y) (n : z ≠ y) : ∃ v s i, md = .sa v s i ∧ f v s i = y := by cases md <;> first | exact ⟨_, _, _, rfl, h⟩ | exact absurd h n
noncomputable def saOf (P : Params) (C : Addr) (es : List DictEntry) (c : ZC) : Option Addr := onSa c.md none fun o name _ => onRef o none fun x =>
 cond ((findIn (K P) (.ref C) "__setattr__" == some (some (.builtin "object.__setattr__"))) && (plainOver (K P) C && (takerIn (K P) C name == some none && (hasDictIn (K P) C && (getL name es).isSome)))) (some x) none
noncomputable def saPut (P : Params) (j : Nat) (dx : Addr) (es : List DictEntry) (k : Nat) (sz : Nat) (c : ZC) : ZC := onSa c.md c fun _ name v => ⟨⟨c.σ.m, c.σ.own.set j (dx, dictOf (putL name (PyData.keyHash P name) (.str name (c.σ.tk + 1)) v es) (putN name es k)), c.σ.led, c.σ.tk + 2, sz⟩, c.k, .d (.f .next)⟩
theorem upd_own {dx : Addr} {o o' : Obj} : ∀ {own r : List (Addr × Obj)} {j : Nat}, (own.map (·.1)).Nodup → own[j]? = some (dx, o) → (∀ q ∈ r, q.1 ≠ dx) → Upd dx o o' (own ++ r) (own.set j (dx, o') ++ r)
 | [], r, j, _, h, _ => by cases h
 | p :: own, r, 0, hn, h, hr => by
  obtain rfl : p = (dx, o) := Option.some.inj h
  rw [List.map_cons, List.nodup_cons] at hn
  refine .head fun q hq => ?_
  rcases List.mem_append.mp hq with hq | hq
  ·exact fun e => hn.1 (List.mem_map.mpr ⟨q, hq, e⟩)
  ·exact hr q hq
 | p :: own, r, j + 1, hn, h, hr => by
  have h' : own[j]? = some (dx, o) := h
  rw [List.map_cons, List.nodup_cons] at hn
  exact .tail (fun e => hn.1 (List.mem_map.mpr ⟨_, List.mem_of_getElem? h', e.symm⟩)) (upd_own hn.2 h' hr)
theorem putL_len {name : Str} {hsh : Int} {key v : Value} : ∀ {es : List DictEntry}, (putL name hsh key v es).length ≤ es.length + 1
 | [] => by simp [putL]
 | e :: r => by
  have := putL_len (name := name) (hsh := hsh) (key := key) (v := v) (es := r)
  rw [putL]; split
  ·simp
  ·simp only [List.length_cons]; lia
theorem set_addr {own : List (Addr × Obj)} {j : Nat} {D : Addr} {o o' : Obj} (hj : own[j]? = some (D, o)) : (own.set j (D, o')).map (·.1) = own.map (·.1) := by
 apply List.ext_getElem?
 intro i
 rw [List.map_set, List.getElem?_set]
 by_cases e : j = i
 ·subst e
  have hjl : j < own.length := by
   by_cases q : j < own.length
   ·exact q
   ·rw [List.getElem?_eq_none (by lia)] at hj; cases hj
  rw [if_pos rfl, if_pos (by simpa using hjl), List.getElem?_map, hj]; rfl
 ·rw [if_neg e]
theorem z_set (n j : Nat) {x C dx : Addr} {es : List DictEntry} {k : Nat} (h1 : ZHas G (zgo N w.params n c) (x, instObj C dx)) (ho : (zgo N w.params n c).σ.own[j]? = some (dx, dictOf es k)) (hz : es.length ≤ 900) (hv : saOf w.params C es (zgo N w.params n c) = some x)
  (h : ∀ sz, let c' := saPut w.params j dx es k sz (zgo N w.params n c); ZT G c') : ZT G c := by
 refine ZT.go n ?_
 generalize zgo N w.params n c = c1 at *
 obtain ⟨σ, kk, md⟩ := c1
 obtain ⟨o, name, v, rfl, e1⟩ := onSa_ok hv none_ne
 obtain ⟨x', rfl, e2⟩ := onRef_ok e1 none_ne
 obtain ⟨hc, e3⟩ := cond_ok e2 none_ne
 cases e3
 simp only [Bool.and_eq_true, beq_iff_eq] at hc
 obtain ⟨q1, q2, q3, q4, q5⟩ := hc
 intro s a
 have hmem : (dx, dictOf es k) ∈ σ.own ++ σ.led := List.mem_append_left _ (List.mem_of_getElem? ho)
 have hofs : ∀ q ∈ σ.led ++ G.H, q.1 ≠ dx := fun q hq => (List.mem_append.mp hq).elim (fun h => (a.off _ (List.mem_of_getElem? ho) q h).symm) fun h => (a.hof _ hmem q h).symm
 refine set_dict a.fr G.X (List.append_assoc .. ▸ a.nwH) (W.InstAt.of_news a.nw (h1.at a) hmem) rfl q1 q2 q3 q4 q5 rfl (upd_own a.nd ho hofs) (Nat.le_trans putL_len (by lia)) fun h' F' N' => ?_
 have hmap := set_addr (o' := dictOf (putL name (PyData.keyHash w.params name) (.str name (s.toks + 1)) v es) (putN name es k)) ho
 have hadr : ∀ p ∈ σ.own.set j (dx, dictOf (putL name (PyData.keyHash w.params name) (.str name (s.toks + 1)) v es) (putN name es k)), ∃ q ∈ σ.own, q.1 = p.1 := fun p hp => List.mem_map.mp (hmap ▸ List.mem_map_of_mem hp)
 refine ⟨⟨σ.m, _, σ.led, s.toks + 2, h'.objs.size⟩, a.heapT rfl rfl F' (fun p hp => N' p ((List.mem_append.mp hp).elim (fun h => List.mem_append_left _ h) fun h => List.mem_append_right _ (List.mem_append_left _ h))) (hmap ▸ a.nd) (fun p hp q hq e => ?_) a.sub (fun p hp => N' p (List.mem_append_right _ (List.mem_append_right _ hp))) (fun p hp q hq e => ?_), ?_⟩
 ·obtain ⟨q', hq', e'⟩ := hadr p hp
  exact a.off q' hq' q hq (e'.trans e)
 ·rcases List.mem_append.mp hp with hp | hp
  ·obtain ⟨q', hq', e'⟩ := hadr p hp
   exact a.hof q' (List.mem_append_left _ hq') q hq (e'.trans e)
  ·exact a.hof p (List.mem_append_right _ hp) q hq e
 ·have := (h h'.objs.size).s
  rw [a.toks]
  exact this
noncomputable def onDc {α : Type} (v : Data) (z : α) (f : Array DictEntry → Nat → α) : α := match v with | .dict a n => f a n | _ => z
theorem onDc_ok {α : Type} {z y : α} {v : Data} {f : Array DictEntry → Nat → α} (h : onDc v z f = y) (n : z ≠ y) : ∃ a k, v = .dict a k ∧ f a k = y := by cases v <;> first | exact ⟨_, _, rfl, h⟩ | exact absurd h n
noncomputable def asDict (o : Obj) : Option (List DictEntry × Nat) := o.rec fun c d x s => onTy c none fun t' => onDc x none fun a n => cond (t' == "dict" && (d.isNone && onNil s.toList false true)) (some (a.toList, n)) none
theorem asDict_ok {o : Obj} {es : List DictEntry} {n : Nat} (h : asDict o = some (es, n)) : o = dictOf es n := by
 obtain ⟨c, d, x, s⟩ := o
 obtain ⟨t', rfl, h1⟩ := onTy_ok h none_ne
 obtain ⟨⟨a⟩, k, rfl, h2⟩ := onDc_ok h1 none_ne
 obtain ⟨hb, h3⟩ := cond_ok h2 none_ne
 cases h3
 rw [Bool.and_eq_true, Bool.and_eq_true] at hb
 obtain ⟨e1, e2, e3⟩ := hb
 obtain rfl := eq_of_beq e1
 obtain rfl := Option.isNone_iff_eq_none.mp e2
 obtain ⟨l⟩ := s
 obtain ⟨rfl, _⟩ := onNil_ok e3 Bool.false_ne_true
 rfl
noncomputable def odc (c : ZC) (j : Nat) : Option (List DictEntry × Nat) := (c.σ.own[j]?).rec none fun p => asDict p.2
noncomputable def odA (c : ZC) (j : Nat) : Addr := (c.σ.own[j]?).rec 0 fun p => p.1
noncomputable def odE (c : ZC) (j : Nat) : List DictEntry := (odc c j).rec [] fun p => p.1
noncomputable def odN (c : ZC) (j : Nat) : Nat := (odc c j).rec 0 fun p => p.2
theorem odc_ok {c : ZC} {j : Nat} (h : (odc c j).isSome = true) : c.σ.own[j]? = some (odA c j, dictOf (odE c j) (odN c j)) := by
 unfold odA odE odN
 unfold odc at h ⊢
 cases e : c.σ.own[j]? with
 | none => rw [e] at h; cases h
 | some p =>
  rw [e] at h
  simp only at h ⊢
  cases e2 : asDict p.2 with
  | none => rw [e2] at h; cases h
  | some q => rw [← asDict_ok (n := q.2) (es := q.1) e2]
noncomputable def atOok (P : Params) (C : Addr) (j : Nat) (c : ZC) : Option (Addr × Addr) := cond (odc c j).isSome ((atOf P C (odE c j) c).map fun p => (p.1, odA c j)) none
noncomputable def atOput (P : Params) (C : Addr) (j : Nat) (c : ZC) : ZC := atPut P C (odE c j) c
theorem z_attrO (n j : Nat) {x C dx : Addr} (h1 : ZHas G (zgo N w.params n c) (x, instObj C dx)) (hv : atOok w.params C j (zgo N w.params n c) = some (x, dx)) (h : let c' := atOput w.params C j (zgo N w.params n c); ZT G c') : ZT G c := by
 obtain ⟨hb, e⟩ := cond_ok hv none_ne
 obtain ⟨p, e1, e2⟩ := Option.map_eq_some_iff.mp e
 obtain ⟨e3, e4⟩ := Prod.mk.inj e2
 have := odc_ok hb
 rw [e4] at this
 exact z_attr n h1 (zO j this) (by rw [e1]; exact congrArg some e3) h
noncomputable def saOok (P : Params) (C : Addr) (j : Nat) (c : ZC) : Option (Addr × Addr) := cond ((odc c j).isSome && Nat.ble (odE c j).length 900) ((saOf P C (odE c j) c).map fun p => (p, odA c j)) none
noncomputable def saOput (P : Params) (j : Nat) (sz : Nat) (c : ZC) : ZC := saPut P j (odA c j) (odE c j) (odN c j) sz c
theorem z_setO (n j : Nat) {x C dx : Addr} (h1 : ZHas G (zgo N w.params n c) (x, instObj C dx)) (hv : saOok w.params C j (zgo N w.params n c) = some (x, dx)) (h : ∀ sz, let c' := saOput w.params j sz (zgo N w.params n c); ZT G c') : ZT G c := by
 obtain ⟨hb, e⟩ := cond_ok hv none_ne
 rw [Bool.and_eq_true] at hb
 obtain ⟨p, e1, e2⟩ := Option.map_eq_some_iff.mp e
 obtain ⟨e3, e4⟩ := Prod.mk.inj e2
 have := odc_ok hb.1
 rw [← e3, ← e4] at h1
 exact z_set n j h1 this (Nat.le_of_ble_eq_true hb.2) e1 h
theorem look_agree {mt : Str → Option Value} {m : List (Str × Value)} : ∀ {ns : List (Str × Value)}, (∀ p ∈ ns, m.lookup p.1 = some p.2) → mf mt (ns ++ m) = mf mt m
 | [], _ => rfl
 | p :: ns, h => by
  funext y
  show (if y = p.1 then some p.2 else mf mt (ns ++ m) y) = _
  rw [look_agree (fun q hq => h q (.tail _ hq))]
  by_cases e : y = p.1
  ·rw [if_pos e, e]; exact (mf_some (h p (.head _))).symm
  ·rw [if_neg e]
noncomputable def Agree (m ns : List (Str × Value)) : Prop := ns.map (fun p => m.lookup p.1) = ns.map (fun p => some p.2)
theorem Agree.at {m ns : List (Str × Value)} (h : Agree m ns) : ∀ p ∈ ns, m.lookup p.1 = some p.2 := List.map_inj_left.mp h
noncomputable def ZTurn (G : ZG w N d) (k : List ZF) (J : List (Str × Value) → List (Addr × Obj) → List (Addr × Obj) → Prop) (fl : Flow) (σ : ZS) : Prop := match fl with
 | .ret v => ZT G ⟨σ, k, .d (.f (.ret v))⟩
 | .brk => ZT G ⟨σ, k, .d (.f .next)⟩
 | _ => ∃ ns, Agree σ.m ns ∧ J ns σ.own σ.led
structure LoopJ (G : ZG w N d) (R' : List (Addr × Obj)) (J : List (Str × Value) → List (Addr × Obj) → List (Addr × Obj) → Prop) (mv : Str → Option Value) (l : List (Addr × Obj)) (m : List (Str × Value)) (own led : List (Addr × Obj)) : Prop where
 em : mv = mf G.mt m
 el : l = (own ++ led) ++ G.H
 j : ∃ ns, Agree m ns ∧ J ns own led
 nd : (own.map (·.1)).Nodup
 off : ∀ p ∈ own, ∀ q ∈ led, p.1 ≠ q.1
 sub : ∀ p ∈ R', p ∈ led
 hof : ∀ p ∈ own ++ led, ∀ q ∈ G.H, p.1 ≠ q.1
theorem ZG.eL (G : ZG w N d) : G.env.locals = G.L := by
 obtain ⟨_, _, _, _, _, _, e⟩ := G.he
 rw [e]
noncomputable def Iters (w : World) (v : Value) (R' X : List (Addr × Obj)) (cnt : Nat) (Pv : Nat → Value → Prop) : Prop := ∀ {A : Around} {E : Value → Shared → Prop} {s : Shared} {h₀ : Heap} {L : Addr} {env : Env} {m : Str → Option Value} {led : List (Addr × Obj)} {Q : Flow → Shared → Prop} {x : Str} {body : List Stmt},
 env.locals = L → A.handled = none → Fr h₀ L s.heap m → News h₀ L s.heap led → News h₀ L s.heap X → (∀ p ∈ led, ∀ q ∈ X, p.1 ≠ q.1) → (∀ p ∈ R', p ∈ led) → ∀ (J : Nat → (Str → Option Value) → List (Addr × Obj) → Prop), J 0 m led →
 (∀ I oI i v m₁ led₁ h tk own, i < cnt → Pv i v → J i m₁ led₁ → (∀ p ∈ led₁, p.1 ≠ I) → (∀ p ∈ own, p.1 = I ∨ ∃ q ∈ R', q.1 = p.1) → (I, oI) ∈ own → Fr h₀ L h (fun z => if z = x then some v else m₁ z) → News h₀ L h (led₁ ++ own) →
   wpAny (model pw w) A (execs body env) (TurnPost h₀ L own I (J (i + 1)) { s with heap := h, toks := tk } Q) E { s with heap := h, toks := tk }) →
 (∀ m₁ led₁ h tk, J cnt m₁ led₁ → Fr h₀ L h m₁ → News h₀ L h led₁ → Q .next { s with heap := h, toks := tk }) → IterDo w A h₀ env x body Q E v s
noncomputable def onLp {α : Type} (md : ZM) (z : α) (f : Str → List Stmt → Value → α) : α := match md with | .lp o n v => f o n v | _ => z
theorem onLp_ok {α : Type} {z y : α} {md : ZM} {f : Str → List Stmt → Value → α} (h : onLp md z f = y) (n : z ≠ y) : ∃ v s i, md = .lp v s i ∧ f v s i = y := by cases md <;> first | exact ⟨_, _, _, rfl, h⟩ | exact absurd h n
noncomputable def lpV (c : ZC) : Option Value := onLp c.md none fun _ _ v => some v
noncomputable def lpT (c : ZC) (v : Value) (ns m : List (Str × Value)) (own led : List (Addr × Obj)) (tk sz : Nat) : ZC := onLp c.md c fun x b _ => ⟨⟨(x, v) :: (ns ++ m), own, led, tk, sz⟩, [], .ss b⟩
noncomputable def lpD (c : ZC) (ns m : List (Str × Value)) (own led : List (Addr × Obj)) (tk sz : Nat) : ZC := ⟨⟨ns ++ m, own, led, tk, sz⟩, c.k, .d (.f .next)⟩
noncomputable def ZG.loop (G : ZG w N d) (R' H' : List (Addr × Obj)) (P : Flow → ZS → Prop) : ZG w N d := { G with R := R', H := H', P := P }
theorem z_for (n : Nat) {v : Value} {cnt : Nat} {Pv : Nat → Value → Prop} {R' X : List (Addr × Obj)} (It : Iters w v R' X cnt Pv) (J : Nat → List (Str × Value) → List (Addr × Obj) → List (Addr × Obj) → Prop) {ns : List (Str × Value)} {own led : List (Addr × Obj)}
  (hv : lpV (zgo N w.params n c) = some v) (hn : ns.map (fun p => (zgo N w.params n c).σ.m.lookup p.1) = ns.map (fun p => some p.2)) (ho : (zgo N w.params n c).σ.own = own ++ X) (hl : (zgo N w.params n c).σ.led = led) (hR : ∀ p ∈ G.R, p ∈ R') (hR' : ∀ p ∈ R', p ∈ led) (j0 : J 0 ns own led)
  (turn : ∀ i v ns m own led tk sz, i < cnt → Pv i v → J i ns own led → ∀ G' : ZG w N d, G'.R = R' → G'.P = ZTurn G (zgo N w.params n c).k (J (i + 1)) → let c' := lpT (zgo N w.params n c) v ns m own led tk sz; ZT G' c')
  (done : ∀ ns m own led tk sz, J cnt ns own led → let c' := lpD (zgo N w.params n c) ns m own led tk sz; ZT G c') : ZT G c := by
 refine ZT.go n ?_
 generalize zgo N w.params n c = c1 at *
 obtain ⟨σ, k, md⟩ := c1
 subst hl
 obtain ⟨x, body, v', rfl, e⟩ := onLp_ok hv none_ne
 cases e
 intro s a
 have hmem : ∀ p ∈ own ++ X, p ∈ σ.own := fun p hp => ho ▸ hp
 have hsubs : ∀ p ∈ own ++ σ.led, p ∈ σ.own ++ σ.led := fun p hp => (List.mem_append.mp hp).elim (fun h => List.mem_append_left _ (hmem p (List.mem_append_left _ h))) fun h => List.mem_append_right _ h
 have hnd := a.nd
 rw [ho, List.map_append, List.nodup_append] at hnd
 have hno : ∀ p ∈ (own ++ σ.led) ++ G.H, ∀ q ∈ X, p.1 ≠ q.1 := fun p hp q hq => by
  have hqo : q ∈ σ.own := hmem q (List.mem_append_right _ hq)
  rcases List.mem_append.mp hp with hp | hp
  ·rcases List.mem_append.mp hp with hp | hp
   ·exact hnd.2.2 _ (List.mem_map_of_mem hp) _ (List.mem_map_of_mem hq)
   ·exact (a.off q hqo p hp).symm
  ·exact (a.hof q (List.mem_append_left _ hqo) p hp).symm
 refine It G.eL G.hr.hd a.fr (fun p hp => (List.mem_append.mp hp).elim (fun h => a.nw p (hsubs p h)) (a.hid p)) (fun p hp => a.nw p (List.mem_append_left _ (hmem p (List.mem_append_right _ hp)))) hno (fun p hp => List.mem_append_left _ (List.mem_append_right _ (hR' p hp))) (fun i mf l => ∃ m own led, LoopJ G R' (J i) mf l m own led) ⟨σ.m, own, σ.led, rfl, rfl, ⟨ns, hn, j0⟩, hnd.1, fun p hp => a.off p (hmem p (List.mem_append_left _ hp)), hR', fun p hp => a.hof p (hsubs p hp)⟩ ?_ ?_
 ·rintro I oI i v m₁ led₁ h tk own hi hPv ⟨m, own₁, led, em, el, ⟨ns, hag, hj⟩, hnd, hof, hsub, hhof⟩ hI hown hoI F₁ N₁
  subst em
  subst el
  have hIo : ∀ p ∈ own₁ ++ led, ∀ q ∈ (I, oI) :: G.H, p.1 ≠ q.1 := fun p hp q hq => by
   rcases List.mem_cons.mp hq with rfl | hq
   ·exact hI p (List.mem_append_left _ hp)
   ·exact hhof p hp q hq
  have at' : ZAt (G.loop R' ((I, oI) :: G.H) (ZTurn G k (J (i + 1)))) ⟨(x, v) :: (ns ++ m), own₁, led, tk, h.objs.size⟩ { s with heap := h, toks := tk } := by
   refine ⟨?_, rfl, ?_, fun p hp => N₁ p (List.mem_append_left _ (List.mem_append_left _ hp)), hnd, hof, hsub, fun p hp => ?_, hIo⟩
   ·exact congrArg (fun x : Shared => { x with heap := h, toks := tk }) a.st
   ·show Fr G.g G.L h (fun y => if y = x then some v else mf G.mt (ns ++ m) y)
    rw [look_agree hag.at]; exact F₁
   ·rcases List.mem_cons.mp hp with rfl | hp
    ·exact N₁ _ (List.mem_append_right _ hoI)
    ·exact N₁ p (List.mem_append_left _ (List.mem_append_right _ hp))
  refine wpAny_mono ((turn i v ns m own₁ led tk h.objs.size hi hPv hj (G.loop R' ((I, oI) :: G.H) (ZTurn G k (J (i + 1)))) rfl rfl).s _ at') (fun f s₂ hf => ?_) fun _ _ e => e
  obtain ⟨σ', a', hP⟩ := hf
  have back : ZAt G σ' s₂ := ⟨a'.st, a'.sz, a'.fr, a'.nw, a'.nd, a'.off, fun p hp => a'.sub p (hR p hp), fun p hp => a'.hid p (.tail _ hp), fun p hp q hq => a'.hof p hp q (.tail _ hq)⟩
  have fin : (∃ ns, Agree σ'.m ns ∧ J (i + 1) ns σ'.own σ'.led) → TurnEnd G.g G.L own I (fun mf l => ∃ m own led, LoopJ G R' (J (i + 1)) mf l m own led) { s with heap := h, toks := tk } s₂ := by
   intro hj'
   refine ⟨s₂.heap, σ'.tk, _, (σ'.own ++ σ'.led) ++ G.H, ?_, a'.fr, fun p hp => ?_, fun p hp => ?_, σ'.m, σ'.own, σ'.led, rfl, rfl, hj', a'.nd, a'.off, a'.sub, back.hof⟩
   ·have e1 := a'.st
    have e2 : { G.s₀ with heap := s₂.heap, toks := σ'.tk } = { s with heap := s₂.heap, toks := σ'.tk } := (congrArg (fun x : Shared => { x with heap := s₂.heap, toks := σ'.tk }) a.st).symm
    exact e1.trans e2
   ·rcases List.mem_append.mp hp with hp | hp
    ·exact back.nwH p hp
    ·rcases hown p hp with e | ⟨q, hq, e⟩
     ·have e3 : p.2 = oI := by
       have := (N₁ p (List.mem_append_right _ hp)).1
       rw [e, (N₁ _ (List.mem_append_right _ hoI)).1] at this
       exact (Option.some.inj this).symm
      have e4 : p = (I, oI) := Prod.ext e e3
      rw [e4]
      exact a'.hid _ (.head _)
     ·have e3 : p.2 = q.2 := by
       have := (N₁ p (List.mem_append_right _ hp)).1
       rw [← e, (N₁ q (List.mem_append_left _ (List.mem_append_left _ (List.mem_append_right _ (hsub q hq))))).1] at this
       exact (Option.some.inj this).symm
      have e4 : p = q := Prod.ext e.symm e3
      rw [e4]
      exact a'.nw q (List.mem_append_right _ (a'.sub q hq))
   ·rcases List.mem_append.mp hp with hp | hp
    ·exact a'.hof p hp _ (.head _)
    ·exact hI p (List.mem_append_right _ hp)
  cases f with
  | ret v => exact ⟨σ', back, ZT.s hP⟩
  | brk => exact ⟨σ', back, ZT.s hP⟩
  | next => exact fin hP
  | cont => exact fin hP
 ·rintro m₁ led₁ h tk ⟨m, own₁, led, em, el, ⟨ns, hag, hj⟩, hnd, hof, hsub, hhof⟩ F₁ N₁
  subst em
  subst el
  refine ⟨⟨ns ++ m, own₁, led, tk, h.objs.size⟩, ⟨?_, rfl, ?_, fun p hp => N₁ p (List.mem_append_left _ hp), hnd, hof, fun p hp => hsub p (hR p hp), fun p hp => N₁ p (List.mem_append_right _ hp), hhof⟩, (done ns m own₁ led tk h.objs.size hj).s⟩
  ·exact congrArg (fun x : Shared => { x with heap := h, toks := tk }) a.st
  ·show Fr G.g G.L h (mf G.mt (ns ++ m))
   rw [look_agree hag.at]; exact F₁
theorem whileL {A : Around} {E : Value → Shared → Prop} {s : Shared} {h₀ : Heap} {L : Addr} {env : Env} {Q : Flow → Shared → Prop} {test : PySem.Expr} {body orelse : List Stmt} (hL : env.locals = L) (J : Nat → (Str → Option Value) → List (Addr × Obj) → Prop) (hE : PassesOwn (model pw w) A env E) {k : Nat}
  (turn : ∀ n m₁ led₁ h tk, J n m₁ led₁ → Fr h₀ L h m₁ → News h₀ L h led₁ → wpAny (model pw w) A (isTrue test env (eval test env)) (fun b s₂ => WhlIf b (wpAny (model pw w) A (execs body env) (WPost h₀ L J n { s with heap := h, toks := tk } Q) E s₂) (wpAny (model pw w) A (execs orelse env) Q E s₂)) E { s with heap := h, toks := tk })
  (n : Nat) (m : Str → Option Value) (led : List (Addr × Obj)) (h : Heap) (tk : Nat) (j : J n m led) (F : Fr h₀ L h m) (N : News h₀ L h led) : WhlRest pw w A E env test body orelse Q k { s with heap := h, toks := tk } := by
 subst hL
 exact while_mine J hE turn n m led h tk j F N
noncomputable def onWh {α : Type} (md : ZM) (z : α) (f : Expr → List Stmt → List Stmt → α) : α := match md with | .s (.While t b o _) => f t b o | _ => z
noncomputable def whOk (c : ZC) : Bool := onWh c.md false fun _ _ o => onNil o false true
noncomputable def whT (c : ZC) (ns m : List (Str × Value)) (own led : List (Addr × Obj)) (tk sz : Nat) : ZC := onWh c.md c fun t b _ => ⟨⟨ns ++ m, own, led, tk, sz⟩, [.wh b], .t t⟩
theorem onWh_ok {α : Type} {z y : α} {md : ZM} {f : Expr → List Stmt → List Stmt → α} (h : onWh md z f = y) (n : z ≠ y) : ∃ t b o p, md = .s (.While t b o p) ∧ f t b o = y := by
 cases md with
 | s x => cases x <;> first | exact ⟨_, _, _, _, rfl, h⟩ | exact absurd h n
 | _ => exact absurd h n
theorem z_while (n : Nat) {R' : List (Addr × Obj)} (J : Nat → List (Str × Value) → List (Addr × Obj) → List (Addr × Obj) → Prop) (i₀ : Nat) {ns : List (Str × Value)} {own led : List (Addr × Obj)}
  (hv : whOk (zgo N w.params n c) = true) (hn : ns.map (fun p => (zgo N w.params n c).σ.m.lookup p.1) = ns.map (fun p => some p.2)) (ho : (zgo N w.params n c).σ.own = own) (hl : (zgo N w.params n c).σ.led = led) (hR : ∀ p ∈ G.R, p ∈ R') (hR' : ∀ p ∈ R', p ∈ led) (j0 : J i₀ ns own led)
  (turn : ∀ i ns m own led tk sz, J i ns own led → ∀ G' : ZG w N d, G'.R = R' → G'.P = ZTurn G (zgo N w.params n c).k (fun ns own led => ∃ i', i' < i ∧ J i' ns own led) → let c' := whT (zgo N w.params n c) ns m own led tk sz; ZT G' c') : ZT G c := by
 refine ZT.go n ?_
 generalize zgo N w.params n c = c1 at *
 obtain ⟨σ, k, md⟩ := c1
 subst ho
 subst hl
 obtain ⟨t, b, o, p, rfl, e⟩ := onWh_ok hv Bool.false_ne_true
 obtain ⟨rfl, _⟩ := onNil_ok e Bool.false_ne_true
 intro s a
 have hE : PassesOwn (model pw w) G.A G.env (fun _ _ => False) := by
  obtain ⟨cn, b1, b2, more, f, ccd, ee⟩ := G.he
  rw [ee]; passes_own
 refine PySem.W.whl_start 0 ?_
 have e0 : s = { s with heap := s.heap, toks := s.toks } := rfl
 rw [e0]
 refine whileL G.eL (fun i mf l => ∃ m own led, LoopJ G R' (J i) mf l m own led) hE ?_ i₀ _ _ _ _ ⟨σ.m, σ.own, σ.led, rfl, rfl, ⟨ns, hn, j0⟩, a.nd, a.off, hR', a.hof⟩ a.fr a.nwH
 rintro i m₁ led₁ h tk ⟨m, own₁, led, em, el, ⟨ns, hag, hj⟩, hnd, hof, hsub, hhof⟩ F₁ N₁
 subst em
 subst el
 let G' : ZG w N d := G.loop R' G.H (ZTurn G k (fun ns own led => ∃ i', i' < i ∧ J i' ns own led))
 have at' : ZAt G' ⟨ns ++ m, own₁, led, tk, h.objs.size⟩ { s with heap := h, toks := tk } := by
  refine ⟨?_, rfl, ?_, fun p hp => N₁ p (List.mem_append_left _ hp), hnd, hof, hsub, fun p hp => N₁ p (List.mem_append_right _ hp), hhof⟩
  ·exact congrArg (fun x : Shared => { x with heap := h, toks := tk }) a.st
  ·show Fr G.g G.L h (mf G.mt (ns ++ m))
   rw [look_agree hag.at]; exact F₁
 have back : ∀ {σ' : ZS} {s₂ : Shared}, ZAt G' σ' s₂ → ZAt G σ' s₂ := fun a' => ⟨a'.st, a'.sz, a'.fr, a'.nw, a'.nd, a'.off, fun p hp => a'.sub p (hR p hp), a'.hid, a'.hof⟩
 refine wpAny_mono ((turn i ns m own₁ led tk h.objs.size hj G' rfl rfl).s _ at') (fun cb s₂ hf => ?_) fun _ _ e => e
 obtain ⟨σ', a', hP⟩ := hf
 unfold WhlIf
 cases cb with
 | false =>
  rw [if_neg Bool.false_ne_true]
  have hP' : ZT G ⟨σ', k, .d (.f .next)⟩ := hP
  exact wpAny_execs_nil ⟨σ', back a', hP'.s⟩
 | true =>
  rw [if_pos rfl]
  have hP' : ZW G' σ' (execs b G.env) (fun x σ => ZTurn G k (fun ns own led => ∃ i', i' < i ∧ J i' ns own led) x σ) := hP
  refine wpAny_mono (hP' _ a') (fun f s₃ hf => ?_) fun _ _ e => e
  obtain ⟨σ₂, a₂, hQ⟩ := hf
  have fin : (∃ ns, Agree σ₂.m ns ∧ ∃ i', i' < i ∧ J i' ns σ₂.own σ₂.led) → WEnd G.g G.L (fun i mf l => ∃ m own led, LoopJ G R' (J i) mf l m own led) i { s with heap := h, toks := tk } s₃ := by
   rintro ⟨ns', hag', i', hi', hj'⟩
   refine ⟨s₃.heap, σ₂.tk, _, (σ₂.own ++ σ₂.led) ++ G.H, ?_, a₂.fr, (back a₂).nwH, i', hi', σ₂.m, σ₂.own, σ₂.led, rfl, rfl, ⟨ns', hag', hj'⟩, a₂.nd, a₂.off, a₂.sub, a₂.hof⟩
   have e2 : { G.s₀ with heap := s₃.heap, toks := σ₂.tk } = { s with heap := s₃.heap, toks := σ₂.tk } := (congrArg (fun x : Shared => { x with heap := s₃.heap, toks := σ₂.tk }) a.st).symm
   exact a₂.st.trans e2
  cases f with
  | ret v => exact ⟨σ₂, back a₂, ZT.s hQ⟩
  | brk => exact ⟨σ₂, back a₂, ZT.s hQ⟩
  | next => exact fin hQ
  | cont => exact fin hQ
theorem z_turn (n : Nat) {k : List ZF} {G₀ : ZG w N d} {J : List (Str × Value) → List (Addr × Obj) → List (Addr × Obj) → Prop} (hP : G.P = ZTurn G₀ k J) (ns : List (Str × Value)) {own led : List (Addr × Obj)} (hv : fOf (zgo N w.params n c) = some .next) (hn : ns.map (fun p => (zgo N w.params n c).σ.m.lookup p.1) = ns.map (fun p => some p.2))
  (ho : (zgo N w.params n c).σ.own = own) (hl : (zgo N w.params n c).σ.led = led) (h : J ns own led) : ZT G c := by
 refine z_fl n hv ?_
 rw [hP]
 subst ho
 subst hl
 exact ⟨ns, hn, h⟩
noncomputable def outF (f : Flow) (σ : ZS) (k : List ZF) : Option ZC := match f with
 | .ret v => some ⟨σ, k, .d (.f (.ret v))⟩
 | .brk => some ⟨σ, k, .d (.f .next)⟩
 | _ => none
noncomputable def zout (c : ZC) (k : List ZF) : Option ZC := (fOf c).rec none fun f => outF f c.σ k
theorem z_out (n : Nat) {k : List ZF} {G₀ : ZG w N d} {J : List (Str × Value) → List (Addr × Obj) → List (Addr × Obj) → Prop} (hP : G.P = ZTurn G₀ k J) (hv : (zout (zgo N w.params n c) k).isSome = true) (h : let c' := (zout (zgo N w.params n c) k).getD c; ZT G₀ c') : ZT G c := by
 cases e : fOf (zgo N w.params n c) with
 | none => unfold zout at hv; rw [e] at hv; cases hv
 | some f =>
  refine z_fl n e ?_
  rw [hP]
  have e1 : zout (zgo N w.params n c) k = outF f (zgo N w.params n c).σ k := by unfold zout; rw [e]
  rw [e1] at h hv
  cases f with
  | ret v => exact h
  | brk => exact h
  | _ => cases hv
end
theorem iters_tup {w : World} {tp : Addr} {vs : List Value} {R' : List (Addr × Obj)} (hm : (tp, tupO vs) ∈ R') : Iters w (.ref tp) R' [] vs.length (fun i v => vs[i]? = some v) := by
 intro A E s h₀ L env m led Q x body hL hh F N _ _ hs J j0 turn done
 subst hL
 exact iter_tupM hh F N (hs _ hm) J j0 (fun I oI i v m₁ led₁ h tk own hv hJ h1 h2 h3 F₁ N₁ => turn I oI i v m₁ led₁ h tk own (List.getElem?_eq_some_iff.mp hv).1 hv hJ h1 (fun p hp => (h2 p hp).imp id fun e => ⟨_, hm, e.symm⟩) h3 F₁ N₁) done
theorem iters_list {w : World} {tp : Addr} {vs : List Value} {n : Nat} {R' : List (Addr × Obj)} (hm : (tp, PySem.W.listOf vs.toArray n) ∈ R') : Iters w (.ref tp) R' [] vs.length (fun i v => vs[i]? = some v) := by
 intro A E s h₀ L env m led Q x body hL hh F N _ _ hs J j0 turn done
 subst hL
 exact iter_listM hh F N (hs _ hm) J j0 (fun I oI i v m₁ led₁ h tk own hv hJ h1 h2 h3 F₁ N₁ => turn I oI i v m₁ led₁ h tk own (List.getElem?_eq_some_iff.mp hv).1 hv hJ h1 (fun p hp => (h2 p hp).imp id fun e => ⟨_, hm, e.symm⟩) h3 F₁ N₁) done
theorem iters_rev {w : World} {I l : Addr} {vs : List Value} {n : Nat} {k : Int} {R' : List (Addr × Obj)} (hk : k = (vs.length : Int) - 1) (hm : (l, PySem.W.listOf vs.toArray n) ∈ R') : Iters w (.ref I) R' [(I, revObj l k)] vs.length (fun i v => vs.reverse[i]? = some v) := by
 intro A E s h₀ L env m led Q x body hL hh F N NX hX hs J j0 turn done
 subst hL
 subst hk
 unfold IterDo
 have hml := hs _ hm
 have hl : s.heap.IsList l vs.toArray := ⟨_, (N _ hml).1, rfl, _, rfl⟩
 have hit : s.heap.IsRevIter I l ((vs.length : Int) - 1) := ⟨_, (NX _ (.head _)).1, rfl, rfl⟩
 have hne : l ≠ I := hX _ hml _ (.head _)
 have hLI : env.locals ∉ [I, l] := fun h => by
  rcases List.mem_cons.mp h with e | h
  ·exact (NX _ (.head _)).2.1 e.symm
  ·exact (N _ hml).2.1 (List.mem_singleton.mp h).symm
 refine wpAny_pyIter_revIter hit ?_
 refine for_walk3 (Walks.listRev hh I l hne vs.toArray) (.head _) hLI (NX _ (.head _)).2.2 (fun i h hs => let ⟨_, ⟨o, e, _⟩, _⟩ := hs; ⟨o, e⟩) ⟨Nat.zero_le _, by simpa using hit, hl⟩ F N (fun p hp => hX p hp _ (.head _)) J j0 ?_ (by simpa using done)
 intro i v m₁ led₁ h tk own oI hi hv hJ h1 h2 h3 F₁ N₁
 have hi' : i < vs.length := by simpa using hi
 refine turn _ oI i v m₁ led₁ h tk own hi' ?_ hJ h1 (fun p hp => ?_) h3 F₁ N₁
 ·show vs.reverse[i]? = some v
  rw [List.getElem?_reverse hi']
  simpa using hv
 ·rcases List.mem_cons.mp (h2 p hp) with e | e
  ·exact .inl e
  ·exact .inr ⟨_, hm, (List.mem_singleton.mp e).symm⟩
section
variable {w : World} {N : List (Str × NameKind)} {d : Nat} {G : ZG w N d} {c : ZC}
noncomputable def rvOf (c : ZC) : Option Addr := onPc c.md none fun f vs => onTy f none fun id => cond (id == "reversed") (onCons vs none fun a r => onNil r none (onRef a none some)) none
noncomputable def rvPut (n : Nat) (c : ZC) : ZC := onPc c.md c fun _ vs => onCons vs c fun a _ => onRef a c fun l => ⟨⟨c.σ.m, c.σ.own ++ [(c.σ.sz, revObj l ((n : Int) - 1))], c.σ.led, c.σ.tk, c.σ.sz + 1⟩, c.k, .d (.v (.ref c.σ.sz))⟩
theorem z_rev (n : Nat) {l : Addr} {vs : List Value} {k : Nat} (hm : ZHas G (zgo N w.params n c) (l, PySem.W.listOf vs.toArray k)) (hv : rvOf (zgo N w.params n c) = some l) (h : let c' := rvPut vs.length (zgo N w.params n c); ZT G c') : ZT G c := by
 refine ZT.go n ?_
 generalize zgo N w.params n c = c1 at *
 obtain ⟨σ, kk, md⟩ := c1
 obtain ⟨f, vs', rfl, e1⟩ := onPc_ok hv none_ne
 obtain ⟨id, rfl, e2⟩ := onTy_ok e1 none_ne
 obtain ⟨hid, e3⟩ := cond_ok e2 none_ne
 obtain rfl := eq_of_beq hid
 obtain ⟨a, r, rfl, e4⟩ := onCons_ok e3 none_ne
 obtain ⟨rfl, e5⟩ := onNil_ok e4 none_ne
 obtain ⟨l', rfl, e6⟩ := onRef_ok e5 none_ne
 cases e6
 intro s a
 refine call_reversed_list ⟨_, (a.nw _ (hm.at a)).1, rfl, _, rfl⟩ ?_
 rw [List.size_toArray, a.sz]
 exact ⟨_, a.push rfl, h.s⟩
end
end
section
set_option tactic.hygienic false
section
variable {w : World} {N : List (Str × NameKind)} {d : Nat} {G : ZG w N d} {c : ZC}
noncomputable def zresE (c : ZC) (r : Value) (tk sz : Nat) : ZC := c.rec fun σ k _ => ⟨⟨σ.m, σ.own, σ.led, tk, sz⟩, k, .d (.v r)⟩
theorem z_callE (n : Nat) {f dd : Nat} {args : (Nat → Tok) → List Value} {cl : List (Addr × Obj)} {v : (Nat → Tok) → Value} (D : ∀ t : Nat → Tok, Does w f dd (args t) cl (fun r l => r = v t ∧ l = cl)) (hd : dd ≤ d) (hl : (zgo N w.params n c).σ.led = cl) (hv : clOf (zgo N w.params n c) = some (f, args (tks (zgo N w.params n c))))
  (h : ∀ tk sz, let c' := zresE (zgo N w.params n c) (v (tks (zgo N w.params n c))) tk sz; ZT G c') : ZT G c := by
 refine ZT.go n ?_
 have key : ∀ s, ZAt G (zgo N w.params n c).σ s → ZSat G (zgo N w.params n c) := fun s a => by
  refine ZT.s (z_call (N := N) (c := zgo N w.params n c) 0 D hd hv hl ?_)
  rintro _ _ ⟨rfl, rfl⟩ tk sz
  refine ⟨fun p hp => hl ▸ a.sub p hp, ?_⟩
  have := h tk sz
  subst hl
  exact this
 generalize zgo N w.params n c = c1 at *
 obtain ⟨σ, k, md⟩ := c1
 obtain ⟨f', vs, rfl, e0⟩ := onPc_ok hv none_ne
 exact fun s a => key s a s a
theorem z_callT (n : Nat) {f dd : Nat} {args : (Nat → Tok) → List Value} {cl : List (Addr × Obj)} {v : Tok → Value} (D : ∀ t : Nat → Tok, Does w f dd (args t) cl (fun r l => (∃ t, r = v t) ∧ l = cl)) (hd : dd ≤ d) (hl : (zgo N w.params n c).σ.led = cl) (hv : clOf (zgo N w.params n c) = some (f, args (tks (zgo N w.params n c))))
  (h : ∀ t tk sz, let c' := zresE (zgo N w.params n c) (v t) tk sz; ZT G c') : ZT G c := by
 refine ZT.go n ?_
 have key : ∀ s, ZAt G (zgo N w.params n c).σ s → ZSat G (zgo N w.params n c) := fun s a => by
  refine ZT.s (z_call (N := N) (c := zgo N w.params n c) 0 D hd hv hl ?_)
  rintro _ _ ⟨⟨t, rfl⟩, rfl⟩ tk sz
  refine ⟨fun p hp => hl ▸ a.sub p hp, ?_⟩
  have := h t tk sz
  subst hl
  exact this
 generalize zgo N w.params n c = c1 at *
 obtain ⟨σ, k, md⟩ := c1
 obtain ⟨f', vs, rfl, e0⟩ := onPc_ok hv none_ne
 exact fun s a => key s a s a
theorem z_endE (n : Nat) {Z : Value → List (Addr × Obj) → Prop} {l : List (Addr × Obj)} {v : Value} (hP : G.P = ZFin Z) (hZ : ∀ r l', r = v ∧ l' = l → Z r l') (hl : (zgo N w.params n c).σ.led = l) (hv : enOf (zgo N w.params n c) = some v) : ZT G c :=
 z_end n hP hv hl (hZ _ _ ⟨rfl, rfl⟩)
theorem z_end2 (n : Nat) {post : Value → List (Addr × Obj) → Prop} {v : Value} {own led l : List (Addr × Obj)} (hP : G.P = ZFin post) (ho : (zgo N w.params n c).σ.own = own) (hl : (zgo N w.params n c).σ.led = led) (hv : enOf (zgo N w.params n c) = some v) (hs : ∀ p ∈ l, p ∈ own ++ led) (h : post v l) : ZT G c :=
 z_endO n hP hv (fun p hp => by rw [ho, hl]; exact hs p hp) h
theorem z_endV (n : Nat) {Z : Value → List (Addr × Obj) → Prop} {l : List (Addr × Obj)} {v v' : Value} (e : v' = v) (hP : G.P = ZFin Z) (hZ : ∀ r l', r = v ∧ l' = l → Z r l') (hl : (zgo N w.params n c).σ.led = l) (hv : enOf (zgo N w.params n c) = some v') : ZT G c :=
 z_end n hP hv hl (hZ _ _ ⟨e, rfl⟩)
theorem z_endT (n : Nat) {Z : Value → List (Addr × Obj) → Prop} {l : List (Addr × Obj)} {v : Tok → Value} (t : Tok) (hP : G.P = ZFin Z) (hZ : ∀ r l', (∃ t, r = v t) ∧ l' = l → Z r l') (hl : (zgo N w.params n c).σ.led = l) (hv : enOf (zgo N w.params n c) = some (v t)) : ZT G c :=
 z_end n hP hv hl (hZ _ _ ⟨⟨t, rfl⟩, rfl⟩)
noncomputable def zputK (c : ZC) (n : Nat) (v : Tok → Value) : ZC := c.rec fun σ k _ => ⟨⟨σ.m, σ.own, σ.led, σ.tk + n, σ.sz⟩, k, .d (.v (v σ.tk))⟩
noncomputable def lnOf (c : ZC) : Option Value := onPc c.md none fun f vs => onBi f none fun id => cond (id == "len") (onCons vs none fun a r => onNil r none (some a)) none
theorem z_lenS (n : Nat) {x : Str} {t : Tok} (hz : x.length ≤ 16777216) (hv : lnOf (zgo N w.params n c) = some (.str x t)) (h : let c' := zputK (zgo N w.params n c) 2 (fun t => .int x.length (t + 1)); ZT G c') : ZT G c := by
 refine ZT.go n ?_
 generalize zgo N w.params n c = c1 at *
 obtain ⟨σ, k, md⟩ := c1
 obtain ⟨f, vs, rfl, e1⟩ := onPc_ok hv none_ne
 obtain ⟨id, rfl, e2⟩ := onBi_ok e1 none_ne
 obtain ⟨hid, e3⟩ := cond_ok e2 none_ne
 obtain rfl := eq_of_beq hid
 obtain ⟨a, r, rfl, e4⟩ := onCons_ok e3 none_ne
 obtain ⟨rfl, e5⟩ := onNil_ok e4 none_ne
 cases e5
 refine fun s a => PyProof.Rows.len_str (by lia) ⟨_, a.set (s.toks + 1 + 1), ?_⟩
 rw [a.toks]
 have h' := h.s
 exact h'
theorem z_lenL (n : Nat) {l : Addr} {vs : List Value} {k : Nat} (hm : ZHas G (zgo N w.params n c) (l, PySem.W.listOf vs.toArray k)) (hz : vs.length ≤ 16777216) (hv : lnOf (zgo N w.params n c) = some (.ref l)) (h : let c' := zputK (zgo N w.params n c) 2 (fun t => .int vs.length (t + 1)); ZT G c') : ZT G c := by
 refine ZT.go n ?_
 generalize zgo N w.params n c = c1 at *
 obtain ⟨σ, k, md⟩ := c1
 obtain ⟨f, vs', rfl, e1⟩ := onPc_ok hv none_ne
 obtain ⟨id, rfl, e2⟩ := onBi_ok e1 none_ne
 obtain ⟨hid, e3⟩ := cond_ok e2 none_ne
 obtain rfl := eq_of_beq hid
 obtain ⟨a, r, rfl, e4⟩ := onCons_ok e3 none_ne
 obtain ⟨rfl, e5⟩ := onNil_ok e4 none_ne
 cases e5
 refine fun s a => len_led a.nw (hm.at a) (Nat.le_trans (by rw [List.size_toArray]; exact hz) (by decide)) ⟨_, a.set (s.toks + 1 + 1), ?_⟩
 rw [a.toks, List.size_toArray]
 have h' := h.s
 exact h'
noncomputable def siOf (c : ZC) : Option (Str × Int) := onSu c.md none fun _ s o i => onStr o none fun x => onInt i none fun i => cond (!isSlice s) (some (x, i)) none
theorem slice_noS {s : Expr} {x : Str} {t : Tok} {i : Int} {u : Tok} (h : isSlice s = false) : subscripted s false (.str x t) (.int i u) = operate [.str x t, .int i u] (getItem (.str x t) (.int i u)) := by
 cases s <;> first | rfl | cases h
theorem lt_no (v : Expr) (x : Str) (t : Tok) (r : Value) : letTemporaryGo v (.str x t) r = pure () := by cases v <;> with_unfolding_all rfl
theorem z_itemS (n : Nat) {x : Str} {i : Int} (hf : fitsSsize i = true) (h1 : -(x.length : Int) ≤ i) (h2 : i < x.length) (hv : siOf (zgo N w.params n c) = some (x, i)) (h : let c' := zputK (zgo N w.params n c) 1 (fun t => .str (Txt.item x i) t); ZT G c') : ZT G c := by
 refine ZT.go n ?_
 generalize zgo N w.params n c = c1 at *
 obtain ⟨σ, k, md⟩ := c1
 obtain ⟨v1, s, o, iv, rfl, e1⟩ := onSu_ok hv none_ne
 obtain ⟨x', t', rfl, e2⟩ := onStr_ok e1 none_ne
 obtain ⟨i', u, rfl, e3⟩ := onInt_ok e2 none_ne
 obtain ⟨hc, e4⟩ := cond_ok e3 none_ne
 cases e4
 intro st a
 refine item_str hf h1 h2 (fun _ => ⟨_, a.tick, ?_⟩) (slice_noS ((Bool.not_eq_true' _).mp hc)) (lt_no v1 _ _)
 rw [a.toks]
 have h' := h.s
 exact h'
theorem z_lenT (n : Nat) {l : Addr} {vs : List Value} (hm : ZHas G (zgo N w.params n c) (l, tupO vs)) (hz : vs.length ≤ 16777216) (hv : lnOf (zgo N w.params n c) = some (.ref l)) (h : let c' := zputK (zgo N w.params n c) 2 (fun t => .int vs.length (t + 1)); ZT G c') : ZT G c := by
 refine ZT.go n ?_
 generalize zgo N w.params n c = c1 at *
 obtain ⟨σ, k, md⟩ := c1
 obtain ⟨f, vs', rfl, e1⟩ := onPc_ok hv none_ne
 obtain ⟨id, rfl, e2⟩ := onBi_ok e1 none_ne
 obtain ⟨hid, e3⟩ := cond_ok e2 none_ne
 obtain rfl := eq_of_beq hid
 obtain ⟨a, r, rfl, e4⟩ := onCons_ok e3 none_ne
 obtain ⟨rfl, e5⟩ := onNil_ok e4 none_ne
 cases e5
 refine fun s a => len_tuple (News.isTup a.nw (hm.at a)) (by rw [List.size_toArray]; lia) ⟨_, a.set (s.toks + 1 + 1), ?_⟩
 rw [a.toks, List.size_toArray]
 have h' := h.s
 exact h'
end
end
section
set_option tactic.hygienic false
noncomputable def adJ (c : ZC) (j : Nat) : Option Addr := (ownL c j).rec (fun _ => none) fun p => some p.1
noncomputable def lsJ (c : ZC) (j : Nat) : Option (List Value) := (ownL c j).rec (fun _ => none) fun p => some p.2.1.toList
section
variable {w : World} {N : List (Str × NameKind)} {d : Nat} {G : ZG w N d} {c : ZC}
noncomputable def zputN (c : ZC) (tk : Nat) (v : Value) : ZC := c.rec fun σ k _ => ⟨⟨σ.m, σ.own, σ.led, tk, σ.sz⟩, k, .d (.v v)⟩
noncomputable def onTr {α : Type} (md : ZM) (z : α) (f : Value → α) : α := match md with | .tr v => f v | _ => z
theorem onTr_ok {α : Type} {z y : α} {md : ZM} {f : Value → α} (h : onTr md z f = y) (n : z ≠ y) : ∃ v, md = .tr v ∧ f v = y := by cases md <;> first | exact ⟨_, rfl, h⟩ | exact absurd h n
noncomputable def trOf (c : ZC) : Option Addr := onTr c.md none fun v => onRef v none some
noncomputable def trPut (b : Bool) (c : ZC) : ZC := c.rec fun σ k _ => ⟨⟨σ.m, σ.own, σ.led, σ.tk + 1 + 1, σ.sz⟩, k, .d (.b b)⟩
theorem z_truL (n : Nat) {l : Addr} {vs : List Value} {k : Nat} (b : Bool) (hm : ZHas G (zgo N w.params n c) (l, PySem.W.listOf vs.toArray k)) (hz : vs.length ≤ 16777216) (hb : (!vs.isEmpty) = b) (hv : trOf (zgo N w.params n c) = some l) (h : let c' := trPut b (zgo N w.params n c); ZT G c') : ZT G c := by
 refine ZT.go n ?_
 generalize zgo N w.params n c = c1 at *
 obtain ⟨σ, k, md⟩ := c1
 obtain ⟨v, rfl, e1⟩ := onTr_ok hv none_ne
 obtain ⟨a', rfl, e2⟩ := onRef_ok e1 none_ne
 cases e2
 intro s a
 refine wpAny_truthy_list (items := vs.toArray) ⟨_, (a.nw _ (hm.at a)).1, rfl, _, rfl⟩ (by rw [List.size_toArray]; lia) ?_
 rw [List.isEmpty_toArray, hb]
 refine ⟨_, a.set (s.toks + 1 + 1), ?_⟩
 rw [a.toks]
 have h' := h.s
 exact h'
noncomputable def popOf (c : ZC) : Option Addr := onPc c.md none fun f vs => onBi f none fun id => cond (id == "list.pop") (onCons vs none fun a r => onNil r none (onRef a none some)) none
noncomputable def popNew (j : Nat) (l : List Value) (y : Value) (sz : Nat) (c : ZC) (p : Addr × Array Value × Nat) : ZC := ⟨⟨c.σ.m, c.σ.own.set j (p.1, PySem.W.listOf l.toArray (p.2.2 + 1)), c.σ.led, c.σ.tk, sz⟩, c.k, .d (.v y)⟩
noncomputable def popPut (j : Nat) (l : List Value) (y : Value) (sz : Nat) (c : ZC) : ZC := okR (ownL c j) c (popNew j l y sz c)
theorem z_pop (n j : Nat) {ws p : List Value} {y : Value} (e : kl_last ws = some (p, y)) (hz : ws.length ≤ 16777216) (hs : lsJ (zgo N w.params n c) j = some ws) (hv : popOf (zgo N w.params n c) = adJ (zgo N w.params n c) j) (h : ∀ sz, let c' := popPut j p y sz (zgo N w.params n c); ZT G c') : ZT G c := by
 refine ZT.go n ?_
 generalize zgo N w.params n c = c1 at *
 unfold lsJ at hs
 unfold adJ at hv
 unfold popPut at h
 cases eo : ownL c1 j with
 | error b => rw [eo] at hs; cases hs
 | ok q =>
  rw [eo] at hs hv h
  obtain ⟨D, its, n0⟩ := q
  cases hs
  have ho := ownL_ok eo
  obtain ⟨σ, kk, md⟩ := c1
  obtain ⟨f, vs', rfl, e1⟩ := onPc_ok hv none_ne
  obtain ⟨id, rfl, e2⟩ := onBi_ok e1 none_ne
  obtain ⟨hid, e3⟩ := cond_ok e2 none_ne
  obtain rfl := eq_of_beq hid
  obtain ⟨a, r, rfl, e4⟩ := onCons_ok e3 none_ne
  obtain ⟨rfl, e5⟩ := onNil_ok e4 none_ne
  obtain ⟨l', rfl, e6⟩ := onRef_ok e5 none_ne
  cases e6
  intro s a
  have ho : σ.own[j]? = some (D, PySem.W.listOf its n0) := ho
  have hmem : (D, PySem.W.listOf its n0) ∈ σ.own ++ σ.led := List.mem_append_left _ (List.mem_of_getElem? ho)
  have hofs : ∀ q ∈ σ.led ++ G.H, q.1 ≠ D := fun q hq => (List.mem_append.mp hq).elim (fun h => (a.off _ (List.mem_of_getElem? ho) q h).symm) fun h => (a.hof _ hmem q h).symm
  refine kl_pop a.fr (List.append_assoc .. ▸ a.nwH) e (upd_own a.nd ho hofs) (Nat.le_trans hz (by decide)) fun h' F' N' => ?_
  have hmap := set_addr (o' := PySem.W.listOf p.toArray (n0 + 1)) ho
  have hadr : ∀ p' ∈ σ.own.set j (D, PySem.W.listOf p.toArray (n0 + 1)), ∃ q ∈ σ.own, q.1 = p'.1 := fun p hp => List.mem_map.mp (hmap ▸ List.mem_map_of_mem hp)
  refine ⟨⟨σ.m, _, σ.led, σ.tk, h'.objs.size⟩, a.heap rfl rfl F' (fun p hp => N' p ((List.mem_append.mp hp).elim (fun h => List.mem_append_left _ h) fun h => List.mem_append_right _ (List.mem_append_left _ h))) (hmap ▸ a.nd) (fun p hp q hq e => ?_) a.sub (fun p hp => N' p (List.mem_append_right _ (List.mem_append_right _ hp))) (fun p hp q hq e => ?_), (h h'.objs.size).s⟩
  ·obtain ⟨q', hq', e'⟩ := hadr p hp
   exact a.off q' hq' q hq (e'.trans e)
  ·rcases List.mem_append.mp hp with hp | hp
   ·obtain ⟨q', hq', e'⟩ := hadr p hp
    exact a.hof q' (List.mem_append_left _ hq') q hq (e'.trans e)
   ·exact a.hof p (List.mem_append_right _ hp) q hq e
noncomputable def sjM (c : ZC) : Bool := onGm c.md false fun o x _ _ => onStr o false fun _ => x == "join"
theorem z_strM (n : Nat) (hv : sjM (zgo N w.params n c) = true) (h : let c' := lmPut "str.join" (zgo N w.params n c); ZT G c') : ZT G c := by
 refine ZT.go n ?_
 generalize zgo N w.params n c = c1 at *
 obtain ⟨σ, k, md⟩ := c1
 obtain ⟨o, x, pos, args, rfl, e1⟩ := onGm_ok hv Bool.false_ne_true
 obtain ⟨y, t, rfl, e2⟩ := onStr_ok e1 Bool.false_ne_true
 obtain rfl := eq_of_beq e2
 exact fun pl s a => GM.join ⟨_, a, h.s⟩
noncomputable def sjOf (c : ZC) : Option (Str × Addr) := onPc c.md none fun f vs => onBi f none fun id => cond (id == "str.join") (two vs none fun a b => onStr a none fun x => onRef b none fun l => some (x, l)) none
theorem z_strjoin (n : Nat) {x : Str} {D : Addr} {ys : List (Str × Tok)} {texts : List Str} {k : Nat} (hm : ZHas G (zgo N w.params n c) (D, PySem.W.listOf (strValues ys).toArray k)) (ht : ys.map (·.1) = texts) (hok : JoinOk x texts = true) (hv : sjOf (zgo N w.params n c) = some (x, D)) (h : ∀ t tk, let c' := zputN (zgo N w.params n c) tk (.str (Txt.join x texts) t); ZT G c') : ZT G c := by
 refine ZT.go n ?_
 generalize zgo N w.params n c = c1 at *
 obtain ⟨σ, k, md⟩ := c1
 obtain ⟨f, vs, rfl, e1⟩ := onPc_ok hv none_ne
 obtain ⟨id, rfl, e2⟩ := onBi_ok e1 none_ne
 obtain ⟨hid, e3⟩ := cond_ok e2 none_ne
 obtain rfl := eq_of_beq hid
 obtain ⟨a, b, rfl, e4⟩ := two_ok e3 none_ne
 obtain ⟨x', t1, rfl, e5⟩ := onStr_ok e4 none_ne
 obtain ⟨l', rfl, e6⟩ := onRef_ok e5 none_ne
 cases e6
 exact fun s a => SC.join ⟨_, (a.nw _ (hm.at a)).1, rfl, _, rfl⟩ ht hok fun t' k' => ⟨_, a.set k', (h t' k').s⟩
end
theorem z_joinN {w : World} {N : List (Str × NameKind)} {d : Nat} {G : ZG w N d} {c : ZC} (n : Nat) (ns : List (Str × Value)) {own led : List (Addr × Obj)} {k : List ZF} {md : ZM} (h : ∀ m tk sz, ZT G ⟨⟨ns ++ m, own, led, tk, sz⟩, k, md⟩) (hn : ns.map (fun p => (zgo N w.params n c).σ.m.lookup p.1) = ns.map (fun p => some p.2)) (ho : (zgo N w.params n c).σ.own = own) (hl : (zgo N w.params n c).σ.led = led) (hk : ((zgo N w.params n c).k, (zgo N w.params n c).md) = (k, md)) (hv : zall (zgo N w.params n c) = true) : ZT G c := by
 refine ZT.go n ?_
 generalize zgo N w.params n c = c1 at *
 obtain ⟨⟨m1, own1, led1, tk, sz⟩, k1, md1⟩ := c1
 subst ho
 subst hl
 obtain ⟨e1, e2⟩ := Prod.mk.inj hk
 subst e1
 subst e2
 refine z_all hv fun s a => ⟨⟨ns ++ m1, own1, led1, tk, sz⟩, ⟨a.st, a.sz, ?_, a.nw, a.nd, a.off, a.sub, a.hid, a.hof⟩, (h m1 tk sz).s⟩
 show Fr G.g G.L s.heap (mf G.mt (ns ++ m1))
 rw [look_agree (Agree.at (m := m1) hn)]; exact a.fr
end
section
set_option tactic.hygienic false
section
variable {w : World} {N : List (Str × NameKind)} {d : Nat} {G : ZG w N d} {c : ZC}
noncomputable def onCo {α : Type} (md : ZM) (z : α) (f : CmpOp → Value → Value → α) : α := match md with | .co op a b => f op a b | _ => z
theorem onCo_ok {α : Type} {z y : α} {md : ZM} {f : CmpOp → Value → Value → α} (h : onCo md z f = y) (n : z ≠ y) : ∃ p a b, md = .co p a b ∧ f p a b = y := by cases md <;> first | exact ⟨_, _, _, rfl, h⟩ | exact absurd h n
noncomputable def onUo {α : Type} (md : ZM) (z : α) (f : UnaryOp → Value → α) : α := match md with | .uo op a => f op a | _ => z
noncomputable def mdSem (md : ZM) : Sem Value := onPc md (onBo md (onCo md (onUo md (Sem.pure .none) unaryOp) compareOp) binaryOp) fun f vs => PySem.call f vs
noncomputable def mdOk (md : ZM) : Bool := onPc md (onBo md (onCo md (onUo md false fun _ _ => true) fun _ _ _ => true) fun _ _ _ => true) fun _ _ => true
noncomputable def tkM (md : ZM) (i : Nat) : Tok := onPc md (onBo md (onCo md 0 fun _ a b => tokOf (Nat.rec a (fun _ _ => b) i)) fun _ a b => tokOf (Nat.rec a (fun _ _ => b) i)) fun _ vs => tokOf (vs.getD i .none)
noncomputable def zputO (c : ZC) (tk : Nat) (v : Value) : ZC := c.rec fun σ k _ => ⟨⟨σ.m, σ.own, σ.led, tk, σ.sz⟩, k, .d (.v v)⟩
theorem z_opP (n : Nat) {md : (Nat → Tok) → ZM} (Pv : Value → Prop) (hop : ∀ tt : Nat → Tok, ∀ s, ZAt G (zgo N w.params n c).σ s → ∀ Q : Value → Shared → Prop, (∀ v k, Pv v → Q v { s with toks := k }) → wpAny (model pw w) G.A (mdSem (md tt)) Q (fun _ _ => False) s)
  (hv : (zgo N w.params n c).md = md (tkM (zgo N w.params n c).md)) (ho : mdOk (zgo N w.params n c).md = true) (h : ∀ v, Pv v → ∀ tk, let c' := zputO (zgo N w.params n c) tk v; ZT G c') : ZT G c := by
 refine ZT.go n ?_
 generalize zgo N w.params n c = c1 at *
 have hop := hop (tkM c1.md)
 rw [← hv] at hop
 clear hv
 obtain ⟨σ, k, md⟩ := c1
 have key : ∀ s, ZAt G σ s → wpAny (model pw w) G.A (mdSem md) (fun v σ' => ∃ σ'', ZAt G σ'' σ' ∧ zkd G k (.v v) σ'') (fun _ _ => False) s := fun s a => hop s a _ fun v tk hv => ⟨_, a.set tk, (h v hv tk).s⟩
 cases md <;> first
  | exact key
  | cases ho
theorem z_op (n : Nat) {md : (Nat → Tok) → ZM} (v : Tok → Value) (hop : ∀ tt : Nat → Tok, ∀ s, ZAt G (zgo N w.params n c).σ s → ∀ Q : Value → Shared → Prop, (∀ t k, Q (v t) { s with toks := k }) → wpAny (model pw w) G.A (mdSem (md tt)) Q (fun _ _ => False) s)
  (hv : (zgo N w.params n c).md = md (tkM (zgo N w.params n c).md)) (ho : mdOk (zgo N w.params n c).md = true) (h : ∀ t tk, let c' := zputO (zgo N w.params n c) tk (v t); ZT G c') : ZT G c :=
 z_opP n (fun r => ∃ t, r = v t) (fun tt s a Q q => hop tt s a Q fun t k => q _ k ⟨t, rfl⟩) hv ho (by rintro _ ⟨t, rfl⟩ tk; exact h t tk)
theorem z_addS (n : Nat) {x y : Str} (hx : x.length + y.length ≤ 16777216) (hv : (zgo N w.params n c).md = .bo .Add (.str x (tkM (zgo N w.params n c).md 0)) (.str y (tkM (zgo N w.params n c).md 1))) (h : ∀ t tk, let c' := zputO (zgo N w.params n c) tk (.str (x ++ y) t); ZT G c') : ZT G c :=
 z_op n (md := fun t => .bo .Add (.str x (t 0)) (.str y (t 1))) (fun t => .str (x ++ y) t) (fun _ _ _ _ q => KXadd.add (Nat.le_refl _) (Nat.le_refl _) hx fun t k _ => q t k) hv (by rw [hv]; rfl) h
noncomputable def onCw {α : Type} (md : ZM) (z : α) (f : Pos → Value → List Value → List Expr → α) : α := match md with | .cw p g fs as => f p g fs as | _ => z
theorem onCw_ok {α : Type} {z y : α} {md : ZM} {f : Pos → Value → List Value → List Expr → α} (h : onCw md z f = y) (n : z ≠ y) : ∃ p g fs as, md = .cw p g fs as ∧ f p g fs as = y := by cases md <;> first | exact ⟨_, _, _, _, rfl, h⟩ | exact absurd h n
noncomputable def cw0Of (c : ZC) : Option Unit := onCw c.md none fun _ g _ as => onBi g none fun _ => cond as.isEmpty (some ()) none
noncomputable def cw0Put (c : ZC) : ZC := onCw c.md c fun _ g fs _ => ⟨c.σ, c.k, .pc g (fs ++ [])⟩
theorem z_cw0 (n : Nat) (hv : cw0Of (zgo N w.params n c) = some ()) (h : let c' := cw0Put (zgo N w.params n c); ZT G c') : ZT G c := by
 refine ZT.go n ?_
 generalize zgo N w.params n c = c1 at *
 obtain ⟨σ, k, md⟩ := c1
 obtain ⟨p, g, fs, as, rfl, e⟩ := onCw_ok hv none_ne
 obtain ⟨i, rfl, e2⟩ := onBi_ok e none_ne
 obtain ⟨e3, _⟩ := cond_ok e2 none_ne
 rw [List.isEmpty_iff] at e3
 subst e3
 have h' := h.s
 exact fun s a => callWith_builtin rfl (wpAny_pure (h' s a))
noncomputable def jrPut (own : List (Addr × Obj)) (tk sz : Nat) (v : Value) (c : ZC) : ZC := c.rec fun σ k _ => ⟨⟨σ.m, own, σ.led, tk, sz⟩, k, .d (.v v)⟩
theorem z_joinRev (n : Nat) {x : Str} {l I : Addr} {ys : List (Str × Tok)} {texts : List Str} {k0 : Int} {n0 : Nat} {own : List (Addr × Obj)} (ho : (zgo N w.params n c).σ.own = own ++ [(I, revObj l k0)]) (hm : (l, PySem.W.listOf (strValues ys).toArray n0) ∈ own) (hk : k0 = (ys.length : Int) - 1) (ht : ys.map (·.1) = texts) (hok : JoinOk x texts.reverse = true) (hn : ys.length ≤ 1000) (hv : sjOf (zgo N w.params n c) = some (x, I))
  (h : ∀ t tk sz, let c' := jrPut own tk sz (.str (Txt.join x texts.reverse) t) (zgo N w.params n c); ZT G c') : ZT G c := by
 refine ZT.go n ?_
 generalize zgo N w.params n c = c1 at *
 obtain ⟨σ, k, md⟩ := c1
 obtain ⟨f, vs, rfl, e1⟩ := onPc_ok hv none_ne
 obtain ⟨id, rfl, e2⟩ := onBi_ok e1 none_ne
 obtain ⟨hid, e3⟩ := cond_ok e2 none_ne
 obtain rfl := eq_of_beq hid
 obtain ⟨a, b, rfl, e4⟩ := two_ok e3 none_ne
 obtain ⟨x', t1, rfl, e5⟩ := onStr_ok e4 none_ne
 obtain ⟨l', rfl, e6⟩ := onRef_ok e5 none_ne
 cases e6
 have ho : σ.own = own ++ [(I, revObj l k0)] := ho
 intro s a
 have hI : (I, revObj l k0) ∈ σ.own := by rw [ho]; exact List.mem_append_right _ (.head _)
 have hup : ∀ p ∈ own, p ∈ σ.own := fun p hp => by rw [ho]; exact List.mem_append_left _ hp
 have hnd := a.nd
 rw [ho, List.map_append, List.nodup_append] at hnd
 have hne : ∀ p ∈ (own ++ σ.led) ++ G.H, p.1 ≠ I := fun p hp => by
  rcases List.mem_append.mp hp with hp | hp
  ·rcases List.mem_append.mp hp with hp | hp
   ·exact hnd.2.2 _ (List.mem_map_of_mem hp) _ (.head _)
   ·exact (a.off _ hI p hp).symm
  ·exact (a.hof _ (List.mem_append_left _ hI) p hp).symm
 have hsub : ∀ p ∈ own ++ σ.led, p ∈ σ.own ++ σ.led := fun p hp => (List.mem_append.mp hp).elim (fun h => List.mem_append_left _ (hup p h)) fun h => List.mem_append_right _ h
 refine join_revN ys texts G.hr.hd a.fr (led := (own ++ σ.led) ++ G.H) (List.forall_mem_cons.mpr ⟨a.nw _ (List.mem_append_left _ hI), fun p hp => (List.mem_append.mp hp).elim (fun h => a.nw p (hsub p h)) (a.hid p)⟩) hk rfl (List.mem_append_left _ (List.mem_append_left _ hm)) hne ht hok hn fun h' tk t' F' N' => ?_
 exact ⟨⟨σ.m, own, σ.led, tk, h'.objs.size⟩, a.heapT rfl rfl F' (fun p hp => N' p (List.mem_append_left _ hp)) hnd.1 (fun p hp q hq => a.off p (hup p hp) q hq) a.sub (fun p hp => N' p (List.mem_append_right _ hp)) (fun p hp q hq => a.hof p (hsub p hp) q hq), (h t' tk h'.objs.size).s⟩
noncomputable def onSi {α : Type} (md : ZM) (z : α) (f : Value → Value → Value → α) : α := match md with | .si o i v => f o i v | _ => z
theorem onSi_ok {α : Type} {z y : α} {md : ZM} {f : Value → Value → Value → α} (h : onSi md z f = y) (n : z ≠ y) : ∃ o i v, md = .si o i v ∧ f o i v = y := by cases md <;> first | exact ⟨_, _, _, rfl, h⟩ | exact absurd h n
noncomputable def siD (c : ZC) : Option Addr := onSi c.md none fun o _ _ => onRef o none some
noncomputable def siK (c : ZC) : Value := onSi c.md .none fun _ i _ => i
noncomputable def siV (c : ZC) : Value := onSi c.md .none fun _ _ v => v
noncomputable def siPut (j : Nat) (d : Addr) (o : Obj) (m : Nat) (c : ZC) : ZC := c.rec fun σ k _ => ⟨⟨σ.m, σ.own.set j (d, o), σ.led, σ.tk + m, σ.sz⟩, k, .d (.f .next)⟩
theorem z_setK {K' : Type} [DecidableEq K'] {knd : KeyKind pw w K'} {k : K'} {kvs : List (K' × Value)} (n j : Nat) {D : Addr} {o : Obj} (ho : (zgo N w.params n c).σ.own[j]? = some (D, o)) (hd : o.IsDictOf knd kvs) (hsz : kvs.length ≤ sizeLine) (hk : knd.is k (siK (zgo N w.params n c)) = true) (hv : siD (zgo N w.params n c) = some D) {v : Value} (hvv : siV (zgo N w.params n c) = v)
  (h : ∀ o', o'.IsDictOf knd (stored kvs k v) → let c' := siPut j D o' 1 (zgo N w.params n c); ZT G c') : ZT G c := by
 refine ZT.go n ?_
 generalize zgo N w.params n c = c1 at *
 obtain ⟨σ, kk, md⟩ := c1
 obtain ⟨o1, i1, v1, rfl, q1⟩ := onSi_ok hv none_ne
 obtain ⟨d', rfl, q2⟩ := onRef_ok q1 none_ne
 cases q2
 subst hvv
 intro s a
 have hN := a.nw _ (List.mem_append_left _ (List.mem_of_getElem? ho))
 refine wpAny_setItem_pairs (hsz := hsz) hk (Heap.dictOf_iff.mpr ⟨o, hN.1, hd⟩) fun h' hm hs => ?_
 obtain ⟨o', ho', hd'⟩ := Heap.dictOf_iff.mp hm
 refine ⟨_, (own_set a ho hs ho').set (s.toks + 1), ?_⟩
 rw [a.toks]
 exact (h o' hd').s
noncomputable def gmD (c : ZC) : Option Addr := onGm c.md none fun o x _ _ => cond (x == "get") (onRef o none some) none
theorem z_getM {K' : Type} [DecidableEq K'] {knd : KeyKind pw w K'} {kvs : List (K' × Value)} (n : Nat) {D : Addr} {o : Obj} (hm : ZHas G (zgo N w.params n c) (D, o)) (hd : o.IsDictOf knd kvs) (hv : gmD (zgo N w.params n c) = some D) (h : let c' := lmPut "dict.get" (zgo N w.params n c); ZT G c') : ZT G c := by
 refine ZT.go n ?_
 generalize zgo N w.params n c = c1 at *
 obtain ⟨σ, k, md⟩ := c1
 obtain ⟨o1, x, pos, args, rfl, e1⟩ := onGm_ok hv none_ne
 obtain ⟨e2, e3⟩ := cond_ok e1 none_ne
 obtain rfl := eq_of_beq e2
 obtain ⟨d', rfl, e4⟩ := onRef_ok e3 none_ne
 cases e4
 exact fun pl s a => kdg_method a.nw (hm.at a) hd ⟨_, a, h.s⟩
noncomputable def isI (v : Value) : Option Int := onInt v none some
theorem isI_ok {a : Int} {v : Value} (h : isI v = some a) : (intKind pw w).is a v = true := by
 obtain ⟨i, t, rfl, h2⟩ := onInt_ok h none_ne
 cases h2; exact intKind_is _ _ _ _
noncomputable def isS (v : Value) : Option Str := onStr v none some
theorem isS_ok {a : Str} {v : Value} (h : isS v = some a) : (PySem.strKind pw w).is a v = true := by
 obtain ⟨i, t, rfl, h2⟩ := onStr_ok h none_ne
 cases h2; exact PySem.strKind_is _ _ _ _
end
noncomputable def allStrs (vs : List Value) : Option (List Str) := vs.rec (some []) fun v _ ih => onStr v none fun x => ih.map (x :: ·)
theorem allStrs_are : ∀ {vs : List Value} {xs : List Str}, allStrs vs = some xs → StrsAre vs xs
 | [], xs, h => by cases h; exact .nil
 | v :: r, xs, h => by
  obtain ⟨x, t, rfl, h2⟩ := onStr_ok h none_ne
  obtain ⟨ys, e, rfl⟩ := Option.map_eq_some_iff.mp h2
  exact .cons _ _ (allStrs_are e)
section
variable {w : World} {N : List (Str × NameKind)} {d : Nat} {G : ZG w N d} {c : ZC}
noncomputable def inOf (c : ZC) : Option (Str × Addr) := onCo c.md none fun op a b => onStr a none fun x => onRef b none fun D => cond (decide (op = .In)) (some (x, D)) none
noncomputable def strsT (own : List (Addr × Obj)) (j : Nat) : Option (List Str) := tupF own j allStrs
theorem z_inT (n j : Nat) (xs : List Str) {x : Str} (hs : strsT (zgo N w.params n c).σ.own j = some xs) (hv : inOf (zgo N w.params n c) = some (x, adr (zgo N w.params n c).σ.own j)) (h : let c' := zput (zgo N w.params n c) (.bool (xs.any (· == x))); ZT G c') : ZT G c := by
 refine ZT.go n ?_
 generalize zgo N w.params n c = c1 at *
 obtain ⟨σ, k, md⟩ := c1
 obtain ⟨op, a, b, rfl, q1⟩ := onCo_ok hv none_ne
 obtain ⟨x', t, rfl, q2⟩ := onStr_ok q1 none_ne
 obtain ⟨D, rfl, q3⟩ := onRef_ok q2 none_ne
 obtain ⟨q4, q5⟩ := cond_ok q3 none_ne
 obtain rfl := of_decide_eq_true q4
 obtain ⟨e1, e2⟩ := Prod.mk.inj (Option.some.inj q5)
 have e2 : D = adr σ.own j := e2
 subst e1
 subst e2
 obtain ⟨vs, m, hx⟩ := tupF_ok hs
 exact fun s a => in_tuple_strs (News.isTup a.nw (List.mem_append_left _ (adr_mem m))) (allStrs_are hx) ⟨_, a, h.s⟩
noncomputable def strsG (P : Params) (T : Addr) : Option (List Str) := ((K P).lookup T).rec none fun o => (asSeq "tuple" o).rec none fun q => allStrs q.1.toList
noncomputable def inG (P : Params) (c : ZC) : Option (Str × List Str) := (inOf c).rec none fun p => (strsG P p.2).rec none fun xs => some (p.1, xs)
theorem z_inG (n : Nat) (xs : List Str) {x : Str} (hv : inG w.params (zgo N w.params n c) = some (x, xs)) (h : let c' := zput (zgo N w.params n c) (.bool (xs.any (· == x))); ZT G c') : ZT G c := by
 refine ZT.go n ?_
 generalize zgo N w.params n c = c1 at *
 unfold inG at hv
 cases q0 : inOf c1 with
 | none => rw [q0] at hv; cases hv
 | some p =>
  rw [q0] at hv
  have hv : (strsG w.params p.2).rec none (fun xs => some (p.1, xs)) = some (x, xs) := hv
  cases q1 : strsG w.params p.2 with
  | none => rw [q1] at hv; cases hv
  | some ys =>
   rw [q1] at hv
   cases hv
   unfold strsG at q1
   cases q2 : (K w.params).lookup p.2 with
   | none => rw [q2] at q1; cases q1
   | some o =>
    rw [q2] at q1
    have q1 : (asSeq "tuple" o).rec none (fun q => allStrs q.1.toList) = some xs := q1
    cases q3 : asSeq "tuple" o with
    | none => rw [q3] at q1; cases q1
    | some q =>
     rw [q3] at q1
     obtain ⟨σ, k, md⟩ := c1
     obtain ⟨op, a, b, rfl, r1⟩ := onCo_ok q0 none_ne
     obtain ⟨x', t, rfl, r2⟩ := onStr_ok r1 none_ne
     obtain ⟨D, rfl, r3⟩ := onRef_ok r2 none_ne
     obtain ⟨r4, r5⟩ := cond_ok r3 none_ne
     obtain rfl := of_decide_eq_true r4
     cases r5
     exact fun s a => in_tuple_strs ⟨_, a.all _ _ q2, by rw [asSeq_ok q3], _, by rw [asSeq_ok q3]⟩ (allStrs_are q1) ⟨_, a, h.s⟩
noncomputable def swM (c : ZC) : Bool := onGm c.md false fun o x _ _ => onStr o false fun _ => x == "startswith"
theorem z_swM (n : Nat) (hv : swM (zgo N w.params n c) = true) (h : let c' := lmPut "str.startswith" (zgo N w.params n c); ZT G c') : ZT G c := by
 refine ZT.go n ?_
 generalize zgo N w.params n c = c1 at *
 obtain ⟨σ, k, md⟩ := c1
 obtain ⟨o, x, pos, args, rfl, e1⟩ := onGm_ok hv Bool.false_ne_true
 obtain ⟨y, t, rfl, e2⟩ := onStr_ok e1 Bool.false_ne_true
 obtain rfl := eq_of_beq e2
 exact fun pl s a => GM.startswith ⟨_, a, h.s⟩
end
theorem op_not {w : World} {A : Around} {E : Value → Shared → Prop} {s : Shared} {b : Bool} {Q : Value → Shared → Prop} (q : ∀ (_ : Tok) k, Q (.bool (!b)) { s with toks := k }) : wpAny (model pw w) A (unaryOp .Not (.bool b)) Q E s := not_of (wpAny_truthy_bool (q 0 s.toks))
theorem iters_str {w : World} {y : Str} {t : Tok} {R' : List (Addr × Obj)} : Iters w (.str y t) R' [] y.cps.size (fun i v => ∃ c t, y.cps[i]? = some c ∧ v = .str ⟨#[c]⟩ t) := by
 intro A E s h₀ L env m led Q x body hL hh F N _ _ hs J j0 turn done
 subst hL
 unfold IterDo
 have hI0 : h₀.get? s.heap.objs.size = none := by
  cases q : h₀.get? s.heap.objs.size with
  | none => rfl
  | some o => exact absurd (Heap.lt_size (F.keep _ _ q)) (Nat.lt_irrefl _)
 have hLI : env.locals ∉ [s.heap.objs.size] := fun h => by
  have := List.mem_singleton.mp h
  exact absurd F.ns.lt (by rw [this]; exact Nat.lt_irrefl _)
 have hnI : ∀ p ∈ led, p.1 ≠ s.heap.objs.size := fun p hp => Nat.ne_of_lt (Heap.lt_size (N p hp).1)
 have tn : ∀ (o : Obj), News h₀ env.locals (s.heap.push o) led := fun o p hp => ⟨Heap.get?_push_of_some _ (N p hp).1, (N p hp).2⟩
 cases ha : y.cps.all (· < 128)
 ·refine wpAny_pyIter_wide ha ?_
  refine for_walk3 (s := { s with heap := s.heap.push _ }) (Walks.strWide hh s.heap.objs.size y t) (.head _) hLI hI0 (fun i h hs => let ⟨o, e, _⟩ := hs; ⟨o, e⟩) ⟨_, Heap.get?_push_size _ rfl, rfl, rfl⟩ (F.push _) (tn _) hnI J j0 ?_ done
  intro i v m₁ led₁ h tk own oI hi hv hJ h1 h2 h3 F₁ N₁
  exact turn _ oI i v m₁ led₁ h tk own hi hv hJ h1 (fun p hp => .inl (List.mem_singleton.mp (h2 p hp))) h3 F₁ N₁
 ·refine wpAny_pyIter_ascii ha ?_
  refine for_walk3 (s := { s with heap := s.heap.push _ }) (Walks.strAscii hh s.heap.objs.size y t) (.head _) hLI hI0 (fun i h hs => let ⟨o, e, _⟩ := hs; ⟨o, e⟩) ⟨_, Heap.get?_push_size _ rfl, rfl, rfl⟩ (F.push _) (tn _) hnI J j0 ?_ done
  intro i v m₁ led₁ h tk own oI hi hv hJ h1 h2 h3 F₁ N₁
  exact turn _ oI i v m₁ led₁ h tk own hi hv hJ h1 (fun p hp => .inl (List.mem_singleton.mp (h2 p hp))) h3 F₁ N₁
section
variable {w : World} {N : List (Str × NameKind)} {d : Nat} {G : ZG w N d} {c : ZC}
theorem ZAt.pushD {σ : ZS} {s : Shared} (a : ZAt G σ s) {D : Addr} {o : Obj} {h' : Heap} (F' : Fr G.g G.L h' (mf G.mt σ.m)) (N' : News G.g G.L h' ((D, o) :: ((σ.own ++ σ.led) ++ G.H))) (lt : ∀ p ∈ (σ.own ++ σ.led) ++ G.H, p.1 < D) : ZAt G ⟨σ.m, σ.own ++ [(D, o)], σ.led, σ.tk, h'.objs.size⟩ { s with heap := h' } := by
 refine a.heap rfl rfl F' (fun p hp => N' p ?_) (nodup_push a.nd fun p hp => lt p (List.mem_append_left _ (List.mem_append_left _ hp))) ?_ a.sub (fun p hp => N' p (.tail _ (List.mem_append_right _ hp))) (hof_push a.hof fun q hq => Nat.ne_of_gt (lt q (List.mem_append_right _ hq)))
 ·simp only [List.mem_append, List.mem_cons, List.not_mem_nil, or_false] at hp ⊢
  rcases hp with (h | h) | h
  ·exact .inr (.inl (.inl h))
  ·exact .inl h
  ·exact .inr (.inl (.inr h))
 ·intro p hp q hq
  rcases List.mem_append.mp hp with h | h
  ·exact a.off p h q hq
  ·rw [List.mem_singleton.mp h]
   exact Nat.ne_of_gt (lt q (List.mem_append_left _ (List.mem_append_right _ hq)))
theorem z_lenLO (n j : Nat) {vs : List Value} (hs : lsJ (zgo N w.params n c) j = some vs) (hz : vs.length ≤ 16777216) (hv : lnOf (zgo N w.params n c) = (adJ (zgo N w.params n c) j).map Value.ref) (h : let c' := zputK (zgo N w.params n c) 2 (fun t => .int vs.length (t + 1)); ZT G c') : ZT G c := by
 unfold lsJ at hs
 unfold adJ at hv
 cases e : ownL (zgo N w.params n c) j with
 | error b => rw [e] at hs; cases hs
 | ok p =>
  rw [e] at hs hv
  cases hs
  exact z_lenL n (zO j (ownL_ok (D := p.1) (its := p.2.1) (n := p.2.2) e)) hz hv h
noncomputable def onE {α : Type} (md : ZM) (z : α) (f : Expr → α) : α := match md with | .e x => f x | _ => z
theorem onE_ok {α : Type} {z y : α} {md : ZM} {f : Expr → α} (h : onE md z f = y) (n : z ≠ y) : ∃ x, md = .e x ∧ f x = y := by cases md <;> first | exact ⟨_, rfl, h⟩ | exact absurd h n
noncomputable def onDi {α : Type} (x : Expr) (z : α) (f : List (Option Expr) → List Expr → α) : α := match x with | .Dict ks vs _ => f ks vs | _ => z
theorem onDi_ok {α : Type} {z y : α} {x : Expr} {f : List (Option Expr) → List Expr → α} (h : onDi x z f = y) (n : z ≠ y) : ∃ a b p, x = .Dict a b p ∧ f a b = y := by cases x <;> first | exact ⟨_, _, _, rfl, h⟩ | exact absurd h n
noncomputable def ndOf (c : ZC) : Bool := onE c.md false fun x => onDi x false fun ks vs => onNil ks false (onNil vs false true)
noncomputable def ndPut (D : Addr) (o : Obj) (sz : Nat) (c : ZC) : ZC := c.rec fun σ k _ => ⟨⟨σ.m, σ.own ++ [(D, o)], σ.led, σ.tk, sz⟩, k, .d (.v (.ref D))⟩
theorem z_newD (n : Nat) (hv : ndOf (zgo N w.params n c) = true) (h : ∀ D o sz, (D == sysModules) = false → o.IsDictOf (PySem.strKind pw w) [] → o.IsDictOf (intKind pw w) [] → let c' := ndPut D o sz (zgo N w.params n c); ZT G c') : ZT G c := by
 refine ZT.go n ?_
 generalize zgo N w.params n c = c1 at *
 obtain ⟨σ, k, md⟩ := c1
 obtain ⟨x, rfl, q1⟩ := onE_ok hv Bool.false_ne_true
 obtain ⟨ks, vs, p, rfl, q2⟩ := onDi_ok q1 Bool.false_ne_true
 obtain ⟨rfl, q3⟩ := onNil_ok q2 Bool.false_ne_true
 obtain ⟨rfl, _⟩ := onNil_ok q3 Bool.false_ne_true
 exact fun s a => newDict_K a.fr a.nwH G.T.nolimit fun D h' o F' N' lt lo h1 _ h2 _ => ⟨_, a.pushD F' N' lt, (h D o h'.objs.size lo h1 h2).s⟩
end
noncomputable def ktOf (own : List (Addr × Obj)) (i : Nat) : Tok := onCons own 0 fun p _ => onDc p.2.data 0 fun es _ => (es[i]?).rec 0 fun e => tokOf e.key
noncomputable def bindK (fd : FuncData) (ps : List Value) : { k : Option (Array Value) → Sem (List (Str × Value)) // bindArgs fd ⟨ps, []⟩ = seqItems? fd.defaults >>= k } := ⟨_, rfl⟩
theorem binds_D {P : Params} {s : Shared} {fd : FuncData} {ps : List Value} {binds : List (Str × Value)} (X : (K P).In s.heap) (T : Addr) {o : Obj} (items : Array Value) {n : Nat} (hd : fd.defaults = .ref T) (ho : (K P).lookup T = some o) (hs : o.data = .seq items n) (h : (bindK fd ps).1 (some items) = pure binds) : BindsTo s fd ⟨ps, []⟩ binds := BindsTo.of_defaults hd (X _ _ ho) hs (bindK fd ps).2 h
noncomputable def dfA (w : World) (f : Addr) : Addr := onRef (fdAt w.params f).defaults 0 id
noncomputable def dfI (w : World) (f : Addr) : Array Value := onSeq (obAt w.params (dfA w f)).data #[] fun a _ => a
end
section
set_option tactic.hygienic false
noncomputable def slO (l u : Value) : Obj := { cls := .type "slice", data := .fields #[l, u, .none] }
def Lit (e : Option Expr) (v : Nat → Value) (a : Nat) : Prop := ∀ (w : World) (A : Around) (E : Value → Shared → Prop) (env : Env) (s : Shared) (Q : Value → Shared → Prop), Q (v s.toks) { s with toks := s.toks + a } → wpAny (model pw w) A (evalPart e env) Q E s
theorem lit_none : Lit none (fun _ => .none) 0 := fun _ _ _ _ _ _ h => wpAny_pure h
theorem lit_int {i : Int} {k : Nat} {p : Pos} : Lit (some (.Constant (.int i) k p)) (fun t => .int i t) 1 := fun _ _ _ _ _ _ h => wpAny_Constant_int (k := k) (pos := p) h
theorem lit_neg {i : Int} {k : Nat} {p p' : Pos} : Lit (some (.UnaryOp .USub (.Constant (.int i) k p) p')) (fun t => .int (-i) (t + 1)) 2 := fun _ _ _ _ _ _ h => UnaryOp_ (wpAny_Constant_int (k := k) (pos := p) (neg_int h))
theorem small_range {n : Int} (h0 : 0 ≤ n) (h1 : n ≤ 30) : Builtin.Range.small 0 n 1 = true ∧ Builtin.Range.rangeSize 0 n 1 = n := by
 have h : ∀ k : Fin 31, Builtin.Range.small 0 ((k.val : Nat) : Int) 1 = true ∧ Builtin.Range.rangeSize 0 ((k.val : Nat) : Int) 1 = ((k.val : Nat) : Int) := by decide +kernel
 have h2 := h ⟨n.toNat, by lia⟩
 have e : ((n.toNat : Nat) : Int) = n := by lia
 simp only [e] at h2
 exact h2
noncomputable def rngObj (n : Int) (t u v : Tok) : Obj := { cls := .type "range", data := .fields #[.int 0 t, .int n u, .int 1 v] }
theorem iters_range {w : World} {r : Addr} {n : Int} {t u v : Tok} {R' : List (Addr × Obj)} (h0 : 0 ≤ n) (h1 : n ≤ 30) : Iters w (.ref r) R' [(r, rngObj n t u v)] n.toNat (fun i x => ∃ t, x = .int (i : Nat) t) := by
 intro A E s h₀ L env m led Q x body hL hh F N NX hX hs J j0 turn done
 subst hL
 unfold IterDo
 have hr : IsRange s.heap r 0 n 1 t u v := (NX _ (.head _)).1
 obtain ⟨e1, e2⟩ := small_range h0 h1
 have hI0 : h₀.get? s.heap.objs.size = none := by
  cases q : h₀.get? s.heap.objs.size with
  | none => rfl
  | some o => exact absurd (Heap.lt_size (F.keep _ _ q)) (Nat.lt_irrefl _)
 have hLI : env.locals ∉ [s.heap.objs.size] := fun h => by
  have e := List.mem_singleton.mp h
  exact absurd F.ns.lt (by rw [e]; exact Nat.lt_irrefl _)
 refine wpAny_pyIter_range hr e1 ?_
 rw [e2]
 refine for_walk3 (s := { s with heap := s.heap.push _ }) (Walks.range hh s.heap.objs.size 0 1 n.toNat) (.head _) hLI hI0 (fun i h hI => ⟨_, hI⟩) ?_ (F.push _) (fun p hp => ⟨Heap.get?_push_of_some _ (N p hp).1, (N p hp).2⟩) (fun p hp => Nat.ne_of_lt (Heap.lt_size (N p hp).1)) J j0 ?_ done
 ·have e3 : ((n.toNat : Nat) : Int) = n := by lia
  have := Heap.get?_push_size (h := s.heap) (o := { cls := .type "range_iterator", data := .fields #[rawInt 0, rawInt n, rawInt 1] }) rfl
  simpa [IsRangeIter, e3] using this
 intro i v m₁ led₁ h tk own oI hi ⟨t, hv⟩ hJ h1 h2 h3 F₁ N₁
 exact turn _ oI i v m₁ led₁ h tk own hi ⟨t, by simpa using hv⟩ hJ h1 (fun p hp => .inl (List.mem_singleton.mp (h2 p hp))) h3 F₁ N₁
section
variable {w : World} {N : List (Str × NameKind)} {d : Nat} {G : ZG w N d} {c : ZC}
noncomputable def slPut (vl vu : Nat → Value) (a b : Nat) (c : ZC) : ZC := c.rec fun σ k _ => ⟨⟨σ.m, σ.own ++ [(σ.sz, slO (vl σ.tk) (vu (σ.tk + a)))], σ.led, σ.tk + a + b, σ.sz + 1⟩, k, .d (.v (.ref σ.sz))⟩
theorem z_sl (n : Nat) {l u : Option Expr} {p : Pos} {vl vu : Nat → Value} {a b : Nat} (hl : Lit l vl a) (hu : Lit u vu b) (hv : (zgo N w.params n c).md = .e (.Slice l u none p)) (h : let c' := slPut vl vu a b (zgo N w.params n c); ZT G c') : ZT G c := by
 refine ZT.go n ?_
 generalize zgo N w.params n c = c1 at *
 obtain ⟨σ, k, md⟩ := c1
 obtain rfl : md = _ := hv
 intro s at'
 refine wpAny_Slice (hl _ _ _ _ _ _ (hu _ _ _ _ _ _ (wpAny_pure ⟨_, (at'.push (o := slO (vl s.toks) (vu (s.toks + a))) rfl).set (s.toks + a + b), ?_⟩)))
 show zkd G k (.v (.ref s.heap.objs.size)) _
 rw [at'.sz, at'.toks]
 exact h.s
noncomputable def isSlN (e : Expr) : Bool := match e with | .Slice _ _ s _ => s.isNone | _ => false
theorem slN_ok {e : Expr} (h : isSlN e = true) (o i : Value) : subscripted e false o i = operate [i, o] (getItem o i) := by
 cases e with
 | Slice l u s p => cases s with
  | none => rfl
  | some _ => cases h
 | _ => cases h
noncomputable def ssOf (c : ZC) : Option (Str × Addr) := onSu c.md none fun _ s o i => onStr o none fun x => onRef i none fun a => cond (isSlN s) (some (x, a)) none
theorem z_slS (n j : Nat) {x : Str} {lo hi : Int} {t1 t2 : Tok} {D : Addr} (ho : (zgo N w.params n c).σ.own[j]? = some (D, slO (.int lo t1) (.int hi t2))) (hx : x.length ≤ 16777216) (hv : ssOf (zgo N w.params n c) = some (x, D)) (h : ∀ t tk, let c' := zputO (zgo N w.params n c) tk (.str (Txt.slice x (some lo) (some hi)) t); ZT G c') : ZT G c := by
 refine ZT.go n ?_
 generalize zgo N w.params n c = c1 at *
 obtain ⟨σ, k, md⟩ := c1
 obtain ⟨v1, sl, o, i, rfl, e1⟩ := onSu_ok hv none_ne
 obtain ⟨x', t, rfl, e2⟩ := onStr_ok e1 none_ne
 obtain ⟨D', rfl, e3⟩ := onRef_ok e2 none_ne
 obtain ⟨e4, e5⟩ := cond_ok e3 none_ne
 obtain ⟨rfl, rfl⟩ := Prod.mk.inj (Option.some.inj e5)
 intro s a
 exact subscriptTail_ops (typeIs_str s x' t) PySem.F.slot_str_getitem.lookup (wpAny_getItem_str_slice (l := some (lo, t1)) (u := some (hi, t2)) (st := none) ⟨_, (a.nw _ (List.mem_append_left _ (List.mem_of_getElem? ho))).1, rfl, rfl⟩ rfl (post_val_or_str ⟨Nat.le_trans (Txt.slice_le x' _ _) hx, fun t' k => ⟨_, a.set k, (h t' k).s⟩⟩)) (slN_ok e4 _ _) (lt_no v1 _ _)
noncomputable def rgOf (c : ZC) : Option Int := onPc c.md none fun f vs => onTy f none fun id => cond (id == "range") (onCons vs none fun a r => onNil r none (onInt a none some)) none
noncomputable def rgPut (r : Addr) (o : Obj) (tk sz : Nat) (c : ZC) : ZC := ⟨⟨c.σ.m, c.σ.own ++ [(r, o)], c.σ.led, tk, sz⟩, c.k, .d (.v (.ref r))⟩
theorem z_range (n : Nat) {k : Int} (hv : rgOf (zgo N w.params n c) = some k) (h : ∀ r t u v tk sz, let c' := rgPut r (rngObj k t u v) tk sz (zgo N w.params n c); ZT G c') : ZT G c := by
 refine ZT.go n ?_
 generalize zgo N w.params n c = c1 at *
 obtain ⟨σ, kk, md⟩ := c1
 obtain ⟨f, vs', rfl, e1⟩ := onPc_ok hv none_ne
 obtain ⟨id, rfl, e2⟩ := onTy_ok e1 none_ne
 obtain ⟨hid, e3⟩ := cond_ok e2 none_ne
 obtain rfl := eq_of_beq hid
 obtain ⟨a, r, rfl, e4⟩ := onCons_ok e3 none_ne
 obtain ⟨rfl, e5⟩ := onNil_ok e4 none_ne
 obtain ⟨k', u, rfl, e6⟩ := onInt_ok e5 none_ne
 cases e6
 intro s a
 refine call_range_1 ⟨_, ?_, (h s.heap.objs.size s.toks u (s.toks + 1) (s.toks + 2) (s.heap.objs.size + 1)).s⟩
 have a2 := (a.push (o := rngObj k s.toks u (s.toks + 1)) rfl).set (s.toks + 2)
 rw [← a.sz] at a2
 exact a2
noncomputable def isNm (e : Expr) : Bool := match e with | .Name .. => true | _ => false
theorem nm_ok {e : Expr} (h : isNm e = true) (o r : Value) : letTemporaryGo e o r = pure () := by
 cases e <;> first | rfl | cases h
noncomputable def slLOf (c : ZC) : Option (Addr × Addr) := onSu c.md none fun v s o i => onRef o none fun l => onRef i none fun a => cond (isNm v && isSlN s) (some (l, a)) none
noncomputable def newOwn (o : Obj) (c : ZC) : ZC := c.rec fun σ k _ => ⟨⟨σ.m, σ.own ++ [(σ.sz, o)], σ.led, σ.tk, σ.sz + 1⟩, k, .d (.v (.ref σ.sz))⟩
theorem z_slL (n j : Nat) {l D : Addr} {vs : List Value} {ns : List Int} {y : Int} {t2 : Tok} (hI : G.g.IsList l vs.toArray) (hi : IntsAre vs ns) (hy : 0 ≤ y) (hz : vs.length ≤ 16777216) (ho : (zgo N w.params n c).σ.own[j]? = some (D, slO .none (.int y t2))) (hv : slLOf (zgo N w.params n c) = some (l, D))
  (h : ∀ ws, IntsAre ws (ns.take y.toNat) → let c' := newOwn (PySem.W.listOf ws.toArray 0) (zgo N w.params n c); ZT G c') : ZT G c := by
 refine ZT.go n ?_
 generalize zgo N w.params n c = c1 at *
 obtain ⟨σ, k, md⟩ := c1
 obtain ⟨v1, sl, o, i, rfl, e1⟩ := onSu_ok hv none_ne
 obtain ⟨l', rfl, e2⟩ := onRef_ok e1 none_ne
 obtain ⟨D', rfl, e3⟩ := onRef_ok e2 none_ne
 obtain ⟨e4, e5⟩ := cond_ok e3 none_ne
 obtain ⟨rfl, rfl⟩ := Prod.mk.inj (Option.some.inj e5)
 rw [Bool.and_eq_true] at e4
 intro s a
 have hl : s.heap.IsList l' vs.toArray := let ⟨o, e, r⟩ := hI; ⟨o, a.fr.keep _ _ e, r⟩
 have q := h _ (kmk_upto (vs := vs) hi hy)
 rw [Array.toArray_toList] at q
 refine subscriptTail_ops hl.typeIs list_getitem_lookup (wpAny_getItem_list_slice hl ⟨_, (a.nw _ (List.mem_append_left _ (List.mem_of_getElem? ho))).1, rfl, rfl⟩ .none (.int _ _) .none (by simp) ⟨_, a.push rfl, ?_⟩ (by rw [List.size_toArray]; exact hz)) (slN_ok e4.2 _ _) (fun r => nm_ok e4.1 _ r)
 rw [a.sz]
 exact q.s
noncomputable def mnOf (c : ZC) : Option (Int × Int) := onPc c.md none fun f vs => onBi f none fun id => cond (id == "min") (two vs none fun a b => onInt a none fun x => onInt b none fun y => some (x, y)) none
theorem z_min (n : Nat) {x y : Int} (hv : mnOf (zgo N w.params n c) = some (x, y)) (h : ∀ t tk sz, let c' := zresE (zgo N w.params n c) (.int (if y < x then y else x) t) tk sz; ZT G c') : ZT G c := by
 refine ZT.go n ?_
 generalize zgo N w.params n c = c1 at *
 obtain ⟨σ, k, md⟩ := c1
 obtain ⟨f, vs, rfl, e1⟩ := onPc_ok hv none_ne
 obtain ⟨id, rfl, e2⟩ := onBi_ok e1 none_ne
 obtain ⟨hid, e3⟩ := cond_ok e2 none_ne
 obtain rfl := eq_of_beq hid
 obtain ⟨a0, b0, rfl, e4⟩ := two_ok e3 none_ne
 obtain ⟨x', t, rfl, e5⟩ := onInt_ok e4 none_ne
 obtain ⟨y', u, rfl, e6⟩ := onInt_ok e5 none_ne
 obtain ⟨rfl, rfl⟩ := Prod.mk.inj (Option.some.inj e6)
 intro s a
 exact min_two_N G.hr.hd a.fr a.nwH fun h' tk F' N' => ⟨⟨σ.m, σ.own, σ.led, tk, h'.objs.size⟩, a.heapT rfl rfl F' (fun p hp => N' p (List.mem_append_left _ hp)) a.nd a.off a.sub (fun p hp => N' p (List.mem_append_right _ hp)) a.hof, (h _ tk h'.objs.size).s⟩
noncomputable def lrvOf (c : ZC) : Option Addr := onPc c.md none fun f vs => onBi f none fun id => cond (id == "list.reverse") (onCons vs none fun a r => onNil r none (onRef a none some)) none
noncomputable def lrPut (j : Nat) (p : Addr × Obj) (c : ZC) : ZC := c.rec fun σ k _ => ⟨⟨σ.m, σ.own.set j p, σ.led, σ.tk, σ.sz⟩, k, .d (.v .none)⟩
theorem z_lrev (n j : Nat) {D : Addr} {vs : List Value} {k : Nat} (hz : vs.length ≤ 16777216) (ho : (zgo N w.params n c).σ.own[j]? = some (D, PySem.W.listOf vs.toArray k)) (hv : lrvOf (zgo N w.params n c) = some D) (h : let c' := lrPut j (D, PySem.W.listOf vs.reverse.toArray k) (zgo N w.params n c); ZT G c') : ZT G c := by
 refine ZT.go n ?_
 generalize zgo N w.params n c = c1 at *
 obtain ⟨σ, kk, md⟩ := c1
 obtain ⟨f, vs', rfl, e1⟩ := onPc_ok hv none_ne
 obtain ⟨id, rfl, e2⟩ := onBi_ok e1 none_ne
 obtain ⟨hid, e3⟩ := cond_ok e2 none_ne
 obtain rfl := eq_of_beq hid
 obtain ⟨a0, r, rfl, e4⟩ := onCons_ok e3 none_ne
 obtain ⟨rfl, e5⟩ := onNil_ok e4 none_ne
 obtain ⟨D', rfl, e6⟩ := onRef_ok e5 none_ne
 cases e6
 intro s a
 have z := a.nw _ (List.mem_append_left _ (List.mem_of_getElem? ho))
 have q := PySem.IsL.update z.1 (fun x => x.reverse)
 rw [if_pos (by simp)] at q
 exact call_meets PySem.F.slot_list_reverse ⟨_, z.1, rfl⟩ PySem.F.entry_list_reverse (PySem.F.args_list_reverse_1 _) (PySem.AutoSeq1.list_reverse_list_0 _ vs.toArray k (by rw [List.size_toArray]; exact hz)) ⟨z.1, ⟨_, own_set a ho (Heap.SameBut.update ..) (by simpa using q), h.s⟩⟩
end
end
section
set_option tactic.hygienic false
noncomputable def isDigit (c : Int) : Bool := decide (48 ≤ c) && decide (c ≤ 57)
noncomputable def isSmall (c : Int) : Bool := decide (97 ≤ c) && decide (c ≤ 122)
noncomputable def isCap (c : Int) : Bool := decide (65 ≤ c) && decide (c ≤ 90)
noncomputable def isAlnum (c : Int) : Bool := isSmall c || isCap c || isDigit c || c == 95
noncomputable def isWord (c : Nat) : Bool := isAlnum c || decide ((128 : Int) ≤ c)
noncomputable def symLit : Str := "+-*/\\^<>=~:.?@#&$"
noncomputable def isSym (c : Int) : Bool := decide (0 ≤ c) && (decide (c < 128) && !(Builtin.Str.occurrences symLit ⟨#[c.toNat]⟩ 0 symLit.length 1).isEmpty)
section
variable {w : World} {led : List (Addr × Obj)}
theorem is_digit_spec {c : Int} {tc : Tok} : Does w 140 1 [.int c tc] led (fun r l => r = .bool (isDigit c) ∧ l = led) := by
 refine z_in [("code", .int c tc)] (R := led) (fun p hp => hp) ∅ ∅ ∅ ?_
 intro Z hZ G tk sz hP hR z
 refine z_split 11 (decide (48 ≤ c)) ∅ (fun h => ?_) (fun h => ?_)
 ·intro z; exact z_end 99 (v := .bool (decide (c ≤ 57))) hP ∅ ∅ (hZ _ _ ⟨by rw [isDigit, h]; rfl, rfl⟩)
 ·intro z; exact z_end 99 (v := .bool (decide (48 ≤ c))) hP ∅ ∅ (hZ _ _ ⟨by rw [isDigit, h]; rfl, rfl⟩)
theorem is_small_spec {c : Int} {tc : Tok} : Does w 147 1 [.int c tc] led (fun r l => r = .bool (isSmall c) ∧ l = led) := by
 refine z_in [("code", .int c tc)] (R := led) (fun p hp => hp) ∅ ∅ ∅ ?_
 intro Z hZ G tk sz hP hR z
 refine z_split 11 (decide (97 ≤ c)) ∅ (fun h => ?_) (fun h => ?_)
 ·intro z; exact z_end 99 (v := .bool (decide (c ≤ 122))) hP ∅ ∅ (hZ _ _ ⟨by rw [isSmall, h]; rfl, rfl⟩)
 ·intro z; exact z_end 99 (v := .bool (decide (97 ≤ c))) hP ∅ ∅ (hZ _ _ ⟨by rw [isSmall, h]; rfl, rfl⟩)
theorem is_capital_spec {c : Int} {tc : Tok} : Does w 154 1 [.int c tc] led (fun r l => r = .bool (isCap c) ∧ l = led) := by
 refine z_in [("code", .int c tc)] (R := led) (fun p hp => hp) ∅ ∅ ∅ ?_
 intro Z hZ G tk sz hP hR z
 refine z_split 11 (decide (65 ≤ c)) ∅ (fun h => ?_) (fun h => ?_)
 ·intro z; exact z_end 99 (v := .bool (decide (c ≤ 90))) hP ∅ ∅ (hZ _ _ ⟨by rw [isCap, h]; rfl, rfl⟩)
 ·intro z; exact z_end 99 (v := .bool (decide (65 ≤ c))) hP ∅ ∅ (hZ _ _ ⟨by rw [isCap, h]; rfl, rfl⟩)
theorem is_alnum_spec {c : Int} {tc : Tok} : Does w 161 2 [.int c tc] led (fun r l => r = .bool (isAlnum c) ∧ l = led) := by
 refine z_in [("code", .int c tc)] (R := led) (fun p hp => hp) ∅ ∅ ∅ ?_
 intro Z hZ G tk sz hP hR z
 refine z_callE 99 (cl := led) (v := fun _ => .bool (isSmall c)) (fun _ => is_small_spec (tc := tc)) (by decide) ∅ ∅ ?_; intro tk2 sz2 z
 (refine z_split 2 (isSmall c) ∅ (fun h1 => ?_) (fun h1 => ?_))
 ·intro z; exact z_end 99 (v := .bool (isSmall c)) hP ∅ ∅ (hZ _ _ ⟨by rw [isAlnum, h1]; rfl, rfl⟩)
 intro z
 refine z_callE 99 (cl := led) (v := fun _ => .bool (isCap c)) (fun _ => is_capital_spec (tc := tc)) (by decide) ∅ ∅ ?_; intro tk2 sz2 z
 (refine z_split 2 (isCap c) ∅ (fun h2 => ?_) (fun h2 => ?_))
 ·intro z; exact z_end 99 (v := .bool (isCap c)) hP ∅ ∅ (hZ _ _ ⟨by rw [isAlnum, h1, h2]; rfl, rfl⟩)
 intro z
 refine z_callE 99 (cl := led) (v := fun _ => .bool (isDigit c)) (fun _ => is_digit_spec (tc := tc)) (by decide) ∅ ∅ ?_; intro tk2 sz2 z
 (refine z_split 2 (isDigit c) ∅ (fun h3 => ?_) (fun h3 => ?_))
 ·intro z; exact z_end 99 (v := .bool (isDigit c)) hP ∅ ∅ (hZ _ _ ⟨by rw [isAlnum, h1, h2, h3]; rfl, rfl⟩)
 intro z
 exact z_end 99 (v := .bool (c == 95)) hP ∅ ∅ (hZ _ _ ⟨by rw [isAlnum, h1, h2, h3]; rfl, rfl⟩)
theorem is_word_spec {c : Nat} {t : Tok} : Does w 327 3 [.str ⟨#[c]⟩ t] led (fun r l => r = .bool (isWord c) ∧ l = led) := by
 refine z_in [("char", .str ⟨#[c]⟩ t)] (R := led) (fun p hp => hp) ∅ ∅ ∅ ?_
 intro Z hZ G tk sz hP hR z
 refine z_callE 99 (cl := led) (v := fun _ => .bool (isAlnum c)) (fun t => is_alnum_spec (tc := t 0)) (by decide) ∅ ∅ ?_; intro tk2 sz2 z
 refine z_split 2 (isAlnum c) ∅ (fun h1 => ?_) (fun h1 => ?_)
 ·intro z; exact z_endV 99 (v' := .bool (isAlnum c)) (by rw [isWord, h1]; rfl) hP hZ ∅ ∅
 ·intro z; exact z_endV 99 (v' := .bool (decide ((128 : Int) ≤ c))) (by rw [isWord, h1]; rfl) hP hZ ∅ ∅
theorem is_symbol_spec {c : Int} {tc : Tok} : Does w 168 1 [.int c tc] led (fun r l => r = .bool (isSym c) ∧ l = led) := by
 refine z_in [("code", .int c tc)] (R := led) (fun p hp => hp) ∅ ∅ ∅ ?_
 intro Z hZ G tk sz hP hR z
 refine z_split 11 (decide (0 ≤ c)) ∅ (fun h1 => ?_) (fun h1 => ?_)
 ·intro z
  refine z_split 10 (decide (c < 128)) ∅ (fun h2 => ?_) (fun h2 => ?_)
  ·intro z
   have q1 := of_decide_eq_true h1
   have q2 := of_decide_eq_true h2
   refine z_op 99 (md := fun t => .pc (.builtin "chr") [.int c (t 0)]) (fun t => .str ⟨#[c.toNat]⟩ t) (fun _ _ _ _ q => chr_of_range q1 (by lia) (q _ _)) ∅ ∅ ?_; intro t tk z
   refine z_op 99 (md := fun t => .co .In (.str ⟨#[c.toNat]⟩ (t 0)) (.str symLit (t 1))) (fun _ => .bool (!(Builtin.Str.occurrences symLit ⟨#[c.toNat]⟩ 0 symLit.length 1).isEmpty)) (fun _ _ _ _ q => in_str (q 0 _)) ∅ ∅ ?_; intro t tk z
   exact z_endV 99 (v' := .bool (!(Builtin.Str.occurrences symLit ⟨#[c.toNat]⟩ 0 symLit.length 1).isEmpty)) (by rw [isSym, h1, h2]; rfl) hP hZ ∅ ∅
  ·intro z; exact z_endV 99 (v' := .bool (decide (c < 128))) (by rw [isSym, h1, h2]; rfl) hP hZ ∅ ∅
 ·intro z; exact z_endV 99 (v' := .bool (decide (0 ≤ c))) (by rw [isSym, h1]; rfl) hP hZ ∅ ∅
end
end
section
set_option tactic.hygienic false
section
variable {w : World} {N : List (Str × NameKind)} {d : Nat} {G : ZG w N d} {c : ZC}
theorem item_at {x : Str} {c : Nat} (h : x.cps[0]? = some c) : Txt.item x 0 = ⟨#[c]⟩ := by
 have hl : 0 < x.cps.size := by
  by_cases q : 0 < x.cps.size
  ·exact q
  ·rw [Array.getElem?_eq_none (by lia)] at h; cases h
 have e : seqIndex? 0 x.length = some 0 := by
  have : (0 : Int) < (x.cps.size : Nat) := by lia
  show (if (decide ((0 : Int) ≤ 0) && decide ((0 : Int) < (x.cps.size : Nat))) = true then some (0 : Int).toNat else none) = some 0
  rw [decide_eq_true this]; rfl
 unfold Txt.item Txt.charAt
 rw [e]
 show (⟨#[(x.cps[0]?).getD 0]⟩ : Str) = _
 rw [h]; rfl
theorem z_item0 (n : Nat) {x : Str} {c0 : Nat} (hc : x.cps[0]? = some c0) (hv : siOf (zgo N w.params n c) = some (x, 0)) (h : let c' := zputK (zgo N w.params n c) 1 (fun t => .str ⟨#[c0]⟩ t); ZT G c') : ZT G c := by
 have hl : 0 < x.length := by
  by_cases q : 0 < x.cps.size
  ·exact q
  ·rw [Array.getElem?_eq_none (by lia)] at hc; cases hc
 exact z_itemS n (x := x) (i := 0) (by decide) (by lia) (by lia) hv (item_at hc ▸ h)
end
theorem head_at {x : Str} (h : (x == ("" : Str)) = false) : ∃ c : Nat, x.cps[0]? = some c := by
 cases q : x.cps[0]? with
 | some c => exact ⟨c, rfl⟩
 | none =>
  have : x.cps.size = 0 := by rw [Array.getElem?_eq_none_iff] at q; lia
  have e : x = ("" : Str) := Str.ext' (by rw [Array.eq_empty_of_size_eq_zero this]; rfl)
  rw [e] at h; exact absurd h (by decide)
theorem all_more {x : Array Nat} {p : Nat → Bool} {i c : Nat} (h : ∀ k, k < i → ∀ c, x[k]? = some c → p c = true) (hc : x[i]? = some c) (hp : p c = true) : ∀ k, k < i + 1 → ∀ c, x[k]? = some c → p c = true := by
 intro k hk c' hc'
 by_cases e : k = i
 ·subst e; rw [hc] at hc'; cases hc'; exact hp
 ·exact h k (by lia) c' hc'
noncomputable def alnumName (x : Str) : Bool := !(x == "") && (isSmall ((Txt.item x 0).cps.getD 0 0 : Nat) && x.cps.toList.all fun c => isAlnum (c : Nat))
noncomputable def symName (x : Str) : Bool := !(x == "") && x.cps.toList.all fun c => isSym (c : Nat)
theorem all_of_places {x : Array Nat} {p : Nat → Bool} (h : ∀ k, k < x.size → ∀ c, x[k]? = some c → p c = true) : x.toList.all p = true := by
 rw [List.all_eq_true]
 intro c hc
 obtain ⟨k, hk, rfl⟩ := List.getElem_of_mem hc
 rw [Array.length_toList] at hk
 exact h k hk _ (by simp [hk])
theorem not_all_of_place {x : Array Nat} {p : Nat → Bool} {i c : Nat} (h : x[i]? = some c) (hp : p c = false) : x.toList.all p = false := by
 rw [List.all_eq_false]
 exact ⟨c, by rw [← Array.getElem?_toList] at h; exact List.mem_of_getElem? h, by simp [hp]⟩
section
variable {w : World} {led : List (Addr × Obj)}
theorem is_alnum_name_spec {x : Str} {t : Tok} (hx : x.length ≤ 1000) : Does w 182 3 [.str x t] led (fun r l => r = .bool (alnumName x) ∧ l = led) := by
 refine z_in [("text", .str x t)] (R := led) (fun p hp => hp) ∅ ∅ ∅ ?_
 intro Z hZ G tk sz hP hR z
 (refine z_split 12 (x == ("" : Str)) ∅ (fun h1 => ?_) (fun h1 => ?_))
 ·intro z; exact z_endV 99 (v' := .bool false) (by rw [alnumName, h1]; rfl) hP hZ ∅ ∅
 intro z
 obtain ⟨c0, hc0⟩ := head_at h1
 refine z_item0 99 hc0 ∅ ?_; intro z
 refine z_callE 99 (cl := led) (v := fun _ => .bool (isSmall c0)) (fun t => is_small_spec (tc := t 0)) (by decide) ∅ ∅ ?_; intro tk2 sz2 z
 (refine z_split 3 (!isSmall c0) ∅ (fun h2 => ?_) (fun h2 => ?_))
 ·intro z; exact z_endV 99 (v' := .bool false) (by have h2 := (Bool.not_eq_true' _).mp h2; rw [alnumName, item_at hc0]; show _ = Value.bool (_ && (isSmall (c0 : Nat) && _)); rw [h2, Bool.false_and, Bool.and_false]) hP hZ ∅ ∅
 intro z
 have h2 := (Bool.not_eq_false' _).mp h2
 refine z_for 99 (iters_str (y := x) (t := t) (R' := led)) (fun i ns own l => ns = [] ∧ own = [] ∧ l = led ∧ ∀ k, k < i → ∀ c, x.cps[k]? = some c → isAlnum (c : Nat) = true) (ns := []) (own := []) (led := led) ∅ ∅ ∅ ∅ (fun p hp => hR ▸ hp) (fun p hp => hp) ⟨rfl, rfl, rfl, fun k hk => absurd hk (Nat.not_lt_zero _)⟩ ?_ ?_
 ·rintro i _ _ m _ l tk sz hi ⟨c, tc, hc, rfl⟩ ⟨rfl, rfl, e9, hJ⟩ G' hR' hP' z; subst e9
  refine z_callE 99 (cl := l) (v := fun _ => .bool (isAlnum c)) (fun t => is_alnum_spec (tc := t 0)) (by decide) ∅ ∅ ?_; intro tk2 sz2 z
  (refine z_split 3 (!isAlnum c) ∅ (fun h3 => ?_) (fun h3 => ?_))
  rotate_left
  ·intro z; exact z_turn 99 hP' [] (own := []) (led := l) ∅ rfl ∅ ∅ ⟨rfl, rfl, rfl, all_more hJ hc ((Bool.not_eq_false' _).mp h3)⟩
  ·intro z
   refine z_out 99 hP' ∅ ?_; intro z
   exact z_endV 99 (v' := .bool false) (by rw [alnumName, not_all_of_place (p := fun c => isAlnum (c : Nat)) hc ((Bool.not_eq_true' _).mp h3)]; simp only [Bool.and_false]) hP hZ ∅ ∅
 ·rintro _ m _ l tk sz ⟨rfl, rfl, e9, hJ⟩ z; subst e9
  exact z_endV 99 (v' := .bool true) (by rw [alnumName, h1, all_of_places (p := fun c => isAlnum (c : Nat)) hJ, item_at hc0]; show _ = Value.bool (!false && (isSmall (c0 : Nat) && true)); rw [h2]; rfl) hP hZ ∅ ∅
theorem is_symbol_name_spec {x : Str} {t : Tok} (hx : x.length ≤ 1000) : Does w 189 3 [.str x t] led (fun r l => r = .bool (symName x) ∧ l = led) := by
 refine z_in [("text", .str x t)] (R := led) (fun p hp => hp) ∅ ∅ ∅ ?_
 intro Z hZ G tk sz hP hR z
 (refine z_split 10 (x == ("" : Str)) ∅ (fun h1 => ?_) (fun h1 => ?_))
 ·intro z; exact z_endV 99 (v' := .bool false) (by rw [symName, h1]; rfl) hP hZ ∅ ∅
 intro z
 refine z_for 99 (iters_str (y := x) (t := t) (R' := led)) (fun i ns own l => ns = [] ∧ own = [] ∧ l = led ∧ ∀ k, k < i → ∀ c, x.cps[k]? = some c → isSym (c : Nat) = true) (ns := []) (own := []) (led := led) ∅ ∅ ∅ ∅ (fun p hp => hR ▸ hp) (fun p hp => hp) ⟨rfl, rfl, rfl, fun k hk => absurd hk (Nat.not_lt_zero _)⟩ ?_ ?_
 ·rintro i _ _ m _ l tk sz hi ⟨c, tc, hc, rfl⟩ ⟨rfl, rfl, e9, hJ⟩ G' hR' hP' z; subst e9
  refine z_callE 99 (cl := l) (v := fun _ => .bool (isSym c)) (fun t => is_symbol_spec (tc := t 0)) (by decide) ∅ ∅ ?_; intro tk2 sz2 z
  (refine z_split 3 (!isSym c) ∅ (fun h3 => ?_) (fun h3 => ?_))
  rotate_left
  ·intro z; exact z_turn 99 hP' [] (own := []) (led := l) ∅ rfl ∅ ∅ ⟨rfl, rfl, rfl, all_more hJ hc ((Bool.not_eq_false' _).mp h3)⟩
  ·intro z
   refine z_out 99 hP' ∅ ?_; intro z
   exact z_endV 99 (v' := .bool false) (by rw [symName, not_all_of_place (p := fun c => isSym (c : Nat)) hc ((Bool.not_eq_true' _).mp h3)]; simp only [Bool.and_false]) hP hZ ∅ ∅
 ·rintro _ m _ l tk sz ⟨rfl, rfl, e9, hJ⟩ z; subst e9
  exact z_endV 99 (v' := .bool true) (by rw [symName, h1, all_of_places (p := fun c => isSym (c : Nat)) hJ]; rfl) hP hZ ∅ ∅
end
end
section
set_option tactic.hygienic false
section
variable {w : World} {led : List (Addr × Obj)}
noncomputable def isPlain (x : Str) : Bool := if ([Str.ofString "[]", Str.ofString "{}", Str.ofString "!", Str.ofString ";"].any fun y => y == x) = true then true else
 if alnumName x = true then true else symName x && (x != Str.ofString "." && !Txt.startswith x (Str.ofString "/*"))
noncomputable def isTight (x : Str) : Bool := x == Str.ofString ";" || (x == Str.ofString "!" || symName x)
theorem is_plain_name_spec {x : Str} {t : Tok} (hx : x.length ≤ 1000) : Does w 196 4 [.str x t] led (fun r l => r = .bool (isPlain x) ∧ l = led) := by
 refine z_in [("text", .str x t)] (R := led) (fun p hp => hp) ∅ ∅ ∅ ?_
 intro Z hZ G tk sz hP hR z
 refine z_inT 99 0 [Str.ofString "[]", Str.ofString "{}", Str.ofString "!", Str.ofString ";"] (x := x) ∅ ∅ ?_; intro z
 (refine z_split 2 ([Str.ofString "[]", Str.ofString "{}", Str.ofString "!", Str.ofString ";"].any fun y => y == x) ∅ (fun h1 => ?_) (fun h1 => ?_))
 ·intro z; exact z_endV 99 (v' := .bool true) (by rw [isPlain, h1]; rfl) hP hZ ∅ ∅
 intro z
 refine z_callE 99 (cl := led) (v := fun _ => .bool (alnumName x)) (fun t => is_alnum_name_spec (t := t 0) hx) (by decide) ∅ ∅ ?_; intro tk2 sz2 z
 (refine z_split 2 (alnumName x) ∅ (fun h2 => ?_) (fun h2 => ?_))
 ·intro z; exact z_endV 99 (v' := .bool true) (by rw [isPlain, h1, h2]; rfl) hP hZ ∅ ∅
 intro z
 have e0 : isPlain x = (symName x && (x != Str.ofString "." && !Txt.startswith x (Str.ofString "/*"))) := by rw [isPlain, h1, h2]; rfl
 refine z_callE 99 (cl := led) (v := fun _ => .bool (symName x)) (fun t => is_symbol_name_spec (t := t 0) hx) (by decide) ∅ ∅ ?_; intro tk2 sz2 z
 (refine z_split 2 (symName x) ∅ (fun h3 => ?_) (fun h3 => ?_))
 rotate_left
 ·intro z; exact z_endV 99 (v' := .bool (symName x)) (by rw [e0, h3]; rfl) hP hZ ∅ ∅
 intro z
 (refine z_split 10 (!(x == Str.ofString ".")) ∅ (fun h4 => ?_) (fun h4 => ?_))
 rotate_left
 ·intro z; exact z_endV 99 (v' := .bool (!(x == Str.ofString "."))) (by rw [e0, h3, bne, h4]; rfl) hP hZ ∅ ∅
 intro z
 refine z_swM 99 ∅ ?_; intro z
 refine z_op 99 (md := fun t => .pc (.builtin "str.startswith") [.str x (t 0), .str "/*" (t 1)]) (fun _ => .bool (Txt.startswith x "/*")) (fun _ _ _ _ q => SC.startswith (q 0 _)) ∅ ∅ ?_; intro t tk z
 refine z_op 99 (md := fun _ => .uo .Not (.bool (Txt.startswith x "/*"))) (fun _ => .bool (!Txt.startswith x "/*")) (fun _ _ _ _ q => op_not q) ∅ ∅ ?_; intro t tk z
 exact z_endV 99 (v' := .bool (!Txt.startswith x "/*")) (by rw [e0, h3, bne, h4]; rfl) hP hZ ∅ ∅
theorem is_tight_spec {x : Str} {t : Tok} (hx : x.length ≤ 1000) : Does w 334 4 [.str x t] led (fun r l => r = .bool (isTight x) ∧ l = led) := by
 refine z_in [("text", .str x t)] (R := led) (fun p hp => hp) ∅ ∅ ∅ ?_
 intro Z hZ G tk sz hP hR z
 (refine z_split 11 (x == Str.ofString ";") ∅ (fun h1 => ?_) (fun h1 => ?_))
 ·intro z; exact z_endV 99 (v' := .bool (x == Str.ofString ";")) (by rw [isTight, h1]; rfl) hP hZ ∅ ∅
 intro z
 (refine z_split 10 (x == Str.ofString "!") ∅ (fun h2 => ?_) (fun h2 => ?_))
 ·intro z; exact z_endV 99 (v' := .bool (x == Str.ofString "!")) (by rw [isTight, h1, h2]; rfl) hP hZ ∅ ∅
 intro z
 refine z_callE 99 (cl := led) (v := fun _ => .bool (symName x)) (fun t => is_symbol_name_spec (t := t 0) hx) (by decide) ∅ ∅ ?_; intro tk2 sz2 z
 exact z_endV 99 (v' := .bool (symName x)) (by rw [isTight, h1, h2]; rfl) hP hZ ∅ ∅
noncomputable def calm (c : Int) : Prop := 32 ≤ c ∧ c < 127 ∧ c ≠ 39 ∧ c ≠ 92
theorem escaped_spec {c : Int} {t : Tok} (hc : calm c) : Does w 298 2 [.int c t] led (fun r l => (∃ t, r = .str ⟨#[c.toNat]⟩ t) ∧ l = led) := by
 obtain ⟨c1, c2, c3, c4⟩ := hc
 refine z_in [("code", .int c t)] (R := led) (fun p hp => hp) ∅ ∅ ∅ ?_
 intro Z hZ G tk sz hP hR z
 (refine z_br 12 false (beq_false_of_ne c3) ∅ ?_; intro z)
 (refine z_br 10 false (beq_false_of_ne c4) ∅ ?_; intro z)
 (refine z_br 17 true (x := decide (7 ≤ c)) (decide_eq_true (by lia)) ∅ ?_; intro z)
 (refine z_br 10 false (x := decide (c ≤ 13)) (decide_eq_false (by lia)) ∅ ?_; intro z)
 (refine z_br 16 false (x := decide (c < 32)) (decide_eq_false (by lia)) ∅ ?_; intro z)
 (refine z_br 10 false (x := (c == 127)) (beq_false_of_ne (by lia)) ∅ ?_; intro z)
 refine z_op 99 (md := fun t => .pc (.builtin "chr") [.int c (t 0)]) (fun t => .str ⟨#[c.toNat]⟩ t) (fun _ _ _ _ q => chr_of_range (by lia) (by lia) (q _ _)) ∅ ∅ ?_; intro t tk z
 exact z_endT 99 t hP hZ ∅ ∅
end
end
section
set_option tactic.hygienic false
section
variable {w : World} {led : List (Addr × Obj)}
noncomputable def numText (c : Int) : Str := if c < 0 then Txt.join "" [Str.ofString "-", Str.ofString (toString (if c < 0 then -c else c))] else Txt.join "" [Str.ofString (toString (if c < 0 then -c else c))]
theorem number_text_spec {c : Int} {t : Tok} (h1 : -1000 ≤ c) (h2 : c ≤ 1000) : Does w 175 2 [.int c t] led (fun r l => (∃ t, r = .str (numText c) t) ∧ l = led) := by
 have hd : ∀ d : Int, d.natAbs < 10 ^ 10 → (Str.ofString (toString d)).length ≤ 11 := fun d h => by rw [PySem.ofString_length]; exact int_text_length_le10 (by decide) h
 have hd2 := hd (if c < 0 then -c else c) (by split <;> lia)
 have hb : (if c < 0 then -c else c).natAbs ≤ 1000 := by split <;> lia
 have ht : numText c = if c < 0 then Txt.join "" [Str.ofString "-", Str.ofString (toString (if c < 0 then -c else c))] else Txt.join "" [Str.ofString (toString (if c < 0 then -c else c))] := rfl
 have habs : ∀ {A : Around} {s : Shared} {Q : Value → Shared → Prop} {t : Tok}, (∀ u tk, Q (.int (if c < 0 then -c else c) u) { s with toks := tk }) → wpAny (model pw w) A (PySem.call (.builtin "abs") [.int c t]) Q (fun _ _ => False) s := fun h => call_abs_int h
 generalize (if c < 0 then -c else c) = a at hd2 hb ht habs
 have hw : ¬ ((10 : Int) ^ Int.toNat 18 ≤ a) := by rw [show (10 : Int) ^ Int.toNat 18 = 1000000000000000000 from by decide]; lia
 have e1 : (Str.ofString "-").length = 1 := by decide
 refine z_in [("value", .int c t)] (R := led) (fun p hp => hp) ∅ ∅ ∅ ?_
 intro Z hZ G tk s0 hP hR z
 refine z_op 99 (md := fun t => .pc (.builtin "abs") [.int c (t 0)]) (fun t => .int a t) (fun _ _ _ _ q => habs q) ∅ ∅ ?_; intro t1 tk1 z
 refine z_while 99 (R' := led) (fun _ ns ow l => ns = ([("value", .int c t), ("rest", .int a t1), ("pieces", .ref s0)] : List (Str × Value)) ∧ ow = [(s0, PySem.W.listOf #[] 0)] ∧ l = led) 0 (ns := [("value", .int c t), ("rest", .int a t1), ("pieces", .ref s0)]) ∅ ∅ ∅ ∅ (fun p hp => hR ▸ hp) (fun p hp => hp) ⟨rfl, rfl, rfl⟩ ?_
 rintro n _ m _ l tk2 sz1 ⟨rfl, rfl, e9⟩ G' hR' hP' z
 subst e9
 refine z_op 99 (md := fun t => .bo .Pow (.int 10 (t 0)) (.int 18 (t 1))) (fun t => .int ((10 : Int) ^ Int.toNat 18) t) (fun _ _ _ _ q => pow_int_small (by decide) (by decide) (by decide) (q _ _)) ∅ ∅ ?_; intro t3 tk3 z
 (refine z_br 4 false (x := decide ((10 : Int) ^ Int.toNat 18 ≤ a)) (decide_eq_false hw) ∅ ?_; intro z)
 refine z_out 99 hP' ∅ ?_; intro z
 refine z_lm 99 0 PySem.F.slot_list_append PySem.F.type_list_append ∅ ?_; intro z
 refine z_op 99 (md := fun t => .pc (.type "str") [.int a (t 0)]) (fun t => .str (Str.ofString (toString a)) t) (fun _ _ _ _ q => P.str_of_int (Nat.lt_of_le_of_lt (Nat.log2_le_self _) (by lia)) (q _ _)) ∅ ∅ ?_; intro t8 tk8 z
 refine z_append 99 0 ∅ (Nat.le_of_ble_eq_true ∅) ?_; intro z
 (refine z_split 12 (decide (c < 0)) ∅ (fun h0 => ?_) (fun h0 => ?_))
 ·intro z
  refine z_lm 99 0 PySem.F.slot_list_append PySem.F.type_list_append ∅ ?_; intro z
  refine z_append 99 0 ∅ (Nat.le_of_ble_eq_true ∅) ?_; intro z
  refine z_strM 99 ∅ ?_; intro z
  refine z_rev 99 (l := s0) (vs := strValues [(Str.ofString (toString a), t8), (Str.ofString "-", tk8 + 1)]) (k := 2) (zO 0 ∅) ∅ ?_; intro z
  refine z_joinRev 99 (x := "") (l := s0) (I := sz1) (ys := [(Str.ofString (toString a), t8), (Str.ofString "-", tk8 + 1)]) (texts := [Str.ofString (toString a), Str.ofString "-"]) (k0 := 2 - 1) (n0 := 2) (own := [(s0, PySem.W.listOf (strValues [(Str.ofString (toString a), t8), (Str.ofString "-", tk8 + 1)]).toArray 2)]) ∅ (.head _) (by rfl) rfl (joinOk_of_weight (by simp only [List.reverse_cons, List.reverse_nil, List.nil_append, List.cons_append, List.map_cons, List.map_nil, List.sum_cons, List.sum_nil, List.length_cons, List.length_nil]; lia) (by decide)) (Nat.le_of_ble_eq_true ∅) ∅ ?_; intro t' tk9 sz9 z
  exact z_end2 99 (v := .str (Txt.join "" ([Str.ofString (toString a), Str.ofString "-"]).reverse) t') (own := [(s0, PySem.W.listOf (strValues [(Str.ofString (toString a), t8), (Str.ofString "-", tk8 + 1)]).toArray 2)]) (led := l) (l := l) hP ∅ ∅ ∅ (fun p hp => List.mem_append_right _ hp) (hZ _ _ ⟨⟨t', by rw [ht, if_pos (of_decide_eq_true h0)]; rfl⟩, rfl⟩)
 ·intro z
  refine z_strM 99 ∅ ?_; intro z
  refine z_rev 99 (l := s0) (vs := strValues [(Str.ofString (toString a), t8)]) (k := 1) (zO 0 ∅) ∅ ?_; intro z
  refine z_joinRev 99 (x := "") (l := s0) (I := sz1) (ys := [(Str.ofString (toString a), t8)]) (texts := [Str.ofString (toString a)]) (k0 := 1 - 1) (n0 := 1) (own := [(s0, PySem.W.listOf (strValues [(Str.ofString (toString a), t8)]).toArray 1)]) ∅ (.head _) (by rfl) rfl (joinOk_of_weight (by simp only [List.reverse_cons, List.reverse_nil, List.nil_append, List.cons_append, List.map_cons, List.map_nil, List.sum_cons, List.sum_nil, List.length_cons, List.length_nil]; lia) (by decide)) (Nat.le_of_ble_eq_true ∅) ∅ ?_; intro t' tk9 sz9 z
  exact z_end2 99 (v := .str (Txt.join "" ([Str.ofString (toString a)]).reverse) t') (own := [(s0, PySem.W.listOf (strValues [(Str.ofString (toString a), t8)]).toArray 1)]) (led := l) (l := l) hP ∅ ∅ ∅ (fun p hp => List.mem_append_right _ hp) (hZ _ _ ⟨⟨t', by rw [ht, if_neg (of_decide_eq_false h0)]; rfl⟩, rfl⟩)
end
end
section
set_option tactic.hygienic false
section
variable {w : World} {led : List (Addr × Obj)}
noncomputable def charsOf (x : Str) : List Str := x.cps.toList.map fun c => ⟨#[c]⟩
noncomputable def quoted (x : Str) : Str := Txt.join "" ([Str.ofString "'"] ++ charsOf x ++ [Str.ofString "'"])
theorem chars_len (l : List Nat) : ((l.map fun c => (⟨#[c]⟩ : Str)).map (·.length)).sum = l.length := by
 induction l with
 | nil => rfl
 | cons a r ih => rw [List.map_cons, List.map_cons, List.sum_cons, ih, List.length_cons]; simp [Str.length]; lia
theorem take_snoc0 {α : Type} {l : List α} {i : Nat} {x : α} (h : l[i]? = some x) : l.take (i + 1) = l.take i ++ [x] := by rw [List.take_succ, h]; rfl
theorem quoted_text_spec {x : Str} {t : Tok} (hx : x.length ≤ 100) (hc : ∀ c ∈ x.cps.toList, calm (c : Nat)) : Does w 305 3 [.str x t] led (fun r l => (∃ t, r = .str (quoted x) t) ∧ l = led) := by
 have hxs : x.cps.size ≤ 100 := hx
 refine z_in [("text", .str x t)] (R := led) (fun p hp => hp) ∅ ∅ ∅ ?_
 intro Z hZ G tk sz hP hR z
 refine z_for 99 (iters_str (y := x) (t := t) (R' := led)) (fun i ns ow l => ns = ([("parts", .ref sz)] : List (Str × Value)) ∧ l = led ∧ ∃ ys n, ys.map (·.1) = [Str.ofString "'"] ++ (charsOf x).take i ∧ ow = [(sz, PySem.W.listOf (strValues ys).toArray n)]) (ns := [("parts", .ref sz)]) (own := [(sz, PySem.W.listOf (strValues [(Str.ofString "'", tk)]).toArray 0)]) (led := led) ∅ ∅ ∅ ∅ (fun p hp => hR ▸ hp) (fun p hp => hp) ⟨rfl, rfl, _, _, by simp, rfl⟩ ?_ ?_
 ·rintro i _ _ m _ l tk1 sz1 hi ⟨c, tc, hci, rfl⟩ ⟨rfl, e9, ys, n, hys, rfl⟩ G' hR' hP' z
  subst e9
  have hlen : ys.length = 1 + i := by
   have := congrArg List.length hys
   simp [charsOf] at this; lia
  have hsz : (strValues ys).toArray.size ≤ sizeLine := Nat.le_trans (by simp [strValues, hlen]; lia) (show 200 ≤ sizeLine by decide)
  have hcc : calm ((c : Nat) : Int) := hc c (by rw [← Array.getElem?_toList] at hci; exact List.mem_of_getElem? hci)
  have e : (charsOf x)[i]? = some ⟨#[c]⟩ := by simp only [charsOf, List.getElem?_map, Array.getElem?_toList, hci, Option.map_some]
  refine z_lm 99 0 PySem.F.slot_list_append PySem.F.type_list_append ∅ ?_; intro z
  refine z_callT 99 (cl := l) (v := fun t => .str ⟨#[c]⟩ t) (fun t => escaped_spec (t := t 0) hcc) (by decide) ∅ ∅ ?_; intro t2 tk2 sz2 z
  refine z_append 99 0 ∅ (z_sz hsz ∅) ?_; intro z
  exact z_turn 99 hP' [("parts", .ref sz)] (own := [(sz, PySem.W.listOf ((strValues ys).toArray.push (.str ⟨#[c]⟩ t2)) (n + 1))]) (led := l) ∅ ∅ ∅ ∅ ⟨rfl, rfl, ys ++ [(⟨#[c]⟩, t2)], n + 1, by rw [take_snoc0 e, List.map_append, hys]; rfl, by rw [strs_push]⟩
 ·rintro _ m _ l tk1 sz1 ⟨rfl, e9, ys, n, hys, rfl⟩ z
  subst e9
  have hlen : ys.length = 1 + x.cps.size := by
   have := congrArg List.length hys
   simp [charsOf] at this; lia
  have hsz : (strValues ys).toArray.size ≤ sizeLine := Nat.le_trans (by simp [strValues, hlen]; lia) (show 200 ≤ sizeLine by decide)
  rw [List.take_of_length_le (show (charsOf x).length ≤ x.cps.size by simp [charsOf])] at hys
  have hys2 : (ys ++ [(Str.ofString "'", tk1)]).map (·.1) = [Str.ofString "'"] ++ charsOf x ++ [Str.ofString "'"] := by rw [List.map_append, hys]; rfl
  have hj : JoinOk (Str.ofString "") ([Str.ofString "'"] ++ charsOf x ++ [Str.ofString "'"]) = true := by
   refine joinOk_of_weight ?_ (by decide)
   have e1 : (Str.ofString "'").length = 1 := by decide
   simp only [List.map_append, List.map_cons, List.map_nil, List.sum_append, List.sum_cons, List.sum_nil, List.length_append, List.length_cons, List.length_nil, e1]
   have e4 : (charsOf x).length = x.cps.size := by simp [charsOf]
   have e5 : (List.map (fun x => x.length) (charsOf x)).sum = x.cps.size := by rw [← Array.length_toList]; exact chars_len x.cps.toList
   rw [e4, e5]; lia
  refine z_lm 99 0 PySem.F.slot_list_append PySem.F.type_list_append ∅ ?_; intro z
  refine z_append 99 0 ∅ (z_sz hsz ∅) ?_; intro z
  refine z_strM 99 ∅ ?_; intro z
  refine z_strjoin (x := "") (D := sz) (ys := ys ++ [(Str.ofString "'", tk1)]) (k := n + 1) 99 (strs_push ys (Str.ofString "'") tk1 ▸ zO 0 ∅) hys2 hj ∅ ?_; intro t' tk9 z
  exact z_endT 99 t' hP hZ ∅ ∅
end
noncomputable def Nice (x : Str) : Prop := x.length ≤ 100 ∧ ∀ c ∈ x.cps.toList, calm (c : Nat)
noncomputable def atomText (x : Str) (q : Bool) : Str := if q && !isPlain x then quoted x else x
end
section
set_option tactic.hygienic false
noncomputable def symEs (P : Params) (kt : Nat → Tok) (tA aD fA fD : Addr) : List DictEntry := [⟨PyData.keyHash P "texts", .str "texts" (kt 0), .ref tA⟩, ⟨PyData.keyHash P "atom_numbers", .str "atom_numbers" (kt 1), .ref aD⟩, ⟨PyData.keyHash P "functors", .str "functors" (kt 2), .ref fA⟩,
 ⟨PyData.keyHash P "functor_numbers", .str "functor_numbers" (kt 3), .ref fD⟩]
section
variable {w : World} {led : List (Addr × Obj)}
theorem text_spec {nA nD tA aD fA fD : Addr} {kt : Nat → Tok} {n n1 : Nat} {ts : List (Str × Tok)} {i : Int} {ti : Tok} {x : Str} {tx : Tok} (m1 : (nA, instObj 122 nD) ∈ led) (m2 : (nD, dictOf (symEs w.params kt tA aD fA fD) n) ∈ led)
  (m3 : (tA, PySem.W.listOf (strValues ts).toArray n1) ∈ led) (h0 : 0 ≤ i) (hhi : i < 10000) (hi : ts[i.toNat]? = some (x, tx)) : Does w 63 1 [.ref nA, .int i ti] led (fun r l => r = .str x tx ∧ l = led) := by
 have hi' : (strValues ts)[i.toNat]? = some (.str x tx) := by simp [strValues, hi]
 refine z_in [("self", .ref nA), ("number", .int i ti)] (R := led) (fun p hp => hp) ∅ ∅ ∅ ?_
 intro Z hZ G tk sz hP hR z
 refine z_attr 99 (zR hR m1) (zR hR m2) ∅ ?_; intro z
 refine z_itemL 99 (zR hR m3) h0 hhi hi' ∅ ?_; intro z
 exact z_endE 99 hP hZ ∅ ∅
theorem name_spec {nA nD tA aD fA fD tp : Addr} {kt : Nat → Tok} {n n1 : Nat} {fvs : List Value} {i : Int} {ti t1 t2 : Tok} {a k : Int} (m1 : (nA, instObj 122 nD) ∈ led) (m2 : (nD, dictOf (symEs w.params kt tA aD fA fD) n) ∈ led)
  (m3 : (fA, PySem.W.listOf fvs.toArray n1) ∈ led) (m4 : (tp, tupO [.int a t1, .int k t2]) ∈ led) (h0 : 0 ≤ i) (hhi : i < 10000) (hi : fvs[i.toNat]? = some (.ref tp)) : Does w 84 1 [.ref nA, .int i ti] led (fun r l => r = .int a t1 ∧ l = led) := by
 refine z_in [("self", .ref nA), ("functor", .int i ti)] (R := led) (fun p hp => hp) ∅ ∅ ∅ ?_
 intro Z hZ G tk sz hP hR z
 refine z_attr 99 (zR hR m1) (zR hR m2) ∅ ?_; intro z
 refine z_itemL 99 (zR hR m3) h0 hhi hi ∅ ?_; intro z
 refine z_item (i := 0) 99 (zR hR m4) ∅ ?_; intro z
 exact z_endE 99 hP hZ ∅ ∅
end
end
section
set_option tactic.hygienic false
inductive Pick (x : Addr × Obj) : List (Addr × Obj) → List (Addr × Obj) → Prop
 | head {r} : Pick x (x :: r) r
 | tail {y r r'} : Pick x r r' → Pick x (y :: r) (y :: r')
theorem Pick.iff {x : Addr × Obj} {l l' : List (Addr × Obj)} (h : Pick x l l') : ∀ p, p ∈ l ↔ p = x ∨ p ∈ l' := by
 induction h with
 | head => intro p; simp
 | tail _ ih => intro p; simp only [List.mem_cons, ih]; constructor <;> (intro h; rcases h with h | h | h <;> simp [h])
theorem pick2m {x y : Addr × Obj} {l l1 l2 : List (Addr × Obj)} (P : Pick x l l1) (P2 : Pick y l1 l2) : ∀ p ∈ x :: y :: l2, p ∈ l := fun p hp => (P.iff p).mpr (by
 rcases List.mem_cons.mp hp with e | hp
 ·exact .inl e
 ·exact .inr ((P2.iff p).mpr (List.mem_cons.mp hp)))
noncomputable def atomD (texts : List Str) : List (PyData × PyData) := texts.zipIdx.map fun p => (.str p.1, .int (p.2 : Nat))
theorem atom_lookup (x : Str) (l : List Str) : ∀ k : Nat, Spec.lookup (.str x) ((l.zipIdx k).map fun p => (PyData.str p.1, PyData.int (p.2 : Nat))) = (l.idxOf? x).map fun i => PyData.int ((k + i : Nat) : Int) := by
 induction l with
 | nil => intro k; rfl
 | cons a r ih =>
  intro k
  rw [List.zipIdx_cons, List.map_cons, List.idxOf?_cons]
  by_cases e : a = x
  ·subst e; simp [Spec.lookup, Spec.same]
  ·have e' : (a == x) = false := by simpa using e
   simp only [Spec.lookup, Spec.same, e', Bool.false_eq_true, if_false]
   rw [ih (k + 1), Option.map_map]
   congr 1
   funext i
   simp only [Function.comp]
   congr 1
   lia
theorem atom_lookup0 (x : Str) (l : List Str) : Spec.lookup (.str x) (atomD l) = (l.idxOf? x).map fun i => PyData.int (i : Nat) := by
 have := atom_lookup x l 0
 simp only [Nat.zero_add] at this
 exact this
theorem flat_int {v : Value} {i : Int} (h : PyProof.V.Flat v (.int i)) : ∃ t, v = .int i t := by cases h {}; exact ⟨_, rfl⟩
theorem atomD_put {x : Str} {l : List Str} (h : l.idxOf? x = none)   : PyProof.V.putD (PyData.str x) (.int (l.length : Nat)) (atomD l) = atomD (l ++ [x]) := by
 have hx : x ∉ l := by simpa [List.idxOf?_eq_none_iff] using h
 unfold PyProof.V.putD
 rw [if_neg]
 ·simp [atomD, List.zipIdx_append]
 ·simp only [atomD, List.any_map, List.any_eq_true, Function.comp, not_exists, not_and]
  rintro ⟨a, j⟩ hm
  have := List.mem_zipIdx hm
  have ha : a ∈ l := by
   obtain ⟨_, _, e⟩ := this; rw [e]; exact List.getElem_mem _
  simp only [Spec.same]
  intro q
  exact hx ((by simpa using q : a = x) ▸ ha)
noncomputable def addText (l : List Str) (x : Str) : List Str := match l.idxOf? x with
 | some _ => l
 | none => l ++ [x]
noncomputable def symIdx (l : List Str) (x : Str) : Nat := match l.idxOf? x with
 | some i => i
 | none => l.length
section
variable {w : World} {led l1 rest : List (Addr × Obj)}
theorem atom_spec {nA nD tA aD fA fD : Addr} {kt : Nat → Tok} {n n1 : Nat} {ts : List (Str × Tok)} {oD : Obj} {kvs : List (Str × Value)} {x : Str} {tx : Tok} (p1 : Pick (tA, PySem.W.listOf (strValues ts).toArray n1) led l1) (p2 : Pick (aD, oD) l1 rest)
  (m1 : (nA, instObj 122 nD) ∈ rest) (m2 : (nD, dictOf (symEs w.params kt tA aD fA fD) n) ∈ rest) (hD : oD.IsDictOf (strKind pw w) kvs) (hF : PyProof.V.FlatPairs PyData.str kvs (atomD (ts.map (·.1))))
  (hlen : ts.length ≤ 1000) (h1 : tA ≠ aD) (h2 : ∀ p ∈ rest, p.1 ≠ tA) (h3 : ∀ p ∈ rest, p.1 ≠ aD) (hs : (aD == sysModules) = false) :
  Does w 56 1 [.ref nA, .str x tx] led (fun r l => (∃ t, r = .int (symIdx (ts.map (·.1)) x : Nat) t) ∧ ∃ ts' n1' oD' kvs', l = (tA, PySem.W.listOf (strValues ts').toArray n1') :: (aD, oD') :: rest ∧ ts'.map (·.1) = addText (ts.map (·.1)) x ∧
   oD'.IsDictOf (strKind pw w) kvs' ∧ PyProof.V.FlatPairs PyData.str kvs' (atomD (addText (ts.map (·.1)) x))) := by
 refine Does.sub (led := [(tA, PySem.W.listOf (strValues ts).toArray n1), (aD, oD)] ++ rest) (pick2m p1 p2) ?_
 clear p1 p2
 have nd : (([(tA, PySem.W.listOf (strValues ts).toArray n1), (aD, oD)] : List (Addr × Obj)).map (·.1)).Nodup := by simpa using h1
 have off : ∀ p ∈ [(tA, PySem.W.listOf (strValues ts).toArray n1), (aD, oD)], ∀ q ∈ rest, p.1 ≠ q.1 := List.forall_mem_cons.mpr ⟨fun q hq => (h2 q hq).symm, List.forall_mem_cons.mpr ⟨fun q hq => (h3 q hq).symm, fun _ h => nomatch h⟩⟩
 cases hq : List.idxOf? x (ts.map (·.1)) with
 | some i =>
  have key : ∀ v, PyProof.V.Flat v ((Spec.lookup (.str x) (atomD (ts.map (·.1)))).getD (.int (-1))) → ∃ t, v = .int (i : Nat) t := fun v hv => by rw [atom_lookup0, hq] at hv; exact flat_int hv
  refine z_inO [("self", .ref nA), ("text", .str x tx)] [(tA, PySem.W.listOf (strValues ts).toArray n1), (aD, oD)] rest (R := rest) (fun _ h => h) nd off ∅ ∅ ∅ ?_
  intro Z hZ G tk sz hP hR z
  refine z_attr 99 (zR hR m1) (zR hR m2) ∅ ?_; intro z
  refine z_getM 99 (D := aD) (zO 1 ∅) hD ∅ ?_; intro z
  refine z_op 99 (md := fun t => .pc (.builtin "dict.get") [.ref aD, .str x (t 1), .int (-1) (t 2)]) (fun t => .int (i : Nat) t) (fun tt s az Q q => call_get2_strTab ⟨hs, kvs, Heap.dictOf_iff.mpr ⟨oD, (az.nw (aD, oD) (ZHas.at (zO 1 ∅) az)).1, hD⟩, hF⟩ (PyProof.V.Flat.int _ _) (fun v hv => by obtain ⟨t, rfl⟩ := key v hv; exact q t _)) ∅ ∅ ?_; intro t9 tk9 z
  exact z_end2 99 (v := .int (i : Nat) t9) (own := [(tA, PySem.W.listOf (strValues ts).toArray n1), (aD, oD)]) (led := rest) (l := (tA, PySem.W.listOf (strValues ts).toArray n1) :: (aD, oD) :: rest) hP ∅ ∅ ∅ (fun _ h => h) (hZ _ _ ⟨⟨t9, by simp only [symIdx, hq]⟩, ts, n1, oD, kvs, rfl, by simp only [addText, hq], hD, by simp only [addText, hq]; exact hF⟩)
 | none =>
  have key : ∀ v, PyProof.V.Flat v ((Spec.lookup (.str x) (atomD (ts.map (·.1)))).getD (.int (-1))) → ∃ t, v = .int (-1) t := fun v hv => by rw [atom_lookup0, hq] at hv; exact flat_int hv
  have hvl : (strValues ts).length = ts.length := by simp [strValues]
  refine z_inO [("self", .ref nA), ("text", .str x tx)] [(tA, PySem.W.listOf (strValues ts).toArray n1), (aD, oD)] rest (R := rest) (fun _ h => h) nd off ∅ ∅ ∅ ?_
  intro Z hZ G tk sz hP hR z
  refine z_attr 99 (zR hR m1) (zR hR m2) ∅ ?_; intro z
  refine z_getM 99 (D := aD) (zO 1 ∅) hD ∅ ?_; intro z
  refine z_op 99 (md := fun t => .pc (.builtin "dict.get") [.ref aD, .str x (t 1), .int (-1) (t 2)]) (fun t => .int (-1) t) (fun tt s az Q q => call_get2_strTab ⟨hs, kvs, Heap.dictOf_iff.mpr ⟨oD, (az.nw (aD, oD) (ZHas.at (zO 1 ∅) az)).1, hD⟩, hF⟩ (PyProof.V.Flat.int _ _) (fun v hv => by obtain ⟨t, rfl⟩ := key v hv; exact q t _)) ∅ ∅ ?_; intro t9 tk9 z
  refine z_attr 99 (zR hR m1) (zR hR m2) ∅ ?_; intro z
  refine z_lenLO 99 0 (vs := strValues ts) ∅ (by lia) ∅ ?_; intro z
  refine z_attr 99 (zR hR m1) (zR hR m2) ∅ ?_; intro z
  refine z_lm 99 0 PySem.F.slot_list_append PySem.F.type_list_append ∅ ?_; intro z
  refine z_append 99 0 ∅ (z_sz (b := (strValues ts).toArray.size) (Nat.le_trans (by rw [List.size_toArray]; lia) (show 1000 ≤ sizeLine by decide)) ∅) ?_; intro z
  refine z_attr 99 (zR hR m1) (zR hR m2) ∅ ?_; intro z
  have hF2 := hF.stored PyProof.V.same_str x (v := .int ((strValues ts).length : Nat) (tk9 + 4)) (PyProof.V.Flat.int _ _)
  have hk9 : kvs.length ≤ sizeLine := Nat.le_trans (by rw [← hF.length]; simp [atomD]; lia) (show 1000 ≤ sizeLine by decide)
  refine z_setK 99 1 (D := aD) ∅ hD hk9 (isS_ok (a := x) ∅) ∅ (v := .int ((strValues ts).length : Nat) (tk9 + 4)) ∅ ?_; intro o' hd' z
  rw [hvl, show (ts.length : Int) = ((ts.map (·.1)).length : Nat) by simp, atomD_put hq, List.length_map] at hF2
  have e2 : ((strValues ts).length : Int) = (symIdx (ts.map (·.1)) x : Nat) := by simp only [symIdx, hq, hvl, List.length_map]
  exact z_end2 99 (v := .int ((strValues ts).length : Nat) (tk9 + 4)) (own := [(tA, PySem.W.listOf ((strValues ts).toArray.push (.str x tx)) (n1 + 1)), (aD, o')]) (led := rest) (l := (tA, PySem.W.listOf ((strValues ts).toArray.push (.str x tx)) (n1 + 1)) :: (aD, o') :: rest) hP ∅ ∅ ∅ (fun _ h => h) (hZ _ _ ⟨⟨_, congrArg (fun z => Value.int z _) e2⟩, ts ++ [(x, tx)], n1 + 1, o', _, by rw [strs_push], by simp only [addText, hq]; simp, hd', by simp only [addText, hq]; rw [hvl]; exact hF2⟩)
end
end
section
set_option tactic.hygienic false
section
variable {w : World} {led : List (Addr × Obj)}
theorem atom_text_spec {nA nD tA aD fA fD : Addr} {kt : Nat → Tok} {n n1 : Nat} {ts : List (Str × Tok)} {i : Int} {ti : Tok} {x : Str} {tx : Tok} {q : Bool} (m1 : (nA, instObj 122 nD) ∈ led) (m2 : (nD, dictOf (symEs w.params kt tA aD fA fD) n) ∈ led)
  (m3 : (tA, PySem.W.listOf (strValues ts).toArray n1) ∈ led) (h0 : 0 ≤ i) (hhi : i < 10000) (hi : ts[i.toNat]? = some (x, tx)) (hx : Nice x) : Does w 313 5 [.ref nA, .int i ti, .bool q] led (fun r l => (∃ t, r = .str (atomText x q) t) ∧ l = led) := by
 obtain ⟨hx1, hx2⟩ := hx
 have hx3 : x.length ≤ 1000 := Nat.le_trans hx1 (by decide)
 have hb : ∀ s : Shared, (K w.params).In s.heap → BindsTo s (fnAt w 313) ⟨[.ref nA, .int i ti, .bool q], []⟩ [("symbols", .ref nA), ("a", .int i ti), ("quoted", .bool q)] := fun s hs => binds_D hs (dfA w 313) (o := obAt w.params (dfA w 313)) (n := 0) (dfI w 313) ∅ ∅ ∅ ∅
 refine z_enter (own₀ := []) (led₀ := led) (R := led) [("symbols", .ref nA), ("a", .int i ti), ("quoted", .bool q)] ∅ ∅ hb (fun _ h => h) List.nodup_nil (fun _ h => nomatch h) (fun _ h => h) ?_
 intro Z hZ G tk sz hP hR
 refine z_meth 99 (zR hR m1) (zR hR m2) ∅ ?_; intro z
 refine z_callE 99 (cl := led) (v := fun _ => .str x tx) (fun t => text_spec (ti := t 1) m1 m2 m3 h0 hhi hi) (by decide) ∅ ∅ ?_; intro tk2 sz2 z
 cases q with
 | false => exact z_endT 99 tx hP hZ ∅ ∅
 | true =>
  refine z_callE 99 (cl := led) (v := fun _ => .bool (isPlain x)) (fun t => is_plain_name_spec (t := t 0) hx3) (by decide) ∅ ∅ ?_; intro tk3 sz3 z
  (refine z_split 3 (!isPlain x) ∅ (fun h1 => ?_) (fun h1 => ?_))
  ·intro z
   refine z_callT 99 (cl := led) (v := fun t => .str (quoted x) t) (fun t => quoted_text_spec (t := t 0) hx1 hx2) (by decide) ∅ ∅ ?_; intro tt tk4 sz4 z
   exact z_endT 99 tt hP (fun r l h => hZ r l (by rw [atomText, Bool.true_and, h1]; exact h)) ∅ ∅
  ·intro z
   exact z_endT 99 tx hP (fun r l h => hZ r l (by rw [atomText, Bool.true_and, h1]; exact h)) ∅ ∅
end
end
section
set_option tactic.hygienic false
theorem tupTab_mono {prog : Program} {w : World} {K : Type} [DecidableEq K] {knd : KeyKind prog w K} {enc : K → PyData} {l l' : List (Addr × Obj)} {d : Addr} {D : List (PyData × PyData)} (T : TupTab knd enc l d D) (h : ∀ p ∈ l, p ∈ l') : TupTab knd enc l' d D :=
 let ⟨lo, o, es, ep, xs, hm, hc, hd, he, hn, hk, hf⟩ := T
 ⟨lo, o, es, ep, xs, h _ hm, hc, hd, he, hn, fun x hx => let ⟨okx, hmk, t⟩ := hk x hx; ⟨okx, h _ hmk, t⟩, hf⟩
noncomputable def funD (funs : List (Int × Int)) : List (PyData × PyData) := funs.zipIdx.map fun p => (.tuple [.int p.1.1, .int p.1.2], .int (p.2 : Nat))
noncomputable def addFun (l : List (Int × Int)) (x : Int × Int) : List (Int × Int) := match l.idxOf? x with
 | some _ => l
 | none => l ++ [x]
noncomputable def funIdx (l : List (Int × Int)) (x : Int × Int) : Nat := match l.idxOf? x with
 | some i => i
 | none => l.length
theorem same_pair (a b c d : Int) : Spec.same (.tuple [.int a, .int b]) (.tuple [.int c, .int d]) = decide ((a, b) = (c, d)) := by
 simp only [Spec.same, Spec.sameAll, Bool.and_true, Prod.mk.injEq, Bool.decide_and]
 rfl
theorem fun_lookup (x : Int × Int) (l : List (Int × Int)) : ∀ k : Nat, Spec.lookup (.tuple [.int x.1, .int x.2]) ((l.zipIdx k).map fun p => (PyData.tuple [.int p.1.1, .int p.1.2], PyData.int (p.2 : Nat))) = (l.idxOf? x).map fun i => PyData.int ((k + i : Nat) : Int) := by
 induction l with
 | nil => intro k; rfl
 | cons a r ih =>
  intro k
  rw [List.zipIdx_cons, List.map_cons, List.idxOf?_cons]
  by_cases e : a = x
  ·subst e; simp [Spec.lookup, same_pair]
  ·have e' : (a == x) = false := by simpa using e
   have e2 : ¬ ((a.1, a.2) = (x.1, x.2)) := e
   simp only [Spec.lookup, same_pair, e', Bool.false_eq_true, if_false, decide_eq_false e2]
   rw [ih (k + 1), Option.map_map]
   congr 1
   funext i
   simp only [Function.comp]
   congr 1
   lia
theorem fun_lookup0 (a k : Int) (l : List (Int × Int)) : Spec.lookup (encTuple PyData.int [a, k]) (funD l) = (l.idxOf? (a, k)).map fun i => PyData.int (i : Nat) := by
 have := fun_lookup (a, k) l 0
 simp only [Nat.zero_add] at this
 exact this
theorem funD_put {a k : Int} {l : List (Int × Int)} (h : l.idxOf? (a, k) = none) : PyProof.V.putD (encTuple PyData.int [a, k]) (.int (l.length : Nat)) (funD l) = funD (l ++ [(a, k)]) := by
 have hx : (a, k) ∉ l := by simpa [List.idxOf?_eq_none_iff] using h
 unfold PyProof.V.putD
 rw [if_neg]
 ·simp [funD, List.zipIdx_append, encTuple]
 ·simp only [funD, List.any_map, List.any_eq_true, Function.comp, not_exists, not_and]
  rintro ⟨⟨a', k'⟩, j⟩ hm
  have ha : (a', k') ∈ l := by
   obtain ⟨_, _, e⟩ := List.mem_zipIdx hm; rw [e]; exact List.getElem_mem _
  simp only [encTuple, List.map_cons, List.map_nil, same_pair]
  intro q
  exact hx (of_decide_eq_true q ▸ ha)
section
variable {w : World} {A : Around} {E : Value → Shared → Prop} {s : Shared} {h₀ : Heap} {L d a : Addr} {m : Str → Option Value} {news sub : List (Addr × Obj)} {K' : Type} [DecidableEq K'] {knd : KeyKind pw w K'} {enc : K' → PyData} {D : List (PyData × PyData)} {ks : List K'} {ok o : Obj} {g : Obj → List (Addr × Obj)}
theorem setItem_tupC {v : Value} {dv : PyData} {Q : Unit → Shared → Prop} (henc : ∀ a b, PySem.Spec.same (enc a) (enc b) = decide (a = b)) (hu : A.units + 1 < cLine) (hv : PyProof.V.Flat v dv) (F : Fr h₀ L s.heap m) (N : News h₀ L s.heap news) (U : UpdF d o news g)
  (hs : ∀ p ∈ sub, p ∈ news) (ho : ∀ p ∈ sub, p.1 ≠ d) (T : TupTab knd enc ((d, o) :: sub) d D) (hka : (a, ok) ∈ sub) (tk : TupKeyObj knd ks ok) (hsz : D.length ≤ sizeLine)
  (h : ∀ h' o', Fr h₀ L h' m → News h₀ L h' (g o') → TupTab knd enc ((d, o') :: sub) d (PyProof.V.putD (encTuple enc ks) dv D) → Q () { s with heap := h', toks := s.toks + (ks.length + 1) }) : wpAny (model pw w) A (setItem (.ref d) (.ref a) v) Q E s := by
 obtain ⟨pre, post, rfl, hg, e1, e2⟩ := U.split
 obtain ⟨lo, o1, es, ep, xs, hm, hc, hd, he, hn, hk, hf⟩ := T
 have ho1 : o1 = o := by
  rcases List.mem_cons.mp hm with e | e
  ·injection e
  ·exact absurd rfl (ho _ e)
 subst ho1
 have hin := N (d, o1) (List.mem_append_right _ (.head _))
 have keys : ∀ x ∈ xs, ∃ okx, (x.2.1, okx) ∈ sub ∧ TupKeyObj knd x.1 okx := fun x hx => by
  obtain ⟨okx, hmx, t⟩ := hk x hx
  rcases List.mem_cons.mp hmx with e | e
  ·injection e with _ e
   subst e
   have h1 := t.1
   rw [hc.1] at h1
   injection h1 with h2
   exact absurd h2 (by decide)
  ·exact ⟨okx, e, t⟩
 have hxs : xs.length ≤ sizeLine := by have e := hf.length; simp only [kvsOf, List.length_map] at e; lia
 refine wpAny_setItem_heap (hsz := hxs) (knd := tupleKind knd) (tupleKind_room_in1 hu) (tk.key (N.get (hs _ hka))) ⟨o1, es, ep, hin.1, hc, hd, he, fun x hx => let ⟨_, hmk, t⟩ := keys x hx; t.key (N.get (hs _ hmk)), hn⟩ fun h' hm' hb => ?_
 obtain ⟨o', es', ep', ho', hc', hd', he', _, hn'⟩ := hm'
 refine h h' o' (F.change hb hin.2.1 hin.2.2) (hg o' ▸ N.setIn e1 e2 hb ho') ⟨lo, o', es', ep', storedH xs ks a v, .head _, hc', hd', he', hn', fun x hx => ?_, by rw [kvsOf_storedH]; exact hf.stored (same_encTuple henc) ks hv⟩
 rcases mem_storedH hx with ⟨y, hy, q1, q2⟩ | ⟨q1, q2⟩
 ·obtain ⟨oky, hmk, t⟩ := keys y hy
  exact ⟨oky, by rw [q2]; exact .tail _ hmk, by rw [q1]; exact t⟩
 ·exact ⟨ok, by rw [q2]; exact .tail _ hka, by rw [q1]; exact tk⟩
end
theorem updF_own {dx : Addr} {o : Obj} : ∀ {own r : List (Addr × Obj)} {j : Nat}, (own.map (·.1)).Nodup → own[j]? = some (dx, o) → (∀ q ∈ r, q.1 ≠ dx) → UpdF dx o (own ++ r) (fun o' => own.set j (dx, o') ++ r)
 | [], r, j, _, h, _ => by cases h
 | p :: own, r, 0, hn, h, hr => by
  obtain rfl : p = (dx, o) := Option.some.inj h
  rw [List.map_cons, List.nodup_cons] at hn
  refine .head fun q hq => ?_
  rcases List.mem_append.mp hq with hq | hq
  ·exact fun e => hn.1 (List.mem_map.mpr ⟨q, hq, e⟩)
  ·exact hr q hq
 | p :: own, r, j + 1, hn, h, hr => by
  have h' : own[j]? = some (dx, o) := h
  rw [List.map_cons, List.nodup_cons] at hn
  exact .tail (fun e => hn.1 (List.mem_map.mpr ⟨_, List.mem_of_getElem? h', e.symm⟩)) (updF_own hn.2 h' hr)
section
variable {w : World} {N : List (Str × NameKind)} {d : Nat} {G : ZG w N d} {c : ZC} {K' : Type} [DecidableEq K'] {knd : KeyKind pw w K'} {enc : K' → PyData} {D : List (PyData × PyData)} {ks : List K'}
noncomputable def siPutZ (j : Nat) (d : Addr) (o : Obj) (m sz : Nat) (c : ZC) : ZC := c.rec fun σ k _ => ⟨⟨σ.m, σ.own.set j (d, o), σ.led, σ.tk + m, sz⟩, k, .d (.f .next)⟩
theorem z_setT (n j : Nat) {A B : Addr} {o ob : Obj} {sub : List (Addr × Obj)} {v : Value} {dv : PyData} (henc : ∀ a b, PySem.Spec.same (enc a) (enc b) = decide (a = b)) (ho : (zgo N w.params n c).σ.own[j]? = some (A, o)) (hs : ∀ p ∈ sub, p ∈ (zgo N w.params n c).σ.own ++ (zgo N w.params n c).σ.led) (hne : ∀ p ∈ sub, p.1 ≠ A) (T : TupTab knd enc ((A, o) :: sub) A D) (hka : (B, ob) ∈ sub) (tk : TupKeyObj knd ks ob) (hsz : D.length ≤ sizeLine)
  (hv : siD (zgo N w.params n c) = some A) (hk : siK (zgo N w.params n c) = .ref B) (hvv : siV (zgo N w.params n c) = v) (hfl : PyProof.V.Flat v dv) (h : ∀ o', TupTab knd enc ((A, o') :: sub) A (PyProof.V.putD (encTuple enc ks) dv D) → ∀ sz, let c' := siPutZ j A o' (ks.length + 1) sz (zgo N w.params n c); ZT G c') : ZT G c := by
 refine ZT.go n ?_
 generalize zgo N w.params n c = c1 at *
 obtain ⟨σ, kk, md⟩ := c1
 obtain ⟨o1, i1, v1, rfl, q1⟩ := onSi_ok hv none_ne
 obtain ⟨A', rfl, q2⟩ := onRef_ok q1 none_ne
 cases q2
 have hk : i1 = .ref B := hk
 subst hk
 subst hvv
 intro s a
 have hmem : (A, o) ∈ σ.own ++ σ.led := List.mem_append_left _ (List.mem_of_getElem? ho)
 have hofs : ∀ q ∈ σ.led ++ G.H, q.1 ≠ A := fun q hq => (List.mem_append.mp hq).elim (fun h => (a.off _ (List.mem_of_getElem? ho) q h).symm) fun h => (a.hof _ hmem q h).symm
 refine setItem_tupC henc (by have := G.hr.2.1; rw [cLine_is]; lia) hfl a.fr (List.append_assoc .. ▸ a.nwH) (updF_own a.nd ho hofs) (fun p hp => List.append_assoc .. ▸ List.mem_append_left G.H (hs p hp)) hne T hka tk hsz fun h' o' F' N' T' => ?_
 have hmap := set_addr (o' := o') ho
 have hadr : ∀ p' ∈ σ.own.set j (A, o'), ∃ q ∈ σ.own, q.1 = p'.1 := fun p hp => List.mem_map.mp (hmap ▸ List.mem_map_of_mem hp)
 refine ⟨⟨σ.m, _, σ.led, s.toks + (ks.length + 1), h'.objs.size⟩, a.heapT rfl rfl F' (fun p hp => N' p ((List.mem_append.mp hp).elim (fun h => List.mem_append_left _ h) fun h => List.mem_append_right _ (List.mem_append_left _ h))) (hmap ▸ a.nd) (fun p hp q hq e => ?_) a.sub (fun p hp => N' p (List.mem_append_right _ (List.mem_append_right _ hp))) (fun p hp q hq e => ?_), ?_⟩
 ·obtain ⟨q', hq', e'⟩ := hadr p hp
  exact a.off q' hq' q hq (e'.trans e)
 ·rcases List.mem_append.mp hp with hp | hp
  ·obtain ⟨q', hq', e'⟩ := hadr p hp
   exact a.hof q' (List.mem_append_left _ hq') q hq (e'.trans e)
  ·exact a.hof p (List.mem_append_right _ hp) q hq e
 ·have := (h o' T' h'.objs.size).s
  rw [a.toks]
  exact this
theorem z_getT (n : Nat) {A : Addr} {l : List (Addr × Obj)} (hs : ∀ p ∈ l, p ∈ (zgo N w.params n c).σ.own ++ (zgo N w.params n c).σ.led) (T : TupTab knd enc l A D) (hv : gmD (zgo N w.params n c) = some A) (h : let c' := lmPut "dict.get" (zgo N w.params n c); ZT G c') : ZT G c := by
 refine ZT.go n ?_
 generalize zgo N w.params n c = c1 at *
 obtain ⟨σ, k, md⟩ := c1
 obtain ⟨o1, x, pos, args, rfl, e1⟩ := onGm_ok hv none_ne
 obtain ⟨e2, e3⟩ := cond_ok e1 none_ne
 obtain rfl := eq_of_beq e2
 obtain ⟨d', rfl, e4⟩ := onRef_ok e3 none_ne
 cases e4
 exact fun pl s a => getMethod_tupTab_get (fun p hp => a.nw p (hs p hp)) T ⟨_, a, h.s⟩
end
theorem own_sub {c : ZC} {l own led : List (Addr × Obj)} (ho : c.σ.own = own) (hl : c.σ.led = led) (h : ∀ p ∈ l, p ∈ own ++ led) : ∀ p ∈ l, p ∈ c.σ.own ++ c.σ.led := fun p hp => by rw [ho, hl]; exact h p hp
section
variable {w : World} {led l1 rest : List (Addr × Obj)}
theorem functor_spec {nA nD tA aD fA fD : Addr} {kt : Nat → Tok} {n n1 : Nat} {fvs : List Value} {oF : Obj} {funs : List (Int × Int)} {a k : Int} {ta tkk : Tok} (p1 : Pick (fA, PySem.W.listOf fvs.toArray n1) led l1) (p2 : Pick (fD, oF) l1 rest)
  (m1 : (nA, instObj 122 nD) ∈ rest) (m2 : (nD, dictOf (symEs w.params kt tA aD fA fD) n) ∈ rest) {sub : List (Addr × Obj)} (hsr : ∀ p ∈ sub, p ∈ rest) (TT : TupTab (intKind pw w) PyData.int ((fD, oF) :: sub) fD (funD funs))
  (hlf : fvs.length = funs.length) (hlen : fvs.length ≤ 1000) (h1 : fA ≠ fD) (h2 : ∀ p ∈ rest, p.1 ≠ fA) (h3 : ∀ p ∈ rest, p.1 ≠ fD) :
  Does w 70 1 [.ref nA, .int a ta, .int k tkk] led (fun r l => (∃ t, r = .int (funIdx funs (a, k) : Nat) t) ∧ ∃ fvs' n1' oF' ext, l = (fA, PySem.W.listOf fvs'.toArray n1') :: (fD, oF') :: (ext ++ rest) ∧
   (∀ p ∈ ext, ∀ q ∈ led, p.1 ≠ q.1) ∧ TupTab (intKind pw w) PyData.int ((fD, oF') :: (ext ++ sub)) fD (funD (addFun funs (a, k))) ∧
   (match funs.idxOf? (a, k) with | some _ => fvs' = fvs ∧ ext = [] | none => ∃ tp, fvs' = fvs ++ [.ref tp] ∧ ext = [(tp, tupO [.int a ta, .int k tkk])])) := by
 refine Does.sub (led := [(fA, PySem.W.listOf fvs.toArray n1), (fD, oF)] ++ rest) (pick2m p1 p2) ?_
 have hin : ∀ q ∈ led, q = (fA, PySem.W.listOf fvs.toArray n1) ∨ q = (fD, oF) ∨ q ∈ rest := fun q hq => ((p1.iff q).mp hq).imp id fun h => (p2.iff q).mp h
 clear p1 p2
 have nd : (([(fA, PySem.W.listOf fvs.toArray n1), (fD, oF)] : List (Addr × Obj)).map (·.1)).Nodup := by simpa using h1
 have off : ∀ p ∈ [(fA, PySem.W.listOf fvs.toArray n1), (fD, oF)], ∀ q ∈ rest, p.1 ≠ q.1 := List.forall_mem_cons.mpr ⟨fun q hq => (h2 q hq).symm, List.forall_mem_cons.mpr ⟨fun q hq => (h3 q hq).symm, fun _ h => nomatch h⟩⟩
 have lk : Spec.lookup (encTuple PyData.int [a, k]) (funD funs) = _ := fun_lookup0 a k funs
 cases hq : List.idxOf? (a, k) funs with
 | some i =>
  have key : ∀ v, PyProof.V.Flat v ((Spec.lookup (encTuple PyData.int [a, k]) (funD funs)).getD (.int (-1))) → ∃ t, v = .int (i : Nat) t := fun v hv => by rw [lk, hq] at hv; exact flat_int hv
  refine z_inO [("self", .ref nA), ("atom", .int a ta), ("arity", .int k tkk)] [(fA, PySem.W.listOf fvs.toArray n1), (fD, oF)] rest (R := rest) (fun _ h => h) nd off ∅ ∅ ∅ ?_
  intro Z hZ G tk sz hP hR z
  (refine z_nt 13 (l := rest) ∅ ∅ ?_; intro own hnd hof z)
  have e1 : own.map (·.1) = [fA, fD, sz] := by kernel_rfl
  have e8 : own = [(fA, PySem.W.listOf fvs.toArray n1), (fD, oF), (sz, tupO [.int a ta, .int k tkk])] := by kernel_rfl
  rw [e1] at hnd
  simp only [List.nodup_cons, List.mem_cons, not_or] at hnd
  have hK : sz ≠ fA ∧ sz ≠ fD := ⟨fun e => hnd.1.2.1 e.symm, fun e => hnd.2.1.1 e.symm⟩
  have hK9 : ∀ q ∈ rest, sz ≠ q.1 := fun q hq => hof (sz, tupO [.int a ta, .int k tkk]) (by rw [e8]; exact .tail _ (.tail _ (.head _))) q hq
  refine z_attr 99 (zR hR m1) (zR hR m2) ∅ ?_; intro z
  have hmem : ∀ p ∈ (fD, oF) :: (sz, tupO [.int a ta, .int k tkk]) :: sub, p ∈ [(fA, PySem.W.listOf fvs.toArray n1), (fD, oF), (sz, tupO [.int a ta, .int k tkk])] ++ rest := fun p hp => by
   rcases List.mem_cons.mp hp with e | hp
   ·exact e ▸ .tail _ (.head _)
   rcases List.mem_cons.mp hp with e | hp
   ·exact e ▸ .tail _ (.tail _ (.head _))
   ·exact .tail _ (.tail _ (.tail _ (hsr p hp)))
  have TT1 := tupTab_mono TT (l' := (fD, oF) :: (sz, tupO [.int a ta, .int k tkk]) :: sub) (fun p hp => by rcases List.mem_cons.mp hp with e | e; exact e ▸ .head _; exact .tail _ (.tail _ e))
  refine z_getT 99 (A := fD) (own_sub (own := [(fA, PySem.W.listOf fvs.toArray n1), (fD, oF), (sz, tupO [.int a ta, .int k tkk])]) (led := rest) ∅ ∅ hmem) TT1 ∅ ?_; intro z
  refine z_op 99 (md := fun t => .pc (.builtin "dict.get") [.ref fD, .ref sz, .int (-1) (t 2)]) (fun t => .int (i : Nat) t) (fun tt s az Q q => call_get2_tupTab (knd := intKind _ _) (enc := PyData.int) (ks := [a, k]) PyProof.V.same_int (by have := G.hr.2.1; rw [cLine_is]; lia) (fun p hp => az.nw p (own_sub (own := [(fA, PySem.W.listOf fvs.toArray n1), (fD, oF), (sz, tupO [.int a ta, .int k tkk])]) (led := rest) ∅ ∅ hmem p hp)) TT1 (.tail _ (.head _)) (TupKeyObj.made (.cons (intKind_is _ _ _ _) (.cons (intKind_is _ _ _ _) .nil))) (PyProof.V.Flat.int _ _) (fun v hv => by obtain ⟨t, rfl⟩ := key v hv; exact q t _)) ∅ ∅ ?_; intro t9 tk9 z
  exact z_end2 99 (v := .int (i : Nat) t9) (own := [(fA, PySem.W.listOf fvs.toArray n1), (fD, oF), (sz, tupO [.int a ta, .int k tkk])]) (led := rest) (l := (fA, PySem.W.listOf fvs.toArray n1) :: (fD, oF) :: ([] ++ rest)) hP ∅ ∅ ∅ (fun p hp => by simp only [List.nil_append, List.mem_cons, List.mem_append, List.not_mem_nil, or_false] at hp ⊢; rcases hp with h | h | h <;> simp [h]) (hZ _ _ ⟨⟨t9, congrArg (fun z => Value.int z _) (by simp only [funIdx, hq])⟩, fvs, n1, oF, [], rfl, (fun _ h => nomatch h), by simp only [addFun, hq]; exact TT, by simp [hq]⟩)
 | none =>
  have key : ∀ v, PyProof.V.Flat v ((Spec.lookup (encTuple PyData.int [a, k]) (funD funs)).getD (.int (-1))) → ∃ t, v = .int (-1) t := fun v hv => by rw [lk, hq] at hv; exact flat_int hv
  refine z_inO [("self", .ref nA), ("atom", .int a ta), ("arity", .int k tkk)] [(fA, PySem.W.listOf fvs.toArray n1), (fD, oF)] rest (R := rest) (fun _ h => h) nd off ∅ ∅ ∅ ?_
  intro Z hZ G tk sz hP hR z
  (refine z_nt 13 (l := rest) ∅ ∅ ?_; intro own hnd hof z)
  have e1 : own.map (·.1) = [fA, fD, sz] := by kernel_rfl
  have e8 : own = [(fA, PySem.W.listOf fvs.toArray n1), (fD, oF), (sz, tupO [.int a ta, .int k tkk])] := by kernel_rfl
  rw [e1] at hnd
  simp only [List.nodup_cons, List.mem_cons, not_or] at hnd
  have hK : sz ≠ fA ∧ sz ≠ fD := ⟨fun e => hnd.1.2.1 e.symm, fun e => hnd.2.1.1 e.symm⟩
  have hK9 : ∀ q ∈ rest, sz ≠ q.1 := fun q hq => hof (sz, tupO [.int a ta, .int k tkk]) (by rw [e8]; exact .tail _ (.tail _ (.head _))) q hq
  refine z_attr 99 (zR hR m1) (zR hR m2) ∅ ?_; intro z
  have hmem : ∀ p ∈ (fD, oF) :: (sz, tupO [.int a ta, .int k tkk]) :: sub, p ∈ [(fA, PySem.W.listOf fvs.toArray n1), (fD, oF), (sz, tupO [.int a ta, .int k tkk])] ++ rest := fun p hp => by
   rcases List.mem_cons.mp hp with e | hp
   ·exact e ▸ .tail _ (.head _)
   rcases List.mem_cons.mp hp with e | hp
   ·exact e ▸ .tail _ (.tail _ (.head _))
   ·exact .tail _ (.tail _ (.tail _ (hsr p hp)))
  have TT1 := tupTab_mono TT (l' := (fD, oF) :: (sz, tupO [.int a ta, .int k tkk]) :: sub) (fun p hp => by rcases List.mem_cons.mp hp with e | e; exact e ▸ .head _; exact .tail _ (.tail _ e))
  refine z_getT 99 (A := fD) (own_sub (own := [(fA, PySem.W.listOf fvs.toArray n1), (fD, oF), (sz, tupO [.int a ta, .int k tkk])]) (led := rest) ∅ ∅ hmem) TT1 ∅ ?_; intro z
  refine z_op 99 (md := fun t => .pc (.builtin "dict.get") [.ref fD, .ref sz, .int (-1) (t 2)]) (fun t => .int (-1) t) (fun tt s az Q q => call_get2_tupTab (knd := intKind _ _) (enc := PyData.int) (ks := [a, k]) PyProof.V.same_int (by have := G.hr.2.1; rw [cLine_is]; lia) (fun p hp => az.nw p (own_sub (own := [(fA, PySem.W.listOf fvs.toArray n1), (fD, oF), (sz, tupO [.int a ta, .int k tkk])]) (led := rest) ∅ ∅ hmem p hp)) TT1 (.tail _ (.head _)) (TupKeyObj.made (.cons (intKind_is _ _ _ _) (.cons (intKind_is _ _ _ _) .nil))) (PyProof.V.Flat.int _ _) (fun v hv => by obtain ⟨t, rfl⟩ := key v hv; exact q t _)) ∅ ∅ ?_; intro t9 tk9 z
  refine z_attr 99 (zR hR m1) (zR hR m2) ∅ ?_; intro z
  refine z_lenLO 99 0 (vs := fvs) ∅ (by lia) ∅ ?_; intro z
  refine z_attr 99 (zR hR m1) (zR hR m2) ∅ ?_; intro z
  refine z_lm 99 0 PySem.F.slot_list_append PySem.F.type_list_append ∅ ?_; intro z
  refine z_append 99 0 ∅ (z_sz (b := fvs.toArray.size) (Nat.le_trans (by rw [List.size_toArray]; lia) (show 1000 ≤ sizeLine by decide)) ∅) ?_; intro z
  refine z_attr 99 (zR hR m1) (zR hR m2) ∅ ?_; intro z
  have hz : (funD funs).length ≤ sizeLine := Nat.le_trans (by simp [funD]; lia) (show 1000 ≤ sizeLine by decide)
  refine z_setT 99 1 (A := fD) (B := sz) (ob := tupO [.int a ta, .int k tkk]) (knd := intKind _ _) (enc := PyData.int) (ks := [a, k]) (sub := (sz, tupO [.int a ta, .int k tkk]) :: sub) PyProof.V.same_int ∅ (own_sub (own := [(fA, PySem.W.listOf (fvs.toArray.push (Value.ref sz)) (n1 + 1)), (fD, oF), (sz, tupO [.int a ta, .int k tkk])]) (led := rest) ∅ ∅ (List.forall_mem_cons.mpr ⟨.tail _ (.tail _ (.head _)), fun p hp => .tail _ (.tail _ (.tail _ (hsr p hp)))⟩)) (List.forall_mem_cons.mpr ⟨hK.2, fun p hp => h3 p (hsr p hp)⟩) (tupTab_mono TT (l' := (fD, oF) :: (sz, tupO [.int a ta, .int k tkk]) :: sub) (fun p hp => by rcases List.mem_cons.mp hp with e | e; exact e ▸ .head _; exact .tail _ (.tail _ e))) (.head _) (TupKeyObj.made (.cons (intKind_is _ _ _ _) (.cons (intKind_is _ _ _ _) .nil))) hz ∅ ∅ (v := .int (fvs.length : Nat) (tk9 + 4)) ∅ (PyProof.V.Flat.int _ _) ?_; intro o' TT' sz9 z
  rw [show (fvs.length : Int) = (funs.length : Nat) by rw [hlf], funD_put hq] at TT'
  have e2 : (fvs.length : Int) = (funIdx funs (a, k) : Nat) := by simp only [funIdx, hq, hlf]
  refine z_end2 99 (v := .int (fvs.length : Nat) (tk9 + 4)) (own := [(fA, PySem.W.listOf (fvs.toArray.push (Value.ref sz)) (n1 + 1)), (fD, o'), (sz, tupO [.int a ta, .int k tkk])]) (led := rest) (l := (fA, PySem.W.listOf (fvs ++ [Value.ref sz]).toArray (n1 + 1)) :: (fD, o') :: ([(sz, tupO [.int a ta, .int k tkk])] ++ rest)) hP ∅ ∅ ∅ (fun p hp => by rw [List.push_toArray]; exact hp) (hZ _ _ ⟨⟨tk9 + 4, congrArg (fun z => Value.int z (tk9 + 4)) e2⟩, fvs ++ [Value.ref sz], n1 + 1, o', [(sz, tupO [.int a ta, .int k tkk])], rfl, ?_, by simp only [addFun, hq]; exact TT', by simp only [hq]; exact ⟨sz, rfl, rfl⟩⟩)
  intro p hp q hq'
  rw [List.mem_singleton.mp hp]
  rcases hin q hq' with e | e | e
  ·rw [e]; exact hK.1
  ·rw [e]; exact hK.2
  ·exact hK9 q e
end
end
section
set_option tactic.hygienic false
structure Sy where
 nA : Addr
 nD : Addr
 tA : Addr
 aD : Addr
 fA : Addr
 fD : Addr
 kt : Nat → Tok
 n : Nat
inductive KeysIn (rest : List (Addr × Obj)) : List Value → List (Int × Int) → Prop
 | nil : KeysIn rest [] []
 | cons {tp : Addr} {f : Int × Int} {t1 t2 : Tok} {fvs : List Value} {funs : List (Int × Int)} : (tp, tupO [.int f.1 t1, .int f.2 t2]) ∈ rest → KeysIn rest fvs funs → KeysIn rest (.ref tp :: fvs) (f :: funs)
theorem KeysIn.mono {r r' : List (Addr × Obj)} {fvs : List Value} {funs : List (Int × Int)} (h : KeysIn r fvs funs) (k : ∀ p ∈ r, p ∈ r') : KeysIn r' fvs funs := by
 induction h with
 | nil => exact .nil
 | cons a _ ih => exact .cons (k _ a) ih
theorem KeysIn.len {r : List (Addr × Obj)} {fvs : List Value} {funs : List (Int × Int)} (h : KeysIn r fvs funs) : fvs.length = funs.length := by
 induction h with
 | nil => rfl
 | cons a _ ih => simp [ih]
theorem KeysIn.snoc {r : List (Addr × Obj)} {fvs : List Value} {funs : List (Int × Int)} (h : KeysIn r fvs funs) {tp : Addr} {f : Int × Int} {t1 t2 : Tok} (hm : (tp, tupO [.int f.1 t1, .int f.2 t2]) ∈ r) : KeysIn r (fvs ++ [.ref tp]) (funs ++ [f]) := by
 induction h with
 | nil => exact .cons hm .nil
 | cons a _ ih => exact .cons a ih
theorem KeysIn.get {r : List (Addr × Obj)} {fvs : List Value} {funs : List (Int × Int)} (h : KeysIn r fvs funs) : ∀ {i : Nat} {f : Int × Int}, funs[i]? = some f → ∃ tp t1 t2, fvs[i]? = some (.ref tp) ∧ (tp, tupO [.int f.1 t1, .int f.2 t2]) ∈ r := by
 induction h with
 | nil => intro i f e; simp at e
 | cons a _ ih =>
  intro i f e
  cases i with
  | zero => simp at e; subst e; exact ⟨_, _, _, rfl, a⟩
  | succ i => simp at e; obtain ⟨tp, t1, t2, e1, e2⟩ := ih e; exact ⟨tp, t1, t2, by simpa using e1, e2⟩
structure SymIn (w : World) (a : Sy) (texts : List Str) (funs : List (Int × Int)) (b rest : List (Addr × Obj)) : Prop where
 ex : ∃ ts n1 oD kvs fvs n2 oF, b = [(a.tA, PySem.W.listOf (strValues ts).toArray n1), (a.aD, oD), (a.fA, PySem.W.listOf fvs.toArray n2), (a.fD, oF)] ∧ ts.map (·.1) = texts ∧ oD.IsDictOf (strKind pw w) kvs ∧ PyProof.V.FlatPairs PyData.str kvs (atomD texts) ∧
  KeysIn rest fvs funs ∧ TupTab (intKind pw w) PyData.int ((a.fD, oF) :: rest) a.fD (funD funs)
 inst : (a.nA, instObj 122 a.nD) ∈ rest
 dict : (a.nD, dictOf (symEs w.params a.kt a.tA a.aD a.fA a.fD) a.n) ∈ rest
 o1 : ∀ p ∈ rest, p.1 ≠ a.tA
 o2 : ∀ p ∈ rest, p.1 ≠ a.aD
 o3 : ∀ p ∈ rest, p.1 ≠ a.fA
 o4 : ∀ p ∈ rest, p.1 ≠ a.fD
 d12 : a.tA ≠ a.aD
 d13 : a.tA ≠ a.fA
 d14 : a.tA ≠ a.fD
 d23 : a.aD ≠ a.fA
 d24 : a.aD ≠ a.fD
 d34 : a.fA ≠ a.fD
 sysm : (a.aD == sysModules) = false
section
variable {w : World} {rest b : List (Addr × Obj)} {a : Sy} {texts : List Str} {funs : List (Int × Int)}
theorem atom_S (S : SymIn w a texts funs b rest) (hz : texts.length ≤ 1000) (x : Str) (tx : Tok) : Does w 56 1 [.ref a.nA, .str x tx] (b ++ rest) (fun r l => (∃ t, r = .int (symIdx texts x : Nat) t) ∧ ∃ b', l = b' ++ rest ∧ SymIn w a (addText texts x) funs b' rest) := by
 obtain ⟨ts, n1, oD, kvs, fvs, n2, oF, rfl, rfl, h1, h2, h3, h4⟩ := S.ex
 have A := atom_spec (w := w) (n1 := n1) (led := (a.tA, PySem.W.listOf (strValues ts).toArray n1) :: (a.aD, oD) :: ([(a.fA, PySem.W.listOf fvs.toArray n2), (a.fD, oF)] ++ rest)) (x := x) (tx := tx) (rest := [(a.fA, PySem.W.listOf fvs.toArray n2), (a.fD, oF)] ++ rest) .head .head (List.mem_append_right _ S.inst) (List.mem_append_right _ S.dict) h1 h2 (by simpa using hz) S.d12
  (by
    intro p hp
    rcases List.mem_cons.mp hp with e | hp
    ·rw [e]; exact S.d13.symm
    rcases List.mem_cons.mp hp with e | hp
    ·rw [e]; exact S.d14.symm
    ·exact S.o1 p hp)
  (by
    intro p hp
    rcases List.mem_cons.mp hp with e | hp
    ·rw [e]; exact S.d23.symm
    rcases List.mem_cons.mp hp with e | hp
    ·rw [e]; exact S.d24.symm
    ·exact S.o2 p hp) S.sysm
 refine Does.weak A ?_
 rintro r l ⟨hr, ts', n1', oD', kvs', rfl, e, hd, hf⟩
 exact ⟨_, ⟨hr, _, rfl, ⟨ts', n1', oD', kvs', fvs, n2, oF, rfl, e, hd, hf, h3, h4⟩, S.inst, S.dict, S.o1, S.o2, S.o3, S.o4, S.d12, S.d13, S.d14, S.d23, S.d24, S.d34, S.sysm⟩, fun p hp => hp⟩
theorem functor_S (S : SymIn w a texts funs b rest) (hz : funs.length ≤ 1000) (x k : Int) (tx tkk : Tok) : Does w 70 1 [.ref a.nA, .int x tx, .int k tkk] (b ++ rest) (fun r l => (∃ t, r = .int (funIdx funs (x, k) : Nat) t) ∧ ∃ b' ext, l = b' ++ (ext ++ rest) ∧
  (∀ p ∈ ext, ∀ q ∈ b ++ rest, p.1 ≠ q.1) ∧ SymIn w a texts (addFun funs (x, k)) b' (ext ++ rest)) := by
 obtain ⟨ts, n1, oD, kvs, fvs, n2, oF, rfl, rfl, h1, h2, h3, h4⟩ := S.ex
 have A := functor_spec (w := w) (a := x) (k := k) (ta := tx) (tkk := tkk) (rest := (a.tA, PySem.W.listOf (strValues ts).toArray n1) :: (a.aD, oD) :: rest)
  (led := (a.tA, PySem.W.listOf (strValues ts).toArray n1) :: (a.aD, oD) :: (a.fA, PySem.W.listOf fvs.toArray n2) :: (a.fD, oF) :: rest) (.tail (.tail .head)) (.tail (.tail .head)) (.tail _ (.tail _ S.inst)) (.tail _ (.tail _ S.dict))
  (sub := rest) (fun p hp => .tail _ (.tail _ hp)) h4 h3.len (by rw [h3.len]; exact hz) S.d34
  (by
    intro p hp
    rcases List.mem_cons.mp hp with e | hp
    ·rw [e]; exact S.d13
    rcases List.mem_cons.mp hp with e | hp
    ·rw [e]; exact S.d23
    ·exact S.o3 p hp)
  (by
    intro p hp
    rcases List.mem_cons.mp hp with e | hp
    ·rw [e]; exact S.d14
    rcases List.mem_cons.mp hp with e | hp
    ·rw [e]; exact S.d24
    ·exact S.o4 p hp)
 refine Does.weak A ?_
 rintro r l ⟨hr, fvs', n1', oF', ext, rfl, hfr, hT, hc⟩
 have off : ∀ (z : Addr), (∃ q ∈ (a.tA, PySem.W.listOf (strValues ts).toArray n1) :: (a.aD, oD) :: (a.fA, PySem.W.listOf fvs.toArray n2) :: (a.fD, oF) :: rest, q.1 = z) → (∀ p ∈ rest, p.1 ≠ z) → ∀ p ∈ ext ++ rest, p.1 ≠ z := by
  rintro z ⟨q, hq, rfl⟩ h p hp
  rcases List.mem_append.mp hp with e | e
  ·exact hfr p e q hq
  ·exact h p e
 refine ⟨_, ⟨hr, [(a.tA, PySem.W.listOf (strValues ts).toArray n1), (a.aD, oD), (a.fA, PySem.W.listOf fvs'.toArray n1'), (a.fD, oF')], ext, rfl, hfr, ⟨ts, n1, oD, kvs, fvs', n1', oF', rfl, rfl, h1, h2, ?_, ?_⟩, List.mem_append_right _ S.inst, List.mem_append_right _ S.dict, off _ ⟨_, .head _, rfl⟩ S.o1, off _ ⟨_, .tail _ (.head _), rfl⟩ S.o2,
  off _ ⟨_, .tail _ (.tail _ (.head _)), rfl⟩ S.o3, off _ ⟨_, .tail _ (.tail _ (.tail _ (.head _))), rfl⟩ S.o4, S.d12, S.d13, S.d14, S.d23, S.d24, S.d34, S.sysm⟩, ?_⟩
 ·cases hq : List.idxOf? (x, k) funs with
  | some i => simp only [hq] at hc; obtain ⟨rfl, rfl⟩ := hc; simp only [addFun, hq]; exact h3.mono fun p hp => by simpa using hp
  | none =>
   simp only [hq] at hc
   obtain ⟨tp, rfl, rfl⟩ := hc
   simp only [addFun, hq]
   exact (h3.mono fun p hp => List.mem_append_right _ hp).snoc (List.mem_append_left _ (List.mem_singleton.mpr rfl))
 ·exact hT
 ·intro p hp
  simp only [List.mem_cons, List.mem_append, List.not_mem_nil, or_false] at hp ⊢
  grind
end
end
section
set_option tactic.hygienic false
section
variable {w : World} {rest b : List (Addr × Obj)} {a : Sy} {texts : List Str} {funs : List (Int × Int)}
theorem func_S (S : SymIn w a texts funs b rest) (hz : texts.length ≤ 1000) (hz2 : funs.length ≤ 1000) (x : Str) (k : Int) (tx tkk : Tok) : Does w 77 2 [.ref a.nA, .str x tx, .int k tkk] (b ++ rest) (fun r l => (∃ t, r = .int (funIdx funs ((symIdx texts x : Nat), k) : Nat) t) ∧ ∃ b' ext, l = b' ++ (ext ++ rest) ∧
  (∀ p ∈ ext, ∀ q ∈ rest, p.1 ≠ q.1) ∧ SymIn w a (addText texts x) (addFun funs ((symIdx texts x : Nat), k)) b' (ext ++ rest)) := by
 refine z_in [("self", .ref a.nA), ("text", .str x tx), ("arity", .int k tkk)] (R := rest) (fun p hp => List.mem_append_right _ hp) ∅ ∅ ∅ ?_
 intro Z hZ G tk sz hP hR z
 refine z_meth 99 (zR hR S.inst) (zR hR S.dict) ∅ ?_; intro z
 refine z_meth 99 (zR hR S.inst) (zR hR S.dict) ∅ ?_; intro z
 refine z_call 99 (fun t => atom_S S hz x (t 1)) (by decide) ∅ ∅ ?_
 rintro _ _ ⟨⟨t', rfl⟩, b', rfl, S'⟩ tk2 sz2
 refine ⟨fun q hq => List.mem_append_right _ (hR ▸ hq), ?_⟩; intro z
 refine z_call 99 (fun t => functor_S S' hz2 (symIdx texts x : Nat) k (t 1) (t 2)) (by decide) ∅ ∅ ?_
 rintro _ _ ⟨⟨t9, rfl⟩, b9, ext, rfl, hfr, S9⟩ tk9 sz9
 refine ⟨fun q hq => List.mem_append_right _ (List.mem_append_right _ (hR ▸ hq)), ?_⟩; intro z
 exact z_end 99 hP ∅ ∅ (hZ _ _ ⟨⟨t9, rfl⟩, b9, ext, rfl, fun p hp q hq => hfr p hp q (List.mem_append_right _ hq), S9⟩)
end
end
section
set_option tactic.hygienic false
theorem Room.under {A : Around} {d : Nat} {c : Code} (r : Room A (d + 1)) (h : c.weight ≤ 1) (u : c.cUnits ≤ 3) : Room (A.under c) d :=
 ⟨by have := r.1; show A.depth + c.weight + d ≤ 700; lia, by have := r.2.1; show A.units + c.cUnits + 8 * d ≤ 5000; lia, r.2.2⟩
theorem Does.make {w : World} {C fI : Addr} {d : Nat} {pos : List Value} {led : List (Addr × Obj)} {post : Addr → List (Addr × Obj) → Prop} (hm : makesIn (K w.params) C = true) (hi : findIn (K w.params) (.ref C) "__init__" = some (some (.ref fI))) (hf : isFn (K w.params) (.ref fI) = true)
  (D : ∀ x dx, (∀ p ∈ led, p.1 < dx) → dx < x → Does w fI d (.ref x :: pos) ((x, instObj C dx) :: (dx, dictOf [] 0) :: led) (fun r l => r = .none ∧ post x l)) : Does w C (d + 1) pos led (fun r l => ∃ x, r = .ref x ∧ post x l) := ⟨fun {A E s h₀ L m mg mb mean Q} r F N X T k => by
 obtain ⟨hh, g, dd, tk, os⟩ := s
 have X' := X.keeps F.keep
 refine make_core (makes_of X' hm) (looks_findIn X' hi) (fun self => bind_fn X' self (beq_iff_eq.mp hf)) (.inl rfl) ?_
 have N' := (N.push F emptyDict).push (F.push _) (instObj C hh.objs.size)
 rw [Heap.size_push] at N'
 have kp : ∀ b o, hh.get? b = some o → ((hh.push emptyDict).push (instObj C hh.objs.size)).get? b = some o := fun b o e => Heap.get?_push_of_some _ (Heap.get?_push_of_some _ e)
 have big : ∀ b, hh.objs.size ≤ b → hh.get? b = none := fun b hb => by
  cases q : hh.get? b with
  | none => rfl
  | some o => exact absurd (Heap.lt_size q) (Nat.not_lt.mpr hb)
 refine codeAny_mono ((D (hh.objs.size + 1) hh.objs.size (fun p hp => Heap.lt_size (N p hp).1) (Nat.lt_succ_self _)).run (A := A.under (.builtin "type.__call__" ⟨.ref C :: pos, []⟩)) (E := E) (s := ⟨(hh.push emptyDict).push (instObj C hh.objs.size), g, dd, tk, os⟩)
  (Q := fun v s' => v = .none ∧ Q (.ref (hh.objs.size + 1)) s') (r.under (Nat.le_of_ble_eq_true rfl) (Nat.le_of_ble_eq_true rfl)) ((F.push _).push _) N' X T ?_) ?_
 ·rintro h2 tk2 v l ⟨rfl, hp⟩ F2 N2
  refine ⟨rfl, k h2 tk2 _ l ⟨_, rfl, hp⟩ F2 ⟨N2.news, fun b o e hb => N2.keep b o (kp b o e) fun p hp q => ?_, fun p hp => ?_⟩⟩
  ·have hlt := Heap.lt_size e
   rcases List.mem_cons.mp hp with e' | hp
   ·rw [e'] at q; exact Nat.lt_irrefl _ (Nat.lt_of_succ_lt (Nat.lt_of_le_of_lt (Nat.le_of_eq q) hlt))
   rcases List.mem_cons.mp hp with e' | hp
   ·rw [e'] at q; exact Nat.lt_irrefl _ (Nat.lt_of_le_of_lt (Nat.le_of_eq q) hlt)
   ·exact hb p hp q
  ·rcases N2.new p hp with e | ⟨z, hz, e⟩
   ·left
    cases q : hh.get? p.1 with
    | none => rfl
    | some o => rw [kp _ _ q] at e; cases e
   ·rcases List.mem_cons.mp hz with e' | hz
    ·left; rw [e'] at e; exact big _ (Nat.le_trans (Nat.le_succ _) (Nat.le_of_eq e))
    rcases List.mem_cons.mp hz with e' | hz
    ·left; rw [e'] at e; exact big _ (Nat.le_of_eq e)
    ·exact .inr ⟨z, hz, e⟩
 ·intro v s' hr
  unfold InitBack
  rcases v with e | (v | _ | _ | _) <;> first | exact hr | exact hr.elim⟩
inductive StrVals : List Value → List Str → Prop
 | nil : StrVals [] []
 | cons {x : Str} {t : Tok} {vs : List Value} {xs : List Str} : StrVals vs xs → StrVals (.str x t :: vs) (x :: xs)
theorem StrVals.get {vs : List Value} {xs : List Str} (h : StrVals vs xs) : ∀ {i : Nat} {x : Str}, xs[i]? = some x → ∃ t, vs[i]? = some (.str x t) := by
 induction h with
 | nil => intro i x e; simp at e
 | cons _ ih =>
  intro i x e
  cases i with
  | zero => simp at e; subst e; exact ⟨_, rfl⟩
  | succ i => simp at e; simpa using ih e
theorem StrVals.len {vs : List Value} {xs : List Str} (h : StrVals vs xs) : vs.length = xs.length := by
 induction h with
 | nil => rfl
 | cons _ ih => simp [ih]
inductive RowsIn (l : List (Addr × Obj)) : List Value → List (Str × Int) → Prop
 | nil : RowsIn l [] []
 | cons {tp : Addr} {x : Str} {k : Int} {t1 t2 : Tok} {vs : List Value} {xs : List (Str × Int)} : (tp, tupO [.str x t1, .int k t2]) ∈ l → RowsIn l vs xs → RowsIn l (.ref tp :: vs) ((x, k) :: xs)
theorem RowsIn.get {l : List (Addr × Obj)} {vs : List Value} {xs : List (Str × Int)} (h : RowsIn l vs xs) : ∀ {i : Nat} {x : Str × Int}, xs[i]? = some x → ∃ tp t1 t2, vs[i]? = some (.ref tp) ∧ (tp, tupO [.str x.1 t1, .int x.2 t2]) ∈ l := by
 induction h with
 | nil => intro i x e; simp at e
 | cons a _ ih =>
  intro i x e
  cases i with
  | zero => simp at e; subst e; exact ⟨_, _, _, rfl, a⟩
  | succ i => simp at e; simpa using ih e
theorem RowsIn.len {l : List (Addr × Obj)} {vs : List Value} {xs : List (Str × Int)} (h : RowsIn l vs xs) : vs.length = xs.length := by
 induction h with
 | nil => rfl
 | cons _ _ ih => simp [ih]
noncomputable def fixedAtoms : List Str := ["[]", ".", "{}", "-", "+", "*", "/", ",", "|", ";", "->", "\\+", ":-", "?-", "-->", "!", "true", "fail", "false", "call", "=", "^", "error", "", "end_of_file", "system", "$VAR", "catch", "throw"]
noncomputable def fixedFuns : List (Str × Int) := [(".", 2), (",", 2), (";", 2), ("->", 2), ("\\+", 1), (":-", 2), (":-", 1), ("?-", 1), ("-->", 2), ("{}", 1), ("=", 2), ("^", 2), ("-", 1), ("-", 2), ("+", 2), ("/", 2), ("error", 2), ("$VAR", 1), ("catch", 3), ("throw", 1),
 ("!", 0), ("true", 0), ("fail", 0), ("false", 0), ("call", 1), ("call", 2), ("call", 3), ("call", 4), ("call", 5), ("call", 6), ("call", 7), ("call", 8)]
theorem allStrs_ok : ∀ {vs : List Value} {xs : List Str}, allStrs vs = some xs → StrVals vs xs
 | [], xs, h => by cases h; exact .nil
 | v :: r, xs, h => by
  obtain ⟨x, t, rfl, h2⟩ := onStr_ok h none_ne
  obtain ⟨ys, e, rfl⟩ := Option.map_eq_some_iff.mp h2
  exact .cons (allStrs_ok e)
theorem tupStrs {own : List (Addr × Obj)} {j : Nat} {xs : List Str} (h : tupF own j allStrs = some xs) : ∃ vs, (adr own j, tupO vs) ∈ own ∧ StrVals vs xs := by
 obtain ⟨vs, m, h2⟩ := tupF_ok h
 exact ⟨vs, adr_mem m, allStrs_ok h2⟩
theorem rowsIn_own {own l : List (Addr × Obj)} (hs : ∀ p ∈ own, p ∈ l) : ∀ {js : List Nat} {xs : List (Str × Int)}, js.map (pairAt own) = xs.map some → RowsIn l (refs own js) xs
 | [], [], _ => .nil
 | j :: js, (x, k) :: xs, h => by
  rw [List.map_cons, List.map_cons] at h
  obtain ⟨h1, h2⟩ := List.cons.inj h
  obtain ⟨t1, t2, m⟩ := pairAt_ok h1
  exact .cons (hs _ m) (rowsIn_own hs h2)
 | [], _ :: _, h => by cases h
 | _ :: _, [], h => by cases h
section
variable {w : World} {led : List (Addr × Obj)}
theorem fixed_atoms_spec : Does w 28 1 [] [] (fun r l => ∃ d vs, r = .ref d ∧ l = [(d, tupO vs)] ∧ StrVals vs fixedAtoms) := by
 refine z_in [] (R := []) (fun _ h => h) ∅ ∅ ∅ ?_
 intro Z hZ G tk sz hP hR z
 (refine z_nt 121 (l := []) ∅ ∅ ?_; intro own hnd hof z)
 obtain ⟨vs, m, hv⟩ := tupStrs (own := own) (j := 0) (xs := fixedAtoms) ∅
 exact z_end2 99 (own := own) (led := []) (v := .ref (adr own 0)) hP ∅ ∅ ∅ (fun p hp => by rw [List.mem_singleton.mp hp]; exact List.mem_append_left _ m) (hZ _ _ ⟨_, vs, rfl, rfl, hv⟩)
theorem fixed_functors_spec : Does w 35 1 [] [] (fun r l => ∃ d vs rows, r = .ref d ∧ l = (d, tupO vs) :: rows ∧ (∀ p ∈ rows, p.1 ≠ d) ∧ RowsIn rows vs fixedFuns) := by
 refine z_in [] (R := []) (fun _ h => h) ∅ ∅ ∅ ?_
 intro Z hZ G tk sz hP hR z
 (refine z_own 485 (l := []) ∅ ∅ ?_; intro own hnd hof hlt z)
 exact z_end2 99 (own := own ++ [(sz + 32, tupO (refs own (List.range 32)))]) (led := []) (l := (sz + 32, tupO (refs own (List.range 32))) :: own) (v := .ref (sz + 32)) hP ∅ ∅ ∅ (List.forall_mem_cons.mpr ⟨List.mem_append_left _ (List.mem_append_right _ (.head _)), fun p h => List.mem_append_left _ (List.mem_append_left _ h)⟩) (hZ _ _ ⟨_, _, own, rfl, rfl, fun p hp => Nat.ne_of_lt (hlt p (List.mem_append_left _ hp)), rowsIn_own (fun _ h => h) ∅⟩)
theorem fixed_atoms_S : Does w 28 1 [] led (fun r l => ∃ d vs, r = .ref d ∧ l = (d, tupO vs) :: led ∧ (∀ p ∈ led, p.1 ≠ d) ∧ StrVals vs fixedAtoms) :=
 Does.weak (fixed_atoms_spec.frame (own := led) (by intro p hp; cases hp)) (by
  rintro r l ⟨l', rfl, h1, d, vs, rfl, rfl, h2⟩
  exact ⟨_, ⟨d, vs, rfl, rfl, fun p hp => (h1 _ (.head _) p hp).symm, h2⟩, fun p hp => hp⟩)
theorem fixed_functors_S : Does w 35 1 [] led (fun r l => ∃ d vs rows, r = .ref d ∧ l = (d, tupO vs) :: (rows ++ led) ∧ (∀ p ∈ rows ++ led, p.1 ≠ d) ∧ (∀ p ∈ rows, ∀ q ∈ led, p.1 ≠ q.1) ∧ RowsIn rows vs fixedFuns) :=
 Does.weak (fixed_functors_spec.frame (own := led) (by intro p hp; cases hp)) (by
  rintro r l ⟨l', rfl, h1, d, vs, rows, rfl, rfl, h3, h2⟩
  refine ⟨_, ⟨d, vs, rows, rfl, rfl, fun p hp => ?_, fun p hp q hq => h1 p (.tail _ hp) q hq, h2⟩, fun p hp => hp⟩
  rcases List.mem_append.mp hp with h | h
  ·exact h3 p h
  ·exact (h1 _ (.head _) p h).symm)
end
end
section
noncomputable def addAll (t : List Str) (l : List Str) : List Str := l.foldl addText t
noncomputable def addRow (s : List Str × List (Int × Int)) (r : Str × Int) : List Str × List (Int × Int) := (addText s.1 r.1, addFun s.2 ((symIdx s.1 r.1 : Nat), r.2))
theorem addText_len (t : List Str) (x : Str) : (addText t x).length ≤ t.length + 1 := by unfold addText; split <;> simp
theorem addFun_len (t : List (Int × Int)) (x : Int × Int) : (addFun t x).length ≤ t.length + 1 := by unfold addFun; split <;> simp
theorem addAll_len (l : List Str) : ∀ t : List Str, (addAll t l).length ≤ t.length + l.length := by
 induction l with
 | nil => intro t; simp [addAll]
 | cons a r ih =>
  intro t
  have h1 := ih (addText t a)
  have h2 := addText_len t a
  have e : addAll t (a :: r) = addAll (addText t a) r := rfl
  rw [e, List.length_cons]
  lia
theorem addAll_snoc (t l : List Str) (x : Str) : addAll t (l ++ [x]) = addText (addAll t l) x := by simp [addAll]
theorem SymIn.mono {w : World} {a : Sy} {texts : List Str} {funs : List (Int × Int)} {b rest rest' : List (Addr × Obj)} (S : SymIn w a texts funs b rest) (h : ∀ p ∈ rest, p ∈ rest') (hd : ∀ p ∈ rest', ∀ q ∈ b, p.1 ≠ q.1) : SymIn w a texts funs b rest' := by
 obtain ⟨ts, n1, oD, kvs, fvs, n2, oF, rfl, h1, h2, h3, h4, h5⟩ := S.ex
 refine ⟨⟨ts, n1, oD, kvs, fvs, n2, oF, rfl, h1, h2, h3, h4.mono h, tupTab_mono h5 fun p hp => ?_⟩, h _ S.inst, h _ S.dict, fun p hp => hd p hp _ (.head _), fun p hp => hd p hp _ (.tail _ (.head _)), fun p hp => hd p hp _ (.tail _ (.tail _ (.head _))), fun p hp => hd p hp _ (.tail _ (.tail _ (.tail _ (.head _)))),
  S.d12, S.d13, S.d14, S.d23, S.d24, S.d34, S.sysm⟩
 rcases List.mem_cons.mp hp with e | e
 ·rw [e]; exact .head _
 ·exact .tail _ (h _ e)
theorem SymIn.off {w : World} {a : Sy} {texts : List Str} {funs : List (Int × Int)} {b rest : List (Addr × Obj)} (S : SymIn w a texts funs b rest) : ∀ p ∈ rest, ∀ q ∈ b, p.1 ≠ q.1 := by
 obtain ⟨ts, n1, oD, kvs, fvs, n2, oF, rfl, h1, h2, h3, h4, h5⟩ := S.ex
 intro p hp q hq
 simp only [List.mem_cons, List.not_mem_nil, or_false] at hq
 rcases hq with rfl | rfl | rfl | rfl
 ·exact S.o1 p hp
 ·exact S.o2 p hp
 ·exact S.o3 p hp
 ·exact S.o4 p hp
theorem addRow_len (l : List (Str × Int)) : ∀ s : List Str × List (Int × Int), (l.foldl addRow s).1.length ≤ s.1.length + l.length ∧ (l.foldl addRow s).2.length ≤ s.2.length + l.length := by
 induction l with
 | nil => intro s; simp
 | cons a r ih =>
  intro s
  have h1 := ih (addRow s a)
  have h2 := addText_len s.1 a.1
  have h3 := addFun_len s.2 ((symIdx s.1 a.1 : Nat), a.2)
  have e1 : (addRow s a).1 = addText s.1 a.1 := rfl
  have e2 : (addRow s a).2 = addFun s.2 ((symIdx s.1 a.1 : Nat), a.2) := rfl
  rw [List.foldl_cons, List.length_cons]
  rw [e1, e2] at h1
  lia
theorem take_snoc {α : Type} {l : List α} {i : Nat} {x : α} (h : l[i]? = some x) : l.take (i + 1) = l.take i ++ [x] := by rw [List.take_succ, h]; rfl
noncomputable def symStart : List Str × List (Int × Int) := fixedFuns.foldl addRow (addAll [] fixedAtoms, [])
theorem symIn_new {w : World} {x dx tA aD fA fD : Addr} {kt : Nat → Tok} {n n1 n2 : Nat} {oA oF : Obj} (hs : oA.IsDictOf (PySem.strKind pw w) []) (hi : oF.IsDictOf (intKind pw w) []) (lA : (aD == sysModules) = false) (lF : (fD == sysModules) = false)
  (nd : [dx, tA, aD, fA, fD].Nodup) (hx : ∀ y ∈ [dx, tA, aD, fA, fD], y ≠ x) :
  SymIn w ⟨x, dx, tA, aD, fA, fD, kt, n⟩ [] [] [(tA, PySem.W.listOf (strValues []).toArray n2), (aD, oA), (fA, PySem.W.listOf ([] : List Value).toArray n1), (fD, oF)] [(x, instObj 122 dx), (dx, dictOf (symEs w.params kt tA aD fA fD) n)] := by
 simp only [List.nodup_cons, List.mem_cons, not_or] at nd
 have off : ∀ z, z ∈ [dx, tA, aD, fA, fD] → dx ≠ z → ∀ p ∈ [(x, instObj 122 dx), (dx, dictOf (symEs w.params kt tA aD fA fD) n)], p.1 ≠ z := fun z hz hd =>
  List.forall_mem_cons.mpr ⟨(hx z hz).symm, List.forall_mem_cons.mpr ⟨hd, fun _ h => nomatch h⟩⟩
 exact ⟨⟨[], n2, oA, [], [], n1, oF, rfl, rfl, hs, .nil, .nil, TupTab.ofEmpty (.head _) lF hi⟩, .head _, .tail _ (.head _), off _ (.tail _ (.head _)) nd.1.1, off _ (.tail _ (.tail _ (.head _))) nd.1.2.1, off _ (.tail _ (.tail _ (.tail _ (.head _)))) nd.1.2.2.1, off _ (.tail _ (.tail _ (.tail _ (.tail _ (.head _))))) nd.1.2.2.2.1, nd.2.1.1, nd.2.1.2.1, nd.2.1.2.2.1, nd.2.2.1.1, nd.2.2.1.2.1, nd.2.2.2.1.1, lA⟩
inductive SymJ (w : World) (a : Sy) (R' : List (Addr × Obj)) (texts : List Str) (funs : List (Int × Int)) : List (Addr × Obj) → Prop
 | mk {b rest : List (Addr × Obj)} (hs : ∀ p ∈ R', p ∈ rest) (S : SymIn w a texts funs b rest) : SymJ w a R' texts funs (b ++ rest)
theorem mem_mid' {α : Type} {x : α} {b r : List α} : ∀ p ∈ [] ++ (b ++ (x :: r)), p ∈ [] ++ (x :: (b ++ r)) := by
 intro p hp
 simp only [List.nil_append, List.mem_append, List.mem_cons] at hp ⊢
 rcases hp with h | h | h
 ·exact .inr (.inl h)
 ·exact .inl h
 ·exact .inr (.inr h)
section
variable {w : World}
theorem symbols_init {x dx : Addr} (hx : dx < x) : Does w 49 3 [.ref x] [(x, instObj 122 dx), (dx, dictOf [] 0)] (fun r l => r = .none ∧ ∃ a b rest, a.nA = x ∧ l = b ++ rest ∧ SymIn w a symStart.1 symStart.2 b rest) := by
 refine Does.sub (led := [(dx, dictOf [] 0)] ++ [(x, instObj 122 dx)]) (fun p hp => by
  rcases List.mem_cons.mp hp with h | h
  ·rw [h]; exact .tail _ (.head _)
  ·rw [List.mem_singleton.mp h]; exact .head _) ?_
 refine z_inO [("self", .ref x)] [(dx, dictOf [] 0)] [(x, instObj 122 dx)] (R := [(x, instObj 122 dx)]) (fun _ h => h) (by simp) (fun p hp q hq => by rw [List.mem_singleton.mp hp, List.mem_singleton.mp hq]; exact Nat.ne_of_lt hx) ∅ ∅ ∅ ?_
 intro Z hZ G tk s0 hP hR z
 have hi : (x, instObj 122 dx) ∈ [(x, instObj 122 dx)] := .head _
 refine z_setO 99 0 (zR hR hi) ∅ ?_; intro s1 z
 refine z_newD 99 ∅ ?_; intro d1 o1 sd1 l1 h1 _ z
 refine z_setO 99 0 (zR hR hi) ∅ ?_; intro s2 z
 refine z_setO 99 0 (zR hR hi) ∅ ?_; intro s3 z
 refine z_newD 99 ∅ ?_; intro d2 o2 sd2 l2 _ h2 z
 refine z_setO 99 0 (zR hR hi) ∅ ?_; intro s4 z
 refine z_own 1 (l := [(x, instObj 122 dx)]) ∅ ∅ ?_; intro own hnd hoff hlt z
 have e0 : own = [(dx, dictOf (symEs w.params (ktOf own) s0 d1 s2 d2) 4), (s0, PySem.W.listOf #[] 0), (d1, o1), (s2, PySem.W.listOf #[] 0), (d2, o2)] := by kernel_rfl
 have nd : [dx, s0, d1, s2, d2].Nodup := by rw [e0] at hnd; exact hnd
 have hx' : ∀ y ∈ [dx, s0, d1, s2, d2], y ≠ x := fun y hy => by
  obtain ⟨p, hp, e⟩ : ∃ p ∈ own, p.1 = y := by rw [e0]; exact List.mem_map.mp hy
  exact e ▸ hoff p hp _ (.head _)
 have S0 := symIn_new (w := w) (kt := ktOf own) (n := 4) (n1 := 0) (n2 := 0) h1 h2 l1 l2 nd hx'
 generalize hb0 : [(s0, PySem.W.listOf (strValues []).toArray 0), (d1, o1), (s2, PySem.W.listOf ([] : List Value).toArray 0), (d2, o2)] = b0 at S0
 generalize hr0 : [(x, instObj 122 dx), (dx, dictOf (symEs w.params (ktOf own) s0 d1 s2 d2) 4)] = r0 at S0
 have hRr : ∀ p ∈ G.R, p ∈ r0 := fun p hp => by rw [hR] at hp; rw [← hr0]; exact List.mem_singleton.mp hp ▸ .head _
 refine z_side 0 (own := own) (led := [(x, instObj 122 dx)]) (own' := []) (led' := b0 ++ r0) ∅ ∅ ∅ (fun p hp => by
  rw [e0]
  rw [← hb0, ← hr0] at hp
  simp only [List.cons_append, List.nil_append, List.mem_cons, List.not_mem_nil, or_false] at hp ⊢
  rcases hp with h | h | h | h | h | h
  ·exact .inr (.inl h)
  ·exact .inr (.inr (.inl h))
  ·exact .inr (.inr (.inr (.inl h)))
  ·exact .inr (.inr (.inr (.inr (.inl h))))
  ·exact .inr (.inr (.inr (.inr (.inr h))))
  ·exact .inl h) (fun _ _ => ⟨List.nodup_nil, fun _ h => nomatch h⟩) (fun p hp => List.mem_append_right _ (hRr p hp)) ?_; intro z
 clear hb0 hr0
 refine z_call 99 (fun _ => fixed_atoms_S (led := b0 ++ r0)) (by decide) ∅ ∅ ?_
 rintro _ _ ⟨tp, vs, rfl, rfl, hof, hvs⟩ tk2 sz2
 refine ⟨fun p hp => .tail _ (List.mem_append_right _ (hRr p hp)), ?_⟩; intro z
 have S1 := S0.mono (rest' := (tp, tupO vs) :: r0) (fun p hp => .tail _ hp) (List.forall_mem_cons.mpr ⟨fun q hq => (hof q (List.mem_append_left _ hq)).symm, S0.off⟩)
 refine z_side 1 (own := []) (led := (tp, tupO vs) :: (b0 ++ r0)) (own' := []) (led' := b0 ++ ((tp, tupO vs) :: r0)) ∅ ∅ ∅ mem_mid' (fun _ _ => ⟨List.nodup_nil, fun _ h => nomatch h⟩) (fun p hp => List.mem_append_right _ (.tail _ (hRr p hp))) ?_; intro z
 refine z_for 0 (iters_tup (tp := tp) (vs := vs) (R' := (tp, tupO vs) :: r0) (.head _)) (fun i ns ow led => ns = ([("self", .ref x)] : List (Str × Value)) ∧ ow = [] ∧ SymJ w ⟨x, dx, s0, d1, s2, d2, ktOf own, 4⟩ ((tp, tupO vs) :: r0) (addAll [] (fixedAtoms.take i)) [] led) (ns := [("self", .ref x)]) (own := []) (led := b0 ++ ((tp, tupO vs) :: r0)) ∅ ∅ ∅ ∅ (fun p hp => .tail _ (hRr p hp)) (fun p hp => List.mem_append_right _ hp) ⟨rfl, rfl, .mk (fun _ h => h) S1⟩ ?_ ?_
 ·rintro i v _ m _ _ tk sz hi hv ⟨rfl, rfl, ⟨hs, S⟩⟩ G' hR' hP' z
  rename_i b rest
  have hi' : i < fixedAtoms.length := hvs.len ▸ hi
  obtain ⟨t, ht⟩ := hvs.get (List.getElem?_eq_getElem hi')
  rw [ht] at hv
  cases hv
  have hz : (addAll [] (fixedAtoms.take i)).length ≤ 1000 := by have := addAll_len (fixedAtoms.take i) []; have h2 : fixedAtoms.length = 29 := rfl; simp at this; lia
  have e : addAll [] (fixedAtoms.take (i + 1)) = addText (addAll [] (fixedAtoms.take i)) fixedAtoms[i] := by rw [take_snoc (List.getElem?_eq_getElem hi')]; exact addAll_snoc _ _ _
  refine z_meth 99 (zL ∅ (List.mem_append_right b S.inst)) (zL ∅ (List.mem_append_right b S.dict)) ∅ ?_; intro z
  refine z_call 99 (fun t => atom_S S hz fixedAtoms[i] (t 1)) (by decide) ∅ ∅ ?_
  rintro _ _ ⟨⟨t', rfl⟩, b', rfl, S'⟩ tk2 sz2
  refine ⟨fun p hp => List.mem_append_right _ (hs p (hR' ▸ hp)), ?_⟩; intro z
  exact z_turn 99 hP' [("self", .ref x)] (own := []) (led := b' ++ rest) ∅ ∅ ∅ ∅ ⟨rfl, rfl, .mk hs (by rw [e]; exact S')⟩
 ·rintro _ m _ _ tk sz ⟨rfl, rfl, ⟨hs, S⟩⟩ z
  rename_i b rest
  rw [hvs.len, List.take_length] at S
  have hRs : ∀ p ∈ G.R, p ∈ rest := fun p hp => hs p (.tail _ (hRr p hp))
  refine z_call 99 (fun _ => fixed_functors_S (led := b ++ rest)) (by decide) ∅ ∅ ?_
  rintro _ _ ⟨d, vs2, rows, rfl, rfl, hoff2, hdis, hrows⟩ tk2 sz2
  refine ⟨fun p hp => .tail _ (List.mem_append_right _ (List.mem_append_right _ (hRs p hp))), ?_⟩; intro z
  have S1 := S.mono (rest' := (d, tupO vs2) :: (rows ++ rest)) (fun p hp => .tail _ (List.mem_append_right _ hp)) (List.forall_mem_cons.mpr ⟨fun q hq => (hoff2 q (List.mem_append_right _ (List.mem_append_left _ hq))).symm, fun p hp q hq => (List.mem_append.mp hp).elim (fun h => hdis p h q (List.mem_append_left _ hq)) fun h => S.off p h q hq⟩)
  refine z_side 1 (own := []) (led := (d, tupO vs2) :: (rows ++ (b ++ rest))) (own' := []) (led' := b ++ ((d, tupO vs2) :: (rows ++ rest))) ∅ ∅ ∅ (fun p hp => by
   simp only [List.nil_append, List.mem_append, List.mem_cons] at hp ⊢
   rcases hp with h | h | h | h
   ·exact .inr (.inr (.inl h))
   ·exact .inl h
   ·exact .inr (.inl h)
   ·exact .inr (.inr (.inr h))) (fun _ _ => ⟨List.nodup_nil, fun _ h => nomatch h⟩) (fun p hp => List.mem_append_right _ (.tail _ (List.mem_append_right _ (hRs p hp)))) ?_; intro z
  refine z_for 0 (iters_tup (tp := d) (vs := vs2) (R' := (d, tupO vs2) :: (rows ++ rest)) (.head _)) (fun i ns ow led => ns = ([("self", .ref x)] : List (Str × Value)) ∧ ow = [] ∧ SymJ w ⟨x, dx, s0, d1, s2, d2, ktOf own, 4⟩ ((d, tupO vs2) :: (rows ++ rest)) ((fixedFuns.take i).foldl addRow (addAll [] fixedAtoms, [])).1 ((fixedFuns.take i).foldl addRow (addAll [] fixedAtoms, [])).2 led) (ns := [("self", .ref x)]) (own := []) (led := b ++ ((d, tupO vs2) :: (rows ++ rest))) ∅ ∅ ∅ ∅ (fun p hp => .tail _ (List.mem_append_right _ (hRs p hp))) (fun p hp => List.mem_append_right _ hp) ⟨rfl, rfl, .mk (fun _ h => h) S1⟩ ?_ ?_
  ·rintro i v _ m _ _ tk sz hi hv ⟨rfl, rfl, ⟨hs, S⟩⟩ G' hR' hP' z
   rename_i b rest
   have hi' : i < fixedFuns.length := hrows.len ▸ hi
   obtain ⟨rp, t1, t2, ht, hmem⟩ := hrows.get (List.getElem?_eq_getElem hi')
   rw [ht] at hv
   cases hv
   have hz := addRow_len (fixedFuns.take i) (addAll [] fixedAtoms, [])
   have hz3 : fixedFuns.length = 32 := rfl
   have hz4 := addAll_len fixedAtoms []
   have hz5 : fixedAtoms.length = 29 := rfl
   have hz1 : ((fixedFuns.take i).foldl addRow (addAll [] fixedAtoms, [])).1.length ≤ 1000 := by simp at hz hz4; lia
   have hz2 : ((fixedFuns.take i).foldl addRow (addAll [] fixedAtoms, [])).2.length ≤ 1000 := by simp at hz hz4; lia
   have e : (fixedFuns.take (i + 1)).foldl addRow (addAll [] fixedAtoms, []) = addRow ((fixedFuns.take i).foldl addRow (addAll [] fixedAtoms, [])) fixedFuns[i] := by rw [take_snoc (List.getElem?_eq_getElem hi'), List.foldl_append]; rfl
   refine z_meth 99 (zL ∅ (List.mem_append_right b S.inst)) (zL ∅ (List.mem_append_right b S.dict)) ∅ ?_; intro z
   refine z_item (i := 0) 99 (zR hR' (.tail _ (List.mem_append_left _ hmem))) ∅ ?_; intro z
   refine z_item (i := 1) 99 (zR hR' (.tail _ (List.mem_append_left _ hmem))) ∅ ?_; intro z
   refine z_call 99 (fun t => func_S S hz1 hz2 fixedFuns[i].1 fixedFuns[i].2 (t 1) (t 2)) (by decide) ∅ ∅ ?_
   rintro _ _ ⟨⟨t', rfl⟩, b', ext, rfl, _, S'⟩ tk2 sz2
   refine ⟨fun p hp => List.mem_append_right _ (List.mem_append_right _ (hs p (hR' ▸ hp))), ?_⟩; intro z
   exact z_turn 99 hP' [("self", .ref x)] (own := []) (led := b' ++ (ext ++ rest)) ∅ ∅ ∅ ∅ ⟨rfl, rfl, .mk (fun p hp => List.mem_append_right _ (hs p hp)) (by rw [e]; exact S')⟩
  ·rintro _ m _ _ tk sz ⟨rfl, rfl, ⟨hs, S⟩⟩ z
   rename_i b rest
   rw [hrows.len, List.take_length] at S
   exact z_end 99 hP ∅ ∅ (hZ _ _ ⟨rfl, _, b, rest, rfl, rfl, S⟩)
end
end
section
set_option tactic.hygienic false
theorem symbols_make {w : World} : Does w 122 4 [] [] (fun r l => ∃ x, r = .ref x ∧ ∃ a b rest, a.nA = x ∧ l = b ++ rest ∧ SymIn w a symStart.1 symStart.2 b rest) :=
 Does.make ∅ ∅ ∅ (fun _ _ _ h => symbols_init h)
end
section
set_option tactic.hygienic false
set_option genSizeOf true in
inductive Tm
 | v (k : Int)
 | i (k : Int)
 | a (k : Int)
 | s (f : Int) (args : List Tm)
mutual
inductive TermAt (l : List (Addr × Obj)) : Tm → Addr → Prop
 | v {d : Addr} {k : Int} {t1 t2 : Tok} : (d, tupO [.str "v" t1, .int k t2]) ∈ l → TermAt l (.v k) d
 | i {d : Addr} {k : Int} {t1 t2 : Tok} : (d, tupO [.str "i" t1, .int k t2]) ∈ l → TermAt l (.i k) d
 | a {d : Addr} {k : Int} {t1 t2 : Tok} : (d, tupO [.str "a" t1, .int k t2]) ∈ l → TermAt l (.a k) d
 | s {d b : Addr} {f : Int} {t1 t2 : Tok} {args : List Tm} {vs : List Value} : (d, tupO [.str "s" t1, .int f t2, .ref b]) ∈ l → (b, tupO vs) ∈ l → TermsAt l args vs → TermAt l (.s f args) d
inductive TermsAt (l : List (Addr × Obj)) : List Tm → List Value → Prop
 | nil : TermsAt l [] []
 | cons {t : Tm} {d : Addr} {ts : List Tm} {vs : List Value} : TermAt l t d → TermsAt l ts vs → TermsAt l (t :: ts) (.ref d :: vs)
end
mutual
theorem TermAt.mono {l l' : List (Addr × Obj)} (k : ∀ p ∈ l, p ∈ l') : ∀ {t : Tm} {d : Addr}, TermAt l t d → TermAt l' t d
 | _, _, .v h => .v (k _ h)
 | _, _, .i h => .i (k _ h)
 | _, _, .a h => .a (k _ h)
 | _, _, .s h1 h2 h3 => .s (k _ h1) (k _ h2) (TermsAt.mono k h3)
theorem TermsAt.mono {l l' : List (Addr × Obj)} (k : ∀ p ∈ l, p ∈ l') : ∀ {ts : List Tm} {vs : List Value}, TermsAt l ts vs → TermsAt l' ts vs
 | _, _, .nil => .nil
 | _, _, .cons h1 h2 => .cons (h1.mono k) (h2.mono k)
end
theorem TermsAt.len {l : List (Addr × Obj)} : ∀ {ts : List Tm} {vs : List Value}, TermsAt l ts vs → vs.length = ts.length
 | _, _, .nil => rfl
 | _, _, .cons _ h => by simp [h.len]
theorem TermsAt.get {l : List (Addr × Obj)} : ∀ {ts : List Tm} {vs : List Value}, TermsAt l ts vs → ∀ {i : Nat} {t : Tm}, ts[i]? = some t → ∃ d, vs[i]? = some (.ref d) ∧ TermAt l t d
 | _, _, .nil, i, t, e => by simp at e
 | _, _, .cons h1 h2, 0, t, e => by simp at e; subst e; exact ⟨_, rfl, h1⟩
 | _, _, .cons h1 h2, i + 1, t, e => by simp at e; simpa using h2.get e
theorem TermsAt.snoc {l : List (Addr × Obj)} {t : Tm} {d : Addr} : ∀ {ts : List Tm} {vs : List Value}, TermsAt l ts vs → TermAt l t d → TermsAt l (ts ++ [t]) (vs ++ [.ref d])
 | _, _, .nil, h => .cons h .nil
 | _, _, .cons h1 h2, h => .cons h1 (h2.snoc h)
noncomputable def listOfTm : Tm → List Tm × Tm
 | .s 0 [x, y] => let r := listOfTm y; (x :: r.1, r.2)
 | t => ([], t)
mutual
inductive OkT : Tm → Prop
 | v {k : Int} : OkT (.v k)
 | i {k : Int} : -1000 ≤ k → k ≤ 1000 → OkT (.i k)
 | a {k : Int} : 0 ≤ k → k ≤ 1000 → OkT (.a k)
 | s {f : Int} {args : List Tm} : 0 ≤ f → f ≤ 1000 → (f = 0 → args.length = 2) → args ≠ [] → args.length ≤ 3 → OkTs args → OkT (.s f args)
inductive OkTs : List Tm → Prop
 | nil : OkTs []
 | cons {t : Tm} {ts : List Tm} : OkT t → OkTs ts → OkTs (t :: ts)
end
end
section
section
variable {w : World} {led : List (Addr × Obj)}
inductive LiZ (led : List (Addr × Obj)) (t : Tm) (lst : Addr) : Nat → List (Str × Value) → List (Addr × Obj) → List (Addr × Obj) → Prop
 | mk {pre : List Tm} {ra : Array Value} {n : Nat} {t' : Tm} {d' : Addr} (hp : TermsAt led pre ra.toList) (ha : TermAt led t' d') (ok : OkT t') (e1 : pre ++ (listOfTm t').1 = (listOfTm t).1) (e2 : (listOfTm t').2 = (listOfTm t).2) : LiZ led t lst (sizeOf t') [("items", .ref lst), ("term", .ref d')] [(lst, PySem.W.listOf ra n)] led
theorem listOfTm_ne {f : Int} {args : List Tm} (h : f ≠ 0) : listOfTm (.s f args) = ([], .s f args) := by
 unfold listOfTm
 split
 ·rename_i e; injection e with e1 e2; exact absurd e1 h
 ·rfl
theorem OkTs.get2 {x y : Tm} (h : OkTs [x, y]) : OkT x ∧ OkT y := by
 cases h with
 | cons h1 h2 => cases h2 with
  | cons h2 _ => exact ⟨h1, h2⟩
theorem li_end {Z : Value → List (Addr × Obj) → Prop} {G : ZG w (nmAt w 133) 0} {t : Tm} {lst d : Addr} {ra : Array Value} {n : Nat} (hP : G.P = ZFin Z) (hZ : ∀ r l, (∃ rt lst tl vs n, r = .ref rt ∧ l = (rt, tupO [.ref lst, .ref tl]) :: (lst, PySem.W.listOf vs.toArray n) :: led ∧ TermsAt led (listOfTm t).1 vs ∧ TermAt led (listOfTm t).2 tl) → Z r l) (h1 : TermsAt led (listOfTm t).1 ra.toList) (h2 : TermAt led (listOfTm t).2 d) :
  ∀ m tk sz, ZT G ⟨⟨([("items", .ref lst), ("term", .ref d)] : List (Str × Value)) ++ m, [(lst, PySem.W.listOf ra n)], led, tk, sz⟩, [], .ss ((bdAt w 133).drop 2)⟩ := by
 intro m tk sz
 exact z_end2 99 (v := .ref sz) (own := [(lst, PySem.W.listOf ra n), (sz, tupO [.ref lst, .ref d])]) (led := led) (l := (sz, tupO [.ref lst, .ref d]) :: (lst, PySem.W.listOf ra n) :: led) hP ∅ ∅ ∅ (fun p hp => by simp only [List.mem_cons, List.mem_append, List.not_mem_nil, or_false] at hp ⊢; rcases hp with h | h | h <;> simp [h]) (hZ _ _ ⟨sz, lst, d, ra.toList, n, rfl, rfl, h1, h2⟩)
theorem list_items_spec {d : Addr} {t : Tm} (ht : TermAt led t d) (ok : OkT t) (hz : (listOfTm t).1.length ≤ 1000) : Does w 133 1 [.ref d] led (fun r l => ∃ rt lst tl vs n, r = .ref rt ∧ l = (rt, tupO [.ref lst, .ref tl]) :: (lst, PySem.W.listOf vs.toArray n) :: led ∧
  TermsAt led (listOfTm t).1 vs ∧ TermAt led (listOfTm t).2 tl) := by
 refine z_in [("term", .ref d)] (R := led) (fun p hp => hp) ∅ ∅ ∅ ?_
 intro Z hZ G tk sz hP hR z
 refine z_while 10 (R' := led) (LiZ led t sz) (sizeOf t) (ns := [("items", .ref sz), ("term", .ref d)]) (own := [(sz, PySem.W.listOf #[] 0)]) (led := led) ∅ ∅ ∅ ∅ (fun p hp => hR ▸ hp) (fun p hp => hp) (.mk .nil ht ok rfl rfl) ?_
 rintro _ _ m _ _ tk1 sz1 ⟨hp, ha, ok', e1, e2⟩ G' hR' hP' z
 rename_i pre ra n t' d'
 have hra : ra.size ≤ 1000 := by
  have h1 := congrArg List.length e1
  have h2 := hp.len
  rw [Array.length_toList] at h2
  rw [List.length_append] at h1
  lia
 have fin : ∀ x, t' = x → listOfTm x = ([], x) → ∀ m tk sz, ZT G ⟨⟨([("items", .ref _), ("term", .ref d')] : List (Str × Value)) ++ m, [(_, PySem.W.listOf ra n)], led, tk, sz⟩, [], .ss ((bdAt w 133).drop 2)⟩ := fun x hx h => li_end (t := t) (lst := sz) hP hZ (by rw [hx, h, List.append_nil] at e1; exact e1 ▸ hp) (by rw [hx, h] at e2; rw [← e2, ← hx]; exact ha)
 have ha9 := ha
 cases ha with
 | v hm =>
  refine z_item (i := 0) 99 (zR hR' hm) ∅ ?_; intro z
  refine z_out 99 hP' ∅ ?_; intro z
  exact z_joinN 1 _ (fin _ rfl rfl) ∅ ∅ ∅ ∅ ∅
 | i hm =>
  refine z_item (i := 0) 99 (zR hR' hm) ∅ ?_; intro z
  refine z_out 99 hP' ∅ ?_; intro z
  exact z_joinN 1 _ (fin _ rfl rfl) ∅ ∅ ∅ ∅ ∅
 | a hm =>
  refine z_item (i := 0) 99 (zR hR' hm) ∅ ?_; intro z
  refine z_out 99 hP' ∅ ?_; intro z
  exact z_joinN 1 _ (fin _ rfl rfl) ∅ ∅ ∅ ∅ ∅
 | s hm hb hargs =>
  rename_i b f t1 t2 args ws
  refine z_item (i := 0) 99 (zR hR' hm) ∅ ?_; intro z
  refine z_item (i := 1) 99 (zR hR' hm) ∅ ?_; intro z
  by_cases hf : f = 0
  ·subst hf
   obtain ⟨x, y, rfl⟩ : ∃ x y, args = [x, y] := by
    cases ok' with
    | s _ _ h2 _ _ _ =>
     match args, h2 rfl with
     | [x, y], _ => exact ⟨x, y, rfl⟩
   cases hargs with
   | cons hx hr =>
    rename_i dx _
    cases hr with
    | cons hy hr =>
     rename_i dy _
     cases hr
     have oky : OkT y := by
      cases ok' with
      | s _ _ _ _ _ h => exact h.get2.2
     refine z_lm 99 0 PySem.F.slot_list_append PySem.F.type_list_append ∅ ?_; intro z
     refine z_item (i := 2) 99 (zR hR' hm) ∅ ?_; intro z
     refine z_item (i := 0) 99 (zR hR' hb) ∅ ?_; intro z
     refine z_append 99 0 ∅ (z_sz (Nat.le_trans hra (by decide)) ∅) ?_; intro z
     refine z_item (i := 2) 99 (zR hR' hm) ∅ ?_; intro z
     refine z_item (i := 1) 99 (zR hR' hb) ∅ ?_; intro z
     exact z_turn 99 hP' [("items", .ref sz), ("term", .ref dy)] (own := [(sz, PySem.W.listOf (ra.push (.ref dx)) (n + 1))]) (led := led) ∅ ∅ ∅ ∅ ⟨sizeOf y, by simp; lia, .mk (pre := pre ++ [x]) (by rw [Array.toList_push]; exact hp.snoc hx) hy oky (by rw [← e1]; simp [listOfTm]) (by rw [← e2]; simp [listOfTm])⟩
  ·refine z_br 6 false (beq_false_of_ne hf) ∅ ?_; intro z
   refine z_out 99 hP' ∅ ?_; intro z
   exact z_joinN 1 _ (fin _ rfl (listOfTm_ne hf)) ∅ ∅ ∅ ∅ ∅
end
end
section
set_option tactic.hygienic false
inductive Kd | yfx | fy | xfy | xfx | fx | xf | yf
 deriving DecidableEq
noncomputable def Kd.text : Kd → Str
 | .yfx => "yfx" | .fy => "fy" | .xfy => "xfy" | .xfx => "xfx" | .fx => "fx" | .xf => "xf" | .yf => "yf"
inductive Fx | pre | inf | post
 deriving DecidableEq
noncomputable def Kd.side : Kd → Fx
 | .fx => .pre | .fy => .pre | .xf => .post | .yf => .post | _ => .inf
noncomputable def Fx.text : Fx → Str
 | .pre => "prefix" | .inf => "infix" | .post => "postfix"
noncomputable def bnd (p : Int) : Kd → Int × Int
 | .fx => (0, p - 1) | .fy => (0, p) | .xf => (p - 1, 0) | .yf => (p, 0) | .xfy => (p - 1, p) | .yfx => (p, p - 1) | .xfx => (p - 1, p - 1)
theorem in_pre (k : Kd) : ([Str.ofString "fx", Str.ofString "fy"].any (· == k.text)) = decide (k.side = .pre) := by cases k <;> kernel_rfl
theorem in_inf (k : Kd) : ([Str.ofString "xfx", Str.ofString "xfy", Str.ofString "yfx"].any (· == k.text)) = decide (k.side = .inf) := by cases k <;> kernel_rfl
theorem in_post (k : Kd) : ([Str.ofString "xf", Str.ofString "yf"].any (· == k.text)) = decide (k.side = .post) := by cases k <;> kernel_rfl
section
variable {w : World} {N : List (Str × NameKind)} {d : Nat} {G : ZG w N d} {c : ZC}
noncomputable def ipair (own : List (Addr × Obj)) (j : Nat) : Option (Int × Int) := tupF own j fun vs => two vs none fun a b => onInt a none fun x => onInt b none fun y => some (x, y)
theorem ipair_ok {own : List (Addr × Obj)} {j : Nat} {x y : Int} (h : ipair own j = some (x, y)) : ∃ t1 t2, (adr own j, tupO [.int x t1, .int y t2]) ∈ own := by
 obtain ⟨vs, m, h1⟩ := tupF_ok h
 obtain ⟨a, b, rfl, h2⟩ := two_ok h1 none_ne
 obtain ⟨x', t1, rfl, h3⟩ := onInt_ok h2 none_ne
 obtain ⟨y', t2, rfl, h4⟩ := onInt_ok h3 none_ne
 cases h4
 exact ⟨t1, t2, adr_mem m⟩
theorem z_endP2 (n : Nat) {Z : Value → List (Addr × Obj) → Prop} {led : List (Addr × Obj)} {x y : Int} (hP : G.P = ZFin Z) (hZ : ∀ r l, (∃ d t1 t2, r = .ref d ∧ l = (d, tupO [.int x t1, .int y t2]) :: led) → Z r l) (hl : (zgo N w.params n c).σ.led = led) (hp : ipair (zgo N w.params n c).σ.own 0 = some (x, y)) (hv : enOf (zgo N w.params n c) = some (.ref (adr (zgo N w.params n c).σ.own 0))) : ZT G c := by
 obtain ⟨t1, t2, hm⟩ := ipair_ok hp
 refine z_endO n (l := (_, _) :: led) hP hv (fun p hp => ?_) (hZ _ _ ⟨_, t1, t2, rfl, rfl⟩)
 rcases List.mem_cons.mp hp with rfl | hp
 ·exact List.mem_append_left _ hm
 ·exact List.mem_append_right _ (hl ▸ hp)
end
section
variable {w : World} {led : List (Addr × Obj)}
theorem fixity_spec (k : Kd) {t : Tok} : Does w 213 1 [.str k.text t] led (fun r l => (∃ t, r = .str k.side.text t) ∧ l = led) := by
 refine z_in [("type_text", .str k.text t)] (R := led) (fun p hp => hp) ∅ ∅ ∅ ?_
 intro Z hZ G tk sz hP hR z
 refine z_inG 99 [Str.ofString "fx", Str.ofString "fy"] (x := k.text) ∅ ?_; intro z
 cases hs : k.side with
 | pre =>
  (refine z_br 2 true (in_pre k |>.trans (decide_eq_true hs)) ∅ ?_; intro z)
  exact z_end2 99 (v := .str "prefix" tk) (own := []) (led := led) (l := led) hP ∅ ∅ ∅ (fun _ h => h) (hZ _ _ ⟨⟨_, by rw [hs]; rfl⟩, rfl⟩)
 | inf =>
  (refine z_br 2 false (in_pre k |>.trans (decide_eq_false (by rw [hs]; decide))) ∅ ?_; intro z)
  refine z_inG 99 [Str.ofString "xfx", Str.ofString "xfy", Str.ofString "yfx"] (x := k.text) ∅ ?_; intro z
  (refine z_br 2 true (in_inf k |>.trans (decide_eq_true hs)) ∅ ?_; intro z)
  exact z_end2 99 (v := .str "infix" tk) (own := []) (led := led) (l := led) hP ∅ ∅ ∅ (fun _ h => h) (hZ _ _ ⟨⟨_, by rw [hs]; rfl⟩, rfl⟩)
 | post =>
  (refine z_br 2 false (in_pre k |>.trans (decide_eq_false (by rw [hs]; decide))) ∅ ?_; intro z)
  refine z_inG 99 [Str.ofString "xfx", Str.ofString "xfy", Str.ofString "yfx"] (x := k.text) ∅ ?_; intro z
  (refine z_br 2 false (in_inf k |>.trans (decide_eq_false (by rw [hs]; decide))) ∅ ?_; intro z)
  refine z_inG 99 [Str.ofString "xf", Str.ofString "yf"] (x := k.text) ∅ ?_; intro z
  (refine z_br 2 true (in_post k |>.trans (decide_eq_true hs)) ∅ ?_; intro z)
  exact z_end2 99 (v := .str "postfix" tk) (own := []) (led := led) (l := led) hP ∅ ∅ ∅ (fun _ h => h) (hZ _ _ ⟨⟨_, by rw [hs]; rfl⟩, rfl⟩)
theorem bounds_spec (k : Kd) {p : Int} {t tp : Tok} (h1 : 0 ≤ p) (h2 : p ≤ 1200) : Does w 220 1 [.int p tp, .str k.text t] led (fun r l => ∃ d t1 t2, r = .ref d ∧ l = (d, tupO [.int (bnd p k).1 t1, .int (bnd p k).2 t2]) :: led) := by
 refine z_in [("priority", .int p tp), ("type_text", .str k.text t)] (R := led) (fun p hp => hp) ∅ ∅ ∅ ?_
 intro Z hZ G tk sz hP hR z
 cases k <;> exact z_endP2 150 hP hZ ∅ ∅ ∅
end
end
section
set_option tactic.hygienic false
noncomputable def opEs (P : Params) (kt : Nat → Tok) (nA : Addr) (d : Fx → Addr) : List DictEntry := [⟨PyData.keyHash P "symbols", .str "symbols" (kt 0), .ref nA⟩, ⟨PyData.keyHash P "prefixes", .str "prefixes" (kt 1), .ref (d .pre)⟩, ⟨PyData.keyHash P "infixes", .str "infixes" (kt 2), .ref (d .inf)⟩,
 ⟨PyData.keyHash P "postfixes", .str "postfixes" (kt 3), .ref (d .post)⟩]
noncomputable def hasKey (kvs : List (Int × Value)) (a : Int) : Bool := (valueAt kvs a).isSome
theorem mem_R {l l' : List (Addr × Obj)} {p : Addr × Obj} (e : l = l') (h : p ∈ l') : p ∈ l := e ▸ h
section
variable {w : World} {led : List (Addr × Obj)}
theorem prefix_spec {pA pD nA : Addr} {d : Fx → Addr} {kt : Nat → Tok} {n : Nat} {o : Obj} {kvs : List (Int × Value)} {a : Int} {ta : Tok} (m1 : (pA, instObj 287 pD) ∈ led) (m2 : (pD, dictOf (opEs w.params kt nA d) n) ∈ led) (m3 : (d .pre, o) ∈ led)
  (hd : o.IsDictOf (intKind pw w) kvs) (lo : (d .pre == sysModules) = false) : Does w 242 1 [.ref pA, .int a ta] led (fun r l => r = (valueAt kvs a).getD .none ∧ l = led) := by
 refine z_in [("self", .ref pA), ("a", .int a ta)] (R := led) (fun p hp => hp) ∅ ∅ ∅ ?_
 intro Z hZ G tk sz hP hR z
 refine z_attr 99 (zR hR m1) (zR hR m2) ∅ ?_; intro z
 refine z_getM 99 (zR hR m3) hd ∅ ?_; intro z
 refine z_op 99 (md := fun t => .pc (.builtin "dict.get") [.ref (d .pre), .int a (t 1)]) (fun _ => (valueAt kvs a).getD .none) (fun _ _ az _ q => kdg_get1 az.nw (az.at (mem_R hR m3)) hd lo (intKind_is _ _ _ _) _ rfl (q 0 _)) ∅ ∅ ?_; intro t tk z
 exact z_endE 99 hP hZ ∅ ∅
theorem infix_spec {pA pD nA : Addr} {d : Fx → Addr} {kt : Nat → Tok} {n : Nat} {o : Obj} {kvs : List (Int × Value)} {a : Int} {ta : Tok} (m1 : (pA, instObj 287 pD) ∈ led) (m2 : (pD, dictOf (opEs w.params kt nA d) n) ∈ led) (m3 : (d .inf, o) ∈ led)
  (hd : o.IsDictOf (intKind pw w) kvs) (lo : (d .inf == sysModules) = false) : Does w 249 1 [.ref pA, .int a ta] led (fun r l => r = (valueAt kvs a).getD .none ∧ l = led) := by
 refine z_in [("self", .ref pA), ("a", .int a ta)] (R := led) (fun p hp => hp) ∅ ∅ ∅ ?_
 intro Z hZ G tk sz hP hR z
 refine z_attr 99 (zR hR m1) (zR hR m2) ∅ ?_; intro z
 refine z_getM 99 (zR hR m3) hd ∅ ?_; intro z
 refine z_op 99 (md := fun t => .pc (.builtin "dict.get") [.ref (d .inf), .int a (t 1)]) (fun _ => (valueAt kvs a).getD .none) (fun _ _ az _ q => kdg_get1 az.nw (az.at (mem_R hR m3)) hd lo (intKind_is _ _ _ _) _ rfl (q 0 _)) ∅ ∅ ?_; intro t tk z
 exact z_endE 99 hP hZ ∅ ∅
theorem postfix_spec {pA pD nA : Addr} {d : Fx → Addr} {kt : Nat → Tok} {n : Nat} {o : Obj} {kvs : List (Int × Value)} {a : Int} {ta : Tok} (m1 : (pA, instObj 287 pD) ∈ led) (m2 : (pD, dictOf (opEs w.params kt nA d) n) ∈ led) (m3 : (d .post, o) ∈ led)
  (hd : o.IsDictOf (intKind pw w) kvs) (lo : (d .post == sysModules) = false) : Does w 256 1 [.ref pA, .int a ta] led (fun r l => r = (valueAt kvs a).getD .none ∧ l = led) := by
 refine z_in [("self", .ref pA), ("a", .int a ta)] (R := led) (fun p hp => hp) ∅ ∅ ∅ ?_
 intro Z hZ G tk sz hP hR z
 refine z_attr 99 (zR hR m1) (zR hR m2) ∅ ?_; intro z
 refine z_getM 99 (zR hR m3) hd ∅ ?_; intro z
 refine z_op 99 (md := fun t => .pc (.builtin "dict.get") [.ref (d .post), .int a (t 1)]) (fun _ => (valueAt kvs a).getD .none) (fun _ _ az _ q => kdg_get1 az.nw (az.at (mem_R hR m3)) hd lo (intKind_is _ _ _ _) _ rfl (q 0 _)) ∅ ∅ ?_; intro t tk z
 exact z_endE 99 hP hZ ∅ ∅
theorem is_operator_spec {pA pD nA : Addr} {d : Fx → Addr} {kt : Nat → Tok} {n : Nat} {o1 o2 o3 : Obj} {k1 k2 k3 : List (Int × Value)} {a : Int} {ta : Tok} (m1 : (pA, instObj 287 pD) ∈ led) (m2 : (pD, dictOf (opEs w.params kt nA d) n) ∈ led)
  (m3 : (d .pre, o1) ∈ led) (m4 : (d .inf, o2) ∈ led) (m5 : (d .post, o3) ∈ led) (h1 : o1.IsDictOf (intKind pw w) k1) (h2 : o2.IsDictOf (intKind pw w) k2) (h3 : o3.IsDictOf (intKind pw w) k3)
  (l1 : (d .pre == sysModules) = false) (l2 : (d .inf == sysModules) = false) (l3 : (d .post == sysModules) = false) : Does w 263 1 [.ref pA, .int a ta] led (fun r l => r = .bool (hasKey k1 a || (hasKey k2 a || hasKey k3 a)) ∧ l = led) := by
 refine z_in [("self", .ref pA), ("a", .int a ta)] (R := led) (fun p hp => hp) ∅ ∅ ∅ ?_
 intro Z hZ G tk sz hP hR z
 refine z_attr 99 (zR hR m1) (zR hR m2) ∅ ?_; intro z
 refine z_op 99 (md := fun t => .co .In (.int a (t 0)) (.ref (d .pre))) (fun _ => .bool (hasKey k1 a)) (fun _ _ az _ q => kda_in az.nw (az.at (mem_R hR m3)) h1 l1 (intKind_is _ _ _ _) _ rfl (q 0 _)) ∅ ∅ ?_; intro t tk z
 (refine z_split 2 (hasKey k1 a) ∅ (fun q1 => ?_) (fun q1 => ?_))
 ·intro z; exact z_endV 99 (v' := .bool (hasKey k1 a)) (by rw [q1]; rfl) hP hZ ∅ ∅
 intro z
 refine z_attr 99 (zR hR m1) (zR hR m2) ∅ ?_; intro z
 refine z_op 99 (md := fun t => .co .In (.int a (t 0)) (.ref (d .inf))) (fun _ => .bool (hasKey k2 a)) (fun _ _ az _ q => kda_in az.nw (az.at (mem_R hR m4)) h2 l2 (intKind_is _ _ _ _) _ rfl (q 0 _)) ∅ ∅ ?_; intro t tk z
 (refine z_split 2 (hasKey k2 a) ∅ (fun q2 => ?_) (fun q2 => ?_))
 ·intro z; exact z_endV 99 (v' := .bool (hasKey k2 a)) (by rw [q1, q2]; rfl) hP hZ ∅ ∅
 intro z
 refine z_attr 99 (zR hR m1) (zR hR m2) ∅ ?_; intro z
 refine z_op 99 (md := fun t => .co .In (.int a (t 0)) (.ref (d .post))) (fun _ => .bool (hasKey k3 a)) (fun _ _ az _ q => kda_in az.nw (az.at (mem_R hR m5)) h3 l3 (intKind_is _ _ _ _) _ rfl (q 0 _)) ∅ ∅ ?_; intro t tk z
 exact z_endV 99 (v' := .bool (hasKey k3 a)) (by rw [q1, q2]; rfl) hP hZ ∅ ∅
theorem table_of_spec (k : Kd) {t : Tok} {pA pD nA : Addr} {d : Fx → Addr} {kt : Nat → Tok} {n : Nat} (m1 : (pA, instObj 287 pD) ∈ led) (m2 : (pD, dictOf (opEs w.params kt nA d) n) ∈ led) : Does w 270 2 [.ref pA, .str k.text t] led (fun r l => r = .ref (d k.side) ∧ l = led) := by
 cases hs : k.side with
 | pre =>
  refine z_in [("self", .ref pA), ("type_text", .str k.text t)] (R := led) (fun p hp => hp) ∅ ∅ ∅ ?_
  intro Z hZ G tk sz hP hR z
  refine z_callT 99 (v := fun t => .str (Fx.text .pre) t) (fun t => hs ▸ fixity_spec (w := w) (led := led) k (t := t 0)) (by decide) ∅ ∅ ?_; intro tt tk2 sz2 z
  refine z_attr 99 (zR hR m1) (zR hR m2) ∅ ?_; intro z
  exact z_endE 99 hP hZ ∅ ∅
 | inf =>
  refine z_in [("self", .ref pA), ("type_text", .str k.text t)] (R := led) (fun p hp => hp) ∅ ∅ ∅ ?_
  intro Z hZ G tk sz hP hR z
  refine z_callT 99 (v := fun t => .str (Fx.text .inf) t) (fun t => hs ▸ fixity_spec (w := w) (led := led) k (t := t 0)) (by decide) ∅ ∅ ?_; intro tt tk2 sz2 z
  refine z_attr 99 (zR hR m1) (zR hR m2) ∅ ?_; intro z
  exact z_endE 99 hP hZ ∅ ∅
 | post =>
  refine z_in [("self", .ref pA), ("type_text", .str k.text t)] (R := led) (fun p hp => hp) ∅ ∅ ∅ ?_
  intro Z hZ G tk sz hP hR z
  refine z_callT 99 (v := fun t => .str (Fx.text .post) t) (fun t => hs ▸ fixity_spec (w := w) (led := led) k (t := t 0)) (by decide) ∅ ∅ ?_; intro tt tk2 sz2 z
  refine z_attr 99 (zR hR m1) (zR hR m2) ∅ ?_; intro z
  exact z_endE 99 hP hZ ∅ ∅
end
end
section
theorem valueAt_mapped (kvs : List (Int × Value)) (k : Int) (v : Value) (j : Int) : valueAt (kvs.map fun kv => if kv.1 = k then (kv.1, v) else kv) j = if j = k then (valueAt kvs k).map (fun _ => v) else valueAt kvs j := by
 induction kvs with
 | nil => simp [valueAt]
 | cons a r ih =>
  simp only [valueAt, List.map_cons, List.find?_cons] at ih ⊢
  obtain ⟨a1, a2⟩ := a
  by_cases h1 : a1 = k
  ·subst h1
   by_cases h2 : j = a1
   ·subst h2; simp
   ·have h3 : ¬ a1 = j := fun e => h2 e.symm
    simp only [if_true, h3, decide_false, if_neg h2] at ih ⊢
    exact ih
  ·by_cases h2 : a1 = j
   ·subst h2; simp [h1]
   ·simp only [h1, if_false, h2, decide_false] at ih ⊢
    exact ih
theorem valueAt_stored (kvs : List (Int × Value)) (k : Int) (v : Value) (j : Int) : valueAt (stored kvs k v) j = if j = k then some v else valueAt kvs j := by
 unfold stored
 split
 ·rename_i h
  rw [valueAt_mapped]
  rw [← valueAt_isSome_eq_any] at h
  obtain ⟨u, hu⟩ := Option.isSome_iff_exists.mp h
  rw [hu]; rfl
 ·rename_i h
  rw [← valueAt_isSome_eq_any] at h
  have hn : valueAt kvs k = none := by cases q : valueAt kvs k with
   | none => rfl
   | some _ => rw [q] at h; simp at h
  by_cases e : j = k
  ·subst e
   simp only [valueAt, List.find?_append, if_true] at hn ⊢
   simp only [Option.map_eq_none_iff] at hn
   rw [hn]; simp
  ·simp only [valueAt, List.find?_append, if_neg e]
   have e' : ¬ k = j := fun h => e h.symm
   simp [e']
theorem stored_len (kvs : List (Int × Value)) (k : Int) (v : Value) : (stored kvs k v).length ≤ kvs.length + 1 := by unfold stored; split <;> simp
structure Op where
 pA : Addr
 pD : Addr
 nA : Addr
 d : Fx → Addr
 kt : Nat → Tok
 n : Nat
noncomputable def EntAt (l : List (Addr × Obj)) (v : Option Value) : Option (Int × Kd) → Prop
 | none => v = none
 | some e => ∃ tp t1 t2, v = some (.ref tp) ∧ (tp, tupO [.int e.1 t1, .str e.2.text t2]) ∈ l
theorem EntAt.mono {l l' : List (Addr × Obj)} {v : Option Value} {e : Option (Int × Kd)} (h : EntAt l v e) (k : ∀ p ∈ l, p ∈ l') : EntAt l' v e := by
 cases e with
 | none => exact h
 | some x => obtain ⟨tp, t1, t2, e1, e2⟩ := h; exact ⟨tp, t1, t2, e1, k _ e2⟩
noncomputable def TabIs (l : List (Addr × Obj)) (kvs : List (Int × Value)) (f : Int → Option (Int × Kd)) : Prop := ∀ a, EntAt l (valueAt kvs a) (f a)
theorem TabIs.mono {l l' : List (Addr × Obj)} {kvs : List (Int × Value)} {f : Int → Option (Int × Kd)} (h : TabIs l kvs f) (k : ∀ p ∈ l, p ∈ l') : TabIs l' kvs f := fun a => (h a).mono k
theorem EntAt.has {l : List (Addr × Obj)} {v : Option Value} {e : Option (Int × Kd)} (h : EntAt l v e) : v.isSome = e.isSome := by
 cases e with
 | none => rw [show v = none from h]; rfl
 | some x => obtain ⟨tp, t1, t2, e1, e2⟩ := h; rw [e1]; rfl
structure OpIn (w : World) (p : Op) (f : Fx → Int → Option (Int × Kd)) (sz : Nat) (b rest : List (Addr × Obj)) : Prop where
 ex : ∃ (o : Fx → Obj) (kvs : Fx → List (Int × Value)), b = [(p.d .pre, o .pre), (p.d .inf, o .inf), (p.d .post, o .post)] ∧ (∀ x, (o x).IsDictOf (intKind pw w) (kvs x)) ∧ (∀ x, TabIs rest (kvs x) (f x)) ∧ ∀ x, (kvs x).length ≤ sz
 inst : (p.pA, instObj 287 p.pD) ∈ rest
 dict : (p.pD, dictOf (opEs w.params p.kt p.nA p.d) p.n) ∈ rest
 off : ∀ x, ∀ q ∈ rest, q.1 ≠ p.d x
 d12 : p.d .pre ≠ p.d .inf
 d13 : p.d .pre ≠ p.d .post
 d23 : p.d .inf ≠ p.d .post
 sysm : ∀ x, (p.d x == sysModules) = false
theorem OpIn.offb {w : World} {p : Op} {f : Fx → Int → Option (Int × Kd)} {sz : Nat} {b rest : List (Addr × Obj)} (S : OpIn w p f sz b rest) : ∀ q ∈ rest, ∀ z ∈ b, q.1 ≠ z.1 := by
 obtain ⟨o, kvs, rfl, h⟩ := S.ex
 intro q hq z hz
 simp only [List.mem_cons, List.not_mem_nil, or_false] at hz
 rcases hz with rfl | rfl | rfl
 ·exact S.off _ q hq
 ·exact S.off _ q hq
 ·exact S.off _ q hq
theorem OpIn.mono {w : World} {p : Op} {f : Fx → Int → Option (Int × Kd)} {sz : Nat} {b rest rest' : List (Addr × Obj)} (S : OpIn w p f sz b rest) (h : ∀ q ∈ rest, q ∈ rest') (hd : ∀ q ∈ rest', ∀ z ∈ b, q.1 ≠ z.1) : OpIn w p f sz b rest' := by
 obtain ⟨o, kvs, rfl, h1, h2, h3⟩ := S.ex
 refine ⟨⟨o, kvs, rfl, h1, fun x => (h2 x).mono h, h3⟩, h _ S.inst, h _ S.dict, fun x q hq => ?_, S.d12, S.d13, S.d23, S.sysm⟩
 cases x
 ·exact hd q hq _ (.head _)
 ·exact hd q hq _ (.tail _ (.head _))
 ·exact hd q hq _ (.tail _ (.tail _ (.head _)))
noncomputable def addOp (f : Fx → Int → Option (Int × Kd)) (k : Kd) (a p : Int) : Fx → Int → Option (Int × Kd) := fun x j => if x = k.side ∧ j = a then some (p, k) else f x j
noncomputable def setO {α : Type} (o : Fx → α) (y : Fx) (v : α) : Fx → α := fun x => if x = y then v else o x
theorem tab_put {l : List (Addr × Obj)} {kvs : Fx → List (Int × Value)} {f : Fx → Int → Option (Int × Kd)} (h : ∀ x, TabIs l (kvs x) (f x)) {tp : Addr} {p a : Int} {k : Kd} {t1 t2 : Tok} :
  ∀ x, TabIs ((tp, tupO [.int p t1, .str k.text t2]) :: l) (setO kvs k.side (stored (kvs k.side) a (.ref tp)) x) (addOp f k a p x) := by
 intro x j
 have hx := (h x).mono (l' := (tp, tupO [.int p t1, .str k.text t2]) :: l) (fun _ h => .tail _ h) j
 unfold addOp setO
 by_cases e : x = k.side
 ·subst e
  by_cases e2 : j = a
  ·subst e2
   rw [if_pos (show k.side = k.side from rfl), if_pos (show k.side = k.side ∧ j = j from ⟨rfl, rfl⟩), valueAt_stored, if_pos rfl]
   exact ⟨tp, t1, t2, rfl, .head _⟩
  ·rw [if_pos (show k.side = k.side from rfl), if_neg (show ¬ (k.side = k.side ∧ j = a) from fun h => e2 h.2), valueAt_stored, if_neg e2]
   exact hx
 ·rw [if_neg e, if_neg (show ¬ (x = k.side ∧ j = a) from fun h => e h.1)]
  exact hx
section
variable {w : World} {rest b : List (Addr × Obj)} {p : Op} {f : Fx → Int → Option (Int × Kd)} {sz : Nat}
theorem add_fin (S : OpIn w p f sz b rest) {o : Fx → Obj} {kvs : Fx → List (Int × Value)} (h1 : ∀ x, (o x).IsDictOf (intKind pw w) (kvs x)) (h2 : ∀ x, TabIs rest (kvs x) (f x)) (h3 : ∀ x, (kvs x).length ≤ sz) {tp : Addr} {pr a : Int} {k : Kd} {t1 t2 : Tok} {o' : Obj}
  (hd : o'.IsDictOf (intKind pw w) (stored (kvs k.side) a (.ref tp))) (htp : ∀ x, p.d x ≠ tp) : OpIn w p (addOp f k a pr) (sz + 1) [(p.d .pre, setO o k.side o' .pre), (p.d .inf, setO o k.side o' .inf), (p.d .post, setO o k.side o' .post)] ((tp, tupO [.int pr t1, .str k.text t2]) :: rest) := by
 refine ⟨⟨setO o k.side o', setO kvs k.side (stored (kvs k.side) a (.ref tp)), rfl, fun x => ?_, tab_put h2, fun x => ?_⟩, .tail _ S.inst, .tail _ S.dict, fun x q hq => ?_, S.d12, S.d13, S.d23, S.sysm⟩
 ·unfold setO; split
  ·exact hd
  ·exact h1 x
 ·unfold setO; split
  ·have := stored_len (kvs k.side) a (.ref tp); have := h3 k.side; lia
  ·have := h3 x; lia
 ·rcases List.mem_cons.mp hq with e | hq
  ·rw [e]; exact (htp x).symm
  ·exact S.off x q hq
theorem nod4 {d : Fx → Addr} {tp : Addr} (h : [d .pre, d .inf, d .post, tp].Nodup) : ∀ x, d x ≠ tp := by
 simp only [List.nodup_cons, List.mem_cons, not_or] at h
 intro x; cases x
 ·exact h.1.2.2.1
 ·exact h.2.1.2.1
 ·exact h.2.2.1.1
theorem add_S (S : OpIn w p f sz b rest) (hz : sz ≤ 1000) (k : Kd) {pr a : Int} {t1 t2 ta : Tok} (hp : 0 < pr) : Does w 277 3 [.ref p.pA, .int pr t1, .str k.text t2, .int a ta] (b ++ rest) (fun r l => r = .none ∧ ∃ b' tp, l = b' ++ ((tp, tupO [.int pr t1, .str k.text t2]) :: rest) ∧
  OpIn w p (addOp f k a pr) (sz + 1) b' ((tp, tupO [.int pr t1, .str k.text t2]) :: rest)) := by
 obtain ⟨o, kvs, rfl, h1, h2, h3⟩ := S.ex
 have zz : ∀ x, (kvs x).length ≤ sizeLine := fun x => Nat.le_trans (Nat.le_trans (h3 x) hz) (show 1000 ≤ sizeLine by decide)
 have fin := fun tp o' hd ht => add_fin S h1 h2 h3 (tp := tp) (pr := pr) (a := a) (k := k) (t1 := t1) (t2 := t2) (o' := o') hd ht
 have offb : ∀ q ∈ [(p.d .pre, o .pre), (p.d .inf, o .inf), (p.d .post, o .post)], ∀ y ∈ rest, q.1 ≠ y.1 := fun q hq y hy => (S.offb y hy q hq).symm
 have nd0 : (([(p.d .pre, o .pre), (p.d .inf, o .inf), (p.d .post, o .post)] : List (Addr × Obj)).map (·.1)).Nodup := by
  simp only [List.map_cons, List.map_nil, List.nodup_cons, List.mem_cons, List.not_mem_nil, or_false, not_or, not_false_eq_true, List.nodup_nil, and_true]
  exact ⟨⟨S.d12, S.d13⟩, S.d23⟩
 cases hs : k.side with
 | pre =>
  rw [hs] at fin
  refine z_inO [("self", .ref p.pA), ("priority", .int pr t1), ("type_text", .str k.text t2), ("a", .int a ta)] [(p.d .pre, o .pre), (p.d .inf, o .inf), (p.d .post, o .post)] rest (R := rest) (fun _ h => h) nd0 offb ∅ ∅ ∅ ?_
  intro Z hZ G tk sz hP hR z
  refine z_meth 99 (zR hR S.inst) (zR hR S.dict) ∅ ?_; intro z
  refine z_callE 99 (cl := rest) (v := fun _ => .ref (p.d .pre)) (fun t => hs ▸ table_of_spec (w := w) (led := rest) k (t := t 1) S.inst S.dict) (by decide) ∅ ∅ ?_; intro tk2 sz2 z
  (refine z_br 13 true (x := decide (0 < pr)) (decide_eq_true hp) ∅ ?_; intro z)
  (refine z_nt 14 (l := rest) ∅ ∅ ?_; intro own hnd hof z)
  have e1 : own.map (·.1) = [p.d .pre, p.d .inf, p.d .post, sz2] := by kernel_rfl
  rw [e1] at hnd
  refine z_setK 99 0 (D := p.d .pre) ∅ (h1 .pre) (zz .pre) (isI_ok (a := a) ∅) ∅ (v := .ref sz2) ∅ ?_; intro o' hd z
  exact z_end2 99 (v := .none) (own := [(p.d .pre, o'), (p.d .inf, o .inf), (p.d .post, o .post), (sz2, tupO [.int pr t1, .str k.text t2])]) (led := rest) (l := [(p.d .pre, o'), (p.d .inf, o .inf), (p.d .post, o .post)] ++ ((sz2, tupO [.int pr t1, .str k.text t2]) :: rest)) hP ∅ ∅ ∅ (fun _ h => h) (hZ _ _ ⟨rfl, [(p.d .pre, o'), (p.d .inf, o .inf), (p.d .post, o .post)], sz2, rfl, fin sz2 o' hd (nod4 hnd)⟩)
 | inf =>
  rw [hs] at fin
  refine z_inO [("self", .ref p.pA), ("priority", .int pr t1), ("type_text", .str k.text t2), ("a", .int a ta)] [(p.d .pre, o .pre), (p.d .inf, o .inf), (p.d .post, o .post)] rest (R := rest) (fun _ h => h) nd0 offb ∅ ∅ ∅ ?_
  intro Z hZ G tk sz hP hR z
  refine z_meth 99 (zR hR S.inst) (zR hR S.dict) ∅ ?_; intro z
  refine z_callE 99 (cl := rest) (v := fun _ => .ref (p.d .inf)) (fun t => hs ▸ table_of_spec (w := w) (led := rest) k (t := t 1) S.inst S.dict) (by decide) ∅ ∅ ?_; intro tk2 sz2 z
  (refine z_br 13 true (x := decide (0 < pr)) (decide_eq_true hp) ∅ ?_; intro z)
  (refine z_nt 14 (l := rest) ∅ ∅ ?_; intro own hnd hof z)
  have e1 : own.map (·.1) = [p.d .pre, p.d .inf, p.d .post, sz2] := by kernel_rfl
  rw [e1] at hnd
  refine z_setK 99 1 (D := p.d .inf) ∅ (h1 .inf) (zz .inf) (isI_ok (a := a) ∅) ∅ (v := .ref sz2) ∅ ?_; intro o' hd z
  exact z_end2 99 (v := .none) (own := [(p.d .pre, o .pre), (p.d .inf, o'), (p.d .post, o .post), (sz2, tupO [.int pr t1, .str k.text t2])]) (led := rest) (l := [(p.d .pre, o .pre), (p.d .inf, o'), (p.d .post, o .post)] ++ ((sz2, tupO [.int pr t1, .str k.text t2]) :: rest)) hP ∅ ∅ ∅ (fun _ h => h) (hZ _ _ ⟨rfl, [(p.d .pre, o .pre), (p.d .inf, o'), (p.d .post, o .post)], sz2, rfl, fin sz2 o' hd (nod4 hnd)⟩)
 | post =>
  rw [hs] at fin
  refine z_inO [("self", .ref p.pA), ("priority", .int pr t1), ("type_text", .str k.text t2), ("a", .int a ta)] [(p.d .pre, o .pre), (p.d .inf, o .inf), (p.d .post, o .post)] rest (R := rest) (fun _ h => h) nd0 offb ∅ ∅ ∅ ?_
  intro Z hZ G tk sz hP hR z
  refine z_meth 99 (zR hR S.inst) (zR hR S.dict) ∅ ?_; intro z
  refine z_callE 99 (cl := rest) (v := fun _ => .ref (p.d .post)) (fun t => hs ▸ table_of_spec (w := w) (led := rest) k (t := t 1) S.inst S.dict) (by decide) ∅ ∅ ?_; intro tk2 sz2 z
  (refine z_br 13 true (x := decide (0 < pr)) (decide_eq_true hp) ∅ ?_; intro z)
  (refine z_nt 14 (l := rest) ∅ ∅ ?_; intro own hnd hof z)
  have e1 : own.map (·.1) = [p.d .pre, p.d .inf, p.d .post, sz2] := by kernel_rfl
  rw [e1] at hnd
  refine z_setK 99 2 (D := p.d .post) ∅ (h1 .post) (zz .post) (isI_ok (a := a) ∅) ∅ (v := .ref sz2) ∅ ?_; intro o' hd z
  exact z_end2 99 (v := .none) (own := [(p.d .pre, o .pre), (p.d .inf, o .inf), (p.d .post, o'), (sz2, tupO [.int pr t1, .str k.text t2])]) (led := rest) (l := [(p.d .pre, o .pre), (p.d .inf, o .inf), (p.d .post, o')] ++ ((sz2, tupO [.int pr t1, .str k.text t2]) :: rest)) hP ∅ ∅ ∅ (fun _ h => h) (hZ _ _ ⟨rfl, [(p.d .pre, o .pre), (p.d .inf, o .inf), (p.d .post, o')], sz2, rfl, fin sz2 o' hd (nod4 hnd)⟩)
end
end
section
set_option tactic.hygienic false
noncomputable def dd {α : Type} (a b c : α) : Fx → α
 | .pre => a | .inf => b | .post => c
theorem opIn_new {w : World} {x dx nA d1 d2 d3 : Addr} {kt : Nat → Tok} {n : Nat} {o1 o2 o3 : Obj} (h1 : o1.IsDictOf (intKind pw w) []) (h2 : o2.IsDictOf (intKind pw w) []) (h3 : o3.IsDictOf (intKind pw w) []) (l1 : (d1 == sysModules) = false) (l2 : (d2 == sysModules) = false) (l3 : (d3 == sysModules) = false)
  (nd : [dx, d1, d2, d3].Nodup) (hx : ∀ y ∈ [dx, d1, d2, d3], y ≠ x) :
  OpIn w ⟨x, dx, nA, dd d1 d2 d3, kt, n⟩ (fun _ _ => none) 0 [(d1, o1), (d2, o2), (d3, o3)] [(x, instObj 287 dx), (dx, dictOf (opEs w.params kt nA (dd d1 d2 d3)) n)] := by
 simp only [List.nodup_cons, List.mem_cons, not_or] at nd
 refine ⟨⟨dd o1 o2 o3, fun _ => [], rfl, ?_, fun x a => rfl, fun x => Nat.le_refl _⟩, .head _, .tail _ (.head _), ?_, nd.2.1.1, nd.2.1.2.1, nd.2.2.1.1, ?_⟩
 ·intro x; cases x
  ·exact h1
  ·exact h2
  ·exact h3
 ·intro y; cases y
  ·exact List.forall_mem_cons.mpr ⟨(hx _ (.tail _ (.head _))).symm, List.forall_mem_cons.mpr ⟨nd.1.1, fun _ h => nomatch h⟩⟩
  ·exact List.forall_mem_cons.mpr ⟨(hx _ (.tail _ (.tail _ (.head _)))).symm, List.forall_mem_cons.mpr ⟨nd.1.2.1, fun _ h => nomatch h⟩⟩
  ·exact List.forall_mem_cons.mpr ⟨(hx _ (.tail _ (.tail _ (.tail _ (.head _))))).symm, List.forall_mem_cons.mpr ⟨nd.1.2.2.1, fun _ h => nomatch h⟩⟩
 ·intro x; cases x
  ·exact l1
  ·exact l2
  ·exact l3
noncomputable def opStart : Fx → Int → Option (Int × Kd) := addOp (fun _ _ => none) .xfy 7 1000
section
variable {w : World}
theorem optable_init {x dx nA : Addr} (hx : dx < x) : Does w 235 4 [.ref x, .ref nA, .bool false] [(x, instObj 287 dx), (dx, dictOf [] 0)] (fun r l => r = .none ∧ ∃ p b rest, (p.pA = x ∧ p.nA = nA) ∧ l = b ++ rest ∧ OpIn w p opStart 1 b rest) := by
 refine z_enter (own₀ := [(dx, dictOf [] 0)]) (led₀ := [(x, instObj 287 dx)]) (R := [(x, instObj 287 dx)]) [("self", .ref x), ("symbols", .ref nA), ("standard", .bool false)] ∅ ∅ (fun s hs => binds_D hs (dfA w 235) (o := obAt w.params (dfA w 235)) (n := 0) (dfI w 235) ∅ ∅ ∅ ∅) (fun p hp => by
  rcases List.mem_cons.mp hp with h | h
  ·rw [h]; exact .tail _ (.head _)
  ·rw [List.mem_singleton.mp h]; exact .head _) (by simp) (fun p hp q hq => by rw [List.mem_singleton.mp hp, List.mem_singleton.mp hq]; exact Nat.ne_of_lt hx) (fun _ h => h) ?_
 intro Z hZ G tk sz hP hR
 have hi : (x, instObj 287 dx) ∈ [(x, instObj 287 dx)] := .head _
 refine z_setO 99 0 (zR hR hi) ∅ ?_; intro s1 z
 refine z_newD 99 ∅ ?_; intro d1 o1 sd1 l1 _ h1 z
 refine z_setO 99 0 (zR hR hi) ∅ ?_; intro s2 z
 refine z_newD 99 ∅ ?_; intro d2 o2 sd2 l2 _ h2 z
 refine z_setO 99 0 (zR hR hi) ∅ ?_; intro s3 z
 refine z_newD 99 ∅ ?_; intro d3 o3 sd3 l3 _ h3 z
 refine z_setO 99 0 (zR hR hi) ∅ ?_; intro s4 z
 refine z_own 1 (l := [(x, instObj 287 dx)]) ∅ ∅ ?_; intro own hnd hoff hlt z
 have e0 : own = [(dx, dictOf (opEs w.params (ktOf own) nA (dd d1 d2 d3)) 4), (d1, o1), (d2, o2), (d3, o3)] := by kernel_rfl
 have nd : [dx, d1, d2, d3].Nodup := by rw [e0] at hnd; exact hnd
 have hx' : ∀ y ∈ [dx, d1, d2, d3], y ≠ x := fun y hy => by
  obtain ⟨p, hp, e⟩ : ∃ p ∈ own, p.1 = y := by rw [e0]; exact List.mem_map.mp hy
  exact e ▸ hoff p hp _ (.head _)
 have S0 := opIn_new (w := w) (nA := nA) (kt := ktOf own) (n := 4) h1 h2 h3 l1 l2 l3 nd hx'
 refine z_side 0 (own := own) (led := [(x, instObj 287 dx)]) (own' := []) (led' := [(d1, o1), (d2, o2), (d3, o3)] ++ [(x, instObj 287 dx), (dx, dictOf (opEs w.params (ktOf own) nA (dd d1 d2 d3)) 4)]) ∅ ∅ ∅ (fun p hp => by
  rw [e0]
  simp only [List.cons_append, List.nil_append, List.mem_cons, List.not_mem_nil, or_false] at hp ⊢
  rcases hp with h | h | h | h | h
  ·exact .inr (.inl h)
  ·exact .inr (.inr (.inl h))
  ·exact .inr (.inr (.inr (.inl h)))
  ·exact .inr (.inr (.inr (.inr h)))
  ·exact .inl h) (fun _ _ => ⟨List.nodup_nil, fun _ h => nomatch h⟩) (fun p hp => by rw [hR] at hp; exact .tail _ (.tail _ (.tail _ (List.mem_singleton.mp hp ▸ .head _)))) ?_; intro z
 refine z_meth 99 (zL ∅ (List.mem_append_right [(d1, o1), (d2, o2), (d3, o3)] S0.inst)) (zL ∅ (List.mem_append_right [(d1, o1), (d2, o2), (d3, o3)] S0.dict)) ∅ ?_; intro z
 refine z_call 99 (fun t => add_S S0 (Nat.zero_le _) .xfy (pr := 1000) (a := 7) (t1 := t 1) (t2 := t 2) (ta := t 3) (by decide)) (by decide) ∅ ∅ ?_
 rintro _ _ ⟨rfl, b', tp, rfl, S⟩ tk9 sz9
 refine ⟨fun p hp => by rw [hR] at hp; exact List.mem_append_right _ (.tail _ (List.mem_singleton.mp hp ▸ .head _)), ?_⟩; intro z
 exact z_end 99 hP ∅ ∅ (hZ _ _ ⟨rfl, ⟨x, dx, nA, dd d1 d2 d3, ktOf own, 4⟩, b', _, ⟨rfl, rfl⟩, rfl, S⟩)
end
theorem optable_make {w : World} {nA : Addr} : Does w 287 5 [.ref nA, .bool false] [] (fun r l => ∃ x, r = .ref x ∧ ∃ p b rest, (p.pA = x ∧ p.nA = nA) ∧ l = b ++ rest ∧ OpIn w p opStart 1 b rest) :=
 Does.make ∅ ∅ ∅ (fun _ _ _ h => optable_init h)
end
section
set_option tactic.hygienic false
structure Wc where
 x : Addr
 dx : Addr
 O : Addr
 W : Addr
 nA : Addr
 pA : Addr
 nm : Addr
 tn : Addr
 q : Bool
 kt : Nat → Tok
structure WS where
 out : List Str
 last : Option Nat
 pre : Bool
 work : List Value
noncomputable def lastStr : Option Nat → Str
 | none => ""
 | some c => ⟨#[c]⟩
noncomputable def wrEs (P : Params) (c : Wc) (last : Str) (tl : Tok) (pre : Bool) : List DictEntry := [⟨PyData.keyHash P "symbols", .str "symbols" (c.kt 0), .ref c.nA⟩, ⟨PyData.keyHash P "operators", .str "operators" (c.kt 1), .ref c.pA⟩, ⟨PyData.keyHash P "quoted", .str "quoted" (c.kt 2), .bool c.q⟩,
 ⟨PyData.keyHash P "ignore_ops", .str "ignore_ops" (c.kt 3), .bool false⟩, ⟨PyData.keyHash P "numbervars", .str "numbervars" (c.kt 4), .bool false⟩, ⟨PyData.keyHash P "names", .str "names" (c.kt 5), .ref c.nm⟩, ⟨PyData.keyHash P "taken", .str "taken" (c.kt 6), .ref c.tn⟩,
 ⟨PyData.keyHash P "out", .str "out" (c.kt 7), .ref c.O⟩, ⟨PyData.keyHash P "last", .str "last" (c.kt 8), .str last tl⟩, ⟨PyData.keyHash P "prefixed", .str "prefixed" (c.kt 9), .bool pre⟩, ⟨PyData.keyHash P "work", .str "work" (c.kt 10), .ref c.W⟩]
structure WrIn (w : World) (c : Wc) (st : WS) (b rest : List (Addr × Obj)) : Prop where
 ex : ∃ tl ys n1 n2, b = [(c.dx, dictOf (wrEs w.params c (lastStr st.last) tl st.pre) 11), (c.O, PySem.W.listOf (strValues ys).toArray n1), (c.W, PySem.W.listOf st.work.toArray n2)] ∧ ys.map (·.1) = st.out
 inst : (c.x, instObj 472 c.dx) ∈ rest
 o1 : ∀ p ∈ rest, p.1 ≠ c.dx
 o2 : ∀ p ∈ rest, p.1 ≠ c.O
 o3 : ∀ p ∈ rest, p.1 ≠ c.W
 d12 : c.dx ≠ c.O
 d13 : c.dx ≠ c.W
 d23 : c.O ≠ c.W
noncomputable def lastc (y : Str) : Nat := y.cps.getD (y.cps.size - 1) 0
noncomputable def firstc (y : Str) : Nat := y.cps.getD 0 0
noncomputable def WS.raw (st : WS) (y : Str) : WS := { st with out := st.out ++ [y], last := some (lastc y), pre := false }
theorem ne_len {y : Str} (h : y ≠ "") : 1 ≤ y.length := by
 rcases y with ⟨⟨l⟩⟩
 cases l with
 | nil => exact absurd rfl h
 | cons a r => simp [Str.length]
theorem item_last {y : Str} (h : 1 ≤ y.length) : Txt.item y ((y.length : Int) - 1) = lastStr (some (lastc y)) := by
 have e : ((y.length : Int) - 1).toNat = y.cps.size - 1 := by simp only [Str.length]; omega
 have h2 : ((y.length : Int) - 1).toNat < y.cps.size := by rw [e]; simp only [Str.length] at h; omega
 rw [item_meets (n := y.cps[((y.length : Int) - 1).toNat]) (by omega) (by simp [h2])]
 simp only [lastStr, lastc, e]
 rw [Array.getD_eq_getD_getElem?]
 simp [show y.cps.size - 1 < y.cps.size by rw [← e]; exact h2]
theorem WrIn.off {w : World} {c : Wc} {st : WS} {b rest : List (Addr × Obj)} (S : WrIn w c st b rest) : ∀ p ∈ rest, ∀ q ∈ b, p.1 ≠ q.1 := by
 obtain ⟨tl, ys, n1, n2, rfl, h⟩ := S.ex
 intro p hp q hq
 simp only [List.mem_cons, List.not_mem_nil, or_false] at hq
 rcases hq with rfl | rfl | rfl
 ·exact S.o1 p hp
 ·exact S.o2 p hp
 ·exact S.o3 p hp
theorem WrIn.mono {w : World} {c : Wc} {st : WS} {b rest rest' : List (Addr × Obj)} (S : WrIn w c st b rest) (h : ∀ p ∈ rest, p ∈ rest') (hd : ∀ p ∈ rest', ∀ q ∈ b, p.1 ≠ q.1) : WrIn w c st b rest' := by
 obtain ⟨tl, ys, n1, n2, rfl, hh⟩ := S.ex
 exact ⟨⟨tl, ys, n1, n2, rfl, hh⟩, h _ S.inst, fun p hp => hd p hp _ (.head _), fun p hp => hd p hp _ (.tail _ (.head _)), fun p hp => hd p hp _ (.tail _ (.tail _ (.head _))), S.d12, S.d13, S.d23⟩
end
section
set_option tactic.hygienic false
theorem WrIn.mem {w : World} {c : Wc} {st : WS} {b rest : List (Addr × Obj)} (S : WrIn w c st b rest) : ∃ tl, (c.dx, dictOf (wrEs w.params c (lastStr st.last) tl st.pre) 11) ∈ b ++ rest := by
 obtain ⟨tl, ys, n1, n2, rfl, hys⟩ := S.ex
 exact ⟨tl, .head _⟩
noncomputable def WrIn.tl {w : World} {c : Wc} {st : WS} {b rest : List (Addr × Obj)} (S : WrIn w c st b rest) : Tok := Classical.choose S.mem
noncomputable def WrIn.es {w : World} {c : Wc} {st : WS} {b rest : List (Addr × Obj)} (S : WrIn w c st b rest) : List DictEntry := wrEs w.params c (lastStr st.last) S.tl st.pre
theorem WrIn.m {w : World} {c : Wc} {st : WS} {b rest : List (Addr × Obj)} (S : WrIn w c st b rest) : (c.dx, dictOf S.es 11) ∈ b ++ rest := Classical.choose_spec S.mem
section
variable {w : World} {N : List (Str × NameKind)} {d : Nat} {G : ZG w N d} {z : ZC} {rest b : List (Addr × Obj)} {c : Wc} {st : WS}
noncomputable def watPut (S : WrIn w c st b rest) (z : ZC) : ZC := atPut w.params 472 S.es z
noncomputable def watOk (S : WrIn w c st b rest) (z : ZC) : Option Addr := (atOf w.params 472 S.es z).map (·.1)
theorem z_wat (n : Nat) (S : WrIn w c st b rest) (hl : (zgo N w.params n z).σ.led = b ++ rest) (hv : watOk S (zgo N w.params n z) = some c.x) (h : let c' := watPut S (zgo N w.params n z); ZT G c') : ZT G z := z_attr n (zL hl (List.mem_append_right _ S.inst)) (zL hl S.m) hv h
noncomputable def wmtPut (S : WrIn w c st b rest) (z : ZC) : ZC := mtPut w.params 472 S.es z
noncomputable def wmtOk (S : WrIn w c st b rest) (z : ZC) : Option Addr := (mtOf w.params 472 S.es z).map (·.1)
theorem z_wmt (n : Nat) (S : WrIn w c st b rest) (hl : (zgo N w.params n z).σ.led = b ++ rest) (hv : wmtOk S (zgo N w.params n z) = some c.x) (h : let c' := wmtPut S (zgo N w.params n z); ZT G c') : ZT G z := z_meth n (zL hl (List.mem_append_right _ S.inst)) (zL hl S.m) hv h
theorem z_callW (n : Nat) {f dd : Nat} {args : (Nat → Tok) → List Value} {st' : WS} (D : ∀ t : Nat → Tok, Does w f dd (args t) (b ++ rest) (fun r l => r = .none ∧ ∃ b', l = b' ++ rest ∧ WrIn w c st' b' rest)) (hd : dd ≤ d) (hR : G.R = rest) (hl : (zgo N w.params n z).σ.led = b ++ rest) (hv : clOf (zgo N w.params n z) = some (f, args (tks (zgo N w.params n z))))
  (h : ∀ b', WrIn w c st' b' rest → ∀ tk sz, let c' := zres (zgo N w.params n z) .none (zgo N w.params n z).σ.own (b' ++ rest) tk sz; ZT G c') : ZT G z := by
 refine z_call n D hd hv hl ?_
 rintro _ _ ⟨rfl, b', rfl, S'⟩ tk sz
 exact ⟨fun q hq => List.mem_append_right _ (hR ▸ hq), h b' S' tk sz⟩
theorem z_endS (n : Nat) {Z : Value → List (Addr × Obj) → Prop} {st' : WS} (S : WrIn w c st b rest) (e : st = st') (hP : G.P = ZFin Z) (hZ : ∀ r l, (r = .none ∧ ∃ b', l = b' ++ rest ∧ WrIn w c st' b' rest) → Z r l) (hl : (zgo N w.params n z).σ.led = b ++ rest) (hv : enOf (zgo N w.params n z) = some .none) : ZT G z :=
 z_end n hP hv hl (hZ _ _ ⟨rfl, _, rfl, e ▸ S⟩)
theorem WrIn.offb (S : WrIn w c st b rest) : ∀ p ∈ b, ∀ q ∈ rest, p.1 ≠ q.1 := fun p hp q hq => (S.off q hq p hp).symm
theorem WrIn.nd (S : WrIn w c st b rest) : (b.map (·.1)).Nodup := by
 obtain ⟨tl, ys, n1, n2, rfl, hys⟩ := S.ex
 simp only [List.map_cons, List.map_nil, List.nodup_cons, List.mem_cons, List.not_mem_nil, or_false, not_or, not_false_eq_true, List.nodup_nil, and_true]
 exact ⟨⟨S.d12, S.d13⟩, S.d23⟩
noncomputable def wrB (w : World) (c : Wc) (last : Str) (pre : Bool) (work : List Value) (tl : Tok) (ys : List (Str × Tok)) (n1 n2 : Nat) : List (Addr × Obj) := [(c.dx, dictOf (wrEs w.params c last tl pre) 11), (c.O, PySem.W.listOf (strValues ys).toArray n1), (c.W, PySem.W.listOf work.toArray n2)]
theorem z_wopen (n : Nat) (S : WrIn w c st b rest) (hR : G.R = rest) (hl : (zgo N w.params n z).σ.led = b ++ rest) (ho : (zgo N w.params n z).σ.own = []) (hv : zall (zgo N w.params n z) = true)
  (h : ∀ tl ys n1 n2, ys.map (·.1) = st.out → let c' := zside (wrB w c (lastStr st.last) st.pre st.work tl ys n1 n2) rest (zgo N w.params n z); ZT G c') : ZT G z := by
 have nd := S.nd
 have offb := S.offb
 obtain ⟨tl, ys, n1, n2, rfl, hys⟩ := S.ex
 exact z_side n (own' := wrB w c (lastStr st.last) st.pre st.work tl ys n1 n2) (led' := rest) hv ho hl (fun p hp => hp) (fun _ _ => ⟨nd, offb⟩) (fun p hp => hR ▸ hp) (h tl ys n1 n2 hys)
theorem z_wclose (n : Nat) {Z : Value → List (Addr × Obj) → Prop} {st' : WS} (S : WrIn w c st' b rest) (hP : G.P = ZFin Z) (hZ : ∀ r l, (r = .none ∧ ∃ b', l = b' ++ rest ∧ WrIn w c st' b' rest) → Z r l) (hl : (zgo N w.params n z).σ.led = rest) (ho : (zgo N w.params n z).σ.own = b) (hv : enOf (zgo N w.params n z) = some .none) : ZT G z :=
 z_endO n hP hv (fun p hp => by rw [ho, hl]; exact hp) (hZ _ _ ⟨rfl, _, rfl, S⟩)
theorem WrIn.put (S : WrIn w c st b rest) (st' : WS) {tl : Tok} {ys : List (Str × Tok)} {n1 n2 : Nat} (h : ys.map (·.1) = st'.out) : WrIn w c st' (wrB w c (lastStr st'.last) st'.pre st'.work tl ys n1 n2) rest :=
 ⟨⟨tl, ys, n1, n2, rfl, h⟩, S.inst, S.o1, S.o2, S.o3, S.d12, S.d13, S.d23⟩
theorem z_wback (n : Nat) (S : WrIn w c st b rest) (hR : G.R = rest) (hl : (zgo N w.params n z).σ.led = rest) (ho : (zgo N w.params n z).σ.own = b) (hv : zall (zgo N w.params n z) = true) (h : let c' := zside [] (b ++ rest) (zgo N w.params n z); ZT G c') : ZT G z :=
 z_side n (own' := []) (led' := b ++ rest) hv ho hl (fun _ hp => hp) (fun _ _ => ⟨List.nodup_nil, fun _ h => nomatch h⟩) (fun p hp => List.mem_append_right _ (hR ▸ hp)) h
theorem ys_size {ys : List (Str × Tok)} {l : List Str} {n : Nat} (hys : ys.map (·.1) = l) (h : l.length ≤ n) (hn : n ≤ sizeLine) : (strValues ys).toArray.size ≤ sizeLine := by
 refine Nat.le_trans ?_ hn
 rw [List.size_toArray]
 unfold strValues
 rw [List.length_map]
 rw [← hys, List.length_map] at h
 exact h
theorem z_callWX (n : Nat) {f dd : Nat} {args : (Nat → Tok) → List Value} {R' : List (Addr × Obj)} {st' : WS} (D : ∀ t : Nat → Tok, Does w f dd (args t) (b ++ rest) (fun r l => r = .none ∧ ∃ b', l = b' ++ rest ∧ WrIn w c st' b' rest)) (hd : dd ≤ d) (hR : G.R = R') (hs : ∀ p ∈ R', p ∈ rest) (hl : (zgo N w.params n z).σ.led = b ++ rest) (hv : clOf (zgo N w.params n z) = some (f, args (tks (zgo N w.params n z))))
  (h : ∀ b', WrIn w c st' b' rest → ∀ tk sz, let c' := zres (zgo N w.params n z) .none (zgo N w.params n z).σ.own (b' ++ rest) tk sz; ZT G c') : ZT G z := by
 refine z_call n D hd hv hl ?_
 rintro _ _ ⟨rfl, b', rfl, S'⟩ tk sz
 exact ⟨fun q hq => List.mem_append_right _ (hs q (hR ▸ hq)), h b' S' tk sz⟩
theorem z_wopenX (n : Nat) (S : WrIn w c st b rest) (hR : ∀ p ∈ G.R, p ∈ rest) (hl : (zgo N w.params n z).σ.led = b ++ rest) (ho : (zgo N w.params n z).σ.own = []) (hv : zall (zgo N w.params n z) = true)
  (h : ∀ tl ys n1 n2, ys.map (·.1) = st.out → let c' := zside (wrB w c (lastStr st.last) st.pre st.work tl ys n1 n2) rest (zgo N w.params n z); ZT G c') : ZT G z := by
 have nd := S.nd
 have offb := S.offb
 obtain ⟨tl, ys, n1, n2, rfl, hys⟩ := S.ex
 exact z_side n (own' := wrB w c (lastStr st.last) st.pre st.work tl ys n1 n2) (led' := rest) hv ho hl (fun p hp => hp) (fun _ _ => ⟨nd, offb⟩) hR (h tl ys n1 n2 hys)
theorem z_wbackX (n : Nat) (S : WrIn w c st b rest) (hR : ∀ p ∈ G.R, p ∈ rest) (hl : (zgo N w.params n z).σ.led = rest) (ho : (zgo N w.params n z).σ.own = b) (hv : zall (zgo N w.params n z) = true) (h : let c' := zside [] (b ++ rest) (zgo N w.params n z); ZT G c') : ZT G z :=
 z_side n (own' := []) (led' := b ++ rest) hv ho hl (fun _ hp => hp) (fun _ _ => ⟨List.nodup_nil, fun _ h => nomatch h⟩) (fun p hp => List.mem_append_right _ (hR p hp)) h
end
end
section
set_option tactic.hygienic false
theorem fits_len {x : Str} (h : x.length ≤ 1000) : fitsSsize ((x.length : Int) - 1) = true := fitsSsize_of (N := 2000) (by lia) (by lia) (by decide)
section
variable {w : World} {rest b : List (Addr × Obj)} {c : Wc} {st : WS}
theorem raw_S (S : WrIn w c st b rest) {y : Str} {ty : Tok} (hy : y ≠ "") (hl : y.length ≤ 1000) (hz : st.out.length ≤ 100000) : Does w 364 1 [.ref c.x, .str y ty] (b ++ rest) (fun r l => r = .none ∧ ∃ b', l = b' ++ rest ∧ WrIn w c (st.raw y) b' rest) := by
 refine z_in [("self", .ref c.x), ("text", .str y ty)] (R := rest) (fun p hp => List.mem_append_right _ hp) ∅ ∅ ∅ ?_
 intro Z hZ G tk sz hP hR z
 (refine z_br 10 true (bne_iff_ne.mpr hy) ∅ ?_; intro z)
 refine z_wopen 2 S hR ∅ ∅ ∅ ?_; intro tl ys n1 n2 hys z
 refine z_attrO 99 0 (zR hR S.inst) ∅ ?_; intro z
 refine z_lm 99 1 PySem.F.slot_list_append PySem.F.type_list_append ∅ ?_; intro z
 refine z_append 99 1 ∅ (z_sz (ys_size hys hz (by decide)) ∅) ?_; intro z
 refine z_lenS 99 (x := y) (t := ty) (Nat.le_trans hl (by decide)) ∅ ?_; intro zl
 have hp := ne_len hy
 refine z_itemS 99 (x := y) (i := (y.length : Int) - 1) (fits_len hl) (by lia) (by lia) ∅ ?_; intro z
 refine z_setO 99 0 (zR hR S.inst) ∅ ?_; intro sz z
 refine z_setO 99 0 (zR hR S.inst) ∅ ?_; intro sz z
 refine z_wclose 99 (b := [(c.dx, dictOf (wrEs w.params c (Txt.item y ((y.length : Int) - 1)) (zgo (nmAt w 364) w.params 99 zl).σ.tk false) 11), (c.O, PySem.W.listOf ((strValues ys).toArray.push (.str y ty)) (n1 + 1)), (c.W, PySem.W.listOf st.work.toArray n2)]) ?_ hP hZ ∅ ∅ ∅
 rw [strs_push, item_last hp]
 exact S.put (st.raw y) (by rw [List.map_append, hys]; rfl)
end
end
section
set_option tactic.hygienic false
noncomputable def needs (last : Option Nat) (pre : Bool) (f : Nat) : Bool := match last with
 | none => false
 | some l => if ((⟨#[l]⟩ : Str) == "") = true then false else if ((⟨#[l]⟩ : Str) == " ") = true then false else
  if (pre && ((⟨#[f]⟩ : Str) == "(" || ((⟨#[l]⟩ : Str) == "-" && isDigit (f : Nat)))) = true then true else
  if isWord l = true then (isWord f || (⟨#[f]⟩ : Str) == "'") else if isSym (l : Nat) = true then isSym (f : Nat) else ((⟨#[l]⟩ : Str) == "'" && (⟨#[f]⟩ : Str) == "'")
noncomputable def needsE (l f : Nat) : Bool := if isWord l = true then (isWord f || (⟨#[f]⟩ : Str) == "'") else if isSym (l : Nat) = true then isSym (f : Nat) else ((⟨#[l]⟩ : Str) == "'" && (⟨#[f]⟩ : Str) == "'")
theorem needs_some (l : Nat) (pre : Bool) (f : Nat) : needs (some l) pre f = if ((⟨#[l]⟩ : Str) == " ") = true then false else if (pre && ((⟨#[f]⟩ : Str) == "(" || ((⟨#[l]⟩ : Str) == "-" && isDigit (f : Nat)))) = true then true else needsE l f := by
 have h : ((⟨#[l]⟩ : Str) == "") = false := by kernel_rfl
 unfold needs needsE
 dsimp only
 rw [h]
 rfl
section
variable {w : World} {rest b : List (Addr × Obj)} {c : Wc} {st : WS}
theorem needs_S (S : WrIn w c st b rest) {f : Nat} {tf : Tok} : Does w 378 4 [.ref c.x, .str ⟨#[f]⟩ tf] (b ++ rest) (fun r l => r = .bool (needs st.last st.pre f) ∧ l = b ++ rest) := by
 obtain ⟨out, last, pre, work⟩ := st
 show Does w 378 4 _ _ (fun r l => r = .bool (needs last pre f) ∧ l = b ++ rest)
 refine z_in [("self", .ref c.x), ("first", .str ⟨#[f]⟩ tf)] (R := rest) (fun p hp => List.mem_append_right _ hp) ∅ ∅ ∅ ?_
 intro Z hZ G tk sz hP hR z
 cases last with
 | none =>
  refine z_wat 99 S ∅ ∅ ?_; intro z
  exact z_endE 99 hP hZ ∅ ∅
 | some l =>
  have E : needs (some l) pre f = needsE l f → ∀ tk sz, ZT G ⟨⟨[("first", .str ⟨#[f]⟩ tf), ("self", .ref c.x)], [], b ++ rest, tk, sz⟩, [], .ss ((bdAt w 378).drop 2)⟩ := by
   intro hE
   intro tk sz
   refine z_wat 99 S ∅ ∅ ?_; intro z
   refine z_callE 99 (fun t => is_word_spec (led := b ++ rest) (c := l) (t := t 0)) (by decide) ∅ ∅ ?_; intro tk2 sz2 z
   (refine z_split 2 (isWord l) ∅ (fun h2 => ?_) (fun h2 => ?_))
   ·intro z
    refine z_callE 99 (fun t => is_word_spec (led := b ++ rest) (c := f) (t := t 0)) (by decide) ∅ ∅ ?_; intro tk2 sz2 z
    (refine z_split 2 (isWord f) ∅ (fun h3 => ?_) (fun h3 => ?_))
    ·intro z
     exact z_endV 99 (v' := .bool (isWord f)) (congrArg Value.bool (by rw [hE, needsE, if_pos h2, h3, Bool.true_or])) hP hZ ∅ ∅
    ·intro z
     exact z_endV 99 (v' := .bool ((⟨#[f]⟩ : Str) == "'")) (congrArg Value.bool (by rw [hE, needsE, if_pos h2, h3, Bool.false_or])) hP hZ ∅ ∅
   ·intro z
    refine z_wat 99 S ∅ ∅ ?_; intro z
    refine z_callE 99 (fun t => is_symbol_spec (led := b ++ rest) (c := (l : Nat)) (tc := t 0)) (by decide) ∅ ∅ ?_; intro tk2 sz2 z
    (refine z_split 2 (isSym (l : Nat)) ∅ (fun h3 => ?_) (fun h3 => ?_))
    ·intro z
     refine z_callE 99 (fun t => is_symbol_spec (led := b ++ rest) (c := (f : Nat)) (tc := t 0)) (by decide) ∅ ∅ ?_; intro tk2 sz2 z
     exact z_endV 99 (v' := .bool (isSym (f : Nat))) (congrArg Value.bool (by rw [hE, needsE, if_neg (by rw [h2]; exact Bool.false_ne_true), if_pos h3])) hP hZ ∅ ∅
    ·intro z
     refine z_wat 99 S ∅ ∅ ?_; intro z
     (refine z_split 6 ((⟨#[l]⟩ : Str) == "'") ∅ (fun h4 => ?_) (fun h4 => ?_))
     ·intro z
      exact z_endV 99 (v' := .bool ((⟨#[f]⟩ : Str) == "'")) (congrArg Value.bool (by rw [hE, needsE, if_neg (by rw [h2]; exact Bool.false_ne_true), if_neg (by rw [h3]; exact Bool.false_ne_true), h4, Bool.true_and])) hP hZ ∅ ∅
     ·intro z
      exact z_endV 99 (v' := .bool ((⟨#[l]⟩ : Str) == "'")) (congrArg Value.bool (by rw [hE, needsE, if_neg (by rw [h2]; exact Bool.false_ne_true), if_neg (by rw [h3]; exact Bool.false_ne_true), h4, Bool.false_and])) hP hZ ∅ ∅
  refine z_wat 99 S ∅ ∅ ?_; intro z
  refine z_wat 99 S ∅ ∅ ?_; intro z
  (refine z_split 6 ((⟨#[l]⟩ : Str) == " ") ∅ (fun h1 => ?_) (fun h1 => ?_))
  ·intro z
   exact z_endV 99 (v' := .bool (false)) (congrArg Value.bool (by rw [needs_some, h1]; rfl)) hP hZ ∅ ∅
  ·intro z
   refine z_wat 99 S ∅ ∅ ?_; intro z
   (refine z_split 2 (pre) ∅ (fun h2 => ?_) (fun h2 => ?_))
   ·intro z
    (refine z_split 12 ((⟨#[f]⟩ : Str) == "(") ∅ (fun h3 => ?_) (fun h3 => ?_))
    ·intro z
     exact z_endV 99 (v' := .bool (true)) (congrArg Value.bool (by rw [needs_some, h1, h2, h3]; rfl)) hP hZ ∅ ∅
    ·intro z
     refine z_wat 99 S ∅ ∅ ?_; intro z
     (refine z_split 6 ((⟨#[l]⟩ : Str) == "-") ∅ (fun h4 => ?_) (fun h4 => ?_))
     ·intro z
      refine z_callE 99 (fun t => is_digit_spec (led := b ++ rest) (c := (f : Nat)) (tc := t 0)) (by decide) ∅ ∅ ?_; intro tk2 sz2 z
      (refine z_split 2 (isDigit (f : Nat)) ∅ (fun h5 => ?_) (fun h5 => ?_))
      ·intro z
       exact z_endV 99 (v' := .bool (true)) (congrArg Value.bool (by rw [needs_some, h1, h2, h3, h4, h5]; rfl)) hP hZ ∅ ∅
      ·intro z
       (refine z_join 7 (E (by rw [needs_some, h1]; rw [h2, h3, h4, h5]; rfl)) ∅)
     ·intro z
      (refine z_join 7 (E (by rw [needs_some, h1]; rw [h2, h3, h4]; rfl)) ∅)
   ·intro z
    (refine z_join 4 (E (by rw [needs_some, h1]; rw [h2]; rfl)) ∅)
end
end
section
set_option tactic.hygienic false
theorem item_first {y : Str} (h : 1 ≤ y.length) : Txt.item y 0 = ⟨#[firstc y]⟩ := by
 have h2 : (0 : Int).toNat < y.cps.size := by simp only [Str.length] at h; exact h
 rw [item_meets (n := y.cps[(0 : Int).toNat]) (by omega) (by simp)]
 simp only [firstc]
 rw [Array.getD_eq_getD_getElem?]
 simp [show 0 < y.cps.size by simpa using h2]
noncomputable def WS.token (st : WS) (y : Str) : WS := { st with out := st.out ++ ((if needs st.last st.pre (firstc y) = true then [Str.ofString " "] else []) ++ [y]), last := some (lastc y), pre := false }
section
variable {w : World} {rest b : List (Addr × Obj)} {c : Wc} {st : WS}
theorem needs_S2 (S : WrIn w c st b rest) {x : Str} {f : Nat} {tf : Tok} (hx : x = ⟨#[f]⟩) : Does w 378 4 [.ref c.x, .str x tf] (b ++ rest) (fun r l => r = .bool (needs st.last st.pre f) ∧ l = b ++ rest) := by
 subst hx; exact needs_S S
theorem token_S (S : WrIn w c st b rest) {y : Str} {ty : Tok} (hy : y ≠ "") (hl : y.length ≤ 1000) (hz : st.out.length ≤ 90000) : Does w 371 5 [.ref c.x, .str y ty] (b ++ rest) (fun r l => r = .none ∧ ∃ b', l = b' ++ rest ∧ WrIn w c (st.token y) b' rest) := by
 have hp := ne_len hy
 refine z_in [("self", .ref c.x), ("text", .str y ty)] (R := rest) (fun p hp => List.mem_append_right _ hp) ∅ ∅ ∅ ?_
 intro Z hZ G tk sz hP hR z
 (refine z_br 10 true (bne_iff_ne.mpr hy) ∅ ?_; intro z)
 (refine z_wmt 99 S ∅ ∅ ?_; intro z)
 refine z_itemS 99 (x := y) (i := 0) (by decide) (by omega) (by omega) ∅ ?_; intro z
 refine z_callE 99 (fun t => needs_S2 (tf := t 1) S (item_first hp)) (by decide) ∅ ∅ ?_; intro tk2 sz2 z
 (refine z_split 2 (needs st.last st.pre (firstc y)) ∅ (fun h1 => ?_) (fun h1 => ?_))
 ·intro z
  refine z_wopen 2 S hR ∅ ∅ ∅ ?_; intro tl ys n1 n2 hys z
  refine z_attrO 99 0 (zR hR S.inst) ∅ ?_; intro z
  refine z_lm 99 1 PySem.F.slot_list_append PySem.F.type_list_append ∅ ?_; intro zl
  refine z_append 99 1 ∅ (z_sz (ys_size hys hz (by decide)) ∅) ?_; intro z
  have S2 : WrIn w c { st with out := st.out ++ [Str.ofString " "] } [(c.dx, dictOf (wrEs w.params c (lastStr st.last) tl st.pre) 11), (c.O, PySem.W.listOf ((strValues ys).toArray.push (.str " " zl.σ.tk)) (n1 + 1)), (c.W, PySem.W.listOf st.work.toArray n2)] rest := by
   rw [strs_push]
   exact S.put { st with out := st.out ++ [Str.ofString " "] } (by rw [List.map_append, hys]; rfl)
  refine z_wback 4 S2 hR ∅ ∅ ∅ ?_; intro z
  (refine z_wmt 99 S2 ∅ ∅ ?_; intro z)
  refine z_callW 99 (fun t => raw_S (y := y) (ty := t 1) S2 hy hl (by simp only [List.length_append, List.length_cons, List.length_nil]; omega)) (by decide) hR ∅ ∅ ?_; intro b3 S3 tk2 sz2 z
  exact z_endS 99 S3 (by simp only [WS.token, WS.raw, h1, if_true, List.append_assoc, List.cons_append, List.nil_append]) hP hZ ∅ ∅
 ·intro z
  (refine z_wmt 99 S ∅ ∅ ?_; intro z)
  refine z_callW 99 (fun t => raw_S (y := y) (ty := t 1) S hy hl (by omega)) (by decide) hR ∅ ∅ ?_; intro b3 S3 tk2 sz2 z
  exact z_endS 99 S3 (by simp only [WS.token, WS.raw, h1, if_false, Bool.false_eq_true, List.nil_append]) hP hZ ∅ ∅
end
end
section
set_option tactic.hygienic false
theorem mem_mid {α : Type} {x : α} {b r : List α} : ∀ p ∈ b ++ (x :: r), p ∈ x :: (b ++ r) := by
 intro p hp
 simp only [List.mem_append, List.mem_cons] at hp ⊢
 rcases hp with h | h | h
 ·exact .inr (.inl h)
 ·exact .inl h
 ·exact .inr (.inr h)
section
variable {w : World} {rest b : List (Addr × Obj)} {c : Wc} {st : WS}
theorem later_S (S : WrIn w c st b rest) {l : Addr} {vs : List Value} {n : Nat} (hl : ∀ p ∈ b ++ rest, p.1 ≠ l) (hz : st.work.length ≤ 9000) (hz2 : vs.length ≤ 1000) : Does w 385 1 [.ref c.x, .ref l] ((l, PySem.W.listOf vs.toArray n) :: (b ++ rest)) (fun r led => r = .none ∧ ∃ b', led = b' ++ rest ∧ WrIn w c { st with work := st.work ++ vs.reverse } b' rest) := by
 have nd := S.nd
 have offb := S.offb
 obtain ⟨tl, ys, n1, n2, e, hys⟩ := S.ex
 refine Does.sub (led := b ++ ((l, PySem.W.listOf vs.toArray n) :: rest)) mem_mid ?_
 have hoff : ∀ p ∈ b, ∀ q ∈ (l, PySem.W.listOf vs.toArray n) :: rest, p.1 ≠ q.1 := fun p hp => List.forall_mem_cons.mpr ⟨hl p (List.mem_append_left _ hp), offb p hp⟩
 subst e
 refine z_inO [("self", .ref c.x), ("items", .ref l)] _ _ (R := (l, PySem.W.listOf vs.toArray n) :: rest) (fun _ h => h) nd hoff ∅ ∅ ∅ ?_
 intro Z hZ G tk sz hP hR z
 refine z_rev 99 (zR hR (.head _)) ∅ ?_; intro z2
 refine z_for 99 (iters_rev (I := (zgo (nmAt w 385) w.params 99 z).σ.sz) (vs := vs) rfl (.head rest)) (fun i ns own led => ns = ([("self", .ref c.x)] : List (Str × Value)) ∧ led = (l, PySem.W.listOf vs.toArray n) :: rest ∧ ∃ n2', own = [(c.dx, dictOf (wrEs w.params c (lastStr st.last) tl st.pre) 11), (c.O, PySem.W.listOf (strValues ys).toArray n1), (c.W, PySem.W.listOf (st.work ++ vs.reverse.take i).toArray n2')])
  (ns := [("self", .ref c.x)]) (own := [(c.dx, dictOf (wrEs w.params c (lastStr st.last) tl st.pre) 11), (c.O, PySem.W.listOf (strValues ys).toArray n1), (c.W, PySem.W.listOf st.work.toArray n2)]) ∅ ∅ ∅ ∅ (fun p hp => hR ▸ hp) (fun _ h => h) ⟨rfl, rfl, n2, by rw [List.take_zero, List.append_nil]⟩ ?_ ?_
 ·rintro i v _ m _ _ tk sz hi hv ⟨rfl, rfl, n2', rfl⟩ G' hR' hP' z3
  refine z_attrO 99 0 (zR hR' (.tail _ S.inst)) ∅ ?_; intro z
  refine z_lm 99 2 PySem.F.slot_list_append PySem.F.type_list_append ∅ ?_; intro z
  have hi' : i < vs.reverse.length := by rw [List.length_reverse]; exact hi
  have hsz : (st.work ++ vs.reverse.take i).toArray.size ≤ sizeLine := Nat.le_trans (by rw [List.size_toArray, List.length_append, List.length_take]; lia) (show 10000 ≤ sizeLine by decide)
  refine z_append 99 2 ∅ (z_sz hsz ∅) ?_; intro z
  refine z_turn 99 hP' [("self", .ref c.x)] (own := [(c.dx, dictOf (wrEs w.params c (lastStr st.last) tl st.pre) 11), (c.O, PySem.W.listOf (strValues ys).toArray n1), (c.W, PySem.W.listOf ((st.work ++ vs.reverse.take i).toArray.push v) (n2' + 1))]) (led := (l, PySem.W.listOf vs.toArray n) :: rest) ∅ ∅ ∅ ∅ ⟨rfl, rfl, n2' + 1, ?_⟩
  rw [take_snoc hv, ← List.append_assoc, List.push_toArray]
 ·rintro _ m _ _ tk sz ⟨rfl, rfl, n2', rfl⟩ z
  refine z_end2 99 (led := (l, PySem.W.listOf vs.toArray n) :: rest) (l := [(c.dx, dictOf (wrEs w.params c (lastStr st.last) tl st.pre) 11), (c.O, PySem.W.listOf (strValues ys).toArray n1), (c.W, PySem.W.listOf (st.work ++ vs.reverse.take vs.length).toArray n2')] ++ rest) hP ∅ ∅ ∅ (fun p hp => (List.mem_append.mp hp).elim (fun h => List.mem_append_left _ h) fun h => List.mem_append_right _ (.tail _ h)) (hZ _ _ ⟨rfl, _, rfl, ?_⟩)
  rw [List.take_of_length_le (Nat.le_of_eq List.length_reverse)]
  exact S.put { st with work := st.work ++ vs.reverse } hys
end
end
section
set_option tactic.hygienic false
structure Ev where
 texts : List Str
 funs : List (Int × Int)
 f : Fx → Int → Option (Int × Kd)
 q : Bool
structure Rd (w : World) (c : Wc) (e : Ev) (rest : List (Addr × Obj)) : Prop where
 hq : c.q = e.q
 sym : ∃ nD kt n ts n1 tA aD fA fD fvs n2, (c.nA, instObj 122 nD) ∈ rest ∧ (nD, dictOf (symEs w.params kt tA aD fA fD) n) ∈ rest ∧ (tA, PySem.W.listOf (strValues ts).toArray n1) ∈ rest ∧ ts.map (·.1) = e.texts ∧ (fA, PySem.W.listOf fvs.toArray n2) ∈ rest ∧ KeysIn rest fvs e.funs
 ops : ∃ (pD nA' : Addr) (d : Fx → Addr) (kt : Nat → Tok) (n : Nat) (o : Fx → Obj) (kvs : Fx → List (Int × Value)), (c.pA, instObj 287 pD) ∈ rest ∧ (pD, dictOf (opEs w.params kt nA' d) n) ∈ rest ∧ (∀ x, (d x, o x) ∈ rest) ∧ (∀ x, (o x).IsDictOf (intKind pw w) (kvs x)) ∧ (∀ x, TabIs rest (kvs x) (e.f x)) ∧ ∀ x, (d x == sysModules) = false
 names : ∃ oN, (c.nm, oN) ∈ rest ∧ oN.IsDictOf (intKind pw w) []
 taken : ∃ oT, (c.tn, oT) ∈ rest ∧ oT.IsDictOf (PySem.strKind pw w) []
 nmod : (c.nm == sysModules) = false
 tmod : (c.tn == sysModules) = false
theorem Rd.mono {w : World} {c : Wc} {e : Ev} {rest rest' : List (Addr × Obj)} (R : Rd w c e rest) (k : ∀ p ∈ rest, p ∈ rest') : Rd w c e rest' := by
 obtain ⟨hq, ⟨nD, kt, n, ts, n1, tA, aD, fA, fD, fvs, n2, a1, a2, a3, a4, a5, a6⟩, ⟨pD, nA', d, kt', n', o, kvs, b1, b2, b3, b4, b5, b6⟩, ⟨oN, c1, c2⟩, ⟨oT, d1, d2⟩, nm, tm⟩ := R
 exact ⟨hq, ⟨nD, kt, n, ts, n1, tA, aD, fA, fD, fvs, n2, k _ a1, k _ a2, k _ a3, a4, k _ a5, a6.mono k⟩, ⟨pD, nA', d, kt', n', o, kvs, k _ b1, k _ b2, fun x => k _ (b3 x), b4, fun x => (b5 x).mono k, b6⟩, ⟨oN, k _ c1, c2⟩, ⟨oT, k _ d1, d2⟩, nm, tm⟩
noncomputable def GoodA (e : Ev) (a : Int) : Prop := 0 ≤ a ∧ a ≤ 1000 ∧ ∃ x, e.texts[a.toNat]? = some x ∧ Nice x ∧ x ≠ ""
noncomputable def atomOf (e : Ev) (a : Int) : Str := atomText (e.texts.getD a.toNat "") e.q
noncomputable def nameOf (e : Ev) (f : Int) : Int := (e.funs.getD f.toNat (0, 0)).1
noncomputable def isOp (e : Ev) (a : Int) : Bool := (e.f .pre a).isSome || ((e.f .inf a).isSome || (e.f .post a).isSome)
theorem quoted_len (x : Str) : (quoted x).length = x.length + 2 := by
 unfold quoted
 rw [join_cat, cat_len]
 have e1 : (Str.ofString "'").length = 1 := by decide
 have e2 := chars_len x.cps.toList
 simp only [List.map_append, List.map_cons, List.map_nil, List.sum_append, List.sum_cons, List.sum_nil, e1, charsOf] at *
 rw [e2, Array.length_toList]; simp only [Str.length]; lia
theorem len_ne {y : Str} (h : 1 ≤ y.length) : y ≠ "" := by
 intro e; rw [e] at h; exact absurd h (by decide)
theorem atomText_fit {x : Str} (h : Nice x) (hx : x ≠ "") (q : Bool) : 1 ≤ (atomText x q).length ∧ (atomText x q).length ≤ 102 := by
 have h1 := h.1
 have h2 := ne_len hx
 unfold atomText
 split
 ·rw [quoted_len]; lia
 ·lia
theorem GoodA.fit {e : Ev} {a : Int} (g : GoodA e a) : atomOf e a ≠ "" ∧ (atomOf e a).length ≤ 1000 := by
 obtain ⟨_, _, x, hx, h1, h2⟩ := g
 have h := atomText_fit h1 h2 e.q
 have e1 : atomOf e a = atomText x e.q := by unfold atomOf; rw [List.getD_eq_getElem?_getD, hx]; rfl
 rw [e1]
 exact ⟨len_ne h.1, by lia⟩
section
variable {w : World} {rest b : List (Addr × Obj)} {c : Wc} {st : WS} {e : Ev}
theorem atomText_R (R : Rd w c e rest) {a : Int} {ta : Tok} (g : GoodA e a) : Does w 313 5 [.ref c.nA, .int a ta, .bool c.q] (b ++ rest) (fun r l => (∃ t, r = .str (atomOf e a) t) ∧ l = b ++ rest) := by
 obtain ⟨nD, kt, n, ts, n1, tA, aD, fA, fD, fvs, n2, a1, a2, a3, a4, a5, a6⟩ := R.sym
 obtain ⟨h0, h1, x, hx, h2, h3⟩ := g
 have hx' := hx
 rw [← a4, List.getElem?_map] at hx'
 obtain ⟨⟨y, ty⟩, hy, rfl⟩ := Option.map_eq_some_iff.mp hx'
 have e1 : atomOf e a = atomText y c.q := by unfold atomOf; rw [List.getD_eq_getElem?_getD, hx, R.hq]; rfl
 rw [e1]
 exact atom_text_spec (List.mem_append_right _ a1) (List.mem_append_right _ a2) (List.mem_append_right _ a3) h0 (by lia) hy h2
theorem name_R (R : Rd w c e rest) {f a k : Int} {tf : Tok} (h0 : 0 ≤ f) (h1 : f < 10000) (hf : e.funs[f.toNat]? = some (a, k)) : Does w 84 1 [.ref c.nA, .int f tf] (b ++ rest) (fun r l => (∃ t, r = .int a t) ∧ l = b ++ rest) := by
 obtain ⟨nD, kt, n, ts, n1, tA, aD, fA, fD, fvs, n2, a1, a2, a3, a4, a5, a6⟩ := R.sym
 obtain ⟨tp, t1, t2, e1, e2⟩ := a6.get hf
 refine Does.weak (name_spec (List.mem_append_right _ a1) (List.mem_append_right _ a2) (List.mem_append_right _ a5) (List.mem_append_right _ e2) h0 h1 e1) ?_
 rintro r l ⟨rfl, rfl⟩
 exact ⟨_, ⟨⟨_, rfl⟩, rfl⟩, fun p hp => hp⟩
theorem isop_R (R : Rd w c e rest) {a : Int} {ta : Tok} : Does w 263 1 [.ref c.pA, .int a ta] (b ++ rest) (fun r l => r = .bool (isOp e a) ∧ l = b ++ rest) := by
 obtain ⟨pD, nA', d, kt', n', o, kvs, b1, b2, b3, b4, b5, b6⟩ := R.ops
 refine Does.weak (is_operator_spec (List.mem_append_right _ b1) (List.mem_append_right _ b2) (List.mem_append_right _ (b3 .pre)) (List.mem_append_right _ (b3 .inf)) (List.mem_append_right _ (b3 .post)) (b4 _) (b4 _) (b4 _) (b6 _) (b6 _) (b6 _)) ?_
 rintro r l ⟨rfl, rfl⟩
 refine ⟨_, ⟨?_, rfl⟩, fun p hp => hp⟩
 unfold isOp hasKey
 rw [(b5 .pre a).has, (b5 .inf a).has, (b5 .post a).has]
theorem prefix_R (R : Rd w c e rest) {a : Int} {ta : Tok} : Does w 242 1 [.ref c.pA, .int a ta] (b ++ rest) (fun r l => (∃ v, r = Option.getD v .none ∧ EntAt rest v (e.f .pre a)) ∧ l = b ++ rest) := by
 obtain ⟨pD, nA', d, kt', n', o, kvs, b1, b2, b3, b4, b5, b6⟩ := R.ops
 refine Does.weak (prefix_spec (List.mem_append_right _ b1) (List.mem_append_right _ b2) (List.mem_append_right _ (b3 .pre)) (b4 _) (b6 _)) ?_
 rintro r l ⟨rfl, rfl⟩
 exact ⟨_, ⟨⟨_, rfl, b5 .pre a⟩, rfl⟩, fun p hp => hp⟩
theorem infix_R (R : Rd w c e rest) {a : Int} {ta : Tok} : Does w 249 1 [.ref c.pA, .int a ta] (b ++ rest) (fun r l => (∃ v, r = Option.getD v .none ∧ EntAt rest v (e.f .inf a)) ∧ l = b ++ rest) := by
 obtain ⟨pD, nA', d, kt', n', o, kvs, b1, b2, b3, b4, b5, b6⟩ := R.ops
 refine Does.weak (infix_spec (List.mem_append_right _ b1) (List.mem_append_right _ b2) (List.mem_append_right _ (b3 .inf)) (b4 _) (b6 _)) ?_
 rintro r l ⟨rfl, rfl⟩
 exact ⟨_, ⟨⟨_, rfl, b5 .inf a⟩, rfl⟩, fun p hp => hp⟩
theorem postfix_R (R : Rd w c e rest) {a : Int} {ta : Tok} : Does w 256 1 [.ref c.pA, .int a ta] (b ++ rest) (fun r l => (∃ v, r = Option.getD v .none ∧ EntAt rest v (e.f .post a)) ∧ l = b ++ rest) := by
 obtain ⟨pD, nA', d, kt', n', o, kvs, b1, b2, b3, b4, b5, b6⟩ := R.ops
 refine Does.weak (postfix_spec (List.mem_append_right _ b1) (List.mem_append_right _ b2) (List.mem_append_right _ (b3 .post)) (b4 _) (b6 _)) ?_
 rintro r l ⟨rfl, rfl⟩
 exact ⟨_, ⟨⟨_, rfl, b5 .post a⟩, rfl⟩, fun p hp => hp⟩
theorem WS.token_len (st : WS) (y : Str) : (st.token y).out.length ≤ st.out.length + 2 := by
 simp only [WS.token, List.length_append, List.length_cons, List.length_nil]
 split <;> simp
end
end
section
set_option tactic.hygienic false
section
variable {w : World} {rest : List (Addr × Obj)} {c : Wc} {e : Ev}
theorem Rd.ex1 (R : Rd w c e rest) : ∃ x : Addr × (Nat → Tok) × Nat × Addr × Addr × Addr × Addr, (c.nA, instObj 122 x.1) ∈ rest ∧ (x.1, dictOf (symEs w.params x.2.1 x.2.2.2.1 x.2.2.2.2.1 x.2.2.2.2.2.1 x.2.2.2.2.2.2) x.2.2.1) ∈ rest := by
 obtain ⟨nD, kt, n, ts, n1, tA, aD, fA, fD, fvs, n2, a1, a2, _⟩ := R.sym
 exact ⟨⟨nD, kt, n, tA, aD, fA, fD⟩, a1, a2⟩
noncomputable def Rd.x1 (R : Rd w c e rest) : Addr × (Nat → Tok) × Nat × Addr × Addr × Addr × Addr := Classical.choose R.ex1
noncomputable def Rd.es1 (R : Rd w c e rest) : List DictEntry := symEs w.params R.x1.2.1 R.x1.2.2.2.1 R.x1.2.2.2.2.1 R.x1.2.2.2.2.2.1 R.x1.2.2.2.2.2.2
theorem Rd.ex2 (R : Rd w c e rest) : ∃ x : Addr × (Nat → Tok) × Nat × Addr × (Fx → Addr), (c.pA, instObj 287 x.1) ∈ rest ∧ (x.1, dictOf (opEs w.params x.2.1 x.2.2.2.1 x.2.2.2.2) x.2.2.1) ∈ rest := by
 obtain ⟨pD, nA', d, kt', n', o, kvs, b1, b2, _⟩ := R.ops
 exact ⟨⟨pD, kt', n', nA', d⟩, b1, b2⟩
noncomputable def Rd.x2 (R : Rd w c e rest) : Addr × (Nat → Tok) × Nat × Addr × (Fx → Addr) := Classical.choose R.ex2
noncomputable def Rd.es2 (R : Rd w c e rest) : List DictEntry := opEs w.params R.x2.2.1 R.x2.2.2.2.1 R.x2.2.2.2.2
variable {N : List (Str × NameKind)} {d : Nat} {G : ZG w N d} {z : ZC}
variable {b : List (Addr × Obj)} {st : WS}
noncomputable def rmtPut (R : Rd w c e rest) (z : ZC) : ZC := mtPut w.params 122 R.es1 z
noncomputable def rmtOk (R : Rd w c e rest) (z : ZC) : Option Addr := (mtOf w.params 122 R.es1 z).map (·.1)
theorem z_rmt (n : Nat) (_ : WrIn w c st b rest) (R : Rd w c e rest) (hl : (zgo N w.params n z).σ.led = b ++ rest) (hv : rmtOk R (zgo N w.params n z) = some c.nA) (h : let c' := rmtPut R (zgo N w.params n z); ZT G c') : ZT G z :=
 z_meth n (zL hl (List.mem_append_right _ (Classical.choose_spec R.ex1).1)) (zL hl (List.mem_append_right _ (Classical.choose_spec R.ex1).2)) hv h
noncomputable def omtPut (R : Rd w c e rest) (z : ZC) : ZC := mtPut w.params 287 R.es2 z
noncomputable def omtOk (R : Rd w c e rest) (z : ZC) : Option Addr := (mtOf w.params 287 R.es2 z).map (·.1)
theorem z_omt (n : Nat) (_ : WrIn w c st b rest) (R : Rd w c e rest) (hl : (zgo N w.params n z).σ.led = b ++ rest) (hv : omtOk R (zgo N w.params n z) = some c.pA) (h : let c' := omtPut R (zgo N w.params n z); ZT G c') : ZT G z :=
 z_meth n (zL hl (List.mem_append_right _ (Classical.choose_spec R.ex2).1)) (zL hl (List.mem_append_right _ (Classical.choose_spec R.ex2).2)) hv h
inductive PX (w : World) (c : Wc) (st : WS) (e : Ev) (b rest : List (Addr × Obj)) (Q : Value → List (Addr × Obj) → Prop) : Value → List (Addr × Obj) → Prop
 | mk {r : Value} {rest' : List (Addr × Obj)} (hs : ∀ p ∈ rest, p ∈ rest') (S : WrIn w c st b rest') (R : Rd w c e rest') (q : Q r rest') : PX w c st e b rest Q r (b ++ rest')
inductive QSh (x : Str) (p : Int) (y : Str) : Value → List (Addr × Obj) → Prop
 | mk {d : Addr} {t0 t1 t2 : Tok} {l : List (Addr × Obj)} (m : (d, tupO [.str x t0, .int p t1, .str y t2]) ∈ l) : QSh x p y (.ref d) l
inductive QBd (x y : Int) : Value → List (Addr × Obj) → Prop
 | mk {d : Addr} {t1 t2 : Tok} {l : List (Addr × Obj)} (m : (d, tupO [.int x t1, .int y t2]) ∈ l) : QBd x y (.ref d) l
inductive QIn (x : Int) : Value → List (Addr × Obj) → Prop
 | mk {t : Tok} {l : List (Addr × Obj)} : QIn x (.int x t) l
theorem z_callX (n : Nat) {f dd : Nat} {args : (Nat → Tok) → List Value} {R' : List (Addr × Obj)} {Q : Value → List (Addr × Obj) → Prop} (D : ∀ t : Nat → Tok, Does w f dd (args t) (b ++ rest) (PX w c st e b rest Q)) (hd : dd ≤ d) (hR : G.R = R') (hs : ∀ p ∈ R', p ∈ rest) (hl : (zgo N w.params n z).σ.led = b ++ rest) (hv : clOf (zgo N w.params n z) = some (f, args (tks (zgo N w.params n z))))
  (h : ∀ r rest', (∀ p ∈ rest, p ∈ rest') → WrIn w c st b rest' → Rd w c e rest' → Q r rest' → ∀ tk sz, let c' := zres (zgo N w.params n z) r (zgo N w.params n z).σ.own (b ++ rest') tk sz; ZT G c') : ZT G z := by
 refine z_call n D hd hv hl ?_
 rintro _ _ ⟨hs', S', R', q⟩ tk sz
 exact ⟨fun p hp => List.mem_append_right _ (hs' p (hs p (hR ▸ hp))), h _ _ hs' S' R' q tk sz⟩
noncomputable def enI (c : ZC) : Option Int := (enOf c).rec none fun v => onInt v none some
theorem enI_ok {c : ZC} {x : Int} (h : enI c = some x) : ∃ t, enOf c = some (.int x t) := by
 unfold enI at h
 cases e : enOf c with
 | none => rw [e] at h; cases h
 | some v =>
  rw [e] at h
  obtain ⟨i, t, rfl, h2⟩ := onInt_ok h none_ne
  cases h2
  exact ⟨t, rfl⟩
theorem z_endXI (n : Nat) {Z : Value → List (Addr × Obj) → Prop} {r0 : List (Addr × Obj)} {x : Int} (S : WrIn w c st b rest) (R : Rd w c e rest) (hs : ∀ p ∈ r0, p ∈ rest) (hP : G.P = ZFin Z) (hZ : ∀ r l, PX w c st e b r0 (QIn x) r l → Z r l) (hl : (zgo N w.params n z).σ.led = b ++ rest) (hv : enI (zgo N w.params n z) = some x) : ZT G z := by
 obtain ⟨t, e⟩ := enI_ok hv
 exact z_end n hP e hl (hZ _ _ (.mk hs S R .mk))
end
end
section
set_option tactic.hygienic false
noncomputable def varText (k : Int) : Str := Str.ofString "_" ++ Str.ofString (toString k)
noncomputable def WS.atom (e : Ev) (st : WS) (a : Int) (alone : Bool) : WS := if !alone && isOp e a then ((st.token "(").raw (atomOf e a)).raw ")" else st.token (atomOf e a)
noncomputable def WS.prefixOp (e : Ev) (st : WS) (a : Int) : WS := if isTight (atomOf e a) then { st.token (atomOf e a) with pre := true } else (st.token (atomOf e a)).raw " "
noncomputable def WS.infixOp (e : Ev) (st : WS) (a : Int) : WS := if a = 7 then st.raw "," else if a = 8 then st.raw "|" else if isTight (atomOf e a) then st.token (atomOf e a) else ((st.raw " ").raw (atomOf e a)).raw " "
noncomputable def WS.postfixOp (e : Ev) (st : WS) (a : Int) : WS := if isTight (atomOf e a) then st.token (atomOf e a) else (st.raw " ").raw (atomOf e a)
theorem infOp7 {e : Ev} {st : WS} {a : Int} (h : (a == 7) = true) : st.raw "," = st.infixOp e a := (if_pos (eq_of_beq h)).symm
theorem infOp8 {e : Ev} {st : WS} {a : Int} (h : (a == 7) = false) (h2 : (a == 8) = true) : st.raw "|" = st.infixOp e a := by rw [WS.infixOp, if_neg (ne_of_beq_false h), if_pos (eq_of_beq h2)]
theorem infOpT {e : Ev} {st : WS} {a : Int} (h : (a == 7) = false) (h2 : (a == 8) = false) (h3 : isTight (atomOf e a) = true) : st.token (atomOf e a) = st.infixOp e a := by rw [WS.infixOp, if_neg (ne_of_beq_false h), if_neg (ne_of_beq_false h2), if_pos h3]
theorem ne_true {b : Bool} (h : b = false) : ¬ b = true := by rw [h]; exact Bool.false_ne_true
theorem infOpL {e : Ev} {st : WS} {a : Int} (h : (a == 7) = false) (h2 : (a == 8) = false) (h3 : isTight (atomOf e a) = false) : ((st.raw " ").raw (atomOf e a)).raw " " = st.infixOp e a := by rw [WS.infixOp, if_neg (ne_of_beq_false h), if_neg (ne_of_beq_false h2), if_neg (ne_true h3)]
theorem raw_len {st : WS} {y : Str} {n : Nat} (h : st.out.length + 1 ≤ n) : (st.raw y).out.length ≤ n := by simp only [WS.raw, List.length_append, List.length_cons, List.length_nil]; omega
theorem token_le {st : WS} {y : Str} {n : Nat} (h : st.out.length + 2 ≤ n) : (st.token y).out.length ≤ n := Nat.le_trans (WS.token_len st y) h
section
variable {w : World} {rest b : List (Addr × Obj)} {c : Wc} {st : WS} {e : Ev}
theorem is_numbered_R (S : WrIn w c st b rest) {d : Addr} : Does w 406 1 [.ref c.x, .ref d] (b ++ rest) (fun r l => r = .bool false ∧ l = b ++ rest) := by
 refine z_in [("self", .ref c.x), ("term", .ref d)] (R := rest) (fun p hp => List.mem_append_right _ hp) ∅ ∅ ∅ ?_
 intro Z hZ G tk sz hP hR z
 (refine z_wat 99 S ∅ ∅ ?_; intro z)
 exact z_endE 99 hP hZ ∅ ∅
theorem write_atom_S (S : WrIn w c st b rest) (R : Rd w c e rest) {a : Int} {ta : Tok} {alone : Bool} (g : GoodA e a) (hz : st.out.length ≤ 80000) : Does w 413 6 [.ref c.x, .int a ta, .bool alone] (b ++ rest) (fun r l => r = .none ∧ ∃ b', l = b' ++ rest ∧ WrIn w c (st.atom e a alone) b' rest) := by
 refine z_in [("self", .ref c.x), ("a", .int a ta), ("alone", .bool alone)] (R := rest) (fun p hp => List.mem_append_right _ hp) ∅ ∅ ∅ ?_
 intro Z hZ G tk sz hP hR z
 (refine z_wat 99 S ∅ ∅ ?_; intro z)
 (refine z_wat 99 S ∅ ∅ ?_; intro z)
 refine z_callT 99 (fun t => atomText_R (b := b) R (ta := t 1) g) (by decide) ∅ ∅ ?_; intro tt tk2 sz2 z
 (refine z_split 13 (!alone) ∅ (fun h1 => ?_) (fun h1 => ?_))
 ·intro z
  (refine z_wat 99 S ∅ ∅ ?_; intro z)
  (refine z_omt 99 S R ∅ ∅ ?_; intro z)
  refine z_callE 99 (fun t => isop_R (b := b) (a := a) R (ta := t 1)) (by decide) ∅ ∅ ?_; intro tk2 sz2 z
  (refine z_split 2 (isOp e a) ∅ (fun h2 => ?_) (fun h2 => ?_))
  ·intro z
   (refine z_wmt 99 S ∅ ∅ ?_; intro z)
   refine z_callW 99 (fun t => token_S S (y := "(") (ty := t 1) (by decide +kernel) (by decide +kernel) (Nat.le_trans hz (by decide))) (by decide) hR ∅ ∅ ?_; intro b2 S2 tk2 sz2 z
   (refine z_wmt 99 S2 ∅ ∅ ?_; intro z)
   refine z_callW 99 (fun t => raw_S S2 (y := (atomOf e a)) (ty := t 1) g.fit.1 g.fit.2 (token_le (Nat.le_trans (Nat.add_le_add_right hz 2) (by decide)))) (by decide) hR ∅ ∅ ?_; intro b3 S3 tk2 sz2 z
   (refine z_wmt 99 S3 ∅ ∅ ?_; intro z)
   refine z_callW 99 (fun t => raw_S S3 (y := ")") (ty := t 1) (by decide +kernel) (by decide +kernel) (raw_len (Nat.add_le_add_right (token_le (Nat.le_trans (Nat.add_le_add_right hz 2) (by decide : 80002 ≤ 99999))) 1))) (by decide) hR ∅ ∅ ?_; intro b4 S4 tk2 sz2 z
   exact z_endS 99 S4 (by rw [WS.atom, h1, h2]; rfl) hP hZ ∅ ∅
  ·intro z
   (refine z_wmt 99 S ∅ ∅ ?_; intro z)
   refine z_callW 99 (fun t => token_S S (y := (atomOf e a)) (ty := t 1) g.fit.1 g.fit.2 (Nat.le_trans hz (by decide))) (by decide) hR ∅ ∅ ?_; intro b2 S2 tk2 sz2 z
   exact z_endS 99 S2 (by rw [WS.atom, h1, h2]; rfl) hP hZ ∅ ∅
 ·intro z
  (refine z_wmt 99 S ∅ ∅ ?_; intro z)
  refine z_callW 99 (fun t => token_S S (y := (atomOf e a)) (ty := t 1) g.fit.1 g.fit.2 (Nat.le_trans hz (by decide))) (by decide) hR ∅ ∅ ?_; intro b2 S2 tk2 sz2 z
  exact z_endS 99 S2 (by rw [WS.atom, h1]; rfl) hP hZ ∅ ∅
theorem infix_operator_S (S : WrIn w c st b rest) (R : Rd w c e rest) {a : Int} {ta : Tok} (g : GoodA e a) (hz : st.out.length ≤ 80000) : Does w 462 6 [.ref c.x, .int a ta] (b ++ rest) (fun r l => r = .none ∧ ∃ b', l = b' ++ rest ∧ WrIn w c (st.infixOp e a) b' rest) := by
 refine z_in [("self", .ref c.x), ("a", .int a ta)] (R := rest) (fun p hp => List.mem_append_right _ hp) ∅ ∅ ∅ ?_
 intro Z hZ G tk sz hP hR z
 (refine z_wat 99 S ∅ ∅ ?_; intro z)
 (refine z_wat 99 S ∅ ∅ ?_; intro z)
 refine z_callT 99 (fun t => atomText_R (b := b) R (ta := t 1) g) (by decide) ∅ ∅ ?_; intro tt tk2 sz2 z
 (refine z_split 13 (a == 7) ∅ (fun h1 => ?_) (fun h1 => ?_))
 ·intro z
  (refine z_wmt 99 S ∅ ∅ ?_; intro z)
  refine z_callW 99 (fun t => raw_S S (y := ",") (ty := t 1) (by decide +kernel) (by decide +kernel) (Nat.le_trans hz (by decide))) (by decide) hR ∅ ∅ ?_; intro b2 S2 tk2 sz2 z
  exact z_endS 99 S2 (infOp7 h1) hP hZ ∅ ∅
 ·intro z
  (refine z_split 11 (a == 8) ∅ (fun h2 => ?_) (fun h2 => ?_))
  ·intro z
   (refine z_wmt 99 S ∅ ∅ ?_; intro z)
   refine z_callW 99 (fun t => raw_S S (y := "|") (ty := t 1) (by decide +kernel) (by decide +kernel) (Nat.le_trans hz (by decide))) (by decide) hR ∅ ∅ ?_; intro b2 S2 tk2 sz2 z
   exact z_endS 99 S2 (infOp8 h1 h2) hP hZ ∅ ∅
  ·intro z
   refine z_callE 99 (fun t => is_tight_spec (led := b ++ rest) (t := t 0) g.fit.2) (by decide) ∅ ∅ ?_; intro tk2 sz2 z
   (refine z_split 2 (isTight (atomOf e a)) ∅ (fun h9 => ?_) (fun h9 => ?_))
   ·intro z
    (refine z_wmt 99 S ∅ ∅ ?_; intro z)
    refine z_callW 99 (fun t => token_S S (y := (atomOf e a)) (ty := t 1) g.fit.1 g.fit.2 (Nat.le_trans hz (by decide))) (by decide) hR ∅ ∅ ?_; intro b2 S2 tk2 sz2 z
    exact z_endS 99 S2 (infOpT h1 h2 h9) hP hZ ∅ ∅
   ·intro z
    (refine z_wmt 99 S ∅ ∅ ?_; intro z)
    refine z_callW 99 (fun t => raw_S S (y := " ") (ty := t 1) (by decide +kernel) (by decide +kernel) (Nat.le_trans hz (by decide))) (by decide) hR ∅ ∅ ?_; intro b2 S2 tk2 sz2 z
    (refine z_wmt 99 S2 ∅ ∅ ?_; intro z)
    refine z_callW 99 (fun t => raw_S S2 (y := (atomOf e a)) (ty := t 1) g.fit.1 g.fit.2 (raw_len (Nat.le_trans (Nat.add_le_add_right hz 1) (by decide)))) (by decide) hR ∅ ∅ ?_; intro b3 S3 tk2 sz2 z
    (refine z_wmt 99 S3 ∅ ∅ ?_; intro z)
    refine z_callW 99 (fun t => raw_S S3 (y := " ") (ty := t 1) (by decide +kernel) (by decide +kernel) (raw_len (Nat.add_le_add_right (raw_len (Nat.le_trans (Nat.add_le_add_right hz 1) (by decide : 80001 ≤ 99999))) 1))) (by decide) hR ∅ ∅ ?_; intro b4 S4 tk2 sz2 z
    exact z_endS 99 S4 (infOpL h1 h2 h9) hP hZ ∅ ∅
theorem postfix_operator_S (S : WrIn w c st b rest) (R : Rd w c e rest) {a : Int} {ta : Tok} (g : GoodA e a) (hz : st.out.length ≤ 80000) : Does w 469 6 [.ref c.x, .int a ta] (b ++ rest) (fun r l => r = .none ∧ ∃ b', l = b' ++ rest ∧ WrIn w c (st.postfixOp e a) b' rest) := by
 refine z_in [("self", .ref c.x), ("a", .int a ta)] (R := rest) (fun p hp => List.mem_append_right _ hp) ∅ ∅ ∅ ?_
 intro Z hZ G tk sz hP hR z
 (refine z_wat 99 S ∅ ∅ ?_; intro z)
 (refine z_wat 99 S ∅ ∅ ?_; intro z)
 refine z_callT 99 (fun t => atomText_R (b := b) R (ta := t 1) g) (by decide) ∅ ∅ ?_; intro tt tk2 sz2 z
 refine z_callE 99 (fun t => is_tight_spec (led := b ++ rest) (t := t 0) g.fit.2) (by decide) ∅ ∅ ?_; intro tk2 sz2 z
 (refine z_split 2 (isTight (atomOf e a)) ∅ (fun h9 => ?_) (fun h9 => ?_))
 ·intro z
  (refine z_wmt 99 S ∅ ∅ ?_; intro z)
  refine z_callW 99 (fun t => token_S S (y := (atomOf e a)) (ty := t 1) g.fit.1 g.fit.2 (Nat.le_trans hz (by decide))) (by decide) hR ∅ ∅ ?_; intro b2 S2 tk2 sz2 z
  exact z_endS 99 S2 ((if_pos h9).symm) hP hZ ∅ ∅
 ·intro z
  (refine z_wmt 99 S ∅ ∅ ?_; intro z)
  refine z_callW 99 (fun t => raw_S S (y := " ") (ty := t 1) (by decide +kernel) (by decide +kernel) (Nat.le_trans hz (by decide))) (by decide) hR ∅ ∅ ?_; intro b2 S2 tk2 sz2 z
  (refine z_wmt 99 S2 ∅ ∅ ?_; intro z)
  refine z_callW 99 (fun t => raw_S S2 (y := (atomOf e a)) (ty := t 1) g.fit.1 g.fit.2 (raw_len (Nat.le_trans (Nat.add_le_add_right hz 1) (by decide)))) (by decide) hR ∅ ∅ ?_; intro b3 S3 tk2 sz2 z
  exact z_endS 99 S3 ((if_neg (ne_true h9)).symm) hP hZ ∅ ∅
end
end
section
set_option tactic.hygienic false
section
variable {w : World} {rest b : List (Addr × Obj)} {c : Wc} {st : WS} {e : Ev}
theorem variable_text_S (S : WrIn w c st b rest) (R : Rd w c e rest) {k : Int} {tk1 : Tok} (h0 : 0 ≤ k) (h1 : k ≤ 1000) : Does w 399 1 [.ref c.x, .int k tk1] (b ++ rest) (fun r l => (∃ t, r = .str (varText k) t) ∧ l = b ++ rest) := by
 obtain ⟨oN, n1, n2⟩ := R.names
 obtain ⟨oT, t1, t2⟩ := R.taken
 have hd : (Str.ofString (toString k)).length ≤ 11 := by rw [PySem.ofString_length]; exact int_text_length_le10 (by decide) (by omega)
 refine z_in [("self", .ref c.x), ("k", .int k tk1)] (R := rest) (fun p hp => List.mem_append_right _ hp) ∅ ∅ ∅ ?_
 intro Z hZ G tk sz hP hR z
 refine z_wat 99 S ∅ ∅ ?_; intro z
 refine z_op 99 (md := fun t => .co .In (.int k (t 0)) (.ref c.nm)) (fun _ => .bool false) (fun _ _ az _ q => kda_in az.nw (az.at (mem_R hR n1)) n2 R.nmod (intKind_is _ _ _ _) false rfl (q 0 _)) ∅ ∅ ?_; intro t0 tk2 z
 refine z_op 99 (md := fun t => .pc (.type "str") [.int k (t 0)]) (fun t => .str (Str.ofString (toString k)) t) (fun _ _ _ _ q => P.str_of_int (Nat.lt_of_le_of_lt (Nat.log2_le_self _) (by omega)) (q _ _)) ∅ ∅ ?_; intro t8 tk8 z
 refine z_addS 99 (x := "_") (y := Str.ofString (toString k)) (Nat.le_trans (Nat.add_le_add_left hd _) (by decide)) ∅ ?_; intro t9 tk9 z
 refine z_while 99 (R' := rest) (fun _ ns ow led => ns = ([("self", .ref c.x), ("text", .str (varText k) t9)] : List (Str × Value)) ∧ ow = [] ∧ led = b ++ rest) 0 (ns := [("self", .ref c.x), ("text", .str (varText k) t9)]) ∅ ∅ ∅ ∅ (fun p hp => hR ▸ hp) (fun p hp => List.mem_append_right _ hp) ⟨rfl, rfl, rfl⟩ ?_
 rintro n _ m _ _ tk sz ⟨rfl, rfl, rfl⟩ G' hR' hP' z
 refine z_wat 99 S ∅ ∅ ?_; intro z
 refine z_op 99 (md := fun t => .co .In (.str (varText k) (t 0)) (.ref c.tn)) (fun _ => .bool false) (fun _ _ az _ q => kda_in az.nw (az.at (mem_R hR' t1)) t2 R.tmod (PySem.strKind_is _ _ _ _) false rfl (q 0 _)) ∅ ∅ ?_; intro t7 tk7 z
 refine z_out 99 hP' ∅ ?_; intro z
 exact z_endT 99 t9 hP hZ ∅ ∅
end
end
section
set_option tactic.hygienic false
section
variable {w : World} {rest b : List (Addr × Obj)} {c : Wc} {st : WS} {e : Ev}
theorem prefix_operator_S (S : WrIn w c st b rest) (R : Rd w c e rest) {a : Int} {ta : Tok} (g : GoodA e a) (hz : st.out.length ≤ 80000) : Does w 455 6 [.ref c.x, .int a ta] (b ++ rest) (fun r l => r = .none ∧ ∃ b', l = b' ++ rest ∧ WrIn w c (st.prefixOp e a) b' rest) := by
 refine z_in [("self", .ref c.x), ("a", .int a ta)] (R := rest) (fun p hp => List.mem_append_right _ hp) ∅ ∅ ∅ ?_
 intro Z hZ G tk sz hP hR z
 (refine z_wat 99 S ∅ ∅ ?_; intro z)
 (refine z_wat 99 S ∅ ∅ ?_; intro z)
 refine z_callT 99 (fun t => atomText_R (b := b) R (ta := t 1) g) (by decide) ∅ ∅ ?_; intro tt tk2 sz2 z
 (refine z_wmt 99 S ∅ ∅ ?_; intro z)
 refine z_callW 99 (fun t => token_S S (y := (atomOf e a)) (ty := t 1) g.fit.1 g.fit.2 (Nat.le_trans hz (by decide))) (by decide) hR ∅ ∅ ?_; intro b2 S2 tk2 sz2 z
 refine z_callE 99 (fun t => is_tight_spec (led := b2 ++ rest) (t := t 0) g.fit.2) (by decide) ∅ ∅ ?_; intro tk2 sz2 z
 (refine z_split 2 (isTight (atomOf e a)) ∅ (fun h9 => ?_) (fun h9 => ?_))
 ·intro z
  refine z_wopen 2 S2 hR ∅ ∅ ∅ ?_; intro tl ys n1 n2 hys z
  refine z_setO 99 0 (zR hR S.inst) ∅ ?_; intro sz z
  have e0 : st.prefixOp e a = { st.token (atomOf e a) with pre := true } := if_pos h9
  rw [e0] at hZ
  exact z_wclose 99 (S2.put { st.token (atomOf e a) with pre := true } (tl := tl) (n1 := n1) (n2 := n2) hys) hP hZ ∅ ∅ ∅
 ·intro z
  (refine z_wmt 99 S2 ∅ ∅ ?_; intro z)
  refine z_callW 99 (fun t => raw_S S2 (y := " ") (ty := t 1) (by decide +kernel) (by decide +kernel) (token_le (Nat.le_trans (Nat.add_le_add_right hz 2) (by decide)))) (by decide) hR ∅ ∅ ?_; intro b3 S3 tk2 sz2 z
  exact z_endS 99 S3 ((if_neg (ne_true h9)).symm) hP hZ ∅ ∅
end
end
section
set_option tactic.hygienic false
mutual
inductive WfT (e : Ev) : Tm → Prop
 | v {k : Int} : 0 ≤ k → k ≤ 1000 → WfT e (.v k)
 | i {k : Int} : -1000 ≤ k → k ≤ 1000 → WfT e (.i k)
 | a {k : Int} : GoodA e k → WfT e (.a k)
 | dot {x y : Tm} : WfT e x → WfT e y → WfT e (.s 0 [x, y])
 | curly {x : Tm} : WfT e x → WfT e (.s 9 [x])
 | s {f a : Int} {args : List Tm} : f ≠ 0 → f ≠ 9 → 0 ≤ f → f ≤ 1000 → e.funs[f.toNat]? = some (a, Int.ofNat args.length) → GoodA e a → args ≠ [] → args.length ≤ 3 → WfTs e args → WfT e (.s f args)
inductive WfTs (e : Ev) : List Tm → Prop
 | nil : WfTs e []
 | cons {t : Tm} {ts : List Tm} : WfT e t → WfTs e ts → WfTs e (t :: ts)
end
mutual
theorem WfT.ok {e : Ev} : ∀ {t : Tm}, WfT e t → OkT t
 | _, .v _ _ => .v
 | _, .i h1 h2 => .i h1 h2
 | _, .a g => .a g.1 g.2.1
 | _, .dot h1 h2 => .s (by decide) (by decide) (fun _ => rfl) (by simp) (by simp) (.cons h1.ok (.cons h2.ok .nil))
 | _, .curly h1 => .s (by decide) (by decide) (fun h => absurd h (by decide)) (by simp) (by simp) (.cons h1.ok .nil)
 | _, .s h0 _ h1 h2 _ _ h3 h4 h5 => .s h1 h2 (fun h => absurd h h0) h3 h4 h5.ok
theorem WfTs.ok {e : Ev} : ∀ {ts : List Tm}, WfTs e ts → OkTs ts
 | _, .nil => .nil
 | _, .cons h1 h2 => .cons h1.ok h2.ok
end
noncomputable def isNat : Tm → Bool
 | .i k => decide (0 ≤ k)
 | _ => false
noncomputable def shape1 (e : Ev) (n : Int) (x : Tm) : Option (Fx × Int × Kd) := match e.f .pre n with
 | some y => if n = 3 ∧ isNat x = true then none else some (.pre, y)
 | none => (e.f .post n).map fun y => (.post, y)
noncomputable def shapeA (e : Ev) (n : Int) : List Tm → Option (Fx × Int × Kd)
 | [_, _] => (e.f .inf n).map fun y => (.inf, y)
 | [x] => shape1 e n x
 | _ => none
noncomputable def shape (e : Ev) : Tm → Option (Fx × Int × Kd)
 | .s f args => if f = 0 ∨ f = 9 then none else shapeA e (nameOf e f) args
 | _ => none
theorem nameOf_eq {e : Ev} {f a k : Int} (h : e.funs[f.toNat]? = some (a, k)) : nameOf e f = a := by unfold nameOf; rw [List.getD_eq_getElem?_getD, h]; rfl
noncomputable def ShapeOut (b rest : List (Addr × Obj)) (o : Option (Fx × Int × Kd)) (r : Value) (l : List (Addr × Obj)) : Prop := match o with
 | none => r = .none ∧ l = b ++ rest
 | some y => ∃ d t0 t1 t2, r = .ref d ∧ l = b ++ ((d, tupO [.str y.1.text t0, .int y.2.1 t1, .str y.2.2.text t2]) :: rest) ∧ ∀ p ∈ b ++ rest, p.1 ≠ d
section
variable {w : World} {rest b : List (Addr × Obj)} {c : Wc} {st : WS} {e : Ev}
theorem infix_none (R : Rd w c e rest) {a : Int} {ta : Tok} (h : e.f .inf a = none) : Does w 249 1 [.ref c.pA, .int a ta] (b ++ rest) (fun r l => r = .none ∧ l = b ++ rest) :=
 Does.weak (infix_R R) (by rintro r l ⟨⟨v, rfl, hv⟩, rfl⟩; rw [h] at hv; rw [show v = none from hv]; exact ⟨_, ⟨rfl, rfl⟩, fun p hp => hp⟩)
theorem infix_some (R : Rd w c e rest) {a p : Int} {k : Kd} {ta : Tok} (h : e.f .inf a = some (p, k)) : Does w 249 1 [.ref c.pA, .int a ta] (b ++ rest) (fun r l => ∃ tp t1 t2, r = .ref tp ∧ (tp, tupO [.int p t1, .str k.text t2]) ∈ rest ∧ l = b ++ rest) :=
 Does.weak (infix_R R) (by rintro r l ⟨⟨v, rfl, hv⟩, rfl⟩; rw [h] at hv; obtain ⟨tp, t1, t2, rfl, hm⟩ := hv; exact ⟨_, ⟨tp, t1, t2, rfl, hm, rfl⟩, fun p hp => hp⟩)
theorem prefix_none (R : Rd w c e rest) {a : Int} {ta : Tok} (h : e.f .pre a = none) : Does w 242 1 [.ref c.pA, .int a ta] (b ++ rest) (fun r l => r = .none ∧ l = b ++ rest) :=
 Does.weak (prefix_R R) (by rintro r l ⟨⟨v, rfl, hv⟩, rfl⟩; rw [h] at hv; rw [show v = none from hv]; exact ⟨_, ⟨rfl, rfl⟩, fun p hp => hp⟩)
theorem prefix_some (R : Rd w c e rest) {a p : Int} {k : Kd} {ta : Tok} (h : e.f .pre a = some (p, k)) : Does w 242 1 [.ref c.pA, .int a ta] (b ++ rest) (fun r l => ∃ tp t1 t2, r = .ref tp ∧ (tp, tupO [.int p t1, .str k.text t2]) ∈ rest ∧ l = b ++ rest) :=
 Does.weak (prefix_R R) (by rintro r l ⟨⟨v, rfl, hv⟩, rfl⟩; rw [h] at hv; obtain ⟨tp, t1, t2, rfl, hm⟩ := hv; exact ⟨_, ⟨tp, t1, t2, rfl, hm, rfl⟩, fun p hp => hp⟩)
theorem postfix_none (R : Rd w c e rest) {a : Int} {ta : Tok} (h : e.f .post a = none) : Does w 256 1 [.ref c.pA, .int a ta] (b ++ rest) (fun r l => r = .none ∧ l = b ++ rest) :=
 Does.weak (postfix_R R) (by rintro r l ⟨⟨v, rfl, hv⟩, rfl⟩; rw [h] at hv; rw [show v = none from hv]; exact ⟨_, ⟨rfl, rfl⟩, fun p hp => hp⟩)
theorem postfix_some (R : Rd w c e rest) {a p : Int} {k : Kd} {ta : Tok} (h : e.f .post a = some (p, k)) : Does w 256 1 [.ref c.pA, .int a ta] (b ++ rest) (fun r l => ∃ tp t1 t2, r = .ref tp ∧ (tp, tupO [.int p t1, .str k.text t2]) ∈ rest ∧ l = b ++ rest) :=
 Does.weak (postfix_R R) (by rintro r l ⟨⟨v, rfl, hv⟩, rfl⟩; rw [h] at hv; obtain ⟨tp, t1, t2, rfl, hm⟩ := hv; exact ⟨_, ⟨tp, t1, t2, rfl, hm, rfl⟩, fun p hp => hp⟩)
theorem shape_k (S : WrIn w c st b rest) {d : Addr} {kx : Str} {t1 : Tok} {more : List Value} (hm : (d, tupO (.str kx t1 :: more)) ∈ rest) (hk : (kx == ("s" : Str)) = false) : Does w 434 2 [.ref c.x, .ref d] (b ++ rest) (ShapeOut b rest none) := by
 refine z_in [("self", .ref c.x), ("term", .ref d)] (R := rest) (fun p hp => List.mem_append_right _ hp) ∅ ∅ ∅ ?_
 intro Z hZ G tk sz hP hR z
 (refine z_wat 99 S ∅ ∅ ?_; intro z)
 (refine z_item (i := 0) 99 (zR hR hm) ∅ ?_; intro z)
 (refine z_br 6 true (x := !(kx == ("s" : Str))) (by rw [hk]; rfl) ∅ ?_; intro z)
 exact z_endE 99 hP hZ ∅ ∅
theorem shape_dc (S : WrIn w c st b rest) {d bb : Addr} {f : Int} {t1 t2 : Tok} (hm : (d, tupO [.str "s" t1, .int f t2, .ref bb]) ∈ rest) (hf : f = 0 ∨ f = 9) : Does w 434 2 [.ref c.x, .ref d] (b ++ rest) (ShapeOut b rest none) := by
 refine z_in [("self", .ref c.x), ("term", .ref d)] (R := rest) (fun p hp => List.mem_append_right _ hp) ∅ ∅ ∅ ?_
 intro Z hZ G tk sz hP hR z
 (refine z_wat 99 S ∅ ∅ ?_; intro z)
 (refine z_item (i := 0) 99 (zR hR hm) ∅ ?_; intro z)
 (refine z_item (i := 1) 99 (zR hR hm) ∅ ?_; intro z)
 (refine z_split 6 (f == 0) ∅ (fun h0 => ?_) (fun h0 => ?_))
 ·intro z
  exact z_endE 99 hP hZ ∅ ∅
 ·intro z
  (refine z_item (i := 1) 99 (zR hR hm) ∅ ?_; intro z)
  (refine z_br 6 true (beq_iff_eq.mpr (hf.resolve_left (ne_of_beq_false h0))) ∅ ?_; intro z)
  exact z_endE 99 hP hZ ∅ ∅
end
end
section
set_option tactic.hygienic false
section
variable {w : World} {rest b : List (Addr × Obj)} {c : Wc} {st : WS} {e : Ev} {N : List (Str × NameKind)} {dep : Nat} {G : ZG w N dep} {z : ZC}
theorem z_askS (n : Nat) {f dd : Nat} {a p : Int} {k : Kd} (D : ∀ ta : Tok, Does w f dd [.ref c.pA, .int a ta] (b ++ rest) (fun r l => ∃ tp t1 t2, r = .ref tp ∧ (tp, tupO [.int p t1, .str k.text t2]) ∈ rest ∧ l = b ++ rest)) (hd : dd ≤ dep) (hR : G.R = rest) (hl : (zgo N w.params n z).σ.led = b ++ rest) (hv : clOf (zgo N w.params n z) = some (f, [.ref c.pA, .int a (tks (zgo N w.params n z) 1)]))
  (h : ∀ tp t1 t2, (tp, tupO [.int p t1, .str k.text t2]) ∈ rest → ∀ tk sz, let c' := zres (zgo N w.params n z) (.ref tp) (zgo N w.params n z).σ.own (b ++ rest) tk sz; ZT G c') : ZT G z := by
 refine z_call n (args := fun t => [.ref c.pA, .int a (t 1)]) (fun t => D (t 1)) hd hv hl ?_
 rintro _ _ ⟨tp, t1, t2, rfl, m, rfl⟩ tk sz
 exact ⟨fun q hq => List.mem_append_right _ (hR ▸ hq), h tp t1 t2 m tk sz⟩
noncomputable def shAt (own : List (Addr × Obj)) (j : Nat) : Option (Str × Int × Str) := tupF own j fun vs => onCons vs none fun a r => two r none fun b v => onStr a none fun x => onInt b none fun k => onStr v none fun y => some (x, k, y)
theorem shAt_ok {own : List (Addr × Obj)} {j : Nat} {x y : Str} {f : Int} (h : shAt own j = some (x, f, y)) : ∃ t1 t2 t3, (adr own j, tupO [.str x t1, .int f t2, .str y t3]) ∈ own := by
 obtain ⟨vs, m, h1⟩ := tupF_ok h
 obtain ⟨a, r, rfl, h0⟩ := onCons_ok h1 none_ne
 obtain ⟨b, v', rfl, h2⟩ := two_ok h0 none_ne
 obtain ⟨x', t1, rfl, h3⟩ := onStr_ok h2 none_ne
 obtain ⟨k', t2, rfl, h4⟩ := onInt_ok h3 none_ne
 obtain ⟨y', t3, rfl, h5⟩ := onStr_ok h4 none_ne
 cases h5
 exact ⟨t1, t2, t3, adr_mem m⟩
theorem z_endSh (n : Nat) {Z : Value → List (Addr × Obj) → Prop} {fx : Fx} {p : Int} {k : Kd} {own : List (Addr × Obj)} (hof : ∀ q ∈ own, ∀ r ∈ b ++ rest, q.1 ≠ r.1) (hP : G.P = ZFin Z) (hZ : ∀ r l, ShapeOut b rest (some (fx, p, k)) r l → Z r l) (ho : (zgo N w.params n z).σ.own = own) (hl : (zgo N w.params n z).σ.led = b ++ rest) (ht : shAt own 0 = some (fx.text, p, k.text)) (hv : enOf (zgo N w.params n z) = some (.ref (adr own 0))) : ZT G z := by
 obtain ⟨t1, t2, t3, m⟩ := shAt_ok ht
 refine z_endO n hP hv (l := b ++ ((adr own 0, tupO [.str fx.text t1, .int p t2, .str k.text t3]) :: rest)) (fun q hq => ?_) (hZ _ _ ⟨_, t1, t2, t3, rfl, rfl, fun q hq => (hof _ m q hq).symm⟩)
 rw [ho, hl]
 simp only [List.mem_append, List.mem_cons] at hq ⊢
 rcases hq with h | h | h
 ·exact .inr (.inl h)
 ·exact .inl (h ▸ m)
 ·exact .inr (.inr h)
theorem shape_head {dep : Nat} {G : ZG w (nmAt w 434) (dep + 1)} {tk sz : Nat} (hR : G.R = rest) (S : WrIn w c st b rest) (R : Rd w c e rest) {d bb : Addr} {f a k : Int} {t1 t2 : Tok} (hm : (d, tupO [.str "s" t1, .int f t2, .ref bb]) ∈ rest) (hf0 : f ≠ 0) (hf9 : f ≠ 9) (h0 : 0 ≤ f) (h1 : f ≤ 1000) (hg : e.funs[f.toNat]? = some (a, k))
  (h : ∀ t tk sz, ZT G ⟨⟨[("args", .ref bb), ("name", .int a t), ("term", .ref d), ("self", .ref c.x)], [], b ++ rest, tk, sz⟩, [], .ss ((bdAt w 434).drop 4)⟩) : ZT G (zstart w 434 [("self", .ref c.x), ("term", .ref d)] [] (b ++ rest) tk sz) := by
 (refine z_wat 99 S ∅ ∅ ?_; intro z)
 (refine z_item (i := 0) 99 (zR hR hm) ∅ ?_; intro z)
 (refine z_item (i := 1) 99 (zR hR hm) ∅ ?_; intro z)
 (refine z_br 6 false (beq_false_of_ne hf0) ∅ ?_; intro z)
 (refine z_item (i := 1) 99 (zR hR hm) ∅ ?_; intro z)
 (refine z_br 6 false (beq_false_of_ne hf9) ∅ ?_; intro z)
 (refine z_wmt 99 S ∅ ∅ ?_; intro z)
 refine z_callE 99 (fun t => is_numbered_R (d := d) S) (Nat.le_add_left 1 _) ∅ ∅ ?_; intro tk2 sz2 z
 (refine z_wat 99 S ∅ ∅ ?_; intro z)
 (refine z_rmt 99 S R ∅ ∅ ?_; intro z)
 (refine z_item (i := 1) 99 (zR hR hm) ∅ ?_; intro z)
 refine z_callT 99 (fun t => name_R (b := b) R (tf := t 1) h0 (by lia) hg) (Nat.le_add_left 1 _) ∅ ∅ ?_; intro tt tk2 sz2 z
 (refine z_item (i := 2) 99 (zR hR hm) ∅ ?_; intro z)
 (refine z_join 3 (h tt) ∅)
theorem shape_3 (S : WrIn w c st b rest) (R : Rd w c e rest) {d bb x y z : Addr} {f a : Int} {t1 t2 : Tok} (hm : (d, tupO [.str "s" t1, .int f t2, .ref bb]) ∈ rest) (hb : (bb, tupO [.ref x, .ref y, .ref z]) ∈ rest) (hf0 : f ≠ 0) (hf9 : f ≠ 9) (h0 : 0 ≤ f) (h1 : f ≤ 1000) (hg : e.funs[f.toNat]? = some (a, 3)) :
  Does w 434 2 [.ref c.x, .ref d] (b ++ rest) (ShapeOut b rest none) := by
 refine z_in [("self", .ref c.x), ("term", .ref d)] (R := rest) (fun p hp => List.mem_append_right _ hp) ∅ ∅ ∅ ?_
 intro Z hZ G tk sz hP hR z
 refine shape_head (dep := 0) (G := G) (tk := tk) (sz := sz) hR S R hm hf0 hf9 h0 h1 hg ?_
 intro tn tk sz
 refine z_lenT 99 (zR hR hb) (Nat.le_of_ble_eq_true ∅) ∅ ?_; intro z
 refine z_lenT 99 (zR hR hb) (Nat.le_of_ble_eq_true ∅) ∅ ?_; intro z
 exact z_endE 99 hP hZ ∅ ∅
theorem shape_2n (S : WrIn w c st b rest) (R : Rd w c e rest) {d bb x y : Addr} {f a : Int} {t1 t2 : Tok} (hm : (d, tupO [.str "s" t1, .int f t2, .ref bb]) ∈ rest) (hb : (bb, tupO [.ref x, .ref y]) ∈ rest) (hf0 : f ≠ 0) (hf9 : f ≠ 9) (h0 : 0 ≤ f) (h1 : f ≤ 1000) (hg : e.funs[f.toNat]? = some (a, 2)) (hi : e.f .inf a = none) :
  Does w 434 2 [.ref c.x, .ref d] (b ++ rest) (ShapeOut b rest none) := by
 refine z_in [("self", .ref c.x), ("term", .ref d)] (R := rest) (fun p hp => List.mem_append_right _ hp) ∅ ∅ ∅ ?_
 intro Z hZ G tk sz hP hR z
 refine shape_head (dep := 0) (G := G) (tk := tk) (sz := sz) hR S R hm hf0 hf9 h0 h1 hg ?_
 intro tn tk sz
 refine z_lenT 99 (zR hR hb) (Nat.le_of_ble_eq_true ∅) ∅ ?_; intro z
 (refine z_wat 99 S ∅ ∅ ?_; intro z)
 (refine z_omt 99 S R ∅ ∅ ?_; intro z)
 refine z_callE 99 (fun t => infix_none (b := b) (ta := t 1) R hi) (by decide) ∅ ∅ ?_; intro tk2 sz2 z
 refine z_lenT 99 (zR hR hb) (Nat.le_of_ble_eq_true ∅) ∅ ?_; intro z
 exact z_endE 99 hP hZ ∅ ∅
theorem shape_2s (S : WrIn w c st b rest) (R : Rd w c e rest) {d bb x y : Addr} {f a : Int} {t1 t2 : Tok} (hm : (d, tupO [.str "s" t1, .int f t2, .ref bb]) ∈ rest) (hb : (bb, tupO [.ref x, .ref y]) ∈ rest) (hf0 : f ≠ 0) (hf9 : f ≠ 9) (h0 : 0 ≤ f) (h1 : f ≤ 1000) (hg : e.funs[f.toNat]? = some (a, 2)) {p : Int} {k : Kd} (hi : e.f .inf a = some (p, k)) :
  Does w 434 2 [.ref c.x, .ref d] (b ++ rest) (ShapeOut b rest (some (.inf, p, k))) := by
 refine z_in [("self", .ref c.x), ("term", .ref d)] (R := rest) (fun p hp => List.mem_append_right _ hp) ∅ ∅ ∅ ?_
 intro Z hZ G tk sz hP hR z
 refine shape_head (dep := 0) (G := G) (tk := tk) (sz := sz) hR S R hm hf0 hf9 h0 h1 hg ?_
 intro tn tk sz
 refine z_lenT 99 (zR hR hb) (Nat.le_of_ble_eq_true ∅) ∅ ?_; intro z
 (refine z_wat 99 S ∅ ∅ ?_; intro z)
 (refine z_omt 99 S R ∅ ∅ ?_; intro z)
 refine z_askS 99 (fun ta => infix_some (b := b) (ta := ta) R hi) (by decide) hR ∅ ∅ ?_; intro tp u1 u2 hm2 tk sz z
 (refine z_item (i := 0) 99 (zR hR hm2) ∅ ?_; intro z)
 (refine z_item (i := 1) 99 (zR hR hm2) ∅ ?_; intro z)
 (refine z_nt 6 (l := b ++ rest) ∅ ∅ ?_; intro own hnd hof z)
 exact z_endSh 99 hof hP hZ ∅ ∅ ∅ ∅
theorem shape_1n (S : WrIn w c st b rest) (R : Rd w c e rest) {d bb x : Addr} {f a : Int} {t1 t2 : Tok} (hm : (d, tupO [.str "s" t1, .int f t2, .ref bb]) ∈ rest) (hb : (bb, tupO [.ref x]) ∈ rest) (hf0 : f ≠ 0) (hf9 : f ≠ 9) (h0 : 0 ≤ f) (h1 : f ≤ 1000) (hg : e.funs[f.toNat]? = some (a, 1)) (hp : e.f .pre a = none) (hi : e.f .post a = none) :
  Does w 434 2 [.ref c.x, .ref d] (b ++ rest) (ShapeOut b rest none) := by
 refine z_in [("self", .ref c.x), ("term", .ref d)] (R := rest) (fun p hp => List.mem_append_right _ hp) ∅ ∅ ∅ ?_
 intro Z hZ G tk sz hP hR z
 refine shape_head (dep := 0) (G := G) (tk := tk) (sz := sz) hR S R hm hf0 hf9 h0 h1 hg ?_
 intro tn tk sz
 refine z_lenT 99 (zR hR hb) (Nat.le_of_ble_eq_true ∅) ∅ ?_; intro z
 refine z_lenT 99 (zR hR hb) (Nat.le_of_ble_eq_true ∅) ∅ ?_; intro z
 (refine z_wat 99 S ∅ ∅ ?_; intro z)
 (refine z_omt 99 S R ∅ ∅ ?_; intro z)
 refine z_callE 99 (fun t => prefix_none (b := b) (ta := t 1) R hp) (by decide) ∅ ∅ ?_; intro tk2 sz2 z
 (refine z_wat 99 S ∅ ∅ ?_; intro z)
 (refine z_omt 99 S R ∅ ∅ ?_; intro z)
 refine z_callE 99 (fun t => postfix_none (b := b) (ta := t 1) R hi) (by decide) ∅ ∅ ?_; intro tk2 sz2 z
 exact z_endE 99 hP hZ ∅ ∅
theorem shape_1o (S : WrIn w c st b rest) (R : Rd w c e rest) {d bb x : Addr} {f a : Int} {t1 t2 : Tok} (hm : (d, tupO [.str "s" t1, .int f t2, .ref bb]) ∈ rest) (hb : (bb, tupO [.ref x]) ∈ rest) (hf0 : f ≠ 0) (hf9 : f ≠ 9) (h0 : 0 ≤ f) (h1 : f ≤ 1000) (hg : e.funs[f.toNat]? = some (a, 1)) {p : Int} {k : Kd} (hp : e.f .pre a = none) (hi : e.f .post a = some (p, k)) :
  Does w 434 2 [.ref c.x, .ref d] (b ++ rest) (ShapeOut b rest (some (.post, p, k))) := by
 refine z_in [("self", .ref c.x), ("term", .ref d)] (R := rest) (fun p hp => List.mem_append_right _ hp) ∅ ∅ ∅ ?_
 intro Z hZ G tk sz hP hR z
 refine shape_head (dep := 0) (G := G) (tk := tk) (sz := sz) hR S R hm hf0 hf9 h0 h1 hg ?_
 intro tn tk sz
 refine z_lenT 99 (zR hR hb) (Nat.le_of_ble_eq_true ∅) ∅ ?_; intro z
 refine z_lenT 99 (zR hR hb) (Nat.le_of_ble_eq_true ∅) ∅ ?_; intro z
 (refine z_wat 99 S ∅ ∅ ?_; intro z)
 (refine z_omt 99 S R ∅ ∅ ?_; intro z)
 refine z_callE 99 (fun t => prefix_none (b := b) (ta := t 1) R hp) (by decide) ∅ ∅ ?_; intro tk2 sz2 z
 (refine z_wat 99 S ∅ ∅ ?_; intro z)
 (refine z_omt 99 S R ∅ ∅ ?_; intro z)
 refine z_askS 99 (fun ta => postfix_some (b := b) (ta := ta) R hi) (by decide) hR ∅ ∅ ?_; intro tp u1 u2 hm2 tk sz z
 (refine z_item (i := 0) 99 (zR hR hm2) ∅ ?_; intro z)
 (refine z_item (i := 1) 99 (zR hR hm2) ∅ ?_; intro z)
 (refine z_nt 6 (l := b ++ rest) ∅ ∅ ?_; intro own hnd hof z)
 exact z_endSh 99 hof hP hZ ∅ ∅ ∅ ∅
end
end
section
set_option tactic.hygienic false
section
variable {w : World} {rest b : List (Addr × Obj)} {c : Wc} {st : WS} {e : Ev}
theorem shape_1p (S : WrIn w c st b rest) (R : Rd w c e rest) {d bb x : Addr} {f a : Int} {t1 t2 : Tok} (hm : (d, tupO [.str "s" t1, .int f t2, .ref bb]) ∈ rest) (hb : (bb, tupO [.ref x]) ∈ rest) (hf0 : f ≠ 0) (hf9 : f ≠ 9) (h0 : 0 ≤ f) (h1 : f ≤ 1000) (hg : e.funs[f.toNat]? = some (a, 1)) {p : Int} {k : Kd} (hp : e.f .pre a = some (p, k)) {kx : Str} {tx : Tok} {more : List Value} (hx : (x, tupO (.str kx tx :: more)) ∈ rest) (hkx : (kx == Str.ofString "i") = false) :
  Does w 434 2 [.ref c.x, .ref d] (b ++ rest) (ShapeOut b rest (some (.pre, p, k))) := by
 refine z_in [("self", .ref c.x), ("term", .ref d)] (R := rest) (fun p hp => List.mem_append_right _ hp) ∅ ∅ ∅ ?_
 intro Z hZ G tk sz hP hR z
 refine shape_head (dep := 0) (G := G) (tk := tk) (sz := sz) hR S R hm hf0 hf9 h0 h1 hg ?_
 intro tn tk sz
 refine z_lenT 99 (zR hR hb) (Nat.le_of_ble_eq_true ∅) ∅ ?_; intro z
 refine z_lenT 99 (zR hR hb) (Nat.le_of_ble_eq_true ∅) ∅ ?_; intro z
 (refine z_wat 99 S ∅ ∅ ?_; intro z)
 (refine z_omt 99 S R ∅ ∅ ?_; intro z)
 refine z_askS 99 (fun ta => prefix_some (b := b) (ta := ta) R hp) (by decide) hR ∅ ∅ ?_; intro tp u1 u2 hm2 tk sz z
 (refine z_split 26 (a == 3) ∅ (fun hc => ?_) (fun hc => ?_))
 ·intro z
  (refine z_item (i := 0) 99 (zR hR hb) ∅ ?_; intro z)
  (refine z_item (i := 0) 99 (zR hR hx) ∅ ?_; intro z)
  (refine z_br 6 false hkx ∅ ?_; intro z)
  (refine z_item (i := 0) 99 (zR hR hm2) ∅ ?_; intro z)
  (refine z_item (i := 1) 99 (zR hR hm2) ∅ ?_; intro z)
  (refine z_nt 6 (l := b ++ rest) ∅ ∅ ?_; intro own hnd hof z)
  exact z_endSh 99 hof hP hZ ∅ ∅ ∅ ∅
 ·intro z
  (refine z_item (i := 0) 99 (zR hR hm2) ∅ ?_; intro z)
  (refine z_item (i := 1) 99 (zR hR hm2) ∅ ?_; intro z)
  (refine z_nt 6 (l := b ++ rest) ∅ ∅ ?_; intro own hnd hof z)
  exact z_endSh 99 hof hP hZ ∅ ∅ ∅ ∅
theorem shape_1i (S : WrIn w c st b rest) (R : Rd w c e rest) {d bb x : Addr} {f a : Int} {t1 t2 : Tok} (hm : (d, tupO [.str "s" t1, .int f t2, .ref bb]) ∈ rest) (hb : (bb, tupO [.ref x]) ∈ rest) (hf0 : f ≠ 0) (hf9 : f ≠ 9) (h0 : 0 ≤ f) (h1 : f ≤ 1000) (hg : e.funs[f.toNat]? = some (a, 1)) {p : Int} {k : Kd} (hp : e.f .pre a = some (p, k)) {i : Int} {tx ti : Tok} (hx : (x, tupO [.str "i" tx, .int i ti]) ∈ rest) :
  Does w 434 2 [.ref c.x, .ref d] (b ++ rest) (ShapeOut b rest (if a = 3 ∧ 0 ≤ i then none else some (.pre, p, k))) := by
 refine z_in [("self", .ref c.x), ("term", .ref d)] (R := rest) (fun p hp => List.mem_append_right _ hp) ∅ ∅ ∅ ?_
 intro Z hZ G tk sz hP hR z
 refine shape_head (dep := 0) (G := G) (tk := tk) (sz := sz) hR S R hm hf0 hf9 h0 h1 hg ?_
 intro tn tk sz
 refine z_lenT 99 (zR hR hb) (Nat.le_of_ble_eq_true ∅) ∅ ?_; intro z
 refine z_lenT 99 (zR hR hb) (Nat.le_of_ble_eq_true ∅) ∅ ?_; intro z
 (refine z_wat 99 S ∅ ∅ ?_; intro z)
 (refine z_omt 99 S R ∅ ∅ ?_; intro z)
 refine z_askS 99 (fun ta => prefix_some (b := b) (ta := ta) R hp) (by decide) hR ∅ ∅ ?_; intro tp u1 u2 hm2 tk sz z
 (refine z_split 26 (a == 3) ∅ (fun hc => ?_) (fun hc => ?_))
 ·intro z
  (refine z_item (i := 0) 99 (zR hR hb) ∅ ?_; intro z)
  (refine z_item (i := 0) 99 (zR hR hx) ∅ ?_; intro z)
  (refine z_item (i := 0) 99 (zR hR hb) ∅ ?_; intro z)
  (refine z_item (i := 1) 99 (zR hR hx) ∅ ?_; intro z)
  (refine z_split 6 (decide (0 ≤ i)) ∅ (fun hi => ?_) (fun hi => ?_))
  ·intro z
   rw [if_pos ⟨eq_of_beq hc, of_decide_eq_true hi⟩] at hZ
   exact z_endE 99 hP hZ ∅ ∅
  ·intro z
   rw [if_neg fun q => of_decide_eq_false hi q.2] at hZ
   (refine z_item (i := 0) 99 (zR hR hm2) ∅ ?_; intro z)
   (refine z_item (i := 1) 99 (zR hR hm2) ∅ ?_; intro z)
   (refine z_nt 6 (l := b ++ rest) ∅ ∅ ?_; intro own hnd hof z)
   exact z_endSh 99 hof hP hZ ∅ ∅ ∅ ∅
 ·intro z
  rw [if_neg fun q => ne_of_beq_false hc q.1] at hZ
  (refine z_item (i := 0) 99 (zR hR hm2) ∅ ?_; intro z)
  (refine z_item (i := 1) 99 (zR hR hm2) ∅ ?_; intro z)
  (refine z_nt 6 (l := b ++ rest) ∅ ∅ ?_; intro own hnd hof z)
  exact z_endSh 99 hof hP hZ ∅ ∅ ∅ ∅
end
end
section
theorem Does.frame1 {w : World} {f : Addr} {d : Nat} {args : List Value} {led : List (Addr × Obj)} {x : Addr × Obj} {post : Value → List (Addr × Obj) → Prop} (hd : ∀ p ∈ led, p.1 ≠ x.1) (D : Does w f d args led post) :
  Does w f d args (x :: led) (fun r l => ∃ l', l = x :: l' ∧ (∀ p ∈ l', p.1 ≠ x.1) ∧ post r l') :=
 Does.sub (led := led ++ [x]) (fun p hp => by simp only [List.mem_append, List.mem_cons, List.not_mem_nil, or_false] at hp ⊢; exact hp.symm)
  (Does.weak (D.frame (own := [x]) (fun p hp q hq => by rw [List.mem_singleton.mp hq]; exact hd p hp)) (by
   rintro r l ⟨l', rfl, h1, h2⟩
   refine ⟨_, ⟨l', rfl, fun p hp => h1 p hp _ (.head _), h2⟩, fun p hp => ?_⟩
   simp only [List.mem_append, List.mem_cons, List.not_mem_nil, or_false] at hp ⊢; exact hp.symm))
theorem WrIn.push {w : World} {c : Wc} {st : WS} {b rest : List (Addr × Obj)} {d : Addr} {o : Obj} (S : WrIn w c st b rest) (h : ∀ p ∈ b ++ rest, p.1 ≠ d) : WrIn w c st b ((d, o) :: rest) :=
 S.mono (fun _ h => .tail _ h) (fun p hp q hq => by
  rcases List.mem_cons.mp hp with e | hp
  ·rw [e]; exact (h q (List.mem_append_left _ hq)).symm
  ·exact S.off p hp q hq)
theorem Rd.push {w : World} {c : Wc} {e : Ev} {rest : List (Addr × Obj)} {x : Addr × Obj} (R : Rd w c e rest) : Rd w c e (x :: rest) := R.mono fun _ h => .tail _ h
section
variable {w : World} {rest b : List (Addr × Obj)} {c : Wc} {st : WS} {e : Ev}
theorem shape_S (S : WrIn w c st b rest) (R : Rd w c e rest) {t : Tm} {d : Addr} (ht : TermAt rest t d) (wf : WfT e t) : Does w 434 2 [.ref c.x, .ref d] (b ++ rest) (ShapeOut b rest (shape e t)) := by
 cases ht with
 | v hm => exact shape_k S hm (by decide +kernel)
 | i hm => exact shape_k S hm (by decide +kernel)
 | a hm => exact shape_k S hm (by decide +kernel)
 | s hm hb hargs =>
  cases wf with
  | dot _ _ => exact shape_dc S hm (.inl rfl)
  | curly _ => exact shape_dc S hm (.inr rfl)
  | s hf0 hf9 h0 h1 hg ga hne hlen hts =>
   rename_i bb f t1 t2 args vs a
   have hs : shape e (.s f args) = shapeA e a args := by
    show (if f = 0 ∨ f = 9 then none else shapeA e (nameOf e f) args) = _
    rw [if_neg (fun h => h.elim hf0 hf9), nameOf_eq hg]
   rw [hs]
   cases hargs with
   | nil => exact absurd rfl hne
   | cons hx hr =>
    rename_i x dx args' vs'
    cases hr with
    | nil =>
     show Does _ _ _ _ _ (ShapeOut b rest (shape1 e a x))
     unfold shape1
     cases hp : e.f .pre a with
     | none =>
      cases ho : e.f .post a with
      | none => exact shape_1n S R hm hb hf0 hf9 h0 h1 hg hp ho
      | some y => exact shape_1o S R hm hb hf0 hf9 h0 h1 hg hp ho
     | some y =>
      cases hx with
      | v hx => simpa [isNat] using shape_1p S R hm hb hf0 hf9 h0 h1 hg hp hx (by decide +kernel)
      | a hx => simpa [isNat] using shape_1p S R hm hb hf0 hf9 h0 h1 hg hp hx (by decide +kernel)
      | s hx _ _ => simpa [isNat] using shape_1p S R hm hb hf0 hf9 h0 h1 hg hp hx (by decide +kernel)
      | i hx => simpa [isNat] using shape_1i S R hm hb hf0 hf9 h0 h1 hg hp hx
    | cons hy hr =>
     rename_i y dy args' vs'
     cases hr with
     | nil =>
      show Does _ _ _ _ _ (ShapeOut b rest ((e.f .inf a).map fun y => (.inf, y)))
      cases hi : e.f .inf a with
      | none => exact shape_2n S R hm hb hf0 hf9 h0 h1 hg hi
      | some y => exact shape_2s S R hm hb hf0 hf9 h0 h1 hg hi
     | cons hz hr =>
      rename_i z dz args' vs'
      cases hr with
      | nil => exact shape_3 S R hm hb hf0 hf9 h0 h1 hg
      | cons _ _ => simp at hlen
theorem bounds_R (S : WrIn w c st b rest) (R : Rd w c e rest) (k : Kd) {p : Int} {t tp : Tok} (h1 : 0 ≤ p) (h2 : p ≤ 1200) : Does w 220 1 [.int p tp, .str k.text t] (b ++ rest) (PX w c st e b rest (QBd (bnd p k).1 (bnd p k).2)) := by
 refine Does.weak (Does.sub (fun _ h => h) (Does.frame (led := []) (own := b ++ rest) (by intro p hp; cases hp) (bounds_spec (w := w) (led := []) k (t := t) (tp := tp) h1 h2))) ?_
 rintro r l ⟨l', rfl, hd, d, t1, t2, rfl, rfl⟩
 exact ⟨_, .mk (fun _ h => .tail _ h) (S.push (d := d) (fun p hp => (hd _ (.head _) p hp).symm)) R.push (.mk (.head _)), mem_mid⟩
end
end
section
noncomputable def leftLim (e : Ev) (t : Tm) (p most : Int) : Int := match shape e t with
 | none => most
 | some y => if y.2.1 = p ∧ (bnd y.2.1 y.2.2).2 = p then p - 1 else most
noncomputable def TabOk (e : Ev) : Prop := ∀ x a p k, e.f x a = some (p, k) → 1 ≤ p ∧ p ≤ 1200 ∧ k.side = x
theorem TabOk.shape {e : Ev} (T : TabOk e) {t : Tm} {y : Fx × Int × Kd} (h : shape e t = some y) : 1 ≤ y.2.1 ∧ y.2.1 ≤ 1200 ∧ y.2.2.side = y.1 := by
 cases t with
 | s f args =>
  unfold Mine.shape at h
  dsimp only at h
  split at h
  ·cases h
  ·match args with
   | [] => cases h
   | [x] =>
    simp only [shapeA, shape1] at h
    split at h
    ·rename_i z hz
     split at h
     ·cases h
     ·cases h; exact T _ _ _ _ hz
    ·cases hz : e.f .post (nameOf e f) with
     | none => rw [hz] at h; cases h
     | some z => rw [hz] at h; cases h; exact T _ _ _ _ hz
   | [x, y] =>
    simp only [shapeA] at h
    cases hz : e.f .inf (nameOf e f) with
    | none => rw [hz] at h; cases h
    | some z => rw [hz] at h; cases h; exact T _ _ _ _ hz
   | _ :: _ :: _ :: _ => cases h
 | _ => cases h
section
variable {w : World} {rest b : List (Addr × Obj)} {c : Wc} {st : WS} {e : Ev}
theorem shape_none (S : WrIn w c st b rest) (R : Rd w c e rest) {t : Tm} {d : Addr} (ht : TermAt rest t d) (wf : WfT e t) (h : shape e t = none) : Does w 434 2 [.ref c.x, .ref d] (b ++ rest) (fun r l => r = .none ∧ l = b ++ rest) := by
 have D := shape_S S R ht wf
 rw [h] at D
 exact D
theorem shape_some (S : WrIn w c st b rest) (R : Rd w c e rest) {t : Tm} {d : Addr} (ht : TermAt rest t d) (wf : WfT e t) {fx : Fx} {p : Int} {k : Kd} (h : shape e t = some (fx, p, k)) : Does w 434 2 [.ref c.x, .ref d] (b ++ rest) (PX w c st e b rest (QSh fx.text p k.text)) := by
 have D := shape_S S R ht wf
 rw [h] at D
 refine Does.weak D ?_
 rintro r l ⟨d', t0, t1, t2, rfl, rfl, hd⟩
 exact ⟨_, .mk (fun _ h => .tail _ h) (S.push hd) R.push (.mk (.head _)), fun p hp => hp⟩
theorem left_limit_S (S : WrIn w c st b rest) (R : Rd w c e rest) (T0 : TabOk e) {t : Tm} {d : Addr} (ht : TermAt rest t d) (wf : WfT e t) {p most : Int} {t1 t2 : Tok} (hp1 : 0 ≤ p) (hp2 : p ≤ 1200) : Does w 448 3 [.ref c.x, .ref d, .int p t1, .int most t2] (b ++ rest) (PX w c st e b rest (QIn (leftLim e t p most))) := by
 refine z_in [("self", .ref c.x), ("operand", .ref d), ("priority", .int p t1), ("most", .int most t2)] (R := rest) (fun p hp => List.mem_append_right _ hp) ∅ ∅ ∅ ?_
 intro Z hZ G tk sz hP hR z
 (refine z_wmt 99 S ∅ ∅ ?_; intro z)
 cases hs : shape e t with
 | none =>
  have e1 : leftLim e t p most = most := by simp only [leftLim, hs]
  rw [e1] at hZ
  refine z_callE 99 (fun t => shape_none S R ht wf hs) (by decide) ∅ ∅ ?_; intro tk2 sz2 z
  exact z_endXI 99 S R (fun _ h => h) hP hZ ∅ ∅
 | some y =>
  obtain ⟨fx, p', k⟩ := y
  obtain ⟨y1, y2, _⟩ := T0.shape hs
  have e0 : leftLim e t p most = if p' = p ∧ (bnd p' k).2 = p then p - 1 else most := by simp only [leftLim, hs]
  rw [e0] at hZ
  refine z_callX 99 (fun t => shape_some S R ht wf hs) (by decide) hR (fun _ h => h) ∅ ∅ ?_
  rintro _ rest1 hs1 S1 R1 ⟨m1⟩ tk2 sz2 z
  (refine z_item (i := 1) 99 (zL ∅ (List.mem_append_right b m1)) ∅ ?_; intro z)
  (refine z_split 6 (p' == p) ∅ (fun c1 => ?_) (fun c1 => ?_))
  ·intro z
   (refine z_item (i := 1) 99 (zL ∅ (List.mem_append_right b m1)) ∅ ?_; intro z)
   (refine z_item (i := 2) 99 (zL ∅ (List.mem_append_right b m1)) ∅ ?_; intro z)
   refine z_callX 99 (fun t => bounds_R S1 R1 k (t := t 1) (tp := t 0) (Int.le_trans (by decide) y1) y2) (by decide) hR hs1 ∅ ∅ ?_
   rintro _ rest2 hs2 S2 R2 ⟨m2⟩ tk2 sz2 z
   (refine z_item (i := 1) 99 (zL ∅ (List.mem_append_right b m2)) ∅ ?_; intro z)
   (refine z_split 6 ((bnd p' k).2 == p) ∅ (fun c2 => ?_) (fun c2 => ?_))
   ·intro z
    rw [if_pos ⟨eq_of_beq c1, eq_of_beq c2⟩] at hZ
    exact z_endXI 99 S2 R2 (fun p hp => hs2 p (hs1 p hp)) hP hZ ∅ ∅
   ·intro z
    rw [if_neg fun q => ne_of_beq_false c2 q.2] at hZ
    exact z_endXI 99 S2 R2 (fun p hp => hs2 p (hs1 p hp)) hP hZ ∅ ∅
  ·intro z
   rw [if_neg fun q => ne_of_beq_false c1 q.1] at hZ
   exact z_endXI 99 S1 R1 hs1 hP hZ ∅ ∅
end
end
section
set_option tactic.hygienic false
inductive It
 | term (t : Tm) (lim : Int) (alone : Bool)
 | op (fx : Fx) (n : Int)
 | raw (y : Str)
inductive ItemAt (l : List (Addr × Obj)) : It → Value → Prop
 | term {d d' : Addr} {t : Tm} {lim : Int} {alone : Bool} {t1 t2 : Tok} : (d', tupO [.str "term" t1, .ref d, .int lim t2, .bool alone]) ∈ l → TermAt l t d → ItemAt l (.term t lim alone) (.ref d')
 | op {d' : Addr} {fx : Fx} {n : Int} {t1 t2 t3 : Tok} : (d', tupO [.str fx.text t1, .int n t2, .int 0 t3, .bool false]) ∈ l → ItemAt l (.op fx n) (.ref d')
 | raw {d' : Addr} {y : Str} {t1 t2 t3 : Tok} : (d', tupO [.str "raw" t1, .str y t2, .int 0 t3, .bool false]) ∈ l → ItemAt l (.raw y) (.ref d')
inductive ItemsAt (l : List (Addr × Obj)) : List It → List Value → Prop
 | nil : ItemsAt l [] []
 | cons {i : It} {v : Value} {is : List It} {vs : List Value} : ItemAt l i v → ItemsAt l is vs → ItemsAt l (i :: is) (v :: vs)
theorem ItemAt.mono {l l' : List (Addr × Obj)} {i : It} {v : Value} (h : ItemAt l i v) (k : ∀ p ∈ l, p ∈ l') : ItemAt l' i v := by
 cases h with
 | term a b => exact .term (k _ a) (b.mono k)
 | op a => exact .op (k _ a)
 | raw a => exact .raw (k _ a)
theorem ItemsAt.mono {l l' : List (Addr × Obj)} {is : List It} {vs : List Value} (h : ItemsAt l is vs) (k : ∀ p ∈ l, p ∈ l') : ItemsAt l' is vs := by
 induction h with
 | nil => exact .nil
 | cons a _ ih => exact .cons (a.mono k) ih
theorem ItemsAt.app {l : List (Addr × Obj)} {is is' : List It} {vs vs' : List Value} (h : ItemsAt l is vs) (h' : ItemsAt l is' vs') : ItemsAt l (is ++ is') (vs ++ vs') := by
 induction h with
 | nil => exact h'
 | cons a _ ih => exact .cons a ih
theorem ItemsAt.len {l : List (Addr × Obj)} {is : List It} {vs : List Value} (h : ItemsAt l is vs) : vs.length = is.length := by
 induction h with
 | nil => rfl
 | cons _ _ ih => simp [ih]
noncomputable def closeI (most p : Int) : List It := if most < p then [.raw ")"] else []
noncomputable def WS.openP (st : WS) (most p : Int) : WS := if most < p then st.token "(" else st
theorem later_W {w : World} {rest b : List (Addr × Obj)} {c : Wc} {st : WS} (S : WrIn w c st b rest) (E : List (Addr × Obj)) {l : Addr} (vs : List Value) {n : Nat} (hl : ∀ p ∈ b ++ rest, p.1 ≠ l) (hE : ∀ p ∈ E, p.1 ≠ l ∧ ∀ q ∈ b, p.1 ≠ q.1) (hz : st.work.length ≤ 9000) (hz2 : vs.length ≤ 1000) :
  Does w 385 1 [.ref c.x, .ref l] (E ++ ((l, PySem.W.listOf vs.toArray n) :: (b ++ rest))) (fun r led => r = .none ∧ ∃ b', led = b' ++ (E ++ rest) ∧ WrIn w c { st with work := st.work ++ vs.reverse } b' (E ++ rest)) := by
 have S' := S.mono (rest' := E ++ rest) (fun p hp => List.mem_append_right _ hp) (fun p hp q hq => by
  rcases List.mem_append.mp hp with h | h
  ·exact (hE p h).2 q hq
  ·exact S.off p h q hq)
 refine Does.sub ?_ (later_S S' (l := l) (vs := vs) (n := n) ?_ hz hz2)
 ·intro p hp
  simp only [List.mem_cons, List.mem_append] at hp ⊢
  rcases hp with h | h | h | h
  ·exact .inr (.inl h)
  ·exact .inr (.inr (.inl h))
  ·exact .inl h
  ·exact .inr (.inr (.inr h))
 ·intro p hp
  simp only [List.mem_append] at hp
  rcases hp with h | h | h
  ·exact hl p (List.mem_append_left _ h)
  ·exact (hE p h).1
  ·exact hl p (List.mem_append_right _ h)
end
section
set_option tactic.hygienic false
noncomputable def noTok (v : Value) : Value := match v with
 | .int i _ => .int i 0
 | .str s _ => .str s 0
 | v => v
noncomputable def rowAt (own : List (Addr × Obj)) (j : Nat) : Option (Str × Value × Int × Bool) := tupF own j fun vs => onCons vs none fun a r => onCons r none fun it r => two r none fun lim al => onStr a none fun kd => onInt lim none fun l => onBool al none fun b => some (kd, noTok it, l, b)
theorem rowAt_ok {own : List (Addr × Obj)} {j : Nat} {kd : Str} {it0 : Value} {lim : Int} {al : Bool} (h : rowAt own j = some (kd, it0, lim, al)) : ∃ t1 it t2, own[j]? = some (adr own j, tupO [.str kd t1, it, .int lim t2, .bool al]) ∧ noTok it = it0 := by
 obtain ⟨vs, m, h1⟩ := tupF_ok h
 obtain ⟨a, r, rfl, h2⟩ := onCons_ok h1 none_ne
 obtain ⟨it, r, rfl, h3⟩ := onCons_ok h2 none_ne
 obtain ⟨x, y, rfl, h4⟩ := two_ok h3 none_ne
 obtain ⟨x', t1, rfl, h5⟩ := onStr_ok h4 none_ne
 obtain ⟨k', t2, rfl, h6⟩ := onInt_ok h5 none_ne
 obtain ⟨b', rfl, h7⟩ := onBool_ok h6 none_ne
 cases h7
 exact ⟨t1, it, t2, m, rfl⟩
section
variable {own l : List (Addr × Obj)} {i : Nat}
theorem rowAt_mem {o : Obj} (hs : ∀ p ∈ own.tail, p ∈ l) (h : own[i + 1]? = some (adr own (i + 1), o)) : (adr own (i + 1), o) ∈ l := by
 refine hs _ (List.mem_of_getElem? (i := i) ?_)
 rw [List.getElem?_tail]; exact h
theorem itT {d : Addr} {t : Tm} {lim : Int} {al : Bool} (hs : ∀ p ∈ own.tail, p ∈ l) (h : rowAt own (i + 1) = some (("term" : Str), Value.ref d, lim, al)) (ht : TermAt l t d) : ItemAt l (.term t lim al) (.ref (adr own (i + 1))) := by
 obtain ⟨t1, it, t2, e1, e2⟩ := rowAt_ok h
 have e3 : it = .ref d := by cases it <;> first | exact e2 | cases e2
 subst e3
 exact .term (rowAt_mem hs e1) ht
theorem itO {fx : Fx} {n : Int} (hs : ∀ p ∈ own.tail, p ∈ l) (h : rowAt own (i + 1) = some (fx.text, Value.int n 0, 0, false)) : ItemAt l (.op fx n) (.ref (adr own (i + 1))) := by
 obtain ⟨t1, it, t2, e1, e2⟩ := rowAt_ok h
 cases it with
 | int k t => cases e2; exact .op (rowAt_mem hs e1)
 | _ => cases e2
theorem itR {y : Str} (hs : ∀ p ∈ own.tail, p ∈ l) (h : rowAt own (i + 1) = some (("raw" : Str), Value.str y 0, 0, false)) : ItemAt l (.raw y) (.ref (adr own (i + 1))) := by
 obtain ⟨t1, it, t2, e1, e2⟩ := rowAt_ok h
 cases it with
 | str k t => cases e2; exact .raw (rowAt_mem hs e1)
 | _ => cases e2
end
theorem tail_off {own : List (Addr × Obj)} {x : Addr × Obj} (e : own.head? = some x) (hn : (own.map (·.1)).Nodup) : own = x :: own.tail ∧ ∀ p ∈ own.tail, p.1 ≠ x.1 := by
 cases own with
 | nil => cases e
 | cons y r =>
  cases e
  rw [List.map_cons, List.nodup_cons] at hn
  exact ⟨rfl, fun p hp q => hn.1 (q ▸ List.mem_map_of_mem hp)⟩
theorem later_Z {w : World} {rest b own : List (Addr × Obj)} {c : Wc} {st : WS} (S : WrIn w c st b rest) (js : List Nat) {k : Nat} (ho : own.head? = some (adr own 0, PySem.W.listOf (refs own js).toArray k)) (hn : (own.map (·.1)).Nodup) (hoff : ∀ p ∈ own, ∀ q ∈ b ++ rest, p.1 ≠ q.1) (hz : st.work.length ≤ 9000) (hz2 : js.length ≤ 1000) :
  Does w 385 1 [.ref c.x, .ref (adr own 0)] (own ++ (b ++ rest)) (fun r led => r = .none ∧ ∃ b', led = b' ++ (own.tail ++ rest) ∧ WrIn w c { st with work := st.work ++ (refs own js).reverse } b' (own.tail ++ rest)) := by
 obtain ⟨e1, e2⟩ := tail_off ho hn
 have h0 : (adr own 0, PySem.W.listOf (refs own js).toArray k) ∈ own := List.mem_of_mem_head? ho
 refine Does.sub (fun p hp => ?_) (later_W S own.tail (refs own js) (n := k) (fun p hp => (hoff _ h0 p hp).symm) (fun p hp => ⟨e2 p hp, fun q hq => ?_⟩) hz (by unfold refs; rw [List.length_map]; exact hz2))
 ·have h1 : p ∈ own.tail ++ ((adr own 0, PySem.W.listOf (refs own js).toArray k) :: (b ++ rest)) := hp
  simp only [List.mem_append, List.mem_cons] at h1 ⊢
  rcases h1 with h | h | h
  ·exact .inl (List.mem_of_mem_tail h)
  ·exact .inl (h ▸ h0)
  ·exact .inr h
 ·exact hoff p (List.mem_of_mem_tail hp) q (List.mem_append_left _ hq)
inductive PIt (w : World) (c : Wc) (e : Ev) (rest : List (Addr × Obj)) (st : WS) (wk : List Value) (is : List It) : Value → List (Addr × Obj) → Prop
 | mk {b' rest' : List (Addr × Obj)} {vs : List Value} (hs : ∀ p ∈ rest, p ∈ rest') (S : WrIn w c { st with work := wk ++ vs.reverse } b' rest') (R : Rd w c e rest') (I : ItemsAt rest' is vs) : PIt w c e rest st wk is .none (b' ++ rest')
theorem PIt.ex {w : World} {c : Wc} {e : Ev} {rest l : List (Addr × Obj)} {st : WS} {wk : List Value} {is : List It} {r : Value} (h : PIt w c e rest st wk is r l) : r = .none ∧ ∃ b' rest' vs, l = b' ++ rest' ∧ (∀ p ∈ rest, p ∈ rest') ∧ WrIn w c { st with work := wk ++ vs.reverse } b' rest' ∧ Rd w c e rest' ∧ ItemsAt rest' is vs := by
 cases h with
 | mk hs S R I => exact ⟨rfl, _, _, _, rfl, hs, S, R, I⟩
theorem openP_pos {st : WS} {most p : Int} (h : most < p) : st.openP most p = st.token "(" := if_pos h
theorem openP_neg {st : WS} {most p : Int} (h : ¬ most < p) : st.openP most p = st := if_neg h
theorem close_pos {most p : Int} (h : most < p) : closeI most p = [.raw ")"] := if_pos h
theorem close_neg {most p : Int} (h : ¬ most < p) : closeI most p = [] := if_neg h
theorem prefix_work (e : Ev) (st : WS) (a : Int) : (st.prefixOp e a).work = st.work := by unfold WS.prefixOp; split <;> rfl
theorem z_ownW {w : World} {N : List (Str × NameKind)} {d : Nat} {G : ZG w N d} {z : ZC} {c : Wc} {st : WS} {b rest : List (Addr × Obj)} (_S : WrIn w c st b rest) (n : Nat) (hv : zpc (zgo N w.params n z) = true) (hl : (zgo N w.params n z).σ.led = b ++ rest)
  (h : let own := (zgo N w.params n z).σ.own; (own.map (·.1)).Nodup → (∀ p ∈ own, ∀ q ∈ b ++ rest, p.1 ≠ q.1) → (∀ p ∈ own ++ (b ++ rest), p.1 < (zgo N w.params n z).σ.sz) → let c' := zgo N w.params n z; ZT G c') : ZT G z := z_own n hv hl h
end
section
set_option tactic.hygienic false
theorem own_l {own r : List (Addr × Obj)} : ∀ p ∈ own.tail, p ∈ own.tail ++ r := fun _ h => List.mem_append_left _ h
theorem own_r {own r : List (Addr × Obj)} : ∀ p ∈ r, p ∈ own.tail ++ r := fun _ h => List.mem_append_right _ h
section
variable {w : World} {rest b : List (Addr × Obj)} {c : Wc} {st : WS} {e : Ev}
theorem write_op_pre (S : WrIn w c st b rest) (R : Rd w c e rest) {d bb ds dx : Addr} {x : Tm} {f a p most : Int} {k : Kd} {t1 t2 t3 t4 t5 tm : Tok} (hm : (d, tupO [.str "s" t1, .int f t2, .ref bb]) ∈ rest) (hb : (bb, tupO [.ref dx]) ∈ rest) (hx : TermAt rest x dx) (hsh : (ds, tupO [.str Fx.pre.text t3, .int p t4, .str k.text t5]) ∈ rest)
  (h0 : 0 ≤ f) (h1 : f ≤ 1000) (hg : e.funs[f.toNat]? = some (a, 1)) (ga : GoodA e a) (hp1 : 1 ≤ p) (hp2 : p ≤ 1200) (hz : st.out.length ≤ 70000) (hw : st.work.length ≤ 9000) : Does w 441 8 [.ref c.x, .ref d, .ref ds, .int most tm] (b ++ rest) (PIt w c e rest ((st.openP most p).prefixOp e a) st.work ([.term x (bnd p k).2 false] ++ closeI most p)) := by
 refine z_in [("self", .ref c.x), ("term", .ref d), ("shape", .ref ds), ("most", .int most tm)] (R := rest) (fun p hp => List.mem_append_right _ hp) ∅ ∅ ∅ ?_
 intro Z hZ G tk sz hP hR z
 have hsh' : (ds, tupO [.str "prefix" t3, .int p t4, .str k.text t5]) ∈ rest := hsh
 (refine z_unpack 99 (zR hR hsh') ∅ ?_; intro sz z)
 refine z_callX 99 (fun t => bounds_R S R k (t := t 1) (tp := t 0) (by lia) hp2) (by decide) hR (fun _ h => h) ∅ ∅ ?_
 rintro _ rest1 hs1 S1 R1 ⟨m1⟩ tk2 sz2 z
 (refine z_unpack 99 (zL ∅ (List.mem_append_right b m1)) ∅ ?_; intro sz z)
 (refine z_wat 99 S1 ∅ ∅ ?_; intro z)
 (refine z_rmt 99 S1 R1 ∅ ∅ ?_; intro z)
 (refine z_item (i := 1) 99 (zR hR hm) ∅ ?_; intro z)
 refine z_callT 99 (fun t => name_R (b := b) R1 (tf := t 1) h0 (by lia) hg) (by decide) ∅ ∅ ?_; intro tt tk2 sz2 z
 (refine z_item (i := 2) 99 (zR hR hm) ∅ ?_; intro z)
 (refine z_split 22 (decide (most < p)) ∅ (fun hc => ?_) (fun hc => ?_))
 ·intro z
  (refine z_wmt 99 S1 ∅ ∅ ?_; intro z)
  refine z_callWX 99 (fun t => token_S S1 (y := "(") (ty := t 1) (by decide +kernel) (by decide +kernel) (Nat.le_trans hz (by decide))) (by decide) hR hs1 ∅ ∅ ?_; intro b2 S2 tk2 sz2 z
  (refine z_wmt 99 S2 ∅ ∅ ?_; intro z)
  refine z_callWX 99 (fun t => prefix_operator_S S2 R1 (ta := t 1) (ga) (token_le (Nat.le_trans (Nat.add_le_add_right hz 2) (by decide)))) (by decide) hR hs1 ∅ ∅ ?_; intro b3 S3 tk2 sz2 z
  (refine z_lm 99 0 PySem.F.slot_list_append PySem.F.type_list_append ∅ ?_; intro z)
  (refine z_item (i := 0) 99 (zR hR hb) ∅ ?_; intro z)
  (refine z_append 99 0 ∅ (Nat.le_of_ble_eq_true ∅) ?_; intro z)
  (refine z_br 14 true hc ∅ ?_; intro z)
  (refine z_lm 99 0 PySem.F.slot_list_append PySem.F.type_list_append ∅ ?_; intro z)
  (refine z_append 99 0 ∅ (Nat.le_of_ble_eq_true ∅) ?_; intro z)
  (refine z_wmt 99 S3 ∅ ∅ ?_; intro z)
  have hup : ∀ q ∈ rest, q ∈ rest1 := hs1
  refine z_ownW S3 99 ∅ ∅ ?_; intro own hnd hoff _ z
  refine z_callO 0 (fun t => later_Z S3 [1, 2] (own := own) (k := 2) ∅ hnd hoff (by rw [prefix_work]; exact hw) (by decide)) (by decide) ∅ ∅ ∅ ?_
  rintro _ _ ⟨rfl, b4, rfl, S4⟩ tk4 sz4
  refine ⟨fun q hq => List.mem_append_right _ (List.mem_append_right _ (hup q (hR ▸ hq))), ?_⟩; intro z
  have hmp := of_decide_eq_true hc
  rw [openP_pos hmp, close_pos hmp] at hZ
  exact z_end 99 hP ∅ ∅ (hZ _ _ (.mk (b' := b4) (vs := refs own [1, 2]) (fun q hq => List.mem_append_right _ (hup q hq)) (by rw [prefix_work] at S4; exact S4) (R1.mono own_r) (.cons (itT own_l ∅ (hx.mono (fun q hq => List.mem_append_right _ (hup q hq)))) (.cons (itR own_l ∅) .nil))))
 ·intro z
  (refine z_wmt 99 S1 ∅ ∅ ?_; intro z)
  refine z_callWX 99 (fun t => prefix_operator_S S1 R1 (ta := t 1) (ga) (Nat.le_trans hz (by decide))) (by decide) hR hs1 ∅ ∅ ?_; intro b3 S3 tk2 sz2 z
  (refine z_lm 99 0 PySem.F.slot_list_append PySem.F.type_list_append ∅ ?_; intro z)
  (refine z_item (i := 0) 99 (zR hR hb) ∅ ?_; intro z)
  (refine z_append 99 0 ∅ (Nat.le_of_ble_eq_true ∅) ?_; intro z)
  (refine z_br 14 false hc ∅ ?_; intro z)
  (refine z_wmt 99 S3 ∅ ∅ ?_; intro z)
  have hup : ∀ q ∈ rest, q ∈ rest1 := hs1
  refine z_ownW S3 99 ∅ ∅ ?_; intro own hnd hoff _ z
  refine z_callO 0 (fun t => later_Z S3 [1] (own := own) (k := 1) ∅ hnd hoff (by rw [prefix_work]; exact hw) (by decide)) (by decide) ∅ ∅ ∅ ?_
  rintro _ _ ⟨rfl, b4, rfl, S4⟩ tk4 sz4
  refine ⟨fun q hq => List.mem_append_right _ (List.mem_append_right _ (hup q (hR ▸ hq))), ?_⟩; intro z
  have hmp := of_decide_eq_false hc
  rw [openP_neg hmp, close_neg hmp] at hZ
  exact z_end 99 hP ∅ ∅ (hZ _ _ (.mk (b' := b4) (vs := refs own [1]) (fun q hq => List.mem_append_right _ (hup q hq)) (by rw [prefix_work] at S4; exact S4) (R1.mono own_r) (.cons (itT own_l ∅ (hx.mono (fun q hq => List.mem_append_right _ (hup q hq)))) .nil)))
theorem write_op_inf (S : WrIn w c st b rest) (R : Rd w c e rest) (T0 : TabOk e) {d bb ds dx dy : Addr} {x y : Tm} {f a p most : Int} {k : Kd} {t1 t2 t3 t4 t5 tm : Tok} (hm : (d, tupO [.str "s" t1, .int f t2, .ref bb]) ∈ rest) (hb : (bb, tupO [.ref dx, .ref dy]) ∈ rest) (hx : TermAt rest x dx) (wx : WfT e x) (hy : TermAt rest y dy) (hsh : (ds, tupO [.str Fx.inf.text t3, .int p t4, .str k.text t5]) ∈ rest)
  (h0 : 0 ≤ f) (h1 : f ≤ 1000) (hg : e.funs[f.toNat]? = some (a, 2)) (hp1 : 1 ≤ p) (hp2 : p ≤ 1200) (hz : st.out.length ≤ 70000) (hw : st.work.length ≤ 9000) : Does w 441 8 [.ref c.x, .ref d, .ref ds, .int most tm] (b ++ rest) (PIt w c e rest (st.openP most p) st.work ([.term x (leftLim e x p (bnd p k).1) false, .op .inf a, .term y (bnd p k).2 false] ++ closeI most p)) := by
 refine z_in [("self", .ref c.x), ("term", .ref d), ("shape", .ref ds), ("most", .int most tm)] (R := rest) (fun p hp => List.mem_append_right _ hp) ∅ ∅ ∅ ?_
 intro Z hZ G tk sz hP hR z
 have hsh' : (ds, tupO [.str "infix" t3, .int p t4, .str k.text t5]) ∈ rest := hsh
 (refine z_unpack 99 (zR hR hsh') ∅ ?_; intro sz z)
 refine z_callX 99 (fun t => bounds_R S R k (t := t 1) (tp := t 0) (by lia) hp2) (by decide) hR (fun _ h => h) ∅ ∅ ?_
 rintro _ rest1 hs1 S1 R1 ⟨m1⟩ tk2 sz2 z
 (refine z_unpack 99 (zL ∅ (List.mem_append_right b m1)) ∅ ?_; intro sz z)
 (refine z_wat 99 S1 ∅ ∅ ?_; intro z)
 (refine z_rmt 99 S1 R1 ∅ ∅ ?_; intro z)
 (refine z_item (i := 1) 99 (zR hR hm) ∅ ?_; intro z)
 refine z_callT 99 (fun t => name_R (b := b) R1 (tf := t 1) h0 (by lia) hg) (by decide) ∅ ∅ ?_; intro tt tk2 sz2 z
 (refine z_item (i := 2) 99 (zR hR hm) ∅ ?_; intro z)
 (refine z_split 22 (decide (most < p)) ∅ (fun hc => ?_) (fun hc => ?_))
 ·intro z
  (refine z_wmt 99 S1 ∅ ∅ ?_; intro z)
  refine z_callWX 99 (fun t => token_S S1 (y := "(") (ty := t 1) (by decide +kernel) (by decide +kernel) (Nat.le_trans hz (by decide))) (by decide) hR hs1 ∅ ∅ ?_; intro b2 S2 tk2 sz2 z
  (refine z_lm 99 0 PySem.F.slot_list_append PySem.F.type_list_append ∅ ?_; intro z)
  (refine z_item (i := 0) 99 (zR hR hb) ∅ ?_; intro z)
  (refine z_wmt 99 S2 ∅ ∅ ?_; intro z)
  (refine z_item (i := 0) 99 (zR hR hb) ∅ ?_; intro z)
  refine z_callX 99 (fun t => left_limit_S S2 R1 T0 (hx.mono hs1) wx (p := p) (most := (bnd p k).1) (t1 := t 2) (t2 := t 3) (by lia) hp2) (by decide) hR hs1 ∅ ∅ ?_
  rintro _ rest3 hs3 S3 R3 ⟨⟩ tk2 sz2 z
  (refine z_append 99 0 ∅ (Nat.le_of_ble_eq_true ∅) ?_; intro z)
  (refine z_lm 99 0 PySem.F.slot_list_append PySem.F.type_list_append ∅ ?_; intro z)
  (refine z_append 99 0 ∅ (Nat.le_of_ble_eq_true ∅) ?_; intro z)
  (refine z_lm 99 0 PySem.F.slot_list_append PySem.F.type_list_append ∅ ?_; intro z)
  (refine z_item (i := 1) 99 (zR hR hb) ∅ ?_; intro z)
  (refine z_append 99 0 ∅ (Nat.le_of_ble_eq_true ∅) ?_; intro z)
  (refine z_br 16 true hc ∅ ?_; intro z)
  (refine z_lm 99 0 PySem.F.slot_list_append PySem.F.type_list_append ∅ ?_; intro z)
  (refine z_append 99 0 ∅ (Nat.le_of_ble_eq_true ∅) ?_; intro z)
  (refine z_wmt 99 S3 ∅ ∅ ?_; intro z)
  have hup : ∀ q ∈ rest, q ∈ rest3 := (fun q hq => hs3 q (hs1 q hq))
  refine z_ownW S3 99 ∅ ∅ ?_; intro own hnd hoff _ z
  refine z_callO 0 (fun t => later_Z S3 [1, 2, 3, 4] (own := own) (k := 4) ∅ hnd hoff hw (by decide)) (by decide) ∅ ∅ ∅ ?_
  rintro _ _ ⟨rfl, b4, rfl, S4⟩ tk4 sz4
  refine ⟨fun q hq => List.mem_append_right _ (List.mem_append_right _ (hup q (hR ▸ hq))), ?_⟩; intro z
  have hmp := of_decide_eq_true hc
  rw [openP_pos hmp, close_pos hmp] at hZ
  exact z_end 99 hP ∅ ∅ (hZ _ _ (.mk (b' := b4) (vs := refs own [1, 2, 3, 4]) (fun q hq => List.mem_append_right _ (hup q hq)) S4 (R3.mono own_r) (.cons (itT own_l ∅ (hx.mono (fun q hq => List.mem_append_right _ (hup q hq)))) (.cons (itO own_l ∅) (.cons (itT own_l ∅ (hy.mono (fun q hq => List.mem_append_right _ (hup q hq)))) (.cons (itR own_l ∅) .nil))))))
 ·intro z
  (refine z_lm 99 0 PySem.F.slot_list_append PySem.F.type_list_append ∅ ?_; intro z)
  (refine z_item (i := 0) 99 (zR hR hb) ∅ ?_; intro z)
  (refine z_wmt 99 S1 ∅ ∅ ?_; intro z)
  (refine z_item (i := 0) 99 (zR hR hb) ∅ ?_; intro z)
  refine z_callX 99 (fun t => left_limit_S S1 R1 T0 (hx.mono hs1) wx (p := p) (most := (bnd p k).1) (t1 := t 2) (t2 := t 3) (by lia) hp2) (by decide) hR hs1 ∅ ∅ ?_
  rintro _ rest3 hs3 S3 R3 ⟨⟩ tk2 sz2 z
  (refine z_append 99 0 ∅ (Nat.le_of_ble_eq_true ∅) ?_; intro z)
  (refine z_lm 99 0 PySem.F.slot_list_append PySem.F.type_list_append ∅ ?_; intro z)
  (refine z_append 99 0 ∅ (Nat.le_of_ble_eq_true ∅) ?_; intro z)
  (refine z_lm 99 0 PySem.F.slot_list_append PySem.F.type_list_append ∅ ?_; intro z)
  (refine z_item (i := 1) 99 (zR hR hb) ∅ ?_; intro z)
  (refine z_append 99 0 ∅ (Nat.le_of_ble_eq_true ∅) ?_; intro z)
  (refine z_br 16 false hc ∅ ?_; intro z)
  (refine z_wmt 99 S3 ∅ ∅ ?_; intro z)
  have hup : ∀ q ∈ rest, q ∈ rest3 := (fun q hq => hs3 q (hs1 q hq))
  refine z_ownW S3 99 ∅ ∅ ?_; intro own hnd hoff _ z
  refine z_callO 0 (fun t => later_Z S3 [1, 2, 3] (own := own) (k := 3) ∅ hnd hoff hw (by decide)) (by decide) ∅ ∅ ∅ ?_
  rintro _ _ ⟨rfl, b4, rfl, S4⟩ tk4 sz4
  refine ⟨fun q hq => List.mem_append_right _ (List.mem_append_right _ (hup q (hR ▸ hq))), ?_⟩; intro z
  have hmp := of_decide_eq_false hc
  rw [openP_neg hmp, close_neg hmp] at hZ
  exact z_end 99 hP ∅ ∅ (hZ _ _ (.mk (b' := b4) (vs := refs own [1, 2, 3]) (fun q hq => List.mem_append_right _ (hup q hq)) S4 (R3.mono own_r) (.cons (itT own_l ∅ (hx.mono (fun q hq => List.mem_append_right _ (hup q hq)))) (.cons (itO own_l ∅) (.cons (itT own_l ∅ (hy.mono (fun q hq => List.mem_append_right _ (hup q hq)))) .nil)))))
theorem write_op_post (S : WrIn w c st b rest) (R : Rd w c e rest) (T0 : TabOk e) {d bb ds dx : Addr} {x : Tm} {f a p most : Int} {k : Kd} {t1 t2 t3 t4 t5 tm : Tok} (hm : (d, tupO [.str "s" t1, .int f t2, .ref bb]) ∈ rest) (hb : (bb, tupO [.ref dx]) ∈ rest) (hx : TermAt rest x dx) (wx : WfT e x) (hsh : (ds, tupO [.str Fx.post.text t3, .int p t4, .str k.text t5]) ∈ rest)
  (h0 : 0 ≤ f) (h1 : f ≤ 1000) (hg : e.funs[f.toNat]? = some (a, 1)) (hp1 : 1 ≤ p) (hp2 : p ≤ 1200) (hz : st.out.length ≤ 70000) (hw : st.work.length ≤ 9000) : Does w 441 8 [.ref c.x, .ref d, .ref ds, .int most tm] (b ++ rest) (PIt w c e rest (st.openP most p) st.work ([.term x (leftLim e x p (bnd p k).1) false, .op .post a] ++ closeI most p)) := by
 refine z_in [("self", .ref c.x), ("term", .ref d), ("shape", .ref ds), ("most", .int most tm)] (R := rest) (fun p hp => List.mem_append_right _ hp) ∅ ∅ ∅ ?_
 intro Z hZ G tk sz hP hR z
 have hsh' : (ds, tupO [.str "postfix" t3, .int p t4, .str k.text t5]) ∈ rest := hsh
 (refine z_unpack 99 (zR hR hsh') ∅ ?_; intro sz z)
 refine z_callX 99 (fun t => bounds_R S R k (t := t 1) (tp := t 0) (by lia) hp2) (by decide) hR (fun _ h => h) ∅ ∅ ?_
 rintro _ rest1 hs1 S1 R1 ⟨m1⟩ tk2 sz2 z
 (refine z_unpack 99 (zL ∅ (List.mem_append_right b m1)) ∅ ?_; intro sz z)
 (refine z_wat 99 S1 ∅ ∅ ?_; intro z)
 (refine z_rmt 99 S1 R1 ∅ ∅ ?_; intro z)
 (refine z_item (i := 1) 99 (zR hR hm) ∅ ?_; intro z)
 refine z_callT 99 (fun t => name_R (b := b) R1 (tf := t 1) h0 (by lia) hg) (by decide) ∅ ∅ ?_; intro tt tk2 sz2 z
 (refine z_item (i := 2) 99 (zR hR hm) ∅ ?_; intro z)
 (refine z_split 22 (decide (most < p)) ∅ (fun hc => ?_) (fun hc => ?_))
 ·intro z
  (refine z_wmt 99 S1 ∅ ∅ ?_; intro z)
  refine z_callWX 99 (fun t => token_S S1 (y := "(") (ty := t 1) (by decide +kernel) (by decide +kernel) (Nat.le_trans hz (by decide))) (by decide) hR hs1 ∅ ∅ ?_; intro b2 S2 tk2 sz2 z
  (refine z_lm 99 0 PySem.F.slot_list_append PySem.F.type_list_append ∅ ?_; intro z)
  (refine z_item (i := 0) 99 (zR hR hb) ∅ ?_; intro z)
  (refine z_wmt 99 S2 ∅ ∅ ?_; intro z)
  (refine z_item (i := 0) 99 (zR hR hb) ∅ ?_; intro z)
  refine z_callX 99 (fun t => left_limit_S S2 R1 T0 (hx.mono hs1) wx (p := p) (most := (bnd p k).1) (t1 := t 2) (t2 := t 3) (by lia) hp2) (by decide) hR hs1 ∅ ∅ ?_
  rintro _ rest3 hs3 S3 R3 ⟨⟩ tk2 sz2 z
  (refine z_append 99 0 ∅ (Nat.le_of_ble_eq_true ∅) ?_; intro z)
  (refine z_lm 99 0 PySem.F.slot_list_append PySem.F.type_list_append ∅ ?_; intro z)
  (refine z_append 99 0 ∅ (Nat.le_of_ble_eq_true ∅) ?_; intro z)
  (refine z_br 27 true hc ∅ ?_; intro z)
  (refine z_lm 99 0 PySem.F.slot_list_append PySem.F.type_list_append ∅ ?_; intro z)
  (refine z_append 99 0 ∅ (Nat.le_of_ble_eq_true ∅) ?_; intro z)
  (refine z_wmt 99 S3 ∅ ∅ ?_; intro z)
  have hup : ∀ q ∈ rest, q ∈ rest3 := (fun q hq => hs3 q (hs1 q hq))
  refine z_ownW S3 99 ∅ ∅ ?_; intro own hnd hoff _ z
  refine z_callO 0 (fun t => later_Z S3 [1, 2, 3] (own := own) (k := 3) ∅ hnd hoff hw (by decide)) (by decide) ∅ ∅ ∅ ?_
  rintro _ _ ⟨rfl, b4, rfl, S4⟩ tk4 sz4
  refine ⟨fun q hq => List.mem_append_right _ (List.mem_append_right _ (hup q (hR ▸ hq))), ?_⟩; intro z
  have hmp := of_decide_eq_true hc
  rw [openP_pos hmp, close_pos hmp] at hZ
  exact z_end 99 hP ∅ ∅ (hZ _ _ (.mk (b' := b4) (vs := refs own [1, 2, 3]) (fun q hq => List.mem_append_right _ (hup q hq)) S4 (R3.mono own_r) (.cons (itT own_l ∅ (hx.mono (fun q hq => List.mem_append_right _ (hup q hq)))) (.cons (itO own_l ∅) (.cons (itR own_l ∅) .nil)))))
 ·intro z
  (refine z_lm 99 0 PySem.F.slot_list_append PySem.F.type_list_append ∅ ?_; intro z)
  (refine z_item (i := 0) 99 (zR hR hb) ∅ ?_; intro z)
  (refine z_wmt 99 S1 ∅ ∅ ?_; intro z)
  (refine z_item (i := 0) 99 (zR hR hb) ∅ ?_; intro z)
  refine z_callX 99 (fun t => left_limit_S S1 R1 T0 (hx.mono hs1) wx (p := p) (most := (bnd p k).1) (t1 := t 2) (t2 := t 3) (by lia) hp2) (by decide) hR hs1 ∅ ∅ ?_
  rintro _ rest3 hs3 S3 R3 ⟨⟩ tk2 sz2 z
  (refine z_append 99 0 ∅ (Nat.le_of_ble_eq_true ∅) ?_; intro z)
  (refine z_lm 99 0 PySem.F.slot_list_append PySem.F.type_list_append ∅ ?_; intro z)
  (refine z_append 99 0 ∅ (Nat.le_of_ble_eq_true ∅) ?_; intro z)
  (refine z_br 27 false hc ∅ ?_; intro z)
  (refine z_wmt 99 S3 ∅ ∅ ?_; intro z)
  have hup : ∀ q ∈ rest, q ∈ rest3 := (fun q hq => hs3 q (hs1 q hq))
  refine z_ownW S3 99 ∅ ∅ ?_; intro own hnd hoff _ z
  refine z_callO 0 (fun t => later_Z S3 [1, 2] (own := own) (k := 2) ∅ hnd hoff hw (by decide)) (by decide) ∅ ∅ ∅ ?_
  rintro _ _ ⟨rfl, b4, rfl, S4⟩ tk4 sz4
  refine ⟨fun q hq => List.mem_append_right _ (List.mem_append_right _ (hup q (hR ▸ hq))), ?_⟩; intro z
  have hmp := of_decide_eq_false hc
  rw [openP_neg hmp, close_neg hmp] at hZ
  exact z_end 99 hP ∅ ∅ (hZ _ _ (.mk (b' := b4) (vs := refs own [1, 2]) (fun q hq => List.mem_append_right _ (hup q hq)) S4 (R3.mono own_r) (.cons (itT own_l ∅ (hx.mono (fun q hq => List.mem_append_right _ (hup q hq)))) (.cons (itO own_l ∅) .nil))))
end
end
section
set_option tactic.hygienic false
noncomputable def sepI : List It → List Tm → List It
 | _, [] => []
 | o, t :: ts => o ++ .term t 999 true :: sepI [.raw ","] ts
theorem sepI_snoc (t : Tm) (ts : List Tm) : ∀ o : List It, sepI o (ts ++ [t]) = sepI o ts ++ ((if ts = [] then o else [.raw ","]) ++ [.term t 999 true]) := by
 induction ts with
 | nil => intro o; simp [sepI]
 | cons a r ih =>
  intro o
  rw [List.cons_append, sepI, ih, sepI]
  by_cases e : r = []
  ·subst e; simp [sepI]
  ·simp [e]
noncomputable def isNil : Tm → Bool
 | .a k => k == 0
 | _ => false
noncomputable def listI (t : Tm) : List It := sepI [] (listOfTm t).1 ++ ((if isNil (listOfTm t).2 = true then [] else [.raw "|", .term (listOfTm t).2 999 true]) ++ [.raw "]"])
theorem sepI_len (ts : List Tm) : ∀ o : List It, o.length ≤ 1 → (sepI o ts).length ≤ 2 * ts.length := by
 induction ts with
 | nil => intro o _; simp [sepI]
 | cons a r ih =>
  intro o ho
  have := ih [.raw ","] (by simp)
  simp [sepI]; lia
section
variable {w : World} {rest b : List (Addr × Obj)} {c : Wc} {st : WS} {e : Ev}
theorem list_items_R (S : WrIn w c st b rest) (R : Rd w c e rest) {d : Addr} {t : Tm} (ht : TermAt rest t d) (ok : OkT t) (hz : (listOfTm t).1.length ≤ 1000) : Does w 133 1 [.ref d] (b ++ rest) (fun r l => ∃ rt lst tl vs n t0, r = .ref rt ∧ l = b ++ ((rt, tupO [.ref lst, .ref tl]) :: (lst, PySem.W.listOf vs.toArray n) :: rest) ∧
  (c.dx, dictOf (wrEs w.params c (lastStr st.last) t0 st.pre) 11) ∈ b ++ ((rt, tupO [.ref lst, .ref tl]) :: (lst, PySem.W.listOf vs.toArray n) :: rest) ∧ WrIn w c st b ((rt, tupO [.ref lst, .ref tl]) :: (lst, PySem.W.listOf vs.toArray n) :: rest) ∧ Rd w c e ((rt, tupO [.ref lst, .ref tl]) :: (lst, PySem.W.listOf vs.toArray n) :: rest) ∧
  TermsAt rest (listOfTm t).1 vs ∧ TermAt rest (listOfTm t).2 tl) := by
 refine Does.sub (led := rest ++ b) (fun p hp => List.mem_append.mpr (List.mem_append.mp hp).symm) (Does.weak ((list_items_spec (w := w) ht ok hz).frame (own := b) S.off) ?_)
 rintro r l ⟨l', rfl, hd, rt, lst, tl, vs, n, rfl, rfl, h1, h2⟩
 have S' := S.mono (rest' := (rt, tupO [.ref lst, .ref tl]) :: (lst, PySem.W.listOf vs.toArray n) :: rest) (fun p hp => .tail _ (.tail _ hp)) hd
 obtain ⟨t0, m⟩ := S'.mem
 exact ⟨_, ⟨rt, lst, tl, vs, n, t0, rfl, rfl, m, S', R.push.push, h1, h2⟩, fun p hp => List.mem_append.mpr (List.mem_append.mp hp).symm⟩
end
end
section
mutual
noncomputable def tmP : Tm → PyData
 | .v k => .tuple [.str "v", .int k]
 | .i k => .tuple [.str "i", .int k]
 | .a k => .tuple [.str "a", .int k]
 | .s f args => .tuple [.str "s", .int f, .tuple (tmPs args)]
noncomputable def tmPs : List Tm → List PyData
 | [] => []
 | t :: ts => tmP t :: tmPs ts
end
mutual
noncomputable def hgt : Tm → Nat
 | .s _ args => hgts args + 1
 | _ => 0
noncomputable def hgts : List Tm → Nat
 | [] => 0
 | t :: ts => max (hgt t) (hgts ts)
end
mutual
theorem tmP_depth : ∀ t : Tm, (tmP t).depth ≤ 2 * hgt t + 1
 | .v _ => by simp [tmP, hgt, PyData.depth, PyData.depthAll]
 | .i _ => by simp [tmP, hgt, PyData.depth, PyData.depthAll]
 | .a _ => by simp [tmP, hgt, PyData.depth, PyData.depthAll]
 | .s f args => by
  have := tmPs_depth args
  simp only [tmP, hgt, PyData.depth, PyData.depthAll]
  lia
theorem tmPs_depth : ∀ ts : List Tm, PyData.depthAll (tmPs ts) ≤ 2 * hgts ts + 1
 | [] => by simp [tmPs, hgts, PyData.depthAll]
 | t :: ts => by
  have h1 := tmP_depth t
  have h2 := tmPs_depth ts
  simp only [tmPs, hgts, PyData.depthAll]
  lia
end
mutual
theorem tmP_lay : ∀ t : Tm, (tmP t).canLay0 = true
 | .v _ => by simp only [tmP, PyData.canLay0, PyData.canLayAll0]; decide +kernel
 | .i _ => by simp only [tmP, PyData.canLay0, PyData.canLayAll0]; decide +kernel
 | .a _ => by simp only [tmP, PyData.canLay0, PyData.canLayAll0]; decide +kernel
 | .s f args => by
  have h := tmPs_lay args
  simp only [tmP, PyData.canLay0, PyData.canLayAll0, h]; decide +kernel
theorem tmPs_lay : ∀ ts : List Tm, PyData.canLayAll0 (tmPs ts) = true
 | [] => rfl
 | t :: ts => by
  have h1 := tmP_lay t
  have h2 := tmPs_lay ts
  simp only [tmPs, PyData.canLayAll0, h1, h2]; rfl
end
theorem tmP_shaped {t : Tm} (h : hgt t ≤ 30) : SeqAt.shaped (tmP t) = true := by
 have := tmP_depth t
 simp only [SeqAt.shaped, tmP_lay, Bool.true_and, decide_eq_true_eq]; lia
mutual
theorem reads_tm {h₀ h : Heap} {L : Addr} {led : List (Addr × Obj)} (N : News h₀ L h led) : ∀ {t : Tm} {d : Addr}, TermAt led t d → ∃ as, Reads h (.ref d) (tmP t) as
 | _, _, .v m => ⟨_, reads_tuple_at (News.get N m) rfl rfl (.cons (.str _ _) (.cons (.int _ _) .nil))⟩
 | _, _, .i m => ⟨_, reads_tuple_at (News.get N m) rfl rfl (.cons (.str _ _) (.cons (.int _ _) .nil))⟩
 | _, _, .a m => ⟨_, reads_tuple_at (News.get N m) rfl rfl (.cons (.str _ _) (.cons (.int _ _) .nil))⟩
 | _, _, .s m hb ha =>
  let ⟨_, r⟩ := reads_tms N ha
  ⟨_, reads_tuple_at (News.get N m) rfl rfl (.cons (.str _ _) (.cons (.int _ _) (.cons (reads_tuple_at (News.get N hb) rfl rfl r) .nil)))⟩
theorem reads_tms {h₀ h : Heap} {L : Addr} {led : List (Addr × Obj)} (N : News h₀ L h led) : ∀ {ts : List Tm} {vs : List Value}, TermsAt led ts vs → ∃ as, ReadsAll h vs (tmPs ts) as
 | _, _, .nil => ⟨_, .nil⟩
 | _, _, .cons h1 h2 =>
  let ⟨_, r1⟩ := reads_tm N h1
  let ⟨_, r2⟩ := reads_tms N h2
  ⟨_, .cons r1 r2⟩
end
theorem eqv_nil (t : Tm) : PyData.eqv (tmP t) (.tuple [.str "a", .int 0]) = isNil t := by
 cases t with
 | v k => simp only [tmP, isNil]; simp only [PyData.eqv, PyData.eqvAll]; rfl
 | i k => simp only [tmP, isNil]; simp only [PyData.eqv, PyData.eqvAll]; rfl
 | a k => simp only [tmP, isNil]; simp only [PyData.eqv, PyData.eqvAll, beq_self_eq_true, Bool.true_and, Bool.and_true]
 | s f args => simp only [tmP, isNil]; simp only [PyData.eqv, PyData.eqvAll]; rfl
theorem WrIn.app {w : World} {c : Wc} {st : WS} {b rest : List (Addr × Obj)} (S : WrIn w c st b rest) (E : List (Addr × Obj)) (hE : ∀ p ∈ E, ∀ q ∈ b, p.1 ≠ q.1) : WrIn w c st b (E ++ rest) :=
 S.mono (fun p hp => List.mem_append_right _ hp) (fun p hp q hq => by
  rcases List.mem_append.mp hp with h | h
  ·exact hE p h q hq
  ·exact S.off p h q hq)
theorem ItemsAt.push {l : List (Addr × Obj)} {is : List It} {ra : Array Value} {i : It} {x : Value} (h : ItemsAt l is ra.toList) (h1 : ItemAt l i x) : ItemsAt l (is ++ [i]) (ra.push x).toList := by
 rw [Array.toList_push]; exact h.app (.cons h1 .nil)
theorem sz_push {ra : Array Value} {x : Value} {n : Nat} (h : ra.size + 1 ≤ n) : (ra.push x).size ≤ n := by rw [Array.size_push]; exact h
theorem later_A {w : World} {rest b own : List (Addr × Obj)} {c : Wc} {st : WS} (S : WrIn w c st b rest) {ra : Array Value} {k : Nat} (ho : own.head? = some (adr own 0, PySem.W.listOf ra k)) (hn : (own.map (·.1)).Nodup) (hoff : ∀ p ∈ own, ∀ q ∈ b ++ rest, p.1 ≠ q.1) (hz : st.work.length ≤ 9000) (hz2 : ra.size ≤ 1000) :
  Does w 385 1 [.ref c.x, .ref (adr own 0)] (own ++ (b ++ rest)) (fun r led => r = .none ∧ ∃ b', led = b' ++ (own.tail ++ rest) ∧ WrIn w c { st with work := st.work ++ ra.toList.reverse } b' (own.tail ++ rest)) := by
 obtain ⟨e1, e2⟩ := tail_off ho hn
 have h0 : (adr own 0, PySem.W.listOf ra k) ∈ own := List.mem_of_mem_head? ho
 refine Does.sub (fun p hp => ?_) (later_W S own.tail ra.toList (n := k) (fun p hp => (hoff _ h0 p hp).symm) (fun p hp => ⟨e2 p hp, fun q hq => ?_⟩) hz hz2)
 ·have h1 : p ∈ own.tail ++ ((adr own 0, PySem.W.listOf ra k) :: (b ++ rest)) := hp
  simp only [List.mem_append, List.mem_cons] at h1 ⊢
  rcases h1 with h | h | h
  ·exact .inl (List.mem_of_mem_tail h)
  ·exact .inl (h ▸ h0)
  ·exact .inr h
 ·exact hoff p (List.mem_of_mem_tail hp) q (List.mem_append_left _ hq)
inductive RowJ (w : World) (c : Wc) (e : Ev) (st : WS) (b rest1 : List (Addr × Obj)) (rows : Addr) (is : List It) : List (Addr × Obj) → List (Addr × Obj) → Prop
 | mk {ra : Array Value} {nr : Nat} {rest2 : List (Addr × Obj)} (hs : ∀ p ∈ rest1, p ∈ rest2) (S : WrIn w c st b rest2) (R : Rd w c e rest2) (I : ItemsAt rest2 is ra.toList) : RowJ w c e st b rest1 rows is [(rows, PySem.W.listOf ra nr)] (b ++ rest2)
theorem sep_zero (ts : List Tm) (o : List It) {i : Nat} (h : i < ts.length) (h0 : i = 0) : sepI o (ts.take i) = [] ∧ sepI o (ts.take (i + 1)) = o ++ [.term ts[i] 999 true] := by
 subst h0
 rw [take_snoc (List.getElem?_eq_getElem h), sepI_snoc]; simp [sepI]
theorem sep_more (ts : List Tm) (o : List It) {i : Nat} (h : i < ts.length) (h0 : i ≠ 0) : sepI o (ts.take i) ≠ [] ∧ sepI o (ts.take (i + 1)) = sepI o (ts.take i) ++ [.raw ","] ++ [.term ts[i] 999 true] := by
 have hne : ts.take i ≠ [] := by
  intro q
  rw [List.take_eq_nil_iff] at q
  rcases q with q | q
  ·exact h0 q
  ·rw [q] at h; simp at h
 refine ⟨?_, by rw [take_snoc (List.getElem?_eq_getElem h), sepI_snoc, if_neg hne]; simp⟩
 cases q : ts.take i with
 | nil => exact absurd q hne
 | cons a r => simp [sepI]
section
variable {w : World} {N : List (Str × NameKind)} {d : Nat} {G : ZG w N d} {z : ZC} {rest b : List (Addr × Obj)} {c : Wc} {st : WS} {e : Ev}
theorem z_rows (n : Nat) (_ : WrIn w c st b rest) (hR : ∀ p ∈ G.R, p ∈ rest) (hv : zall (zgo N w.params n z) = true) (hl : (zgo N w.params n z).σ.led = b ++ rest)
  (h : let own := (zgo N w.params n z).σ.own; (∀ p ∈ own.tail, ∀ q ∈ b, p.1 ≠ q.1) → let c' := zside (own.take 1) (b ++ (own.tail ++ rest)) (zgo N w.params n z); ZT G c') : ZT G z := by
 refine ZT.go n ?_
 generalize zgo N w.params n z = c1 at *
 obtain ⟨σ, k, md⟩ := c1
 have hl : σ.led = b ++ rest := hl
 refine z_all hv fun s a => ?_
 have tk : ∀ p ∈ σ.own.take 1, p ∈ σ.own := fun p hp => List.mem_of_mem_take hp
 have tl : ∀ p ∈ σ.own.tail, p ∈ σ.own := fun p hp => List.mem_of_mem_tail hp
 have hs : ∀ p ∈ σ.own.take 1 ++ (b ++ (σ.own.tail ++ rest)), p ∈ σ.own ++ σ.led := fun p hp => by
  rw [hl]
  simp only [List.mem_append] at hp ⊢
  rcases hp with q | q | q | q
  ·exact .inl (tk p q)
  ·exact .inr (.inl q)
  ·exact .inl (tl p q)
  ·exact .inr (.inr q)
 refine ⟨⟨σ.m, σ.own.take 1, b ++ (σ.own.tail ++ rest), σ.tk, σ.sz⟩, ⟨a.st, a.sz, a.fr, fun p hp => a.nw p (hs p hp), ?_, fun p hp q hq => ?_, fun p hp => List.mem_append_right _ (List.mem_append_right _ (hR p hp)), a.hid, fun p hp => a.hof p (hs p hp)⟩, (h fun p hp q hq => a.off p (tl p hp) q (by rw [hl]; exact List.mem_append_left _ hq)).s⟩
 ·rw [List.map_take]; exact a.nd.sublist (List.take_sublist _ _)
 ·have hd := a.nd
  have ho := a.off p (tk p hp)
  rw [hl] at ho
  simp only [List.mem_append] at hq
  rcases hq with q' | q' | q'
  ·exact ho q (List.mem_append_left _ q')
  ·cases eo : σ.own with
   | nil => rw [eo] at q'; cases q'
   | cons x r =>
    rw [eo] at hp q' hd
    rw [List.map_cons, List.nodup_cons] at hd
    rw [List.mem_singleton.mp hp]
    exact fun e => hd.1 (List.mem_map.mpr ⟨q, q', e.symm⟩)
  ·exact ho q (List.mem_append_right _ q')
noncomputable def neOf (c : ZC) : Option (Addr × Addr) := onCo c.md none fun op a b => onRef a none fun a => onRef b none fun b => cond (decide (op = .NotEq)) (some (a, b)) none
theorem z_nil (n j : Nat) {t : Tm} {dt : Addr} (x : Bool) (hx : isNil t = x) (hd : 5 ≤ d) (ht : TermAt rest t dt) (hg : hgt t ≤ 30) (hl : (zgo N w.params n z).σ.led = b ++ rest) (hp : pairAt (zgo N w.params n z).σ.own j = some (("a" : Str), 0)) (hv : neOf (zgo N w.params n z) = some (dt, adr (zgo N w.params n z).σ.own j)) (h : let c' := zput (zgo N w.params n z) (.bool (!x)); ZT G c') : ZT G z := by
 refine ZT.go n ?_
 generalize zgo N w.params n z = c1 at *
 obtain ⟨t1, t2, hm⟩ := pairAt_ok hp
 obtain ⟨σ, k, md⟩ := c1
 obtain ⟨op, x1, x2, rfl, q1⟩ := onCo_ok hv none_ne
 obtain ⟨y1, rfl, q2⟩ := onRef_ok q1 none_ne
 obtain ⟨y2, rfl, q3⟩ := onRef_ok q2 none_ne
 obtain ⟨q4, q5⟩ := cond_ok q3 none_ne
 obtain rfl := of_decide_eq_true q4
 obtain ⟨e1, e2⟩ := Prod.mk.inj (Option.some.inj q5)
 have e2 : y2 = adr σ.own j := e2
 subst e1
 subst e2
 have hl : σ.led = b ++ rest := hl
 subst hx
 intro s a
 obtain ⟨as, ra⟩ := reads_tm (led := σ.own ++ σ.led) a.nw (ht.mono fun p hp => List.mem_append_right _ (hl ▸ List.mem_append_right _ hp))
 refine ne_dataH ra (reads_tuple_at (News.get a.nw (List.mem_append_left _ hm)) rfl rfl (.cons (.str _ _) (.cons (.int _ _) .nil))) (tmP_shaped hg) (by decide +kernel) (by have := (G.hr.le hd).2.1; rw [cLine_is]; lia) ?_
 rw [eqv_nil]
 exact ⟨σ, a, h.s⟩
end
inductive PLi (w : World) (c : Wc) (e : Ev) (st : WS) (b rest : List (Addr × Obj)) (t : Tm) : Value → List (Addr × Obj) → Prop
 | mk {rt lst tl : Addr} {vs : List Value} {n : Nat} (S : WrIn w c st b ((rt, tupO [.ref lst, .ref tl]) :: (lst, PySem.W.listOf vs.toArray n) :: rest)) (R : Rd w c e ((rt, tupO [.ref lst, .ref tl]) :: (lst, PySem.W.listOf vs.toArray n) :: rest)) (h1 : TermsAt rest (listOfTm t).1 vs) (h2 : TermAt rest (listOfTm t).2 tl) : PLi w c e st b rest t (.ref rt) (b ++ ((rt, tupO [.ref lst, .ref tl]) :: (lst, PySem.W.listOf vs.toArray n) :: rest))
section
variable {w : World} {rest b : List (Addr × Obj)} {c : Wc} {st : WS} {e : Ev}
theorem write_list_S (S : WrIn w c st b rest) (R : Rd w c e rest) {t : Tm} {d : Addr} (ht : TermAt rest t d) (ok : OkT t) (hg : hgt (listOfTm t).2 ≤ 30) (hn : (listOfTm t).1.length ≤ 300) (hz : st.out.length ≤ 70000) (hw : st.work.length ≤ 9000) :
  Does w 420 6 [.ref c.x, .ref d] (b ++ rest) (PIt w c e rest (st.token "[") st.work (listI t)) := by
 refine z_in [("self", .ref c.x), ("term", .ref d)] (R := rest) (fun p hp => List.mem_append_right _ hp) ∅ ∅ ∅ ?_
 intro Z hZ G tk sz hP hR z
 refine z_call 99 (fun _ => Does.weak (list_items_R S R ht ok (by lia)) (post' := PLi w c e st b rest t) (by rintro r l ⟨rt, lst, tl, vs, n, t0, rfl, rfl, _, S', R', h1, h2⟩; exact ⟨_, .mk S' R' h1 h2, fun _ h => h⟩)) (by decide) ∅ ∅ ?_
 rintro _ _ ⟨S0, R0, hts, htl⟩ tk0 sz0
 rename_i rt lst tl ws nl
 refine ⟨fun q hq => List.mem_append_right _ (.tail _ (.tail _ (hR ▸ hq))), ?_⟩; intro z
 have hsub : ∀ p ∈ rest, p ∈ (rt, tupO [.ref lst, .ref tl]) :: (lst, PySem.W.listOf ws.toArray nl) :: rest := fun p hp => .tail _ (.tail _ hp)
 refine z_unpack 99 (t := rt) (vs := [.ref lst, .ref tl]) (zL ∅ (List.mem_append_right b (.head ((lst, PySem.W.listOf ws.toArray nl) :: rest)))) ∅ ?_; intro sz1 z
 refine z_wmt 99 S0 ∅ ∅ ?_; intro z
 refine z_callWX 99 (fun t => token_S S0 (y := "[") (ty := t 1) (by decide +kernel) (by decide +kernel) (Nat.le_trans hz (by decide))) (by decide) hR hsub ∅ ∅ ?_; intro b1 S1 tk2 sz2 z
 have hwl := hts.len
 refine z_for 99 (iters_list (tp := lst) (vs := ws) (n := nl) (R' := (rt, tupO [.ref lst, .ref tl]) :: (lst, PySem.W.listOf ws.toArray nl) :: rest) (.tail _ (.head _))) (fun i ns own led => ns = ([("self", .ref c.x), ("rows", .ref sz2), ("tail", .ref tl)] : List (Str × Value)) ∧ RowJ w c e (st.token "[") b1 ((rt, tupO [.ref lst, .ref tl]) :: (lst, PySem.W.listOf ws.toArray nl) :: rest) sz2 (sepI [] ((listOfTm t).1.take i)) own led) (ns := [("self", .ref c.x), ("rows", .ref sz2), ("tail", .ref tl)]) (own := [(sz2, PySem.W.listOf #[] 0)]) (led := b1 ++ ((rt, tupO [.ref lst, .ref tl]) :: (lst, PySem.W.listOf ws.toArray nl) :: rest))
  ∅ ∅ ∅ ∅ (fun p hp => hsub p (hR ▸ hp)) (fun p hp => List.mem_append_right _ hp) ⟨rfl, .mk (fun _ h => h) S1 R0 .nil⟩ ?_ ?_
 ·rintro i v _ m _ _ tk sz hi hv ⟨rfl, ⟨hs, S, R, I⟩⟩ G' hR' hP' z
  rename_i ra nr rest2
  have hi' : i < (listOfTm t).1.length := by lia
  obtain ⟨di, hdi, hti⟩ := hts.get (List.getElem?_eq_getElem hi')
  rw [hdi] at hv
  cases hv
  have hRt : ∀ p ∈ G'.R, p ∈ rest2 := fun p hp => hs p (hR' ▸ hp)
  have hrl : ra.size ≤ 700 := by
   have h1 := I.len
   rw [Array.length_toList] at h1
   rw [h1]
   have := sepI_len ((listOfTm t).1.take i) [] (by simp)
   simp at this; lia
  by_cases i0 : i = 0
  ·obtain ⟨q1, q2⟩ := sep_zero (listOfTm t).1 [] hi' i0
   have hra : ra.toList = [] := List.length_eq_zero_iff.mp (by rw [I.len, q1]; rfl)
   refine z_truL 99 (l := sz2) (k := nr) (vs := ra.toList) false (zO 0 ∅) (by rw [hra]; decide) (by rw [hra]; rfl) ∅ ?_; intro z
   refine z_lm 99 0 PySem.F.slot_list_append PySem.F.type_list_append ∅ ?_; intro z
   refine z_rows 99 S hRt ∅ ∅ ?_; intro own hE z
   refine z_append 0 0 ∅ (z_sz (Nat.le_trans hrl (by decide)) ∅) ?_; intro z
   exact z_turn 99 hP' [("self", .ref c.x), ("rows", .ref sz2), ("tail", .ref tl)] (own := [(sz2, PySem.W.listOf (ra.push (.ref (adr own 1))) (nr + 1))]) (led := b1 ++ (own.tail ++ rest2)) ∅ ∅ ∅ ∅ ⟨rfl, .mk (fun p hp => own_r p (hs p hp)) (S.app own.tail hE) (R.mono own_r) (by rw [q2]; exact (q1 ▸ I.mono own_r).push (itT own_l ∅ (hti.mono fun p hp => own_r p (hs p (hsub p hp)))))⟩
  ·obtain ⟨q1, q2⟩ := sep_more (listOfTm t).1 [] hi' i0
   have hra : (!ra.toList.isEmpty) = true := by
    cases e : ra.toList with
    | nil => rw [e] at I; exact absurd (List.length_eq_zero_iff.mp I.len.symm) q1
    | cons _ _ => rfl
   refine z_truL 99 (l := sz2) (k := nr) (vs := ra.toList) true (zO 0 ∅) (by rw [Array.length_toList]; lia) hra ∅ ?_; intro z
   refine z_lm 99 0 PySem.F.slot_list_append PySem.F.type_list_append ∅ ?_; intro z
   refine z_append 99 0 ∅ (z_sz (Nat.le_trans hrl (by decide)) ∅) ?_; intro z
   refine z_lm 99 0 PySem.F.slot_list_append PySem.F.type_list_append ∅ ?_; intro z
   refine z_rows 99 S hRt ∅ ∅ ?_; intro own hE z
   refine z_append 0 0 ∅ (z_sz (b := (ra.push (.ref (adr own 1))).size) (sz_push (Nat.le_trans (Nat.succ_le_succ hrl) (by decide))) ∅) ?_; intro z
   exact z_turn 99 hP' [("self", .ref c.x), ("rows", .ref sz2), ("tail", .ref tl)] (own := [(sz2, PySem.W.listOf ((ra.push (.ref (adr own 1))).push (.ref (adr own 2))) (nr + 2))]) (led := b1 ++ (own.tail ++ rest2)) ∅ ∅ ∅ ∅ ⟨rfl, .mk (fun p hp => own_r p (hs p hp)) (S.app own.tail hE) (R.mono own_r) (by rw [q2]; exact ((I.mono own_r).push (itR own_l ∅)).push (itT own_l ∅ (hti.mono fun p hp => own_r p (hs p (hsub p hp)))))⟩
 ·rintro _ m _ _ tk sz ⟨rfl, ⟨hs, S, R, I⟩⟩ z
  rename_i ra nr rest2
  rw [hwl, List.take_length] at I
  have hrl : ra.size ≤ 700 := by
   have h1 := I.len
   rw [Array.length_toList] at h1
   rw [h1]
   have := sepI_len (listOfTm t).1 [] (by simp)
   lia
  have hR9 : ∀ p ∈ G.R, p ∈ rest2 := fun p hp => hs p (hsub p (hR ▸ hp))
  have hup : ∀ p ∈ rest, p ∈ rest2 := fun p hp => hs p (hsub p hp)
  cases hnil : isNil (listOfTm t).2 with
  | false =>
   have hL : listI t = sepI [] (listOfTm t).1 ++ [.raw "|"] ++ [.term (listOfTm t).2 999 true] ++ [.raw "]"] := by simp [listI, hnil]
   refine z_nil 99 1 (b := b1) false hnil (by decide) (htl.mono hup) hg ∅ ∅ ∅ ?_; intro z
   refine z_lm 99 0 PySem.F.slot_list_append PySem.F.type_list_append ∅ ?_; intro z
   refine z_append 99 0 ∅ (z_sz (Nat.le_trans hrl (by decide)) ∅) ?_; intro z
   refine z_lm 99 0 PySem.F.slot_list_append PySem.F.type_list_append ∅ ?_; intro z
   refine z_append 99 0 ∅ (z_sz (b := (ra.push (.ref (sz + 1))).size) (sz_push (Nat.le_trans (Nat.succ_le_succ hrl) (by decide))) ∅) ?_; intro z
   refine z_lm 99 0 PySem.F.slot_list_append PySem.F.type_list_append ∅ ?_; intro z
   refine z_append 99 0 ∅ (z_sz (b := ((ra.push (.ref (sz + 1))).push (.ref (sz + 2))).size) (sz_push (by rw [Array.size_push]; exact Nat.le_trans (Nat.add_le_add_right hrl 2) (by decide))) ∅) ?_; intro z
   refine z_wmt 99 S ∅ ∅ ?_; intro z
   refine z_ownW S 99 ∅ ∅ ?_; intro own hnd hoff hlt z
   refine z_callO 0 (fun t => later_A S (own := own) (ra := ((ra.push (.ref (adr own 2))).push (.ref (adr own 3))).push (.ref (adr own 4))) (k := nr + 3) ∅ hnd hoff hw (by simp only [Array.size_push]; lia)) (by decide) ∅ ∅ ∅ ?_
   rintro _ _ ⟨rfl, b4, rfl, S4⟩ tk4 sz4
   refine ⟨fun q hq => List.mem_append_right _ (own_r q (hR9 q hq)), ?_⟩; intro z
   exact z_end 99 hP ∅ ∅ (hZ _ _ (.mk (b' := b4) (vs := (((ra.push (.ref (adr own 2))).push (.ref (adr own 3))).push (.ref (adr own 4))).toList) (fun q hq => own_r q (hup q hq)) S4 (R.mono own_r) (by rw [hL]; exact (((I.mono own_r).push (itR own_l ∅)).push (itT own_l ∅ (htl.mono fun q hq => own_r q (hup q hq)))).push (itR own_l ∅))))
  | true =>
   have hL : listI t = sepI [] (listOfTm t).1 ++ [.raw "]"] := by simp [listI, hnil]
   refine z_nil 99 1 (b := b1) true hnil (by decide) (htl.mono hup) hg ∅ ∅ ∅ ?_; intro z
   refine z_lm 99 0 PySem.F.slot_list_append PySem.F.type_list_append ∅ ?_; intro z
   refine z_append 99 0 ∅ (z_sz (Nat.le_trans hrl (by decide)) ∅) ?_; intro z
   refine z_wmt 99 S ∅ ∅ ?_; intro z
   refine z_ownW S 99 ∅ ∅ ?_; intro own hnd hoff hlt z
   refine z_callO 0 (fun t => later_A S (own := own) (ra := ra.push (.ref (adr own 2))) (k := nr + 1) ∅ hnd hoff hw (by simp only [Array.size_push]; lia)) (by decide) ∅ ∅ ∅ ?_
   rintro _ _ ⟨rfl, b4, rfl, S4⟩ tk4 sz4
   refine ⟨fun q hq => List.mem_append_right _ (own_r q (hR9 q hq)), ?_⟩; intro z
   exact z_end 99 hP ∅ ∅ (hZ _ _ (.mk (b' := b4) (vs := (ra.push (.ref (adr own 2))).toList) (fun q hq => own_r q (hup q hq)) S4 (R.mono own_r) (by rw [hL]; exact (I.mono own_r).push (itR own_l ∅))))
end
end
section
noncomputable def funcI (args : List Tm) : List It := sepI [.raw "("] args ++ [.raw ")"]
section
variable {w : World} {rest b : List (Addr × Obj)} {c : Wc} {st : WS} {e : Ev}
theorem write_functional_S (S : WrIn w c st b rest) (R : Rd w c e rest) {d bb : Addr} {f a : Int} {args : List Tm} {ws : List Value} {t1 t2 : Tok} (hm : (d, tupO [.str "s" t1, .int f t2, .ref bb]) ∈ rest) (hbb : (bb, tupO ws) ∈ rest) (hts : TermsAt rest args ws) (h0 : 0 ≤ f) (h1 : f ≤ 1000)
  (hg : e.funs[f.toNat]? = some (a, Int.ofNat args.length)) (ga : GoodA e a) (hn : args.length ≤ 300) (hz : st.out.length ≤ 70000) (hw : st.work.length ≤ 9000) :
  Does w 427 6 [.ref c.x, .ref d] (b ++ rest) (PIt w c e rest (st.token (atomOf e a)) st.work (funcI args)) := by
 refine z_in [("self", .ref c.x), ("term", .ref d)] (R := rest) (fun p hp => List.mem_append_right _ hp) ∅ ∅ ∅ ?_
 intro Z hZ G tk sz hP hR z
 have hwl := hts.len
 refine z_wmt 99 S ∅ ∅ ?_; intro z
 refine z_wat 99 S ∅ ∅ ?_; intro z
 refine z_wat 99 S ∅ ∅ ?_; intro z
 refine z_rmt 99 S R ∅ ∅ ?_; intro z
 refine z_item (i := 1) 99 (zR hR hm) ∅ ?_; intro z
 refine z_callT 99 (fun t => name_R (b := b) R (tf := t 1) h0 (by lia) hg) (by decide) ∅ ∅ ?_; intro tn tk1 sz1 z
 refine z_wat 99 S ∅ ∅ ?_; intro z
 refine z_callT 99 (fun t => atomText_R (b := b) R (ta := t 1) ga) (by decide) ∅ ∅ ?_; intro tt tk3 sz3 z
 refine z_callW 99 (fun t => token_S S (y := atomOf e a) (ty := t 1) ga.fit.1 ga.fit.2 (Nat.le_trans hz (by decide))) (by decide) hR ∅ ∅ ?_; intro b1 S1 tk2 sz2 z
 refine z_item (i := 2) 99 (zR hR hm) ∅ ?_; intro z
 refine z_for 99 (iters_tup (tp := bb) (vs := ws) (R' := rest) hbb) (fun i ns own led => ns = ([("self", .ref c.x), ("rows", .ref sz2)] : List (Str × Value)) ∧ RowJ w c e (st.token (atomOf e a)) b1 rest sz2 (sepI [.raw "("] (args.take i)) own led) (ns := [("self", .ref c.x), ("rows", .ref sz2)]) (own := [(sz2, PySem.W.listOf #[] 0)]) (led := b1 ++ rest)
  ∅ ∅ ∅ ∅ (fun p hp => hR ▸ hp) (fun p hp => List.mem_append_right _ hp) ⟨rfl, .mk (fun _ h => h) S1 R .nil⟩ ?_ ?_
 ·rintro i v _ m _ _ tk sz hi hv ⟨rfl, ⟨hs, S, R, I⟩⟩ G' hR' hP' z
  rename_i ra nr rest2
  have hi' : i < args.length := by lia
  obtain ⟨di, hdi, hti⟩ := hts.get (List.getElem?_eq_getElem hi')
  rw [hdi] at hv
  cases hv
  have hRt : ∀ p ∈ G'.R, p ∈ rest2 := fun p hp => hs p (hR' ▸ hp)
  have hrl : ra.size ≤ 700 := by
   have h1 := I.len
   rw [Array.length_toList] at h1
   rw [h1]
   have := sepI_len (args.take i) [.raw "("] (by simp)
   simp at this; lia
  have hrl2 : ∀ x : Value, (ra.push x).size ≤ sizeLine := fun x => sz_push (Nat.le_trans (Nat.succ_le_succ hrl) (by decide))
  by_cases i0 : i = 0
  ·obtain ⟨q1, q2⟩ := sep_zero args [.raw "("] hi' i0
   have hra : ra.toList = [] := List.length_eq_zero_iff.mp (by rw [I.len, q1]; rfl)
   refine z_truL 99 (l := sz2) (k := nr) (vs := ra.toList) false (zO 0 ∅) (by rw [hra]; decide) (by rw [hra]; rfl) ∅ ?_; intro z
   refine z_lm 99 0 PySem.F.slot_list_append PySem.F.type_list_append ∅ ?_; intro z
   refine z_append 99 0 ∅ (z_sz (Nat.le_trans hrl (by decide)) ∅) ?_; intro z
   refine z_lm 99 0 PySem.F.slot_list_append PySem.F.type_list_append ∅ ?_; intro z
   refine z_rows 99 S hRt ∅ ∅ ?_; intro own hE z
   refine z_append 0 0 ∅ (z_sz (hrl2 (.ref (adr own 1))) ∅) ?_; intro z
   exact z_turn 99 hP' [("self", .ref c.x), ("rows", .ref sz2)] (own := [(sz2, PySem.W.listOf ((ra.push (.ref (adr own 1))).push (.ref (adr own 2))) (nr + 2))]) (led := b1 ++ (own.tail ++ rest2)) ∅ ∅ ∅ ∅ ⟨rfl, .mk (fun p hp => own_r p (hs p hp)) (S.app own.tail hE) (R.mono own_r) (by rw [q2]; exact ((q1 ▸ I.mono own_r).push (itR own_l ∅)).push (itT own_l ∅ (hti.mono fun p hp => own_r p (hs p hp))))⟩
  ·obtain ⟨q1, q2⟩ := sep_more args [.raw "("] hi' i0
   have hra : (!ra.toList.isEmpty) = true := by
    cases e : ra.toList with
    | nil => rw [e] at I; exact absurd (List.length_eq_zero_iff.mp I.len.symm) q1
    | cons _ _ => rfl
   refine z_truL 99 (l := sz2) (k := nr) (vs := ra.toList) true (zO 0 ∅) (by rw [Array.length_toList]; lia) hra ∅ ?_; intro z
   refine z_lm 99 0 PySem.F.slot_list_append PySem.F.type_list_append ∅ ?_; intro z
   refine z_append 99 0 ∅ (z_sz (Nat.le_trans hrl (by decide)) ∅) ?_; intro z
   refine z_lm 99 0 PySem.F.slot_list_append PySem.F.type_list_append ∅ ?_; intro z
   refine z_rows 99 S hRt ∅ ∅ ?_; intro own hE z
   refine z_append 0 0 ∅ (z_sz (hrl2 (.ref (adr own 1))) ∅) ?_; intro z
   exact z_turn 99 hP' [("self", .ref c.x), ("rows", .ref sz2)] (own := [(sz2, PySem.W.listOf ((ra.push (.ref (adr own 1))).push (.ref (adr own 2))) (nr + 2))]) (led := b1 ++ (own.tail ++ rest2)) ∅ ∅ ∅ ∅ ⟨rfl, .mk (fun p hp => own_r p (hs p hp)) (S.app own.tail hE) (R.mono own_r) (by rw [q2]; exact ((I.mono own_r).push (itR own_l ∅)).push (itT own_l ∅ (hti.mono fun p hp => own_r p (hs p hp))))⟩
 ·rintro _ m _ _ tk sz ⟨rfl, ⟨hs, S, R, I⟩⟩ z
  rename_i ra nr rest2
  rw [hwl, List.take_length] at I
  have hrl : ra.size ≤ 700 := by
   have h1 := I.len
   rw [Array.length_toList] at h1
   rw [h1]
   have := sepI_len args [.raw "("] (by simp)
   lia
  have hR9 : ∀ p ∈ G.R, p ∈ rest2 := fun p hp => hs p (hR ▸ hp)
  refine z_lm 99 0 PySem.F.slot_list_append PySem.F.type_list_append ∅ ?_; intro z
  refine z_append 99 0 ∅ (z_sz (Nat.le_trans hrl (by decide)) ∅) ?_; intro z
  refine z_wmt 99 S ∅ ∅ ?_; intro z
  refine z_ownW S 99 ∅ ∅ ?_; intro own hnd hoff hlt z
  refine z_callO 0 (fun t => later_A S (own := own) (ra := ra.push (.ref (adr own 1))) (k := nr + 1) ∅ hnd hoff hw (by rw [Array.size_push]; lia)) (by decide) ∅ ∅ ∅ ?_
  rintro _ _ ⟨rfl, b4, rfl, S4⟩ tk4 sz4
  refine ⟨fun q hq => List.mem_append_right _ (own_r q (hR9 q hq)), ?_⟩; intro z
  exact z_end 99 hP ∅ ∅ (hZ _ _ (.mk (b' := b4) (vs := (ra.push (.ref (adr own 1))).toList) (fun q hq => own_r q (hs q hq)) S4 (R.mono own_r) ((I.mono own_r).push (itR own_l ∅))))
end
end
section
set_option tactic.hygienic false
theorem numText_fit {c : Int} (h1 : -1000 ≤ c) (h2 : c ≤ 1000) : numText c ≠ "" ∧ (numText c).length ≤ 1000 := by
 have hd : ∀ d : Int, d.natAbs < 10 ^ 10 → (Str.ofString (toString d)).length ≤ 11 := fun d h => by rw [PySem.ofString_length]; exact int_text_length_le10 (by decide) h
 have e1 : (Str.ofString "-").length = 1 := by decide
 have h3 := hd (if c < 0 then -c else c) (by split <;> lia)
 have h4 := KLn.one_le (n := if c < 0 then -c else c) (by split <;> lia)
 unfold numText
 generalize Str.ofString (toString (if c < 0 then -c else c)) = y at h3 h4 ⊢
 split
 ·have e : (Txt.join "" [Str.ofString "-", y]).length = 1 + y.length := by
   rw [join_cat, cat_len]; simp only [List.map_cons, List.map_nil, List.sum_cons, List.sum_nil, e1]; lia
  exact ⟨len_ne (by rw [e]; lia), by rw [e]; lia⟩
 ·have e : (Txt.join "" [y]).length = y.length := by
   rw [join_cat, cat_len]; simp only [List.map_cons, List.map_nil, List.sum_cons, List.sum_nil]; lia
  exact ⟨len_ne (by rw [e]; lia), by rw [e]; lia⟩
theorem varText_fit {k : Int} (h1 : 0 ≤ k) (h2 : k ≤ 1000) : varText k ≠ "" ∧ (varText k).length ≤ 1000 := by
 have hd : (Str.ofString (toString k)).length ≤ 11 := by rw [PySem.ofString_length]; exact int_text_length_le10 (by decide) (by lia)
 have e1 : (Str.ofString "_").length = 1 := by decide
 have e : (varText k).length = 1 + (Str.ofString (toString k)).length := by unfold varText; rw [Str.length_append, e1]
 exact ⟨len_ne (by rw [e]; lia), by rw [e]; lia⟩
noncomputable def opI (e : Ev) (a : Int) (fx : Fx) (p : Int) (k : Kd) (most : Int) (args : List Tm) : List It := match fx, args with
 | .pre, [x] => [.term x (bnd p k).2 false] ++ closeI most p
 | .post, [x] => [.term x (leftLim e x p (bnd p k).1) false, .op .post a] ++ closeI most p
 | .inf, [x, y] => [.term x (leftLim e x p (bnd p k).1) false, .op .inf a, .term y (bnd p k).2 false] ++ closeI most p
 | _, _ => []
noncomputable def WS.opS (e : Ev) (st : WS) (a : Int) (most : Int) : Option (Fx × Int × Kd) → WS
 | none => st.token (atomOf e a)
 | some (.pre, p, _) => (st.openP most p).prefixOp e a
 | some (_, p, _) => st.openP most p
noncomputable def opsI (e : Ev) (a : Int) (most : Int) (args : List Tm) : Option (Fx × Int × Kd) → List It
 | none => funcI args
 | some (fx, p, k) => opI e a fx p k most args
noncomputable def WS.write (e : Ev) (st : WS) (t : Tm) (most : Int) (alone : Bool) : WS := match t with
 | .v k => st.token (varText k)
 | .i k => st.token (numText k)
 | .a k => st.atom e k alone
 | .s f args => if f = 0 then st.token "[" else if f = 9 then st.token "{" else st.opS e (nameOf e f) most (shapeA e (nameOf e f) args)
noncomputable def writeI (e : Ev) (t : Tm) (most : Int) : List It := match t with
 | .s f args => if f = 0 then (match args with | [_, _] => listI t | _ => []) else if f = 9 then (match args with | [x] => [.term x 1201 true, .raw "}"] | _ => []) else opsI e (nameOf e f) most args (shapeA e (nameOf e f) args)
 | _ => []
noncomputable def Wrote (w : World) (c : Wc) (e : Ev) (st st' : WS) (is : List It) (rest : List (Addr × Obj)) (r : Value) (l : List (Addr × Obj)) : Prop := PIt w c e rest st' st.work is r l
section
variable {w : World} {rest b : List (Addr × Obj)} {c : Wc} {st : WS} {e : Ev}
theorem PIt.sub {st' : WS} {wk : List Value} {is : List It} {r : Value} {l : List (Addr × Obj)} (h : PIt w c e rest st' wk is r l) : r = .none ∧ ∀ p ∈ rest, p ∈ l := by
 cases h with
 | mk hs _ _ _ => exact ⟨rfl, fun p hp => List.mem_append_right _ (hs p hp)⟩
theorem PIt.up {rest' : List (Addr × Obj)} {st' : WS} {wk : List Value} {is : List It} {r : Value} {l : List (Addr × Obj)} (hs : ∀ p ∈ rest, p ∈ rest') (h : PIt w c e rest' st' wk is r l) : PIt w c e rest st' wk is r l := by
 cases h with
 | mk hs' S R I => exact .mk (fun p hp => hs' p (hs p hp)) S R I
variable {N : List (Str × NameKind)} {dep : Nat} {G : ZG w N dep} {z : ZC}
theorem z_callI (n : Nat) {f dd : Nat} {args : (Nat → Tok) → List Value} {R' : List (Addr × Obj)} {st' : WS} {wk : List Value} {is : List It} (D : ∀ t : Nat → Tok, Does w f dd (args t) (b ++ rest) (PIt w c e rest st' wk is)) (hd : dd ≤ dep) (hR : G.R = R') (hs : ∀ p ∈ R', p ∈ rest) (hl : (zgo N w.params n z).σ.led = b ++ rest) (hv : clOf (zgo N w.params n z) = some (f, args (tks (zgo N w.params n z))))
  (h : ∀ l, PIt w c e R' st' wk is .none l → ∀ tk sz, let c' := zres (zgo N w.params n z) .none (zgo N w.params n z).σ.own l tk sz; ZT G c') : ZT G z := by
 refine z_call n D hd hv hl ?_
 intro r l hp tk sz
 obtain ⟨rfl, hq⟩ := hp.sub
 exact ⟨fun p hp => hq p (hs p (hR ▸ hp)), h l (hp.up hs) tk sz⟩
theorem wrote_same {st' : WS} {b' : List (Addr × Obj)} (hw : st'.work = st.work) (S : WrIn w c st' b' rest) (R : Rd w c e rest) : Wrote w c e st st' [] rest .none (b' ++ rest) := by
 refine .mk (vs := []) (fun _ h => h) ?_ R .nil
 have e1 : ({ st' with work := st.work ++ ([] : List Value).reverse } : WS) = st' := by rw [List.reverse_nil, List.append_nil, ← hw]
 rw [e1]; exact S
theorem atom_work (a : Int) (alone : Bool) : (st.atom e a alone).work = st.work := by unfold WS.atom; split <;> rfl
theorem write_v (S : WrIn w c st b rest) (R : Rd w c e rest) {d : Addr} {k : Int} {t1 t2 tm : Tok} {most : Int} {alone : Bool} (hm : (d, tupO [.str "v" t1, .int k t2]) ∈ rest) (h0 : 0 ≤ k) (h1 : k ≤ 1000) (hz : st.out.length ≤ 70000) :
  Does w 392 9 [.ref c.x, .ref d, .int most tm, .bool alone] (b ++ rest) (Wrote w c e st (st.token (varText k)) [] rest) := by
 refine z_in [("self", .ref c.x), ("term", .ref d), ("most", .int most tm), ("alone", .bool alone)] (R := rest) (fun p hp => List.mem_append_right _ hp) ∅ ∅ ∅ ?_
 intro Z hZ G tk sz hP hR z
 (refine z_item (i := 0) 99 (zR hR hm) ∅ ?_; intro z)
 (refine z_wmt 99 S ∅ ∅ ?_; intro z)
 (refine z_wmt 99 S ∅ ∅ ?_; intro z)
 (refine z_item (i := 1) 99 (zR hR hm) ∅ ?_; intro z)
 refine z_callT 99 (fun t => variable_text_S (tk1 := t 1) S R h0 h1) (by decide) ∅ ∅ ?_; intro tt tk2 sz2 z
 refine z_callW 99 (fun t => token_S S (y := varText k) (ty := t 1) (varText_fit h0 h1).1 (varText_fit h0 h1).2 (Nat.le_trans hz (by decide))) (by decide) hR ∅ ∅ ?_; intro b2 S2 tk2 sz2 z
 exact z_end 99 hP ∅ ∅ (hZ _ _ (wrote_same rfl S2 R))
theorem write_i (S : WrIn w c st b rest) (R : Rd w c e rest) {d : Addr} {k : Int} {t1 t2 tm : Tok} {most : Int} {alone : Bool} (hm : (d, tupO [.str "i" t1, .int k t2]) ∈ rest) (h0 : -1000 ≤ k) (h1 : k ≤ 1000) (hz : st.out.length ≤ 70000) :
  Does w 392 9 [.ref c.x, .ref d, .int most tm, .bool alone] (b ++ rest) (Wrote w c e st (st.token (numText k)) [] rest) := by
 refine z_in [("self", .ref c.x), ("term", .ref d), ("most", .int most tm), ("alone", .bool alone)] (R := rest) (fun p hp => List.mem_append_right _ hp) ∅ ∅ ∅ ?_
 intro Z hZ G tk sz hP hR z
 (refine z_item (i := 0) 99 (zR hR hm) ∅ ?_; intro z)
 (refine z_wmt 99 S ∅ ∅ ?_; intro z)
 (refine z_item (i := 1) 99 (zR hR hm) ∅ ?_; intro z)
 refine z_callT 99 (fun t => number_text_spec (led := b ++ rest) (t := t 0) h0 h1) (by decide) ∅ ∅ ?_; intro tt tk2 sz2 z
 refine z_callW 99 (fun t => token_S S (y := numText k) (ty := t 1) (numText_fit h0 h1).1 (numText_fit h0 h1).2 (Nat.le_trans hz (by decide))) (by decide) hR ∅ ∅ ?_; intro b2 S2 tk2 sz2 z
 exact z_end 99 hP ∅ ∅ (hZ _ _ (wrote_same rfl S2 R))
theorem write_a (S : WrIn w c st b rest) (R : Rd w c e rest) {d : Addr} {k : Int} {t1 t2 tm : Tok} {most : Int} {alone : Bool} (hm : (d, tupO [.str "a" t1, .int k t2]) ∈ rest) (g : GoodA e k) (hz : st.out.length ≤ 70000) :
  Does w 392 9 [.ref c.x, .ref d, .int most tm, .bool alone] (b ++ rest) (Wrote w c e st (st.atom e k alone) [] rest) := by
 refine z_in [("self", .ref c.x), ("term", .ref d), ("most", .int most tm), ("alone", .bool alone)] (R := rest) (fun p hp => List.mem_append_right _ hp) ∅ ∅ ∅ ?_
 intro Z hZ G tk sz hP hR z
 (refine z_item (i := 0) 99 (zR hR hm) ∅ ?_; intro z)
 (refine z_wmt 99 S ∅ ∅ ?_; intro z)
 (refine z_item (i := 1) 99 (zR hR hm) ∅ ?_; intro z)
 refine z_callW 99 (fun t => write_atom_S (alone := alone) (ta := t 1) S R g (Nat.le_trans hz (by decide))) (by decide) hR ∅ ∅ ?_; intro b2 S2 tk2 sz2 z
 exact z_end 99 hP ∅ ∅ (hZ _ _ (wrote_same (atom_work _ _) S2 R))
theorem write_dot (S : WrIn w c st b rest) (R : Rd w c e rest) {d bb : Addr} {args : List Tm} {ws : List Value} {t1 t2 tm : Tok} {most : Int} {alone : Bool} (hm : (d, tupO [.str "s" t1, .int 0 t2, .ref bb]) ∈ rest) (ht : TermAt rest (.s 0 args) d) (ok : OkT (.s 0 args)) (hg : hgt (listOfTm (.s 0 args)).2 ≤ 30) (hn : (listOfTm (.s 0 args)).1.length ≤ 300) (hz : st.out.length ≤ 70000) (hw : st.work.length ≤ 9000) :
  Does w 392 9 [.ref c.x, .ref d, .int most tm, .bool alone] (b ++ rest) (Wrote w c e st (st.token "[") (listI (.s 0 args)) rest) := by
 refine z_in [("self", .ref c.x), ("term", .ref d), ("most", .int most tm), ("alone", .bool alone)] (R := rest) (fun p hp => List.mem_append_right _ hp) ∅ ∅ ∅ ?_
 intro Z hZ G tk sz hP hR z
 (refine z_item (i := 0) 99 (zR hR hm) ∅ ?_; intro z)
 (refine z_item (i := 1) 99 (zR hR hm) ∅ ?_; intro z)
 (refine z_wmt 99 S ∅ ∅ ?_; intro z)
 refine z_callI 99 (fun t => write_list_S S R ht ok hg hn hz hw) (by decide) hR (fun _ h => h) ∅ ∅ ?_; intro l5 h5 tk2 sz2 z
 exact z_end 99 hP ∅ ∅ (hZ _ _ h5)
end
end
section
set_option tactic.hygienic false
section
variable {w : World} {rest b : List (Addr × Obj)} {c : Wc} {st : WS} {e : Ev}
theorem rotL_mem {α : Type} {x y z : α} : ∀ p ∈ [z, x, y], p ∈ [x, y, z] := by
 intro p hp
 simp only [List.mem_cons, List.not_mem_nil, or_false] at hp ⊢
 rcases hp with h | h | h
 ·exact .inr (.inr h)
 ·exact .inl h
 ·exact .inr (.inl h)
noncomputable def rotL {α : Type} (l : List α) : List α := onCons l l fun x r => two r l fun y z => [z, x, y]
theorem rotL_ok {l : List (Addr × Obj)} : (∀ p ∈ rotL l, p ∈ l) ∧ ((l.map (·.1)).Nodup → ((rotL l).map (·.1)).Nodup) := by
 rcases l with _ | ⟨x, _ | ⟨y, _ | ⟨z, _ | ⟨_, _⟩⟩⟩⟩
 ·exact ⟨fun _ h => h, id⟩
 ·exact ⟨fun _ h => h, id⟩
 ·exact ⟨fun _ h => h, id⟩
 ·refine ⟨rotL_mem, fun h => ?_⟩
  show [z.1, x.1, y.1].Nodup
  have h : [x.1, y.1, z.1].Nodup := h
  simp only [List.nodup_cons, List.mem_cons, List.not_mem_nil, or_false, not_or, not_false_eq_true, List.nodup_nil, and_true] at h ⊢
  exact ⟨⟨fun e => h.1.2 e.symm, fun e => h.2 e.symm⟩, h.1.1⟩
 ·exact ⟨fun _ h => h, id⟩
variable {N : List (Str × NameKind)} {dep : Nat} {G : ZG w N dep} {z : ZC}
theorem z_rotW (_ : WrIn w c st b rest) (n : Nat) (hR : G.R = rest) (hv : zall (zgo N w.params n z) = true) (hl : (zgo N w.params n z).σ.led = b ++ rest)
  (h : let own := rotL (zgo N w.params n z).σ.own; (own.map (·.1)).Nodup → (∀ p ∈ own, ∀ q ∈ b ++ rest, p.1 ≠ q.1) → let c' := zside own (b ++ rest) (zgo N w.params n z); ZT G c') : ZT G z := by
 refine ZT.go n ?_
 generalize zgo N w.params n z = c1 at *
 obtain ⟨σ, k, md⟩ := c1
 refine z_all hv fun s a => ?_
 have q1 := (rotL_ok (l := σ.own)).2 a.nd
 have q2 : ∀ p ∈ rotL σ.own, ∀ q ∈ b ++ rest, p.1 ≠ q.1 := fun p hp q hq => a.off p (rotL_ok.1 p hp) q (hl ▸ hq)
 have hs : ∀ p ∈ rotL σ.own ++ (b ++ rest), p ∈ σ.own ++ σ.led := fun p hp => (List.mem_append.mp hp).elim (fun h => List.mem_append_left _ (rotL_ok.1 p h)) fun h => List.mem_append_right _ (hl ▸ h)
 exact ⟨⟨σ.m, rotL σ.own, b ++ rest, σ.tk, σ.sz⟩, ⟨a.st, a.sz, a.fr, fun p hp => a.nw p (hs p hp), q1, q2, fun p hp => List.mem_append_right _ (hR ▸ hp), a.hid, fun p hp => a.hof p (hs p hp)⟩, (h q1 q2).s⟩
theorem write_func (S : WrIn w c st b rest) (R : Rd w c e rest) {d bb : Addr} {f a : Int} {args : List Tm} {ws : List Value} {t1 t2 tm : Tok} {most : Int} {alone : Bool} (hm : (d, tupO [.str "s" t1, .int f t2, .ref bb]) ∈ rest) (hbb : (bb, tupO ws) ∈ rest) (ht : TermAt rest (.s f args) d) (wf : WfT e (.s f args)) (hts : TermsAt rest args ws) (hf0 : f ≠ 0) (hf9 : f ≠ 9) (h0 : 0 ≤ f) (h1 : f ≤ 1000) (hg : e.funs[f.toNat]? = some (a, Int.ofNat args.length)) (ga : GoodA e a) (hn : args.length ≤ 300) (hs : shape e (.s f args) = none) (hz : st.out.length ≤ 70000) (hw : st.work.length ≤ 9000) :
  Does w 392 9 [.ref c.x, .ref d, .int most tm, .bool alone] (b ++ rest) (Wrote w c e st (st.token (atomOf e a)) (funcI args) rest) := by
 refine z_in [("self", .ref c.x), ("term", .ref d), ("most", .int most tm), ("alone", .bool alone)] (R := rest) (fun p hp => List.mem_append_right _ hp) ∅ ∅ ∅ ?_
 intro Z hZ G tk sz hP hR z
 (refine z_item (i := 0) 99 (zR hR hm) ∅ ?_; intro z)
 (refine z_item (i := 1) 99 (zR hR hm) ∅ ?_; intro z)
 (refine z_br 6 false (beq_false_of_ne hf0) ∅ ?_; intro z)
 (refine z_wmt 99 S ∅ ∅ ?_; intro z)
 refine z_callE 99 (fun t => is_numbered_R (d := d) S) (by decide) ∅ ∅ ?_; intro tk2 sz2 z
 (refine z_item (i := 1) 99 (zR hR hm) ∅ ?_; intro z)
 (refine z_br 6 false (beq_false_of_ne hf9) ∅ ?_; intro z)
 (refine z_wmt 99 S ∅ ∅ ?_; intro z)
 refine z_callE 99 (fun t => shape_none S R ht wf hs) (by decide) ∅ ∅ ?_; intro tk2 sz2 z
 (refine z_wmt 99 S ∅ ∅ ?_; intro z)
 refine z_callI 99 (fun t => write_functional_S S R hm hbb hts h0 h1 hg ga hn hz hw) (by decide) hR (fun _ h => h) ∅ ∅ ?_; intro l5 h5 tk2 sz2 z
 exact z_end 99 hP ∅ ∅ (hZ _ _ h5)
theorem write_curly (S : WrIn w c st b rest) (R : Rd w c e rest) {d bb dx : Addr} {x : Tm} {t1 t2 tm : Tok} {most : Int} {alone : Bool} (hm : (d, tupO [.str "s" t1, .int 9 t2, .ref bb]) ∈ rest) (hbb : (bb, tupO [.ref dx]) ∈ rest) (hx : TermAt rest x dx) (hz : st.out.length ≤ 70000) (hw : st.work.length ≤ 9000) :
  Does w 392 9 [.ref c.x, .ref d, .int most tm, .bool alone] (b ++ rest) (Wrote w c e st (st.token "{") [.term x 1201 true, .raw "}"] rest) := by
 refine z_in [("self", .ref c.x), ("term", .ref d), ("most", .int most tm), ("alone", .bool alone)] (R := rest) (fun p hp => List.mem_append_right _ hp) ∅ ∅ ∅ ?_
 intro Z hZ G tk sz hP hR z
 (refine z_item (i := 0) 99 (zR hR hm) ∅ ?_; intro z)
 (refine z_item (i := 1) 99 (zR hR hm) ∅ ?_; intro z)
 (refine z_wmt 99 S ∅ ∅ ?_; intro z)
 refine z_callE 99 (fun t => is_numbered_R (d := d) S) (by decide) ∅ ∅ ?_; intro tk2 sz2 z
 (refine z_item (i := 1) 99 (zR hR hm) ∅ ?_; intro z)
 (refine z_wat 99 S ∅ ∅ ?_; intro z)
 (refine z_wmt 99 S ∅ ∅ ?_; intro z)
 refine z_callW 99 (fun t => token_S S (y := "{") (ty := t 1) (by decide +kernel) (by decide +kernel) (Nat.le_trans hz (by decide))) (by decide) hR ∅ ∅ ?_; intro b2 S2 tk2 sz2 z
 (refine z_wmt 99 S2 ∅ ∅ ?_; intro z)
 (refine z_item (i := 2) 99 (zR hR hm) ∅ ?_; intro z)
 (refine z_item (i := 0) 99 (zR hR hbb) ∅ ?_; intro z)
 refine z_rotW S2 99 hR ∅ ∅ ?_; intro own hnd hoff z
 refine z_callO 0 (fun t => later_Z S2 [1, 2] (own := own) (k := 0) ∅ hnd hoff hw (by decide)) (by decide) ∅ ∅ ∅ ?_
 rintro _ _ ⟨rfl, b4, rfl, S4⟩ tk4 sz4
 refine ⟨fun q hq => List.mem_append_right _ (List.mem_append_right _ (hR ▸ hq)), ?_⟩; intro z
 exact z_end 99 hP ∅ ∅ (hZ _ _ (.mk (b' := b4) (vs := refs own [1, 2]) own_r S4 (R.mono own_r) (.cons (itT own_l ∅ (hx.mono own_r)) (.cons (itR own_l ∅) .nil))))
theorem write_pre (S : WrIn w c st b rest) (R : Rd w c e rest) (T0 : TabOk e) {d bb dx dy : Addr} {x y : Tm} {f a p : Int} {k : Kd} {t1 t2 tm : Tok} {most : Int} {alone : Bool} (hm : (d, tupO [.str "s" t1, .int f t2, .ref bb]) ∈ rest) (hb : (bb, tupO [.ref dx]) ∈ rest) (ht : TermAt rest (.s f [x]) d) (wf : WfT e (.s f [x])) (hx : TermAt rest x dx) (wx : WfT e x) (hf0 : f ≠ 0) (hf9 : f ≠ 9) (h0 : 0 ≤ f) (h1 : f ≤ 1000) (hg : e.funs[f.toNat]? = some (a, 1)) (ga : GoodA e a) (hs : shape e (.s f [x]) = some (.pre, p, k)) (hz : st.out.length ≤ 70000) (hw : st.work.length ≤ 9000) :
  Does w 392 9 [.ref c.x, .ref d, .int most tm, .bool alone] (b ++ rest) (Wrote w c e st ((st.openP most p).prefixOp e a) ([.term x (bnd p k).2 false] ++ closeI most p) rest) := by
 refine z_in [("self", .ref c.x), ("term", .ref d), ("most", .int most tm), ("alone", .bool alone)] (R := rest) (fun p hp => List.mem_append_right _ hp) ∅ ∅ ∅ ?_
 intro Z hZ G tk sz hP hR z
 have q := T0.shape hs
 (refine z_item (i := 0) 99 (zR hR hm) ∅ ?_; intro z)
 (refine z_item (i := 1) 99 (zR hR hm) ∅ ?_; intro z)
 (refine z_br 6 false (beq_false_of_ne hf0) ∅ ?_; intro z)
 (refine z_wmt 99 S ∅ ∅ ?_; intro z)
 refine z_callE 99 (fun t => is_numbered_R (d := d) S) (by decide) ∅ ∅ ?_; intro tk2 sz2 z
 (refine z_item (i := 1) 99 (zR hR hm) ∅ ?_; intro z)
 (refine z_br 6 false (beq_false_of_ne hf9) ∅ ?_; intro z)
 (refine z_wmt 99 S ∅ ∅ ?_; intro z)
 refine z_callX 99 (fun t => shape_some S R ht wf hs) (by decide) hR (fun _ h => h) ∅ ∅ ?_
 rintro _ rest1 hs1 S1 R1 ⟨m1⟩ tk2 sz2 z
 (refine z_wmt 99 S1 ∅ ∅ ?_; intro z)
 refine z_callI 99 (fun t => write_op_pre (most := most) (tm := t 3) S1 R1 (hs1 _ hm) (hs1 _ hb) (hx.mono hs1) m1 h0 h1 hg ga q.1 q.2.1 hz hw) (by decide) hR hs1 ∅ ∅ ?_; intro l5 h5 tk2 sz2 z
 exact z_end 99 hP ∅ ∅ (hZ _ _ h5)
theorem write_inf (S : WrIn w c st b rest) (R : Rd w c e rest) (T0 : TabOk e) {d bb dx dy : Addr} {x y : Tm} {f a p : Int} {k : Kd} {t1 t2 tm : Tok} {most : Int} {alone : Bool} (hm : (d, tupO [.str "s" t1, .int f t2, .ref bb]) ∈ rest) (hb : (bb, tupO [.ref dx, .ref dy]) ∈ rest) (ht : TermAt rest (.s f [x, y]) d) (wf : WfT e (.s f [x, y])) (hx : TermAt rest x dx) (wx : WfT e x) (hy : TermAt rest y dy) (hf0 : f ≠ 0) (hf9 : f ≠ 9) (h0 : 0 ≤ f) (h1 : f ≤ 1000) (hg : e.funs[f.toNat]? = some (a, 2)) (ga : GoodA e a) (hs : shape e (.s f [x, y]) = some (.inf, p, k)) (hz : st.out.length ≤ 70000) (hw : st.work.length ≤ 9000) :
  Does w 392 9 [.ref c.x, .ref d, .int most tm, .bool alone] (b ++ rest) (Wrote w c e st (st.openP most p) ([.term x (leftLim e x p (bnd p k).1) false, .op .inf a, .term y (bnd p k).2 false] ++ closeI most p) rest) := by
 refine z_in [("self", .ref c.x), ("term", .ref d), ("most", .int most tm), ("alone", .bool alone)] (R := rest) (fun p hp => List.mem_append_right _ hp) ∅ ∅ ∅ ?_
 intro Z hZ G tk sz hP hR z
 have q := T0.shape hs
 (refine z_item (i := 0) 99 (zR hR hm) ∅ ?_; intro z)
 (refine z_item (i := 1) 99 (zR hR hm) ∅ ?_; intro z)
 (refine z_br 6 false (beq_false_of_ne hf0) ∅ ?_; intro z)
 (refine z_wmt 99 S ∅ ∅ ?_; intro z)
 refine z_callE 99 (fun t => is_numbered_R (d := d) S) (by decide) ∅ ∅ ?_; intro tk2 sz2 z
 (refine z_item (i := 1) 99 (zR hR hm) ∅ ?_; intro z)
 (refine z_br 6 false (beq_false_of_ne hf9) ∅ ?_; intro z)
 (refine z_wmt 99 S ∅ ∅ ?_; intro z)
 refine z_callX 99 (fun t => shape_some S R ht wf hs) (by decide) hR (fun _ h => h) ∅ ∅ ?_
 rintro _ rest1 hs1 S1 R1 ⟨m1⟩ tk2 sz2 z
 (refine z_wmt 99 S1 ∅ ∅ ?_; intro z)
 refine z_callI 99 (fun t => write_op_inf (most := most) (tm := t 3) S1 R1 T0 (hs1 _ hm) (hs1 _ hb) (hx.mono hs1) wx (hy.mono hs1) m1 h0 h1 hg q.1 q.2.1 hz hw) (by decide) hR hs1 ∅ ∅ ?_; intro l5 h5 tk2 sz2 z
 exact z_end 99 hP ∅ ∅ (hZ _ _ h5)
theorem write_post (S : WrIn w c st b rest) (R : Rd w c e rest) (T0 : TabOk e) {d bb dx dy : Addr} {x y : Tm} {f a p : Int} {k : Kd} {t1 t2 tm : Tok} {most : Int} {alone : Bool} (hm : (d, tupO [.str "s" t1, .int f t2, .ref bb]) ∈ rest) (hb : (bb, tupO [.ref dx]) ∈ rest) (ht : TermAt rest (.s f [x]) d) (wf : WfT e (.s f [x])) (hx : TermAt rest x dx) (wx : WfT e x) (hf0 : f ≠ 0) (hf9 : f ≠ 9) (h0 : 0 ≤ f) (h1 : f ≤ 1000) (hg : e.funs[f.toNat]? = some (a, 1)) (ga : GoodA e a) (hs : shape e (.s f [x]) = some (.post, p, k)) (hz : st.out.length ≤ 70000) (hw : st.work.length ≤ 9000) :
  Does w 392 9 [.ref c.x, .ref d, .int most tm, .bool alone] (b ++ rest) (Wrote w c e st (st.openP most p) ([.term x (leftLim e x p (bnd p k).1) false, .op .post a] ++ closeI most p) rest) := by
 refine z_in [("self", .ref c.x), ("term", .ref d), ("most", .int most tm), ("alone", .bool alone)] (R := rest) (fun p hp => List.mem_append_right _ hp) ∅ ∅ ∅ ?_
 intro Z hZ G tk sz hP hR z
 have q := T0.shape hs
 (refine z_item (i := 0) 99 (zR hR hm) ∅ ?_; intro z)
 (refine z_item (i := 1) 99 (zR hR hm) ∅ ?_; intro z)
 (refine z_br 6 false (beq_false_of_ne hf0) ∅ ?_; intro z)
 (refine z_wmt 99 S ∅ ∅ ?_; intro z)
 refine z_callE 99 (fun t => is_numbered_R (d := d) S) (by decide) ∅ ∅ ?_; intro tk2 sz2 z
 (refine z_item (i := 1) 99 (zR hR hm) ∅ ?_; intro z)
 (refine z_br 6 false (beq_false_of_ne hf9) ∅ ?_; intro z)
 (refine z_wmt 99 S ∅ ∅ ?_; intro z)
 refine z_callX 99 (fun t => shape_some S R ht wf hs) (by decide) hR (fun _ h => h) ∅ ∅ ?_
 rintro _ rest1 hs1 S1 R1 ⟨m1⟩ tk2 sz2 z
 (refine z_wmt 99 S1 ∅ ∅ ?_; intro z)
 refine z_callI 99 (fun t => write_op_post (most := most) (tm := t 3) S1 R1 T0 (hs1 _ hm) (hs1 _ hb) (hx.mono hs1) wx m1 h0 h1 hg q.1 q.2.1 hz hw) (by decide) hR hs1 ∅ ∅ ?_; intro l5 h5 tk2 sz2 z
 exact z_end 99 hP ∅ ∅ (hZ _ _ h5)
end
end
section
section
variable {w : World} {rest b : List (Addr × Obj)} {c : Wc} {st : WS} {e : Ev}
theorem write_S (S : WrIn w c st b rest) (R : Rd w c e rest) (T0 : TabOk e) {t : Tm} {d : Addr} (ht : TermAt rest t d) (wf : WfT e t) {most : Int} {tm : Tok} {alone : Bool} (hg : hgt (listOfTm t).2 ≤ 30) (hn : (listOfTm t).1.length ≤ 300) (hz : st.out.length ≤ 70000) (hw : st.work.length ≤ 9000) :
  Does w 392 9 [.ref c.x, .ref d, .int most tm, .bool alone] (b ++ rest) (Wrote w c e st (st.write e t most alone) (writeI e t most) rest) := by
 have ht0 := ht
 have wf0 := wf
 cases ht with
 | v hm => cases wf with | v h0 h1 => exact write_v S R hm h0 h1 hz
 | i hm => cases wf with | i h0 h1 => exact write_i S R hm h0 h1 hz
 | a hm => cases wf with | a g => exact write_a S R hm g hz
 | s hm hb hargs =>
  cases wf with
  | dot _ _ => exact write_dot (ws := []) S R hm ht0 wf0.ok hg hn hz hw
  | curly _ =>
   cases hargs with
   | cons hx hr =>
    cases hr
    exact write_curly S R hm hb hx hz hw
  | s hf0 hf9 h0 h1 hgf ga hne hlen hts =>
   rename_i bb f t1 t2 args vs a
   have e0 : nameOf e f = a := nameOf_eq hgf
   have es : shape e (.s f args) = shapeA e a args := by
    show (if f = 0 ∨ f = 9 then none else shapeA e (nameOf e f) args) = _
    rw [if_neg (fun h => h.elim hf0 hf9), e0]
   have ew : st.write e (.s f args) most alone = st.opS e a most (shape e (.s f args)) := by
    show (if f = 0 then _ else if f = 9 then _ else st.opS e (nameOf e f) most (shapeA e (nameOf e f) args)) = _
    rw [if_neg hf0, if_neg hf9, e0, es]
   have ei : writeI e (.s f args) most = opsI e a most args (shape e (.s f args)) := by
    show (if f = 0 then _ else if f = 9 then _ else opsI e (nameOf e f) most args (shapeA e (nameOf e f) args)) = _
    rw [if_neg hf0, if_neg hf9, e0, es]
   rw [ew, ei]
   cases hs : shape e (.s f args) with
   | none => exact write_func S R hm hb ht0 wf0 hargs hf0 hf9 h0 h1 hgf ga (by lia) hs hz hw
   | some y =>
    obtain ⟨fx, p, k⟩ := y
    rw [es] at hs
    cases hargs with
    | nil => exact absurd rfl hne
    | cons hx hr =>
     rename_i x dx args' vs'
     cases hts with
     | cons wx hts =>
      cases hr with
      | nil =>
       rw [← es] at hs
       cases fx with
       | pre => exact write_pre (dy := 0) (y := x) S R T0 hm hb ht0 wf0 hx wx hf0 hf9 h0 h1 hgf ga hs hz hw
       | post => exact write_post (dy := 0) (y := x) S R T0 hm hb ht0 wf0 hx wx hf0 hf9 h0 h1 hgf ga hs hz hw
       | inf =>
        rw [es] at hs
        simp only [shapeA, shape1] at hs
        split at hs
        ·split at hs <;> cases hs
        ·cases q : e.f .post a with
         | none => rw [q] at hs; cases hs
         | some z => rw [q] at hs; cases hs
      | cons hy hr =>
       rename_i y dy args' vs'
       cases hr with
       | nil =>
        have hs2 := hs
        simp only [shapeA] at hs2
        cases q : e.f .inf a with
        | none => rw [q] at hs2; cases hs2
        | some z =>
         rw [q] at hs2
         cases hs2
         rw [← es] at hs
         exact write_inf S R T0 hm hb ht0 wf0 hx wx hy hf0 hf9 h0 h1 hgf ga hs hz hw
       | cons hz hr => cases hs
end
end
section
mutual
noncomputable def tsz : Tm → Nat
 | .s _ args => tszs args + 1
 | _ => 1
noncomputable def tszs : List Tm → Nat
 | [] => 0
 | t :: ts => tsz t + tszs ts
end
theorem tsz_pos (t : Tm) : 1 ≤ tsz t := by cases t <;> simp [tsz]
theorem tszs_mem {t : Tm} {ts : List Tm} (h : t ∈ ts) : tsz t ≤ tszs ts := by
 induction ts with
 | nil => cases h
 | cons a r ih =>
  simp only [tszs]
  rcases List.mem_cons.mp h with e | h
  ·rw [e]; lia
  ·have := ih h; lia
theorem hgts_mem {t : Tm} {ts : List Tm} (h : t ∈ ts) : hgt t ≤ hgts ts := by
 induction ts with
 | nil => cases h
 | cons a r ih =>
  simp only [hgts]
  rcases List.mem_cons.mp h with e | h
  ·rw [e]; lia
  ·have := ih h; lia
theorem listOfTm_dot (x y : Tm) : listOfTm (.s 0 [x, y]) = (x :: (listOfTm y).1, (listOfTm y).2) := rfl
theorem listOfTm_else {t : Tm} (h : ∀ x y, t ≠ .s 0 [x, y]) : listOfTm t = ([], t) := by
 unfold listOfTm
 split
 ·rename_i x y; exact absurd rfl (h x y)
 ·rfl
theorem isDot (t : Tm) : (∃ x y, t = .s 0 [x, y]) ∨ ∀ x y, t ≠ .s 0 [x, y] := by
 by_cases h : ∃ x y, t = .s 0 [x, y]
 ·exact .inl h
 ·exact .inr fun x y e => h ⟨x, y, e⟩
theorem list_props : ∀ (n : Nat) (t : Tm), tsz t ≤ n → (∀ u ∈ (listOfTm t).1, tsz u < tsz t ∧ hgt u ≤ hgt t) ∧ hgt (listOfTm t).2 ≤ hgt t ∧ tszs (listOfTm t).1 + tsz (listOfTm t).2 + (listOfTm t).1.length = tsz t := by
 intro n
 induction n with
 | zero => intro t h; have := tsz_pos t; lia
 | succ n ih =>
  intro t h
  rcases isDot t with ⟨x, y, rfl⟩ | hn
  ·rw [listOfTm_dot]
   simp only [tsz, tszs, hgt, hgts] at h ⊢
   obtain ⟨h1, h2, h3⟩ := ih y (by lia)
   refine ⟨fun u hu => ?_, by lia, by simp only [List.length_cons]; lia⟩
   rcases List.mem_cons.mp hu with e | hu
   ·rw [e]; lia
   ·have := h1 u hu; lia
  ·rw [listOfTm_else hn]
   exact ⟨by simp, Nat.le_refl _, by simp [tszs]⟩
theorem list_wf {e : Ev} : ∀ (n : Nat) (t : Tm), tsz t ≤ n → WfT e t → (∀ u ∈ (listOfTm t).1, WfT e u) ∧ WfT e (listOfTm t).2 := by
 intro n
 induction n with
 | zero => intro t h; have := tsz_pos t; lia
 | succ n ih =>
  intro t h wf
  rcases isDot t with ⟨x, y, rfl⟩ | hn
  ·rw [listOfTm_dot]
   simp only [tsz, tszs] at h
   have hxy : WfT e x ∧ WfT e y := by
    cases wf with
    | dot h1 h2 => exact ⟨h1, h2⟩
    | s h0 => exact absurd rfl h0
   obtain ⟨h1, h2⟩ := ih y (by lia) hxy.2
   refine ⟨fun u hu => ?_, h2⟩
   rcases List.mem_cons.mp hu with e | hu
   ·rw [e]; exact hxy.1
   ·exact h1 u hu
  ·rw [listOfTm_else hn]
   exact ⟨by simp, wf⟩
noncomputable def rank : It → Nat
 | .term t _ _ => tsz t
 | _ => 0
theorem sepI_mem {i : It} {ts : List Tm} : ∀ {o : List It}, i ∈ sepI o ts → i ∈ o ∨ i = .raw "," ∨ ∃ t ∈ ts, i = .term t 999 true := by
 induction ts with
 | nil => intro o h; cases h
 | cons a r ih =>
  intro o h
  simp only [sepI, List.mem_append, List.mem_cons] at h
  rcases h with h | h | h
  ·exact .inl h
  ·exact .inr (.inr ⟨a, .head _, h⟩)
  ·rcases ih h with h | h | ⟨t, ht, h⟩
   ·exact .inr (.inl (List.mem_singleton.mp h))
   ·exact .inr (.inl h)
   ·exact .inr (.inr ⟨t, .tail _ ht, h⟩)
theorem listI_mem {i : It} {t : Tm} (h : i ∈ listI t) : i = .raw "," ∨ i = .raw "|" ∨ i = .raw "]" ∨ i = .term (listOfTm t).2 999 true ∨ ∃ u ∈ (listOfTm t).1, i = .term u 999 true := by
 simp only [listI, List.mem_append, List.mem_singleton] at h
 rcases h with h | h | h
 ·rcases sepI_mem h with h | h | h
  ·cases h
  ·exact .inl h
  ·exact .inr (.inr (.inr (.inr h)))
 ·split at h
  ·cases h
  ·rcases List.mem_cons.mp h with h | h
   ·exact .inr (.inl h)
   ·exact .inr (.inr (.inr (.inl (List.mem_singleton.mp h))))
 ·exact .inr (.inr (.inl h))
theorem funcI_mem {i : It} {args : List Tm} (h : i ∈ funcI args) : i = .raw "(" ∨ i = .raw "," ∨ i = .raw ")" ∨ ∃ u ∈ args, i = .term u 999 true := by
 simp only [funcI, List.mem_append, List.mem_singleton] at h
 rcases h with h | h
 ·rcases sepI_mem h with h | h | h
  ·exact .inl (List.mem_singleton.mp h)
  ·exact .inr (.inl h)
  ·exact .inr (.inr (.inr h))
 ·exact .inr (.inr (.inl h))
theorem closeI_mem {i : It} {m p : Int} (h : i ∈ closeI m p) : i = .raw ")" := by
 unfold closeI at h
 split at h
 ·exact List.mem_singleton.mp h
 ·cases h
theorem opI_mem {e : Ev} {a : Int} {fx : Fx} {p : Int} {k : Kd} {most : Int} {args : List Tm} {i : It} (h : i ∈ opI e a fx p k most args) : i = .raw ")" ∨ (∃ fx', fx' ≠ .pre ∧ i = .op fx' a) ∨ ∃ u ∈ args, ∃ l, i = .term u l false := by
 unfold opI at h
 split at h
 ·simp only [List.mem_append, List.mem_cons, List.not_mem_nil, or_false] at h
  rcases h with h | h
  ·exact .inr (.inr ⟨_, .head _, _, h⟩)
  ·exact .inl (closeI_mem h)
 ·simp only [List.mem_append, List.mem_cons, List.not_mem_nil, or_false] at h
  rcases h with (h | h) | h
  ·exact .inr (.inr ⟨_, .head _, _, h⟩)
  ·exact .inr (.inl ⟨.post, by decide, h⟩)
  ·exact .inl (closeI_mem h)
 ·simp only [List.mem_append, List.mem_cons, List.not_mem_nil, or_false] at h
  rcases h with (h | h | h) | h
  ·exact .inr (.inr ⟨_, .head _, _, h⟩)
  ·exact .inr (.inl ⟨.inf, by decide, h⟩)
  ·exact .inr (.inr ⟨_, .tail _ (.head _), _, h⟩)
  ·exact .inl (closeI_mem h)
 ·cases h
inductive Part (e : Ev) (t : Tm) : It → Prop
 | raw {y : Str} : y ≠ "" → y.length ≤ 10 → Part e t (.raw y)
 | op {fx : Fx} {f : Int} {args : List Tm} : t = .s f args → f ≠ 0 → f ≠ 9 → fx ≠ .pre → Part e t (.op fx (nameOf e f))
 | term {u : Tm} {l : Int} {b : Bool} : tsz u < tsz t → hgt u ≤ hgt t → (WfT e t → WfT e u) → Part e t (.term u l b)
theorem WfTs.mem {e : Ev} {t : Tm} {ts : List Tm} (w : WfTs e ts) (h : t ∈ ts) : WfT e t := by
 induction ts with
 | nil => cases h
 | cons a r ih =>
  cases w with
  | cons h1 h2 =>
   rcases List.mem_cons.mp h with e | h
   ·rw [e]; exact h1
   ·exact ih h2 h
theorem part_arg {e : Ev} {f : Int} {args : List Tm} {u : Tm} {l : Int} {b : Bool} (hf : f ≠ 0) (h : u ∈ args) : Part e (.s f args) (.term u l b) := by
 refine .term ?_ ?_ ?_
 ·have := tszs_mem h; simp only [tsz]; lia
 ·have := hgts_mem h; simp only [hgt]; lia
 ·intro w
  cases w with
  | dot => exact absurd rfl hf
  | curly hx => rw [List.mem_singleton.mp h]; exact hx
  | s _ _ _ _ _ _ _ _ hs => exact hs.mem h
theorem writeI_part {e : Ev} {t : Tm} {most : Int} : ∀ i ∈ writeI e t most, Part e t i := by
 intro i h
 cases t with
 | v k => cases h
 | i k => cases h
 | a k => cases h
 | s f args =>
  simp only [writeI] at h
  split at h
  ·rename_i h0
   subst h0
   split at h
   ·rename_i x y
    obtain ⟨h1, h2, h3⟩ := list_props _ (.s 0 [x, y]) (Nat.le_refl _)
    rcases listI_mem h with rfl | rfl | rfl | rfl | ⟨u, hu, rfl⟩
    ·exact .raw (by decide +kernel) (by decide +kernel)
    ·exact .raw (by decide +kernel) (by decide +kernel)
    ·exact .raw (by decide +kernel) (by decide +kernel)
    ·refine .term ?_ h2 fun w => (list_wf _ _ (Nat.le_refl _) w).2
     have : 1 ≤ (listOfTm (.s 0 [x, y])).1.length := by rw [listOfTm_dot]; simp
     lia
    ·exact .term (h1 u hu).1 (h1 u hu).2 fun w => (list_wf _ _ (Nat.le_refl _) w).1 u hu
   ·cases h
  ·rename_i h0
   split at h
   ·rename_i h9
    subst h9
    split at h
    ·rename_i x
     rcases List.mem_cons.mp h with rfl | h
     ·exact part_arg h0 (.head _)
     ·rw [List.mem_singleton.mp h]; exact .raw (by decide +kernel) (by decide +kernel)
    ·cases h
   ·rename_i h9
    cases hs : shapeA e (nameOf e f) args with
    | none =>
     rw [hs] at h
     rcases funcI_mem h with rfl | rfl | rfl | ⟨u, hu, rfl⟩
     ·exact .raw (by decide +kernel) (by decide +kernel)
     ·exact .raw (by decide +kernel) (by decide +kernel)
     ·exact .raw (by decide +kernel) (by decide +kernel)
     ·exact part_arg h0 hu
    | some y =>
     rw [hs] at h
     rcases opI_mem h with rfl | ⟨fx, hfx, rfl⟩ | ⟨u, hu, l, rfl⟩
     ·exact .raw (by decide +kernel) (by decide +kernel)
     ·exact .op rfl h0 h9 hfx
     ·exact part_arg h0 hu
theorem Part.rank {e : Ev} {t : Tm} {i : It} (h : Part e t i) : Mine.rank i < tsz t := by
 cases h with
 | raw _ _ => exact tsz_pos t
 | op _ _ _ _ => exact tsz_pos t
 | term h _ _ => exact h
noncomputable def opEff (e : Ev) (fx : Fx) (a : Int) (st : WS) : WS := match fx with
 | .inf => st.infixOp e a
 | .post => st.postfixOp e a
 | .pre => st
noncomputable def eff (e : Ev) (i : It) (st : WS) : WS := match i with
 | .raw y => st.raw y
 | .op fx a => opEff e fx a st
 | .term t most alone => (writeI e t most).attach.foldl (fun s j => eff e j.1 s) (st.write e t most alone)
termination_by Mine.rank i
decreasing_by exact (writeI_part j.1 j.2).rank
theorem eff_term (e : Ev) (t : Tm) (most : Int) (alone : Bool) (st : WS) : eff e (.term t most alone) st = (writeI e t most).foldl (fun s i => eff e i s) (st.write e t most alone) := by
 rw [eff]
 exact List.foldl_attach (f := fun s i => eff e i s)
theorem eff_raw (e : Ev) (y : Str) (st : WS) : eff e (.raw y) st = st.raw y := by rw [eff]
theorem eff_op (e : Ev) (fx : Fx) (a : Int) (st : WS) : eff e (.op fx a) st = opEff e fx a st := by rw [eff]
end
section
noncomputable def wt : It → Nat
 | .term t _ _ => 6 * tsz t
 | _ => 1
noncomputable def wts (is : List It) : Nat := (is.map wt).sum
theorem wts_nil : wts [] = 0 := rfl
theorem wts_cons (i : It) (is : List It) : wts (i :: is) = wt i + wts is := by simp [wts]
theorem wts_app (a b : List It) : wts (a ++ b) = wts a + wts b := by simp [wts]
theorem wt_pos (i : It) : 1 ≤ wt i := by cases i with
 | term t _ _ => have := tsz_pos t; simp only [wt]; lia
 | op _ _ => exact Nat.le_refl _
 | raw _ => exact Nat.le_refl _
theorem wts_len (is : List It) : is.length ≤ wts is := by
 induction is with
 | nil => simp
 | cons a r ih => rw [wts_cons, List.length_cons]; have := wt_pos a; lia
theorem sepI_wts (ts : List Tm) : ∀ o : List It, wts o ≤ 1 → wts (sepI o ts) ≤ 6 * tszs ts + ts.length := by
 induction ts with
 | nil => intro o _; simp [sepI, wts_nil]
 | cons a r ih =>
  intro o ho
  have := ih [.raw ","] (by decide)
  simp only [sepI, wts_app, wts_cons, tszs, List.length_cons, wt]
  lia
theorem closeI_wts (m p : Int) : wts (closeI m p) ≤ 1 := by unfold closeI; split <;> decide
theorem opI_wts {e : Ev} {a : Int} {fx : Fx} {p : Int} {k : Kd} {most : Int} {args : List Tm} : wts (opI e a fx p k most args) ≤ 6 * tszs args + 2 := by
 have := closeI_wts most p
 unfold opI
 split
 ·simp only [wts_app, wts_cons, wts_nil, wt, tszs]; lia
 ·simp only [wts_app, wts_cons, wts_nil, wt, tszs]; lia
 ·simp only [wts_app, wts_cons, wts_nil, wt, tszs]; lia
 ·simp [wts_nil]
theorem writeI_wts {e : Ev} {t : Tm} (wf : WfT e t) (most : Int) : wts (writeI e t most) + 1 ≤ 6 * tsz t := by
 cases t with
 | v k => simp [writeI, wts_nil, tsz]
 | i k => simp [writeI, wts_nil, tsz]
 | a k => simp [writeI, wts_nil, tsz]
 | s f args =>
  simp only [writeI]
  split
  ·split
   ·rename_i x y
    obtain ⟨h1, h2, h3⟩ := list_props _ (.s f [x, y]) (Nat.le_refl _)
    subst f
    have h4 := sepI_wts (listOfTm (.s 0 [x, y])).1 [] (by decide)
    have h5 : 1 ≤ (listOfTm (.s 0 [x, y])).1.length := by rw [listOfTm_dot]; simp
    simp only [listI, wts_app]
    have h6 : wts [It.raw "]"] = 1 := rfl
    split
    ·rw [wts_nil, h6]; lia
    ·simp only [wts_cons, wts_nil, wt]; lia
   ·simp only [wts_nil, tsz]; lia
  ·split
   ·split
    ·simp only [wts_cons, wts_nil, wt, tsz, tszs]; lia
    ·simp only [wts_nil, tsz]; lia
   ·rename_i h0 h9
    cases wf with
    | dot => exact absurd rfl h0
    | curly => exact absurd rfl h9
    | s _ _ _ _ _ _ _ hlen _ =>
     cases shapeA e (nameOf e f) args with
     | none =>
      simp only [opsI, funcI, wts_app]
      have h4 := sepI_wts args [.raw "("] (by decide)
      have h6 : wts [It.raw ")"] = 1 := rfl
      simp only [tsz]; lia
     | some y =>
      obtain ⟨fx, p, k⟩ := y
      have := opI_wts (e := e) (a := nameOf e f) (fx := fx) (p := p) (k := k) (most := most) (args := args)
      simp only [opsI, tsz]; lia
structure TmOk (e : Ev) (t : Tm) : Prop where
 wf : WfT e t
 hgt : hgt t ≤ 30
 sz : tsz t ≤ 80
noncomputable def ItemOk (e : Ev) : It → Prop
 | .term t _ _ => TmOk e t
 | .op fx a => GoodA e a ∧ fx ≠ .pre
 | .raw y => y ≠ "" ∧ y.length ≤ 10
theorem Part.ok {e : Ev} {t : Tm} {i : It} (h : Part e t i) (ok : TmOk e t) : ItemOk e i := by
 cases h with
 | raw h1 h2 => exact ⟨h1, h2⟩
 | op ht h0 h9 hf =>
  subst ht
  cases ok.wf with
  | dot => exact absurd rfl h0
  | curly => exact absurd rfl h9
  | s _ _ _ _ hg ga _ _ _ => exact ⟨by rw [nameOf_eq hg]; exact ga, hf⟩
 | term h1 h2 h3 => exact ⟨h3 ok.wf, Nat.le_trans h2 ok.hgt, by have := ok.sz; lia⟩
noncomputable def ow (l : List Str) : Nat := (l.map (·.length)).sum + l.length
theorem ow_app (a b : List Str) : ow (a ++ b) = ow a + ow b := by simp [ow]; lia
theorem ow_one (y : Str) : ow [y] = y.length + 1 := by simp [ow]
theorem ow_len (l : List Str) : l.length ≤ ow l := by simp [ow]
theorem ow_raw (st : WS) (y : Str) : ow (st.raw y).out = ow st.out + (y.length + 1) := by simp only [WS.raw, ow_app, ow_one]
theorem ow_token (st : WS) (y : Str) : ow (st.token y).out ≤ ow st.out + (y.length + 3) := by
 simp only [WS.token, ow_app, ow_one]
 have : ow (if needs st.last st.pre (firstc y) = true then [Str.ofString " "] else []) ≤ 2 := by split <;> decide
 lia
theorem one_lit : (Str.ofString "(").length = 1 ∧ (Str.ofString ")").length = 1 ∧ (Str.ofString " ").length = 1 ∧ (Str.ofString "[").length = 1 ∧ (Str.ofString "{").length = 1 ∧ (Str.ofString ",").length = 1 ∧ (Str.ofString "|").length = 1 := by decide
theorem GoodA.len {e : Ev} {a : Int} (g : GoodA e a) : (atomOf e a).length ≤ 102 := by
 obtain ⟨_, _, x, hx, h1, h2⟩ := g
 have h := atomText_fit h1 h2 e.q
 have e1 : atomOf e a = atomText x e.q := by unfold atomOf; rw [List.getD_eq_getElem?_getD, hx]; rfl
 rw [e1]; exact h.2
theorem numText_len {c : Int} (h1 : -1000 ≤ c) (h2 : c ≤ 1000) : (numText c).length ≤ 12 := by
 have hd : ∀ d : Int, d.natAbs < 10 ^ 10 → (Str.ofString (toString d)).length ≤ 11 := fun d h => by rw [PySem.ofString_length]; exact int_text_length_le10 (by decide) h
 have e1 : (Str.ofString "-").length = 1 := by decide
 have h3 := hd (if c < 0 then -c else c) (by split <;> lia)
 unfold numText
 generalize Str.ofString (toString (if c < 0 then -c else c)) = y at h3 ⊢
 split
 ·rw [join_cat, cat_len]; simp only [List.map_cons, List.map_nil, List.sum_cons, List.sum_nil, e1]; lia
 ·rw [join_cat, cat_len]; simp only [List.map_cons, List.map_nil, List.sum_cons, List.sum_nil]; lia
theorem varText_len {k : Int} (h1 : 0 ≤ k) (h2 : k ≤ 1000) : (varText k).length ≤ 12 := by
 have hd : (Str.ofString (toString k)).length ≤ 11 := by rw [PySem.ofString_length]; exact int_text_length_le10 (by decide) (by lia)
 have e1 : (Str.ofString "_").length = 1 := by decide
 unfold varText; rw [Str.length_append, e1]; lia
theorem ow_write {e : Ev} {t : Tm} (wf : WfT e t) (st : WS) (most : Int) (alone : Bool) : ow (st.write e t most alone).out ≤ ow st.out + 120 := by
 obtain ⟨l1, l2, l3, l4, l5, l6, l7⟩ := one_lit
 have tok := fun (s : WS) (y : Str) => ow_token s y
 cases wf with
 | v h0 h1 => have := varText_len h0 h1; have := tok st; simp only [WS.write]; rename_i k _; have := this (varText k); lia
 | i h0 h1 => have := numText_len h0 h1; have := tok st; simp only [WS.write]; rename_i k _; have := this (numText k); lia
 | a g =>
  rename_i k
  have hl := g.len
  simp only [WS.write, WS.atom]
  split
  ·have := tok st "("
   rw [ow_raw, ow_raw]; lia
  ·have := tok st (atomOf e k); lia
 | dot => have := tok st "["; simp only [WS.write, if_true]; lia
 | curly => have := tok st "{"; simp only [WS.write, if_true]; rw [if_neg (by decide)]; lia
 | s hf0 hf9 _ _ hg ga _ _ _ =>
  rename_i f a args _ _ _ _ _
  have hl := ga.len
  simp only [WS.write]
  rw [if_neg hf0, if_neg hf9, nameOf_eq hg]
  have hop : ∀ p, ow (st.openP most p).out ≤ ow st.out + 4 := by
   intro p
   unfold WS.openP
   split
   ·have := tok st "("; lia
   ·lia
  cases shapeA e a args with
  | none => simp only [WS.opS]; have := tok st (atomOf e a); lia
  | some y =>
   obtain ⟨fx, p, k⟩ := y
   have h1 := hop p
   cases fx with
   | pre =>
    simp only [WS.opS, WS.prefixOp]
    have := tok (st.openP most p) (atomOf e a)
    split
    ·show ow ((st.openP most p).token (atomOf e a)).out ≤ _; lia
    ·rw [ow_raw]; lia
   | inf => simp only [WS.opS]; lia
   | post => simp only [WS.opS]; lia
theorem ow_op {e : Ev} {a : Int} (g : GoodA e a) (fx : Fx) (st : WS) : ow (opEff e fx a st).out ≤ ow st.out + 120 := by
 obtain ⟨l1, l2, l3, l4, l5, l6, l7⟩ := one_lit
 have hl := g.len
 have tok := fun (s : WS) (y : Str) => ow_token s y
 cases fx with
 | pre => simp only [opEff]; lia
 | inf =>
  simp only [opEff, WS.infixOp]
  split
  ·rw [ow_raw]; lia
  split
  ·rw [ow_raw]; lia
  split
  ·have := tok st (atomOf e a); lia
  ·rw [ow_raw, ow_raw, ow_raw]; lia
 | post =>
  simp only [opEff, WS.postfixOp]
  split
  ·have := tok st (atomOf e a); lia
  ·rw [ow_raw, ow_raw]; lia
end
section
theorem kl_last_snoc (p : List Value) (y : Value) : kl_last (p ++ [y]) = some (p, y) := by
 cases h : kl_last (p ++ [y]) with
 | none => have := kl_last_none h; simp at this
 | some q =>
  obtain ⟨p', y'⟩ := q
  have h2 := kl_last_spec h
  have h3 := List.append_inj' h2 rfl
  obtain ⟨h4, h5⟩ := h3
  cases h5
  rw [h4]
noncomputable def WS.core (st : WS) : WS := { st with work := [] }
theorem core_write (e : Ev) (st : WS) (t : Tm) (most : Int) (alone : Bool) : (st.write e t most alone).core = st.core.write e t most alone := by
 cases t with
 | v k => rfl
 | i k => rfl
 | a k => simp only [WS.write, WS.atom]; split <;> rfl
 | s f args =>
  simp only [WS.write]
  split
  ·rfl
  split
  ·rfl
  have hop : ∀ m p, (st.openP m p).core = st.core.openP m p := by intro m p; unfold WS.openP; split <;> rfl
  cases shapeA e (nameOf e f) args with
  | none => rfl
  | some y =>
   obtain ⟨fx, p, k⟩ := y
   cases fx with
   | pre =>
    simp only [WS.opS, WS.prefixOp]
    rw [← hop]
    split <;> rfl
   | inf => exact hop _ _
   | post => exact hop _ _
theorem core_op (e : Ev) (fx : Fx) (a : Int) (st : WS) : (opEff e fx a st).core = opEff e fx a st.core := by
 cases fx with
 | pre => rfl
 | inf =>
  simp only [opEff, WS.infixOp]
  split; · rfl
  split; · rfl
  split <;> rfl
 | post => simp only [opEff, WS.postfixOp]; split <;> rfl
theorem op_work (e : Ev) (fx : Fx) (a : Int) (st : WS) : (opEff e fx a st).work = st.work := by
 cases fx with
 | pre => rfl
 | inf =>
  simp only [opEff, WS.infixOp]
  split; · rfl
  split; · rfl
  split <;> rfl
 | post => simp only [opEff, WS.postfixOp]; split <;> rfl
noncomputable def effs (e : Ev) (is : List It) (st : WS) : WS := is.foldl (fun s i => eff e i s) st
theorem effs_cons (e : Ev) (i : It) (is : List It) (st : WS) : effs e (i :: is) st = effs e is (eff e i st) := rfl
theorem effs_app (e : Ev) (a b : List It) (st : WS) : effs e (a ++ b) st = effs e b (effs e a st) := by simp [effs, List.foldl_append]
theorem rd_move {w : World} {c : Wc} {e : Ev} {rest : List (Addr × Obj)} (R : Rd w c e rest) (O W : Addr) : Rd w { c with O := O, W := W } e rest := ⟨R.hq, R.sym, R.ops, R.names, R.taken, R.nmod, R.tmod⟩
structure TxR (w : World) (c : Wc) (e : Ev) (fin : WS) (r0 : List (Addr × Obj)) (n : Nat) (led : List (Addr × Obj)) : Prop where
 ex : ∃ st b rest is, led = b ++ rest ∧ (∀ p ∈ r0, p ∈ rest) ∧ WrIn w c st b rest ∧ Rd w c e rest ∧ ItemsAt rest is st.work.reverse ∧ (∀ i ∈ is, ItemOk e i) ∧ effs e is st.core = fin ∧ n = wts is ∧ ow st.out + 120 * wts is ≤ 60000
theorem WrIn.work {w : World} {c : Wc} {st : WS} {b rest : List (Addr × Obj)} (S : WrIn w c st b rest) : ∃ n, (c.W, PySem.W.listOf st.work.toArray n) ∈ b ++ rest := by
 obtain ⟨tl, ys, n1, n2, rfl, hys⟩ := S.ex
 exact ⟨n2, .tail _ (.tail _ (.head _))⟩
theorem WrIn.outs {w : World} {c : Wc} {st : WS} {b rest : List (Addr × Obj)} (S : WrIn w c st b rest) : ∃ ys n, (c.O, PySem.W.listOf (strValues ys).toArray n) ∈ b ++ rest ∧ ys.map (·.1) = st.out := by
 obtain ⟨tl, ys, n1, n2, rfl, hys⟩ := S.ex
 exact ⟨ys, n1, .tail _ (.head _), hys⟩
section
variable {w : World} {rest b : List (Addr × Obj)} {c : Wc} {st : WS} {e : Ev}
theorem z_callIX (n : Nat) {N : List (Str × NameKind)} {dep : Nat} {G : ZG w N dep} {z : ZC} {f dd : Nat} {args : (Nat → Tok) → List Value} {R' : List (Addr × Obj)} {st' : WS} {wk : List Value} {is : List It} (D : ∀ t : Nat → Tok, Does w f dd (args t) (b ++ rest) (PIt w c e rest st' wk is)) (hd : dd ≤ dep) (hR : G.R = R') (hs : ∀ p ∈ R', p ∈ rest) (hl : (zgo N w.params n z).σ.led = b ++ rest) (hv : clOf (zgo N w.params n z) = some (f, args (tks (zgo N w.params n z))))
  (h : ∀ l, PIt w c e rest st' wk is .none l → ∀ tk sz, let c' := zres (zgo N w.params n z) .none (zgo N w.params n z).σ.own l tk sz; ZT G c') : ZT G z := by
 refine z_call n D hd hv hl ?_
 intro r l hp tk sz
 obtain ⟨rfl, hq⟩ := hp.sub
 exact ⟨fun p hp => hq p (hs p (hR ▸ hp)), h l hp tk sz⟩
theorem tx_turn {N : List (Str × NameKind)} {d : Nat} {G G₀ : ZG w N d} {z : ZC} {k : List ZF} {fin : WS} {r0 : List (Addr × Obj)} {n0 : Nat} (n : Nat) {is : List It} (hP : G.P = ZTurn G₀ k (fun ns own led => ∃ i', i' < n0 ∧ (ns = ([("self", .ref c.x)] : List (Str × Value)) ∧ own = [] ∧ TxR w c e fin r0 i' led))) (S : WrIn w c st b rest) (R : Rd w c e rest) (hs : ∀ p ∈ r0, p ∈ rest) (hI : ItemsAt rest is st.work.reverse) (hok : ∀ i ∈ is, ItemOk e i) (hf : effs e is st.core = fin) (hn : wts is < n0) (hb : ow st.out + 120 * wts is ≤ 60000)
  (hv : fOf (zgo N w.params n z) = some .next) (ha : (zgo N w.params n z).σ.m.lookup ("self" : Str) = some (.ref c.x)) (ho : (zgo N w.params n z).σ.own = []) (hl : (zgo N w.params n z).σ.led = b ++ rest) : ZT G z :=
 z_turn n hP [("self", .ref c.x)] hv (by rw [List.map_cons, List.map_nil, List.map_cons, List.map_nil]; exact congrArg (fun x => [x]) ha) ho hl ⟨_, hn, rfl, rfl, ⟨_, _, _, _, rfl, hs, S, R, hI, hok, hf, rfl, hb⟩⟩
theorem text_loop {Z : Value → List (Addr × Obj) → Prop} {G : ZG w (nmAt w 357) 10} {r0 : List (Addr × Obj)} {fin : WS} {is : List It} (hP : G.P = ZFin Z) (hR : G.R = r0) (hs : ∀ p ∈ r0, p ∈ rest) (S : WrIn w c st b rest) (R : Rd w c e rest) (T0 : TabOk e) (hI : ItemsAt rest is st.work.reverse) (hok : ∀ i ∈ is, ItemOk e i) (hf : effs e is st.core = fin) (hb : ow st.out + 120 * wts is ≤ 60000)
  (hZ : ∀ r l, ((∃ t', r = .str (cat fin.out) t') ∧ ∃ st' b' rest', l = b' ++ rest' ∧ (∀ p ∈ r0, p ∈ rest') ∧ WrIn w c st' b' rest') → Z r l) : ∀ m tk sz, ZT G ⟨⟨([("self", .ref c.x)] : List (Str × Value)) ++ m, [], b ++ rest, tk, sz⟩, [], .ss ((bdAt w 357).drop 4)⟩ := by
 intro m tk sz
 refine z_while 2 (R' := r0) (fun n ns own led => ns = ([("self", .ref c.x)] : List (Str × Value)) ∧ own = [] ∧ TxR w c e fin r0 n led) (wts is) (ns := [("self", .ref c.x)]) ∅ ∅ ∅ ∅ (fun p hp => hR ▸ hp) (fun p hp => List.mem_append_right _ (hs p hp)) ⟨rfl, rfl, ⟨_, _, _, _, rfl, hs, S, R, hI, hok, hf, rfl, hb⟩⟩ ?_
 clear S R hI hok hf hb hs
 rintro n _ m _ _ tk sz ⟨rfl, rfl, ⟨st, b, rest, is, rfl, hs, S, R, hI, hok, hf, rfl, hb⟩⟩ G' hR' hP' z
 have hoz := ow_len st.out
 have hwl := hI.len
 have hwz := wts_len is
 rw [List.length_reverse] at hwl
 obtain ⟨nw, hw⟩ := S.work
 (refine z_wat 99 S ∅ ∅ ?_; intro z)
 cases is with
 | nil =>
  have hw0 : st.work = [] := List.length_eq_zero_iff.mp hwl
  refine z_truL 99 false (zL ∅ hw) (by lia) (by rw [hw0]; rfl) ∅ ?_; intro z
  obtain ⟨ys, ny, hO, hys⟩ := S.outs
  refine z_out 99 hP' ∅ ?_; intro z
  refine z_strM 99 ∅ ?_; intro z
  (refine z_wat 99 S ∅ ∅ ?_; intro z)
  refine z_strjoin (x := "") 99 (zL ∅ hO) hys (joinOk_of_weight (by show ow st.out ≤ 1048576; lia) (by decide)) ∅ ?_; intro t' tk9 z
  exact z_end 99 (v := .str (Txt.join "" st.out) t') hP ∅ ∅ (hZ _ _ ⟨⟨t', by rw [join_cat, ← hf]; rfl⟩, st, b, rest, rfl, hs, S⟩)
 | cons i is =>
  generalize hrv : st.work.reverse = rv at hI
  cases hI with
  | cons hi hI =>
  rename_i v vs
  have hwork : st.work = vs.reverse ++ [v] := by rw [← List.reverse_reverse (as := st.work), hrv, List.reverse_cons]
  have he : kl_last st.work = some (vs.reverse, v) := by rw [hwork]; exact kl_last_snoc vs.reverse v
  have hvl := hI.len
  rw [wts_cons] at *
  have hokr : ∀ j ∈ is, ItemOk e j := fun j hj => hok j (.tail _ hj)
  have hoki := hok i (.head _)
  have hv9 : vs.length ≤ 9000 := by have := wts_len is; lia
  have hwk : st.work.length ≤ 16777216 := by lia
  refine z_truL 99 true (zL ∅ hw) hwk (by rw [hwork]; simp) ∅ ?_; intro z
  have hRw : ∀ p ∈ G'.R, p ∈ rest := fun p hp => hs p (hR' ▸ hp)
  refine z_wopenX 2 S hRw ∅ ∅ ∅ ?_; intro tl ys n1 n2 hys z
  refine z_attrO 99 0 (zL ∅ S.inst) ∅ ?_; intro z
  refine z_lm 99 2 PySem.F.slot_list_pop PySem.F.type_list_pop ∅ ?_; intro z
  refine z_cw0 99 ∅ ?_; intro z
  refine z_pop 99 2 he hwk ∅ ∅ ?_; intro sz z
  have S3 := S.put { st with work := vs.reverse } (tl := tl) (n1 := n1) (n2 := n2 + 1) hys
  (refine z_wbackX 1 S3 hRw ∅ ∅ ∅ ?_; intro z)
  cases hi with
  | @term d1 d2 t1 lim al ta tb hm htm =>
   have okt : TmOk e t1 := hoki
   obtain ⟨lp1, lp2, lp3⟩ := list_props _ t1 (Nat.le_refl _)
   have hsz1 := okt.sz
   have hh := okt.hgt
   have hx1 := writeI_wts (e := e) okt.wf lim
   have hx2 := ow_write okt.wf { st with work := vs.reverse } lim al
   refine z_unpack 99 (zL ∅ (List.mem_append_right (wrB w c (lastStr st.last) st.pre vs.reverse tl ys n1 (n2 + 1)) hm)) ∅ ?_; intro sz z
   refine z_wmt 99 S3 ∅ ∅ ?_; intro z
   refine z_callIX 99 (fun t => write_S (most := lim) (tm := t 2) (alone := al) S3 R T0 htm okt.wf (by lia) (by lia) (by show st.out.length ≤ 70000; lia) (by show vs.reverse.length ≤ 9000; rw [List.length_reverse]; exact hv9)) (by decide) hR' hs ∅ ∅ ?_; intro l5 h5 tk2 sz2 z
   obtain ⟨_, b', rest', us, rfl, hs', S', R9, I'⟩ := PIt.ex h5
   refine tx_turn 99 (is := writeI e t1 lim ++ is) hP' S' R9 (fun p hp => hs' p (hs p hp)) ?_ ?_ ?_ ?_ ?_ ∅ ∅ ∅ ∅
   ·simpa using I'.app (hI.mono hs')
   ·intro j hj
    rcases List.mem_append.mp hj with q | q
    ·exact (writeI_part j q).ok okt
    ·exact hokr j q
   ·rw [← hf, effs_cons, effs_app, eff_term]
    have e9 : WS.core { (WS.write e { st with work := vs.reverse } t1 lim al) with work := vs.reverse ++ us.reverse } = st.core.write e t1 lim al := core_write e { st with work := vs.reverse } t1 lim al
    exact congrArg (effs e is) (congrArg (effs e (writeI e t1 lim)) e9)
   ·simp only [wts_app, wt]; lia
   ·show ow (WS.write e { st with work := vs.reverse } t1 lim al).out + _ ≤ _
    have hx3 : ow ({ st with work := vs.reverse } : WS).out = ow st.out := rfl
    simp only [wts_app, wt] at *; lia
  | @op d2 fx a ta tb tc hm =>
   obtain ⟨ga, hfx⟩ := hoki
   have hx2 := ow_op ga fx { st with work := vs.reverse }
   have hz9 : ({ st with work := vs.reverse } : WS).out.length ≤ 80000 := by show st.out.length ≤ 80000; lia
   cases fx with
   | pre => exact absurd rfl hfx
   | inf =>
    refine z_unpack 99 (zL ∅ (List.mem_append_right (wrB w c (lastStr st.last) st.pre vs.reverse tl ys n1 (n2 + 1)) hm)) ∅ ?_; intro sz z
    refine z_wmt 99 S3 ∅ ∅ ?_; intro z
    refine z_callWX 99 (fun t => infix_operator_S S3 R ga (ta := t 1) hz9) (by decide) hR' hs ∅ ∅ ?_; intro b' S' tk2 sz2 z
    have hw9 : (WS.infixOp e { st with work := vs.reverse } a).work = vs.reverse := op_work e .inf a { st with work := vs.reverse }
    refine tx_turn 99 (is := is) hP' S' R hs (by rw [hw9, List.reverse_reverse]; exact hI) hokr ?_ (by simp only [wt]; lia) ?_ ∅ ∅ ∅ ∅
    ·rw [← hf, effs_cons, eff_op]
     exact congrArg (effs e is) (core_op e .inf a { st with work := vs.reverse })
    ·have hx3 : ow ({ st with work := vs.reverse } : WS).out = ow st.out := rfl
     simp only [opEff, wt] at *; lia
   | post =>
    refine z_unpack 99 (zL ∅ (List.mem_append_right (wrB w c (lastStr st.last) st.pre vs.reverse tl ys n1 (n2 + 1)) hm)) ∅ ?_; intro sz z
    refine z_wmt 99 S3 ∅ ∅ ?_; intro z
    refine z_callWX 99 (fun t => postfix_operator_S S3 R ga (ta := t 1) hz9) (by decide) hR' hs ∅ ∅ ?_; intro b' S' tk2 sz2 z
    have hw9 : (WS.postfixOp e { st with work := vs.reverse } a).work = vs.reverse := op_work e .post a { st with work := vs.reverse }
    refine tx_turn 99 (is := is) hP' S' R hs (by rw [hw9, List.reverse_reverse]; exact hI) hokr ?_ (by simp only [wt]; lia) ?_ ∅ ∅ ∅ ∅
    ·rw [← hf, effs_cons, eff_op]
     exact congrArg (effs e is) (core_op e .post a { st with work := vs.reverse })
    ·have hx3 : ow ({ st with work := vs.reverse } : WS).out = ow st.out := rfl
     simp only [opEff, wt] at *; lia
  | @raw d2 y ta tb tc hm =>
   obtain ⟨hy1, hy2⟩ := hoki
   refine z_unpack 99 (zL ∅ (List.mem_append_right (wrB w c (lastStr st.last) st.pre vs.reverse tl ys n1 (n2 + 1)) hm)) ∅ ?_; intro sz z
   refine z_wmt 99 S3 ∅ ∅ ?_; intro z
   refine z_callWX 99 (fun t => raw_S S3 (ty := t 1) hy1 (by lia) (by show st.out.length ≤ 100000; lia)) (by decide) hR' hs ∅ ∅ ?_; intro b' S' tk2 sz2 z
   refine tx_turn 99 (is := is) hP' S' R hs (by show ItemsAt rest is vs.reverse.reverse; rw [List.reverse_reverse]; exact hI) hokr ?_ (by simp only [wt]; lia) ?_ ∅ ∅ ∅ ∅
   ·rw [← hf, effs_cons, eff_raw]; rfl
   ·have hx3 : ow ({ st with work := vs.reverse } : WS).out = ow st.out := rfl
    rw [ow_raw]
    simp only [wt] at *; lia
noncomputable def lastTk (own : List (Addr × Obj)) : Tok := onCons own 0 fun p _ => match p.2.data with
 | .dict es _ => es.foldl (fun (a : Tok) e => match e.val with | .str _ t => t | _ => a) 0
 | _ => 0
theorem z_wnew {N : List (Str × NameKind)} {d : Nat} {G : ZG w N d} {z : ZC} (n : Nat) (S : WrIn w c st b rest) (hR : G.R = rest) (A D B : Addr) (tl : Tok) {x1 x2 o : Obj} (hv : zpc (zgo N w.params n z) = true) (ha : zall (zgo N w.params n z) = true)
  (ho : (zgo N w.params n z).σ.own = [(c.dx, dictOf (wrEs w.params { c with O := A, W := B } (lastStr none) tl false) 11), (c.O, x1), (c.W, x2), (A, PySem.W.listOf (strValues []).toArray 0), (D, o), (B, PySem.W.listOf [Value.ref D].toArray 0)]) (hl : (zgo N w.params n z).σ.led = rest)
  (h : ∀ b', WrIn w { c with O := A, W := B } ⟨[], none, false, [.ref D]⟩ b' ((D, o) :: rest) → let c' := zside [] (b' ++ ((D, o) :: rest)) (zgo N w.params n z); ZT G c') : ZT G z := by
 refine z_own n hv hl ?_
 intro own hnd hoff _ z'
 have e : own = _ := ho
 have hnd2 : ((([(c.dx, dictOf (wrEs w.params { c with O := A, W := B } (lastStr none) tl false) 11), (c.O, x1), (c.W, x2), (A, PySem.W.listOf (strValues []).toArray 0), (D, o), (B, PySem.W.listOf [Value.ref D].toArray 0)] : List (Addr × Obj)).map (·.1))).Nodup := by rw [← ho]; exact hnd
 have off : ∀ p ∈ own, p.1 ≠ D → ∀ q ∈ (D, o) :: rest, q.1 ≠ p.1 := fun p hp hd q hq => by
  rcases List.mem_cons.mp hq with rfl | hq
  ·exact Ne.symm hd
  ·exact (hoff p hp q hq).symm
 rw [e] at off
 simp only [List.map_cons, List.map_nil, List.nodup_cons, List.mem_cons, not_or] at hnd2
 have W : WrIn w { c with O := A, W := B } ⟨[], none, false, [.ref D]⟩ _ ((D, o) :: rest) := ⟨⟨tl, [], 0, 0, rfl, rfl⟩, .tail _ S.inst, off _ (.head _) hnd2.1.2.2.2.1, off (A, _) (.tail _ (.tail _ (.tail _ (.head _)))) hnd2.2.2.2.1.1, off (B, _) (.tail _ (.tail _ (.tail _ (.tail _ (.tail _ (.head _)))))) (fun h => hnd2.2.2.2.2.1.1 h.symm), hnd2.1.2.2.1, hnd2.1.2.2.2.2.1, hnd2.2.2.2.1.2.1⟩
 refine z_side 0 (own' := []) (led' := _ ++ ((D, o) :: rest)) ha ho hl ?_ (fun _ _ => ⟨List.nodup_nil, fun _ h => nomatch h⟩) (fun p hp => List.mem_append_right _ (.tail _ (hR ▸ hp))) (h _ W)
 intro p hp
 simp only [List.nil_append, List.cons_append, List.mem_cons] at hp ⊢
 rcases hp with h | h | h | h | h
 ·exact .inl h
 ·exact .inr (.inr (.inr (.inl h)))
 ·exact .inr (.inr (.inr (.inr (.inr (.inl h)))))
 ·exact .inr (.inr (.inr (.inr (.inl h))))
 ·exact .inr (.inr (.inr (.inr (.inr (.inr h)))))
theorem text_any (S : WrIn w c st b rest) (R : Rd w c e rest) (T0 : TabOk e) {t : Tm} {d : Addr} (ht : TermAt rest t d) (ok : TmOk e t) {most : Int} {tm : Tok} {args : List Value} (hargs : args = [.ref c.x, .ref d, .int most tm] ∨ (args = [.ref c.x, .ref d] ∧ most = 1201 ∧ tm = 561)) :
  Does w 357 11 args (b ++ rest) (fun r l => (∃ t', r = .str (cat (eff e (.term t most (decide (1201 ≤ most))) ⟨[], none, false, []⟩).out) t') ∧ ∃ O W st' b' rest', l = b' ++ rest' ∧ (∀ p ∈ rest, p ∈ rest') ∧ WrIn w { c with O := O, W := W } st' b' rest') := by
 refine z_enter (own₀ := []) (led₀ := b ++ rest) (R := rest) [("self", .ref c.x), ("term", .ref d), ("most", .int most tm)] ∅ ∅ ?_ (fun p hp => hp) List.nodup_nil (fun _ hp => nomatch hp) (fun p hp => List.mem_append_right _ hp) ?_
 ·rintro s hs
  rcases hargs with rfl | ⟨rfl, rfl, rfl⟩
  ·exact binds_D hs 350 (o := ⟨.type "tuple", none, .seq #[.int 1201 561] 0, #[]⟩) (n := 0) #[.int 1201 561] ∅ ∅ rfl ∅
  ·exact binds_D hs 350 (o := ⟨.type "tuple", none, .seq #[.int 1201 561] 0, #[]⟩) (n := 0) #[.int 1201 561] ∅ ∅ rfl ∅
 intro Z hZ G tk sA hP hR
 refine z_wopen 0 S hR ∅ ∅ ∅ ?_; intro tl ys n1 n2 hys z
 refine z_setO 99 0 (zR hR S.inst) ∅ ?_; intro s1 z
 refine z_setO 99 0 (zR hR S.inst) ∅ ?_; intro s2 z
 refine z_setO 99 0 (zR hR S.inst) ∅ ?_; intro sD z
 refine z_setO 99 0 (zR hR S.inst) ∅ ?_; intro s4 z
 refine z_wnew 1 S hR sA sD (sD + 1) (lastTk (zgo (nmAt w 357) w.params 1 z).σ.own) (x1 := PySem.W.listOf (strValues ys).toArray n1) (x2 := PySem.W.listOf st.work.toArray n2) (o := tupO [.str "term" (tk + 7), .ref d, .int most tm, .bool (decide (1201 ≤ most))]) ∅ ∅ ∅ ∅ ?_; intro b2 S2 z
 have hsz := ok.sz
 exact z_joinN 0 [("self", .ref c.x)] (text_loop (c := { c with O := sA, W := sD + 1 }) (is := [.term t most (decide (1201 ≤ most))]) hP hR (fun p hp => .tail _ hp) S2 (rd_move R sA (sD + 1)).push T0 (.cons (.term (.head _) (ht.mono fun p hp => .tail _ hp)) .nil) (List.forall_mem_cons.mpr ⟨ok, by simp⟩) rfl (by show ow [] + 120 * wts [.term t most (decide (1201 ≤ most))] ≤ 60000; have : ow [] = 0 := rfl; simp only [wts_cons, wts_nil, wt]; lia) (fun r l q => hZ r l (by obtain ⟨q1, q2, q3, q4, q5, q6, q7⟩ := q; exact ⟨q1, sA, sD + 1, q2, q3, q4, q5, q6, q7⟩))) ∅ ∅ ∅ ∅ ∅
end
end
section
set_option tactic.hygienic false
theorem wrIn_new {w : World} {x dx nA pA d1 d2 lO lW : Addr} {q : Bool} {o1 o2 : Obj} {kt : Nat → Tok} {tl : Tok} {n1 n2 : Nat} (nd : [dx, d1, d2, lO, lW].Nodup) (hx : ∀ y ∈ [dx, d1, d2, lO, lW], y ≠ x) :
  WrIn w ⟨x, dx, lO, lW, nA, pA, d1, d2, q, kt⟩ ⟨[], none, false, []⟩ [(dx, dictOf (wrEs w.params ⟨x, dx, lO, lW, nA, pA, d1, d2, q, kt⟩ (lastStr none) tl false) 11), (lO, PySem.W.listOf (strValues []).toArray n2), (lW, PySem.W.listOf ([] : List Value).toArray n1)] [(d2, o2), (d1, o1), (x, instObj 472 dx)] := by
 simp only [List.nodup_cons, List.mem_cons, not_or] at nd
 have hx' := fun y h => (hx y h).symm
 refine ⟨⟨tl, [], n2, n1, rfl, rfl⟩, .tail _ (.tail _ (.head _)), ?_, ?_, ?_, nd.1.2.2.1, nd.1.2.2.2.1, nd.2.2.2.1.1⟩
 ·exact List.forall_mem_cons.mpr ⟨fun e => nd.1.2.1 e.symm, List.forall_mem_cons.mpr ⟨fun e => nd.1.1 e.symm, List.forall_mem_cons.mpr ⟨hx' _ (.head _), fun _ h => nomatch h⟩⟩⟩
 ·exact List.forall_mem_cons.mpr ⟨nd.2.2.1.1, List.forall_mem_cons.mpr ⟨nd.2.1.2.1, List.forall_mem_cons.mpr ⟨hx' _ (.tail _ (.tail _ (.tail _ (.head _)))), fun _ h => nomatch h⟩⟩⟩
 ·exact List.forall_mem_cons.mpr ⟨nd.2.2.1.2.1, List.forall_mem_cons.mpr ⟨nd.2.1.2.2.1, List.forall_mem_cons.mpr ⟨hx' _ (.tail _ (.tail _ (.tail _ (.tail _ (.head _))))), fun _ h => nomatch h⟩⟩⟩
section
variable {w : World}
theorem writer_init {x dx nA pA : Addr} {q : Bool} {pos : List Value} (hpos : pos = [.ref nA, .ref pA, .bool q] ∨ pos = [.ref nA, .ref pA, .bool q, .bool false, .bool false, .none]) (hx : dx < x) : Does w 349 2 (.ref x :: pos) [(x, instObj 472 dx), (dx, dictOf [] 0)] (fun r l => r = .none ∧ ∃ c st b rest, (c.x = x ∧ c.nA = nA ∧ c.pA = pA ∧ c.q = q) ∧ l = b ++ rest ∧ WrIn w c st b rest ∧
  (∃ oN, (c.nm, oN) ∈ rest ∧ oN.IsDictOf (intKind pw w) []) ∧ (∃ oT, (c.tn, oT) ∈ rest ∧ oT.IsDictOf (PySem.strKind pw w) []) ∧ (c.nm == sysModules) = false ∧ (c.tn == sysModules) = false) := by
 have hb : ∀ s : Shared, (K w.params).In s.heap → BindsTo s (fnAt w 349) ⟨.ref x :: pos, []⟩ [("self", .ref x), ("symbols", .ref nA), ("operators", .ref pA), ("quoted", .bool q), ("ignore_ops", .bool false), ("numbervars", .bool false), ("names", .none)] := by
  intro s hs
  rcases hpos with rfl | rfl
  ·exact binds_D hs (dfA w 349) (o := obAt w.params (dfA w 349)) (n := 0) (dfI w 349) ∅ ∅ ∅ ∅
  ·exact binds_D hs (dfA w 349) (o := obAt w.params (dfA w 349)) (n := 0) (dfI w 349) ∅ ∅ ∅ ∅
 refine z_enter (own₀ := [(dx, dictOf [] 0)]) (led₀ := [(x, instObj 472 dx)]) (R := [(x, instObj 472 dx)]) [("self", .ref x), ("symbols", .ref nA), ("operators", .ref pA), ("quoted", .bool q), ("ignore_ops", .bool false), ("numbervars", .bool false), ("names", .none)] ∅ ∅ hb (fun p hp => by
  rcases List.mem_cons.mp hp with h | h
  ·rw [h]; exact .tail _ (.head _)
  ·rw [List.mem_singleton.mp h]; exact .head _) (by simp) (fun p hp q hq => by rw [List.mem_singleton.mp hp, List.mem_singleton.mp hq]; exact Nat.ne_of_lt hx) (fun _ h => h) ?_
 intro Z hZ G tk sz hP hR
 have hi : (x, instObj 472 dx) ∈ [(x, instObj 472 dx)] := .head _
 refine z_setO 99 0 (zR hR hi) ∅ ?_; intro s1 z
 refine z_setO 99 0 (zR hR hi) ∅ ?_; intro s2 z
 refine z_setO 99 0 (zR hR hi) ∅ ?_; intro s3 z
 refine z_setO 99 0 (zR hR hi) ∅ ?_; intro s4 z
 refine z_setO 99 0 (zR hR hi) ∅ ?_; intro s5 z
 refine z_newD 99 ∅ ?_; intro d1 o1 sd1 lo1 _ hi1 z
 refine z_setO 99 0 (zR hR hi) ∅ ?_; intro s6 z
 refine z_newD 99 ∅ ?_; intro d2 o2 sd2 lo2 hs2 _ z
 refine z_setO 99 0 (zR hR hi) ∅ ?_; intro s7 z
 refine z_setO 99 0 (zR hR hi) ∅ ?_; intro s8 z
 refine z_setO 99 0 (zR hR hi) ∅ ?_; intro s9 z
 refine z_setO 99 0 (zR hR hi) ∅ ?_; intro s10 z
 refine z_setO 99 0 (zR hR hi) ∅ ?_; intro s11 z
 refine z_own 1 (l := [(x, instObj 472 dx)]) ∅ ∅ ?_; intro own hnd hoff hlt z
 have e0 : own = [(dx, dictOf (wrEs w.params ⟨x, dx, s7, s10, nA, pA, d1, d2, q, ktOf own⟩ (lastStr none) (lastTk own) false) 11), (d1, o1), (d2, o2), (s7, PySem.W.listOf #[] 0), (s10, PySem.W.listOf #[] 0)] := by kernel_rfl
 have nd : [dx, d1, d2, s7, s10].Nodup := by rw [e0] at hnd; exact hnd
 have hx' : ∀ y ∈ [dx, d1, d2, s7, s10], y ≠ x := fun y hy => by
  obtain ⟨p, hp, e⟩ : ∃ p ∈ own, p.1 = y := by rw [e0]; exact List.mem_map.mp hy
  exact e ▸ hoff p hp _ (.head _)
 exact z_end2 99 (v := .none) (own := own) (led := [(x, instObj 472 dx)]) (l := [(dx, dictOf (wrEs w.params ⟨x, dx, s7, s10, nA, pA, d1, d2, q, ktOf own⟩ (lastStr none) (lastTk own) false) 11), (s7, PySem.W.listOf (strValues []).toArray 0), (s10, PySem.W.listOf ([] : List Value).toArray 0)] ++ [(d2, o2), (d1, o1), (x, instObj 472 dx)]) hP ∅ ∅ ∅ (fun p hp => by
  rw [e0]
  simp only [List.cons_append, List.nil_append, List.mem_cons, List.not_mem_nil, or_false] at hp ⊢
  rcases hp with h | h | h | h | h | h
  ·exact .inl h
  ·exact .inr (.inr (.inr (.inl h)))
  ·exact .inr (.inr (.inr (.inr (.inl h))))
  ·exact .inr (.inr (.inl h))
  ·exact .inr (.inl h)
  ·exact .inr (.inr (.inr (.inr (.inr h))))) (hZ _ _ ⟨rfl, ⟨x, dx, s7, s10, nA, pA, d1, d2, q, ktOf own⟩, _, _, _, ⟨rfl, rfl, rfl, rfl⟩, rfl, wrIn_new nd hx', ⟨o1, .tail _ (.head _), hi1⟩, ⟨o2, .head _, hs2⟩, lo1, lo2⟩)
end
theorem writer_make {w : World} {nA pA : Addr} {q : Bool} {pos : List Value} (hpos : pos = [.ref nA, .ref pA, .bool q] ∨ pos = [.ref nA, .ref pA, .bool q, .bool false, .bool false, .none]) : Does w 472 3 pos [] (fun r l => ∃ x, r = .ref x ∧ ∃ c st b rest, (c.x = x ∧ c.nA = nA ∧ c.pA = pA ∧ c.q = q) ∧ l = b ++ rest ∧ WrIn w c st b rest ∧
  (∃ oN, (c.nm, oN) ∈ rest ∧ oN.IsDictOf (intKind pw w) []) ∧ (∃ oT, (c.tn, oT) ∈ rest ∧ oT.IsDictOf (PySem.strKind pw w) []) ∧ (c.nm == sysModules) = false ∧ (c.tn == sysModules) = false) :=
 Does.make ∅ ∅ ∅ (fun _ _ _ h => writer_init hpos h)
end
section
set_option tactic.hygienic false
structure Rb (w : World) (nA pA : Addr) (e : Ev) (rest : List (Addr × Obj)) : Prop where
 sym : ∃ nD kt n ts n1 tA aD fA fD fvs n2, (nA, instObj 122 nD) ∈ rest ∧ (nD, dictOf (symEs w.params kt tA aD fA fD) n) ∈ rest ∧ (tA, PySem.W.listOf (strValues ts).toArray n1) ∈ rest ∧ ts.map (·.1) = e.texts ∧ (fA, PySem.W.listOf fvs.toArray n2) ∈ rest ∧ KeysIn rest fvs e.funs
 ops : ∃ (pD nA' : Addr) (d : Fx → Addr) (kt : Nat → Tok) (n : Nat) (o : Fx → Obj) (kvs : Fx → List (Int × Value)), (pA, instObj 287 pD) ∈ rest ∧ (pD, dictOf (opEs w.params kt nA' d) n) ∈ rest ∧ (∀ x, (d x, o x) ∈ rest) ∧ (∀ x, (o x).IsDictOf (intKind pw w) (kvs x)) ∧ (∀ x, TabIs rest (kvs x) (e.f x)) ∧ ∀ x, (d x == sysModules) = false
theorem Rb.mono {w : World} {nA pA : Addr} {e : Ev} {rest rest' : List (Addr × Obj)} (R : Rb w nA pA e rest) (k : ∀ p ∈ rest, p ∈ rest') : Rb w nA pA e rest' := by
 obtain ⟨⟨nD, kt, n, ts, n1, tA, aD, fA, fD, fvs, n2, a1, a2, a3, a4, a5, a6⟩, ⟨pD, nA', d, kt', n', o, kvs, b1, b2, b3, b4, b5, b6⟩⟩ := R
 exact ⟨⟨nD, kt, n, ts, n1, tA, aD, fA, fD, fvs, n2, k _ a1, k _ a2, k _ a3, a4, k _ a5, a6.mono k⟩, ⟨pD, nA', d, kt', n', o, kvs, k _ b1, k _ b2, fun x => k _ (b3 x), b4, fun x => (b5 x).mono k, b6⟩⟩
theorem writer_R {w : World} {nA pA : Addr} {e : Ev} {rest : List (Addr × Obj)} (B : Rb w nA pA e rest) {pos : List Value} (hpos : pos = [.ref nA, .ref pA, .bool e.q] ∨ pos = [.ref nA, .ref pA, .bool e.q, .bool false, .bool false, .none]) :
  Does w 472 3 pos rest (fun r l => ∃ c st b rest' tl, r = .ref c.x ∧ l = b ++ rest' ∧ (∀ p ∈ rest, p ∈ rest') ∧ (c.x, instObj 472 c.dx) ∈ rest' ∧ (c.dx, dictOf (wrEs w.params c (lastStr st.last) tl st.pre) 11) ∈ b ++ rest' ∧ WrIn w c st b rest' ∧ Rd w c e rest') := by
 refine Does.weak (Does.frame (led := []) (own := rest) (by intro p hp; cases hp) (writer_make (w := w) hpos)) ?_
 rintro r l ⟨l', rfl, hd, x, rfl, c, st, b, restW, ⟨rfl, rfl, rfl, hq⟩, rfl, S, ⟨oN, n1, n2⟩, ⟨oT, t1, t2⟩, u1, u2⟩
 have S' := S.mono (rest' := restW ++ rest) (fun p hp => List.mem_append_left _ hp) (fun p hp q hq => by
  rcases List.mem_append.mp hp with h | h
  ·exact S.off p h q hq
  ·exact (hd q (List.mem_append_left _ hq) p h).symm)
 obtain ⟨tl, m⟩ := S'.mem
 have B' := B.mono (rest' := restW ++ rest) fun p hp => List.mem_append_right _ hp
 exact ⟨_, ⟨c, st, b, restW ++ rest, tl, rfl, rfl, fun p hp => List.mem_append_right _ hp, S'.inst, m, S', ⟨hq, B'.sym, B'.ops, ⟨oN, List.mem_append_left _ n1, n2⟩, ⟨oT, List.mem_append_left _ t1, t2⟩, u1, u2⟩⟩, fun p hp => by rw [List.append_assoc]; exact hp⟩
noncomputable def textOf (e : Ev) (t : Tm) (most : Int) : Str := cat (eff e (.term t most (decide (1201 ≤ most))) ⟨[], none, false, []⟩).out
inductive PNw (w : World) (e : Ev) (rest : List (Addr × Obj)) : Value → List (Addr × Obj) → Prop
 | mk {c : Wc} {st : WS} {b rest' : List (Addr × Obj)} (hs : ∀ p ∈ rest, p ∈ rest') (S : WrIn w c st b rest') (R : Rd w c e rest') : PNw w e rest (.ref c.x) (b ++ rest')
section
variable {w : World} {rest b : List (Addr × Obj)} {nA pA : Addr} {e : Ev}
theorem term_text_S (B : Rb w nA pA e rest) (T0 : TabOk e) {t : Tm} {d : Addr} (ht : TermAt rest t d) (ok : TmOk e t) : Does w 484 12 [.ref nA, .ref pA, .ref d, .bool e.q] rest (fun r l => (∃ t', r = .str (textOf e t 1201) t') ∧ l = rest) := by
 refine z_enter (own₀ := []) (led₀ := rest) (R := rest) [("symbols", .ref nA), ("operators", .ref pA), ("term", .ref d), ("quoted", .bool e.q), ("ignore_ops", .bool false), ("numbervars", .bool false), ("names", .none), ("most", .int 1201 561)] ∅ ∅ (fun s hs => binds_D hs (dfA w 484) (o := obAt w.params (dfA w 484)) (n := 0) (dfI w 484) ∅ ∅ ∅ ∅) (fun _ h => h) List.nodup_nil (fun _ h => nomatch h) (fun _ h => h) ?_
 intro Z hZ G tk sz hP hR
 refine z_call 99 (fun _ => Does.weak (writer_R B (.inr rfl)) (post' := PNw w e rest) (by rintro r l ⟨c, st, b, rest', tl, rfl, rfl, hs, _, _, S, R⟩; exact ⟨_, .mk hs S R, fun _ h => h⟩)) (by decide) ∅ ∅ ?_
 rintro _ _ ⟨hs, S, R⟩ tk2 sz2
 refine ⟨fun q hq => List.mem_append_right _ (hs q (hR ▸ hq)), ?_⟩; intro z
 refine z_wmt 99 S ∅ ∅ ?_; intro z
 refine z_call 99 (fun _ => text_any S R T0 (ht.mono hs) ok (most := 1201) (tm := 561) (.inl rfl)) (by decide) ∅ ∅ ?_
 rintro _ _ ⟨⟨t', rfl⟩, O, W, st', b', rest2, rfl, hs2, S2⟩ tk3 sz3
 refine ⟨fun q hq => List.mem_append_right _ (hs2 q (hs q (hR ▸ hq))), ?_⟩; intro z
 exact z_end2 99 (v := .str (textOf e t 1201) t') (own := []) (led := b' ++ rest2) (l := rest) hP ∅ ∅ ∅ (fun p hp => List.mem_append_right b' (hs2 p (hs p hp))) (hZ _ _ ⟨⟨t', rfl⟩, rfl⟩)
end
end
section
set_option tactic.hygienic false
structure RowOk (vs : List Value) : Prop where
 len : vs.length ≤ 90
 isInt : ∀ v ∈ vs, ∃ k t, v = .int k t ∧ 0 ≤ k ∧ k < 96
section
variable {w : World} {led l1 : List (Addr × Obj)}
theorem law_next_S {R : Addr} {vs : List Value} {n : Nat} {many : Int} {tm : Tok} (P : Pick (R, PySem.W.listOf vs.toArray n) led l1) (ok : RowOk vs) (hoff : ∀ p ∈ l1, p.1 ≠ R) (h1 : 0 < many) (h2 : many ≤ 1000) :
  Does w 498 1 [.ref R, .int many tm] led (fun r l => ∃ k t vs' n', r = .int k t ∧ 0 ≤ k ∧ k < many ∧ RowOk vs' ∧ l = (R, PySem.W.listOf vs'.toArray n') :: l1) := by
 have hl9 := ok.len
 have hin : ∀ p ∈ [(R, PySem.W.listOf vs.toArray n)] ++ l1, p ∈ led := fun p hp => (P.iff p).mpr (List.mem_cons.mp hp)
 have hof : ∀ p ∈ [(R, PySem.W.listOf vs.toArray n)], ∀ q ∈ l1, p.1 ≠ q.1 := fun p hp q hq => by rw [List.mem_singleton.mp hp]; exact (hoff q hq).symm
 refine Does.sub hin ?_
 clear hin P
 rcases List.eq_nil_or_concat vs with rfl | ⟨p, y, hpy⟩
 ·refine z_inO [("row", .ref R), ("many", .int many tm)] [(R, PySem.W.listOf ([] : List Value).toArray n)] l1 (R := l1) (fun _ h => h) (by simp) hof ∅ ∅ ∅ ?_
  intro Z hZ G tk sz hP hR z
  refine z_lenLO 99 0 (vs := []) ∅ (by decide) ∅ ?_; intro z
  exact z_end2 99 (v := .int 0 (tk + 3)) (own := [(R, PySem.W.listOf ([] : List Value).toArray n)]) (led := l1) (l := (R, PySem.W.listOf ([] : List Value).toArray n) :: l1) hP ∅ ∅ ∅ (fun _ h => h) (hZ _ _ ⟨0, _, [], n, rfl, Int.le_refl 0, h1, ok, rfl⟩)
 ·rw [List.concat_eq_append] at hpy
  subst hpy
  obtain ⟨k, t, rfl, hk0, hk1⟩ := ok.isInt y (by simp)
  have he : kl_last (p ++ [Value.int k t]) = some (p, .int k t) := kl_last_snoc p (.int k t)
  refine z_inO [("row", .ref R), ("many", .int many tm)] [(R, PySem.W.listOf (p ++ [Value.int k t]).toArray n)] l1 (R := l1) (fun _ h => h) (by simp) hof ∅ ∅ ∅ ?_
  intro Z hZ G tk sz hP hR z
  refine z_lenLO 99 0 (vs := p ++ [Value.int k t]) ∅ (Nat.le_trans hl9 (by decide)) ∅ ?_; intro z
  (refine z_br 6 true (x := decide ((0 : Int) < ((p ++ [Value.int k t]).length : Nat))) (decide_eq_true (by rw [List.length_append]; show (0 : Int) < (p.length + 1 : Nat); lia)) ∅ ?_; intro z)
  refine z_lm 99 0 PySem.F.slot_list_pop PySem.F.type_list_pop ∅ ?_; intro z
  refine z_cw0 99 ∅ ?_; intro z
  refine z_pop 99 0 he (Nat.le_trans hl9 (by decide)) ∅ ∅ ?_; intro sz2 z
  refine z_op 3 (md := fun t => .bo .Mod (.int k (t 0)) (.int many (t 1))) (fun t => .int (k.fmod many) t) (fun _ _ _ _ q => PyProof.Rows.mod_int (by lia) (q _ _)) ∅ ∅ ?_; intro t9 tk9 z
  refine z_end2 99 (v := .int (k.fmod many) t9) (own := [(R, PySem.W.listOf p.toArray (n + 1))]) (led := l1) (l := (R, PySem.W.listOf p.toArray (n + 1)) :: l1) hP ∅ ∅ ∅ (fun _ h => h) (hZ _ _ ⟨k.fmod many, _, p, n + 1, rfl, Int.fmod_nonneg_of_pos k h1, Int.fmod_lt_of_pos k h1, ⟨?_, fun v hv => ok.isInt v (List.mem_append_left _ hv)⟩, rfl⟩)
  rw [List.length_append] at hl9; exact Nat.le_of_succ_le hl9
end
end
section
set_option tactic.hygienic false
structure Grow (t t' : List Str) (f f' : List (Int × Int)) (k : Nat) : Prop where
 pt : t <+: t'
 pf : f <+: f'
 lt : t'.length ≤ t.length + k
 lf : f'.length ≤ f.length + k
theorem Grow.refl (t : List Str) (f : List (Int × Int)) : Grow t t f f 0 := ⟨List.prefix_refl _, List.prefix_refl _, Nat.le_refl _, Nat.le_refl _⟩
theorem Grow.trans {t t' t'' : List Str} {f f' f'' : List (Int × Int)} {k k' : Nat} (a : Grow t t' f f' k) (b : Grow t' t'' f' f'' k') : Grow t t'' f f'' (k + k') :=
 ⟨a.pt.trans b.pt, a.pf.trans b.pf, by have := a.lt; have := b.lt; lia, by have := a.lf; have := b.lf; lia⟩
theorem Grow.le {t t' : List Str} {f f' : List (Int × Int)} {k k' : Nat} (a : Grow t t' f f' k) (h : k ≤ k') : Grow t t' f f' k' := ⟨a.pt, a.pf, by have := a.lt; lia, by have := a.lf; lia⟩
theorem prefix_get {α : Type} {l l' : List α} (h : l <+: l') {i : Nat} {x : α} (e : l[i]? = some x) : l'[i]? = some x := by
 obtain ⟨r, rfl⟩ := h
 have hi : i < l.length := by
  by_cases q : i < l.length
  ·exact q
  ·rw [List.getElem?_eq_none (by lia)] at e; cases e
 rw [List.getElem?_append_left hi]; exact e
theorem idx_get {α : Type} [BEq α] [LawfulBEq α] {l : List α} {x : α} {i : Nat} (h : l.idxOf? x = some i) : l[i]? = some x := by
 rw [List.idxOf?_eq_some_iff] at h
 obtain ⟨h1, h2, _⟩ := h
 rw [List.getElem?_eq_getElem h1, h2]
theorem idx_lt {α : Type} [BEq α] [LawfulBEq α] {l : List α} {x : α} {i : Nat} (h : l.idxOf? x = some i) : i < l.length := by
 rw [List.idxOf?_eq_some_iff] at h
 exact h.1
theorem addText_pre (t : List Str) (x : Str) : t <+: addText t x := by
 unfold addText
 split
 ·exact List.prefix_refl _
 ·exact List.prefix_append _ _
theorem addFun_pre (t : List (Int × Int)) (x : Int × Int) : t <+: addFun t x := by
 unfold addFun
 split
 ·exact List.prefix_refl _
 ·exact List.prefix_append _ _
theorem addText_get (t : List Str) (x : Str) : (addText t x)[symIdx t x]? = some x := by
 unfold addText symIdx
 cases h : t.idxOf? x with
 | some i => exact idx_get h
 | none => simp
theorem addFun_get (t : List (Int × Int)) (x : Int × Int) : (addFun t x)[funIdx t x]? = some x := by
 unfold addFun funIdx
 cases h : t.idxOf? x with
 | some i => exact idx_get h
 | none => simp
theorem symIdx_le (t : List Str) (x : Str) : symIdx t x ≤ t.length := by
 unfold symIdx
 cases h : t.idxOf? x with
 | some i => exact Nat.le_of_lt (idx_lt h)
 | none => exact Nat.le_refl _
theorem funIdx_le (t : List (Int × Int)) (x : Int × Int) : funIdx t x ≤ t.length := by
 unfold funIdx
 cases h : t.idxOf? x with
 | some i => exact Nat.le_of_lt (idx_lt h)
 | none => exact Nat.le_refl _
theorem grow_atom (t : List Str) (f : List (Int × Int)) (x : Str) : Grow t (addText t x) f f 1 := ⟨addText_pre _ _, List.prefix_refl _, addText_len _ _, by lia⟩
theorem grow_func (t : List Str) (f : List (Int × Int)) (x : Str) (k : Int) : Grow t (addText t x) f (addFun f ((symIdx t x : Nat), k)) 1 := ⟨addText_pre _ _, addFun_pre _ _, addText_len _ _, addFun_len _ _⟩
structure Base (t : List Str) (f : List (Int × Int)) : Prop where
 pt : symStart.1 <+: t
 pf : symStart.2 <+: f
theorem Base.grow {t t' : List Str} {f f' : List (Int × Int)} {k : Nat} (b : Base t f) (g : Grow t t' f f' k) : Base t' f' := ⟨b.pt.trans g.pt, b.pf.trans g.pf⟩
theorem start1 : symStart.1[1]? = some (Str.ofString ".") := by decide +kernel
theorem start2 : symStart.1[2]? = some (Str.ofString "{}") := by decide +kernel
theorem start3 : symStart.1[3]? = some (Str.ofString "-") := by decide +kernel
theorem start7 : symStart.1[7]? = some (Str.ofString ",") := by decide +kernel
theorem start0 : symStart.1[0]? = some (Str.ofString "[]") := by decide +kernel
theorem startF0 : symStart.2[0]? = some (1, 2) := by decide +kernel
theorem startF1 : symStart.2[1]? = some (7, 2) := by decide +kernel
theorem startF9 : symStart.2[9]? = some (2, 1) := by decide +kernel
theorem start_len : symStart.1.length ≤ 40 ∧ symStart.2.length ≤ 40 := by decide +kernel
structure GoodX (x : Str) : Prop where
 nice : Nice x
 ne : x ≠ ""
 dot : x ≠ "."
 curly : x ≠ "{}"
noncomputable def okWord (x : Str) : Bool := decide (x.length ≤ 100) && (x.cps.toList.all (fun c => decide (32 ≤ c) && (decide (c < 127) && (decide (c ≠ 39) && decide (c ≠ 92)))) && (decide (x ≠ Str.ofString "") && (decide (x ≠ Str.ofString ".") && decide (x ≠ Str.ofString "{}"))))
theorem goodX_of {x : Str} (h : okWord x = true) : GoodX x := by
 simp only [okWord, Bool.and_eq_true, decide_eq_true_eq, List.all_eq_true] at h
 obtain ⟨h1, h2, h3, h4, h5⟩ := h
 refine ⟨⟨h1, fun c hc => ?_⟩, h3, h4, h5⟩
 obtain ⟨a, b, c1, d⟩ := h2 c hc
 unfold calm
 lia
noncomputable def wordsL : List Str := ["-", "is", "^", "my op", "~"]
theorem words_ok : ∀ x ∈ wordsL, GoodX x := by
 intro x hx
 refine goodX_of ?_
 have : ∀ y ∈ wordsL, okWord y = true := by decide +kernel
 exact this x hx
theorem words6_ok : ∀ x ∈ wordsL ++ [Str.ofString ","], GoodX x := by
 intro x hx
 refine goodX_of ?_
 have : ∀ y ∈ wordsL ++ [Str.ofString ","], okWord y = true := by decide +kernel
 exact this x hx
theorem words7_ok : ∀ x ∈ wordsL ++ [Str.ofString "b", Str.ofString "$VAR"], GoodX x := by
 intro x hx
 refine goodX_of ?_
 have : ∀ y ∈ wordsL ++ [Str.ofString "b", Str.ofString "$VAR"], okWord y = true := by decide +kernel
 exact this x hx
theorem foo_ok : GoodX "foo" := goodX_of (by decide +kernel)
theorem g_ok : GoodX "g" := goodX_of (by decide +kernel)
theorem minus_ok : GoodX "-" := goodX_of (by decide +kernel)
theorem comma_ok : GoodX "," := goodX_of (by decide +kernel)
theorem atom_good {e : Ev} {t : List Str} {x : Str} (hx : GoodX x) (h : addText t x <+: e.texts) (hl : t.length ≤ 900) : GoodA e (symIdx t x : Nat) :=
 ⟨by lia, by have := symIdx_le t x; lia, x, by rw [Int.toNat_natCast]; exact prefix_get h (addText_get t x), hx.nice, hx.ne⟩
theorem func_good {e : Ev} {t : List Str} {f : List (Int × Int)} {x : Str} {k : Int} (b : Base t f) (hx : GoodX x) (h : addText t x <+: e.texts) (hf : addFun f ((symIdx t x : Nat), k) <+: e.funs) (hl : t.length ≤ 900) (hl2 : f.length ≤ 900) :
  ((funIdx f ((symIdx t x : Nat), k) : Nat) : Int) ≠ 0 ∧ ((funIdx f ((symIdx t x : Nat), k) : Nat) : Int) ≠ 9 ∧ ((funIdx f ((symIdx t x : Nat), k) : Nat) : Int) ≤ 1000 ∧ e.funs[(((funIdx f ((symIdx t x : Nat), k) : Nat) : Int)).toNat]? = some (((symIdx t x : Nat) : Int), k) ∧ GoodA e (symIdx t x : Nat) := by
 have hg := prefix_get hf (addFun_get f ((symIdx t x : Nat), k))
 have hle := funIdx_le f ((symIdx t x : Nat), k)
 have ht := addText_get t x
 have bf := (b.pf.trans (addFun_pre f ((symIdx t x : Nat), k))).trans hf
 have bt := b.pt.trans (addText_pre t x)
 refine ⟨fun h0 => ?_, fun h9 => ?_, by lia, by rw [Int.toNat_natCast]; exact hg, atom_good hx h hl⟩
 ·have h0' : funIdx f ((symIdx t x : Nat), k) = 0 := by lia
  rw [h0', prefix_get bf startF0] at hg
  have hs : ((1 : Int), (2 : Int)) = (((symIdx t x : Nat) : Int), k) := Option.some.inj hg
  have : symIdx t x = 1 := by have := congrArg Prod.fst hs; simp only at this; lia
  rw [this, prefix_get bt start1] at ht
  cases ht
  exact hx.dot rfl
 ·have h0' : funIdx f ((symIdx t x : Nat), k) = 9 := by lia
  rw [h0', prefix_get bf startF9] at hg
  have hs : ((2 : Int), (1 : Int)) = (((symIdx t x : Nat) : Int), k) := Option.some.inj hg
  have : symIdx t x = 2 := by have := congrArg Prod.fst hs; simp only at this; lia
  rw [this, prefix_get bt start2] at ht
  cases ht
  exact hx.curly rfl
theorem GoodA.grow {e e' : Ev} {a : Int} (g : GoodA e a) (h : e.texts <+: e'.texts) : GoodA e' a := by
 obtain ⟨h0, h1, x, hx, h2, h3⟩ := g
 exact ⟨h0, h1, x, prefix_get h hx, h2, h3⟩
mutual
theorem WfT.grow {e e' : Ev} (h : e.texts <+: e'.texts) (hf : e.funs <+: e'.funs) : ∀ {t : Tm}, WfT e t → WfT e' t
 | _, .v a b => .v a b
 | _, .i a b => .i a b
 | _, .a g => .a (g.grow h)
 | _, .dot x y => .dot (x.grow h hf) (y.grow h hf)
 | _, .curly x => .curly (x.grow h hf)
 | _, .s a b c d g ga i j k => .s a b c d (prefix_get hf g) (ga.grow h) i j (k.grow h hf)
theorem WfTs.grow {e e' : Ev} (h : e.texts <+: e'.texts) (hf : e.funs <+: e'.funs) : ∀ {ts : List Tm}, WfTs e ts → WfTs e' ts
 | _, .nil => .nil
 | _, .cons a b => .cons (a.grow h hf) (b.grow h hf)
end
end
section
set_option tactic.hygienic false
theorem StrVals.app {vs vs' : List Value} {xs xs' : List Str} (h : StrVals vs xs) (h' : StrVals vs' xs') : StrVals (vs ++ vs') (xs ++ xs') := by
 induction h with
 | nil => exact h'
 | cons _ ih => exact .cons ih
noncomputable def evOf (t : List Str) (f : List (Int × Int)) : Ev := ⟨t, f, fun _ _ => none, false⟩
theorem SymIn.app {w : World} {a : Sy} {t : List Str} {f : List (Int × Int)} {b rest : List (Addr × Obj)} (S : SymIn w a t f b rest) (E : List (Addr × Obj)) (hE : ∀ p ∈ E, ∀ q ∈ b, p.1 ≠ q.1) : SymIn w a t f b (E ++ rest) :=
 S.mono (fun p hp => List.mem_append_right _ hp) (fun p hp q hq => by
  rcases List.mem_append.mp hp with h | h
  ·exact hE p h q hq
  ·exact S.off p h q hq)
theorem off_app {R : Addr} {b rest E : List (Addr × Obj)} (h : ∀ p ∈ b ++ rest, p.1 ≠ R) (hE : ∀ p ∈ E, p.1 ≠ R) : ∀ p ∈ b ++ (E ++ rest), p.1 ≠ R := by
 intro p hp
 simp only [List.mem_append] at hp
 rcases hp with q | q | q
 ·exact h p (List.mem_append_left _ q)
 ·exact hE p q
 ·exact h p (List.mem_append_right _ q)
theorem sown_perm {α : Type} {x : α} {b rest E : List α} : ∀ p ∈ x :: (b ++ (E ++ rest)), p ∈ E ++ (x :: (b ++ rest)) := by
 intro p hp
 simp only [List.mem_append, List.mem_cons] at hp ⊢
 rcases hp with q | q | q | q
 ·exact .inr (.inl q)
 ·exact .inr (.inr (.inl q))
 ·exact .inl q
 ·exact .inr (.inr (.inr q))
noncomputable def SownPost (w : World) (a : Sy) (R Wd : Addr) (nW : Nat) (wv : List Value) (rest : List (Addr × Obj)) (texts : List Str) (funs : List (Int × Int)) (K H : Nat) (r : Value) (l : List (Addr × Obj)) : Prop :=
 ∃ d t vs' n' b' rest' texts' funs', r = .ref d ∧ l = (R, PySem.W.listOf vs'.toArray n') :: (b' ++ rest') ∧ RowOk vs' ∧ (∀ p ∈ b' ++ rest', p.1 ≠ R) ∧ (∀ p ∈ rest, p ∈ rest') ∧
   SymIn w a texts' funs' b' rest' ∧ Grow texts texts' funs funs' K ∧ TermAt rest' t d ∧ WfT (evOf texts' funs') t ∧ tsz t ≤ K ∧ hgt t ≤ H ∧ Base texts' funs' ∧ texts'.length ≤ texts.length + K ∧ funs'.length ≤ funs.length + K ∧ (Wd, PySem.W.listOf wv.toArray nW) ∈ rest' ∧ (a.nA, instObj 122 a.nD) ∈ rest' ∧ (a.nD, dictOf (symEs w.params a.kt a.tA a.aD a.fA a.fD) a.n) ∈ rest'
noncomputable def SownSpec (w : World) (a : Sy) (R Wd : Addr) (deep : Int) (D K H : Nat) : Prop :=
 ∀ {vs : List Value} {n nW : Nat} {wv : List Value} {b rest : List (Addr × Obj)} {texts : List Str} {funs : List (Int × Int)} {td : Tok}, RowOk vs → SymIn w a texts funs b rest → (∀ p ∈ b ++ rest, p.1 ≠ R) → Base texts funs → texts.length + K ≤ 800 → funs.length + K ≤ 800 → (Wd, PySem.W.listOf wv.toArray nW) ∈ rest → StrVals wv wordsL →
  Does w 505 D [.ref R, .ref a.nA, .ref Wd, .int deep td] ((R, PySem.W.listOf vs.toArray n) :: (b ++ rest)) (SownPost w a R Wd nW wv rest texts funs K H)
end
section
theorem sown_out {w : World} {a : Sy} {R Wd D : Addr} {vs1 : List Value} {n1 nW : Nat} {wv : List Value} {b1 rest rest1 E : List (Addr × Obj)} {texts t1 : List Str} {funs f1 : List (Int × Int)} {t : Tm} {K H : Nat} (ok1 : RowOk vs1) (S1 : SymIn w a t1 f1 b1 rest1) (hoff : ∀ p ∈ b1 ++ rest1, p.1 ≠ R) (hE : ∀ p ∈ E, p.1 ≠ R ∧ ∀ q ∈ b1, p.1 ≠ q.1) (hsub : ∀ p ∈ rest, p ∈ rest1)
  (gr : Grow texts t1 funs f1 K) (hT : TermAt (E ++ rest1) t D) (wf : WfT (evOf t1 f1) t) (hsz : tsz t ≤ K) (hh : hgt t ≤ H) (hB : Base texts funs) (hWd : (Wd, PySem.W.listOf wv.toArray nW) ∈ rest) :
  ∃ d t vs' n' b' rest' texts' funs', Value.ref D = .ref d ∧ ((R, PySem.W.listOf vs1.toArray n1) :: (b1 ++ (E ++ rest1))) = (R, PySem.W.listOf vs'.toArray n') :: (b' ++ rest') ∧ RowOk vs' ∧ (∀ p ∈ b' ++ rest', p.1 ≠ R) ∧ (∀ p ∈ rest, p ∈ rest') ∧
   SymIn w a texts' funs' b' rest' ∧ Grow texts texts' funs funs' K ∧ TermAt rest' t d ∧ WfT (evOf texts' funs') t ∧ tsz t ≤ K ∧ hgt t ≤ H ∧ Base texts' funs' ∧ texts'.length ≤ texts.length + K ∧ funs'.length ≤ funs.length + K ∧ (Wd, PySem.W.listOf wv.toArray nW) ∈ rest' ∧ (a.nA, instObj 122 a.nD) ∈ rest' ∧ (a.nD, dictOf (symEs w.params a.kt a.tA a.aD a.fA a.fD) a.n) ∈ rest' :=
 ⟨D, t, vs1, n1, b1, E ++ rest1, t1, f1, rfl, rfl, ok1, off_app hoff fun p hp => (hE p hp).1, fun p hp => List.mem_append_right _ (hsub p hp), S1.app E fun p hp => (hE p hp).2, gr, hT, wf, hsz, hh, hB.grow gr, gr.lt, gr.lf, List.mem_append_right _ (hsub _ hWd), List.mem_append_right _ S1.inst, List.mem_append_right _ S1.dict⟩
theorem wf_func {t t' : List Str} {f f' : List (Int × Int)} {x : Str} {args : List Tm} (b : Base t f) (hx : GoodX x) (hl : t.length ≤ 900) (hl2 : f.length ≤ 900) (h : addText t x <+: t') (hf : addFun f ((symIdx t x : Nat), Int.ofNat args.length) <+: f') (hne : args ≠ []) (h3 : args.length ≤ 3) (ha : WfTs (evOf t' f') args) :
  WfT (evOf t' f') (.s (funIdx f ((symIdx t x : Nat), Int.ofNat args.length) : Nat) args) := by
 obtain ⟨f0, f9, fl, fg, ga⟩ := func_good (e := evOf t' f') (k := Int.ofNat args.length) b hx h hf hl hl2
 exact .s f0 f9 (by lia) fl fg ga hne h3 ha
theorem nil_good {t : List Str} {f : List (Int × Int)} (b : Base t f) : GoodA (evOf t f) 0 :=
 ⟨by decide, by decide, _, prefix_get b.pt start0, (goodX_of (x := "[]") (by decide +kernel)).nice, by decide +kernel⟩
theorem evOf_grow {t t' : List Str} {f f' : List (Int × Int)} {k : Nat} (g : Grow t t' f f' k) {u : Tm} (w : WfT (evOf t f) u) : WfT (evOf t' f') u := w.grow g.pt g.pf
inductive PNx (R : Addr) (many : Int) (l1 : List (Addr × Obj)) : Value → List (Addr × Obj) → Prop
 | mk {k : Int} {t : Tok} {vs : List Value} {n : Nat} (h0 : 0 ≤ k) (h1 : k < many) (ok : RowOk vs) : PNx R many l1 (.int k t) ((R, PySem.W.listOf vs.toArray n) :: l1)
theorem next_P {w : World} {R : Addr} {vs : List Value} {n : Nat} {l1 : List (Addr × Obj)} (ok : RowOk vs) (hoff : ∀ p ∈ l1, p.1 ≠ R) (many : Int) {tm : Tok} (h1 : 0 < many := by decide) (h2 : many ≤ 1000 := by decide) : Does w 498 1 [.ref R, .int many tm] ((R, PySem.W.listOf vs.toArray n) :: l1) (PNx R many l1) :=
 Does.weak (law_next_S .head ok hoff h1 h2) (by rintro r l ⟨k, t, vs', n', rfl, h0, h1, ok', rfl⟩; exact ⟨_, .mk h0 h1 ok', fun p hp => hp⟩)
inductive PFn (w : World) (a : Sy) (R : Addr) (o : Obj) (rest : List (Addr × Obj)) (texts : List Str) (funs : List (Int × Int)) (v : Int) : Value → List (Addr × Obj) → Prop
 | mk {t : Tok} {b' rest' : List (Addr × Obj)} (hs : ∀ p ∈ rest, p ∈ rest') (hR : ∀ p ∈ b' ++ rest', p.1 ≠ R) (S : SymIn w a texts funs b' rest') : PFn w a R o rest texts funs v (.int v t) ((R, o) :: (b' ++ rest'))
section
variable {w : World} {a : Sy} {R Wd : Addr} {o : Obj} {b rest : List (Addr × Obj)} {texts : List Str} {funs : List (Int × Int)}
theorem func_P (S : SymIn w a texts funs b rest) (hoff : ∀ p ∈ b ++ rest, p.1 ≠ R) (hz : texts.length ≤ 1000) (hz2 : funs.length ≤ 1000) (x : Str) (k : Int) (tx tkk : Tok) : Does w 77 2 [.ref a.nA, .str x tx, .int k tkk] ((R, o) :: (b ++ rest)) (PFn w a R o rest (addText texts x) (addFun funs ((symIdx texts x : Nat), k)) (funIdx funs ((symIdx texts x : Nat), k) : Nat)) :=
 Does.weak (Does.frame1 hoff (func_S S hz hz2 x k tx tkk)) (by rintro r l ⟨l', rfl, h1, ⟨t, rfl⟩, b', ext, rfl, h2, S'⟩; exact ⟨_, .mk (fun p hp => List.mem_append_right _ hp) h1 S', fun p hp => hp⟩)
theorem atom_P (S : SymIn w a texts funs b rest) (hoff : ∀ p ∈ b ++ rest, p.1 ≠ R) (hz : texts.length ≤ 1000) (x : Str) (tx : Tok) : Does w 56 1 [.ref a.nA, .str x tx] ((R, o) :: (b ++ rest)) (PFn w a R o rest (addText texts x) funs (symIdx texts x : Nat)) :=
 Does.weak (Does.frame1 hoff (atom_S S hz x tx)) (by rintro r l ⟨l', rfl, h1, ⟨t, rfl⟩, b', rfl, S'⟩; exact ⟨_, .mk (fun p hp => hp) h1 S', fun p hp => hp⟩)
end
inductive PSn (w : World) (a : Sy) (R Wd : Addr) (nW : Nat) (wv : List Value) (rest : List (Addr × Obj)) (texts : List Str) (funs : List (Int × Int)) (K H : Nat) : Value → List (Addr × Obj) → Prop
 | mk {d : Addr} {t : Tm} {vs' : List Value} {n' : Nat} {b' rest' : List (Addr × Obj)} {texts' : List Str} {funs' : List (Int × Int)} (ok : RowOk vs') (hoff : ∀ p ∈ b' ++ rest', p.1 ≠ R) (hs : ∀ p ∈ rest, p ∈ rest') (S : SymIn w a texts' funs' b' rest') (gr : Grow texts texts' funs funs' K) (ta : TermAt rest' t d) (wf : WfT (evOf texts' funs') t) (hz : tsz t ≤ K) (hh : hgt t ≤ H) (B : Base texts' funs') (lt : texts'.length ≤ texts.length + K) (lf : funs'.length ≤ funs.length + K) (wd : (Wd, PySem.W.listOf wv.toArray nW) ∈ rest') :
  PSn w a R Wd nW wv rest texts funs K H (.ref d) ((R, PySem.W.listOf vs'.toArray n') :: (b' ++ rest'))
theorem sown_P {w : World} {a : Sy} {R Wd : Addr} {deep : Int} {D K H : Nat} (h : SownSpec w a R Wd deep D K H) {vs : List Value} {n nW : Nat} {wv : List Value} {b rest : List (Addr × Obj)} {texts : List Str} {funs : List (Int × Int)} {td : Tok} (h1 : RowOk vs) (h2 : SymIn w a texts funs b rest) (h3 : ∀ p ∈ b ++ rest, p.1 ≠ R) (h4 : Base texts funs) (h5 : texts.length + K ≤ 800) (h6 : funs.length + K ≤ 800) (h7 : (Wd, PySem.W.listOf wv.toArray nW) ∈ rest) (h8 : StrVals wv wordsL) :
  Does w 505 D [.ref R, .ref a.nA, .ref Wd, .int deep td] ((R, PySem.W.listOf vs.toArray n) :: (b ++ rest)) (PSn w a R Wd nW wv rest texts funs K H) :=
 Does.weak (h h1 h2 h3 h4 h5 h6 h7 h8) (by rintro r l ⟨d, t, vs', n', b', rest', texts', funs', rfl, rfl, h1, h2, h3, h4, h5, h6, h7, h8, h9, h10, h11, h12, h13, _⟩; exact ⟨_, .mk h1 h2 h3 h4 h5 h6 h7 h8 h9 h10 h11 h12 h13, fun p hp => hp⟩)
theorem fmod9 (k : Int) : 0 ≤ k.fmod 9 ∧ k.fmod 9 < 9 := by
 rw [Int.fmod_eq_emod_of_nonneg _ (by decide)]; lia
section
variable {own l : List (Addr × Obj)} {i j : Nat} {k : Int}
theorem tmI (hs : ∀ p ∈ own, p ∈ l) (h : pairAt own j = some (("i" : Str), k)) : TermAt l (.i k) (adr own j) := by obtain ⟨t1, t2, m⟩ := pairAt_ok h; exact .i (hs _ m)
theorem tmV (hs : ∀ p ∈ own, p ∈ l) (h : pairAt own j = some (("v" : Str), k)) : TermAt l (.v k) (adr own j) := by obtain ⟨t1, t2, m⟩ := pairAt_ok h; exact .v (hs _ m)
theorem tmA (hs : ∀ p ∈ own, p ∈ l) (h : pairAt own j = some (("a" : Str), k)) : TermAt l (.a k) (adr own j) := by obtain ⟨t1, t2, m⟩ := pairAt_ok h; exact .a (hs _ m)
theorem tmS {args : List Tm} {vs : List Value} (hs : ∀ p ∈ own, p ∈ l) (h : trpAt own j = some (("s" : Str), k, Value.ref (adr own i))) (hb : tupAt own i = some vs) (ha : TermsAt l args vs) : TermAt l (.s k args) (adr own j) := by obtain ⟨t1, t2, m⟩ := trpAt_ok h; exact .s (hs _ m) (hs _ (tupAt_ok hb)) ha
end
theorem z_endW {w : World} {N : List (Str × NameKind)} {d : Nat} {G : ZG w N d} {c : ZC} (n : Nat) {post : Value → List (Addr × Obj) → Prop} {v : Value} {x : Addr × Obj} {b r own : List (Addr × Obj)} (hP : G.P = ZFin post) (hv : enOf (zgo N w.params n c) = some v) (ho : (zgo N w.params n c).σ.own = own) (hl : (zgo N w.params n c).σ.led = x :: (b ++ r)) (h : post v (x :: (b ++ (own ++ r)))) : ZT G c :=
 z_endO n hP hv (fun p hp => by rw [ho, hl]; exact sown_perm p hp) h
theorem off_E {R : Addr} {o : Obj} {own b rest : List (Addr × Obj)} (h : ∀ p ∈ own, ∀ q ∈ (R, o) :: (b ++ rest), p.1 ≠ q.1) : ∀ p ∈ own, p.1 ≠ R ∧ ∀ q ∈ b, p.1 ≠ q.1 := fun p hp => ⟨h p hp _ (.head _), fun q hq => h p hp q (.tail _ (List.mem_append_left _ hq))⟩
noncomputable def strsJ (c : ZC) (j : Nat) : Option (List Str) := (ownL c j).rec (fun _ => none) fun p => allStrs p.2.1.toList
theorem z_laddS {w : World} {N : List (Str × NameKind)} {d : Nat} {G : ZG w N d} {c : ZC} (n j : Nat) (xs : List Str) {l1 : Addr} {vs : List Value} {k1 : Nat} (h1 : ZHas G (zgo N w.params n c) (l1, PySem.W.listOf vs.toArray k1)) (hz : vs.length + xs.length ≤ 1000)
  (hs : strsJ (zgo N w.params n c) j = some xs) (hv : laOf (zgo N w.params n c) = (adJ (zgo N w.params n c) j).map fun p => (l1, p)) (h : ∀ ws, StrVals ws xs → ∀ sz, let c' := laPut (vs ++ ws) sz (zgo N w.params n c); ZT G c') : ZT G c := by
 unfold strsJ at hs
 unfold adJ at hv
 cases e : ownL (zgo N w.params n c) j with
 | error b => rw [e] at hs; cases hs
 | ok p =>
  rw [e] at hs hv
  have S := allStrs_ok (vs := p.2.1.toList) hs
  exact z_ladd n (k2 := p.2.2) (ws := p.2.1.toList) h1 (zO j (ownL_ok (D := p.1) (its := p.2.1) (n := p.2.2) e)) (by rw [S.len]; exact hz) hv (h _ S)
theorem z_itemLO {w : World} {N : List (Str × NameKind)} {d : Nat} {G : ZG w N d} {c : ZC} (n j : Nat) {vs : List Value} {i : Int} {v : Value} (h0 : 0 ≤ i) (h1 : i < 10000) (hx : vs[i.toNat]? = some v) (hs : lsJ (zgo N w.params n c) j = some vs) (hv : ilOf (zgo N w.params n c) = (adJ (zgo N w.params n c) j).map fun p => (p, i)) (h : let c' := zput (zgo N w.params n c) v; ZT G c') : ZT G c := by
 unfold lsJ at hs
 unfold adJ at hv
 cases e : ownL (zgo N w.params n c) j with
 | error b => rw [e] at hs; cases hs
 | ok p =>
  rw [e] at hs hv
  cases hs
  exact z_itemL n (zO j (ownL_ok (D := p.1) (its := p.2.1) (n := p.2.2) e)) h0 h1 hx hv h
theorem words_get {ws : List Value} {xs : List Str} (S : StrVals ws xs) {j : Int} {m : Int} (h0 : 0 ≤ j) (h1 : j < m) (hm : m ≤ xs.length) : ∃ x ∈ xs, ∃ t, ws[j.toNat]? = some (.str x t) := by
 have h2 : j.toNat < xs.length := by lia
 obtain ⟨t, ht⟩ := S.get (List.getElem?_eq_getElem h2)
 exact ⟨_, List.getElem_mem h2, t, ht⟩
section
variable {w : World} {a : Sy} {R Wd : Addr}
theorem sown_tail {Z : Value → List (Addr × Obj) → Prop} {D K H : Nat} {vs : List Value} {n nW : Nat} {wv : List Value} {b rest : List (Addr × Obj)} {texts : List Str} {funs : List (Int × Int)} {td : Tok} {deep v : Int} {G : ZG w (nmAt w 505) D} (hD : 1 ≤ D) (hP : G.P = ZFin Z) (hZ : ∀ r l, SownPost w a R Wd nW wv rest texts funs (K + 1) H r l → Z r l) (hR : G.R = rest) (ok : RowOk vs) (S : SymIn w a texts funs b rest) (hoff : ∀ p ∈ b ++ rest, p.1 ≠ R) (hB : Base texts funs) (ht : texts.length + (K + 1) ≤ 800) (hf : funs.length + (K + 1) ≤ 800) (hWd : (Wd, PySem.W.listOf wv.toArray nW) ∈ rest) (hwv : StrVals wv wordsL) :
  ∀ t tk sz, ZT G ⟨⟨[("way", .int v t), ("deep", .int deep td), ("words", .ref Wd), ("names", .ref a.nA), ("row", .ref R)], [], (R, PySem.W.listOf vs.toArray n) :: (b ++ rest), tk, sz⟩, [], .ss ((bdAt w 505).drop 2)⟩ := by
 intro t tk sz
 have i1 := S.inst
 have i2 := S.dict
 (refine z_split 10 (v == 8) ∅ (fun h8 => ?_) (fun h8 => ?_))
 ·intro z
  refine z_call 99 (fun t => next_P (n := n) ok hoff 96 (tm := t 1)) (by lia) ∅ ∅ ?_
  rintro _ _ ⟨m0, m9, ok2⟩ tk2 sz2
  rename_i j tj vs2 n2
  refine ⟨fun q hq => .tail _ (List.mem_append_right _ ( (hR ▸ hq))), ?_⟩; intro z
  (refine z_nt 9 (l := (R, PySem.W.listOf vs2.toArray n2) :: (b ++ rest)) ∅ ∅ ?_; intro own hnd hof z)
  refine z_endW 99 (own := own) (v := .ref (adr own 0)) hP ∅ ∅ ∅ (hZ _ _ (sown_out (n1 := n2) (t := .i (j - 40)) ok2 S hoff (off_E hof) (fun p hp => hp) ((Grow.refl _ _).le (by lia)) (tmI (fun p hp => List.mem_append_left _ hp) ∅) (.i (by lia) (by lia)) (by simp only [tsz]; lia) (by simp only [hgt]; lia) hB hWd))
 ·intro z
  (refine z_split 13 (v == 7) ∅ (fun h7 => ?_) (fun h7 => ?_))
  ·intro z
   (refine z_meth 99 (zR hR i1) (zR hR i2) ∅ ?_; intro z)
   refine z_laddS 99 0 [Str.ofString "b", Str.ofString "$VAR"] (zR hR hWd) (by rw [hwv.len]; decide) ∅ ∅ ?_; intro ws hws sz z
   refine z_call 99 (fun t => next_P (n := n) ok hoff 7 (tm := t 1)) (by lia) ∅ ∅ ?_
   rintro _ _ ⟨m0, m9, ok2⟩ tk2 sz2
   rename_i j tj vs2 n2
   refine ⟨fun q hq => .tail _ (List.mem_append_right _ ( (hR ▸ hq))), ?_⟩; intro z
   obtain ⟨x, hx, tx, ex⟩ := words_get (hwv.app hws) m0 m9 (by decide)
   refine z_itemLO 99 1 m0 (by lia) ex ∅ ∅ ?_; intro z
   refine z_call 99 (fun t => atom_P (o := PySem.W.listOf vs2.toArray n2) S hoff (by lia) x (t 1)) (by lia) ∅ ∅ ?_
   rintro _ _ ⟨hs4, of4, S4⟩ tk2 sz2
   rename_i t4 b4 r4
   refine ⟨fun q hq => .tail _ (List.mem_append_right _ (hs4 _ (hR ▸ hq))), ?_⟩; intro z
   have gx := words7_ok _ hx
   have gr := grow_atom texts funs x
   (refine z_nt 5 (l := (R, PySem.W.listOf vs2.toArray n2) :: (b4 ++ r4)) ∅ ∅ ?_; intro own hnd hof z)
   refine z_endW 99 (own := own) (v := .ref (adr own 2)) hP ∅ ∅ ∅ (hZ _ _ (sown_out (n1 := n2) (t := .a (symIdx texts x : Nat)) ok2 S4 of4 (off_E hof) hs4 (gr.le (by lia)) (tmA (fun p hp => List.mem_append_left _ hp) ∅) (.a (atom_good gx (List.prefix_refl _) (by lia))) (by simp only [tsz]; lia) (by simp only [hgt]; lia) hB hWd))
  ·intro z
   refine z_call 99 (fun t => next_P (n := n) ok hoff 3 (tm := t 1)) (by lia) ∅ ∅ ?_
   rintro _ _ ⟨m0, m9, ok2⟩ tk2 sz2
   rename_i j tj vs2 n2
   refine ⟨fun q hq => .tail _ (List.mem_append_right _ ( (hR ▸ hq))), ?_⟩; intro z
   (refine z_nt 5 (l := (R, PySem.W.listOf vs2.toArray n2) :: (b ++ rest)) ∅ ∅ ?_; intro own hnd hof z)
   refine z_endW 99 (own := own) (v := .ref (adr own 0)) hP ∅ ∅ ∅ (hZ _ _ (sown_out (n1 := n2) (t := .v j) ok2 S hoff (off_E hof) (fun p hp => hp) ((Grow.refl _ _).le (by lia)) (tmV (fun p hp => List.mem_append_left _ hp) ∅) (.v (by lia) (by lia)) (by simp only [tsz]; lia) (by simp only [hgt]; lia) hB hWd))
theorem sown_leaf (deep : Int) (hd : deep = 3) : SownSpec w a R Wd deep 3 1 0 := by
 intro vs n nW wv b rest texts funs td ok S hoff hB ht hf hWd hwv
 subst hd
 refine z_in [("row", .ref R), ("names", .ref a.nA), ("words", .ref Wd), ("deep", .int 3 td)] (R := rest) (fun p hp => .tail _ (List.mem_append_right _ hp)) ∅ ∅ ∅ ?_
 intro Z hZ G tk sz hP hR z
 refine z_call 99 (fun t => next_P (n := n) ok hoff 9 (tm := t 1)) (by lia) ∅ ∅ ?_
 rintro _ _ ⟨k0, k9, ok1⟩ tk2 sz2
 rename_i k tkk vs1 n1
 refine ⟨fun q hq => .tail _ (List.mem_append_right _ (hR ▸ hq)), ?_⟩; intro z
 (refine z_joinI 37 (v := (k + 6).fmod 9) (sown_tail (n := n1) (td := td) (deep := 3) (K := 0) (by decide) hP hZ hR ok1 S hoff hB ht hf hWd hwv) ∅)
theorem sown_step (deep : Int) {D K H : Nat} (hd0 : 0 ≤ deep) (hd2 : deep ≤ 2) (hK : 1 ≤ K) (hK2 : K ≤ 7) (hD : 3 ≤ D) (ih : SownSpec w a R Wd (deep + 1) D K H) : SownSpec w a R Wd deep (D + 1) (2 * K + 1) (H + 1) := by
 intro vs n nW wv b rest texts funs td ok S hoff hB ht hf hWd hwv
 have i1 := S.inst
 have i2 := S.dict
 refine z_in [("row", .ref R), ("names", .ref a.nA), ("words", .ref Wd), ("deep", .int deep td)] (R := rest) (fun p hp => .tail _ (List.mem_append_right _ hp)) ∅ ∅ ∅ ?_
 intro Z hZ G tk sz hP hR z
 refine z_call 99 (fun t => next_P (n := n) ok hoff 9 (tm := t 1)) (by lia) ∅ ∅ ?_
 rintro _ _ ⟨k0, k9, ok1⟩ tk2 sz2
 refine ⟨fun q hq => .tail _ (List.mem_append_right _ (hR ▸ hq)), ?_⟩; intro z
 rename_i k tkk vs1 n1
 clear ok
 have E : ∀ v : Int, 0 ≤ v → v < 9 → ∀ t tk sz, ZT G ⟨⟨("way", .int v t) :: [("deep", .int deep td), ("words", .ref Wd), ("names", .ref a.nA), ("row", .ref R)], [], (R, PySem.W.listOf vs1.toArray n1) :: (b ++ rest), tk, sz⟩, [], .ss ((bdAt w 505).drop 1)⟩ := by
  intro v v0 v9 t tk sz
  (refine z_br 12 true (x := decide (deep < 3)) (decide_eq_true (by lia)) ∅ ?_; intro z)
  (refine z_split 10 (decide (v < 6)) ∅ (fun h6 => ?_) (fun h6 => ?_))
  ·intro z
   refine z_call 99 (fun t => sown_P ih (n := n1) (td := t 3) ok1 S hoff hB (by lia) (by lia) hWd hwv) (by lia) ∅ ∅ ?_
   rintro _ _ ⟨ok2, of2, hs2, S2, g2, ta2, w2, y2, h2, B2, lt2, lf2, wd2⟩ tk2 sz2
   rename_i d2 u2 vs2 n2 b2 r2 T2 F2
   refine ⟨fun q hq => .tail _ (List.mem_append_right _ (hs2 _ (hR ▸ hq))), ?_⟩; intro z
   (refine z_split 13 (v == 5) ∅ (fun h5 => ?_) (fun h5 => ?_))
   ·intro z
    (refine z_nt 25 (l := (R, PySem.W.listOf vs2.toArray n2) :: (b2 ++ r2)) ∅ ∅ ?_; intro own hnd hof z)
    refine z_endW 99 (own := own) (v := .ref (adr own 1)) hP ∅ ∅ ∅ (hZ _ _ (sown_out (n1 := n2) ok2 S2 of2 (off_E hof) hs2 (g2.le (by lia)) (tmS (i := 0) (fun p hp => List.mem_append_left _ hp) ∅ ∅ (.cons (ta2.mono fun p hp => List.mem_append_right _ hp) .nil)) (.curly w2) (by simp only [tsz, tszs]; lia) (by simp only [hgt, hgts]; lia) hB hWd))
   ·intro z
    (refine z_split 15 (v == 2) ∅ (fun hw2 => ?_) (fun hw2 => ?_))
    ·intro z
     (refine z_meth 99 (zR hR i1) (zR hR i2) ∅ ?_; intro z)
     refine z_call 99 (fun t => next_P (n := n2) ok2 of2 5 (tm := t 1)) (by lia) ∅ ∅ ?_
     rintro _ _ ⟨m0, m9, ok3⟩ tk2 sz2
     rename_i j tj vs3 n3
     refine ⟨fun q hq => .tail _ (List.mem_append_right _ (hs2 _ (hR ▸ hq))), ?_⟩; intro z
     obtain ⟨x, hx, tx, ex⟩ := words_get hwv m0 m9 (by decide)
     refine z_itemL 99 (zR hR hWd) m0 (by lia) ex ∅ ?_; intro z
     refine z_call 99 (fun t => func_P (o := PySem.W.listOf vs3.toArray n3) S2 of2 (by lia) (by lia) x 1 (t 1) (t 2)) (by lia) ∅ ∅ ?_
     rintro _ _ ⟨hs4, of4, S4⟩ tk2 sz2
     rename_i t4 b4 r4
     refine ⟨fun q hq => .tail _ (List.mem_append_right _ (hs4 _ (hs2 _ (hR ▸ hq)))), ?_⟩; intro z
     have gf := grow_func T2 F2 x 1
     (refine z_nt 16 (l := (R, PySem.W.listOf vs3.toArray n3) :: (b4 ++ r4)) ∅ ∅ ?_; intro own hnd hof z)
     refine z_endW 99 (own := own) (v := .ref (adr own 1)) hP ∅ ∅ ∅ (hZ _ _ (sown_out (n1 := n3) ok3 S4 of4 (off_E hof) (fun q hq => hs4 _ (hs2 _ hq)) ((g2.trans gf).le (by lia)) (tmS (i := 0) (fun p hp => List.mem_append_left _ hp) ∅ ∅ (.cons (ta2.mono fun p hp => List.mem_append_right _ (hs4 _ hp)) .nil)) (wf_func (args := [_]) B2 (words_ok _ hx) (by lia) (by lia) (List.prefix_refl _) (List.prefix_refl _) (by simp) (by simp) (.cons (evOf_grow gf w2) .nil)) (by simp only [tsz, tszs]; lia) (by simp only [hgt, hgts]; lia) hB hWd))
    ·intro z
     (refine z_split 10 (v == 3) ∅ (fun hw3 => ?_) (fun hw3 => ?_))
     ·intro z
      (refine z_meth 99 (zR hR i1) (zR hR i2) ∅ ?_; intro z)
      refine z_call 99 (fun t => next_P (n := n2) ok2 of2 5 (tm := t 1)) (by lia) ∅ ∅ ?_
      rintro _ _ ⟨m0, m9, ok3⟩ tk2 sz2
      rename_i j tj vs3 n3
      refine ⟨fun q hq => .tail _ (List.mem_append_right _ (hs2 _ (hR ▸ hq))), ?_⟩; intro z
      obtain ⟨x, hx, tx, ex⟩ := words_get hwv m0 m9 (by decide)
      refine z_itemL 99 (zR hR hWd) m0 (by lia) ex ∅ ?_; intro z
      refine z_call 99 (fun t => func_P (o := PySem.W.listOf vs3.toArray n3) S2 of2 (by lia) (by lia) x 1 (t 1) (t 2)) (by lia) ∅ ∅ ?_
      rintro _ _ ⟨hs4, of4, S4⟩ tk2 sz2
      rename_i t4 b4 r4
      refine ⟨fun q hq => .tail _ (List.mem_append_right _ (hs4 _ (hs2 _ (hR ▸ hq)))), ?_⟩; intro z
      have gf := grow_func T2 F2 x 1
      (refine z_nt 16 (l := (R, PySem.W.listOf vs3.toArray n3) :: (b4 ++ r4)) ∅ ∅ ?_; intro own hnd hof z)
      refine z_endW 99 (own := own) (v := .ref (adr own 1)) hP ∅ ∅ ∅ (hZ _ _ (sown_out (n1 := n3) ok3 S4 of4 (off_E hof) (fun q hq => hs4 _ (hs2 _ hq)) ((g2.trans gf).le (by lia)) (tmS (i := 0) (fun p hp => List.mem_append_left _ hp) ∅ ∅ (.cons (ta2.mono fun p hp => List.mem_append_right _ (hs4 _ hp)) .nil)) (wf_func (args := [_]) B2 (words_ok _ hx) (by lia) (by lia) (List.prefix_refl _) (List.prefix_refl _) (by simp) (by simp) (.cons (evOf_grow gf w2) .nil)) (by simp only [tsz, tszs]; lia) (by simp only [hgt, hgts]; lia) hB hWd))
     ·intro z
      refine z_call 99 (fun t => sown_P ih (n := n2) (td := t 3) ok2 S2 of2 B2 (by lia) (by lia) wd2 hwv) (by lia) ∅ ∅ ?_
      rintro _ _ ⟨ok3, of3, hs3, S3, g3, ta3, w3, y3, h3, B3, lt3, lf3, wd3⟩ tk2 sz2
      rename_i d3 u3 vs3 n3 b3 r3 T3 F3
      refine ⟨fun q hq => .tail _ (List.mem_append_right _ (hs3 _ (hs2 _ (hR ▸ hq)))), ?_⟩; intro z
      (refine z_split 13 (v == 4) ∅ (fun hw4 => ?_) (fun hw4 => ?_))
      ·intro z
       refine z_call 99 (fun t => next_P (n := n3) ok3 of3 2 (tm := t 1)) (by lia) ∅ ∅ ?_
       rintro _ _ ⟨m0, m9, ok4⟩ tk2 sz2
       rename_i j tj vs4 n4
       refine ⟨fun q hq => .tail _ (List.mem_append_right _ (hs3 _ <| hs2 _ (hR ▸ hq))), ?_⟩; intro z
       (refine z_split 6 (j == 0) ∅ (fun hj => ?_) (fun hj => ?_))
       ·intro z
        (refine z_nt 14 (l := (R, PySem.W.listOf vs4.toArray n4) :: (b3 ++ r3)) ∅ ∅ ?_; intro own hnd hof z)
        refine z_endW 99 (own := own) (v := .ref (adr own 1)) hP ∅ ∅ ∅ (hZ _ _ (sown_out (n1 := n4) ok4 S3 of3 (off_E hof) (fun q hq => hs3 _ (hs2 _ hq)) ((g2.trans g3).le (by lia)) (tmS (i := 0) (fun p hp => List.mem_append_left _ hp) ∅ ∅ (.cons (ta2.mono fun p hp => List.mem_append_right _ (hs3 _ hp)) (.cons (ta3.mono fun p hp => List.mem_append_right _ hp) .nil))) (.dot (evOf_grow g3 w2) w3) (by simp only [tsz, tszs]; lia) (by simp only [hgt, hgts]; lia) hB hWd))
       ·intro z
        (refine z_nt 25 (l := (R, PySem.W.listOf vs4.toArray n4) :: (b3 ++ r3)) ∅ ∅ ?_; intro own hnd hof z)
        refine z_endW 99 (own := own) (v := .ref (adr own 2)) hP ∅ ∅ ∅ (hZ _ _ (sown_out (n1 := n4) ok4 S3 of3 (off_E hof) (fun q hq => hs3 _ (hs2 _ hq)) ((g2.trans g3).le (by lia)) (tmS (i := 1) (fun p hp => List.mem_append_left _ hp) ∅ ∅ (.cons (ta2.mono fun p hp => List.mem_append_right _ (hs3 _ hp)) (.cons (tmA (k := 0) (j := 0) (fun p hp => List.mem_append_left _ hp) ∅) .nil))) (.dot (evOf_grow g3 w2) (.a (nil_good B3))) (by simp only [tsz, tszs]; lia) (by simp only [hgt, hgts]; lia) hB hWd))
      ·intro z
       (refine z_meth 99 (zR hR i1) (zR hR i2) ∅ ?_; intro z)
       refine z_laddS 99 0 [Str.ofString ","] (zR hR hWd) (by rw [hwv.len]; decide) ∅ ∅ ?_; intro ws hws sz z
       refine z_call 99 (fun t => next_P (n := n3) ok3 of3 6 (tm := t 1)) (by lia) ∅ ∅ ?_
       rintro _ _ ⟨m0, m9, ok4⟩ tk2 sz2
       rename_i j tj vs4 n4
       refine ⟨fun q hq => .tail _ (List.mem_append_right _ (hs3 _ <| hs2 _ (hR ▸ hq))), ?_⟩; intro z
       obtain ⟨x, hx, tx, ex⟩ := words_get (hwv.app hws) m0 m9 (by decide)
       refine z_itemLO 99 1 m0 (by lia) ex ∅ ∅ ?_; intro z
       refine z_call 99 (fun t => func_P (o := PySem.W.listOf vs4.toArray n4) S3 of3 (by lia) (by lia) x 2 (t 1) (t 2)) (by lia) ∅ ∅ ?_
       rintro _ _ ⟨hs4, of4, S4⟩ tk2 sz2
       rename_i t4 b4 r4
       refine ⟨fun q hq => .tail _ (List.mem_append_right _ (hs4 _ (hs3 _ (hs2 _ (hR ▸ hq))))), ?_⟩; intro z
       have gf := grow_func T3 F3 x 2
       (refine z_nt 20 (l := (R, PySem.W.listOf vs4.toArray n4) :: (b4 ++ r4)) ∅ ∅ ?_; intro own hnd hof z)
       refine z_endW 99 (own := own) (v := .ref (adr own 3)) hP ∅ ∅ ∅ (hZ _ _ (sown_out (n1 := n4) ok4 S4 of4 (off_E hof) (fun q hq => hs4 _ (hs3 _ (hs2 _ hq))) (((g2.trans g3).trans gf).le (by lia)) (tmS (i := 2) (fun p hp => List.mem_append_left _ hp) ∅ ∅ (.cons (ta2.mono fun p hp => List.mem_append_right _ (hs4 _ (hs3 _ hp))) (.cons (ta3.mono fun p hp => List.mem_append_right _ (hs4 _ hp)) .nil))) (wf_func (args := [_, _]) B3 (words6_ok _ hx) (by lia) (by lia) (List.prefix_refl _) (List.prefix_refl _) (by simp) (by simp) (.cons (evOf_grow gf (evOf_grow g3 w2)) (.cons (evOf_grow gf w3) .nil))) (by simp only [tsz, tszs]; lia) (by simp only [hgt, hgts]; lia) hB hWd))
  ·intro z
   (refine z_join 4 (sown_tail (n := n1) (td := td) (deep := deep) (v := v) (Nat.le_trans (by decide) hD) hP hZ hR ok1 S hoff hB (by lia) (by lia) hWd hwv t) ∅)
 (refine z_split 10 (decide (0 < deep)) ∅ (fun hd => ?_) (fun hd => ?_))
 ·intro z
  (refine z_joinI 11 (E ((k + 6).fmod 9) (fmod9 _).1 (fmod9 _).2) ∅)
 ·intro z
  (refine z_joinI 11 (E ((k + 0).fmod 9) (fmod9 _).1 (fmod9 _).2) ∅)
end
end
section
set_option tactic.hygienic false
theorem sown2 {w : World} {a : Sy} {R Wd : Addr} : SownSpec w a R Wd 2 4 3 1 := sown_step 2 (by decide) (by decide) (by decide) (by decide) (by decide) (sown_leaf _ rfl)
theorem sown1 {w : World} {a : Sy} {R Wd : Addr} : SownSpec w a R Wd 1 5 7 2 := sown_step 1 (by decide) (by decide) (by decide) (by decide) (by decide) sown2
theorem sown0 {w : World} {a : Sy} {R Wd : Addr} : SownSpec w a R Wd 0 6 15 3 := sown_step 0 (by decide) (by decide) (by decide) (by decide) (by decide) sown1
section
variable {w : World} {A : Around} {E : Value → Shared → Prop} {s : Shared} {h₀ : Heap} {L : Addr} {m mg mb : Str → Option Value} {mean : ExcName → Option Value} {news : List (Addr × Obj)} {Q : Value → Shared → Prop}
theorem enter_fnH {d : Nat} {f : Addr} {name qual : Str} {params : Arguments} {body : List Stmt} {scope : Scope} {snames : List (Str × NameKind)} {smore} {dV kV doc pm cdv ct oc : Value} {an od : Option Addr} {osl : Array (Option Value)} {fd : FuncData} {args : Args} {binds : List (Str × Value)}
  (F : Fr h₀ L s.heap m) (N : News h₀ L s.heap news) (X : (K w.params).In h₀) (T : TopAt mean mg mb h₀)
  (ho : (K w.params).lookup f = some ⟨oc, od, .func fd, osl⟩) (hfd : fd = fnOf name qual params body scope dV kV doc pm an cdv ct) (hsc : scope = ⟨.function, snames, false, false, smore⟩) (hcd : codeIn (K w.params) cdv qual = true) (hr : Room A (d + 1))
  (hbind : BindsTo s (fnOf name qual params body ⟨.function, snames, false, false, smore⟩ dV kV doc pm an cdv ct) args binds) (hloc : ∀ y ∈ binds, snames.lookup y.1 = some .local)
  (hcell : ∀ x ∈ snames, x.2 ≠ .cell)
  (h : ∀ g L' h₁, (∀ b o, h₀.get? b = some o → g.get? b = some o) → Fr g L' h₁ (fun y => binds.reverse.lookup y) → News g L' h₁ news → (K w.params).In g → TopAt mean mg mb g → (∀ p ∈ news, p.1 < L') → Room (A.deeper (envOf qual ⟨.function, snames, false, false, smore⟩ L' f cdv)) d →
   wpAny (model pw w) (A.deeper (envOf qual ⟨.function, snames, false, false, smore⟩ L' f cdv)) (execs body (envOf qual ⟨.function, snames, false, false, smore⟩ L' f cdv))
    (fun fl s' => Back s.heap news h₀ L m g Q (match fl with | .ret v => v | _ => .none) s') (fun _ _ => False) { s with heap := h₁, toks := s.toks + binds.length }) :
  codeAny (model pw w) A (.call (.ref f) args) (fun r s' => match r with | .ok (.ret v) => Q v s' | .ok _ => False | .error e => E e s') s := by
 subst hsc
 subst hfd
 have nm : ∀ b o, h₀.get? b = some o → b ∉ news.map (·.1) := fun b o e q => by
  obtain ⟨p, hp, rfl⟩ := List.mem_map.mp q
  rw [(N p hp).2.2] at e; cases e
 have st : ∀ b o, h₀.get? b = some o → (hideAll s.heap (news.map (·.1))).get? b = some o := fun b o e => hideAll_get _ (F.keep b o e) (nm b o e)
 obtain ⟨oL, es, ep, hL, hLd, hLk, hLf⟩ := F.ns
 have nL : L ∉ news.map (·.1) := fun q => by
  obtain ⟨p, hp, e⟩ := List.mem_map.mp q
  exact (N p hp).2.1 e
 have hLg := hideAll_get (news.map (·.1)) hL nL
 refine codeAny_call_def (fd := fnOf name qual params body ⟨.function, snames, false, false, smore⟩ dV kV doc pm an cdv ct) (body := body) (binds := binds) hr.lt ((X.keeps F.keep) _ _ ho) rfl (T.nolimit.keeps F.keep) (codeRec_of (X.keeps F.keep) hcd) rfl hbind hcell hloc (fun h₁ hns hk₁ => ?_) rfl rfl rfl
 refine wpAny_mono (h (hideAll s.heap (news.map (·.1))) s.heap.objs.size h₁ st ⟨hns, fun b o e => hk₁ b o (of_hideAll _ e), Nat.le_of_eq (hideAll_size _ _)⟩
  (fun p hp => ⟨hk₁ _ _ (N p hp).1, Nat.ne_of_lt (Heap.lt_size (N p hp).1), hideAll_none _ (List.mem_map_of_mem hp)⟩) (X.keeps st) (T.keeps st) (fun p hp => Heap.lt_size (N p hp).1) hr.deeper) (fun fl s' hl => ?_) (fun _ _ y => y.elim)
 obtain ⟨L', m', news', F', N', k⟩ := hl
 refine k ⟨⟨oL, es, ep, F'.keep L oL hLg, hLd, hLk, hLf⟩, fun b o e => F'.keep b o (st b o e), F.above⟩ ⟨fun p hp => ⟨(N' p hp).1, fun q => ?_, ?_⟩, fun b o e hb => F'.keep b o (hideAll_get _ e fun q => ?_), fun p hp => ?_⟩
 ·have := (N' p hp).2.2; rw [q, hLg] at this; cases this
 ·cases q : h₀.get? p.1 with
  | none => rfl
  | some o => have := (N' p hp).2.2; rw [st _ _ q] at this; cases this
 ·obtain ⟨p, hp, e'⟩ := List.mem_map.mp q
  exact hb p hp e'
 ·cases q : s.heap.get? p.1 with
  | none => exact .inl rfl
  | some o =>
   refine .inr (Classical.byContradiction fun hn => ?_)
   have := (N' p hp).2.2
   rw [hideAll_get _ q fun hm => hn (by obtain ⟨z, hz, e⟩ := List.mem_map.mp hm; exact ⟨z, hz, e⟩)] at this
   cases this
end
theorem ints_at {ws : List Value} {ms : List Int} (h : IntsAre ws ms) : ∀ {i : Nat} {v : Value}, ws[i]? = some v → ∃ k t, v = .int k t := by
 induction h with
 | nil => intro i v e; simp at e
 | cons _ _ _ ih =>
  intro i v e
  cases i with
  | zero => simp at e; exact ⟨_, _, e.symm⟩
  | succ i => exact ih (by simpa using e)
structure DoesH (H : Heap → Prop) (w : World) (f : Addr) (d : Nat) (args : List Value) (led : List (Addr × Obj)) (post : Value → List (Addr × Obj) → Prop) : Prop where
 run : ∀ {A : Around} {E : Value → Shared → Prop} {s : Shared} {h₀ : Heap} {L : Addr} {m mg mb : Str → Option Value} {mean : ExcName → Option Value} {Q : Value → Shared → Prop},
  H h₀ → Room A d → Fr h₀ L s.heap m → News h₀ L s.heap led → (K w.params).In h₀ → TopAt mean mg mb h₀ →
  (∀ h' tk r led', post r led' → Fr h₀ L h' m → NewsX s.heap led h₀ L h' led' → Q r { s with heap := h', toks := tk }) →
  codeAny (model pw w) A (.call (.ref f) ⟨args, []⟩) (fun r s' => match r with | .ok (.ret v) => Q v s' | .ok _ => False | .error e => E e s') s
theorem z_inH {w : World} {d : Nat} {f : Addr} {args : List Value} (binds : List (Str × Value)) {H : Heap → Prop} (hm : ∀ h g : Heap, (∀ b o, h.get? b = some o → g.get? b = some o) → H h → H g) {post : Value → List (Addr × Obj) → Prop} (e1 : atL w f = atR w f) (e2 : entOk w.params f binds = true) (e3 : bindArgs (fnAt w f) ⟨args, []⟩ = Sem.pure binds)
  (h : ∀ (Z : Value → List (Addr × Obj) → Prop), (∀ v l, post v l → Z v l) → ∀ (G : ZG w (nmAt w f) d) (tk sz : Nat), G.P = ZFin Z → G.R = [] → H G.g → let z := zstart w f binds [] [] tk sz; ZT G z) : DoesH H w f (d + 1) args [] post := by
 unfold entOk at e2
 rw [Bool.and_eq_true, Bool.and_eq_true] at e2
 refine ⟨fun {A E s h₀ L m mg mb mean Q} hH hr F N X T k => ?_⟩
 refine enter_fnH F N X T e1 rfl rfl e2.1 hr (BindsTo.of_eq e3) (locs1 e2.2.1) (fun x hx q => ?_) fun g L' h₁ kg F' N' X' T' l1 hr' => ?_
 ·have := List.all_eq_true.mp e2.2.2 x hx
  rw [q] at this
  exact absurd this (by decide)
 ·let G : ZG w (nmAt w f) d := ⟨_, g, L', { s with heap := h₁, toks := s.toks + binds.length }, envOf (fdAt w.params f).qualname ⟨.function, nmAt w f, false, false, (fdAt w.params f).scope.more⟩ L' f (fdAt w.params f).code, [], [], [], (fun _ => none), ZFin post, mg, mb, mean, X', T', hr', ⟨(fdAt w.params f).qualname, false, false, (fdAt w.params f).scope.more, f, (fdAt w.params f).code, rfl⟩⟩
  refine wpAny_mono ((h post (fun _ _ q => q) G (s.toks + binds.length) h₁.objs.size rfl rfl (hm _ _ kg hH)).s _ ⟨rfl, rfl, (mf_look binds.reverse).symm ▸ F', (fun p hp => nomatch hp), List.nodup_nil, (fun _ h => nomatch h), (fun p hp => nomatch hp), (fun p hp => nomatch hp), (fun _ h => nomatch h)⟩) (fun fl s'' hh => ?_) fun _ _ f => f
  obtain ⟨σ', a', l3, hp, hs3⟩ := hh
  refine back_ a'.fr (news_sub a'.nw hs3) fun kF kN => ?_
  have e9 : s'' = { s with heap := s''.heap, toks := σ'.tk } := a'.st
  rw [e9]
  cases fl <;> exact k _ _ _ l3 hp kF kN
section
variable {w : World}
theorem law_row_S {l : Addr} {vs : List Value} {ns : List Int} (hI : IntsAre vs ns) (hn : ns.length ≤ 63) (hlay : (PyData.list (ns.map PyData.int)).layable0 = true) : DoesH (fun h => h.IsList l vs.toArray) w 491 3 [.ref l] [] (fun r led => ∃ R us n, r = .ref R ∧ led = [(R, PySem.W.listOf us.toArray n)] ∧ RowOk us) := by
 have hvl : vs.length ≤ 63 := by rw [hI.length]; exact hn
 refine z_inH [("script", .ref l)] (fun h g kg hl => let ⟨o, e, r⟩ := hl; ⟨o, kg _ _ e, r⟩) ∅ ∅ ∅ ?_
 intro Z hZ G tk sz hP hR hl z
 refine z_sl 99 lit_none (lit_int (i := 40) (k := 0) (p := ⟨443, 24, 443, 26⟩)) (p := ⟨443, 23, 443, 26⟩) ∅ ?_; intro z
 refine z_slL 99 1 (l := l) (D := sz + 1) (vs := vs) (ns := ns) (y := 40) (t2 := tk + 1) hl hI (by decide) (by lia) ∅ ∅ ?_; intro ws hW z
 have hwl : ws.length ≤ 40 := by rw [hW.length, List.length_take]; lia
 refine z_side 99 (own := [(sz, PySem.W.listOf #[] 0), (sz + 1, slO .none (.int 40 (tk + 1))), (sz + 2, PySem.W.listOf ws.toArray 0)]) (own' := [(sz, PySem.W.listOf #[] 0)]) (led := []) (led' := [(sz + 2, PySem.W.listOf ws.toArray 0)]) ∅ ∅ ∅ (fun p hp => by simp only [List.mem_append, List.mem_cons, List.not_mem_nil, or_false] at hp ⊢; rcases hp with h | h <;> simp [h]) (fun nd _ => ⟨by simp, by simp⟩) (fun p hp => by rw [hR] at hp; cases hp) ?_; intro z
 refine z_for 99 (iters_list (tp := sz + 2) (vs := ws) (n := 0) (R' := [(sz + 2, PySem.W.listOf ws.toArray 0)]) (.head _)) (fun i ns own led => ns = ([("row", .ref sz)] : List (Str × Value)) ∧ led = [(sz + 2, PySem.W.listOf ws.toArray 0)] ∧ ∃ us k, own = [(sz, PySem.W.listOf us.toArray k)] ∧ RowOk us) (ns := [("row", .ref sz)]) (own := [(sz, PySem.W.listOf #[] 0)]) (led := [(sz + 2, PySem.W.listOf ws.toArray 0)]) ∅ ∅ ∅ ∅ (fun p hp => by rw [hR] at hp; cases hp) (fun _ h => h) ⟨rfl, rfl, [], 0, rfl, ⟨by simp, by simp⟩⟩ ?_ ?_
 ·rintro i v nm1 m own led tk2 sz2 hi hv ⟨rfl, rfl, us, k, rfl, ok⟩ G' hR' hP' z
  obtain ⟨q, t, rfl⟩ := ints_at hW hv
  have hlen := ok.len
  refine z_op 99 (md := fun t => .pc (.type "int") [.int q (t 0)]) (fun t => .int q t) (fun tt s _ Q h => call_int_int (h _ _)) ∅ ∅ ?_; intro t1 tk3 z
  refine z_lenLO 99 0 (vs := us) ∅ (by lia) ∅ ?_; intro z
  refine z_min 99 (x := 30) (y := 90 - us.length) ∅ ?_; intro t3 tk4 sz4 z
  have b0 : (0 : Int) ≤ (if (90 - us.length : Int) < 30 then (90 - us.length : Int) else 30) := by split <;> lia
  have b1 : (if (90 - us.length : Int) < 30 then (90 - us.length : Int) else 30) ≤ 30 := by split <;> lia
  have b2 : (if (90 - us.length : Int) < 30 then (90 - us.length : Int) else 30) ≤ 90 - us.length := by split <;> lia
  generalize hb : (if (90 - us.length : Int) < 30 then (90 - us.length : Int) else 30) = B at *
  refine z_range 99 (k := B) ∅ ?_; intro r u1 u2 u3 tk5 sz5 z
  refine z_for 99 (iters_range (r := r) (n := B) (t := u1) (u := u2) (v := u3) (R' := [(sz + 2, PySem.W.listOf ws.toArray 0)]) b0 b1) (fun i ns own led => (∃ k t, ns = ([("row", .ref sz), ("rest", .int k t)] : List (Str × Value))) ∧ led = [(sz + 2, PySem.W.listOf ws.toArray 0)] ∧ ∃ us2 k, own = [(sz, PySem.W.listOf us2.toArray k)] ∧ us2.length ≤ us.length + i ∧ ∀ v ∈ us2, ∃ k t, v = .int k t ∧ 0 ≤ k ∧ k < 96) (ns := [("row", .ref sz), ("rest", .int q t1)]) (own := [(sz, PySem.W.listOf us.toArray k)]) (led := [(sz + 2, PySem.W.listOf ws.toArray 0)]) ∅ ∅ ∅ ∅ (fun p hp => hR' ▸ hp) (fun _ h => h) ⟨⟨q, t1, rfl⟩, rfl, us, k, rfl, Nat.le_refl _, ok.isInt⟩ ?_ ?_
  ·rintro i2 v nm2 m2 own led tk6 sz6 hi2 ⟨tt, rfl⟩ ⟨⟨k2, t2, rfl⟩, rfl, us2, n2, rfl, hl2, hus2⟩ G2 hR2 hP2 z
   have hl3 : us2.length < 90 := by lia
   have hus3 : ∀ (tz : Tok), ∀ v ∈ us2 ++ [Value.int (k2.fmod 96) tz], ∃ k t, v = .int k t ∧ 0 ≤ k ∧ k < 96 := fun tz v hv => by
    rcases List.mem_append.mp hv with h | h
    ·exact hus2 v h
    ·rw [List.mem_singleton.mp h]; exact ⟨_, _, rfl, Int.fmod_nonneg_of_pos k2 (by decide), Int.fmod_lt_of_pos k2 (by decide)⟩
   refine z_lm 99 0 PySem.F.slot_list_append PySem.F.type_list_append ∅ ?_; intro z
   refine z_append 99 0 ∅ (z_sz (b := us2.toArray.size) (Nat.le_trans (by rw [List.size_toArray]; lia) (show 90 ≤ sizeLine by decide)) ∅) ?_; intro z
   refine z_op 99 (md := fun t => .bo .FloorDiv (.int k2 (t 0)) (.int 96 (t 1))) (fun t => .int (k2.fdiv 96) t) (fun tt s _ Q h => PyProof.Rows.floordiv_int (by decide) (h _ _)) ∅ ∅ ?_; intro t8 tk8 z
   (refine z_split 15 (k2.fdiv 96 == 0) ∅ (fun h => ?_) (fun h => ?_))
   ·intro z
    refine z_out 99 hP2 ∅ ?_; intro z
    exact z_turn 99 hP' [("row", .ref sz)] (own := [(sz, PySem.W.listOf (us2.toArray.push (Value.int (k2.fmod 96) (tk6 + 1))) (n2 + 1))]) (led := [(sz + 2, PySem.W.listOf ws.toArray 0)]) ∅ ∅ ∅ ∅ ⟨rfl, rfl, us2 ++ [Value.int (k2.fmod 96) (tk6 + 1)], n2 + 1, by rw [List.push_toArray], ⟨by simp; lia, hus3 _⟩⟩
   ·intro z
    (refine z_split 13 (k2.fdiv 96 == -1) ∅ (fun h => ?_) (fun h => ?_))
    ·intro z
     refine z_out 99 hP2 ∅ ?_; intro z
     exact z_turn 99 hP' [("row", .ref sz)] (own := [(sz, PySem.W.listOf (us2.toArray.push (Value.int (k2.fmod 96) (tk6 + 1))) (n2 + 1))]) (led := [(sz + 2, PySem.W.listOf ws.toArray 0)]) ∅ ∅ ∅ ∅ ⟨rfl, rfl, us2 ++ [Value.int (k2.fmod 96) (tk6 + 1)], n2 + 1, by rw [List.push_toArray], ⟨by simp; lia, hus3 _⟩⟩
    ·intro z
     exact z_turn 99 hP2 [("row", .ref sz), ("rest", .int (k2.fdiv 96) t8)] (own := [(sz, PySem.W.listOf (us2.toArray.push (Value.int (k2.fmod 96) (tk6 + 1))) (n2 + 1))]) (led := [(sz + 2, PySem.W.listOf ws.toArray 0)]) ∅ ∅ ∅ ∅ ⟨⟨_, _, rfl⟩, rfl, us2 ++ [Value.int (k2.fmod 96) (tk6 + 1)], n2 + 1, by rw [List.push_toArray], by simp; lia, hus3 _⟩
  ·rintro nm2 m2 own led tk6 sz6 ⟨⟨k2, t2, rfl⟩, rfl, us2, n2, rfl, hl2, hus2⟩ z
   exact z_turn 99 hP' [("row", .ref sz)] (own := [(sz, PySem.W.listOf us2.toArray n2)]) (led := [(sz + 2, PySem.W.listOf ws.toArray 0)]) ∅ ∅ ∅ ∅ ⟨rfl, rfl, us2, n2, rfl, ⟨by lia, hus2⟩⟩
 ·rintro nm1 m own led tk2 sz2 ⟨rfl, rfl, us, k, rfl, ok⟩ z
  have hlen := ok.len
  refine z_lm 99 0 PySem.F.slot_list_reverse PySem.F.type_list_reverse ∅ ?_; intro z
  refine z_cw0 99 ∅ ?_; intro z
  refine z_lrev 99 0 (D := sz) (vs := us) (k := k) (by lia) ∅ ∅ ?_; intro z
  exact z_end2 99 (v := .ref sz) (own := [(sz, PySem.W.listOf us.reverse.toArray k)]) (led := [(sz + 2, PySem.W.listOf ws.toArray 0)]) (l := [(sz, PySem.W.listOf us.reverse.toArray k)]) hP ∅ ∅ ∅ (fun p hp => List.mem_append_left _ hp) (hZ _ _ ⟨sz, us.reverse, k, rfl, rfl, ⟨by simpa using hlen, fun v hv => ok.isInt v (by simpa using hv)⟩⟩)
end
end
section
set_option tactic.hygienic false
theorem ow_eff {e : Ev} : ∀ (n : Nat) (i : It), rank i ≤ n → ItemOk e i → ∀ st : WS, ow (eff e i st).out ≤ ow st.out + 120 * wt i := by
 intro n
 induction n with
 | zero =>
  intro i hr ok st
  cases i with
  | term t m al => have := tsz_pos t; simp only [rank] at hr; lia
  | op fx a => rw [eff_op]; have := ow_op ok.1 fx st; simp only [wt]; lia
  | raw y => rw [eff_raw, ow_raw]; have := ok.2; simp only [wt]; lia
 | succ n ih =>
  intro i hr ok st
  cases i with
  | op fx a => rw [eff_op]; have := ow_op ok.1 fx st; simp only [wt]; lia
  | raw y => rw [eff_raw, ow_raw]; have := ok.2; simp only [wt]; lia
  | term t m al =>
   have okt : TmOk e t := ok
   rw [eff_term]
   have h1 := ow_write okt.wf st m al
   have h2 := writeI_wts (e := e) okt.wf m
   have h3 : ∀ (is : List It), (∀ j ∈ is, rank j ≤ n ∧ ItemOk e j) → ∀ s : WS, ow (is.foldl (fun s i => eff e i s) s).out ≤ ow s.out + 120 * wts is := by
    intro is
    induction is with
    | nil => intro _ s; simp [wts_nil]
    | cons j js ihj =>
     intro hj s
     have g1 := ih j (hj j (.head _)).1 (hj j (.head _)).2 s
     have g2 := ihj (fun k hk => hj k (.tail _ hk)) (eff e j s)
     rw [List.foldl_cons, wts_cons]
     lia
   have h4 := h3 (writeI e t m) (fun j hj => ⟨by have := (writeI_part j hj).rank; simp only [rank] at hr; lia, (writeI_part j hj).ok okt⟩) (st.write e t m al)
   simp only [wt]
   lia
theorem textOf_len {e : Ev} {t : Tm} (ok : TmOk e t) (most : Int) : (textOf e t most).length ≤ 60000 := by
 unfold textOf
 rw [cat_len]
 have h := ow_eff (e := e) _ (.term t most (decide (1201 ≤ most))) (Nat.le_refl _) ok ⟨[], none, false, []⟩
 have h2 := ok.sz
 simp only [wt] at h
 have h3 : ow ([] : List Str) = 0 := rfl
 unfold ow at *
 simp only [List.map_nil, List.sum_nil, List.length_nil] at h
 lia
theorem text_in {α : Type} {E b rest : List α} : ∀ p ∈ b ++ (E ++ rest), p ∈ E ++ (b ++ rest) := by
 intro p hp
 simp only [List.mem_append] at hp ⊢
 rcases hp with h | h | h
 ·exact .inr (.inl h)
 ·exact .inl h
 ·exact .inr (.inr h)
noncomputable def insideOf (e : Ev) (t : Tm) : Str := Txt.slice (textOf e (.s 0 [t, .a 0]) 1201) (some 1) (some (-1))
section
variable {w : World} {rest b : List (Addr × Obj)} {c : Wc} {st : WS} {e : Ev}
theorem inside_S (S : WrIn w c st b rest) (R : Rd w c e rest) (T0 : TabOk e) {t : Tm} {d : Addr} (ht : TermAt rest t d) (ok : TmOk e (.s 0 [t, .a 0])) :
  Does w 512 13 [.ref c.x, .ref d] (b ++ rest) (fun r l => (∃ t', r = .str (insideOf e t) t') ∧ ∃ O W st' b' rest', l = b' ++ rest' ∧ (∀ p ∈ rest, p ∈ rest') ∧ WrIn w { c with O := O, W := W } st' b' rest') := by
 refine z_in [("scribe", .ref c.x), ("term", .ref d)] (R := rest) (fun p hp => List.mem_append_right _ hp) ∅ ∅ ∅ ?_
 intro Z hZ G tk sz hP hR z
 refine z_wmt 99 S ∅ ∅ ?_; intro z
 refine z_own 99 (l := b ++ rest) ∅ ∅ ?_; intro own hnd hof _ z
 have e8 : own = [(sz, tupO [.str "a" (tk + 1), .int 0 196]), (sz + 1, tupO [.ref d, .ref sz]), (sz + 2, tupO [.str "s" tk, .int 0 204, .ref (sz + 1)])] := by kernel_rfl
 rw [e8] at hof
 have hT : TermAt ([(sz, tupO [.str "a" (tk + 1), .int 0 196]), (sz + 1, tupO [.ref d, .ref sz]), (sz + 2, tupO [.str "s" tk, .int 0 204, .ref (sz + 1)])] ++ rest) (.s 0 [t, .a 0]) (sz + 2) := .s (.tail _ (.tail _ (.head _))) (.tail _ (.head _)) (.cons (ht.mono fun p hp => .tail _ (.tail _ (.tail _ hp))) (.cons (.a (.head _)) .nil))
 refine z_side 99 (own := [(sz, tupO [.str "a" (tk + 1), .int 0 196]), (sz + 1, tupO [.ref d, .ref sz]), (sz + 2, tupO [.str "s" tk, .int 0 204, .ref (sz + 1)])]) (own' := []) (led := b ++ rest) (led' := b ++ ([(sz, tupO [.str "a" (tk + 1), .int 0 196]), (sz + 1, tupO [.ref d, .ref sz]), (sz + 2, tupO [.str "s" tk, .int 0 204, .ref (sz + 1)])] ++ rest)) ∅ ∅ ∅ (fun p hp => text_in p hp) (fun _ _ => ⟨List.nodup_nil, fun _ h => nomatch h⟩) (fun p hp => List.mem_append_right _ (List.mem_append_right _ (hR ▸ hp))) ?_; intro z
 have T1 := text_any (w := w) (S.app _ fun p hp q hq => hof p hp q (List.mem_append_left _ hq)) (R.mono fun p hp => List.mem_append_right _ hp) T0 hT ok (.inr ⟨rfl, rfl, rfl⟩)
 generalize hE : [(sz, tupO [.str "a" (tk + 1), .int 0 196]), (sz + 1, tupO [.ref d, .ref sz]), (sz + 2, tupO [.str "s" tk, .int 0 204, .ref (sz + 1)])] = E at *
 refine z_call 99 (fun _ => T1) (by decide) ∅ ∅ ?_
 rintro _ _ ⟨⟨t', rfl⟩, O, W, st', b', rest', rfl, hs', S'⟩ tk2 sz2
 refine ⟨fun p hp => List.mem_append_right _ (hs' p (List.mem_append_right _ (hR ▸ hp))), ?_⟩; intro z
 have hlen := textOf_len ok 1201
 refine z_sl 99 (lit_int (i := 1) (k := 0) (p := ⟨472, 59, 472, 60⟩)) (lit_neg (i := 1) (k := 0) (p := ⟨472, 62, 472, 63⟩) (p' := ⟨472, 61, 472, 63⟩)) (p := ⟨472, 59, 472, 63⟩) ∅ ?_; intro z
 refine z_slS 99 0 (x := textOf e (.s 0 [t, .a 0]) 1201) (lo := 1) (hi := -1) (t1 := tk2) (t2 := tk2 + 1 + 1) (D := sz2) ∅ (by lia) ∅ ?_; intro t9 tk9 z
 exact z_end 99 hP ∅ ∅ (hZ (.str (insideOf e t) t9) _ ⟨⟨t9, rfl⟩, O, W, st', b', rest', rfl, fun p hp => hs' p (List.mem_append_right _ hp), S'⟩)
end
end
section
section
variable {w : World} {A : Around} {E : Value → Shared → Prop} {s : Shared} {h₀ : Heap} {L : Addr} {led : List (Addr × Obj)} {value slice : Expr} {l : Addr} {vs : List Value} {n : Nat} {u : Tok} {v : Value} {Q : Value → Shared → Prop}
theorem item_end (N : News h₀ L s.heap led) (hm : (l, PySem.W.listOf vs.toArray n) ∈ led) (h1 : 1 ≤ vs.length) (hx : vs.toArray[((-1 : Int) + vs.toArray.size).toNat]? = some v) (h : Q v s)
  (hs : subscripted slice false (.ref l) (.int (-1) u) = operate [.ref l, .int (-1) u] (getItem (.ref l) (.int (-1) u))) : wpAny (model pw w) A (subscriptTail value slice (.ref l) (.int (-1) u)) Q E s :=
 have hl : s.heap.IsList l vs.toArray := ⟨_, (N _ hm).1, rfl, _, rfl⟩
 tail_any hl.typeIs slot_list_getitem.lookup (wpAny_getItem_list_neg hl (by decide) (by simp; lia) (by decide) hx h) hs
end
section
variable {w : World} {N : List (Str × NameKind)} {d : Nat} {G : ZG w N d} {c : ZC}
theorem z_itemE (n : Nat) {a : Addr} {vs : List Value} {k : Nat} {v : Value} (hm : ZHas G (zgo N w.params n c) (a, PySem.W.listOf vs.toArray k)) (hx : vs.getLast? = some v) (hv : ilOf (zgo N w.params n c) = some (a, -1)) (h : let c' := zput (zgo N w.params n c) v; ZT G c') : ZT G c := by
 refine ZT.go n ?_
 generalize zgo N w.params n c = c1 at *
 obtain ⟨σ, k, md⟩ := c1
 obtain ⟨v1, s, o, iv, rfl, e1⟩ := onSu_ok hv none_ne
 obtain ⟨a', rfl, e2⟩ := onRef_ok e1 none_ne
 obtain ⟨i', u, rfl, e3⟩ := onInt_ok e2 none_ne
 obtain ⟨hc, e4⟩ := cond_ok e3 none_ne
 obtain ⟨rfl, e5⟩ := Prod.mk.inj (Option.some.inj e4)
 subst e5
 have hl : 1 ≤ vs.length := by
  cases vs with
  | nil => cases hx
  | cons _ _ => simp
 intro st at'
 refine item_end at'.nw (hm.at at') hl ?_ ⟨σ, at', h.s⟩ (slice_no ((Bool.not_eq_true' _).mp hc))
 rw [List.getLast?_eq_getElem?] at hx
 rw [List.size_toArray, show ((-1 : Int) + (vs.length : Int)).toNat = vs.length - 1 by lia]
 simpa using hx
end
inductive PT (w : World) (c : Wc) (rest : List (Addr × Obj)) (x : Str) : Value → List (Addr × Obj) → Prop
 | mk {t : Tok} {O W : Addr} {st' : WS} {b' rest' : List (Addr × Obj)} (hs : ∀ p ∈ rest, p ∈ rest') (S : WrIn w { c with O := O, W := W } st' b' rest') : PT w c rest x (.str x t) (b' ++ rest')
section
variable {w : World} {rest b : List (Addr × Obj)} {c : Wc} {st : WS} {e : Ev}
theorem PT.ex {x : Str} {r : Value} {l : List (Addr × Obj)} (h : PT w c rest x r l) : (∃ t', r = .str x t') ∧ ∃ O W st' b' rest', l = b' ++ rest' ∧ (∀ p ∈ rest, p ∈ rest') ∧ WrIn w { c with O := O, W := W } st' b' rest' := by
 cases h with
 | mk hs S => exact ⟨⟨_, rfl⟩, _, _, _, _, _, rfl, hs, S⟩
theorem PT.move {r0 : List (Addr × Obj)} {O W : Addr} {x : Str} {r : Value} {l : List (Addr × Obj)} (hs : ∀ p ∈ r0, p ∈ rest) (h : PT w { c with O := O, W := W } rest x r l) : PT w c r0 x r l := by
 cases h with
 | mk hs' S => exact .mk (fun p hp => hs' p (hs p hp)) S
theorem text_T (S : WrIn w c st b rest) (R : Rd w c e rest) (T0 : TabOk e) {t : Tm} {d : Addr} (ht : TermAt rest t d) (ok : TmOk e t) {most : Int} {tm : Tok} {args : List Value} (hargs : args = [.ref c.x, .ref d, .int most tm] ∨ (args = [.ref c.x, .ref d] ∧ most = 1201 ∧ tm = 561)) :
  Does w 357 11 args (b ++ rest) (fun r l => (∃ t', r = .str (textOf e t most) t') ∧ ∃ O W st' b' rest', l = b' ++ rest' ∧ (∀ p ∈ rest, p ∈ rest') ∧ WrIn w { c with O := O, W := W } st' b' rest') := text_any S R T0 ht ok hargs
theorem text_PT (S : WrIn w c st b rest) (R : Rd w c e rest) (T0 : TabOk e) {t : Tm} {d : Addr} (ht : TermAt rest t d) (ok : TmOk e t) {most : Int} {tm : Tok} : Does w 357 11 [.ref c.x, .ref d, .int most tm] (b ++ rest) (PT w c rest (textOf e t most)) :=
 Does.weak (text_T S R T0 ht ok (.inl rfl)) (by rintro r l ⟨⟨t, rfl⟩, O, W, st', b', rest', rfl, hs, S'⟩; exact ⟨_, .mk hs S', fun _ h => h⟩)
variable {N : List (Str × NameKind)} {dep : Nat} {G : ZG w N dep} {z : ZC}
theorem z_callPT (n : Nat) {f dd : Nat} {args : (Nat → Tok) → List Value} {R' : List (Addr × Obj)} {x : Str} (D : ∀ t : Nat → Tok, Does w f dd (args t) (b ++ rest) (PT w c rest x)) (hd : dd ≤ dep) (hR : G.R = R') (hs : ∀ p ∈ R', p ∈ rest) (hl : (zgo N w.params n z).σ.led = b ++ rest) (hv : clOf (zgo N w.params n z) = some (f, args (tks (zgo N w.params n z))))
  (h : ∀ t O W st' b' rest', (∀ p ∈ rest, p ∈ rest') → WrIn w { c with O := O, W := W } st' b' rest' → ∀ tk sz, let c' := zres (zgo N w.params n z) (.str x t) (zgo N w.params n z).σ.own (b' ++ rest') tk sz; ZT G c') : ZT G z := by
 refine z_call n D hd hv hl ?_
 rintro _ _ ⟨hs', S'⟩ tk sz
 exact ⟨fun p hp => List.mem_append_right _ (hs' p (hs p (hR ▸ hp))), h _ _ _ _ _ _ hs' S' tk sz⟩
end
theorem kd_first (k : Kd) : (Txt.item k.text 0 == ("f" : Str)) = decide (k.side = .pre) ∧ (k.side ≠ .pre → ∀ h : Int, (bnd h k).1 = if (Txt.item k.text 0 == ("y" : Str)) = true then h else h - 1) := by
 cases k <;> exact ⟨by kernel_rfl, fun _ h => by first | exact (if_pos ∅).symm | exact (if_neg (ne_true ∅)).symm | (rename_i q; exact absurd rfl q)⟩
theorem kd_last (k : Kd) : (Txt.item k.text (-1) == ("f" : Str)) = decide (k.side = .post) ∧ (k.side ≠ .post → ∀ h : Int, (bnd h k).2 = if (Txt.item k.text (-1) == ("y" : Str)) = true then h else h - 1) := by
 cases k <;> exact ⟨by kernel_rfl, fun _ h => by first | exact (if_pos ∅).symm | exact (if_neg (ne_true ∅)).symm | (rename_i q; exact absurd rfl q)⟩
theorem kd_len (k : Kd) : 2 ≤ k.text.length ∧ k.text.length ≤ 3 := by cases k <;> decide +kernel
noncomputable def besL (e : Ev) (x : Tm) (h : Int) (k : Kd) (sg : Str) : Str := if k.side = .pre then sg else textOf e x (leftLim e x h (bnd h k).1) ++ sg
noncomputable def besT (e : Ev) (x y : Tm) (h : Int) (k : Kd) (sg : Str) : Str := if k.side = .post then besL e x h k sg else besL e x h k sg ++ textOf e y (bnd h k).2
section
variable {w : World} {rest b : List (Addr × Obj)} {c : Wc} {st : WS} {e : Ev}
theorem beside_right {Z : Value → List (Addr × Obj) → Prop} {G : ZG w (nmAt w 519) 12} {r0 : List (Addr × Obj)} (hP : G.P = ZFin Z) (hR : G.R = r0) (hs : ∀ p ∈ r0, p ∈ rest) (S : WrIn w c st b rest) (R : Rd w c e rest) (T0 : TabOk e) {Pt dy : Addr} {nP : Nat} {vs : List Value} {y : Tm} {h : Int} {k : Kd} {X : Str} {th tk1 : Tok} (hPt : (Pt, PySem.W.listOf vs.toArray nP) ∈ rest) (hv : vs.getLast? = some (.ref dy)) (hy : TermAt rest y dy) (oky : TmOk e y) (hX : X.length ≤ 70000)
  (hZ : ∀ r l, PT w c r0 (if k.side = .post then X else X ++ textOf e y (bnd h k).2) r l → Z r l) : ∀ lt m tk sz, ZT G ⟨⟨([("line", .str X lt), ("scribe", .ref c.x), ("parts", .ref Pt), ("height", .int h th), ("kind", .str k.text tk1)] : List (Str × Value)) ++ m, [], b ++ rest, tk, sz⟩, [], .ss ((bdAt w 519).drop 2)⟩ := by
 intro lt m tk sz
 have q := kd_last k
 refine z_itemS 99 (x := k.text) (i := -1) (by decide) (by have := (kd_len k).1; lia) (by have := (kd_len k).1; lia) ∅ ?_; intro z
 (refine z_split 6 (!(Txt.item k.text (-1) == ("f" : Str))) ∅ (fun h1 => ?_) (fun h1 => ?_))
 ·intro z
  have hk : k.side ≠ .post := fun e => by rw [q.1, e] at h1; exact absurd h1 (by decide)
  rw [if_neg hk] at hZ
  (refine z_wmt 99 S ∅ ∅ ?_; intro z)
  refine z_itemE 99 (zL ∅ (List.mem_append_right b hPt)) hv ∅ ?_; intro z
  refine z_itemS 99 (x := k.text) (i := -1) (by decide) (by have := (kd_len k).1; lia) (by have := (kd_len k).1; lia) ∅ ?_; intro z
  (refine z_split 6 (Txt.item k.text (-1) == ("y" : Str)) ∅ (fun h2 => ?_) (fun h2 => ?_))
  ·intro z
   have e2 := q.2 hk h
   rw [if_pos h2] at e2
   rw [e2] at hZ
   refine z_callPT 99 (fun t => text_PT (most := h) (tm := t 2) S R T0 hy oky) (by decide) hR hs ∅ ∅ ?_; intro tt O W st2 b2 rest2 hs2 S2 tk2 sz2 z
   have hl := textOf_len oky h
   refine z_addS 99 (x := X) (y := textOf e y h) (by lia) ∅ ?_; intro t9 tk9 z
   exact z_end 99 hP ∅ ∅ (hZ _ _ (.mk (O := O) (W := W) (t := t9) (fun p hp => hs2 p (hs p hp)) S2))
  ·intro z
   have e2 := q.2 hk h
   rw [if_neg (ne_true h2)] at e2
   rw [e2] at hZ
   refine z_callPT 99 (fun t => text_PT (most := (h - 1)) (tm := t 2) S R T0 hy oky) (by decide) hR hs ∅ ∅ ?_; intro tt O W st2 b2 rest2 hs2 S2 tk2 sz2 z
   have hl := textOf_len oky (h - 1)
   refine z_addS 99 (x := X) (y := textOf e y (h - 1)) (by lia) ∅ ?_; intro t9 tk9 z
   exact z_end 99 hP ∅ ∅ (hZ _ _ (.mk (O := O) (W := W) (t := t9) (fun p hp => hs2 p (hs p hp)) S2))
 ·intro z
  have hk : k.side = .post := by rw [q.1] at h1; simpa using h1
  rw [if_pos hk] at hZ
  exact z_end 99 hP ∅ ∅ (hZ _ _ (.mk (O := c.O) (W := c.W) (t := lt) hs S))
theorem beside_any (S : WrIn w c st b rest) (R : Rd w c e rest) (T0 : TabOk e) {Pt dx dy : Addr} {nP : Nat} {vs : List Value} {x y : Tm} {h : Int} {k : Kd} {sg : Str} {th tk1 ts : Tok} (hPt : (Pt, PySem.W.listOf vs.toArray nP) ∈ rest) (hv0 : vs[0]? = some (.ref dx)) (hv : vs.getLast? = some (.ref dy)) (hx : TermAt rest x dx) (okx : TmOk e x) (hy : TermAt rest y dy) (oky : TmOk e y) (h1 : 1 ≤ h) (h2 : h ≤ 1200) (hsg : sg.length ≤ 10) :
  Does w 519 13 [.ref c.x, .ref Pt, .int h th, .str k.text tk1, .str sg ts] (b ++ rest) (PT w c rest (besT e x y h k sg)) := by
 refine z_in [("scribe", .ref c.x), ("parts", .ref Pt), ("height", .int h th), ("kind", .str k.text tk1), ("sign", .str sg ts)] (R := rest) (fun p hp => List.mem_append_right _ hp) ∅ ∅ ∅ ?_
 intro Z hZ G tk sz hP hR z
 have q := kd_first k
 refine z_itemS 99 (x := k.text) (i := 0) (by decide) (by have := (kd_len k).1; lia) (by have := (kd_len k).1; lia) ∅ ?_; intro z
 (refine z_split 6 (!(Txt.item k.text 0 == ("f" : Str))) ∅ (fun g1 => ?_) (fun g1 => ?_))
 ·intro z
  have hk : k.side ≠ .pre := fun e => by rw [q.1, e] at g1; exact absurd g1 (by decide)
  refine z_itemS 99 (x := k.text) (i := 0) (by decide) (by have := (kd_len k).1; lia) (by have := (kd_len k).1; lia) ∅ ?_; intro z
  (refine z_split 6 (Txt.item k.text 0 == ("y" : Str)) ∅ (fun g2 => ?_) (fun g2 => ?_))
  ·intro z
   have e2 := q.2 hk h
   rw [if_pos g2] at e2
   (refine z_wmt 99 S ∅ ∅ ?_; intro z)
   refine z_itemL (i := 0) 99 (zL ∅ (List.mem_append_right b hPt)) (by decide) (by decide) hv0 ∅ ?_; intro z
   (refine z_wmt 99 S ∅ ∅ ?_; intro z)
   refine z_itemL (i := 0) 99 (zL ∅ (List.mem_append_right b hPt)) (by decide) (by decide) hv0 ∅ ?_; intro z
   refine z_callX 99 (fun t => left_limit_S S R T0 hx okx.wf (p := h) (most := h) (t1 := t 2) (t2 := t 3) (by lia) h2) (by decide) hR (fun _ h => h) ∅ ∅ ?_
   rintro _ rest1 hs1 S1 R1 ⟨⟩ tk2 sz2 z
   refine z_callPT 99 (fun t => text_PT (most := leftLim e x h h) (tm := t 2) S1 R1 T0 (hx.mono hs1) okx) (by decide) hR hs1 ∅ ∅ ?_; intro tt O W st2 b2 rest2 hs2 S2 tk2 sz2 z
   have hl := textOf_len okx (leftLim e x h h)
   refine z_addS 99 (x := textOf e x (leftLim e x h h)) (y := sg) (by lia) ∅ ?_; intro t9 tk9 z
   have hup : ∀ p ∈ rest, p ∈ rest2 := fun p hp => hs2 p (hs1 p hp)
   have hb : besL e x h k sg = textOf e x (leftLim e x h h) ++ sg := by rw [besL, if_neg hk, e2]
   (refine z_joinN 5 [("line", .str (textOf e x (leftLim e x h h) ++ sg) t9), ("scribe", .ref c.x), ("parts", .ref Pt), ("height", .int h th), ("kind", .str k.text tk1)] (beside_right (c := { c with O := O, W := W }) (X := textOf e x (leftLim e x h h) ++ sg) (th := th) (tk1 := tk1) hP hR hup S2 (rd_move (R.mono hup) O W) T0 (hup _ hPt) hv (hy.mono hup) oky (by rw [Str.length_append]; lia) (fun r l q => hZ r l (by rw [besT, hb]; exact q.move (fun _ h => h))) t9) ∅ ∅ ∅ ∅ ∅)
  ·intro z
   have e2 := q.2 hk h
   rw [if_neg (ne_true g2)] at e2
   (refine z_wmt 99 S ∅ ∅ ?_; intro z)
   refine z_itemL (i := 0) 99 (zL ∅ (List.mem_append_right b hPt)) (by decide) (by decide) hv0 ∅ ?_; intro z
   (refine z_wmt 99 S ∅ ∅ ?_; intro z)
   refine z_itemL (i := 0) 99 (zL ∅ (List.mem_append_right b hPt)) (by decide) (by decide) hv0 ∅ ?_; intro z
   refine z_callX 99 (fun t => left_limit_S S R T0 hx okx.wf (p := h) (most := (h - 1)) (t1 := t 2) (t2 := t 3) (by lia) h2) (by decide) hR (fun _ h => h) ∅ ∅ ?_
   rintro _ rest1 hs1 S1 R1 ⟨⟩ tk2 sz2 z
   refine z_callPT 99 (fun t => text_PT (most := leftLim e x h (h - 1)) (tm := t 2) S1 R1 T0 (hx.mono hs1) okx) (by decide) hR hs1 ∅ ∅ ?_; intro tt O W st2 b2 rest2 hs2 S2 tk2 sz2 z
   have hl := textOf_len okx (leftLim e x h (h - 1))
   refine z_addS 99 (x := textOf e x (leftLim e x h (h - 1))) (y := sg) (by lia) ∅ ?_; intro t9 tk9 z
   have hup : ∀ p ∈ rest, p ∈ rest2 := fun p hp => hs2 p (hs1 p hp)
   have hb : besL e x h k sg = textOf e x (leftLim e x h (h - 1)) ++ sg := by rw [besL, if_neg hk, e2]
   (refine z_joinN 5 [("line", .str (textOf e x (leftLim e x h (h - 1)) ++ sg) t9), ("scribe", .ref c.x), ("parts", .ref Pt), ("height", .int h th), ("kind", .str k.text tk1)] (beside_right (c := { c with O := O, W := W }) (X := textOf e x (leftLim e x h (h - 1)) ++ sg) (th := th) (tk1 := tk1) hP hR hup S2 (rd_move (R.mono hup) O W) T0 (hup _ hPt) hv (hy.mono hup) oky (by rw [Str.length_append]; lia) (fun r l q => hZ r l (by rw [besT, hb]; exact q.move (fun _ h => h))) t9) ∅ ∅ ∅ ∅ ∅)
 ·intro z
  have hk : k.side = .pre := by rw [q.1] at g1; simpa using g1
  have hb : besL e x h k sg = sg := by rw [besL, if_pos hk]
  (refine z_joinN 3 [("line", .str sg ts), ("scribe", .ref c.x), ("parts", .ref Pt), ("height", .int h th), ("kind", .str k.text tk1)] (beside_right (X := sg) (th := th) (tk1 := tk1) hP hR (fun _ h => h) S R T0 hPt hv hy oky (by lia) (fun r l q => hZ r l (by rw [besT, hb]; exact q)) ts) ∅ ∅ ∅ ∅ ∅)
end
end
section
set_option tactic.hygienic false
noncomputable def WS.pfx (o : List Str) (st : WS) : WS := { st with out := o ++ st.out }
theorem pfx_raw (o : List Str) (st : WS) (y : Str) : (st.pfx o).raw y = (st.raw y).pfx o := by simp [WS.pfx, WS.raw]
theorem pfx_token (o : List Str) (st : WS) (y : Str) : (st.pfx o).token y = (st.token y).pfx o := by
 simp only [WS.pfx, WS.token, List.append_assoc]
 rfl
theorem pfx_write (e : Ev) (o : List Str) (st : WS) (t : Tm) (most : Int) (alone : Bool) : (st.pfx o).write e t most alone = (st.write e t most alone).pfx o := by
 have hop : ∀ m p, (st.pfx o).openP m p = (st.openP m p).pfx o := by
  intro m p; unfold WS.openP; split
  ·exact pfx_token _ _ _
  ·rfl
 cases t with
 | v k => exact pfx_token _ _ _
 | i k => exact pfx_token _ _ _
 | a k =>
  simp only [WS.write, WS.atom]
  split
  ·rw [pfx_token, pfx_raw, pfx_raw]
  ·exact pfx_token _ _ _
 | s f args =>
  simp only [WS.write]
  split
  ·exact pfx_token _ _ _
  split
  ·exact pfx_token _ _ _
  cases shapeA e (nameOf e f) args with
  | none => exact pfx_token _ _ _
  | some y =>
   obtain ⟨fx, p, k⟩ := y
   cases fx with
   | pre =>
    simp only [WS.opS, WS.prefixOp]
    rw [hop]
    split
    ·rw [pfx_token]; rfl
    ·rw [pfx_token, pfx_raw]
   | inf => exact hop _ _
   | post => exact hop _ _
theorem pfx_op (e : Ev) (o : List Str) (fx : Fx) (a : Int) (st : WS) : opEff e fx a (st.pfx o) = (opEff e fx a st).pfx o := by
 cases fx with
 | pre => rfl
 | inf =>
  simp only [opEff, WS.infixOp]
  split
  ·exact pfx_raw _ _ _
  split
  ·exact pfx_raw _ _ _
  split
  ·exact pfx_token _ _ _
  ·rw [pfx_raw, pfx_raw, pfx_raw]
 | post =>
  simp only [opEff, WS.postfixOp]
  split
  ·exact pfx_token _ _ _
  ·rw [pfx_raw, pfx_raw]
theorem pfx_eff (e : Ev) (o : List Str) : ∀ (n : Nat) (i : It), rank i ≤ n → ∀ st : WS, eff e i (st.pfx o) = (eff e i st).pfx o := by
 intro n
 induction n with
 | zero =>
  intro i hr st
  cases i with
  | term t m al => have := tsz_pos t; simp only [rank] at hr; lia
  | op fx a => rw [eff_op, eff_op, pfx_op]
  | raw y => rw [eff_raw, eff_raw, pfx_raw]
 | succ n ih =>
  intro i hr st
  cases i with
  | op fx a => rw [eff_op, eff_op, pfx_op]
  | raw y => rw [eff_raw, eff_raw, pfx_raw]
  | term t m al =>
   rw [eff_term, eff_term, pfx_write]
   have h3 : ∀ (is : List It), (∀ j ∈ is, rank j ≤ n) → ∀ s : WS, is.foldl (fun s i => eff e i s) (s.pfx o) = (is.foldl (fun s i => eff e i s) s).pfx o := by
    intro is
    induction is with
    | nil => intro _ s; rfl
    | cons j js ihj =>
     intro hj s
     rw [List.foldl_cons, List.foldl_cons, ih j (hj j (.head _)) s]
     exact ihj (fun k hk => hj k (.tail _ hk)) (eff e j s)
   exact h3 (writeI e t m) (fun j hj => by have := (writeI_part j hj).rank; simp only [rank] at hr; lia) (st.write e t m al)
noncomputable def Neut (st : WS) : Prop := ∀ f, needs st.last st.pre f = false
noncomputable def fresh (o : List Str) : WS := ⟨o, none, false, []⟩
theorem neut_fresh (o : List Str) : Neut (fresh o) := fun _ => rfl
theorem neut_token {st : WS} (h : Neut st) (y : Str) (hw : st.work = []) : st.token y = (fresh st.out).token y := by
 unfold WS.token
 rw [h (firstc y)]
 simp only [fresh, hw]
 rfl
noncomputable def calmEnd (l : Nat) : Bool := l == 44 || l == 40 || l == 91 || l == 123 || l == 124 || l == 32
theorem neut_raw (st : WS) (y : Str) (h : calmEnd (lastc y) = true) : Neut (st.raw y) := by
 intro f
 have hb : ∀ l : Nat, calmEnd l = true → needs (some l) false f = false := by
  intro l hl
  simp only [calmEnd, Bool.or_eq_true, beq_iff_eq] at hl
  have key : ∀ l : Nat, (isWord l = false ∧ isSym (l : Int) = false ∧ ((⟨#[l]⟩ : Str) == "'") = false) → needs (some l) false f = false := by
   intro l ⟨h1, h2, h3⟩
   unfold needs
   simp only [h1, h2, h3, Bool.false_and, Bool.false_eq_true, if_false]
   split
   ·rfl
   split <;> rfl
  rcases hl with ((((rfl | rfl) | rfl) | rfl) | rfl) | rfl
  ·exact key _ (by decide +kernel)
  ·exact key _ (by decide +kernel)
  ·exact key _ (by decide +kernel)
  ·exact key _ (by decide +kernel)
  ·exact key _ (by decide +kernel)
  ·exact key _ (by decide +kernel)
 exact hb _ h
theorem begins {e : Ev} {t : Tm} (wf : WfT e t) (most : Int) (alone : Bool) (st : WS) (hn : Neut st) (hw : st.work = []) :
  st.write e t most alone = (fresh st.out).write e t most alone ∨ ∃ x lim is, writeI e t most = .term x lim false :: is ∧ st.write e t most alone = st ∧ (fresh st.out).write e t most alone = fresh st.out ∧ tsz x < tsz t ∧ WfT e x := by
 have tk := fun y => neut_token hn y hw
 cases t with
 | v k => exact .inl (tk _)
 | i k => exact .inl (tk _)
 | a k => refine .inl ?_; simp only [WS.write, WS.atom, tk]
 | s f args =>
  by_cases h0 : f = 0
  ·refine .inl ?_; simp only [WS.write, h0, if_true, tk]
  by_cases h9 : f = 9
  ·refine .inl ?_; simp only [WS.write, h9, if_true, tk]
  have e1 : ∀ s : WS, s.write e (.s f args) most alone = s.opS e (nameOf e f) most (shapeA e (nameOf e f) args) := by
   intro s; simp only [WS.write, if_neg h0, if_neg h9]
  have e2 : writeI e (.s f args) most = opsI e (nameOf e f) most args (shapeA e (nameOf e f) args) := by simp only [writeI, if_neg h0, if_neg h9]
  rw [e1, e1, e2]
  have hargs : ∀ u ∈ args, tsz u < tsz (.s f args) ∧ WfT e u := fun u hu => ⟨by have := tszs_mem hu; simp only [tsz]; lia, by
   cases wf with
   | dot => exact absurd rfl h0
   | curly => exact absurd rfl h9
   | s _ _ _ _ _ _ _ _ hs => exact hs.mem hu⟩
  cases hs : shapeA e (nameOf e f) args with
  | none => exact .inl (tk _)
  | some y =>
   obtain ⟨fx, p, k⟩ := y
   cases fx with
   | pre =>
    refine .inl ?_
    by_cases hp : most < p
    ·simp only [WS.opS, WS.prefixOp, WS.openP, if_pos hp, tk]
    ·simp only [WS.opS, WS.prefixOp, WS.openP, if_neg hp, tk]
   | inf =>
    by_cases hp : most < p
    ·refine .inl ?_; simp only [WS.opS, WS.openP, if_pos hp, tk]
    ·match args, hs with
     | [x, y], hs =>
      refine .inr ⟨x, leftLim e x p (bnd p k).1, _, rfl, ?_, ?_, (hargs x (.head _)).1, (hargs x (.head _)).2⟩
      ·simp only [WS.opS, WS.openP, if_neg hp]
      ·simp only [WS.opS, WS.openP, if_neg hp]
     | [x], hs =>
      simp only [shapeA, shape1] at hs
      split at hs
      ·split at hs <;> cases hs
      ·cases q : e.f .post (nameOf e f) with
       | none => rw [q] at hs; cases hs
       | some z => rw [q] at hs; cases hs
     | [], hs => cases hs
     | _ :: _ :: _ :: _, hs => cases hs
   | post =>
    by_cases hp : most < p
    ·refine .inl ?_; simp only [WS.opS, WS.openP, if_pos hp, tk]
    ·match args, hs with
     | [x, y], hs =>
      simp only [shapeA] at hs
      cases q : e.f .inf (nameOf e f) with
      | none => rw [q] at hs; cases hs
      | some z => rw [q] at hs; cases hs
     | [x], hs =>
      refine .inr ⟨x, leftLim e x p (bnd p k).1, _, rfl, ?_, ?_, (hargs x (.head _)).1, (hargs x (.head _)).2⟩
      ·simp only [WS.opS, WS.openP, if_neg hp]
      ·simp only [WS.opS, WS.openP, if_neg hp]
     | [], hs => cases hs
     | _ :: _ :: _ :: _, hs => cases hs
theorem neut_eff {e : Ev} : ∀ (n : Nat) (t : Tm), tsz t ≤ n → WfT e t → ∀ (most : Int) (alone : Bool) (st : WS), Neut st → st.work = [] → eff e (.term t most alone) st = eff e (.term t most alone) (fresh st.out) := by
 intro n
 induction n with
 | zero => intro t h; have := tsz_pos t; lia
 | succ n ih =>
  intro t h wf most alone st hn hw
  rw [eff_term, eff_term]
  rcases begins wf most alone st hn hw with e1 | ⟨x, lim, is, e1, e2, e3, e4, e5⟩
  ·rw [e1]
  ·rw [e1, e2, e3, List.foldl_cons, List.foldl_cons, ih x (by lia) e5 lim false st hn hw]
noncomputable def bodyO (e : Ev) (t : Tm) (l : Int) (a : Bool) : WS := eff e (.term t l a) (fresh [])
theorem eff_neut {e : Ev} {t : Tm} (wf : WfT e t) (l : Int) (a : Bool) {st : WS} (hn : Neut st) (hw : st.work = []) : eff e (.term t l a) st = (bodyO e t l a).pfx st.out := by
 rw [neut_eff _ t (Nat.le_refl _) wf l a st hn hw, bodyO, ← pfx_eff e st.out _ _ (Nat.le_refl _)]
 simp [WS.pfx, fresh]
noncomputable def bodyT (e : Ev) (t : Tm) (l : Int) (a : Bool) : Str := cat (bodyO e t l a).out
theorem textOf_body (e : Ev) (t : Tm) (l : Int) : textOf e t l = bodyT e t l (decide (1201 ≤ l)) := rfl
theorem slice_in (X : Str) (a b : Nat) : Txt.slice ((⟨#[a]⟩ : Str) ++ X ++ (⟨#[b]⟩ : Str)) (some 1) (some (-1)) = X := by
 generalize hY : (⟨#[a]⟩ : Str) ++ X ++ (⟨#[b]⟩ : Str) = Y
 have hl : Y.length = X.length + 2 := by rw [← hY, Str.length_append, Str.length_append]; simp [Str.length]; lia
 have hc : Y.cps.toList = a :: (X.cps.toList ++ [b]) := by
  rw [← hY]
  show ((#[a] ++ X.cps) ++ #[b]).toList = _
  simp
 unfold Txt.slice
 rw [StrLaws.sliceIdx_neg_hi _ _ (by decide) (by lia)]
 have e1 : ((-1 : Int) + (Y.length : Int)) = ((Y.length - 1 : Nat) : Int) := by lia
 have e2 : (some (1 : Int)) = some ((1 : Nat) : Int) := rfl
 rw [e1, e2, if_neg]
 ·rw [StrLaws.sliced_plain Y (by lia) (by lia), hc]
  apply Str.ext'
  apply Array.ext'
  have e3 : Y.length - 1 - 1 = X.cps.toList.length := by rw [hl]; simp [Str.length]
  rw [e3]
  simp
 ·rw [StrLaws.strSliceIndices_plain (by lia) (by lia)]
  simp
  lia
end
section
set_option tactic.hygienic false
theorem eff_work (e : Ev) : ∀ (n : Nat) (i : It), rank i ≤ n → ∀ st : WS, (eff e i st).work = st.work := by
 have hwr : ∀ (t : Tm) (m : Int) (al : Bool) (st : WS), (st.write e t m al).work = st.work := by
  intro t m al st
  have hop : ∀ m p, (st.openP m p).work = st.work := by intro m p; unfold WS.openP; split <;> rfl
  cases t with
  | v k => rfl
  | i k => rfl
  | a k => exact atom_work k al
  | s f args =>
   simp only [WS.write]
   split
   ·rfl
   split
   ·rfl
   cases shapeA e (nameOf e f) args with
   | none => rfl
   | some y =>
    obtain ⟨fx, p, k⟩ := y
    cases fx with
    | pre =>
     simp only [WS.opS, WS.prefixOp]
     split
     ·exact hop _ _
     ·exact hop _ _
    | inf => exact hop _ _
    | post => exact hop _ _
 intro n
 induction n with
 | zero =>
  intro i hr st
  cases i with
  | term t m al => have := tsz_pos t; simp only [rank] at hr; lia
  | op fx a => rw [eff_op, op_work]
  | raw y => rw [eff_raw]; rfl
 | succ n ih =>
  intro i hr st
  cases i with
  | op fx a => rw [eff_op, op_work]
  | raw y => rw [eff_raw]; rfl
  | term t m al =>
   rw [eff_term]
   have h3 : ∀ (is : List It), (∀ j ∈ is, rank j ≤ n) → ∀ s : WS, (is.foldl (fun s i => eff e i s) s).work = s.work := by
    intro is
    induction is with
    | nil => intro _ s; rfl
    | cons j js ihj =>
     intro hj s
     rw [List.foldl_cons, ihj (fun k hk => hj k (.tail _ hk)), ih j (hj j (.head _))]
   rw [h3 (writeI e t m) (fun j hj => by have := (writeI_part j hj).rank; simp only [rank] at hr; lia), hwr]
theorem body_work (e : Ev) (t : Tm) (l : Int) (a : Bool) : (bodyO e t l a).work = [] := eff_work e _ _ (Nat.le_refl _) _
theorem effs_nil (e : Ev) (st : WS) : effs e [] st = st := rfl
theorem pfx_work (o : List Str) (st : WS) : (st.pfx o).work = st.work := rfl
theorem raw_work (st : WS) (y : Str) : (st.raw y).work = st.work := rfl
theorem raw_out (st : WS) (y : Str) : (st.raw y).out = st.out ++ [y] := rfl
theorem pfx_out (o : List Str) (st : WS) : (st.pfx o).out = o ++ st.out := rfl
theorem tok_fresh (y : Str) : (fresh []).token y = (fresh []).raw y := by
 simp only [WS.token, WS.raw, fresh]
 rfl
theorem step_rt {e : Ev} {t : Tm} (wf : WfT e t) (l : Int) (a : Bool) (st : WS) (y : Str) (hy : calmEnd (lastc y) = true) (hw : st.work = []) : eff e (.term t l a) (st.raw y) = (bodyO e t l a).pfx (st.out ++ [y]) := by
 rw [eff_neut wf l a (neut_raw st y hy) hw]; rfl
theorem cat_one (y : Str) : cat [y] = y := by
 apply Str.ext'
 simp [cat]
theorem app_assoc (a b c : Str) : a ++ b ++ c = a ++ (b ++ c) := by
 apply Str.ext'
 show (a.cps ++ b.cps) ++ c.cps = a.cps ++ (b.cps ++ c.cps)
 exact Array.append_assoc
theorem text_eq (e : Ev) (t : Tm) (l : Int) : textOf e t l = cat (effs e (writeI e t l) ((fresh []).write e t l (decide (1201 ≤ l)))).out := by
 rw [textOf, show (⟨[], none, false, []⟩ : WS) = fresh [] from rfl, eff_term]; rfl
theorem bracket_text {e : Ev} {T x : Tm} (l : Int) {y z : Str} {l1 : Int} (wx : WfT e x) (hW : (fresh []).write e T l (decide (1201 ≤ l)) = (fresh []).token y) (hI : writeI e T l = [.term x l1 true, .raw z]) (hy : calmEnd (lastc y) = true) : textOf e T l = y ++ bodyT e x l1 true ++ z := by
 rw [text_eq, hW, hI, tok_fresh, effs_cons, effs_cons, effs_nil, step_rt wx _ _ _ _ hy rfl, eff_raw, raw_out, pfx_out]
 simp only [fresh, List.nil_append, cat_append, cat_one]
 rfl
theorem two_text {e : Ev} {T x x' : Tm} (l : Int) {y m z : Str} {l1 l2 : Int} (wx : WfT e x) (wx' : WfT e x') (hW : (fresh []).write e T l (decide (1201 ≤ l)) = (fresh []).token y) (hI : writeI e T l = [.term x l1 true, .raw m, .term x' l2 true, .raw z]) (hy : calmEnd (lastc y) = true) (hm : calmEnd (lastc m) = true) :
  textOf e T l = y ++ bodyT e x l1 true ++ m ++ bodyT e x' l2 true ++ z := by
 rw [text_eq, hW, hI, tok_fresh]
 simp only [effs_cons, effs_nil, eff_raw]
 rw [step_rt wx _ _ _ _ hy rfl, step_rt wx' _ _ _ _ hm (by rw [pfx_work, body_work]), raw_out, pfx_out, pfx_out]
 simp only [fresh, List.nil_append, cat_append, cat_one]
 rfl
theorem curly_eq {e : Ev} {x : Tm} (wx : WfT e x) : textOf e (.s 9 [x]) 1201 = "{" ++ textOf e x 1201 ++ "}" := by
 rw [bracket_text 1201 (y := "{") (z := "}") wx rfl rfl (by decide +kernel)]
 rfl
theorem inside_eq {e : Ev} {x : Tm} (wx : WfT e x) : insideOf e x = bodyT e x 999 true := by
 unfold insideOf
 rw [bracket_text 1201 (y := "[") (z := "]") wx rfl rfl (by decide +kernel)]
 exact slice_in _ 91 93
theorem list2_eq {e : Ev} {x y : Tm} (wx : WfT e x) (wy : WfT e y) : textOf e (.s 0 [x, .s 0 [y, .a 0]]) 1201 = "[" ++ insideOf e x ++ "," ++ insideOf e y ++ "]" := by
 rw [inside_eq wx, inside_eq wy]
 exact two_text 1201 wx wy rfl rfl (by decide +kernel) (by decide +kernel)
theorem bar_eq {e : Ev} {x t : Tm} (wx : WfT e x) (wt : WfT e t) (hd : ∀ a b, t ≠ .s 0 [a, b]) (hn : isNil t = false) : textOf e (.s 0 [x, t]) 1201 = "[" ++ insideOf e x ++ "|" ++ insideOf e t ++ "]" := by
 rw [inside_eq wx, inside_eq wt]
 refine two_text 1201 wx wt rfl ?_ (by decide +kernel) (by decide +kernel)
 show listI (.s 0 [x, t]) = _
 unfold listI
 rw [listOfTm_dot, listOfTm_else hd, hn]
 rfl
theorem func3_eq {e : Ev} {f : Int} {x y z : Tm} (h0 : f ≠ 0) (h9 : f ≠ 9) (wx : WfT e x) (wy : WfT e y) (wz : WfT e z) : textOf e (.s f [x, y, z]) 1201 = atomOf e (nameOf e f) ++ "(" ++ insideOf e x ++ "," ++ insideOf e y ++ "," ++ insideOf e z ++ ")" := by
 rw [inside_eq wx, inside_eq wy, inside_eq wz]
 have hW : (fresh []).write e (.s f [x, y, z]) 1201 (decide ((1201 : Int) ≤ 1201)) = (fresh []).token (atomOf e (nameOf e f)) := by
  simp only [WS.write, if_neg h0, if_neg h9]; rfl
 have hI : writeI e (.s f [x, y, z]) 1201 = [.raw "(", .term x 999 true, .raw ",", .term y 999 true, .raw ",", .term z 999 true, .raw ")"] := by
  simp only [writeI, if_neg h0, if_neg h9]; rfl
 rw [text_eq, hW, hI, tok_fresh]
 simp only [effs_cons, effs_nil, eff_raw]
 rw [step_rt wx _ _ _ _ (by decide +kernel) rfl, step_rt wy _ _ _ _ (by decide +kernel) (by rw [pfx_work, body_work]), step_rt wz _ _ _ _ (by decide +kernel) (by rw [pfx_work, body_work]), raw_out, pfx_out, pfx_out, pfx_out, raw_out]
 simp only [fresh, List.nil_append, cat_append, cat_one]
 rfl
end
section
set_option tactic.hygienic false
theorem leftLim_le {e : Ev} {t : Tm} {p most : Int} (h1 : p ≤ 1200) (h2 : most ≤ 1200) : leftLim e t p most ≤ 1200 := by
 unfold leftLim
 split
 ·exact h2
 ·split <;> lia
theorem textOf_small {e : Ev} {t : Tm} {l : Int} (h : l ≤ 1200) : textOf e t l = bodyT e t l false := by
 rw [textOf_body, decide_eq_false (by lia)]
theorem bnd_le {p : Int} {k : Kd} (h0 : 0 ≤ p) (h : p ≤ 1200) : (bnd p k).1 ≤ 1200 ∧ (bnd p k).2 ≤ 1200 := by
 cases k <;> simp only [bnd] <;> lia
theorem comma_eq {e : Ev} {f p : Int} {k : Kd} {x y : Tm} (h0 : f ≠ 0) (h9 : f ≠ 9) (hn : nameOf e f = 7) (hi : e.f .inf 7 = some (p, k)) (hp0 : 0 ≤ p) (hp : p ≤ 1200) (wx : WfT e x) (wy : WfT e y) :
  textOf e (.s f [x, y]) 1201 = textOf e x (leftLim e x p (bnd p k).1) ++ "," ++ textOf e y (bnd p k).2 := by
 obtain ⟨b1, b2⟩ := bnd_le (k := k) hp0 hp
 rw [textOf_small (leftLim_le hp b1), textOf_small b2]
 have hs : shapeA e 7 [x, y] = some (.inf, p, k) := by simp only [shapeA, hi]; rfl
 have hW : (fresh []).write e (.s f [x, y]) 1201 (decide ((1201 : Int) ≤ 1201)) = fresh [] := by
  simp only [WS.write, if_neg h0, if_neg h9, hn, hs, WS.opS, WS.openP]
  rw [if_neg (by lia)]
 have hI : writeI e (.s f [x, y]) 1201 = [.term x (leftLim e x p (bnd p k).1) false, .op .inf 7, .term y (bnd p k).2 false] := by
  simp only [writeI, if_neg h0, if_neg h9, hn, hs, opsI, opI, closeI, hn]
  rw [if_neg (by lia)]; rfl
 rw [text_eq, hW, hI]
 simp only [effs_cons, effs_nil, eff_op, opEff, WS.infixOp, if_true]
 rw [eff_neut wx _ _ (neut_fresh []) rfl, step_rt wy _ _ _ _ (by decide +kernel) (by rw [pfx_work, body_work]), pfx_out, pfx_out]
 simp only [fresh, List.nil_append, cat_append, cat_one]
 rfl
theorem foo_tight : isTight (Str.ofString "foo") = false := by decide +kernel
theorem foo_inf {e : Ev} {f a p : Int} {k : Kd} {x y : Tm} (h0 : f ≠ 0) (h9 : f ≠ 9) (hn : nameOf e f = a) (ha7 : a ≠ 7) (ha8 : a ≠ 8) (hat : atomOf e a = "foo") (hi : e.f .inf a = some (p, k)) (hp0 : 0 ≤ p) (hp : p ≤ 1200) (wx : WfT e x) (wy : WfT e y) :
  textOf e (.s f [x, y]) 1201 = textOf e x (leftLim e x p (bnd p k).1) ++ " foo " ++ textOf e y (bnd p k).2 := by
 obtain ⟨b1, b2⟩ := bnd_le (k := k) hp0 hp
 rw [textOf_small (leftLim_le hp b1), textOf_small b2]
 have hs : shapeA e a [x, y] = some (.inf, p, k) := by simp only [shapeA, hi]; rfl
 have hW : (fresh []).write e (.s f [x, y]) 1201 (decide ((1201 : Int) ≤ 1201)) = fresh [] := by
  simp only [WS.write, if_neg h0, if_neg h9, hn, hs, WS.opS, WS.openP]
  rw [if_neg (by lia)]
 have hI : writeI e (.s f [x, y]) 1201 = [.term x (leftLim e x p (bnd p k).1) false, .op .inf a, .term y (bnd p k).2 false] := by
  simp only [writeI, if_neg h0, if_neg h9, hn, hs, opsI, opI, closeI, hn]
  rw [if_neg (by lia)]; rfl
 rw [text_eq, hW, hI]
 simp only [effs_cons, effs_nil, eff_op, opEff, WS.infixOp, if_neg ha7, if_neg ha8, hat, foo_tight, Bool.false_eq_true, if_false]
 rw [eff_neut wx _ _ (neut_fresh []) rfl, step_rt wy _ _ _ _ (by decide +kernel) (by rw [raw_work, raw_work, pfx_work, body_work]), pfx_out, raw_out, raw_out, pfx_out]
 simp only [fresh, List.nil_append, cat_append, cat_one]
 have e1 : Str.ofString " foo " = Str.ofString " " ++ Str.ofString "foo" ++ Str.ofString " " := by decide
 rw [e1]
 simp only [app_assoc]
 rfl
theorem foo_pre {e : Ev} {f a p : Int} {k : Kd} {x : Tm} (h0 : f ≠ 0) (h9 : f ≠ 9) (hn : nameOf e f = a) (ha3 : a ≠ 3) (hat : atomOf e a = "foo") (hi : e.f .pre a = some (p, k)) (hp0 : 0 ≤ p) (hp : p ≤ 1200) (wx : WfT e x) :
  textOf e (.s f [x]) 1201 = "foo " ++ textOf e x (bnd p k).2 := by
 obtain ⟨b1, b2⟩ := bnd_le (k := k) hp0 hp
 rw [textOf_small b2]
 have hs : shapeA e a [x] = some (.pre, p, k) := by
  simp only [shapeA, shape1, hi]; rw [if_neg (fun h => ha3 h.1)]
 have hW : (fresh []).write e (.s f [x]) 1201 (decide ((1201 : Int) ≤ 1201)) = ((fresh []).token "foo").raw " " := by
  simp only [WS.write, if_neg h0, if_neg h9, hn, hs, WS.opS, WS.openP, WS.prefixOp, hn, hat, foo_tight, Bool.false_eq_true, if_false]
  rw [if_neg (by lia)]
 have hI : writeI e (.s f [x]) 1201 = [.term x (bnd p k).2 false] := by
  simp only [writeI, if_neg h0, if_neg h9, hn, hs, opsI, opI, closeI, hn]
  rw [if_neg (by lia)]; rfl
 rw [text_eq, hW, hI, tok_fresh]
 simp only [effs_cons, effs_nil]
 rw [step_rt wx _ _ _ _ (by decide +kernel) rfl, pfx_out, raw_out]
 simp only [fresh, List.nil_append, cat_append, cat_one]
 have e1 : Str.ofString "foo " = Str.ofString "foo" ++ Str.ofString " " := by decide
 rw [e1]
 rfl
theorem foo_post {e : Ev} {f a p : Int} {k : Kd} {x : Tm} (h0 : f ≠ 0) (h9 : f ≠ 9) (hn : nameOf e f = a) (hat : atomOf e a = "foo") (hi0 : e.f .pre a = none) (hi : e.f .post a = some (p, k)) (hp0 : 0 ≤ p) (hp : p ≤ 1200) (wx : WfT e x) :
  textOf e (.s f [x]) 1201 = textOf e x (leftLim e x p (bnd p k).1) ++ " foo" := by
 obtain ⟨b1, b2⟩ := bnd_le (k := k) hp0 hp
 rw [textOf_small (leftLim_le hp b1)]
 have hs : shapeA e a [x] = some (.post, p, k) := by
  simp only [shapeA, shape1, hi0, hi]; rfl
 have hW : (fresh []).write e (.s f [x]) 1201 (decide ((1201 : Int) ≤ 1201)) = fresh [] := by
  simp only [WS.write, if_neg h0, if_neg h9, hn, hs, WS.opS, WS.openP]
  rw [if_neg (by lia)]
 have hI : writeI e (.s f [x]) 1201 = [.term x (leftLim e x p (bnd p k).1) false, .op .post a] := by
  simp only [writeI, if_neg h0, if_neg h9, hn, hs, opsI, opI, closeI, hn]
  rw [if_neg (by lia)]; rfl
 rw [text_eq, hW, hI]
 simp only [effs_cons, effs_nil, eff_op, opEff, WS.postfixOp, hat, foo_tight, Bool.false_eq_true, if_false]
 rw [eff_neut wx _ _ (neut_fresh []) rfl, raw_out, raw_out, pfx_out]
 simp only [fresh, List.nil_append, cat_append, cat_one]
 have e1 : Str.ofString " foo" = Str.ofString " " ++ Str.ofString "foo" := by decide
 rw [e1]
 simp only [app_assoc]
 rfl
theorem plain_foo (q : Bool) : atomText (Str.ofString "foo") q = Str.ofString "foo" := by
 unfold atomText
 rw [show isPlain (Str.ofString "foo") = true from by decide +kernel]
 simp
theorem plain_g (q : Bool) : atomText (Str.ofString "g") q = Str.ofString "g" := by
 unfold atomText
 rw [show isPlain (Str.ofString "g") = true from by decide +kernel]
 simp
theorem atomOf_at {e : Ev} {a : Int} {x : Str} (h : e.texts[a.toNat]? = some x) : atomOf e a = atomText x e.q := by
 unfold atomOf; rw [List.getD_eq_getElem?_getD, h]; rfl
end
section
set_option tactic.hygienic false
theorem Does.conv {w : World} {f : Addr} {d : Nat} {args : List Value} {led led₁ : List (Addr × Obj)} {post post' : Value → List (Addr × Obj) → Prop} (hs : ∀ p ∈ led, p ∈ led₁) (h : ∀ r l, post r l → ∃ l', post' r l' ∧ ∀ p ∈ l', p ∈ l) (D : Does w f d args led post) : Does w f d args led₁ post' := (D.weak h).sub hs
theorem Does.within {w : World} {f : Addr} {d : Nat} {args : List Value} {led own led₁ : List (Addr × Obj)} {post post' : Value → List (Addr × Obj) → Prop} (D : Does w f d args led post) (hd : ∀ p ∈ led, ∀ q ∈ own, p.1 ≠ q.1) (hs : ∀ p ∈ led ++ own, p ∈ led₁)
  (h : ∀ r l, post r l → (∀ p ∈ l, ∀ q ∈ own, p.1 ≠ q.1) → ∃ l', post' r l' ∧ ∀ p ∈ l', p ∈ l ++ own) : Does w f d args led₁ post' :=
 Does.conv (post := _) hs (by
  rintro r l ⟨l', rfl, h1, h2⟩
  exact h r l' h2 h1) (D.frame hd)
theorem DoesH.frame {H : Heap → Prop} {w : World} {f : Addr} {d : Nat} {args : List Value} {led own : List (Addr × Obj)} {post : Value → List (Addr × Obj) → Prop} (hd : ∀ p ∈ led, ∀ q ∈ own, p.1 ≠ q.1) (D : DoesH H w f d args led post) :
  DoesH H w f d args (led ++ own) (fun r l => ∃ l', l = l' ++ own ∧ (∀ p ∈ l', ∀ q ∈ own, p.1 ≠ q.1) ∧ post r l') := ⟨fun {A E s h₀ L m mg mb mean Q} hH r F N X T k => D.run hH r F (news_left N) X T fun h' tk v l hp F' N' => by
 have No : News h₀ L s.heap own := news_sub N fun _ h => List.mem_append.mpr (.inr h)
 refine k h' tk v (l ++ own) ⟨l, rfl, fun p hp q hq e => ?_, hp⟩ F' ⟨fun p hp => ?_, fun b o e hb => N'.keep b o e fun p hp => hb p (List.mem_append.mpr (.inl hp)), fun p hp => ?_⟩
 ·rcases N'.new p hp with e' | ⟨z, hz, e'⟩
  ·rw [e, (No q hq).1] at e'; cases e'
  ·exact hd z hz q hq (e'.trans e)
 ·rcases List.mem_append.mp hp with h | h
  ·exact N'.news p h
  ·exact ⟨N'.keep _ _ (No p h).1 fun q hq e => hd q hq p h e, (No p h).2⟩
 ·rcases List.mem_append.mp hp with h | h
  ·exact (N'.new p h).imp id fun ⟨q, hq, e⟩ => ⟨q, List.mem_append.mpr (.inl hq), e⟩
  ·exact .inr ⟨p, List.mem_append.mpr (.inr h), rfl⟩⟩
theorem DoesH.use {H : Heap → Prop} {w : World} {f : Addr} {d d' : Nat} {args : List Value} {led : List (Addr × Obj)} {post : Value → List (Addr × Obj) → Prop} (D : DoesH H w f d args led post) {A : Around} {E : Value → Shared → Prop} {s : Shared} {h₀ : Heap} {L : Addr} {m mg mb : Str → Option Value} {mean : ExcName → Option Value} {Q : Value → Shared → Prop}
  (hH : H h₀) (r : Room A d') (hd : d ≤ d') (F : Fr h₀ L s.heap m) (N : News h₀ L s.heap led) (X : (K w.params).In h₀) (T : TopAt mean mg mb h₀)
  (h : ∀ h' tk r led', post r led' → Fr h₀ L h' m → News h₀ L h' led' → Q r { s with heap := h', toks := tk }) : wpAny (model pw w) A (PySem.call (.ref f) args []) Q E s := wpAny_call (D.run hH (r.le hd) F N X T fun h' tk r led' a b c => h h' tk r led' a b c.news)
structure Seed (w : World) (a : Sy) (p : Op) (c R : Addr) (texts : List Str) (funs : List (Int × Int)) (f : Fx → Int → Option (Int × Kd)) (sz : Nat) (bS bO rest : List (Addr × Obj)) : Prop where
 sym : SymIn w a texts funs bS rest
 op : OpIn w p f sz bO rest
 oo : ∀ x ∈ bO, ∀ y ∈ bS, x.1 ≠ y.1
 oc : ∀ x ∈ bS ++ (bO ++ rest), x.1 ≠ c
 oR : ∀ x ∈ bS ++ (bO ++ rest), x.1 ≠ R
 cR : R ≠ c
section
variable {w : World} {a : Sy} {p : Op} {c R : Addr} {texts : List Str} {funs : List (Int × Int)} {f : Fx → Int → Option (Int × Kd)} {sz : Nat} {bS bO rest : List (Addr × Obj)} {oC : Obj} {vs : List Value} {n : Nat}
theorem atom_L (S : Seed w a p c R texts funs f sz bS bO rest) (hz : texts.length ≤ 1000) (x : Str) (tx : Tok) :
  Does w 56 1 [.ref a.nA, .str x tx] ((c, oC) :: (R, PySem.W.listOf vs.toArray n) :: (bS ++ (bO ++ rest))) (fun r l => (∃ t, r = .int (symIdx texts x : Nat) t) ∧ ∃ bS', l = (c, oC) :: (R, PySem.W.listOf vs.toArray n) :: (bS' ++ (bO ++ rest)) ∧ Seed w a p c R (addText texts x) funs f sz bS' bO rest) := by
 refine (atom_S S.sym hz x tx).within (own := (c, oC) :: (R, PySem.W.listOf vs.toArray n) :: bO) ?_ ?_ ?_
 ·intro y hy q hq
  simp only [List.mem_append] at hy
  rcases List.mem_cons.mp hq with e | hq
  ·rw [e]; exact S.oc y (by simp only [List.mem_append]; grind)
  rcases List.mem_cons.mp hq with e | hq
  ·rw [e]; exact S.oR y (by simp only [List.mem_append]; grind)
  rcases hy with hy | hy
  ·exact (S.oo q hq y hy).symm
  ·exact S.op.offb y hy q hq
 ·intro y hy
  simp only [List.mem_append, List.mem_cons] at hy ⊢
  grind
 ·rintro r l ⟨hr, b', rfl, S'⟩ hoff
  have g : ∀ y ∈ b', ∀ q ∈ (c, oC) :: (R, PySem.W.listOf vs.toArray n) :: bO, y.1 ≠ q.1 := fun y hy => hoff y (List.mem_append_left _ hy)
  refine ⟨_, ⟨hr, b', rfl, S', S.op, fun x hx y hy => (g y hy x (.tail _ (.tail _ hx))).symm, ?_, ?_, S.cR⟩, ?_⟩
  ·intro x hx
   rcases List.mem_append.mp hx with h | h
   ·exact g x h _ (.head _)
   ·exact S.oc x (List.mem_append_right _ h)
  ·intro x hx
   rcases List.mem_append.mp hx with h | h
   ·exact g x h _ (.tail _ (.head _))
   ·exact S.oR x (List.mem_append_right _ h)
  ·intro y hy
   simp only [List.mem_append, List.mem_cons] at hy ⊢
   grind
theorem add_L (S : Seed w a p c R texts funs f sz bS bO rest) (hz : sz ≤ 1000) (k : Kd) {pr i : Int} {t1 t2 ta : Tok} (hp : 0 < pr) :
  Does w 277 3 [.ref p.pA, .int pr t1, .str k.text t2, .int i ta] ((c, oC) :: (R, PySem.W.listOf vs.toArray n) :: (bS ++ (bO ++ rest))) (fun r l => r = .none ∧ ∃ bO' rest', l = (c, oC) :: (R, PySem.W.listOf vs.toArray n) :: (bS ++ (bO' ++ rest')) ∧ (∀ x ∈ rest, x ∈ rest') ∧ Seed w a p c R texts funs (addOp f k i pr) (sz + 1) bS bO' rest') := by
 refine (add_S S.op hz k hp).within (own := (c, oC) :: (R, PySem.W.listOf vs.toArray n) :: bS) ?_ ?_ ?_
 ·intro y hy q hq
  simp only [List.mem_append] at hy
  rcases List.mem_cons.mp hq with e | hq
  ·rw [e]; exact S.oc y (by simp only [List.mem_append]; grind)
  rcases List.mem_cons.mp hq with e | hq
  ·rw [e]; exact S.oR y (by simp only [List.mem_append]; grind)
  rcases hy with hy | hy
  ·exact S.oo y hy q hq
  ·exact S.sym.off y hy q hq
 ·intro y hy
  simp only [List.mem_append, List.mem_cons] at hy ⊢
  grind
 ·rintro r l ⟨hr, bO', tp, rfl, O'⟩ hoff
  refine ⟨_, ⟨hr, bO', _, rfl, fun x hx => .tail _ hx, S.sym.mono (fun _ h => .tail _ h) ?_, O', ?_, ?_, ?_, S.cR⟩, ?_⟩
  ·exact fun y hy q hq => hoff y (List.mem_append_right _ hy) q (.tail _ (.tail _ hq))
  ·exact fun x hx y hy => hoff x (List.mem_append_left _ hx) y (.tail _ (.tail _ hy))
  ·intro x hx
   rcases List.mem_append.mp hx with h | h
   ·exact S.oc x (List.mem_append_left _ h)
   ·exact hoff x h _ (.head _)
  ·intro x hx
   rcases List.mem_append.mp hx with h | h
   ·exact S.oR x (List.mem_append_left _ h)
   ·exact hoff x h _ (.tail _ (.head _))
  ·intro y hy
   simp only [List.mem_append, List.mem_cons] at hy ⊢
   grind
end
end
section
set_option tactic.hygienic false
theorem word_ne : ∀ x ∈ wordsL, x ≠ Str.ofString "," ∧ x ≠ Str.ofString "foo" := by decide +kernel
structure TabG (f : Fx → Int → Option (Int × Kd)) (texts : List Str) : Prop where
 ok : ∀ x a p k, f x a = some (p, k) → 1 ≤ p ∧ p ≤ 1200 ∧ k.side = x
 comma : f .inf 7 = some (1000, .xfy)
 nofoo : ∀ x a p k, f x a = some (p, k) → ∃ (i : Nat) (y : Str), a = (i : Int) ∧ texts[i]? = some y ∧ y ≠ Str.ofString "foo"
theorem tabG_start {t : List Str} {fu : List (Int × Int)} (b : Base t fu) : TabG opStart t := by
 have key : ∀ x a p k, opStart x a = some (p, k) → x = .inf ∧ a = 7 ∧ p = 1000 ∧ k = .xfy := by
  intro x a p k h
  unfold opStart addOp at h
  split at h
  ·next hc => cases h; exact ⟨hc.1, hc.2, rfl, rfl⟩
  ·cases h
 refine ⟨fun x a p k h => ?_, by simp [opStart, addOp, Kd.side], fun x a p k h => ?_⟩
 ·obtain ⟨rfl, rfl, rfl, rfl⟩ := key x a p k h
  exact ⟨by decide, by decide, rfl⟩
 ·obtain ⟨rfl, rfl, rfl, rfl⟩ := key x a p k h
  exact ⟨7, _, rfl, prefix_get b.pt start7, by decide +kernel⟩
theorem symIdx_ne {t : List Str} {fu : List (Int × Int)} {x y : Str} {i : Nat} (b : Base t fu) (h : symStart.1[i]? = some y) (hne : x ≠ y) : symIdx t x ≠ i := by
 intro e
 have h1 := addText_get t x
 have h2 := prefix_get (b.pt.trans (addText_pre t x)) h
 rw [e, h2] at h1
 exact hne (Option.some.inj h1).symm
theorem TabG.add {t : List Str} {fu : List (Int × Int)} {f : Fx → Int → Option (Int × Kd)} (b : Base t fu) (T : TabG f t) {x : Str} (hx : x ∈ wordsL) {k : Kd} {pr : Int} (h1 : 1 ≤ pr) (h2 : pr ≤ 1200) : TabG (addOp f k (symIdx t x : Nat) pr) (addText t x) := by
 obtain ⟨n1, n2⟩ := word_ne x hx
 refine ⟨fun y a p k' h => ?_, ?_, fun y a p k' h => ?_⟩
 ·unfold addOp at h
  split at h
  ·next hc => cases h; exact ⟨h1, h2, hc.1.symm⟩
  ·exact T.ok _ _ _ _ h
 ·unfold addOp
  rw [if_neg, T.comma]
  intro hc
  exact symIdx_ne b start7 n1 (by have := hc.2; lia)
 ·unfold addOp at h
  split at h
  ·next hc => exact ⟨_, x, hc.2, addText_get t x, n2⟩
  ·obtain ⟨i, y, e1, e2, e3⟩ := T.nofoo _ _ _ _ h
   exact ⟨i, y, e1, prefix_get (addText_pre t x) e2, e3⟩
structure TabF (f : Fx → Int → Option (Int × Kd)) (i : Nat) (k : Kd) (h : Int) : Prop where
 ok : ∀ x a p k, f x a = some (p, k) → 1 ≤ p ∧ p ≤ 1200 ∧ k.side = x
 comma : f .inf 7 = some (1000, .xfy)
 foo : f k.side (i : Nat) = some (h, k)
 no : ∀ x, x ≠ k.side → f x (i : Nat) = none
 i1 : 1 ≤ h
 i2 : h ≤ 1200
theorem TabG.foo {t : List Str} {fu : List (Int × Int)} {f : Fx → Int → Option (Int × Kd)} (b : Base t fu) (T : TabG f t) {k : Kd} {pr : Int} (h1 : 1 ≤ pr) (h2 : pr ≤ 1200) : TabF (addOp f k (symIdx t "foo" : Nat) pr) (symIdx t "foo") k pr := by
 refine ⟨fun y a p k' h => ?_, ?_, ?_, fun x hx => ?_, h1, h2⟩
 ·unfold addOp at h
  split at h
  ·next hc => cases h; exact ⟨h1, h2, hc.1.symm⟩
  ·exact T.ok _ _ _ _ h
 ·unfold addOp
  rw [if_neg, T.comma]
  intro hc
  exact symIdx_ne b start7 (by decide +kernel : (Str.ofString "foo") ≠ Str.ofString ",") (by have := hc.2; lia)
 ·unfold addOp
  rw [if_pos ⟨rfl, rfl⟩]
 ·unfold addOp
  rw [if_neg fun hc => hx hc.1]
  cases q : f x (symIdx t "foo" : Nat) with
  | none => rfl
  | some pk =>
   obtain ⟨i, y, e1, e2, e3⟩ := T.nofoo _ _ _ _ q
   have h1 := addText_get t "foo"
   have e4 : symIdx t "foo" = i := by lia
   rw [e4, prefix_get (addText_pre t _) e2] at h1
   exact absurd (Option.some.inj h1) e3
theorem SymIn.rb {w : World} {a : Sy} {texts : List Str} {funs : List (Int × Int)} {b rest : List (Addr × Obj)} (S : SymIn w a texts funs b rest) :
  ∃ nD kt n ts n1 tA aD fA fD fvs n2, (a.nA, instObj 122 nD) ∈ b ++ rest ∧ (nD, dictOf (symEs w.params kt tA aD fA fD) n) ∈ b ++ rest ∧ (tA, PySem.W.listOf (strValues ts).toArray n1) ∈ b ++ rest ∧ ts.map (·.1) = texts ∧ (fA, PySem.W.listOf fvs.toArray n2) ∈ b ++ rest ∧ KeysIn (b ++ rest) fvs funs := by
 obtain ⟨ts, n1, oD, kvs, fvs, n2, oF, rfl, h1, h2, h3, h4, h5⟩ := S.ex
 exact ⟨a.nD, a.kt, a.n, ts, n1, a.tA, a.aD, a.fA, a.fD, fvs, n2, List.mem_append_right _ S.inst, List.mem_append_right _ S.dict, .head _, h1, .tail _ (.tail _ (.head _)), h4.mono fun p hp => List.mem_append_right _ hp⟩
noncomputable def OpsR (w : World) (pA : Addr) (f : Fx → Int → Option (Int × Kd)) (rest : List (Addr × Obj)) : Prop := ∃ (pD nA' : Addr) (d : Fx → Addr) (kt : Nat → Tok) (n : Nat) (o : Fx → Obj) (kvs : Fx → List (Int × Value)), (pA, instObj 287 pD) ∈ rest ∧ (pD, dictOf (opEs w.params kt nA' d) n) ∈ rest ∧ (∀ x, (d x, o x) ∈ rest) ∧ (∀ x, (o x).IsDictOf (intKind pw w) (kvs x)) ∧ (∀ x, TabIs rest (kvs x) (f x)) ∧ ∀ x, (d x == sysModules) = false
theorem OpsR.mono {w : World} {pA : Addr} {f : Fx → Int → Option (Int × Kd)} {rest rest' : List (Addr × Obj)} (R : OpsR w pA f rest) (k : ∀ p ∈ rest, p ∈ rest') : OpsR w pA f rest' := by
 obtain ⟨pD, nA', d, kt', n', o, kvs, b1, b2, b3, b4, b5, b6⟩ := R
 exact ⟨pD, nA', d, kt', n', o, kvs, k _ b1, k _ b2, fun x => k _ (b3 x), b4, fun x => (b5 x).mono k, b6⟩
theorem OpIn.rb {w : World} {p : Op} {f : Fx → Int → Option (Int × Kd)} {sz : Nat} {b rest : List (Addr × Obj)} (S : OpIn w p f sz b rest) : OpsR w p.pA f (b ++ rest) := by
 obtain ⟨o, kvs, rfl, h1, h2, h3⟩ := S.ex
 refine ⟨p.pD, p.nA, p.d, p.kt, p.n, o, kvs, List.mem_append_right _ S.inst, List.mem_append_right _ S.dict, fun x => ?_, h1, fun x => (h2 x).mono fun p hp => List.mem_append_right _ hp, S.sysm⟩
 cases x
 ·exact .head _
 ·exact .tail _ (.head _)
 ·exact .tail _ (.tail _ (.head _))
structure RdN (w : World) (cw : Wc) (rest : List (Addr × Obj)) : Prop where
 names : ∃ oN, (cw.nm, oN) ∈ rest ∧ oN.IsDictOf (intKind pw w) []
 taken : ∃ oT, (cw.tn, oT) ∈ rest ∧ oT.IsDictOf (PySem.strKind pw w) []
 nmod : (cw.nm == sysModules) = false
 tmod : (cw.tn == sysModules) = false
theorem writer_L {w : World} {nA pA : Addr} {q : Bool} {own : List (Addr × Obj)} : Does w 472 3 [.ref nA, .ref pA, .bool q] own (fun r l => ∃ cw st b rW, r = .ref cw.x ∧ (cw.nA = nA ∧ cw.pA = pA ∧ cw.q = q) ∧ l = b ++ (rW ++ own) ∧ (∀ x ∈ b ++ rW, ∀ y ∈ own, x.1 ≠ y.1) ∧ WrIn w cw st b rW ∧ RdN w cw rW) := by
 refine (writer_make (w := w) (q := q) (.inl rfl)).within (led := []) (own := own) (by intro p hp; cases hp) (fun p hp => hp) ?_
 rintro r l ⟨x, rfl, cw, st, b, rW, ⟨rfl, rfl, rfl, rfl⟩, rfl, S, hN, hT, n1, n2⟩ hoff
 exact ⟨_, ⟨cw, st, b, rW, rfl, ⟨rfl, rfl, rfl⟩, rfl, hoff, S, hN, hT, n1, n2⟩, fun p hp => by simpa using hp⟩
structure Mid (w : World) (a : Sy) (pA : Addr) (cw : Wc) (st : WS) (c R : Addr) (texts : List Str) (funs : List (Int × Int)) (f : Fx → Int → Option (Int × Kd)) (b rW bS rest : List (Addr × Obj)) : Prop where
 sym : SymIn w a texts funs bS rest
 op : OpsR w pA f rest
 wr : WrIn w cw st b rW
 rdn : RdN w cw rW
 oo : ∀ x ∈ b ++ rW, ∀ y ∈ bS ++ rest, x.1 ≠ y.1
 oc : ∀ x ∈ b ++ (rW ++ (bS ++ rest)), x.1 ≠ c
 oR : ∀ x ∈ b ++ (rW ++ (bS ++ rest)), x.1 ≠ R
 cR : R ≠ c
 nA : cw.nA = a.nA
 pA : cw.pA = pA
section
variable {w : World} {a : Sy} {pA : Addr} {cw : Wc} {st : WS} {c R : Addr} {texts : List Str} {funs : List (Int × Int)} {f : Fx → Int → Option (Int × Kd)} {b rW bS rest : List (Addr × Obj)}
theorem func_M {X : List (Addr × Obj)} (M : Mid w a pA cw st c R texts funs f b rW bS rest) (hX : ∀ x ∈ X, ∀ y ∈ b ++ (rW ++ (bS ++ rest)), x.1 ≠ y.1) (hcX : ∃ o, (c, o) ∈ X) (hRX : ∃ o, (R, o) ∈ X) (hz : texts.length ≤ 1000) (hz2 : funs.length ≤ 1000) (x : Str) (k : Int) (tx tkk : Tok) :
  Does w 77 2 [.ref a.nA, .str x tx, .int k tkk] (X ++ (b ++ (rW ++ (bS ++ rest)))) (fun r l => (∃ t, r = .int (funIdx funs ((symIdx texts x : Nat), k) : Nat) t) ∧ ∃ bS' rest', l = X ++ (b ++ (rW ++ (bS' ++ rest'))) ∧ (∀ x ∈ rest, x ∈ rest') ∧ (∀ x ∈ X, ∀ y ∈ b ++ (rW ++ (bS' ++ rest')), x.1 ≠ y.1) ∧
   Mid w a pA cw st c R (addText texts x) (addFun funs ((symIdx texts x : Nat), k)) f b rW bS' rest') := by
 refine (func_S M.sym hz hz2 x k tx tkk).within (own := X ++ (b ++ rW)) ?_ ?_ ?_
 ·intro y hy q hq
  rcases List.mem_append.mp hq with hq | hq
  ·exact (hX q hq y (by simp only [List.mem_append] at hy ⊢; grind)).symm
  ·exact (M.oo q hq y hy).symm
 ·intro y hy
  simp only [List.mem_append] at hy ⊢
  grind
 ·rintro r l ⟨hr, b', ext, rfl, he, S'⟩ hoff
  have hx : ∀ q ∈ X, ∀ y ∈ b ++ (rW ++ (b' ++ (ext ++ rest))), q.1 ≠ y.1 := by
   intro q hq y hy
   simp only [List.mem_append] at hy
   rcases hy with h | h | h
   ·exact hX q hq y (by simp only [List.mem_append]; grind)
   ·exact hX q hq y (by simp only [List.mem_append]; grind)
   ·exact (hoff y (by simp only [List.mem_append]; grind) q (List.mem_append_left _ hq)).symm
  obtain ⟨oc, hc⟩ := hcX
  obtain ⟨oR, hR⟩ := hRX
  refine ⟨_, ⟨hr, b', ext ++ rest, rfl, fun x hx => List.mem_append_right _ hx, hx, S', M.op.mono fun _ h => List.mem_append_right _ h, M.wr, M.rdn, ?_, fun y hy => (hx _ hc y hy).symm, fun y hy => (hx _ hR y hy).symm, M.cR, M.nA, M.pA⟩, ?_⟩
  ·exact fun y hy q hq => (hoff q hq y (List.mem_append_right _ hy)).symm
  ·intro y hy
   simp only [List.mem_append] at hy ⊢
   grind
theorem atom_M {X : List (Addr × Obj)} (M : Mid w a pA cw st c R texts funs f b rW bS rest) (hX : ∀ x ∈ X, ∀ y ∈ b ++ (rW ++ (bS ++ rest)), x.1 ≠ y.1) (hcX : ∃ o, (c, o) ∈ X) (hRX : ∃ o, (R, o) ∈ X) (hz : texts.length ≤ 1000) (x : Str) (tx : Tok) :
  Does w 56 1 [.ref a.nA, .str x tx] (X ++ (b ++ (rW ++ (bS ++ rest)))) (fun r l => (∃ t, r = .int (symIdx texts x : Nat) t) ∧ ∃ bS', l = X ++ (b ++ (rW ++ (bS' ++ rest))) ∧ (∀ x ∈ X, ∀ y ∈ b ++ (rW ++ (bS' ++ rest)), x.1 ≠ y.1) ∧
   Mid w a pA cw st c R (addText texts x) funs f b rW bS' rest) := by
 refine (atom_S M.sym hz x tx).within (own := X ++ (b ++ rW)) ?_ ?_ ?_
 ·intro y hy q hq
  rcases List.mem_append.mp hq with hq | hq
  ·exact (hX q hq y (by simp only [List.mem_append] at hy ⊢; grind)).symm
  ·exact (M.oo q hq y hy).symm
 ·intro y hy
  simp only [List.mem_append] at hy ⊢
  grind
 ·rintro r l ⟨hr, b', rfl, S'⟩ hoff
  have hx : ∀ q ∈ X, ∀ y ∈ b ++ (rW ++ (b' ++ rest)), q.1 ≠ y.1 := by
   intro q hq y hy
   simp only [List.mem_append] at hy
   rcases hy with h | h | h
   ·exact hX q hq y (by simp only [List.mem_append]; grind)
   ·exact hX q hq y (by simp only [List.mem_append]; grind)
   ·exact (hoff y (by simp only [List.mem_append]; grind) q (List.mem_append_left _ hq)).symm
  obtain ⟨oc, hc⟩ := hcX
  obtain ⟨oR, hR⟩ := hRX
  refine ⟨_, ⟨hr, b', rfl, hx, S', M.op, M.wr, M.rdn, ?_, fun y hy => (hx _ hc y hy).symm, fun y hy => (hx _ hR y hy).symm, M.cR, M.nA, M.pA⟩, ?_⟩
  ·exact fun y hy q hq => (hoff q hq y (List.mem_append_right _ hy)).symm
  ·intro y hy
   simp only [List.mem_append] at hy ⊢
   grind
end
end
section
set_option tactic.hygienic false
noncomputable def lawB : List Stmt := match stAt 51 with
 | .FunctionDef _ _ b _ _ _ _ _ _ _ => b
 | _ => []
noncomputable def lawNames : List (Str × NameKind) := [⟨"script", .local⟩, ⟨"row", .local⟩, ⟨"names", .local⟩, ⟨"table", .local⟩, ⟨"quoting", .local⟩, ⟨"words", .local⟩, ⟨"kinds", .local⟩, ⟨"turn", .local⟩, ⟨"kind", .local⟩, ⟨"height", .local⟩, ⟨"first", .local⟩, ⟨"second", .local⟩, ⟨"scribe", .cell⟩, ⟨"way", .local⟩, ⟨"term", .local⟩, ⟨"due", .local⟩, ⟨"tail", .local⟩, ⟨"parts", .local⟩, ⟨"sign", .local⟩, ⟨"_law_row", .globalImplicit⟩, ⟨"Symbols", .globalImplicit⟩, ⟨"OperatorTable", .globalImplicit⟩, ⟨"_law_next", .globalImplicit⟩, ⟨"range", .globalImplicit⟩, ⟨"_law_sown", .globalImplicit⟩, ⟨"Writer", .globalImplicit⟩, ⟨"F_CURLY", .globalImplicit⟩, ⟨"F_DOT", .globalImplicit⟩, ⟨"A_NIL", .globalImplicit⟩, ⟨"_law_inside", .globalImplicit⟩, ⟨"F_COMMA", .globalImplicit⟩, ⟨"_law_beside", .globalImplicit⟩, ⟨"len", .globalImplicit⟩, ⟨"tuple", .globalImplicit⟩, ⟨"term_text", .globalImplicit⟩]
noncomputable def lawMore := (fnd (stAt 51)).scope.more
abbrev lawEnv (L : Addr) : Env := envX "law" ⟨.function, lawNames, false, false, lawMore⟩ L 524 (.ref 523) [("scribe", L + 1)]
structure W3 (w : World) (x c nA pA : Addr) (e : Ev) (TS : List (Tm × Addr)) (rest led : List (Addr × Obj)) : Prop where
 ex : ∃ cw st b oC, led = (c, oC) :: (b ++ rest) ∧ oC.data = .cell (some (.ref x)) ∧ cw.x = x ∧ WrIn w cw st b rest ∧ Rd w cw e rest ∧ ∀ y ∈ b ++ rest, y.1 ≠ c
 rb : Rb w nA pA e rest
 tab : TabOk e
 nil : GoodA e 0
 tm : ∀ y ∈ TS, TermAt rest y.1 y.2 ∧ WfT e y.1 ∧ hgt y.1 ≤ 20 ∧ tsz y.1 ≤ 60
section
variable {w : World} {x c nA pA : Addr} {e : Ev} {TS : List (Tm × Addr)} {rest led : List (Addr × Obj)} {t : Tm} {d : Addr}
theorem W3.see (H : W3 w x c nA pA e TS rest led) : ∃ oC cw l tl pre, oC.data = .cell (some (.ref x)) ∧ (c, oC) ∈ led ∧ (x, instObj 472 cw.dx) ∈ led ∧ (cw.dx, dictOf (wrEs w.params cw (lastStr l) tl pre) 11) ∈ led := by
 obtain ⟨cw, st, b, oC, rfl, hd, rfl, S, R, ho⟩ := H.ex
 obtain ⟨tl, m⟩ := S.mem
 exact ⟨oC, cw, st.last, tl, st.pre, hd, .head _, .tail _ (List.mem_append_right _ S.inst), .tail _ m⟩
theorem W3.ok (H : W3 w x c nA pA e TS rest led) (ht : (t, d) ∈ TS) : TmOk e t := let ⟨_, h, a, b⟩ := H.tm _ ht; ⟨h, Nat.le_trans a (by decide), Nat.le_trans b (by decide)⟩
theorem W3.okIn (H : W3 w x c nA pA e TS rest led) (ht : (t, d) ∈ TS) : TmOk e (.s 0 [t, .a 0]) := let ⟨_, h, a, b⟩ := H.tm _ ht; ⟨.dot h (.a H.nil), by simp only [hgt, hgts] at a ⊢; lia, by simp only [tsz, tszs] at b ⊢; lia⟩
theorem W3.mono {rest' led' : List (Addr × Obj)} (H : W3 w x c nA pA e TS rest led) (hs : ∀ y ∈ rest, y ∈ rest') {cw : Wc} {st : WS} {b : List (Addr × Obj)} {oC : Obj} (hl : led' = (c, oC) :: (b ++ rest')) (hd : oC.data = .cell (some (.ref x))) (hx : cw.x = x) (S : WrIn w cw st b rest') (R : Rd w cw e rest') (ho : ∀ y ∈ b ++ rest', y.1 ≠ c) : W3 w x c nA pA e TS rest' led' :=
 ⟨⟨cw, st, b, oC, hl, hd, hx, S, R, ho⟩, H.rb.mono hs, H.tab, H.nil, fun y hy => let ⟨a, r⟩ := H.tm y hy; ⟨a.mono hs, r⟩⟩
abbrev Post3 (w : World) (x c nA pA : Addr) (e : Ev) (TS : List (Tm × Addr)) (rest : List (Addr × Obj)) (X : Str) (r : Value) (l : List (Addr × Obj)) : Prop :=
 (∃ t', r = .str X t') ∧ ∃ rest' oC cw la tl pre, W3 w x c nA pA e TS rest' l ∧ (∀ y ∈ rest, y ∈ rest') ∧ oC.data = .cell (some (.ref x)) ∧ (c, oC) ∈ l ∧ (x, instObj 472 cw.dx) ∈ l ∧ (cw.dx, dictOf (wrEs w.params cw (lastStr la) tl pre) 11) ∈ l
theorem W3.post {rest' led' : List (Addr × Obj)} {X : Str} {r : Value} (H' : W3 w x c nA pA e TS rest' led') (hr : ∃ t', r = .str X t') (hs : ∀ y ∈ rest, y ∈ rest') : Post3 w x c nA pA e TS rest X r led' :=
 let ⟨oC, cw, l, tl, pre, h⟩ := H'.see; ⟨hr, rest', oC, cw, l, tl, pre, H', hs, h⟩
theorem Does.lead {f : Addr} {dep : Nat} {args : List Value} {X : Str} (H : W3 w x c nA pA e TS rest led)
  (D : ∀ cw st b, cw.x = x → WrIn w cw st b rest → Rd w cw e rest → Does w f dep args (b ++ rest) (fun r l => (∃ t', r = .str X t') ∧ ∃ O W st' b' rest', l = b' ++ rest' ∧ (∀ p ∈ rest, p ∈ rest') ∧ WrIn w { cw with O := O, W := W } st' b' rest')) :
  Does w f dep args led (Post3 w x c nA pA e TS rest X) := by
 obtain ⟨cw, st, b, oC, rfl, hd, hx, S, R, ho⟩ := H.ex
 refine Does.weak (Does.frame1 ho (D cw st b hx S R)) ?_
 rintro r l ⟨l', rfl, hoff, hr, O, W, st', b', rest', rfl, hs, S'⟩
 exact ⟨_, (H.mono hs (cw := { cw with O := O, W := W }) rfl hd hx S' (rd_move (R.mono hs) O W) hoff).post hr hs, fun p hp => hp⟩
theorem text_3 (H : W3 w x c nA pA e TS rest led) (ht : (t, d) ∈ TS) : Does w 357 11 [.ref x, .ref d] led (Post3 w x c nA pA e TS rest (textOf e t 1201)) :=
 Does.lead H fun cw _ _ hx S R => text_T S R H.tab (H.tm _ ht).1 (H.ok ht) (tm := 561) (.inr ⟨by rw [hx], rfl, rfl⟩)
theorem inside_3 (H : W3 w x c nA pA e TS rest led) (ht : (t, d) ∈ TS) : Does w 512 13 [.ref x, .ref d] led (Post3 w x c nA pA e TS rest (insideOf e t)) :=
 Does.lead H fun cw _ _ hx S R => by subst hx; exact inside_S S R H.tab (H.tm _ ht).1 (H.okIn ht)
theorem term_text_3 (H : W3 w x c nA pA e TS rest led) (ht : (t, d) ∈ TS) : Does w 484 12 [.ref nA, .ref pA, .ref d, .bool e.q] led (Post3 w x c nA pA e TS rest (textOf e t 1201)) := by
 obtain ⟨cw, st, b, oC, rfl, hd, hx, S, R, ho⟩ := H.ex
 have D := term_text_S (w := w) (rest := (c, oC) :: (b ++ rest)) (H.rb.mono fun p hp => .tail _ (List.mem_append_right _ hp)) H.tab ((H.tm _ ht).1.mono fun p hp => .tail _ (List.mem_append_right _ hp)) (H.ok ht)
 refine D.weak ?_
 rintro r l ⟨hr, rfl⟩
 exact ⟨_, H.post hr (fun y hy => hy), fun p hp => hp⟩
end
end
section
set_option tactic.hygienic false
theorem mf_agree {mt : Str → Option Value} : ∀ {ns : List (Str × Value)}, (∀ p ∈ ns, mt p.1 = some p.2) → mf mt ns = mt
 | [], _ => rfl
 | p :: ns, h => by
  funext y
  show (if y = p.1 then some p.2 else mf mt ns y) = _
  rw [mf_agree (fun q hq => h q (.tail _ hq))]
  by_cases e : y = p.1
  ·rw [if_pos e, e]; exact (h p (.head _)).symm
  ·rw [if_neg e]
noncomputable def LawFin (fl : Flow) (_ : ZS) : Prop := fl = .ret (.bool true)
theorem z_law {w : World} {A : Around} {s : Shared} {h₀ : Heap} {L : Addr} {m mg mb : Str → Option Value} {mean : ExcName → Option Value} {Q : Flow → Shared → Prop} {led : List (Addr × Obj)} {body : List Stmt} {d : Nat} (ns : List (Str × Value)) (F : Fr h₀ L s.heap m) (N : News h₀ L s.heap led) (X : (K w.params).In h₀) (T : TopAt mean mg mb h₀) (hr : Room A d) (hns : ∀ p ∈ ns, m p.1 = some p.2)
  (hEnd : ∀ h' tk m', Fr h₀ L h' m' → Q (.ret (.bool true)) { s with heap := h', toks := tk }) (h : ∀ G : ZG w lawNames d, G.R = [] → G.cl = ([("scribe", L + 1)] : List (Str × Addr)) → G.P = LawFin → G.H = [] → G.g = h₀ → ∀ tk sz, let z : ZC := ⟨⟨ns, [], led, tk, sz⟩, [], .ss body⟩; ZT G z) : wpAny (model pw w) A (execs body (lawEnv L)) Q (fun _ _ => False) s := by
 let G : ZG w lawNames d := ⟨A, h₀, L, s, lawEnv L, [("scribe", L + 1)], [], [], m, LawFin, mg, mb, mean, X, T, hr, ⟨"law", false, false, lawMore, 524, .ref 523, rfl⟩⟩
 refine wpAny_mono ((h G rfl rfl rfl rfl rfl s.toks s.heap.objs.size).s s ⟨rfl, rfl, ?_, N, List.nodup_nil, fun _ h => (nomatch h), fun _ h => (nomatch h), fun _ h => (nomatch h), fun _ _ _ h => (nomatch h)⟩) (fun fl s' hh => ?_) fun _ _ e => e
 ·show Fr h₀ L s.heap (mf m ns)
  rw [mf_agree hns]; exact F
 ·obtain ⟨σ', a', hp⟩ := hh
  have hp : fl = .ret (.bool true) := hp
  rw [hp]
  have e9 : s' = { s with heap := s'.heap, toks := σ'.tk } := a'.st
  rw [e9]
  exact hEnd _ _ _ a'.fr
section
variable {w : World} {d : Nat} {G : ZG w lawNames d} {z : ZC} {x c nA pA : Addr} {e : Ev} {TS : List (Tm × Addr)} {rest led : List (Addr × Obj)}
theorem W3.ex2 (H : W3 w x c nA pA e TS rest led) : ∃ y : Obj × Wc × Option Nat × Tok × Bool, y.1.data = .cell (some (.ref x)) ∧ (c, y.1) ∈ led ∧ (x, instObj 472 y.2.1.dx) ∈ led ∧ (y.2.1.dx, dictOf (wrEs w.params y.2.1 (lastStr y.2.2.1) y.2.2.2.1 y.2.2.2.2) 11) ∈ led := by
 obtain ⟨oC, cw, l, tl, pre, h⟩ := H.see
 exact ⟨⟨oC, cw, l, tl, pre⟩, h⟩
noncomputable def W3.y (H : W3 w x c nA pA e TS rest led) : Obj × Wc × Option Nat × Tok × Bool := Classical.choose H.ex2
noncomputable def W3.es (H : W3 w x c nA pA e TS rest led) : List DictEntry := wrEs w.params H.y.2.1 (lastStr H.y.2.2.1) H.y.2.2.2.1 H.y.2.2.2.2
noncomputable def onNm {α : Type} (md : ZM) (z : α) (f : Str → α) : α := match md with | .e (.Name x _) => f x | _ => z
theorem onNm_ok {α : Type} {z y : α} {md : ZM} {f : Str → α} (h : onNm md z f = y) (n : z ≠ y) : ∃ x p, md = .e (.Name x p) ∧ f x = y := by
 cases md with
 | e x => cases x <;> first | exact ⟨_, _, rfl, h⟩ | exact absurd h n
 | _ => exact absurd h n
noncomputable def scOf (c : ZC) : Bool := onNm c.md false fun x => x == "scribe"
theorem z_cell (n : Nat) {c : Addr} {oC : Obj} {v : Value} (hcl : G.cl = ([("scribe", c)] : List (Str × Addr))) (hm : ZHas G (zgo lawNames w.params n z) (c, oC)) (hd : oC.data = .cell (some v)) (hv : scOf (zgo lawNames w.params n z) = true) (h : let c' := zput (zgo lawNames w.params n z) v; ZT G c') : ZT G z := by
 refine ZT.go n ?_
 generalize zgo lawNames w.params n z = c1 at *
 obtain ⟨σ, k, md⟩ := c1
 obtain ⟨x, p, rfl, e1⟩ := onNm_ok hv Bool.false_ne_true
 obtain rfl := eq_of_beq e1
 intro s a
 obtain ⟨cn, b1, b2, more, f, ccd, ee⟩ := G.he
 rw [ee]
 exact nameX_C a.nw (c := c) (by rw [hcl]; rfl) (hm.at a) hd ⟨σ, a, h.s⟩ rfl rfl rfl
theorem z_scribe (n : Nat) (H : W3 w x c nA pA e TS rest led) (hcl : G.cl = ([("scribe", c)] : List (Str × Addr))) (hl : (zgo lawNames w.params n z).σ.led = led) (hv : scOf (zgo lawNames w.params n z) = true) (h : let c' := zput (zgo lawNames w.params n z) (.ref x); ZT G c') : ZT G z :=
 z_cell n hcl (zL hl (Classical.choose_spec H.ex2).2.1) (Classical.choose_spec H.ex2).1 hv h
noncomputable def w3Put (H : W3 w x c nA pA e TS rest led) (z : ZC) : ZC := mtPut w.params 472 H.es z
noncomputable def w3Ok (H : W3 w x c nA pA e TS rest led) (z : ZC) : Option Addr := (mtOf w.params 472 H.es z).map (·.1)
theorem z_w3m (n : Nat) (H : W3 w x c nA pA e TS rest led) (hl : (zgo lawNames w.params n z).σ.led = led) (hv : w3Ok H (zgo lawNames w.params n z) = some x) (h : let c' := w3Put H (zgo lawNames w.params n z); ZT G c') : ZT G z :=
 z_meth n (zL hl (Classical.choose_spec H.ex2).2.2.1) (zL hl (Classical.choose_spec H.ex2).2.2.2) hv h
theorem z_call3 (n : Nat) {f dd : Nat} {args : (Nat → Tok) → List Value} {X : Str} (D : ∀ t : Nat → Tok, Does w f dd (args t) led (Post3 w x c nA pA e TS rest X)) (hd : dd ≤ d) (hR : G.R = []) (hl : (zgo lawNames w.params n z).σ.led = led) (hv : clOf (zgo lawNames w.params n z) = some (f, args (tks (zgo lawNames w.params n z))))
  (h : ∀ t rest' l, (∀ y ∈ rest, y ∈ rest') → W3 w x c nA pA e TS rest' l → ∀ tk sz, let c' := zres (zgo lawNames w.params n z) (.str X t) (zgo lawNames w.params n z).σ.own l tk sz; ZT G c') : ZT G z := by
 refine z_call n D hd hv hl ?_
 rintro _ l ⟨⟨t, rfl⟩, rest', oC, cw, la, tl, pre, H', hs, _⟩ tk sz
 exact ⟨(fun p hp => by rw [hR] at hp; cases hp), h t rest' l hs H' tk sz⟩
end
section
variable {w : World} {d : Nat} {G : ZG w lawNames 15} {x c nA pA : Addr} {e : Ev} {TS : List (Tm × Addr)} {rest led : List (Addr × Obj)} {t : Tm} {dt : Addr}
theorem law_ret (hR : G.R = []) (hcl : G.cl = ([("scribe", c)] : List (Str × Addr))) (hP : G.P = LawFin) (H : W3 w x c nA pA e TS rest led) (ht : (t, dt) ∈ TS) {q : Bool} (hq : q = e.q) {X : Str} (hX : X = textOf e t 1201) : ∀ td m tk sz, ZT G ⟨⟨([("term", .ref dt), ("due", .str X td), ("names", .ref nA), ("table", .ref pA), ("quoting", .bool q)] : List (Str × Value)) ++ m, [], led, tk, sz⟩, [], .ss (lawB.drop 15)⟩ := by
 subst hq
 subst hX
 intro td m tk sz
 refine z_scribe 99 H hcl ∅ ∅ ?_; intro z
 refine z_w3m 99 H ∅ ∅ ?_; intro z
 refine z_call3 99 (fun t => text_3 H ht) (by decide) hR ∅ ∅ ?_; intro t1 r1 l1 hs1 H1 tk1 sz1 z
 (refine z_br 6 true (beq_self_eq_true (textOf e t 1201)) ∅ ?_; intro z)
 refine z_call3 99 (fun t => term_text_3 H1 ht) (by decide) hR ∅ ∅ ?_; intro t2 r2 l2 hs2 H2 tk2 sz2 z
 exact z_fl 99 (f := .ret (.bool (textOf e t 1201 == textOf e t 1201))) ∅ (by rw [hP, beq_self_eq_true]; rfl)
end
end
section
set_option tactic.hygienic false
noncomputable def wayN (nA pA R : Addr) (q : Bool) (d1 d2 : Addr) (k : Kd) (hh way : Int) (t1 t2 t3 : Tok) : List (Str × Value) :=
 [("way", .int way t3), ("names", .ref nA), ("table", .ref pA), ("quoting", .bool q), ("first", .ref d1), ("second", .ref d2), ("row", .ref R), ("kind", .str k.text t1), ("height", .int hh t2)]
structure WayT (texts : List Str) (funs : List (Int × Int)) (f : Fx → Int → Option (Int × Kd)) (rest : List (Addr × Obj)) (t1 t2 : Tm) (d1 d2 : Addr) (k : Kd) (hh : Int) : Prop where
 at1 : TermAt rest t1 d1
 at2 : TermAt rest t2 d2
 wf1 : WfT (evOf texts funs) t1
 wf2 : WfT (evOf texts funs) t2
 h1 : hgt t1 ≤ 3
 h2 : hgt t2 ≤ 3
 z1 : tsz t1 ≤ 15
 z2 : tsz t2 ≤ 15
 base : Base texts funs
 lt : texts.length ≤ 500
 lf : funs.length ≤ 500
 tab : TabF f (symIdx texts "foo") k hh
 foo : texts[symIdx texts "foo"]? = some (Str.ofString "foo")
section
variable {w : World} {a : Sy} {pA : Addr} {cw : Wc} {st : WS} {c R : Addr} {texts : List Str} {funs : List (Int × Int)} {f : Fx → Int → Option (Int × Kd)} {b rW bS rest : List (Addr × Obj)} {oC oR : Obj}
theorem Mid.rb (M : Mid w a pA cw st c R texts funs f b rW bS rest) {q : Bool} : Rb w a.nA pA ⟨texts, funs, f, q⟩ (bS ++ rest) :=
 ⟨M.sym.rb, M.op.mono fun _ h => List.mem_append_right _ h⟩
theorem evOf_wf {t : Tm} {q : Bool} (h : WfT (evOf texts funs) t) : WfT ⟨texts, funs, f, q⟩ t := h.grow (e := evOf texts funs) (e' := ⟨texts, funs, f, q⟩) (List.prefix_refl _) (List.prefix_refl _)
theorem mid_W3 (M : Mid w a pA cw st c R texts funs f b rW bS rest) (hT : ∀ x a p k, f x a = some (p, k) → 1 ≤ p ∧ p ≤ 1200 ∧ k.side = x) (hB : Base texts funs) (E : List (Addr × Obj)) (hE : ∀ y ∈ E, (∀ z ∈ b, y.1 ≠ z.1) ∧ y.1 ≠ c) (hd : oC.data = .cell (some (.ref cw.x))) {TS : List (Tm × Addr)}
  (hTS : ∀ y ∈ TS, TermAt (E ++ rest) y.1 y.2 ∧ WfT (evOf texts funs) y.1 ∧ hgt y.1 ≤ 20 ∧ tsz y.1 ≤ 60) : W3 w cw.x c a.nA pA ⟨texts, funs, f, cw.q⟩ TS (E ++ (rW ++ (bS ++ rest))) ((c, oC) :: (b ++ (E ++ (rW ++ (bS ++ rest))))) := by
 have hb1 : ∀ y ∈ rW ++ (bS ++ rest), ∀ z ∈ b, y.1 ≠ z.1 := by
  intro y hy z hz
  rcases List.mem_append.mp hy with h | h
  ·exact M.wr.off y h z hz
  ·exact (M.oo z (List.mem_append_left _ hz) y h).symm
 have rb : Rb w a.nA pA ⟨texts, funs, f, cw.q⟩ (E ++ (rW ++ (bS ++ rest))) := M.rb.mono fun y hy => List.mem_append_right _ (List.mem_append_right _ hy)
 obtain ⟨oN, n1, n2⟩ := M.rdn.names
 obtain ⟨oT, t1, t2⟩ := M.rdn.taken
 have up : ∀ y ∈ rW, y ∈ E ++ (rW ++ (bS ++ rest)) := fun y hy => List.mem_append_right _ (List.mem_append_left _ hy)
 refine ⟨⟨cw, st, b, oC, rfl, hd, rfl, M.wr.mono up ?_, ⟨rfl, M.nA ▸ rb.sym, M.pA ▸ rb.ops, ⟨oN, up _ n1, n2⟩, ⟨oT, up _ t1, t2⟩, M.rdn.nmod, M.rdn.tmod⟩, ?_⟩, rb, hT, (nil_good hB).grow (e := evOf texts funs) (e' := ⟨texts, funs, f, cw.q⟩) (List.prefix_refl _), fun y hy => ?_⟩
 ·intro y hy z hz
  rcases List.mem_append.mp hy with h | h
  ·exact (hE y h).1 z hz
  ·exact hb1 y h z hz
 ·intro y hy
  simp only [List.mem_append] at hy
  rcases hy with h | h | h
  ·exact M.oc y (by simp only [List.mem_append]; grind)
  ·exact (hE y h).2
  ·exact M.oc y (by simp only [List.mem_append]; grind)
 ·obtain ⟨h1, h2, h3⟩ := hTS y hy
  refine ⟨h1.mono fun z hz => ?_, evOf_wf h2, h3⟩
  simp only [List.mem_append] at hz ⊢
  grind
end
end
section
set_option tactic.hygienic false
section
variable {w : World} {N : List (Str × NameKind)} {d : Nat} {G : ZG w N d} {c : ZC}
noncomputable def onSt {α : Type} (md : ZM) (z : α) (f : Str → Value → α) : α := match md with | .st x v => f x v | _ => z
theorem onSt_ok {α : Type} {z y : α} {md : ZM} {f : Str → Value → α} (h : onSt md z f = y) (n : z ≠ y) : ∃ x v, md = .st x v ∧ f x v = y := by cases md <;> first | exact ⟨_, _, rfl, h⟩ | exact absurd h n
noncomputable def scSt (c : ZC) : Option Value := onSt c.md none fun x v => cond (x == "scribe") (some v) none
noncomputable def scPut (l : List (Addr × Obj)) (c : ZC) : ZC := ⟨⟨c.σ.m, c.σ.own, l, c.σ.tk, c.σ.sz⟩, c.k, .d (.f .next)⟩
end
theorem z_scell {w : World} {d : Nat} {G : ZG w lawNames d} {z : ZC} (n : Nat) {cA : Addr} {oC : Obj} {r : List (Addr × Obj)} {v : Value} (hcl : G.cl = ([("scribe", cA)] : List (Str × Addr))) (hR : G.R = []) (hd : oC.data = .cell none) (hr : ∀ p ∈ r, p.1 ≠ cA) (hl : (zgo lawNames w.params n z).σ.led = (cA, oC) :: r) (hv : scSt (zgo lawNames w.params n z) = some v)
  (h : ∀ o', o'.data = .cell (some v) → let c' := scPut ((cA, o') :: r) (zgo lawNames w.params n z); ZT G c') : ZT G z := by
 refine ZT.go n ?_
 generalize zgo lawNames w.params n z = c1 at *
 obtain ⟨σ, k, md⟩ := c1
 obtain ⟨x, v', rfl, e1⟩ := onSt_ok hv none_ne
 obtain ⟨hx, e2⟩ := cond_ok e1 none_ne
 obtain rfl := eq_of_beq hx
 cases e2
 have hl : σ.led = (cA, oC) :: r := hl
 intro s a
 obtain ⟨cn, b1, b2, more, f, ccd, ee⟩ := G.he
 have hmem : (cA, oC) ∈ σ.own ++ σ.led := List.mem_append_right _ (by rw [hl]; exact .head _)
 have hN := a.nw _ hmem
 rw [ee]
 refine wpAny_storeName_cell (c := cA) (v₀ := none) rfl rfl (by rw [hcl]; rfl) ⟨oC, hN.1, hd⟩ fun h' hv hs => ?_
 obtain ⟨o', ho', hd'⟩ := hv
 refine ⟨_, a.heap (σ' := ⟨σ.m, σ.own, (cA, o') :: r, σ.tk, σ.sz⟩) rfl (hs.1.trans a.sz) (a.fr.change hs hN.2.1 hN.2.2) (fun p hp => ?_) a.nd (fun p hp q hq => ?_) (fun p hp => by rw [hR] at hp; cases hp) (fun p hp => ?_) (fun p hp q hq => ?_), (h o' hd').s⟩
 ·have key : ∀ p ∈ σ.own ++ σ.led, p.1 ≠ cA → h'.get? p.1 = some p.2 ∧ p.1 ≠ G.L ∧ G.g.get? p.1 = none := fun p hp hne => ⟨(hs.2 _ hne).trans (a.nw p hp).1, (a.nw p hp).2⟩
  rcases List.mem_append.mp hp with hp | hp
  ·exact key p (List.mem_append_left _ hp) (a.off p hp (cA, oC) (by rw [hl]; exact .head _))
  ·rcases List.mem_cons.mp hp with rfl | hp
   ·exact ⟨ho', hN.2⟩
   ·exact key p (List.mem_append_right _ (by rw [hl]; exact .tail _ hp)) (hr p hp)
 ·rcases List.mem_cons.mp hq with rfl | hq
  ·exact a.off p hp (cA, oC) (by rw [hl]; exact .head _)
  ·exact a.off p hp q (by rw [hl]; exact .tail _ hq)
 ·exact ⟨(hs.2 _ (a.hof _ hmem p hp).symm).trans (a.hid p hp).1, (a.hid p hp).2⟩
 ·rcases List.mem_append.mp hp with hp | hp
  ·exact a.hof p (List.mem_append_left _ hp) q hq
  ·rcases List.mem_cons.mp hp with rfl | hp
   ·exact a.hof (cA, oC) hmem q hq
   ·exact a.hof p (List.mem_append_right _ (by rw [hl]; exact .tail _ hp)) q hq
end
section
set_option tactic.hygienic false
theorem body_len {e : Ev} {t : Tm} (ok : TmOk e t) (l : Int) (al : Bool) : (bodyT e t l al).length ≤ 60000 := by
 unfold bodyT bodyO
 rw [cat_len]
 have h := ow_eff (e := e) _ (.term t l al) (Nat.le_refl _) ok (fresh [])
 have h2 := ok.sz
 simp only [wt, fresh] at h
 have h3 : ow ([] : List Str) = 0 := rfl
 unfold fresh
 unfold ow at *
 simp only [List.map_nil, List.sum_nil, List.length_nil] at h
 lia
theorem inside_len {e : Ev} {t : Tm} (ok : TmOk e t) : (insideOf e t).length ≤ 60000 := by
 rw [inside_eq ok.wf]; exact body_len ok _ _
section
variable {w : World} {x c nA pA : Addr} {e : Ev} {TS : List (Tm × Addr)} {rest led : List (Addr × Obj)}
theorem W3.okT (H : W3 w x c nA pA e TS rest led) {t : Tm} {d : Addr} (ht : (t, d) ∈ TS) : TermAt rest t d ∧ TmOk e t := ⟨(H.tm _ ht).1, H.ok ht⟩
theorem bes_3 (H : W3 w x c nA pA e TS rest led) {k : Kd} {Pt dx dy : Addr} {nP : Nat} {vs : List Value} {u v : Tm} {h : Int} {sg : Str} {th tk1 ts : Tok} (hP : (Pt, PySem.W.listOf vs.toArray nP) ∈ rest) (hv0 : vs[0]? = some (.ref dx)) (hv1 : vs.getLast? = some (.ref dy)) (hu : (u, dx) ∈ TS) (hv : (v, dy) ∈ TS) (h1 : 1 ≤ h) (h2 : h ≤ 1200) (hsg : sg.length ≤ 10) :
  Does w 519 13 [.ref x, .ref Pt, .int h th, .str k.text tk1, .str sg ts] led (Post3 w x c nA pA e TS rest (besT e u v h k sg)) := by
 obtain ⟨a1, a2⟩ := H.okT hu
 obtain ⟨a3, a4⟩ := H.okT hv
 refine Does.lead H fun cw _ _ hx S R => ?_
 subst hx
 exact Does.weak (beside_any S R H.tab hP hv0 hv1 a1 a2 a3 a4 h1 h2 hsg) (fun r l q => ⟨l, q.ex, fun _ h => h⟩)
end
theorem wf_comma {e : Ev} {texts : List Str} {funs : List (Int × Int)} (b : Base texts funs) (ht : texts <+: e.texts) (hf : funs <+: e.funs) {x y : Tm} (hx : WfT e x) (hy : WfT e y) : WfT e (.s 1 [x, y]) ∧ nameOf e 1 = 7 := by
 have h1 := prefix_get (b.pf.trans hf) startF1
 have h7 := prefix_get (b.pt.trans ht) start7
 refine ⟨.s (by decide) (by decide) (by decide) (by decide) h1 ⟨by decide, by decide, _, h7, comma_ok.nice, comma_ok.ne⟩ (by simp) (by simp) (.cons hx (.cons hy .nil)), ?_⟩
 unfold nameOf
 rw [List.getD_eq_getElem?_getD, show ((1 : Int).toNat) = 1 from rfl, h1]; rfl
section
variable {w : World} {d : Nat} {G : ZG w lawNames d} {z : ZC} {a : Sy} {pA : Addr} {cw : Wc} {st : WS} {c R : Addr} {texts : List Str} {funs : List (Int × Int)} {f : Fx → Int → Option (Int × Kd)} {b rW bS rest : List (Addr × Obj)} {oC oR : Obj}
theorem z_mid (n : Nat) (M : Mid w a pA cw st c R texts funs f b rW bS rest) (hR : G.R = []) (hv : zall (zgo lawNames w.params n z) = true) (hl : (zgo lawNames w.params n z).σ.led = (c, oC) :: (R, oR) :: (b ++ (rW ++ (bS ++ rest))))
  (h : let E := (zgo lawNames w.params n z).σ.own; (∀ y ∈ E, (∀ z ∈ b, y.1 ≠ z.1) ∧ y.1 ≠ c) → let c' := zside [] ((c, oC) :: (b ++ (E ++ (rW ++ (bS ++ rest))))) (zgo lawNames w.params n z); ZT G c') : ZT G z := by
 refine ZT.go n ?_
 generalize zgo lawNames w.params n z = c1 at *
 obtain ⟨σ, k, md⟩ := c1
 have hl : σ.led = (c, oC) :: (R, oR) :: (b ++ (rW ++ (bS ++ rest))) := hl
 refine z_all hv fun s a => ?_
 have hE : ∀ y ∈ σ.own, (∀ z ∈ b, y.1 ≠ z.1) ∧ y.1 ≠ c := fun y hy => ⟨fun q hq => a.off y hy q (by rw [hl]; exact .tail _ (.tail _ (List.mem_append_left _ hq))), a.off y hy (c, oC) (by rw [hl]; exact .head _)⟩
 have hs : ∀ p ∈ [] ++ ((c, oC) :: (b ++ (σ.own ++ (rW ++ (bS ++ rest))))), p ∈ σ.own ++ σ.led := fun p hp => by
  rw [hl]
  simp only [List.nil_append, List.mem_append, List.mem_cons] at hp ⊢
  rcases hp with q | q | q | q
  ·exact .inr (.inl q)
  ·exact .inr (.inr (.inr (.inl q)))
  ·exact .inl q
  ·exact .inr (.inr (.inr (.inr q)))
 exact ⟨⟨σ.m, [], _, σ.tk, σ.sz⟩, ⟨a.st, a.sz, a.fr, fun p hp => a.nw p (hs p hp), List.nodup_nil, fun _ h => (nomatch h), (fun p hp => by rw [hR] at hp; cases hp), a.hid, fun p hp => a.hof p (hs p hp)⟩, (h hE).s⟩
variable {x nA : Addr} {e : Ev} {TS : List (Tm × Addr)} {led : List (Addr × Obj)}
theorem z_w3side (n : Nat) (H : W3 w x c nA pA e TS rest led) (hR : G.R = []) (hv : zall (zgo lawNames w.params n z) = true) (hl : (zgo lawNames w.params n z).σ.led = led)
  (h : let E := (zgo lawNames w.params n z).σ.own; ∀ led', W3 w x c nA pA e TS (E ++ rest) led' → let c' := zside [] led' (zgo lawNames w.params n z); ZT G c') : ZT G z := by
 refine ZT.go n ?_
 generalize zgo lawNames w.params n z = c1 at *
 obtain ⟨σ, k, md⟩ := c1
 have hl : σ.led = led := hl
 obtain ⟨cw, st, b, oC, e1, hd, hx, S, R, ho⟩ := H.ex
 refine z_all hv fun s a => ?_
 have hl2 := hl.trans e1
 have hE1 : ∀ y ∈ σ.own, ∀ q ∈ b, y.1 ≠ q.1 := fun y hy q hq => a.off y hy q (by rw [hl2]; exact .tail _ (List.mem_append_left _ hq))
 have hE2 : ∀ y ∈ σ.own, y.1 ≠ c := fun y hy => a.off y hy (c, oC) (by rw [hl2]; exact .head _)
 have hs : ∀ p ∈ [] ++ ((c, oC) :: (b ++ (σ.own ++ rest))), p ∈ σ.own ++ σ.led := fun p hp => by
  rw [hl2]
  simp only [List.nil_append, List.mem_append, List.mem_cons] at hp ⊢
  rcases hp with q | q | q | q
  ·exact .inr (.inl q)
  ·exact .inr (.inr (.inl q))
  ·exact .inl q
  ·exact .inr (.inr (.inr q))
 have hM : ∀ y ∈ rest, y ∈ σ.own ++ rest := fun y hy => List.mem_append_right _ hy
 have H2 : W3 w x c nA pA e TS (σ.own ++ rest) ((c, oC) :: (b ++ (σ.own ++ rest))) := H.mono hM rfl hd hx (S.app σ.own hE1) (R.mono hM) (fun y hy => by
  rcases List.mem_append.mp hy with q | q
  ·exact ho y (List.mem_append_left _ q)
  ·rcases List.mem_append.mp q with q | q
   ·exact hE2 y q
   ·exact ho y (List.mem_append_right _ q))
 exact ⟨⟨σ.m, [], _, σ.tk, σ.sz⟩, ⟨a.st, a.sz, a.fr, fun p hp => a.nw p (hs p hp), List.nodup_nil, fun _ h => (nomatch h), (fun p hp => by rw [hR] at hp; cases hp), a.hid, fun p hp => a.hof p (hs p hp)⟩, (h _ H2).s⟩
end
section
variable {w : World} {a : Sy} {pA : Addr} {cw : Wc} {st : WS} {c R : Addr} {texts : List Str} {funs : List (Int × Int)} {f : Fx → Int → Option (Int × Kd)} {b rW bS rest : List (Addr × Obj)} {oC oR : Obj}
noncomputable def TmIn (texts : List Str) (funs : List (Int × Int)) (l : List (Addr × Obj)) (t : Tm) (d : Addr) : Prop := TermAt l t d ∧ WfT (evOf texts funs) t ∧ hgt t ≤ 20 ∧ tsz t ≤ 60
theorem mid_3 (M : Mid w a pA cw st c R texts funs f b rW bS rest) (hT : ∀ x a p k, f x a = some (p, k) → 1 ≤ p ∧ p ≤ 1200 ∧ k.side = x) (hB : Base texts funs) (E : List (Addr × Obj)) (hE : ∀ y ∈ E, (∀ z ∈ b, y.1 ≠ z.1) ∧ y.1 ≠ c) (hd : oC.data = .cell (some (.ref cw.x))) {t1 t2 t3 : Tm} {d1 d2 d3 : Addr}
  (h1 : TmIn texts funs (E ++ rest) t1 d1) (h2 : TmIn texts funs (E ++ rest) t2 d2) (h3 : TmIn texts funs (E ++ rest) t3 d3) : W3 w cw.x c a.nA pA ⟨texts, funs, f, cw.q⟩ [(t1, d1), (t2, d2), (t3, d3)] (E ++ (rW ++ (bS ++ rest))) ((c, oC) :: (b ++ (E ++ (rW ++ (bS ++ rest))))) :=
 mid_W3 M hT hB E hE hd (List.forall_mem_cons.mpr ⟨h1, List.forall_mem_cons.mpr ⟨h2, List.forall_mem_cons.mpr ⟨h3, fun _ h => nomatch h⟩⟩⟩)
end
theorem hgt_le {t : Tm} (h : hgt t ≤ 3) : hgt t ≤ 20 := Nat.le_trans h (by decide)
theorem tsz_le {t : Tm} (h : tsz t ≤ 15) : tsz t ≤ 60 := Nat.le_trans h (by decide)
theorem lsAt_ok {own : List (Addr × Obj)} {j : Nat} {vs : List Value} (h : (own[j]?.bind fun p => (asSeq "list" p.2).bind fun q => cond (Nat.beq q.2 0) (some q.1.toList) none) = some vs) : (adr own j, PySem.W.listOf vs.toArray 0) ∈ own := by
 obtain ⟨p, e1, h1⟩ := Option.bind_eq_some_iff.mp h
 obtain ⟨q, e2, h2⟩ := Option.bind_eq_some_iff.mp h1
 obtain ⟨hn, h3⟩ := cond_ok h2 none_ne
 cases h3
 obtain ⟨its, n⟩ := q
 obtain rfl : n = 0 := Nat.eq_of_beq_eq_true hn
 refine adr_mem ?_
 unfold adr
 rw [e1, ← Prod.eta p, asSeq_ok e2]; rfl
section
variable {w : World} {G : ZG w lawNames 15} {L : Addr} {a : Sy} {pA R : Addr} {cw : Wc} {st : WS} {texts : List Str} {funs : List (Int × Int)} {f : Fx → Int → Option (Int × Kd)} {b rW bS rest : List (Addr × Obj)} {oC oR : Obj} {t1 t2 : Tm} {d1 d2 : Addr} {k : Kd} {hh : Int}
theorem law_way0 (hR : G.R = []) (hcl : G.cl = ([("scribe", L + 1)] : List (Str × Addr))) (hP : G.P = LawFin) (M : Mid w a pA cw st (L + 1) R texts funs f b rW bS rest) (hd : oC.data = .cell (some (.ref cw.x)))
  (Y : WayT texts funs f rest t1 t2 d1 d2 k hh) : ∀ v7t v8t v9t m tk sz, ZT G ⟨⟨wayN a.nA pA R cw.q d1 d2 k hh 0 v7t v8t v9t ++ m, [], ((L + 1, oC) :: (R, oR) :: (b ++ (rW ++ (bS ++ rest)))), tk, sz⟩, [], .ss (lawB.drop 14)⟩ := by
 intro v7t v8t v9t m tk sz
 refine z_mid (oC := oC) (oR := oR) 99 M hR ∅ ∅ ?_; intro E hE z
 have H0 := mid_W3 M Y.tab.ok Y.base E hE hd (TS := [(.s 9 [t1], adr E 1), (t1, d1)]) (List.forall_mem_cons.mpr ⟨⟨tmS (i := 0) (fun p hp => List.mem_append_left _ hp) ∅ ∅ (.cons (Y.at1.mono (fun p hp => List.mem_append_right _ hp)) .nil), .curly Y.wf1, (by have := Y.h1; have := Y.h2; simp only [hgt, hgts]; lia), (by have := Y.z1; have := Y.z2; simp only [tsz, tszs]; lia)⟩, List.forall_mem_cons.mpr ⟨⟨(Y.at1.mono (fun p hp => List.mem_append_right _ hp)), Y.wf1, hgt_le Y.h1, tsz_le Y.z1⟩, fun _ h => nomatch h⟩⟩)
 refine z_scribe 99 H0 hcl ∅ ∅ ?_; intro z
 refine z_w3m 99 H0 ∅ ∅ ?_; intro z
 refine z_call3 99 (fun t => text_3 H0 (.tail _ (.head _))) (by decide) hR ∅ ∅ ?_; intro u1 r1 l1 hs1 H1 tk1 sz1 z
 have hl := textOf_len (H1.ok (t := t1) (.tail _ (.head _))) 1201
 have e1 : (("{" : Str)).length = 1 := by decide +kernel
 have e2 : (("}" : Str)).length = 1 := by decide +kernel
 refine z_addS 99 (x := "{") (y := textOf ⟨texts, funs, f, cw.q⟩ t1 1201) (by lia) ∅ ?_; intro t9 tk9 z
 refine z_addS 99 (x := "{" ++ textOf ⟨texts, funs, f, cw.q⟩ t1 1201) (y := "}") (by rw [Str.length_append]; lia) ∅ ?_; intro t9 tk9 z
 (refine z_joinN 5 [("term", .ref (adr E 1)), ("due", .str ("{" ++ textOf ⟨texts, funs, f, cw.q⟩ t1 1201 ++ "}") t9), ("names", .ref a.nA), ("table", .ref pA), ("quoting", .bool cw.q)] (law_ret hR hcl hP H1 (.head _) rfl ((curly_eq (evOf_wf (f := f) (q := cw.q) Y.wf1)).symm) t9) ∅ ∅ ∅ ∅ ∅)
theorem law_way1 (hR : G.R = []) (hcl : G.cl = ([("scribe", L + 1)] : List (Str × Addr))) (hP : G.P = LawFin) (M : Mid w a pA cw st (L + 1) R texts funs f b rW bS rest) (hd : oC.data = .cell (some (.ref cw.x)))
  (Y : WayT texts funs f rest t1 t2 d1 d2 k hh) : ∀ v7t v8t v9t m tk sz, ZT G ⟨⟨wayN a.nA pA R cw.q d1 d2 k hh 1 v7t v8t v9t ++ m, [], ((L + 1, oC) :: (R, oR) :: (b ++ (rW ++ (bS ++ rest)))), tk, sz⟩, [], .ss (lawB.drop 14)⟩ := by
 intro v7t v8t v9t m tk sz
 refine z_mid (oC := oC) (oR := oR) 99 M hR ∅ ∅ ?_; intro E hE z
 have H0 := mid_3 M Y.tab.ok Y.base E hE hd (t1 := .s 0 [t2, .s 0 [t1, .a 0]]) (d1 := adr E 4) (t2 := t1) (d2 := d1) (t3 := t2) (d3 := d2) ⟨tmS (i := 3) (fun p hp => List.mem_append_left _ hp) ∅ ∅ (.cons (Y.at2.mono (fun p hp => List.mem_append_right _ hp)) (.cons (tmS (i := 1) (j := 2) (fun p hp => List.mem_append_left _ hp) ∅ ∅ (.cons (Y.at1.mono (fun p hp => List.mem_append_right _ hp)) (.cons (tmA (j := 0) (fun p hp => List.mem_append_left _ hp) ∅) .nil))) .nil)), .dot Y.wf2 (.dot Y.wf1 (.a (nil_good Y.base))), (by have := Y.h1; have := Y.h2; simp only [hgt, hgts]; lia), (by have := Y.z1; have := Y.z2; simp only [tsz, tszs]; lia)⟩ ⟨(Y.at1.mono (fun p hp => List.mem_append_right _ hp)), Y.wf1, hgt_le Y.h1, tsz_le Y.z1⟩ ⟨(Y.at2.mono (fun p hp => List.mem_append_right _ hp)), Y.wf2, hgt_le Y.h2, tsz_le Y.z2⟩
 refine z_scribe 99 H0 hcl ∅ ∅ ?_; intro z
 refine z_call3 99 (fun t => inside_3 H0 (.tail _ (.tail _ (.head _)))) (by decide) hR ∅ ∅ ?_; intro u1 r1 l1 hs1 H1 tk1 sz1 z
 have g1 := inside_len (H1.ok (t := t1) (.tail _ (.head _)))
 have g2 := inside_len (H1.ok (t := t2) (.tail _ (.tail _ (.head _))))
 have e1 : (("[" : Str)).length = 1 := by decide +kernel
 have e2 : (("," : Str)).length = 1 := by decide +kernel
 have e3 : (("]" : Str)).length = 1 := by decide +kernel
 refine z_addS 99 (x := "[") (y := insideOf ⟨texts, funs, f, cw.q⟩ t2) (by lia) ∅ ?_; intro t9 tk9 z
 refine z_addS 99 (x := "[" ++ insideOf ⟨texts, funs, f, cw.q⟩ t2) (y := ",") (by rw [Str.length_append]; lia) ∅ ?_; intro t9 tk9 z
 refine z_scribe 99 H1 hcl ∅ ∅ ?_; intro z
 refine z_call3 99 (fun t => inside_3 H1 (.tail _ (.head _))) (by decide) hR ∅ ∅ ?_; intro u2 r2 l2 hs2 H2 tk2 sz2 z
 refine z_addS 99 (x := "[" ++ insideOf ⟨texts, funs, f, cw.q⟩ t2 ++ ",") (y := insideOf ⟨texts, funs, f, cw.q⟩ t1) (by simp only [Str.length_append]; lia) ∅ ?_; intro t9 tk9 z
 refine z_addS 99 (x := "[" ++ insideOf ⟨texts, funs, f, cw.q⟩ t2 ++ "," ++ insideOf ⟨texts, funs, f, cw.q⟩ t1) (y := "]") (by simp only [Str.length_append]; lia) ∅ ?_; intro t9 tk9 z
 (refine z_joinN 7 [("term", .ref (adr E 4)), ("due", .str ("[" ++ insideOf ⟨texts, funs, f, cw.q⟩ t2 ++ "," ++ insideOf ⟨texts, funs, f, cw.q⟩ t1 ++ "]") t9), ("names", .ref a.nA), ("table", .ref pA), ("quoting", .bool cw.q)] (law_ret hR hcl hP H2 (.head _) rfl ((list2_eq (evOf_wf (f := f) (q := cw.q) Y.wf2) (evOf_wf (f := f) (q := cw.q) Y.wf1)).symm) t9) ∅ ∅ ∅ ∅ ∅)
theorem law_way4 (hR : G.R = []) (hcl : G.cl = ([("scribe", L + 1)] : List (Str × Addr))) (hP : G.P = LawFin) (M : Mid w a pA cw st (L + 1) R texts funs f b rW bS rest) (hd : oC.data = .cell (some (.ref cw.x)))
  (Y : WayT texts funs f rest t1 t2 d1 d2 k hh) : ∀ v7t v8t v9t m tk sz, ZT G ⟨⟨wayN a.nA pA R cw.q d1 d2 k hh 4 v7t v8t v9t ++ m, [], ((L + 1, oC) :: (R, oR) :: (b ++ (rW ++ (bS ++ rest)))), tk, sz⟩, [], .ss (lawB.drop 14)⟩ := by
 intro v7t v8t v9t m tk sz
 have wf0 := (wf_comma (e := evOf texts funs) Y.base (List.prefix_refl _) (List.prefix_refl _) Y.wf1 Y.wf2).1
 obtain ⟨wf, nm⟩ := wf_comma (e := ⟨texts, funs, f, cw.q⟩) Y.base (List.prefix_refl _) (List.prefix_refl _) (evOf_wf (f := f) (q := cw.q) Y.wf1) (evOf_wf (f := f) (q := cw.q) Y.wf2)
 refine z_mid (oC := oC) (oR := oR) 99 M hR ∅ ∅ ?_; intro E hE z
 have H0 := mid_3 M Y.tab.ok Y.base E hE hd (t1 := .s 1 [t1, t2]) (d1 := adr E 1) (t2 := t1) (d2 := d1) (t3 := t2) (d3 := d2) ⟨tmS (i := 0) (fun p hp => List.mem_append_left _ hp) ∅ ∅ (.cons (Y.at1.mono (fun p hp => List.mem_append_right _ hp)) (.cons (Y.at2.mono (fun p hp => List.mem_append_right _ hp)) .nil)), wf0, (by have := Y.h1; have := Y.h2; simp only [hgt, hgts]; lia), (by have := Y.z1; have := Y.z2; simp only [tsz, tszs]; lia)⟩ ⟨(Y.at1.mono (fun p hp => List.mem_append_right _ hp)), Y.wf1, hgt_le Y.h1, tsz_le Y.z1⟩ ⟨(Y.at2.mono (fun p hp => List.mem_append_right _ hp)), Y.wf2, hgt_le Y.h2, tsz_le Y.z2⟩
 refine z_scribe 99 H0 hcl ∅ ∅ ?_; intro z
 refine z_w3side 99 H0 hR ∅ ∅ ?_; intro E2 l9 H9 z
 refine z_call3 99 (fun t => bes_3 (th := t 2) (tk1 := t 3) (ts := t 4) (k := .xfy) (h := 1000) (u := t1) (v := t2) (sg := ",") H9 (List.mem_append_left _ (lsAt_ok (own := E2) (j := 0) (vs := [.ref d1, .ref d2]) ∅)) rfl rfl (.tail _ (.head _)) (.tail _ (.tail _ (.head _))) (by decide) (by decide) (by decide +kernel)) (by decide) hR ∅ ∅ ?_; intro u1 r1 l1 hs1 H1 tk1 sz1 z
 have hEq := comma_eq (e := ⟨texts, funs, f, cw.q⟩) (f := 1) (k := .xfy) (by decide) (by decide) nm Y.tab.comma (by decide) (by decide) (evOf_wf (f := f) (q := cw.q) Y.wf1) (evOf_wf (f := f) (q := cw.q) Y.wf2)
 (refine z_joinN 13 [("term", .ref (adr E 1)), ("due", .str (besT ⟨texts, funs, f, cw.q⟩ t1 t2 1000 .xfy ",") u1), ("names", .ref a.nA), ("table", .ref pA), ("quoting", .bool cw.q)] (law_ret hR hcl hP H1 (.head _) rfl (hEq.symm) u1) ∅ ∅ ∅ ∅ ∅)
end
end
section
set_option tactic.hygienic false
theorem four_at {e1 e2 e3 e4 : Addr} {k : Int} (h0 : 0 ≤ k) (h1 : k < 4) : ∃ e, ([.ref e1, .ref e2, .ref e3, .ref e4] : List Value)[k.toNat]? = some (.ref e) ∧ (e = e1 ∨ e = e2 ∨ e = e3 ∨ e = e4) := by
 have hk : k = 0 ∨ k = 1 ∨ k = 2 ∨ k = 3 := by lia
 rcases hk with rfl | rfl | rfl | rfl
 ·exact ⟨e1, rfl, .inl rfl⟩
 ·exact ⟨e2, rfl, .inr (.inl rfl)⟩
 ·exact ⟨e3, rfl, .inr (.inr (.inl rfl))⟩
 ·exact ⟨e4, rfl, .inr (.inr (.inr rfl))⟩
section
variable {w : World} {G : ZG w lawNames 15} {L : Addr} {a : Sy} {pA R : Addr} {cw : Wc} {st : WS} {texts : List Str} {funs : List (Int × Int)} {f : Fx → Int → Option (Int × Kd)} {b rW bS rest : List (Addr × Obj)} {oC : Obj} {vs : List Value} {n : Nat} {t1 t2 : Tm} {d1 d2 : Addr} {k : Kd} {hh : Int}
theorem next_M {c : Addr} (M : Mid w a pA cw st c R texts funs f b rW bS rest) (ok : RowOk vs) {many : Int} {tm : Tok} (h1 : 0 < many) (h2 : many ≤ 1000) : Does w 498 1 [.ref R, .int many tm] ([(c, oC), (R, PySem.W.listOf vs.toArray n)] ++ (b ++ (rW ++ (bS ++ rest)))) (fun r l => ∃ k t vs' n', r = .int k t ∧ 0 ≤ k ∧ k < many ∧ RowOk vs' ∧ l = (c, oC) :: (R, PySem.W.listOf vs'.toArray n') :: (b ++ (rW ++ (bS ++ rest)))) := by
 refine (law_next_S (l1 := (c, oC) :: (b ++ (rW ++ (bS ++ rest)))) (.tail .head) ok (List.forall_mem_cons.mpr ⟨M.cR.symm, M.oR⟩) h1 h2).weak ?_
 rintro r l ⟨k, t, vs', n', rfl, h0, h1, ok', rfl⟩
 refine ⟨_, ⟨k, t, vs', n', rfl, h0, h1, ok', rfl⟩, fun p hp => ?_⟩
 simp only [List.mem_cons] at hp ⊢
 rcases hp with h | h | h
 ·exact .inr (.inl h)
 ·exact .inl h
 ·exact .inr (.inr h)
theorem law_way2 (hR : G.R = []) (hcl : G.cl = ([("scribe", L + 1)] : List (Str × Addr))) (hP : G.P = LawFin) (ok : RowOk vs) (M : Mid w a pA cw st (L + 1) R texts funs f b rW bS rest) (hd : oC.data = .cell (some (.ref cw.x)))
  (Y : WayT texts funs f rest t1 t2 d1 d2 k hh) : ∀ v7t v8t v9t m tk sz, ZT G ⟨⟨wayN a.nA pA R cw.q d1 d2 k hh 2 v7t v8t v9t ++ m, [], ((L + 1, oC) :: (R, PySem.W.listOf vs.toArray n) :: (b ++ (rW ++ (bS ++ rest)))), tk, sz⟩, [], .ss (lawB.drop 14)⟩ := by
 intro v7t v8t v9t m tk sz
 have hl0 := Y.lt
 have hf0 := Y.lf
 have hup : ∀ p ∈ rest, p ∈ (L + 1, oC) :: (R, PySem.W.listOf vs.toArray n) :: (b ++ (rW ++ (bS ++ rest))) := (fun p hp => .tail _ (.tail _ (List.mem_append_right b (List.mem_append_right rW (List.mem_append_right bS hp)))))
 refine z_meth 99 (zL ∅ (hup _ M.sym.inst)) (zL ∅ (hup _ M.sym.dict)) ∅ ?_; intro z
 refine z_call 99 (fun t => atom_M (X := [(L + 1, oC), (R, PySem.W.listOf vs.toArray n)]) M (List.forall_mem_cons.mpr ⟨fun y hy => (M.oc y hy).symm, List.forall_mem_cons.mpr ⟨fun y hy => (M.oR y hy).symm, fun _ h => nomatch h⟩⟩) ⟨_, .head _⟩ ⟨_, .tail _ (.head _)⟩ (by lia) (Str.ofString "foo") (t 1)) (by decide) ∅ ∅ ?_
 rintro _ _ ⟨⟨t', rfl⟩, bS1, rfl, hX1, M1⟩ tk2 sz2
 refine ⟨(fun p hp => by rw [hR] at hp; cases hp), ?_⟩; intro z
 have gr1 := grow_atom texts funs (Str.ofString "foo")
 have hl1 := gr1.lt
 have hup : ∀ p ∈ rest, p ∈ (L + 1, oC) :: (R, PySem.W.listOf vs.toArray n) :: (b ++ (rW ++ (bS1 ++ rest))) := (fun p hp => .tail _ (.tail _ (List.mem_append_right b (List.mem_append_right rW (List.mem_append_right bS1 hp)))))
 refine z_meth 99 (zL ∅ (hup _ M1.sym.inst)) (zL ∅ (hup _ M1.sym.dict)) ∅ ?_; intro z
 refine z_call 99 (fun t => func_M (k := 2) (X := [(L + 1, oC), (R, PySem.W.listOf vs.toArray n)]) M1 (List.forall_mem_cons.mpr ⟨fun y hy => (M1.oc y hy).symm, List.forall_mem_cons.mpr ⟨fun y hy => (M1.oR y hy).symm, fun _ h => nomatch h⟩⟩) ⟨_, .head _⟩ ⟨_, .tail _ (.head _)⟩ (by lia) (by lia) (Str.ofString "-") (t 1) (t 2)) (by decide) ∅ ∅ ?_
 rintro _ _ ⟨⟨t', rfl⟩, bS2, rest2, rfl, hs2, hX2, M2⟩ tk2 sz2
 refine ⟨(fun p hp => by rw [hR] at hp; cases hp), ?_⟩; intro z
 have gr2 := grow_func (addText texts (Str.ofString "foo")) funs (Str.ofString "-") 2
 have hB1 := Y.base.grow gr1
 have hB2 := hB1.grow gr2
 obtain ⟨f0, f9, fl, fg, ga⟩ := func_good (e := evOf (addText (addText texts (Str.ofString "foo")) (Str.ofString "-")) (addFun funs ((symIdx (addText texts (Str.ofString "foo")) (Str.ofString "-") : Nat), 2))) (k := 2) hB1 minus_ok (List.prefix_refl _) (List.prefix_refl _) (by lia) (by lia)
 have wf1 := evOf_grow gr2 (evOf_grow gr1 Y.wf1)
 have wf2 := evOf_grow gr2 (evOf_grow gr1 Y.wf2)
 have wfS := wf_func (args := [t2, t1]) hB1 minus_ok (by lia) (by lia) (List.prefix_refl _) (List.prefix_refl _) (by simp) (by simp) (.cons wf2 (.cons wf1 .nil))
 refine z_own 99 (l := [(L + 1, oC), (R, PySem.W.listOf vs.toArray n)] ++ (b ++ (rW ++ (bS2 ++ rest2)))) ∅ ∅ ?_; intro own hnd hoff hlt z
 refine z_call 0 (fun t => next_M (oC := oC) (n := n) M2 ok (many := 4) (tm := t 1) (by decide) (by decide)) (by decide) ∅ ∅ ?_
 rintro _ _ ⟨k', tk', vs', n', rfl, hk0, hk1, ok', rfl⟩ tk2 sz2
 refine ⟨(fun p hp => by rw [hR] at hp; cases hp), ?_⟩; intro z
 obtain ⟨e, he, hd4⟩ := four_at (e1 := adr own 0) (e2 := adr own 1) (e3 := adr own 2) (e4 := adr own 4) hk0 hk1
 refine z_itemLO 99 5 (vs := [.ref (adr own 0), .ref (adr own 1), .ref (adr own 2), .ref (adr own 4)]) hk0 (by lia) he ∅ ∅ ?_; intro z
 refine z_mid (oC := oC) (oR := PySem.W.listOf vs'.toArray n') 99 M2 hR ∅ ∅ ?_; intro E hE z
 have tB1 : TermAt (E ++ rest2) t1 d1 := Y.at1.mono (fun p hp => List.mem_append_right _ (hs2 p hp))
 obtain ⟨tt, u1, u2, u3, u4, u5, u6⟩ : ∃ tt, TermAt (E ++ rest2) tt e ∧ WfT (evOf (addText (addText texts (Str.ofString "foo")) (Str.ofString "-")) (addFun funs ((symIdx (addText texts (Str.ofString "foo")) (Str.ofString "-") : Nat), 2))) tt ∧ (∀ x y, tt ≠ .s 0 [x, y]) ∧ isNil tt = false ∧ hgt tt ≤ 4 ∧ tsz tt ≤ 31 := by
  have z1 := Y.h1
  have z2 := Y.h2
  have z3 := Y.z1
  have z4 := Y.z2
  rcases hd4 with h | h | h | h
  ·have q : TermAt (E ++ rest2) (.v 3) e := by rw [h, (by kernel_rfl : adr own 0 = adr E 0)]; exact tmV (fun p hp => List.mem_append_left _ hp) ∅
   exact ⟨_, q, .v (by decide) (by decide), fun x y q => (nomatch q), rfl, by simp [hgt], by simp [tsz]⟩
  ·have q : TermAt (E ++ rest2) (.i (-7)) e := by rw [h, (by kernel_rfl : adr own 1 = adr E 1)]; exact tmI (fun p hp => List.mem_append_left _ hp) ∅
   exact ⟨_, q, .i (by decide) (by decide), fun x y q => (nomatch q), rfl, by simp [hgt], by simp [tsz]⟩
  ·have q : TermAt (E ++ rest2) (.a (symIdx texts (Str.ofString "foo") : Nat)) e := by rw [h, (by kernel_rfl : adr own 2 = adr E 2)]; exact tmA (fun p hp => List.mem_append_left _ hp) ∅
   refine ⟨_, q, .a (atom_good foo_ok (addText_pre _ _) (by lia)), fun x y q => (nomatch q), ?_, by simp [hgt], by simp [tsz]⟩
   have := symIdx_ne Y.base start0 (by decide +kernel : (Str.ofString "foo") ≠ Str.ofString "[]")
   simp only [isNil, beq_eq_false_iff_ne]
   lia
  ·have q : TermAt (E ++ rest2) (.s (funIdx funs ((symIdx (addText texts (Str.ofString "foo")) (Str.ofString "-") : Nat), 2) : Nat) [t2, t1]) e := by rw [h, (by kernel_rfl : adr own 4 = adr E 4)]; exact tmS (i := 3) (fun p hp => List.mem_append_left _ hp) ∅ ∅ (.cons (Y.at2.mono (fun p hp => List.mem_append_right _ (hs2 p hp))) (.cons tB1 .nil))
   exact ⟨_, q, wfS, fun x y q => by injection q with q1 q2; exact f0 q1, rfl, by simp only [hgt, hgts]; lia, by simp only [tsz, tszs]; lia⟩
 have q7 : TermAt (E ++ rest2) (.s 0 [t1, tt]) (adr E 7) := tmS (i := 6) (fun p hp => List.mem_append_left _ hp) ∅ ∅ (.cons tB1 (.cons u1 .nil))
 have H0 := mid_3 M2 Y.tab.ok hB2 E hE hd (t1 := .s 0 [t1, tt]) (d1 := adr E 7) (t2 := t1) (d2 := d1) (t3 := tt) (d3 := e) ⟨q7, .dot wf1 u2, (by have := Y.h1; simp only [hgt, hgts]; lia), (by have := Y.z1; simp only [tsz, tszs]; lia)⟩ ⟨tB1, wf1, hgt_le Y.h1, tsz_le Y.z1⟩ ⟨u1, u2, Nat.le_trans u5 (by decide), Nat.le_trans u6 (by decide)⟩
 refine z_scribe 99 H0 hcl ∅ ∅ ?_; intro z
 refine z_call3 99 (fun t => inside_3 H0 (.tail _ (.head _))) (by decide) hR ∅ ∅ ?_; intro ut1 r1 l1 hs1 H1 tk1 sz1 z
 have g1 := inside_len (H1.ok (t := t1) (.tail _ (.head _)))
 have g2 := inside_len (H1.ok (t := tt) (.tail _ (.tail _ (.head _))))
 have e1 : (("[" : Str)).length = 1 := by decide +kernel
 have e2 : (("|" : Str)).length = 1 := by decide +kernel
 have e3 : (("]" : Str)).length = 1 := by decide +kernel
 refine z_addS 99 (x := "[") (y := insideOf ⟨(addText (addText texts (Str.ofString "foo")) (Str.ofString "-")), (addFun funs ((symIdx (addText texts (Str.ofString "foo")) (Str.ofString "-") : Nat), 2)), f, cw.q⟩ t1) (by lia) ∅ ?_; intro t9 tk9 z
 refine z_addS 99 (x := "[" ++ insideOf ⟨(addText (addText texts (Str.ofString "foo")) (Str.ofString "-")), (addFun funs ((symIdx (addText texts (Str.ofString "foo")) (Str.ofString "-") : Nat), 2)), f, cw.q⟩ t1) (y := "|") (by rw [Str.length_append]; lia) ∅ ?_; intro t9 tk9 z
 refine z_scribe 99 H1 hcl ∅ ∅ ?_; intro z
 refine z_call3 99 (fun t => inside_3 H1 (.tail _ (.tail _ (.head _)))) (by decide) hR ∅ ∅ ?_; intro ut2 r2 l2 hs2 H2 tk2 sz2 z
 refine z_addS 99 (x := "[" ++ insideOf ⟨(addText (addText texts (Str.ofString "foo")) (Str.ofString "-")), (addFun funs ((symIdx (addText texts (Str.ofString "foo")) (Str.ofString "-") : Nat), 2)), f, cw.q⟩ t1 ++ "|") (y := insideOf ⟨(addText (addText texts (Str.ofString "foo")) (Str.ofString "-")), (addFun funs ((symIdx (addText texts (Str.ofString "foo")) (Str.ofString "-") : Nat), 2)), f, cw.q⟩ tt) (by simp only [Str.length_append]; lia) ∅ ?_; intro t9 tk9 z
 refine z_addS 99 (x := "[" ++ insideOf ⟨(addText (addText texts (Str.ofString "foo")) (Str.ofString "-")), (addFun funs ((symIdx (addText texts (Str.ofString "foo")) (Str.ofString "-") : Nat), 2)), f, cw.q⟩ t1 ++ "|" ++ insideOf ⟨(addText (addText texts (Str.ofString "foo")) (Str.ofString "-")), (addFun funs ((symIdx (addText texts (Str.ofString "foo")) (Str.ofString "-") : Nat), 2)), f, cw.q⟩ tt) (y := "]") (by simp only [Str.length_append]; lia) ∅ ?_; intro t9 tk9 z
 (refine z_joinN 9 [("term", .ref (adr E 7)), ("due", .str ("[" ++ insideOf ⟨(addText (addText texts (Str.ofString "foo")) (Str.ofString "-")), (addFun funs ((symIdx (addText texts (Str.ofString "foo")) (Str.ofString "-") : Nat), 2)), f, cw.q⟩ t1 ++ "|" ++ insideOf ⟨(addText (addText texts (Str.ofString "foo")) (Str.ofString "-")), (addFun funs ((symIdx (addText texts (Str.ofString "foo")) (Str.ofString "-") : Nat), 2)), f, cw.q⟩ tt ++ "]") t9), ("names", .ref a.nA), ("table", .ref pA), ("quoting", .bool cw.q)] (law_ret hR hcl hP H2 (.head _) rfl ((bar_eq (evOf_wf (f := f) (q := cw.q) wf1) (evOf_wf (f := f) (q := cw.q) u2) u3 u4).symm) t9) ∅ ∅ ∅ ∅ ∅)
end
end
section
set_option tactic.hygienic false
theorem start8 : ∃ y, symStart.1[8]? = some y ∧ Str.ofString "foo" ≠ y := by
 have h : ((symStart.1[8]?).any fun y => decide (Str.ofString "foo" ≠ y)) = true := by decide +kernel
 cases q : symStart.1[8]? with
 | none => rw [q] at h; exact (Bool.false_ne_true h).elim
 | some y => rw [q] at h; exact ⟨y, rfl, of_decide_eq_true h⟩
theorem foo_no {t : List Str} {fu : List (Int × Int)} (b : Base t fu) : ((symIdx t (Str.ofString "foo") : Nat) : Int) ≠ 7 ∧ ((symIdx t (Str.ofString "foo") : Nat) : Int) ≠ 8 ∧ ((symIdx t (Str.ofString "foo") : Nat) : Int) ≠ 3 := by
 obtain ⟨y, h8, n8⟩ := start8
 have a := symIdx_ne b start7 (by decide +kernel : (Str.ofString "foo") ≠ Str.ofString ",")
 have c := symIdx_ne b h8 n8
 have d := symIdx_ne b start3 (by decide +kernel : (Str.ofString "foo") ≠ Str.ofString "-")
 lia
theorem name_at {e : Ev} {F a k : Int} (h : e.funs[F.toNat]? = some (a, k)) : nameOf e F = a := by
 unfold nameOf
 rw [List.getD_eq_getElem?_getD, h]; rfl
theorem foo_at {t : List Str} {fu : List (Int × Int)} {f : Fx → Int → Option (Int × Kd)} {q : Bool} : atomOf ⟨addText t (Str.ofString "foo"), fu, f, q⟩ ((symIdx t (Str.ofString "foo") : Nat) : Int) = Str.ofString "foo" := by
 rw [atomOf_at (x := Str.ofString "foo") (by rw [Int.toNat_natCast]; exact addText_get _ _)]
 exact plain_foo q
theorem sg_inf : Str.ofString " " ++ Str.ofString "foo" ++ Str.ofString " " = Str.ofString " foo " := by decide
theorem sg_pre : Str.ofString "" ++ Str.ofString "foo" ++ Str.ofString " " = Str.ofString "foo " := by decide
theorem sg_post : Str.ofString " " ++ Str.ofString "foo" ++ Str.ofString "" = Str.ofString " foo" := by decide
section
variable {w : World} {N : List (Str × NameKind)} {d : Nat} {G : ZG w N d} {c : ZC}
noncomputable def tpOf (c : ZC) : Option Addr := onPc c.md none fun f vs => onTy f none fun id => cond (id == "tuple") (onCons vs none fun a r => onNil r none (onRef a none some)) none
noncomputable def tpPut (D : Addr) (vs : List Value) (sz : Nat) (c : ZC) : ZC := c.rec fun σ k _ => ⟨⟨σ.m, σ.own ++ [(D, tupO vs)], σ.led, σ.tk, sz⟩, k, .d (.v (.ref D))⟩
theorem z_tupOf (n j : Nat) {vs : List Value} (hs : lsJ (zgo N w.params n c) j = some vs) (hz : vs.length ≤ 16384) (hv : tpOf (zgo N w.params n c) = adJ (zgo N w.params n c) j) (h : ∀ D sz, let c' := tpPut D vs sz (zgo N w.params n c); ZT G c') : ZT G c := by
 refine ZT.go n ?_
 generalize zgo N w.params n c = c1 at *
 unfold lsJ at hs
 unfold adJ at hv
 cases e : ownL c1 j with
 | error b => rw [e] at hs; cases hs
 | ok p =>
  rw [e] at hs hv
  obtain ⟨l, its, n0⟩ := p
  cases hs
  have ho := ownL_ok e
  obtain ⟨σ, kk, md⟩ := c1
  obtain ⟨f, vs', rfl, e1⟩ := onPc_ok hv none_ne
  obtain ⟨id, rfl, e2⟩ := onTy_ok e1 none_ne
  obtain ⟨hid, e3⟩ := cond_ok e2 none_ne
  obtain rfl := eq_of_beq hid
  obtain ⟨a, r, rfl, e4⟩ := onCons_ok e3 none_ne
  obtain ⟨rfl, e5⟩ := onNil_ok e4 none_ne
  obtain ⟨l', rfl, e6⟩ := onRef_ok e5 none_ne
  cases e6
  intro s a
  exact kde_tupleOf a.fr a.nwH ⟨_, (a.nw _ (List.mem_append_left _ (List.mem_of_getElem? ho))).1, rfl, _, rfl⟩ (by simpa using hz) rfl fun D h' F' N' lt => ⟨_, a.pushD F' N' lt, (h D h'.objs.size).s⟩
end
theorem kd_three (k : Kd) : ((k.text.length : Int) == 3) = decide (k.side = .inf) := by cases k <;> kernel_rfl
section
variable {w : World} {G : ZG w lawNames 15} {L : Addr} {a : Sy} {pA R : Addr} {cw : Wc} {st : WS} {texts : List Str} {funs : List (Int × Int)} {f : Fx → Int → Option (Int × Kd)} {b rW bS rest : List (Addr × Obj)} {oC oR : Obj} {t1 t2 : Tm} {d1 d2 : Addr} {k : Kd} {hh : Int}
theorem law_way5_inf (hk : k.side = .inf) (hR : G.R = []) (hcl : G.cl = ([("scribe", L + 1)] : List (Str × Addr))) (hP : G.P = LawFin) (M : Mid w a pA cw st (L + 1) R texts funs f b rW bS rest) (hd : oC.data = .cell (some (.ref cw.x)))
  (Y : WayT texts funs f rest t1 t2 d1 d2 k hh) : ∀ v7t v8t v9t m tk sz, ZT G ⟨⟨wayN a.nA pA R cw.q d1 d2 k hh 5 v7t v8t v9t ++ m, [], ((L + 1, oC) :: (R, oR) :: (b ++ (rW ++ (bS ++ rest)))), tk, sz⟩, [], .ss (lawB.drop 14)⟩ := by
 intro v7t v8t v9t m tk sz
 have q0 := (kd_first k).1
 have q1 := (kd_last k).1
 have hl0 := Y.lt
 have hf0 := Y.lf
 have hi1 := Y.tab.i1
 refine z_lenS 99 (x := k.text) (t := v7t) (by have := (kd_len k).2; lia) ∅ ?_; intro z
 (refine z_br 6 true (x := (k.text.length : Int) == 3) (by rw [kd_three, hk]; decide) ∅ ?_; intro z)
 have hup : ∀ p ∈ rest, p ∈ (L + 1, oC) :: (R, oR) :: (b ++ (rW ++ (bS ++ rest))) := (fun p hp => .tail _ (.tail _ (List.mem_append_right b (List.mem_append_right rW (List.mem_append_right bS hp)))))
 refine z_meth 99 (zL ∅ (hup _ M.sym.inst)) (zL ∅ (hup _ M.sym.dict)) ∅ ?_; intro z
 refine z_lenLO 99 0 (vs := [.ref d1, .ref d2]) ∅ (Nat.le_of_ble_eq_true ∅) ∅ ?_; intro z
 refine z_call 99 (fun t => func_M (k := 2) (X := [(L + 1, oC), (R, oR)]) M ?hX ⟨_, .head _⟩ ⟨_, .tail _ (.head _)⟩ (by lia) (by lia) (Str.ofString "foo") (t 1) (t 2)) (by decide) ∅ ∅ ?_
 case hX => exact List.forall_mem_cons.mpr ⟨fun y hy => (M.oc y hy).symm, List.forall_mem_cons.mpr ⟨fun y hy => (M.oR y hy).symm, fun _ h => nomatch h⟩⟩
 rintro _ _ ⟨⟨t', rfl⟩, bS2, rest2, rfl, hs2, hX2, M2⟩ tk2 sz2
 refine ⟨(fun p hp => by rw [hR] at hp; cases hp), ?_⟩; intro z
 refine z_tupOf 99 0 (vs := [.ref d1, .ref d2]) ∅ (Nat.le_of_ble_eq_true ∅) ∅ ?_; intro D sz z
 refine z_itemS 99 (x := k.text) (i := 0) (by decide) (by have := (kd_len k).1; lia) (by have := (kd_len k).1; lia) ∅ ?_; intro z
 (refine z_br 6 false (x := Txt.item k.text 0 == ("f" : Str)) (by rw [q0, hk]; decide) ∅ ?_; intro z)
 refine z_addS 99 (x := (" " : Str)) (y := "foo") (by decide +kernel) ∅ ?_; intro t9 tk9 z
 refine z_itemS 99 (x := k.text) (i := -1) (by decide) (by have := (kd_len k).1; lia) (by have := (kd_len k).1; lia) ∅ ?_; intro z
 (refine z_br 6 false (x := Txt.item k.text (-1) == ("f" : Str)) (by rw [q1, hk]; decide) ∅ ?_; intro z)
 refine z_addS 99 (x := (" " : Str) ++ "foo") (y := (" " : Str)) (by decide +kernel) ∅ ?_; intro ts tk9 z
 refine z_mid (oC := oC) (oR := oR) 99 M2 hR ∅ ∅ ?_; intro E hE z
 have gf := grow_func texts funs (Str.ofString "foo") 2
 obtain ⟨f0, f9, fl, fg, ga⟩ := func_good (e := ⟨addText texts (Str.ofString "foo"), addFun funs ((symIdx texts (Str.ofString "foo") : Nat), 2), f, cw.q⟩) (k := 2) Y.base foo_ok (List.prefix_refl _) (List.prefix_refl _) (by lia) (by lia)
 obtain ⟨n7, n8, n3⟩ := foo_no Y.base
 have wf1 := evOf_grow gf Y.wf1
 have wf2 := evOf_grow gf Y.wf2
 have wf0 := wf_func (args := [t1, t2]) Y.base foo_ok (by lia) (by lia) (List.prefix_refl _) (List.prefix_refl _) (by simp) (by simp) (.cons wf1 (.cons wf2 .nil))
 have q7 : TermAt (E ++ rest2) (.s (funIdx funs ((symIdx texts (Str.ofString "foo") : Nat), 2) : Nat) [t1, t2]) (adr E 2) := tmS (i := 1) (fun p hp => List.mem_append_left _ hp) ∅ ∅ (.cons (Y.at1.mono (fun p hp => List.mem_append_right _ (hs2 p hp))) (.cons (Y.at2.mono (fun p hp => List.mem_append_right _ (hs2 p hp))) .nil))
 have H0 := mid_3 M2 Y.tab.ok (Y.base.grow gf) E hE hd (t1 := .s (funIdx funs ((symIdx texts (Str.ofString "foo") : Nat), 2) : Nat) [t1, t2]) (d1 := adr E 2) (t2 := t1) (d2 := d1) (t3 := t2) (d3 := d2) ⟨q7, wf0, (by have := Y.h1; have := Y.h2; simp only [hgt, hgts]; lia), (by have := Y.z1; have := Y.z2; simp only [tsz, tszs]; lia)⟩ ⟨(Y.at1.mono (fun p hp => List.mem_append_right _ (hs2 p hp))), wf1, hgt_le Y.h1, tsz_le Y.z1⟩ ⟨(Y.at2.mono (fun p hp => List.mem_append_right _ (hs2 p hp))), wf2, hgt_le Y.h2, tsz_le Y.z2⟩
 refine z_scribe 99 H0 hcl ∅ ∅ ?_; intro z
 refine z_call3 99 (fun t => bes_3 (th := t 2) (tk1 := t 3) (ts := t 4) (k := k) (h := hh) (u := t1) (v := t2) (sg := (" " : Str) ++ "foo" ++ (" " : Str)) H0 (List.mem_append_left _ (lsAt_ok (own := E) (j := 0) (vs := [.ref d1, .ref d2]) ∅)) rfl rfl (.tail _ (.head _)) (.tail _ (.tail _ (.head _))) Y.tab.i1 Y.tab.i2 (by decide +kernel)) (by decide) hR ∅ ∅ ?_; intro u1 r1 l1 hs1 H1 tk1 sz1 z
 have hEq := foo_inf (k := k) f0 f9 (name_at fg) n7 n8 foo_at (hk ▸ Y.tab.foo) (by lia) Y.tab.i2 (evOf_wf (f := f) (q := cw.q) wf1) (evOf_wf (f := f) (q := cw.q) wf2)
 (refine z_joinN 13 [("term", .ref (adr E 2)), ("due", .str (besT ⟨addText texts (Str.ofString "foo"), addFun funs ((symIdx texts (Str.ofString "foo") : Nat), 2), f, cw.q⟩ t1 t2 hh k ((" " : Str) ++ "foo" ++ (" " : Str))) u1), ("names", .ref a.nA), ("table", .ref pA), ("quoting", .bool cw.q)] (law_ret hR hcl hP H1 (.head _) rfl (by rw [hEq, ← sg_inf]; simp only [besT, besL, hk]; rfl) u1) ∅ ∅ ∅ ∅ ∅)
theorem law_way5_pre (hk : k.side = .pre) (hR : G.R = []) (hcl : G.cl = ([("scribe", L + 1)] : List (Str × Addr))) (hP : G.P = LawFin) (M : Mid w a pA cw st (L + 1) R texts funs f b rW bS rest) (hd : oC.data = .cell (some (.ref cw.x)))
  (Y : WayT texts funs f rest t1 t2 d1 d2 k hh) : ∀ v7t v8t v9t m tk sz, ZT G ⟨⟨wayN a.nA pA R cw.q d1 d2 k hh 5 v7t v8t v9t ++ m, [], ((L + 1, oC) :: (R, oR) :: (b ++ (rW ++ (bS ++ rest)))), tk, sz⟩, [], .ss (lawB.drop 14)⟩ := by
 intro v7t v8t v9t m tk sz
 have q0 := (kd_first k).1
 have q1 := (kd_last k).1
 have hl0 := Y.lt
 have hf0 := Y.lf
 have hi1 := Y.tab.i1
 refine z_lenS 99 (x := k.text) (t := v7t) (by have := (kd_len k).2; lia) ∅ ?_; intro z
 (refine z_br 6 false (x := (k.text.length : Int) == 3) (by rw [kd_three, hk]; decide) ∅ ?_; intro z)
 have hup : ∀ p ∈ rest, p ∈ (L + 1, oC) :: (R, oR) :: (b ++ (rW ++ (bS ++ rest))) := (fun p hp => .tail _ (.tail _ (List.mem_append_right b (List.mem_append_right rW (List.mem_append_right bS hp)))))
 refine z_meth 99 (zL ∅ (hup _ M.sym.inst)) (zL ∅ (hup _ M.sym.dict)) ∅ ?_; intro z
 refine z_lenLO 99 0 (vs := [.ref d1]) ∅ (Nat.le_of_ble_eq_true ∅) ∅ ?_; intro z
 refine z_call 99 (fun t => func_M (k := 1) (X := [(L + 1, oC), (R, oR)]) M ?hX ⟨_, .head _⟩ ⟨_, .tail _ (.head _)⟩ (by lia) (by lia) (Str.ofString "foo") (t 1) (t 2)) (by decide) ∅ ∅ ?_
 case hX => exact List.forall_mem_cons.mpr ⟨fun y hy => (M.oc y hy).symm, List.forall_mem_cons.mpr ⟨fun y hy => (M.oR y hy).symm, fun _ h => nomatch h⟩⟩
 rintro _ _ ⟨⟨t', rfl⟩, bS2, rest2, rfl, hs2, hX2, M2⟩ tk2 sz2
 refine ⟨(fun p hp => by rw [hR] at hp; cases hp), ?_⟩; intro z
 refine z_tupOf 99 0 (vs := [.ref d1]) ∅ (Nat.le_of_ble_eq_true ∅) ∅ ?_; intro D sz z
 refine z_itemS 99 (x := k.text) (i := 0) (by decide) (by have := (kd_len k).1; lia) (by have := (kd_len k).1; lia) ∅ ?_; intro z
 (refine z_br 6 true (x := Txt.item k.text 0 == ("f" : Str)) (by rw [q0, hk]; decide) ∅ ?_; intro z)
 refine z_addS 99 (x := ("" : Str)) (y := "foo") (by decide +kernel) ∅ ?_; intro t9 tk9 z
 refine z_itemS 99 (x := k.text) (i := -1) (by decide) (by have := (kd_len k).1; lia) (by have := (kd_len k).1; lia) ∅ ?_; intro z
 (refine z_br 6 false (x := Txt.item k.text (-1) == ("f" : Str)) (by rw [q1, hk]; decide) ∅ ?_; intro z)
 refine z_addS 99 (x := ("" : Str) ++ "foo") (y := (" " : Str)) (by decide +kernel) ∅ ?_; intro ts tk9 z
 refine z_mid (oC := oC) (oR := oR) 99 M2 hR ∅ ∅ ?_; intro E hE z
 have gf := grow_func texts funs (Str.ofString "foo") 1
 obtain ⟨f0, f9, fl, fg, ga⟩ := func_good (e := ⟨addText texts (Str.ofString "foo"), addFun funs ((symIdx texts (Str.ofString "foo") : Nat), 1), f, cw.q⟩) (k := 1) Y.base foo_ok (List.prefix_refl _) (List.prefix_refl _) (by lia) (by lia)
 obtain ⟨n7, n8, n3⟩ := foo_no Y.base
 have wf1 := evOf_grow gf Y.wf1
 have wf2 := evOf_grow gf Y.wf2
 have wf0 := wf_func (args := [t1]) Y.base foo_ok (by lia) (by lia) (List.prefix_refl _) (List.prefix_refl _) (by simp) (by simp) (.cons wf1 .nil)
 have q7 : TermAt (E ++ rest2) (.s (funIdx funs ((symIdx texts (Str.ofString "foo") : Nat), 1) : Nat) [t1]) (adr E 2) := tmS (i := 1) (fun p hp => List.mem_append_left _ hp) ∅ ∅ (.cons (Y.at1.mono (fun p hp => List.mem_append_right _ (hs2 p hp))) .nil)
 have H0 := mid_3 M2 Y.tab.ok (Y.base.grow gf) E hE hd (t1 := .s (funIdx funs ((symIdx texts (Str.ofString "foo") : Nat), 1) : Nat) [t1]) (d1 := adr E 2) (t2 := t1) (d2 := d1) (t3 := t2) (d3 := d2) ⟨q7, wf0, (by have := Y.h1; have := Y.h2; simp only [hgt, hgts]; lia), (by have := Y.z1; have := Y.z2; simp only [tsz, tszs]; lia)⟩ ⟨(Y.at1.mono (fun p hp => List.mem_append_right _ (hs2 p hp))), wf1, hgt_le Y.h1, tsz_le Y.z1⟩ ⟨(Y.at2.mono (fun p hp => List.mem_append_right _ (hs2 p hp))), wf2, hgt_le Y.h2, tsz_le Y.z2⟩
 refine z_scribe 99 H0 hcl ∅ ∅ ?_; intro z
 refine z_call3 99 (fun t => bes_3 (th := t 2) (tk1 := t 3) (ts := t 4) (k := k) (h := hh) (u := t1) (v := t1) (sg := ("" : Str) ++ "foo" ++ (" " : Str)) H0 (List.mem_append_left _ (lsAt_ok (own := E) (j := 0) (vs := [.ref d1]) ∅)) rfl rfl (.tail _ (.head _)) (.tail _ (.head _)) Y.tab.i1 Y.tab.i2 (by decide +kernel)) (by decide) hR ∅ ∅ ?_; intro u1 r1 l1 hs1 H1 tk1 sz1 z
 have hEq := foo_pre (k := k) f0 f9 (name_at fg) n3 foo_at (hk ▸ Y.tab.foo) (by lia) Y.tab.i2 (evOf_wf (f := f) (q := cw.q) wf1)
 (refine z_joinN 13 [("term", .ref (adr E 2)), ("due", .str (besT ⟨addText texts (Str.ofString "foo"), addFun funs ((symIdx texts (Str.ofString "foo") : Nat), 1), f, cw.q⟩ t1 t1 hh k (("" : Str) ++ "foo" ++ (" " : Str))) u1), ("names", .ref a.nA), ("table", .ref pA), ("quoting", .bool cw.q)] (law_ret hR hcl hP H1 (.head _) rfl (by rw [hEq, ← sg_pre]; simp only [besT, besL, hk]; rfl) u1) ∅ ∅ ∅ ∅ ∅)
theorem law_way5_post (hk : k.side = .post) (hR : G.R = []) (hcl : G.cl = ([("scribe", L + 1)] : List (Str × Addr))) (hP : G.P = LawFin) (M : Mid w a pA cw st (L + 1) R texts funs f b rW bS rest) (hd : oC.data = .cell (some (.ref cw.x)))
  (Y : WayT texts funs f rest t1 t2 d1 d2 k hh) : ∀ v7t v8t v9t m tk sz, ZT G ⟨⟨wayN a.nA pA R cw.q d1 d2 k hh 5 v7t v8t v9t ++ m, [], ((L + 1, oC) :: (R, oR) :: (b ++ (rW ++ (bS ++ rest)))), tk, sz⟩, [], .ss (lawB.drop 14)⟩ := by
 intro v7t v8t v9t m tk sz
 have q0 := (kd_first k).1
 have q1 := (kd_last k).1
 have hl0 := Y.lt
 have hf0 := Y.lf
 have hi1 := Y.tab.i1
 refine z_lenS 99 (x := k.text) (t := v7t) (by have := (kd_len k).2; lia) ∅ ?_; intro z
 (refine z_br 6 false (x := (k.text.length : Int) == 3) (by rw [kd_three, hk]; decide) ∅ ?_; intro z)
 have hup : ∀ p ∈ rest, p ∈ (L + 1, oC) :: (R, oR) :: (b ++ (rW ++ (bS ++ rest))) := (fun p hp => .tail _ (.tail _ (List.mem_append_right b (List.mem_append_right rW (List.mem_append_right bS hp)))))
 refine z_meth 99 (zL ∅ (hup _ M.sym.inst)) (zL ∅ (hup _ M.sym.dict)) ∅ ?_; intro z
 refine z_lenLO 99 0 (vs := [.ref d1]) ∅ (Nat.le_of_ble_eq_true ∅) ∅ ?_; intro z
 refine z_call 99 (fun t => func_M (k := 1) (X := [(L + 1, oC), (R, oR)]) M ?hX ⟨_, .head _⟩ ⟨_, .tail _ (.head _)⟩ (by lia) (by lia) (Str.ofString "foo") (t 1) (t 2)) (by decide) ∅ ∅ ?_
 case hX => exact List.forall_mem_cons.mpr ⟨fun y hy => (M.oc y hy).symm, List.forall_mem_cons.mpr ⟨fun y hy => (M.oR y hy).symm, fun _ h => nomatch h⟩⟩
 rintro _ _ ⟨⟨t', rfl⟩, bS2, rest2, rfl, hs2, hX2, M2⟩ tk2 sz2
 refine ⟨(fun p hp => by rw [hR] at hp; cases hp), ?_⟩; intro z
 refine z_tupOf 99 0 (vs := [.ref d1]) ∅ (Nat.le_of_ble_eq_true ∅) ∅ ?_; intro D sz z
 refine z_itemS 99 (x := k.text) (i := 0) (by decide) (by have := (kd_len k).1; lia) (by have := (kd_len k).1; lia) ∅ ?_; intro z
 (refine z_br 6 false (x := Txt.item k.text 0 == ("f" : Str)) (by rw [q0, hk]; decide) ∅ ?_; intro z)
 refine z_addS 99 (x := (" " : Str)) (y := "foo") (by decide +kernel) ∅ ?_; intro t9 tk9 z
 refine z_itemS 99 (x := k.text) (i := -1) (by decide) (by have := (kd_len k).1; lia) (by have := (kd_len k).1; lia) ∅ ?_; intro z
 (refine z_br 6 true (x := Txt.item k.text (-1) == ("f" : Str)) (by rw [q1, hk]; decide) ∅ ?_; intro z)
 refine z_addS 99 (x := (" " : Str) ++ "foo") (y := ("" : Str)) (by decide +kernel) ∅ ?_; intro ts tk9 z
 refine z_mid (oC := oC) (oR := oR) 99 M2 hR ∅ ∅ ?_; intro E hE z
 have gf := grow_func texts funs (Str.ofString "foo") 1
 obtain ⟨f0, f9, fl, fg, ga⟩ := func_good (e := ⟨addText texts (Str.ofString "foo"), addFun funs ((symIdx texts (Str.ofString "foo") : Nat), 1), f, cw.q⟩) (k := 1) Y.base foo_ok (List.prefix_refl _) (List.prefix_refl _) (by lia) (by lia)
 obtain ⟨n7, n8, n3⟩ := foo_no Y.base
 have wf1 := evOf_grow gf Y.wf1
 have wf2 := evOf_grow gf Y.wf2
 have wf0 := wf_func (args := [t1]) Y.base foo_ok (by lia) (by lia) (List.prefix_refl _) (List.prefix_refl _) (by simp) (by simp) (.cons wf1 .nil)
 have q7 : TermAt (E ++ rest2) (.s (funIdx funs ((symIdx texts (Str.ofString "foo") : Nat), 1) : Nat) [t1]) (adr E 2) := tmS (i := 1) (fun p hp => List.mem_append_left _ hp) ∅ ∅ (.cons (Y.at1.mono (fun p hp => List.mem_append_right _ (hs2 p hp))) .nil)
 have H0 := mid_3 M2 Y.tab.ok (Y.base.grow gf) E hE hd (t1 := .s (funIdx funs ((symIdx texts (Str.ofString "foo") : Nat), 1) : Nat) [t1]) (d1 := adr E 2) (t2 := t1) (d2 := d1) (t3 := t2) (d3 := d2) ⟨q7, wf0, (by have := Y.h1; have := Y.h2; simp only [hgt, hgts]; lia), (by have := Y.z1; have := Y.z2; simp only [tsz, tszs]; lia)⟩ ⟨(Y.at1.mono (fun p hp => List.mem_append_right _ (hs2 p hp))), wf1, hgt_le Y.h1, tsz_le Y.z1⟩ ⟨(Y.at2.mono (fun p hp => List.mem_append_right _ (hs2 p hp))), wf2, hgt_le Y.h2, tsz_le Y.z2⟩
 refine z_scribe 99 H0 hcl ∅ ∅ ?_; intro z
 refine z_call3 99 (fun t => bes_3 (th := t 2) (tk1 := t 3) (ts := t 4) (k := k) (h := hh) (u := t1) (v := t1) (sg := (" " : Str) ++ "foo" ++ ("" : Str)) H0 (List.mem_append_left _ (lsAt_ok (own := E) (j := 0) (vs := [.ref d1]) ∅)) rfl rfl (.tail _ (.head _)) (.tail _ (.head _)) Y.tab.i1 Y.tab.i2 (by decide +kernel)) (by decide) hR ∅ ∅ ?_; intro u1 r1 l1 hs1 H1 tk1 sz1 z
 have hEq := foo_post (k := k) f0 f9 (name_at fg) foo_at (Y.tab.no .pre (by rw [hk]; decide)) (hk ▸ Y.tab.foo) (by lia) Y.tab.i2 (evOf_wf (f := f) (q := cw.q) wf1)
 (refine z_joinN 13 [("term", .ref (adr E 2)), ("due", .str (besT ⟨addText texts (Str.ofString "foo"), addFun funs ((symIdx texts (Str.ofString "foo") : Nat), 1), f, cw.q⟩ t1 t1 hh k ((" " : Str) ++ "foo" ++ ("" : Str))) u1), ("names", .ref a.nA), ("table", .ref pA), ("quoting", .bool cw.q)] (law_ret hR hcl hP H1 (.head _) rfl (by rw [hEq, ← sg_post]; simp only [besT, besL, hk]; rfl) u1) ∅ ∅ ∅ ∅ ∅)
theorem law_way5 (hR : G.R = []) (hcl : G.cl = ([("scribe", L + 1)] : List (Str × Addr))) (hP : G.P = LawFin) (M : Mid w a pA cw st (L + 1) R texts funs f b rW bS rest) (hd : oC.data = .cell (some (.ref cw.x)))
  (Y : WayT texts funs f rest t1 t2 d1 d2 k hh) : ∀ v7t v8t v9t m tk sz, ZT G ⟨⟨wayN a.nA pA R cw.q d1 d2 k hh 5 v7t v8t v9t ++ m, [], ((L + 1, oC) :: (R, oR) :: (b ++ (rW ++ (bS ++ rest)))), tk, sz⟩, [], .ss (lawB.drop 14)⟩ := by
 cases hk : k.side with
 | inf => exact law_way5_inf hk hR hcl hP M hd Y
 | pre => exact law_way5_pre hk hR hcl hP M hd Y
 | post => exact law_way5_post hk hR hcl hP M hd Y
end
end
section
set_option tactic.hygienic false
noncomputable def kindsL : List Str := ["yfx", "fy", "xfy", "xfx", "fx", "xf", "yf"]
theorem kinds_kd {x : Str} (h : x ∈ kindsL) : ∃ k : Kd, x = k.text := by
 simp only [kindsL, List.mem_cons, List.not_mem_nil, or_false] at h
 rcases h with rfl | rfl | rfl | rfl | rfl | rfl | rfl
 ·exact ⟨.yfx, rfl⟩
 ·exact ⟨.fy, rfl⟩
 ·exact ⟨.xfy, rfl⟩
 ·exact ⟨.xfx, rfl⟩
 ·exact ⟨.fx, rfl⟩
 ·exact ⟨.xf, rfl⟩
 ·exact ⟨.yf, rfl⟩
noncomputable def goodInts (vs : List Value) : Bool := vs.all fun v => match v with
 | .int k _ => decide (1 ≤ k) && decide (k ≤ 1200)
 | _ => false
section
variable {w : World} {a : Sy} {p : Op} {c R : Addr} {texts : List Str} {funs : List (Int × Int)} {f : Fx → Int → Option (Int × Kd)} {sz : Nat} {bS bO rest : List (Addr × Obj)} {oC : Obj}
theorem Seed.nR (S : Seed w a p c R texts funs f sz bS bO rest) : ∀ q ∈ (c, oC) :: (bS ++ (bO ++ rest)), q.1 ≠ R := List.forall_mem_cons.mpr ⟨S.cR.symm, S.oR⟩
end
theorem kinds_at {kv : List Value} (h : StrVals kv kindsL) {k : Int} (h0 : 0 ≤ k) (h1 : k < 7) : ∃ y : Kd × Tok, kv[k.toNat]? = some (.str y.1.text y.2) := by
 obtain ⟨x, hx, t, e⟩ := words_get h h0 h1 (by decide)
 obtain ⟨kd, rfl⟩ := kinds_kd hx
 exact ⟨⟨kd, t⟩, e⟩
theorem ints_good {vs : List Value} (hg : (vs.length == 5 && goodInts vs) = true) {k : Int} (h0 : 0 ≤ k) (h1 : k < 5) : ∃ x t, 1 ≤ x ∧ x ≤ 1200 ∧ vs[k.toNat]? = some (.int x t) := by
 obtain ⟨hl, hS⟩ := (Bool.and_eq_true _ _).mp hg
 have h2 : k.toNat < vs.length := by rw [eq_of_beq hl]; lia
 have h3 := List.all_eq_true.mp hS _ (List.getElem_mem h2)
 rw [List.getElem?_eq_getElem h2]
 revert h3
 generalize vs[k.toNat] = v
 intro h3
 cases v with
 | int x t =>
  simp only [Bool.and_eq_true, decide_eq_true_eq] at h3
  exact ⟨x, t, h3.1, h3.2, rfl⟩
 | _ => exact (Bool.false_ne_true h3).elim
section
variable {w : World} {N : List (Str × NameKind)} {d : Nat} {G : ZG w N d} {c : ZC}
noncomputable def gdJ (c : ZC) (j : Nat) : Bool := (lsJ c j).rec false fun vs => vs.length == 5 && goodInts vs
theorem z_itemI (n j : Nat) {k : Int} (h0 : 0 ≤ k) (h1 : k < 5) (hg : gdJ (zgo N w.params n c) j = true) (hv : ilOf (zgo N w.params n c) = (adJ (zgo N w.params n c) j).map fun p => (p, k)) (h : ∀ x t, 1 ≤ x → x ≤ 1200 → let c' := zput (zgo N w.params n c) (.int x t); ZT G c') : ZT G c := by
 cases e : lsJ (zgo N w.params n c) j with
 | none => unfold gdJ at hg; rw [e] at hg; cases hg
 | some vs =>
  unfold gdJ at hg
  rw [e] at hg
  obtain ⟨x, t, a1, a2, a3⟩ := ints_good hg h0 h1
  exact z_itemLO n j h0 (by lia) a3 e hv (h x t a1 a2)
theorem z_drop (n : Nat) (hv : zall (zgo N w.params n c) = true) (h : let c' := zside [] (zgo N w.params n c).σ.led (zgo N w.params n c); ZT G c') : ZT G c := by
 refine ZT.go n ?_
 generalize zgo N w.params n c = c1 at *
 obtain ⟨σ, k, md⟩ := c1
 refine z_all hv fun s a => ⟨_, ?_, h.s⟩
 exact ⟨a.st, a.sz, a.fr, fun p hp => a.nw p (List.mem_append_right _ hp), List.nodup_nil, fun _ h => (nomatch h), a.sub, a.hid, fun p hp => a.hof p (List.mem_append_right _ hp)⟩
theorem z_next (n : Nat) {R : Addr} {x : Addr × Obj} {vs : List Value} {n0 : Nat} {l1 : List (Addr × Obj)} (many : Int) (ok : RowOk vs) (hne : ∀ q ∈ x :: l1, q.1 ≠ R) (hR : G.R = []) (h1 : 0 < many) (h2 : many ≤ 1000) (hd : 1 ≤ d) (hl : (zgo N w.params n c).σ.led = x :: (R, PySem.W.listOf vs.toArray n0) :: l1) (hv : clOf (zgo N w.params n c) = some (498, [.ref R, .int many (tks (zgo N w.params n c) 1)]))
  (h : ∀ k t vs' n', 0 ≤ k → k < many → RowOk vs' → ∀ tk sz, let c' := zres (zgo N w.params n c) (.int k t) (zgo N w.params n c).σ.own (x :: (R, PySem.W.listOf vs'.toArray n') :: l1) tk sz; ZT G c') : ZT G c := by
 refine z_call n (fun t => (law_next_S (tm := t 1) (led := x :: (R, PySem.W.listOf vs.toArray n0) :: l1) (.tail .head) ok hne h1 h2).weak (post' := fun r l => ∃ k t vs' n', r = .int k t ∧ 0 ≤ k ∧ k < many ∧ RowOk vs' ∧ l = x :: (R, PySem.W.listOf vs'.toArray n') :: l1) ?_) hd hv hl ?_
 ·rintro r l ⟨k, t, vs', n', rfl, h0, h1, ok', rfl⟩
  refine ⟨_, ⟨k, t, vs', n', rfl, h0, h1, ok', rfl⟩, fun p hp => ?_⟩
  simp only [List.mem_cons] at hp ⊢
  rcases hp with h | h | h
  ·exact .inr (.inl h)
  ·exact .inl h
  ·exact .inr (.inr h)
 ·rintro _ _ ⟨k, t, vs', n', rfl, h0, h1, ok', rfl⟩ tk sz
  exact ⟨fun p hp => (by rw [hR] at hp; cases hp), h k t vs' n' h0 h1 ok' tk sz⟩
end
noncomputable def LawEnd (s₁ : Shared) (v : Value) (s' : Shared) : Prop := ∃ h' tk L' m', s' = { s₁ with heap := h', toks := tk } ∧ Fr s₁.heap L' h' m' ∧ v = .bool true
theorem enter_law {w : World} {s₁ : Shared} {mg mb : Str → Option Value} {mean : ExcName → Option Value} {d : Nat} {f : Addr} {name qual : Str} {params : Arguments} {body : List Stmt} {scope : Scope} {snames : List (Str × NameKind)} {smore} {dV kV doc pm cdv ct oc : Value} {an od : Option Addr} {osl : Array (Option Value)} {fd : FuncData} {args : Args} {binds : List (Str × Value)}
  (X : (K w.params).In s₁.heap) (T : TopAt mean mg mb s₁.heap)
  (ho : (K w.params).lookup f = some ⟨oc, od, .func fd, osl⟩) (hfd : fd = fnOf name qual params body scope dV kV doc pm an cdv ct) (hsc : scope = ⟨.function, snames, false, false, smore⟩) (hcd : codeIn (K w.params) cdv qual = true) (hr : Room callerA (d + 1))
  (hbind : bindArgs (fnOf name qual params body ⟨.function, snames, false, false, smore⟩ dV kV doc pm an cdv ct) args = Sem.pure binds) (hloc : ∀ y ∈ binds, snames.lookup y.1 = some .local)
  (hnd : ((cellsFrom 0 snames []).map (·.1)).Nodup)
  (h : ∀ L' h₁ tk cells, Fr s₁.heap L' h₁ (bindL (envOfC qual ⟨.function, snames, false, false, smore⟩ L' f cdv).kindOf binds fun _ => none) → News s₁.heap L' h₁ cells →
   CellsAre (bindC (envOfC qual ⟨.function, snames, false, false, smore⟩ L' f cdv).kindOf binds fun _ => none) (cellsFrom (L' + 1) snames []) cells → Room (callerA.deeper (envOfC qual ⟨.function, snames, false, false, smore⟩ L' f cdv)) d →
   wpAny (model pw w) (callerA.deeper (envOfC qual ⟨.function, snames, false, false, smore⟩ L' f cdv)) (execs body (envOfC qual ⟨.function, snames, false, false, smore⟩ L' f cdv))
    (fun fl s' => LawEnd s₁ (match fl with | .ret v => v | _ => .none) s') (fun _ _ => False) { s₁ with heap := h₁, toks := tk }) :
  codeAny (model pw w) callerA (.call (.ref f) args) (fun r s' => match r with | .ok (.ret v) => LawEnd s₁ v s' | .ok _ => False | .error e => False) s₁ := by
 subst hsc
 subst hfd
 refine codeAny_call_function hr.lt (X _ _ ho) rfl rfl rfl rfl (codeRec_of X hcd) (BindsTo.of_eq hbind _ _ _ _ ?_)
 refine wpAny_newFunctionEnv_cells rfl (fun x hx => .inl (hloc x hx)) fun env' he s' x => ?_
 subst he
 refine ⟨T.nolimit.keeps x.toInCall.keep, codeAny_func ?_⟩
 obtain ⟨h₁, tk, rfl, _⟩ := x.done
 have hk₁ := x.toInCall.keep
 obtain ⟨cells, NC, Y⟩ := Cl.news (h₀ := s₁.heap) (Nat.le_refl _) fun n c hm => ⟨x.cell n c (lookup_of_mem_nodup (cellsFrom_names snames 0 (s₁.heap.objs.size + 1) [] [] rfl ▸ hnd) hm), x.above n c hm⟩
 refine wpAny_mono (h s₁.heap.objs.size h₁ tk cells ⟨x.toInCall.ns, fun b o e => hk₁ b o e, Nat.le_refl _⟩ NC Y hr.deeper) (fun fl s' hl => hl) (fun _ _ y => y.elim)
theorem room_law : Room callerA 21 := by
 refine ⟨?_, ?_, rfl⟩
 ·show 1 + claimMargin + 21 ≤ 700
  decide
 ·show 4 + 8 * 21 ≤ 5000
  decide
noncomputable def lawN (nA pA R Wd Kn : Addr) (q : Bool) : List (Str × Value) := [("row", .ref R), ("names", .ref nA), ("table", .ref pA), ("quoting", .bool q), ("words", .ref Wd), ("kinds", .ref Kn)]
structure LawS (w : World) (a : Sy) (p : Op) (c R Wd Kn : Addr) (wv kv : List Value) (nW nK : Nat) (texts : List Str) (f : Fx → Int → Option (Int × Kd)) (sz : Nat) (bS bO rest : List (Addr × Obj)) : Prop where
 seed : Seed w a p c R texts symStart.2 f sz bS bO rest
 base : Base texts symStart.2
 tab : TabG f texts
 wd : (Wd, PySem.W.listOf wv.toArray nW) ∈ rest
 kn : (Kn, PySem.W.listOf kv.toArray nK) ∈ rest
inductive LawJ (w : World) (a : Sy) (p : Op) (c R Wd Kn : Addr) (wv kv : List Value) (nW nK : Nat) (oC : Obj) (i : Nat) : List (Addr × Obj) → Prop
 | mk {vs : List Value} {n : Nat} {texts : List Str} {f : Fx → Int → Option (Int × Kd)} {sz : Nat} {bS bO rest : List (Addr × Obj)} (ok : RowOk vs) (S : LawS w a p c R Wd Kn wv kv nW nK texts f sz bS bO rest) (ht : texts.length ≤ 40 + i) (hz : sz ≤ 1 + i) : LawJ w a p c R Wd Kn wv kv nW nK oC i ((c, oC) :: (R, PySem.W.listOf vs.toArray n) :: (bS ++ (bO ++ rest)))
end
section
set_option tactic.hygienic false
section
variable {w : World} {M : Model} {A : Around} {E : Value → Shared → Prop} {s : Shared} {h₀ : Heap} {L C c : Addr} {m m₂ mg mb : Str → Option Value} {mean : ExcName → Option Value} {news : List (Addr × Obj)} {sc : Scope} {cl : List (Str × Addr)} {env : Env} {x : Str} {pos : Pos} {v : Value} {o : Obj} {Q : Value → Shared → Prop}
theorem cp_own (N : News h₀ L s.heap news) (hm : (C, o) ∈ news) (hC : LCg.NsObj o m₂) (hx : m₂ x = some v) (hk : (compEnvC sc cl C env).scope.kind = .function) (hl : (compEnvC sc cl C env).kindOf x = some .local) (hd : (x == ("__debug__" : Str)) = false) (h : Q v s) :
  wpAny M A (eval (.Name x pos) (compEnvC sc cl C env)) Q E s := wpAny_Name (wpAny_loadName_local hk hl (hC.ns (N _ hm).1) hx h) hd
theorem cp_cell (N : News h₀ L s.heap news) (hc : cl.lookup x = some c) (hm : (c, o) ∈ news) (ho : o.data = .cell (some v)) (hk : (compEnvC sc cl C env).scope.kind = .function) (hl : (compEnvC sc cl C env).kindOf x = some .cell) (hd : (x == ("__debug__" : Str)) = false) (h : Q v s) :
  wpAny M A (eval (.Name x pos) (compEnvC sc cl C env)) Q E s := wpAny_Name (wpAny_loadName_cell hk hl hc ⟨o, (N _ hm).1, ho⟩ h) hd
theorem cp_glob (F : Fr h₀ L s.heap m) (X : (K w.params).In h₀) (T : TopAt mean mg mb h₀) (e : nsIn (K w.params) mainGlobals x = some (some v)) (hg : env.globals = mainGlobals) (hk : (compEnvC sc cl C env).scope.kind = .function) (hl : (compEnvC sc cl C env).kindOf x = some .globalImplicit) (hd : (x == ("__debug__" : Str)) = false) (h : Q v s) :
  wpAny M A (eval (.Name x pos) (compEnvC sc cl C env)) Q E s :=
 Name_function_global hk hl (loadGlobal_global (env := compEnvC sc cl C env) (show s.heap.Ns env.globals mg from hg ▸ (T.keeps F.keep).g) (mg_of X T.g e) h) hd
end
section
variable {w : World} {x c nA pA : Addr} {e : Ev} {TS : List (Tm × Addr)} {rest led : List (Addr × Obj)} {t : Tm} {d : Addr}
theorem W3.sub (H : W3 w x c nA pA e TS rest led) : ∀ y ∈ rest, y ∈ led := by
 obtain ⟨cw, st, b, oC, rfl, _⟩ := H.ex
 exact fun y hy => .tail _ (List.mem_append_right _ hy)
theorem inside_C (H : W3 w x c nA pA e TS rest led) (ht : (t, d) ∈ TS) {I C D : Addr} {oI oC oD : Obj} (off : LCg.Off3 I C D led) : Does w 512 13 [.ref x, .ref d] ((I, oI) :: (C, oC) :: (D, oD) :: led) (fun r l => (∃ t', r = .str (insideOf e t) t') ∧ ∃ led' rest', l = (I, oI) :: (C, oC) :: (D, oD) :: led' ∧ W3 w x c nA pA e TS rest' led' ∧ (∀ y ∈ rest, y ∈ rest') ∧ LCg.Off3 I C D led') := by
 have ho : ∀ p ∈ led, ∀ q ∈ [(I, oI), (C, oC), (D, oD)], p.1 ≠ q.1 := by
  intro p hp q hq
  have := off.mem p hp
  simp only [List.mem_cons, List.not_mem_nil, or_false] at hq
  rcases hq with rfl | rfl | rfl
  ·exact this.1
  ·exact this.2.1
  ·exact this.2.2
 refine (inside_3 H ht).within (own := [(I, oI), (C, oC), (D, oD)]) ho ?_ ?_
 ·intro p hp
  simp only [List.mem_append, List.mem_cons, List.not_mem_nil, or_false] at hp ⊢
  grind
 ·rintro r l ⟨hr, rest', oC', cw, la, tl, pre, W', hs, _⟩ hoff
  refine ⟨_, ⟨hr, l, rest', rfl, W', hs, LCg.Off3.of fun p hp => ⟨hoff p hp _ (.head _), hoff p hp _ (.tail _ (.head _)), hoff p hp _ (.tail _ (.tail _ (.head _)))⟩⟩, ?_⟩
  intro p hp
  simp only [List.mem_append, List.mem_cons, List.not_mem_nil, or_false] at hp ⊢
  grind
end
section
variable {w : World} {A : Around} {s : Shared} {h₀ : Heap} {L x nA pA : Addr} {m m₂ mg mb : Str → Option Value} {mean : ExcName → Option Value} {e : Ev} {TS : List (Tm × Addr)} {rest led : List (Addr × Obj)} {t : Tm} {d I C D : Addr} {sc : Scope} {cl : List (Str × Addr)} {oI oC oD : Obj} {p1 p2 p3 p4 : Pos} {h : Heap} {tk : Nat} {env : Env} {cA : Addr}
theorem comp_step (F : Fr h₀ L h m) (N : News h₀ L h ((I, oI) :: (C, oC) :: (D, oD) :: led)) (off : LCg.Off3 I C D led) (hC : LCg.NsObj oC m₂) (hx : m₂ "part" = some (.ref d)) (H : W3 w x cA nA pA e TS rest led) (ht : (t, d) ∈ TS) (X : (K w.params).In h₀) (T : TopAt mean mg mb h₀) (hr : Room A 15) (hg : env.globals = mainGlobals)
  (hc : cl.lookup (Str.ofString "scribe") = some cA) (k0 : (compEnvC sc cl C env).scope.kind = .function) (k1 : (compEnvC sc cl C env).kindOf "part" = some .local) (k2 : (compEnvC sc cl C env).kindOf "scribe" = some .cell) (k3 : (compEnvC sc cl C env).kindOf "_law_inside" = some .globalImplicit)
  {S : List (Addr × Obj) → Prop} {rf : Value → List (Addr × Obj) → Prop} {E' : Value → Shared → Prop}
  (hS : ∀ rest' led', W3 w x cA nA pA e TS rest' led' → (∀ y ∈ rest, y ∈ rest') → S led')
  (k : ∀ t' rest' led', W3 w x cA nA pA e TS rest' led' → (∀ y ∈ rest, y ∈ rest') → rf (.str (insideOf e t) t') led') :
  wpAny (model pw w) A (eval (.Call (.Name "_law_inside" p1) [.Name "scribe" p2, .Name "part" p3] [] p4) (compEnvC sc cl C env)) (LCg.CompEnd h₀ L m { s with heap := h, toks := tk } I oI C oC D oD S rf) E' { s with heap := h, toks := tk } := by
 obtain ⟨oX, cw, la, tl, pre, z1, z2, z3, z4⟩ := H.see
 have up : ∀ p ∈ led, p ∈ (I, oI) :: (C, oC) :: (D, oD) :: led := fun p hp => .tail _ (.tail _ (.tail _ hp))
 have e0 : nsIn (K w.params) mainGlobals "_law_inside" = some (some (.ref 512)) := by kernel_rfl
 have hf : keepIn (K w.params) (.ref 512) = true := by kernel_rfl
 refine Call_ (cp_glob F X T e0 hg k0 k3 (by decide) ?_)
 refine callWith_K (X.keeps F.keep) hf ?_ rfl rfl
 refine args_cons (cp_cell N hc (up _ z2) z1 k0 k2 (by decide) ?_) rfl
 refine args_cons (cp_own N (.tail _ (.head _)) hC hx k0 k1 (by decide) ?_) rfl
 refine args_nil ⟨X.keeps F.keep, ?_⟩
 refine Does.use (inside_C H ht off) hr (by decide) F N X T ?_
 rintro h' tk' r l ⟨⟨t', rfl⟩, led9, rest9, rfl, W9, hs9, off9⟩ F9 N9
 exact LCg.CompEnd.intro F9 N9 _ (fun p hp => hp) off9 (hS _ _ W9 hs9) (k _ _ _ W9 hs9)
end
theorem join_three {a b c : Str} {t1 t2 t3 : Tok} : Txt.join "," ([(a, t1), (b, t2), (c, t3)].map (·.1)) = a ++ Str.ofString "," ++ b ++ Str.ofString "," ++ c := by
 apply Str.ext'
 show (List.foldl (fun acc p => acc ++ (Str.ofString ",").cps ++ p.cps) a.cps [b, c]) = _
 rfl
noncomputable def P5 (a b : Nat) : Pos := ⟨511, a, 511, b⟩
noncomputable def cmpI : Expr := .List [.Name "first" (P5 70 75), .Name "second" (P5 77 83), .Name "first" (P5 85 90)] (P5 69 91)
noncomputable def cmpS : Scope := ⟨.function, [(".0", .local), ("part", .local), ("_law_inside", .globalImplicit), ("scribe", .free)], false, false, []⟩
noncomputable def cmpE : Expr := .Call (.Name "_law_inside" (P5 31 42)) [.Name "scribe" (P5 43 49), .Name "part" (P5 51 55)] [] (P5 31 56)
noncomputable def cmpX : Expr := .ListComp cmpE [⟨.Name "part" (P5 61 65), cmpI, [], 0⟩] cmpS (P5 30 92)
noncomputable def fsM (d1 d2 : Addr) (m : List (Str × Value)) : List (Str × Value) := ("first", .ref d1) :: ("second", .ref d2) :: m
noncomputable def fsL (d1 d2 : Addr) : Obj := PySem.W.listOf [.ref d1, .ref d2, .ref d1].toArray 0
section
variable {w : World} {G : ZG w lawNames 15} {L x nA pA : Addr} {e : Ev} {TS : List (Tm × Addr)} {rest led : List (Addr × Obj)} {t1 t2 : Tm} {d1 d2 : Addr} {m : List (Str × Value)} {tk sz : Nat} {k : List ZF}
theorem W3.join (H : W3 w x L nA pA e TS rest led) (E : List (Addr × Obj)) (hE : ∀ y ∈ E, ∀ q ∈ led, y.1 ≠ q.1) : ∃ led', W3 w x L nA pA e TS (E ++ rest) led' ∧ ∀ p ∈ led', p ∈ E ++ led := by
 obtain ⟨cw, st, b, oC, rfl, hd, hx, S, R, ho⟩ := H.ex
 have hM : ∀ y ∈ rest, y ∈ E ++ rest := fun y hy => List.mem_append_right _ hy
 refine ⟨(L, oC) :: (b ++ (E ++ rest)), H.mono hM rfl hd hx (S.app E fun y hy q hq => hE y hy q (.tail _ (List.mem_append_left _ hq))) (R.mono hM) (fun y hy => ?_), fun p hp => ?_⟩
 ·rcases List.mem_append.mp hy with q | q
  ·exact ho y (List.mem_append_left _ q)
  ·rcases List.mem_append.mp q with q | q
   ·exact hE y q _ (.head _)
   ·exact ho y (List.mem_append_right _ q)
 ·simp only [List.mem_append, List.mem_cons] at hp ⊢
  rcases hp with q | q | q | q
  ·exact .inr (.inl q)
  ·exact .inr (.inr (.inl q))
  ·exact .inl q
  ·exact .inr (.inr (.inr q))
theorem off1_mem {D : Addr} {l : List (Addr × Obj)} (h : LCg.Off1 D l) : ∀ p ∈ l, p.1 ≠ D := by
 induction l with
 | nil => intro p hp; cases hp
 | cons q r ih =>
  intro p hp
  rcases List.mem_cons.mp hp with rfl | hp
  ·exact h.1
  ·exact ih h.2 p hp
theorem comp_src {led : List (Addr × Obj)} {s : Shared} (a : ZAt G ⟨fsM d1 d2 m, [], led, tk, sz⟩ s) : wpAny (model pw w) G.A (eval cmpI G.env) (fun v s' => v = .ref sz ∧ ZAt G ⟨fsM d1 d2 m, [(sz, fsL d1 d2)], led, tk, sz + 1⟩ s') (fun _ _ => False) s := by
 let G9 : ZG w lawNames 15 := { G with P := fun fl σ' => fl = .ret (.ref sz) ∧ σ' = ⟨fsM d1 d2 m, [(sz, fsL d1 d2)], led, tk, sz + 1⟩ }
 have h9 : zgo lawNames w.params 99 ⟨⟨fsM d1 d2 m, [], led, tk, sz⟩, [.ret], .e cmpI⟩ = ⟨⟨fsM d1 d2 m, [(sz, fsL d1 d2)], led, tk, sz + 1⟩, [], .d (.f (.ret (.ref sz)))⟩ := by kernel_rfl
 have key : ZSat G9 ⟨⟨fsM d1 d2 m, [], led, tk, sz⟩, [.ret], .e cmpI⟩ := by
  refine zgo_ok (n := 99) ?_
  rw [h9]
  exact ⟨rfl, rfl⟩
 refine wpAny_mono (key s ⟨a.st, a.sz, a.fr, a.nw, a.nd, a.off, a.sub, a.hid, a.hof⟩) (fun v s' ⟨σ', a', h⟩ => ?_) fun _ _ f => f
 obtain ⟨h1, h2⟩ : Flow.ret v = .ret (.ref sz) ∧ σ' = _ := h
 cases h1
 subst h2
 exact ⟨rfl, ⟨a'.st, a'.sz, a'.fr, a'.nw, a'.nd, a'.off, a'.sub, a'.hid, a'.hof⟩⟩
theorem z_comp3 (H : W3 w x (L + 1) nA pA e TS rest led) (h1 : (t1, d1) ∈ TS) (h2 : (t2, d2) ∈ TS) (hR : G.R = []) (hH : G.H = []) (hcl : G.cl = ([("scribe", L + 1)] : List (Str × Addr)))
  (h : ∀ D y1 y2 y3 rest' l, W3 w x (L + 1) nA pA e TS rest' l → ∀ tk sz, ZT G ⟨⟨fsM d1 d2 m, [(D, PySem.W.listOf (strValues [(insideOf e t1, y1), (insideOf e t2, y2), (insideOf e t1, y3)]).toArray 3)], l, tk, sz⟩, k, .d (.v (.ref D))⟩) :
  ZT G ⟨⟨fsM d1 d2 m, [], led, tk, sz⟩, k, .e cmpX⟩ := by
 refine ⟨fun s a => ?_⟩
 have src := comp_src a
 obtain ⟨cn, b1, b2, more, ff, ccd, ee⟩ := G.he
 have X := G.X
 have T := G.T
 have hr := G.hr
 rw [ee] at src ⊢
 unfold cmpX
 refine LCg.ListComp_U (F₀ := a.fr) (cl := [("scribe", L + 1)]) (by rw [hcl]; with_unfolding_all rfl) (by with_unfolding_all decide) rfl (by with_unfolding_all decide) rfl (wpAny_mono src (fun v s2 ⟨e1, a2⟩ => ?_) fun _ _ f => f.elim) (by intro _; rfl)
 subst e1
 obtain ⟨led0, W0, hs0⟩ := H.join [(sz, fsL d1 d2)] (fun y hy q hq => a2.off y hy q hq)
 have mLr : (sz, PySem.W.listOf ([.ref d1, .ref d2, .ref d1] : List Value).toArray 0) ∈ [(sz, fsL d1 d2)] ++ rest := .head _
 refine LCg.CompSrc.ledger (Room.hd hr) a2.fr (fun p hp => a2.nw p (hs0 p hp)) (W0.sub _ mLr) (show 3 ≤ sizeLine by decide) ?_
 intro g
 with_unfolding_all refine LCg.CompRest.succ ?_
 intro v I oI C oX Dl m₂ h5 tk5 E' hv hC hx F5 N6 off ne
 obtain rfl : v = .ref d1 := (Option.some.inj hv).symm
 refine comp_step F5 N6 off hC hx W0 h1 X T hr rfl rfl rfl rfl rfl rfl (fun rest' led' W' hs => .inr ⟨_, W'.sub _ (hs _ mLr), rfl, _, rfl⟩) fun y1 r1 l1 W1 hs1 => ?_
 clear F5 N6 off hC hx ne hv
 with_unfolding_all refine LCg.CompRest.succ ?_
 intro v I oI C oX Dl m₂ h5 tk5 E' hv hC hx F5 N6 off ne
 obtain rfl : v = .ref d2 := (Option.some.inj hv).symm
 refine comp_step F5 N6 off hC hx W1 h2 X T hr rfl rfl rfl rfl rfl rfl (fun rest' led' W' hs => .inr ⟨_, W'.sub _ (hs _ (hs1 _ mLr)), rfl, _, rfl⟩) fun y2 r2 l2 W2 hs3 => ?_
 clear F5 N6 off hC hx ne hv
 with_unfolding_all refine LCg.CompRest.succ ?_
 intro v I oI C oX Dl m₂ h5 tk5 E' hv hC hx F5 N6 off ne
 obtain rfl : v = .ref d1 := (Option.some.inj hv).symm
 refine comp_step F5 N6 off hC hx W2 h1 X T hr rfl rfl rfl rfl rfl rfl (fun rest' led' W' hs => .inr ⟨_, W'.sub _ (hs _ (hs3 _ (hs1 _ mLr))), rfl, _, rfl⟩) fun y3 r3 l3 W3' hs4 => ?_
 clear F5 N6 off hC hx ne hv
 refine LCg.CompRest.zero ?_
 intro Dj h6 tk6 F7 N7 o7
 have N8 : News G.g G.L h6 ([(Dj, PySem.W.listOf (strValues [(insideOf e t1, y1), (insideOf e t2, y2), (insideOf e t1, y3)]).toArray 3)] ++ l3) := N7
 refine ⟨⟨fsM d1 d2 m, [(Dj, PySem.W.listOf (strValues [(insideOf e t1, y1), (insideOf e t2, y2), (insideOf e t1, y3)]).toArray 3)], l3, tk6, h6.objs.size⟩, ⟨?_, rfl, F7, N8, (by simp), ?_, (fun p hp => by rw [hR] at hp; cases hp), (fun p hp => by rw [hH] at hp; cases hp), (fun p _ q hq => by rw [hH] at hq; cases hq)⟩, (h Dj y1 y2 y3 r3 l3 W3' tk6 h6.objs.size).s⟩
 ·exact congrArg (fun x : Shared => { x with heap := h6, toks := tk6 }) a2.st
 ·intro p hp q hq
  rw [List.mem_singleton.mp hp]
  exact (off1_mem o7 q hq).symm
end
section
variable {w : World} {G : ZG w lawNames 15} {L : Addr} {a : Sy} {pA R : Addr} {cw : Wc} {st : WS} {texts : List Str} {funs : List (Int × Int)} {f : Fx → Int → Option (Int × Kd)} {b rW bS rest : List (Addr × Obj)} {oC oR : Obj} {t1 t2 : Tm} {d1 d2 : Addr} {k : Kd} {hh : Int}
theorem law_way3 (hR : G.R = []) (hcl : G.cl = ([("scribe", L + 1)] : List (Str × Addr))) (hH : G.H = []) (hP : G.P = LawFin) (M : Mid w a pA cw st (L + 1) R texts funs f b rW bS rest) (hd : oC.data = .cell (some (.ref cw.x)))
  (Y : WayT texts funs f rest t1 t2 d1 d2 k hh) : ∀ v7t v8t v9t m tk sz, ZT G ⟨⟨wayN a.nA pA R cw.q d1 d2 k hh 3 v7t v8t v9t ++ m, [], ((L + 1, oC) :: (R, oR) :: (b ++ (rW ++ (bS ++ rest)))), tk, sz⟩, [], .ss (lawB.drop 14)⟩ := by
 intro v7t v8t v9t m tk sz
 have hl0 := Y.lt
 have hf0 := Y.lf
 have hup : ∀ p ∈ rest, p ∈ (L + 1, oC) :: (R, oR) :: (b ++ (rW ++ (bS ++ rest))) := (fun p hp => .tail _ (.tail _ (List.mem_append_right b (List.mem_append_right rW (List.mem_append_right bS hp)))))
 refine z_meth 99 (zL ∅ (hup _ M.sym.inst)) (zL ∅ (hup _ M.sym.dict)) ∅ ?_; intro z
 refine z_call 99 (fun t => func_M (k := 3) (X := [(L + 1, oC), (R, oR)]) M ?hX ⟨_, .head _⟩ ⟨_, .tail _ (.head _)⟩ (by lia) (by lia) (Str.ofString "g") (t 1) (t 2)) (by decide) ∅ ∅ ?_
 case hX => exact List.forall_mem_cons.mpr ⟨fun y hy => (M.oc y hy).symm, List.forall_mem_cons.mpr ⟨fun y hy => (M.oR y hy).symm, fun _ h => nomatch h⟩⟩
 rintro _ _ ⟨⟨t', rfl⟩, bS2, rest2, rfl, hs2, hX2, M2⟩ tk2 sz2
 refine ⟨(fun p hp => by rw [hR] at hp; cases hp), ?_⟩; intro z
 refine z_strM 99 ∅ ?_; intro z
 refine z_mid (oC := oC) (oR := oR) 99 M2 hR ∅ ∅ ?_; intro E hE z
 have gf := grow_func texts funs (Str.ofString "g") 3
 obtain ⟨f0, f9, fl, fg, ga⟩ := func_good (e := ⟨addText texts (Str.ofString "g"), addFun funs ((symIdx texts (Str.ofString "g") : Nat), 3), f, cw.q⟩) (k := 3) Y.base g_ok (List.prefix_refl _) (List.prefix_refl _) (by lia) (by lia)
 have wf1 := evOf_grow gf Y.wf1
 have wf2 := evOf_grow gf Y.wf2
 have wf0 := wf_func (args := [t1, t2, t1]) Y.base g_ok (by lia) (by lia) (List.prefix_refl _) (List.prefix_refl _) (by simp) (by simp) (.cons wf1 (.cons wf2 (.cons wf1 .nil)))
 have tB1 : TermAt (E ++ rest2) t1 d1 := Y.at1.mono fun p hp => List.mem_append_right _ (hs2 p hp)
 have tB2 : TermAt (E ++ rest2) t2 d2 := Y.at2.mono fun p hp => List.mem_append_right _ (hs2 p hp)
 have q7 : TermAt (E ++ rest2) (.s (funIdx funs ((symIdx texts (Str.ofString "g") : Nat), 3) : Nat) [t1, t2, t1]) (adr E 1) := tmS (i := 0) (fun p hp => List.mem_append_left _ hp) ∅ ∅ (.cons tB1 (.cons tB2 (.cons tB1 .nil)))
 have H0 := mid_3 M2 Y.tab.ok (Y.base.grow gf) E hE hd (t1 := .s (funIdx funs ((symIdx texts (Str.ofString "g") : Nat), 3) : Nat) [t1, t2, t1]) (d1 := adr E 1) (t2 := t1) (d2 := d1) (t3 := t2) (d3 := d2) ⟨q7, wf0, (by have := Y.h1; have := Y.h2; simp only [hgt, hgts]; lia), (by have := Y.z1; have := Y.z2; simp only [tsz, tszs]; lia)⟩ ⟨tB1, wf1, hgt_le Y.h1, tsz_le Y.z1⟩ ⟨tB2, wf2, hgt_le Y.h2, tsz_le Y.z2⟩
 refine z_joinN (k := (zgo lawNames w.params 0 z).k) 0 (fsM d1 d2 [("term", .ref (adr E 1)), ("names", .ref a.nA), ("table", .ref pA), ("quoting", .bool cw.q)]) (own := []) (led := (L + 1, oC) :: (b ++ (E ++ (rW ++ (bS2 ++ rest2))))) (md := .e cmpX) ?_ ∅ ∅ ∅ ∅ ∅
 intro m tk sz
 refine z_comp3 (m := ([("term", .ref (adr E 1)), ("names", .ref a.nA), ("table", .ref pA), ("quoting", .bool cw.q)] : List (Str × Value)) ++ m) H0 (.tail _ (.head _)) (.tail _ (.tail _ (.head _))) hR hH hcl ?_
 intro D y1 y2 y3 r3 l3 H1 tk3 sz3
 have e1 := evOf_wf (f := f) (q := cw.q) wf1
 have e2 := evOf_wf (f := f) (q := cw.q) wf2
 have g1 := inside_len (H1.ok (t := t1) (.tail _ (.head _)))
 have g2 := inside_len (H1.ok (t := t2) (.tail _ (.tail _ (.head _))))
 have hEq := func3_eq f0 f9 e1 e2 e1
 have hg : atomOf ⟨addText texts (Str.ofString "g"), addFun funs ((symIdx texts (Str.ofString "g") : Nat), 3), f, cw.q⟩ (nameOf ⟨addText texts (Str.ofString "g"), addFun funs ((symIdx texts (Str.ofString "g") : Nat), 3), f, cw.q⟩ (funIdx funs ((symIdx texts (Str.ofString "g") : Nat), 3) : Nat)) = Str.ofString "g" := by
  rw [name_at fg, atomOf_at (x := Str.ofString "g") (by rw [Int.toNat_natCast]; exact addText_get _ _)]
  exact plain_g _
 rw [hg] at hEq
 generalize insideOf ⟨addText texts (Str.ofString "g"), addFun funs ((symIdx texts (Str.ofString "g") : Nat), 3), f, cw.q⟩ t1 = Z1 at *
 generalize insideOf ⟨addText texts (Str.ofString "g"), addFun funs ((symIdx texts (Str.ofString "g") : Nat), 3), f, cw.q⟩ t2 = Z2 at *
 refine z_strjoin (x := ",") (D := D) (k := 3) (ys := [(Z1, y1), (Z2, y2), (Z1, y3)]) 99 (zO 0 ∅) rfl (joinOk_of_weight ?_ (by decide)) ∅ ?_
 ·simp only [List.map_cons, List.map_nil, List.sum_cons, List.sum_nil, List.length_cons, List.length_nil]
  lia
 intro tj tkj
 rw [join_three]
 have hj : (Z1 ++ Str.ofString "," ++ Z2 ++ Str.ofString "," ++ Z1).length ≤ 180002 := by
  have h1 : (Str.ofString ",").length = 1 := by decide
  simp only [Str.length_append, h1]
  lia
 have hZ : Str.ofString "g(" ++ (Z1 ++ Str.ofString "," ++ Z2 ++ Str.ofString "," ++ Z1) ++ Str.ofString ")" = Str.ofString "g" ++ "(" ++ Z1 ++ "," ++ Z2 ++ "," ++ Z1 ++ ")" := by
  have e : Str.ofString "g(" = Str.ofString "g" ++ Str.ofString "(" := by decide
  rw [e]
  simp only [app_assoc]
 generalize Z1 ++ Str.ofString "," ++ Z2 ++ Str.ofString "," ++ Z1 = ZZ at *
 have e3 : (("g(" : Str)).length = 2 := by decide +kernel
 have e4 : ((")" : Str)).length = 1 := by decide +kernel
 refine z_drop 99 ∅ ?_; intro z
 refine z_addS 99 (x := "g(") (y := ZZ) (by lia) ∅ ?_; intro t9 tk9 z
 refine z_addS 99 (x := "g(" ++ ZZ) (y := ")") (by rw [Str.length_append]; lia) ∅ ?_; intro t9 tk9 z
 refine z_joinN 11 [("term", .ref (adr E 1)), ("due", .str ("g(" ++ ZZ ++ ")") t9), ("names", .ref a.nA), ("table", .ref pA), ("quoting", .bool cw.q)] (own := []) (law_ret hR hcl hP H1 (.head _) rfl (by rw [hEq, ← hZ]) t9) ∅ ∅ ∅ ∅ ∅
end
end
section
theorem symIdx_stays {t t' : List Str} {x : Str} (h : addText t x <+: t') : symIdx t' x = symIdx t x := by
 have key : ∀ (l : List Str) (i : Nat), l.idxOf? x = some i → ∀ r, (l ++ r).idxOf? x = some i := by
  intro l i hi r
  rw [List.idxOf?_eq_some_iff] at hi ⊢
  obtain ⟨h1, h2, h3⟩ := hi
  refine ⟨by rw [List.length_append]; lia, by rw [List.getElem_append_left h1]; exact h2, fun j hj => ?_⟩
  rw [List.getElem_append_left (by lia)]
  exact h3 j hj
 obtain ⟨r, rfl⟩ := h
 unfold addText symIdx
 cases hq : t.idxOf? x with
 | some i =>
  simp only [key t i hq r]
 | none =>
  have hn : (t ++ [x]).idxOf? x = some t.length := by
   rw [List.idxOf?_eq_some_iff]
   refine ⟨by simp, by simp, fun j hj => ?_⟩
   rw [List.getElem_append_left hj]
   intro e
   rw [List.idxOf?_eq_none_iff] at hq
   exact hq (e ▸ List.getElem_mem hj)
  simp only [key _ _ hn r]
theorem off_four {z : Addr} {bw rW B : List (Addr × Obj)} (h1 : ∀ y ∈ bw ++ rW, y.1 ≠ z) (h2 : ∀ y ∈ B, y.1 ≠ z) : ∀ y ∈ bw ++ (rW ++ B), y.1 ≠ z := by
 intro y hy
 rcases List.mem_append.mp hy with h | h
 ·exact h1 y (List.mem_append_left _ h)
 rcases List.mem_append.mp h with h | h
 ·exact h1 y (List.mem_append_right _ h)
 ·exact h2 y h
section
variable {w : World} {a : Sy} {p : Op} {c R : Addr} {texts : List Str} {funs : List (Int × Int)} {f : Fx → Int → Option (Int × Kd)} {sz : Nat} {bS bO rest : List (Addr × Obj)}
theorem Seed.symr (S : Seed w a p c R texts funs f sz bS bO rest) : SymIn w a texts funs bS (bO ++ rest) := S.sym.app bO S.oo
inductive PSl (w : World) (a : Sy) (c R Wd : Addr) (oC : Obj) (nW : Nat) (wv : List Value) (rest : List (Addr × Obj)) (texts : List Str) (funs : List (Int × Int)) (K H : Nat) : Value → List (Addr × Obj) → Prop
 | mk {d : Addr} {t : Tm} {vs' : List Value} {n' : Nat} {b' rest' : List (Addr × Obj)} {texts' : List Str} {funs' : List (Int × Int)} (ok : RowOk vs') (hoff : ∀ p ∈ b' ++ rest', p.1 ≠ R) (hc : ∀ p ∈ b' ++ rest', p.1 ≠ c) (hs : ∀ p ∈ rest, p ∈ rest') (S : SymIn w a texts' funs' b' rest') (gr : Grow texts texts' funs funs' K) (ta : TermAt rest' t d) (wf : WfT (evOf texts' funs') t) (hz : tsz t ≤ K) (hh : hgt t ≤ H) (B : Base texts' funs') (lt : texts'.length ≤ texts.length + K) (lf : funs'.length ≤ funs.length + K) (wd : (Wd, PySem.W.listOf wv.toArray nW) ∈ rest') : PSl w a c R Wd oC nW wv rest texts funs K H (.ref d) ((c, oC) :: (R, PySem.W.listOf vs'.toArray n') :: (b' ++ rest'))
theorem sown_L {Wd : Addr} {deep : Int} {D K H : Nat} (h : SownSpec w a R Wd deep D K H) {oC : Obj} {vs : List Value} {n nW : Nat} {wv : List Value} {b rest : List (Addr × Obj)} {td : Tok} (h1 : RowOk vs) (h2 : SymIn w a texts funs b rest) (h3 : ∀ p ∈ b ++ rest, p.1 ≠ R) (hc : ∀ p ∈ b ++ rest, p.1 ≠ c) (cR : R ≠ c) (h4 : Base texts funs) (h5 : texts.length + K ≤ 800) (h6 : funs.length + K ≤ 800) (h7 : (Wd, PySem.W.listOf wv.toArray nW) ∈ rest) (h8 : StrVals wv wordsL) :
  Does w 505 D [.ref R, .ref a.nA, .ref Wd, .int deep td] ((c, oC) :: (R, PySem.W.listOf vs.toArray n) :: (b ++ rest)) (PSl w a c R Wd oC nW wv rest texts funs K H) := by
 refine Does.weak (Does.frame1 (x := (c, oC)) (List.forall_mem_cons.mpr ⟨cR, hc⟩) (h (n := n) (td := td) h1 h2 h3 h4 h5 h6 h7 h8)) ?_
 rintro r l ⟨l', rfl, hoff, d, t, vs', n', b', rest', texts', funs', rfl, rfl, g1, g2, g3, g4, g5, g6, g7, g8, g9, g10, g11, g12, g13, _⟩
 exact ⟨_, .mk g1 g2 (List.forall_mem_cons.mp hoff).2 g3 g4 g5 g6 g7 g8 g9 g10 g11 g12 g13, fun p hp => hp⟩
end
theorem writer_perm {α : Type} {c R : α} {bw rW B : List α} : ∀ p ∈ c :: R :: (bw ++ (rW ++ B)), p ∈ bw ++ (rW ++ (c :: R :: B)) := by
 intro p hp
 simp only [List.mem_cons, List.mem_append] at hp ⊢
 grind
inductive PWr (w : World) (nA pA : Addr) (q : Bool) (x y : Addr × Obj) (B : List (Addr × Obj)) : Value → List (Addr × Obj) → Prop
 | mk {cw : Wc} {st : WS} {b rW : List (Addr × Obj)} (hn : cw.nA = nA ∧ cw.pA = pA ∧ cw.q = q) (ho : ∀ p ∈ b ++ rW, ∀ q ∈ x :: y :: B, p.1 ≠ q.1) (S : WrIn w cw st b rW) (R : RdN w cw rW) : PWr w nA pA q x y B (.ref cw.x) (x :: y :: (b ++ (rW ++ B)))
theorem writer_P {w : World} {nA pA : Addr} {q : Bool} {x y : Addr × Obj} {B : List (Addr × Obj)} : Does w 472 3 [.ref nA, .ref pA, .bool q] (x :: y :: B) (PWr w nA pA q x y B) :=
 Does.weak (writer_L (w := w) (q := q)) (by rintro r l ⟨cw, st, b, rW, rfl, h1, rfl, h2, S, R⟩; exact ⟨_, .mk h1 h2 S R, writer_perm⟩)
theorem Mid.nR {w : World} {a : Sy} {pA : Addr} {cw : Wc} {st : WS} {c R : Addr} {texts : List Str} {funs : List (Int × Int)} {f : Fx → Int → Option (Int × Kd)} {b rW bS rest : List (Addr × Obj)} {oC : Obj} (M : Mid w a pA cw st c R texts funs f b rW bS rest) : ∀ q ∈ (c, oC) :: (b ++ (rW ++ (bS ++ rest))), q.1 ≠ R := List.forall_mem_cons.mpr ⟨M.cR.symm, M.oR⟩
section
variable {w : World} {G : ZG w lawNames 15} {L : Addr} {a : Sy} {p : Op} {R Wd Kn : Addr} {wv kv : List Value} {nW nK : Nat} {oC : Obj} {i : Nat} {led : List (Addr × Obj)} {q : Bool}
theorem law_ways {pA : Addr} {cw : Wc} {st : WS} {texts : List Str} {funs : List (Int × Int)} {f : Fx → Int → Option (Int × Kd)} {b rW bS rest : List (Addr × Obj)} {vs : List Value} {n : Nat} {t1 t2 : Tm} {d1 d2 : Addr} {k : Kd} {hh : Int} (hR : G.R = []) (hH : G.H = []) (hcl : G.cl = ([("scribe", L + 1)] : List (Str × Addr))) (hP : G.P = LawFin) (ok : RowOk vs) (M : Mid w a pA cw st (L + 1) R texts funs f b rW bS rest) (hd : oC.data = .cell (some (.ref cw.x))) (Y : WayT texts funs f rest t1 t2 d1 d2 k hh) {kw : Int} (h0 : 0 ≤ kw) (h1 : kw < 6) :
  ∀ v7t v8t v9t m tk sz, ZT G ⟨⟨wayN a.nA pA R cw.q d1 d2 k hh kw v7t v8t v9t ++ m, [], (L + 1, oC) :: (R, PySem.W.listOf vs.toArray n) :: (b ++ (rW ++ (bS ++ rest))), tk, sz⟩, [], .ss (lawB.drop 14)⟩ := by
 have hk : kw = 0 ∨ kw = 1 ∨ kw = 2 ∨ kw = 4 ∨ kw = 5 ∨ kw = 3 := by lia
 rcases hk with rfl | rfl | rfl | rfl | rfl | rfl
 ·exact law_way0 hR hcl hP M hd Y
 ·exact law_way1 hR hcl hP M hd Y
 ·exact law_way2 hR hcl hP ok M hd Y
 ·exact law_way4 hR hcl hP M hd Y
 ·exact law_way5 hR hcl hP M hd Y
 ·exact law_way3 hR hcl hH hP M hd Y
theorem law_mid (hR : G.R = []) (hH : G.H = []) (hcl : G.cl = ([("scribe", L + 1)] : List (Str × Addr))) (hP : G.P = LawFin) (hd : oC.data = .cell none) (hW : StrVals wv wordsL) (hK : StrVals kv kindsL) (hi : i ≤ 6) (J : LawJ w a p (L + 1) R Wd Kn wv kv nW nK oC i led) :
  ∀ m tk sz, ZT G ⟨⟨lawN a.nA p.pA R Wd Kn q ++ m, [], led, tk, sz⟩, [], .ss (lawB.drop 7)⟩ := by
 obtain ⟨ok, S, ht, hz⟩ := J
 rename_i vs n texts f sz bS bO rest
 intro m tk s0
 have hup : ∀ (bO rest : List (Addr × Obj)), ∀ x ∈ rest, ∀ (bS : List (Addr × Obj)) (r : Addr × Obj), x ∈ (L + 1, oC) :: r :: (bS ++ (bO ++ rest)) := fun bO rest x hx bS r => .tail _ (.tail _ (List.mem_append_right bS (List.mem_append_right bO hx)))
 refine z_next 99 (n0 := n) 7 ok (S.seed.nR (oC := oC)) hR (by decide) (by decide) (by decide) ∅ ∅ ?_; intro k1 t1 vs1 n1 h10 h11 ok1 tk1 sz1 z
 obtain ⟨⟨kd, tkd⟩, e1⟩ := kinds_at hK h10 h11
 refine z_itemL 99 (zL ∅ (hup bO rest _ S.kn bS (R, PySem.W.listOf vs1.toArray n1))) h10 (by lia) e1 ∅ ?_; intro z
 refine z_next 99 (n0 := n1) 5 ok1 (S.seed.nR (oC := oC)) hR (by decide) (by decide) (by decide) ∅ ∅ ?_; intro k2 t2 vs2 n2 h20 h21 ok2 tk2 sz2 z
 refine z_itemI 99 0 h20 h21 ∅ ∅ ?_; intro hh th hh1 hh2 z
 refine z_meth 99 (zL ∅ (hup bO rest _ S.seed.op.inst bS (R, PySem.W.listOf vs2.toArray n2))) (zL ∅ (hup bO rest _ S.seed.op.dict bS (R, PySem.W.listOf vs2.toArray n2))) ∅ ?_; intro z
 refine z_drop 1 ∅ ?_; intro z
 refine z_meth 99 (zL ∅ (hup bO rest _ S.seed.sym.inst bS (R, PySem.W.listOf vs2.toArray n2))) (zL ∅ (hup bO rest _ S.seed.sym.dict bS (R, PySem.W.listOf vs2.toArray n2))) ∅ ?_; intro z
 refine z_call 99 (fun t => atom_L (oC := oC) (vs := vs2) (n := n2) S.seed (by lia) (Str.ofString "foo") (t 1)) (by decide) ∅ ∅ ?_
 rintro _ _ ⟨⟨ta, rfl⟩, bS3, rfl, S3⟩ tk3 sz3
 refine ⟨(fun p hp => by rw [hR] at hp; cases hp), ?_⟩; intro z
 refine z_call 99 (fun t => add_L (oC := oC) (vs := vs2) (n := n2) S3 (by lia) kd (pr := hh) (i := (symIdx texts (Str.ofString "foo") : Nat)) (t1 := t 1) (t2 := t 2) (ta := t 3) (by lia)) (by decide) ∅ ∅ ?_
 rintro _ _ ⟨rfl, bO4, rest4, rfl, hs4, S4⟩ tk4 sz4
 refine ⟨(fun p hp => by rw [hR] at hp; cases hp), ?_⟩; intro z
 have gr := grow_atom texts symStart.2 (Str.ofString "foo")
 have hB := S.base.grow gr
 have hTF := S.tab.foo S.base (k := kd) hh1 hh2
 have hl1 := gr.lt
 have hl2 := start_len.2
 refine z_call 99 (fun t => sown_L (oC := oC) (n := n2) (td := t 3) sown0 ok2 S4.symr S4.oR S4.oc S4.cR hB (by lia) (by lia) (List.mem_append_right _ (hs4 _ S.wd)) hW) (by decide) ∅ ∅ ?_
 rintro _ _ ⟨ok6, oR1, oc1, hs1, S1, g1, at1, wf1, z1, y1, B1, lt1, lf1, wd1⟩ tk5 sz5
 rename_i e1 t1 vs5 n5 b1 r1 T1 G1
 refine ⟨(fun p hp => by rw [hR] at hp; cases hp), ?_⟩; intro z
 refine z_call 99 (fun t => sown_L (oC := oC) (n := n5) (td := t 3) sown1 ok6 S1 oR1 oc1 S4.cR B1 (by lia) (by lia) wd1 hW) (by decide) ∅ ∅ ?_
 rintro _ _ ⟨ok7, oR2, oc2, hs2, S2, g2, at2, wf2, z2, y2, B2, lt2, lf2, wd2⟩ tk6 sz6
 rename_i e2 t2 vs6 n6 b2 r2 T2 G2
 refine ⟨(fun p hp => by rw [hR] at hp; cases hp), ?_⟩; intro z
 refine z_call 99 (fun t => writer_P (w := w) (nA := a.nA) (pA := p.pA) (q := q) (x := (L + 1, oC)) (y := (R, PySem.W.listOf vs6.toArray n6)) (B := b2 ++ r2)) (by decide) ∅ ∅ ?_
 rintro _ _ ⟨⟨hnA, hpA, hq⟩, hoW, SW, RN⟩ tk7 sz7
 rename_i cw st bw rW
 refine ⟨(fun p hp => by rw [hR] at hp; cases hp), ?_⟩; intro z
 have ocW : ∀ y ∈ bw ++ (rW ++ (b2 ++ r2)), y.1 ≠ L + 1 := off_four (fun y hy => hoW y hy _ (.head _)) oc2
 have oRW : ∀ y ∈ bw ++ (rW ++ (b2 ++ r2)), y.1 ≠ R := off_four (fun y hy => hoW y hy _ (.tail _ (.head _))) oR2
 refine z_scell 99 (v := .ref cw.x) (r := (R, PySem.W.listOf vs6.toArray n6) :: (bw ++ (rW ++ (b2 ++ r2)))) hcl hR hd (List.forall_mem_cons.mpr ⟨S4.cR, ocW⟩) ∅ ∅ ?_; intro oC' hd' z
 have hT : symIdx T2 (Str.ofString "foo") = symIdx texts (Str.ofString "foo") := symIdx_stays (g1.pt.trans g2.pt)
 have M : Mid w a p.pA cw st (L + 1) R T2 G2 (addOp f kd (symIdx texts (Str.ofString "foo") : Nat) hh) bw rW b2 r2 := ⟨S2, S4.op.rb.mono fun y hy => hs2 _ (hs1 _ hy), SW, RN, fun x hx y hy => hoW x hx y (.tail _ (.tail _ hy)), ocW, oRW, S4.cR, hnA, hpA⟩
 have Y : WayT T2 G2 (addOp f kd (symIdx texts (Str.ofString "foo") : Nat) hh) r2 t1 t2 e1 e2 kd hh := ⟨at1.mono hs2, at2, evOf_grow g2 wf1, wf2, y1, Nat.le_trans y2 (by decide), z1, Nat.le_trans z2 (by decide), B2, by lia, by lia, by rw [hT]; exact hTF, by rw [hT]; exact prefix_get (g1.pt.trans g2.pt) (addText_get _ _)⟩
 refine z_next 99 (n0 := n6) 6 ok7 (M.nR (oC := oC')) hR (by decide) (by decide) (by decide) ∅ ∅ ?_; intro k8 t8 vs8 n8 h80 h81 ok8 tk8 sz8 z
 exact z_joinN 3 (wayN a.nA p.pA R cw.q e1 e2 kd hh k8 tkd th t8) (law_ways (n := n8) hR hH hcl hP ok8 M hd' Y h80 h81 tkd th t8) (by rw [hq]; kernel_rfl) ∅ ∅ ∅ ∅
end
end
section
section
variable {w : World} {G : ZG w lawNames 15} {L : Addr} {a : Sy} {p : Op} {R Wd Kn : Addr} {wv kv : List Value} {nW nK : Nat} {oC : Obj} {led : List (Addr × Obj)} {q : Bool}
theorem law_loop (hR : G.R = []) (hH : G.H = []) (hcl : G.cl = ([("scribe", L + 1)] : List (Str × Addr))) (hP : G.P = LawFin) (hd : oC.data = .cell none) (hW : StrVals wv wordsL) (hK : StrVals kv kindsL) (J : LawJ w a p (L + 1) R Wd Kn wv kv nW nK oC 0 led) :
  ∀ m tk sz, ZT G ⟨⟨lawN a.nA p.pA R Wd Kn q ++ m, [], led, tk, sz⟩, [], .ss (lawB.drop 6)⟩ := by
 obtain ⟨ok, S, ht, hz⟩ := J
 rename_i vs n texts f sz bS bO rest
 intro m tk s0
 refine z_next 99 (n0 := n) 4 ok (S.seed.nR (oC := oC)) hR (by decide) (by decide) (by decide) ∅ ∅ ?_; intro k1 t1 vs1 n1 h10 h11 ok1 tk1 sz1 z
 refine z_range 99 (k := 3 + k1) ∅ ?_; intro r t u v tk2 sz2 z
 refine z_for 99 (iters_range (r := r) (n := 3 + k1) (t := t) (u := u) (v := v) (R' := []) (by lia) (by lia)) (fun i ns own led => ns = lawN a.nA p.pA R Wd Kn q ∧ own = [] ∧ LawJ w a p (L + 1) R Wd Kn wv kv nW nK oC i led) (ns := lawN a.nA p.pA R Wd Kn q) (own := []) ∅ ∅ ∅ ∅ (fun p hp => hR ▸ hp) (fun _ h => nomatch h) ⟨rfl, rfl, .mk (n := n1) ok1 S ht hz⟩ ?_ ?_
 ·clear S ok ht hz
  rintro i _ _ m _ led tk sz hi ⟨ti, rfl⟩ ⟨rfl, rfl, J⟩ G' hR' hP' z
  obtain ⟨ok, S, ht, hz⟩ := J
  rename_i vs n texts f s9 bS bO rest
  have hi2 : i < 7 := by lia
  have hup : ∀ (bO rest : List (Addr × Obj)), ∀ x ∈ rest, ∀ (bS : List (Addr × Obj)) (r : Addr × Obj), x ∈ (L + 1, oC) :: r :: (bS ++ (bO ++ rest)) := fun bO rest x hx bS r => .tail _ (.tail _ (List.mem_append_right bS (List.mem_append_right bO hx)))
  refine z_next 99 (n0 := n) 7 ok (S.seed.nR (oC := oC)) hR' (by decide) (by decide) (by decide) ∅ ∅ ?_; intro k1 t1 vs1 n1 h10 h11 ok1 tk1 sz1 z
  obtain ⟨⟨kd, tkd⟩, e1⟩ := kinds_at hK h10 h11
  refine z_itemL 99 (zL ∅ (hup bO rest _ S.kn bS (R, PySem.W.listOf vs1.toArray n1))) h10 (by lia) e1 ∅ ?_; intro z
  refine z_next 99 (n0 := n1) 5 ok1 (S.seed.nR (oC := oC)) hR' (by decide) (by decide) (by decide) ∅ ∅ ?_; intro k2 t2 vs2 n2 h20 h21 ok2 tk2 sz2 z
  refine z_itemI 99 0 h20 h21 ∅ ∅ ?_; intro hh th hh1 hh2 z
  refine z_meth 99 (zL ∅ (hup bO rest _ S.seed.op.inst bS (R, PySem.W.listOf vs2.toArray n2))) (zL ∅ (hup bO rest _ S.seed.op.dict bS (R, PySem.W.listOf vs2.toArray n2))) ∅ ?_; intro z
  refine z_drop 1 ∅ ?_; intro z
  refine z_meth 99 (zL ∅ (hup bO rest _ S.seed.sym.inst bS (R, PySem.W.listOf vs2.toArray n2))) (zL ∅ (hup bO rest _ S.seed.sym.dict bS (R, PySem.W.listOf vs2.toArray n2))) ∅ ?_; intro z
  refine z_next 99 (n0 := n2) 5 ok2 (S.seed.nR (oC := oC)) hR' (by decide) (by decide) (by decide) ∅ ∅ ?_; intro k3 t3 vs3 n3 h30 h31 ok3 tk3 sz3 z
  obtain ⟨x, hx, tx, e3⟩ := words_get hW (Int.fmod_nonneg_of_pos ((i : Int) + k3) (by decide : (0 : Int) < 5)) (Int.fmod_lt_of_pos _ (by decide)) (by decide)
  refine z_itemL 99 (zL ∅ (hup bO rest _ S.wd bS (R, PySem.W.listOf vs3.toArray n3))) (Int.fmod_nonneg_of_pos ((i : Int) + k3) (by decide : (0 : Int) < 5)) (Int.lt_trans (Int.fmod_lt_of_pos _ (by decide)) (by decide)) e3 ∅ ?_; intro z
  refine z_call 99 (fun t => atom_L (oC := oC) (vs := vs3) (n := n3) S.seed (by lia) x (t 1)) (by decide) ∅ ∅ ?_
  rintro _ _ ⟨⟨ta, rfl⟩, bS3, rfl, S3⟩ tk3 sz3
  refine ⟨(fun p hp => by rw [hR'] at hp; cases hp), ?_⟩; intro z
  refine z_call 99 (fun t => add_L (oC := oC) (vs := vs3) (n := n3) S3 (by lia) kd (pr := hh) (i := (symIdx texts x : Nat)) (t1 := t 1) (t2 := t 2) (ta := t 3) (by lia)) (by decide) ∅ ∅ ?_
  rintro _ _ ⟨rfl, bO4, rest4, rfl, hs4, S4⟩ tk4 sz4
  refine ⟨(fun p hp => by rw [hR'] at hp; cases hp), ?_⟩; intro z
  have hl := addText_len texts x
  exact z_turn 99 hP' (lawN a.nA p.pA R Wd Kn q) ∅ ∅ ∅ ∅ ⟨rfl, rfl, .mk (n := n3) ok3 ⟨S4, S.base.grow (grow_atom _ _ _), S.tab.add S.base hx hh1 hh2, hs4 _ S.wd, hs4 _ S.kn⟩ (by lia) (by lia)⟩
 ·rintro _ m _ led tk sz ⟨rfl, rfl, J⟩ z
  exact z_joinN 1 (lawN a.nA p.pA R Wd Kn q) (law_mid hR hH hcl hP hd hW hK (by lia) J) ∅ ∅ ∅ ∅ ∅
end
end
section
set_option tactic.hygienic false
theorem top_perm {α : Type} {c R : α} {bS rS bO rO : List α} : ∀ p ∈ c :: R :: (bS ++ (bO ++ (rO ++ rS))), p ∈ (bO ++ rO) ++ ((bS ++ rS) ++ [R, c]) := by
 intro p hp
 simp only [List.mem_cons, List.mem_append, List.not_mem_nil, or_false] at hp ⊢
 grind
section
variable {w : World} {a : Sy} {p : Op} {c R : Addr} {texts : List Str} {funs : List (Int × Int)} {f : Fx → Int → Option (Int × Kd)} {sz : Nat} {bS bO rS rO : List (Addr × Obj)} {oC oR : Obj}
theorem seed_new (S : SymIn w a texts funs bS rS) (O : OpIn w p f sz bO rO) (h3 : ∀ x ∈ bO ++ rO, ∀ y ∈ (bS ++ rS) ++ [(R, oR), (c, oC)], x.1 ≠ y.1) (h2 : ∀ x ∈ bS ++ rS, ∀ y ∈ [(R, oR), (c, oC)], x.1 ≠ y.1) (cR : R ≠ c) : Seed w a p c R texts funs f sz bS bO (rO ++ rS) := by
 have key : ∀ z oz, (z, oz) ∈ [(R, oR), (c, oC)] → ∀ x ∈ bS ++ (bO ++ (rO ++ rS)), x.1 ≠ z := by
  intro z oz hz x hx
  simp only [List.mem_append] at hx
  rcases hx with h | h | h | h
  ·exact h2 x (List.mem_append_left _ h) _ hz
  ·exact h3 x (List.mem_append_left _ h) _ (List.mem_append_right _ hz)
  ·exact h3 x (List.mem_append_right _ h) _ (List.mem_append_right _ hz)
  ·exact h2 x (List.mem_append_right _ h) _ hz
 refine ⟨S.app rO fun x hx y hy => h3 x (List.mem_append_right _ hx) y (List.mem_append_left _ (List.mem_append_left _ hy)), O.mono (fun q hq => List.mem_append_left _ hq) ?_, fun x hx y hy => h3 x (List.mem_append_left _ hx) y (List.mem_append_left _ (List.mem_append_left _ hy)), key c oC (.tail _ (.head _)), key R oR (.head _), cR⟩
 intro q hq z hz
 rcases List.mem_append.mp hq with h | h
 ·exact O.offb q h z hz
 ·exact (h3 z (List.mem_append_left _ hz) q (List.mem_append_left _ (List.mem_append_right _ h))).symm
end
theorem Seed.app {w : World} {a : Sy} {p : Op} {c R : Addr} {texts : List Str} {funs : List (Int × Int)} {f : Fx → Int → Option (Int × Kd)} {sz : Nat} {bS bO rest : List (Addr × Obj)} {oC oR : Obj} (S : Seed w a p c R texts funs f sz bS bO rest) (E : List (Addr × Obj)) (hE : ∀ y ∈ E, ∀ q ∈ (c, oC) :: (R, oR) :: (bS ++ (bO ++ rest)), y.1 ≠ q.1) : Seed w a p c R texts funs f sz bS bO (E ++ rest) := by
 have up : ∀ q ∈ rest, q ∈ E ++ rest := fun q hq => List.mem_append_right _ hq
 have key : ∀ z oz, (∀ y ∈ E, y.1 ≠ z) → (∀ x ∈ bS ++ (bO ++ rest), x.1 ≠ z) → oz = z → ∀ x ∈ bS ++ (bO ++ (E ++ rest)), x.1 ≠ z := by
  intro z _ h1 h2 _ x hx
  simp only [List.mem_append] at hx
  rcases hx with h | h | h | h
  ·exact h2 x (List.mem_append_left _ h)
  ·exact h2 x (List.mem_append_right _ (List.mem_append_left _ h))
  ·exact h1 x h
  ·exact h2 x (List.mem_append_right _ (List.mem_append_right _ h))
 refine ⟨S.sym.app E fun y hy q hq => hE y hy q (.tail _ (.tail _ (List.mem_append_left _ hq))), S.op.mono up fun q hq z hz => ?_, S.oo, key c c (fun y hy => hE y hy _ (.head _)) S.oc rfl, key R R (fun y hy => hE y hy _ (.tail _ (.head _))) S.oR rfl, S.cR⟩
 rcases List.mem_append.mp hq with h | h
 ·exact hE q h z (.tail _ (.tail _ (List.mem_append_right _ (List.mem_append_left _ hz))))
 ·exact S.op.offb q h z hz
noncomputable def strsO (own : List (Addr × Obj)) (j : Nat) : Option (List Str) := (own[j]?).rec none fun p => (asSeq "list" p.2).rec none fun q => allStrs q.1.toList
theorem strsO_ok {own : List (Addr × Obj)} {j : Nat} {xs : List Str} (h : strsO own j = some xs) : ∃ y : List Value × Nat, StrVals y.1 xs ∧ (adr own j, PySem.W.listOf y.1.toArray y.2) ∈ own := by
 unfold strsO at h
 cases e : own[j]? with
 | none => rw [e] at h; cases h
 | some p =>
  rw [e] at h
  have h : (asSeq "list" p.2).rec none (fun q => allStrs q.1.toList) = some xs := h
  cases e2 : asSeq "list" p.2 with
  | none => rw [e2] at h; cases h
  | some q =>
   rw [e2] at h
   refine ⟨(q.1.toList, q.2), allStrs_ok h, adr_mem ?_⟩
   unfold adr
   rw [e, ← Prod.eta p, asSeq_ok e2]; rfl
section
variable {w : World} {d : Nat} {G : ZG w lawNames d} {z : ZC}
theorem z_seed (n : Nat) {a : Sy} {p : Op} {c R : Addr} {texts : List Str} {funs : List (Int × Int)} {f : Fx → Int → Option (Int × Kd)} {sz : Nat} {bS bO rest : List (Addr × Obj)} {oC oR : Obj} (S : Seed w a p c R texts funs f sz bS bO rest) (hR : G.R = []) (hv : zall (zgo lawNames w.params n z) = true) (hl : (zgo lawNames w.params n z).σ.led = (c, oC) :: (R, oR) :: (bS ++ (bO ++ rest)))
  (h : let E := (zgo lawNames w.params n z).σ.own; Seed w a p c R texts funs f sz bS bO (E ++ rest) → let c' := zside [] ((c, oC) :: (R, oR) :: (bS ++ (bO ++ (E ++ rest)))) (zgo lawNames w.params n z); ZT G c') : ZT G z := by
 refine ZT.go n ?_
 generalize zgo lawNames w.params n z = c1 at *
 obtain ⟨σ, k, md⟩ := c1
 have hl : σ.led = (c, oC) :: (R, oR) :: (bS ++ (bO ++ rest)) := hl
 refine z_all hv fun s a => ?_
 have hs : ∀ p ∈ [] ++ ((c, oC) :: (R, oR) :: (bS ++ (bO ++ (σ.own ++ rest)))), p ∈ σ.own ++ σ.led := fun p hp => by
  rw [hl]
  simp only [List.nil_append, List.mem_append, List.mem_cons] at hp ⊢
  rcases hp with q | q | q | q | q | q
  ·exact .inr (.inl q)
  ·exact .inr (.inr (.inl q))
  ·exact .inr (.inr (.inr (.inl q)))
  ·exact .inr (.inr (.inr (.inr (.inl q))))
  ·exact .inl q
  ·exact .inr (.inr (.inr (.inr (.inr q))))
 exact ⟨⟨σ.m, [], _, σ.tk, σ.sz⟩, ⟨a.st, a.sz, a.fr, fun p hp => a.nw p (hs p hp), List.nodup_nil, fun _ h => (nomatch h), (fun p hp => by rw [hR] at hp; cases hp), a.hid, fun p hp => a.hof p (hs p hp)⟩, (h (S.app σ.own fun y hy q hq => a.off y hy q (by rw [hl]; exact hq))).s⟩
theorem z_callH (n : Nat) {H : Heap → Prop} {f dd : Nat} {args : List Value} {cl : List (Addr × Obj)} {post : Value → List (Addr × Obj) → Prop} (D : DoesH H w f dd args cl post) (hH : H G.g) (hd : dd ≤ d) (hR : G.R = []) (hGH : G.H = []) (ho : (zgo lawNames w.params n z).σ.own = []) (hl : (zgo lawNames w.params n z).σ.led = cl) (hv : clOf (zgo lawNames w.params n z) = some (f, args))
  (h : ∀ r l, post r l → ∀ tk sz, let c' := zres (zgo lawNames w.params n z) r [] l tk sz; ZT G c') : ZT G z := by
 refine ZT.go n ?_
 generalize zgo lawNames w.params n z = c1 at *
 obtain ⟨σ, k, md⟩ := c1
 obtain ⟨f', vs, rfl, e0⟩ := onPc_ok hv none_ne
 obtain ⟨f1, rfl, e⟩ := onRef_ok e0 none_ne
 obtain ⟨e1, e2⟩ := Prod.mk.inj (Option.some.inj e)
 subst e1
 subst e2
 have hl : σ.led = cl := hl
 intro s a
 refine D.use hH G.hr hd a.fr (fun p hp => a.nw p (List.mem_append_right _ (hl ▸ hp))) G.X G.T fun h' tk' r l hp F' N' => ?_
 exact ⟨⟨σ.m, [], l, tk', h'.objs.size⟩, a.heapT rfl rfl F' (fun p hp => N' p hp) List.nodup_nil (fun _ h => (nomatch h)) (fun p hp => by rw [hR] at hp; cases hp) (fun p hp => by rw [hGH] at hp; cases hp) (fun p _ q hq => by rw [hGH] at hq; cases hq), (h r l hp tk' h'.objs.size).s⟩
end
section
variable {w : World} {A : Around} {s : Shared} {h₀ : Heap} {L : Addr} {m mg mb : Str → Option Value} {mean : ExcName → Option Value} {Q : Flow → Shared → Prop} {oC : Obj} {l : Addr} {vs : List Value} {ns : List Int}
theorem law_body (F : Fr h₀ L s.heap m) (N : News h₀ L s.heap [(L + 1, oC)]) (X : (K w.params).In h₀) (T : TopAt mean mg mb h₀) (hr : Room A 15) (hd : oC.data = .cell none) (v0 : m "script" = some (.ref l)) (hl : h₀.IsList l vs.toArray) (hI : IntsAre vs ns) (hn : ns.length ≤ 63) (hlay : (PyData.list (ns.map PyData.int)).layable0 = true)
  (hEnd : ∀ h' tk m', Fr h₀ L h' m' → Q (.ret (.bool true)) { s with heap := h', toks := tk }) :
  wpAny (model pw w) A (execs lawB (lawEnv L)) Q (fun _ _ => False) s := by
 refine z_law [("script", .ref l)] F N X T hr (List.forall_mem_cons.mpr ⟨v0, fun _ h => nomatch h⟩) hEnd ?_
 intro G hR hcl hP hH hg tk sz z
 refine z_callH 99 (DoesH.frame (led := []) (own := [(L + 1, oC)]) (fun _ h => nomatch h) (law_row_S hI hn hlay)) (hg ▸ hl) (by decide) hR hH ∅ ∅ ∅ ?_
 rintro _ _ ⟨l', rfl, hoff, R, us, n, rfl, rfl, ok⟩ tk1 sz1 z
 have cR : R ≠ L + 1 := hoff _ (.head _) _ (.head _)
 refine z_call 99 (fun _ => Does.frame (led := []) (own := [(R, PySem.W.listOf us.toArray n), (L + 1, oC)]) (fun _ h => nomatch h) (symbols_make (w := w))) (by decide) ∅ ∅ ?_
 rintro _ _ ⟨l', rfl, hoff2, x, rfl, a, bS, rS, rfl, rfl, SY⟩ tk2 sz2
 refine ⟨(fun p hp => by rw [hR] at hp; cases hp), ?_⟩; intro z
 refine z_call 99 (fun _ => Does.frame (led := []) (own := (bS ++ rS) ++ [(R, PySem.W.listOf us.toArray n), (L + 1, oC)]) (fun _ h => nomatch h) (optable_make (w := w) (nA := a.nA))) (by decide) ∅ ∅ ?_
 rintro _ _ ⟨l', rfl, hoff3, x, rfl, p, bO, rO, ⟨rfl, hpn⟩, rfl, OP⟩ tk3 sz3
 refine ⟨(fun p hp => by rw [hR] at hp; cases hp), ?_⟩; intro z
 have S := seed_new SY OP hoff3 hoff2 cR
 refine z_side 99 (own := []) (own' := []) (led := (bO ++ rO) ++ ((bS ++ rS) ++ [(R, PySem.W.listOf us.toArray n), (L + 1, oC)])) (led' := (L + 1, oC) :: (R, PySem.W.listOf us.toArray n) :: (bS ++ (bO ++ (rO ++ rS)))) ∅ ∅ ∅ top_perm (fun _ _ => ⟨List.nodup_nil, fun _ h => nomatch h⟩) (fun p hp => by rw [hR] at hp; cases hp) ?_; intro z
 refine z_next 0 (n0 := n) 2 ok (S.nR (oC := oC)) hR (by decide) (by decide) (by decide) ∅ ∅ ?_; intro k4 t4 vs4 n4 h40 h41 ok4 tk4 sz4 z
 refine z_seed 73 (oC := oC) (oR := PySem.W.listOf vs4.toArray n4) S hR ∅ ∅ ?_; intro E S5 z
 obtain ⟨⟨wv, nW⟩, W1, W2⟩ := strsO_ok (own := E) (j := 0) (xs := wordsL) ∅
 obtain ⟨⟨kv, nK⟩, K1, K2⟩ := strsO_ok (own := E) (j := 1) (xs := kindsL) ∅
 have hb : Base symStart.1 symStart.2 := ⟨List.prefix_refl _, List.prefix_refl _⟩
 exact z_joinN 0 (lawN a.nA p.pA R (adr E 0) (adr E 1) (k4 == 0)) (law_loop hR hH hcl hP hd W1 K1 (.mk (n := n4) ok4 ⟨S5, hb, tabG_start hb, List.mem_append_left _ W2, List.mem_append_left _ K2⟩ start_len.1 (Nat.le_refl _))) ∅ ∅ ∅ ∅ ∅
end
section
variable {w : World} {s₁ : Shared} {mg mb : Str → Option Value} {mean : ExcName → Option Value} {l : Addr} {vs : List Value} {ns : List Int}
theorem law_run (X : (K w.params).In s₁.heap) (T : TopAt mean mg mb s₁.heap) (hl : s₁.heap.IsList l vs.toArray) (hI : IntsAre vs ns) (hn : ns.length ≤ 63) (hlay : (PyData.list (ns.map PyData.int)).layable0 = true) :
  codeAny (model pw w) callerA (.call (.ref 524) ⟨[.ref l], []⟩) (fun r s' => match r with | .ok (.ret v) => LawEnd s₁ v s' | .ok _ => False | .error e => False) s₁ := by
 have ho : (K w.params).lookup 524 = some ⟨(obAt w.params 524).cls, (obAt w.params 524).dict, .func (fnOf (fdAt w.params 524).name "law" (fdAt w.params 524).params lawB ⟨.function, lawNames, false, false, lawMore⟩ (fdAt w.params 524).defaults (fdAt w.params 524).kwdefaults (fdAt w.params 524).doc (fdAt w.params 524).pyModule (fdAt w.params 524).annotations (.ref 523) (fdAt w.params 524).closureTuple), (obAt w.params 524).slots⟩ := by kernel_rfl
 have hcd : codeIn (K w.params) (.ref 523) "law" = true := by kernel_rfl
 have hb : bindArgs (fnOf (fdAt w.params 524).name "law" (fdAt w.params 524).params lawB ⟨.function, lawNames, false, false, lawMore⟩ (fdAt w.params 524).defaults (fdAt w.params 524).kwdefaults (fdAt w.params 524).doc (fdAt w.params 524).pyModule (fdAt w.params 524).annotations (.ref 523) (fdAt w.params 524).closureTuple) ⟨[.ref l], []⟩ = Sem.pure ([("script", .ref l)] : List (Str × Value)) := by kernel_rfl
 have hnd : ((cellsFrom 0 lawNames []).map (·.1)).Nodup := by decide
 have hl0 : ∀ y ∈ ([("script", .ref l)] : List (Str × Value)), lawNames.lookup y.1 = some .local := locs1 rfl
 refine enter_law X T ho rfl rfl hcd room_law hb hl0 hnd ?_
 intro L h₁ tk cells F N Y hr
 have Y' : CellsAre _ [("scribe", L + 1)] cells := Y
 obtain ⟨oC, rfl, hd⟩ := Y'.one
 exact law_body (m := _) F N X T (hr.le (by decide)) hd rfl hl hI hn hlay fun h' tk' m' F' => ⟨h', tk', L, m', rfl, F', rfl⟩
end
end
section
set_option tactic.hygienic false
theorem core : Core := by
 intro w s₁ mg mb mean l vs ns X T hg hl hI hn hlay
 refine wpAny_mono (wpAny_call (law_run X T hl hI hn hlay)) (fun v s' h => ?_) fun _ _ h => h.elim
 obtain ⟨h', tk, L', m', rfl, F, rfl⟩ := h
 exact ⟨rfl, F.keep, rfl, hg⟩
end
end
end Mine
theorem PySem.Challenge.cw_rh0099_01_holds : PySem.Challenge.rw_rh0099_01.Holds :=
 Mine.hold Mine.core
