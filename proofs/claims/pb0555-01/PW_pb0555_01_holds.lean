import PyProof.Rows.All
import Wide.All
import OpenK.AllK
import Wide.FinOn
import PySem.Challenge.RW_pb0555_01
open PySem PySem.W PySem.Spec PySem.Calls PyProof.Rows
set_option Elab.async false
set_option linter.unusedVariables false
set_option linter.unusedSimpArgs false
set_option maxRecDepth 100000
set_option maxHeartbeats 8000000
namespace Mine
-- part HeadC
noncomputable section
noncomputable abbrev pw : Program := PySem.Challenge.pw_pb0555_01
noncomputable def de (P : Params) (x : Str) (t : Tok) (v : Value) : DictEntry := ⟨PyData.keyHash P x, .str x t, v⟩
noncomputable def fdef (i : Nat) : Stmt := match pw.main.body[i]? with
  | some s => s
  | none => .Pass ⟨0, 0, 0, 0⟩
noncomputable def mdef (i j : Nat) : Stmt := match fdef i with
  | .ClassDef _ _ _ b _ _ _ _ _ _ _ => (match b[j]? with
    | some s => s
    | none => .Pass ⟨0, 0, 0, 0⟩)
  | s => s
noncomputable def prm : Stmt → Arguments
  | .FunctionDef _ a _ _ _ _ _ _ _ _ => a
  | _ => ⟨[], [], none, [], [], none, []⟩
noncomputable def bdy : Stmt → List Stmt
  | .FunctionDef _ _ b _ _ _ _ _ _ _ => b
  | _ => []
noncomputable def scp : Stmt → Scope
  | .FunctionDef _ _ _ _ _ _ s _ _ _ => s
  | _ => { kind := .function, names := [], isGenerator := false, isCoroutine := false, more := [] }
noncomputable def fdat (s : Stmt) (nm qn : Str) (gl : Addr) (clo : List (Str × Addr)) (dV kV doc pm : Value) (an : Option Addr) (cd ct : Value) (bl : Addr) : Data :=
  .func { name := nm, qualname := qn, params := prm s, body := .stmts (bdy s), scope := scp s, globals := gl, closure := clo, defaults := dV, kwdefaults := kV, doc := doc, pyModule := pm, annotations := an, code := cd, closureTuple := ct, builtins := bl }
noncomputable def mkT (l : List Obj) : BT := (l.foldl (fun (x : BT × Nat) o => (x.1.ins x.2 o, x.2 + 1)) (.nil, 0)).1
noncomputable def o11S0 (P : Params) : Obj := { cls := (.type "tuple"), dict := none, data := (.seq #[] 0), slots := #[] }
noncomputable def o12S0 (P : Params) : Obj := { cls := .none, dict := none, data := (.fields #[]), slots := #[] }
noncomputable def o13S0 (P : Params) : Obj := { cls := (.type "code"), dict := none, data := (.fields #[(.str "<module>" 182), (.str "<module>" 183), (.str "/claim/cut.py" 184), (.int 1 0), (.int 0 0), (.int 0 0), (.int 0 0), (.int 0 0), (.ref 11), (.bool false), (.int 181 0), (.ref 12), .none, .none, .none, .none, (.int 185 0), (.int 1 0), (.str "/claim/cut.py" 186)]), slots := #[] }
noncomputable def o14S0 (P : Params) : Obj := { cls := (.type "frame"), dict := none, data := .plain, slots := #[(some (.ref 13)), (some (.ref 3)), (some (.ref 3)), none, (some (.str "__main__" 164)), none, (some (.ref 0))] }
noncomputable def l0S0 (P : Params) : List Obj := [(boot_o_0 P), (boot_o_1 P), (boot_o_2 P), (boot_o_3 P), (boot_o_4 P), (boot_o_5 P), (boot_o_6 P), (boot_o_7 P)]
noncomputable def l1S0 (P : Params) : List Obj := [(boot_o_8 P), (boot_o_9 P), (boot_o_10 P), (o11S0 P), (o12S0 P), (o13S0 P), (o14S0 P)]
noncomputable def g0S0 (P : Params) : List Obj := l0S0 P ++ l1S0 P
noncomputable def lS0 (P : Params) : List Obj := g0S0 P
noncomputable def toksS0 : Nat := 187
noncomputable def o2S1 (P : Params) : Obj := { cls := .none, dict := none, data := (.dict #[de P "type.__subclasses__.Exception.0" 214 (.int 31 0), de P "type.__subclasses__.Exception.n" 215 (.int 1 0)] 2), slots := #[] }
noncomputable def o3S1 (P : Params) : Obj := { cls := (.type "dict"), dict := none, data := (.dict #[de P "__name__" 165 (.str "switchloom.crc" 250), de P "__doc__" 166 .none, de P "__package__" 167 .none, de P "__loader__" 168 (.builtin "__main__.__loader__#opaque"), de P "__spec__" 169 .none, de P "__annotations__" 170 (.ref 6), de P "__builtins__" 171 (.ref 4), de P "__file__" 173 (.str "/claim/cut.py" 172), de P "__cached__" 174 .none, de P "SwitchError" 217 (.ref 31), de P "FormError" 233 (.ref 44), de P "SizeError" 249 (.ref 56), de P "TURNED_POLYNOMIAL" 253 (.int 3988292384 252), de P "ALL_ONES" 255 (.int 4294967295 254), de P "divided_word" 263 (.ref 65)] 15), slots := #[] }
noncomputable def o12S1 (P : Params) : Obj := { cls := .none, dict := none, data := (.fields #[(.int 2 0), (.int 0 0), (.ref 20), (.int 7 0), (.int 0 0), (.ref 40), (.int 9 0), (.int 0 0), (.ref 52), (.int 14 0), (.int 0 0), (.ref 64)]), slots := #[] }
noncomputable def o15S1 (P : Params) : Obj := { cls := (.type "tuple"), dict := none, data := (.seq #[(.type "Exception")] 0), slots := #[] }
noncomputable def o16S1 (P : Params) : Obj := { cls := (.type "builtin_function_or_method"), dict := none, data := (.fields #[(.builtin "type.__prepare__"), (.type "type")]), slots := #[] }
noncomputable def o17S1 (P : Params) : Obj := { cls := (.type "dict"), dict := none, data := (.dict #[de P "__module__" 196 (.str "switchloom.errors" 187), de P "__qualname__" 198 (.str "SwitchError" 197), de P "__firstlineno__" 200 (.int 2 199), de P "__init__" 208 (.ref 28), de P "__static_attributes__" 210 (.ref 29)] 5), slots := #[] }
noncomputable def o18S1 (P : Params) : Obj := { cls := (.type "tuple"), dict := none, data := (.seq #[] 0), slots := #[] }
noncomputable def o19S1 (P : Params) : Obj := { cls := .none, dict := none, data := (.fields #[(.int 4 0), (.int 4 0), (.ref 27)]), slots := #[] }
noncomputable def o20S1 (P : Params) : Obj := { cls := (.type "code"), dict := none, data := (.fields #[(.str "SwitchError" 191), (.str "SwitchError" 192), (.str "/claim/cut.py" 193), (.int 2 0), (.int 0 0), (.int 0 0), (.int 0 0), (.int 0 0), (.ref 18), (.bool false), (.int 181 0), (.ref 19), .none, .none, .none, .none, (.int 194 0), (.int 2 0), (.str "/claim/cut.py" 195)]), slots := #[] }
noncomputable def o21S1 (P : Params) : Obj := { cls := (.type "frame"), dict := none, data := .plain, slots := #[(some (.ref 20)), (some (.ref 3)), (some (.ref 17)), none, (some (.str "switchloom.errors" 187)), none, (some (.ref 0))] }
noncomputable def o22S1 (P : Params) : Obj := { cls := (.type "tuple"), dict := none, data := (.seq #[] 0), slots := #[] }
noncomputable def o23S1 (P : Params) : Obj := { cls := .none, dict := none, data := (.fields #[]), slots := #[] }
noncomputable def o24S1 (P : Params) : Obj := { cls := (.type "tuple"), dict := none, data := (.seq #[(.str "self" 204), (.str "message" 205)] 0), slots := #[] }
noncomputable def o25S1 (P : Params) : Obj := { cls := (.type "tuple"), dict := none, data := (.seq #[] 0), slots := #[] }
noncomputable def o26S1 (P : Params) : Obj := { cls := .none, dict := none, data := (fdat (mdef 1 0) "__init__" "SwitchError.__init__" 0 [] .none .none .none .none none .none .none 0), slots := #[] }
noncomputable def o27S1 (P : Params) : Obj := { cls := (.type "code"), dict := none, data := (.fields #[(.str "__init__" 201), (.str "SwitchError.__init__" 202), (.str "/claim/cut.py" 203), (.int 4 0), (.int 2 0), (.int 0 0), (.int 0 0), (.int 3 0), (.ref 22), (.bool true), (.int 181 0), (.ref 23), .none, (.ref 24), (.ref 25), (.ref 26), (.int 206 0), (.int 4 0), (.str "/claim/cut.py" 207)]), slots := #[] }
noncomputable def o28S1 (P : Params) : Obj := { cls := (.type "function"), dict := none, data := (fdat (mdef 1 0) "__init__" "SwitchError.__init__" 3 [] .none .none .none (.str "switchloom.errors" 187) none (.ref 27) .none 0), slots := #[] }
noncomputable def o29S1 (P : Params) : Obj := { cls := (.type "tuple"), dict := none, data := (.seq #[(.str "message" 209)] 0), slots := #[] }
noncomputable def o30S1 (P : Params) : Obj := { cls := (.type "dict"), dict := none, data := (.dict #[de P "__module__" 196 (.str "switchloom.errors" 187), de P "__firstlineno__" 200 (.int 2 199), de P "__init__" 208 (.ref 28), de P "__static_attributes__" 210 (.ref 29), de P "__weakref__" 212 (.ref 32), de P "__doc__" 213 .none] 3), slots := #[] }
noncomputable def o31S1 (P : Params) : Obj := { cls := (.type "type"), dict := none, data := (.cls { name := "SwitchError", bases := [(.type "Exception")], mro := [(.ref 31), (.type "Exception"), (.type "BaseException"), (.type "object")], ns := 30, qualname := "SwitchError", hasDict := true, slotNames := [], subclasses := [(.ref 44), (.ref 56)], abstract := false, collection := none, hasDel := false }), slots := #[(some (.ref 15)), none, (some (.str "SwitchError" 189)), (some (.str "SwitchError" 197)), (some (.builtin "Exception.__new__")), (some (.bool true))] }
noncomputable def o32S1 (P : Params) : Obj := { cls := (.type "getset_descriptor"), dict := none, data := (.fields #[(.str "__weakref__" 211), (.ref 31), (.builtin "ExceptionGroup.__weakref__"), .none]), slots := #[] }
noncomputable def o33S1 (P : Params) : Obj := { cls := (.type "super"), dict := none, data := (.fields #[(.ref 31), (.ref 31), (.ref 31)]), slots := #[] }
noncomputable def o34S1 (P : Params) : Obj := { cls := (.type "builtin_function_or_method"), dict := none, data := (.fields #[(.builtin "object.__init_subclass__"), (.ref 31)]), slots := #[] }
noncomputable def o35S1 (P : Params) : Obj := { cls := (.type "tuple"), dict := none, data := (.seq #[(.ref 31)] 0), slots := #[] }
noncomputable def o36S1 (P : Params) : Obj := { cls := (.type "builtin_function_or_method"), dict := none, data := (.fields #[(.builtin "type.__prepare__"), (.type "type")]), slots := #[] }
noncomputable def o37S1 (P : Params) : Obj := { cls := (.type "dict"), dict := none, data := (.dict #[de P "__module__" 225 (.str "switchloom.errors" 187), de P "__qualname__" 227 (.str "FormError" 226), de P "__firstlineno__" 229 (.int 7 228), de P "__static_attributes__" 230 (.ref 42)] 4), slots := #[] }
noncomputable def o38S1 (P : Params) : Obj := { cls := (.type "tuple"), dict := none, data := (.seq #[] 0), slots := #[] }
noncomputable def o39S1 (P : Params) : Obj := { cls := .none, dict := none, data := (.fields #[]), slots := #[] }
noncomputable def o40S1 (P : Params) : Obj := { cls := (.type "code"), dict := none, data := (.fields #[(.str "FormError" 220), (.str "FormError" 221), (.str "/claim/cut.py" 222), (.int 7 0), (.int 0 0), (.int 0 0), (.int 0 0), (.int 0 0), (.ref 38), (.bool false), (.int 181 0), (.ref 39), .none, .none, .none, .none, (.int 223 0), (.int 7 0), (.str "/claim/cut.py" 224)]), slots := #[] }
noncomputable def o41S1 (P : Params) : Obj := { cls := (.type "frame"), dict := none, data := .plain, slots := #[(some (.ref 40)), (some (.ref 3)), (some (.ref 37)), none, (some (.str "switchloom.errors" 187)), none, (some (.ref 0))] }
noncomputable def o42S1 (P : Params) : Obj := { cls := (.type "tuple"), dict := none, data := (.seq #[] 0), slots := #[] }
noncomputable def o43S1 (P : Params) : Obj := { cls := (.type "dict"), dict := none, data := (.dict #[de P "__module__" 225 (.str "switchloom.errors" 187), de P "__firstlineno__" 229 (.int 7 228), de P "__static_attributes__" 230 (.ref 42), de P "__doc__" 231 .none] 2), slots := #[] }
noncomputable def o44S1 (P : Params) : Obj := { cls := (.type "type"), dict := none, data := (.cls { name := "FormError", bases := [(.ref 31)], mro := [(.ref 44), (.ref 31), (.type "Exception"), (.type "BaseException"), (.type "object")], ns := 43, qualname := "FormError", hasDict := true, slotNames := [], subclasses := [], abstract := false, collection := none, hasDel := false }), slots := #[(some (.ref 35)), none, (some (.str "FormError" 218)), (some (.str "FormError" 226)), (some (.builtin "Exception.__new__")), (some (.bool true))] }
noncomputable def o45S1 (P : Params) : Obj := { cls := (.type "super"), dict := none, data := (.fields #[(.ref 44), (.ref 44), (.ref 44)]), slots := #[] }
noncomputable def o46S1 (P : Params) : Obj := { cls := (.type "builtin_function_or_method"), dict := none, data := (.fields #[(.builtin "object.__init_subclass__"), (.ref 44)]), slots := #[] }
noncomputable def o47S1 (P : Params) : Obj := { cls := (.type "tuple"), dict := none, data := (.seq #[(.ref 31)] 0), slots := #[] }
noncomputable def o48S1 (P : Params) : Obj := { cls := (.type "builtin_function_or_method"), dict := none, data := (.fields #[(.builtin "type.__prepare__"), (.type "type")]), slots := #[] }
noncomputable def o49S1 (P : Params) : Obj := { cls := (.type "dict"), dict := none, data := (.dict #[de P "__module__" 241 (.str "switchloom.errors" 187), de P "__qualname__" 243 (.str "SizeError" 242), de P "__firstlineno__" 245 (.int 9 244), de P "__static_attributes__" 246 (.ref 54)] 4), slots := #[] }
noncomputable def o50S1 (P : Params) : Obj := { cls := (.type "tuple"), dict := none, data := (.seq #[] 0), slots := #[] }
noncomputable def o51S1 (P : Params) : Obj := { cls := .none, dict := none, data := (.fields #[]), slots := #[] }
noncomputable def o52S1 (P : Params) : Obj := { cls := (.type "code"), dict := none, data := (.fields #[(.str "SizeError" 236), (.str "SizeError" 237), (.str "/claim/cut.py" 238), (.int 9 0), (.int 0 0), (.int 0 0), (.int 0 0), (.int 0 0), (.ref 50), (.bool false), (.int 181 0), (.ref 51), .none, .none, .none, .none, (.int 239 0), (.int 9 0), (.str "/claim/cut.py" 240)]), slots := #[] }
noncomputable def o53S1 (P : Params) : Obj := { cls := (.type "frame"), dict := none, data := .plain, slots := #[(some (.ref 52)), (some (.ref 3)), (some (.ref 49)), none, (some (.str "switchloom.errors" 187)), none, (some (.ref 0))] }
noncomputable def o54S1 (P : Params) : Obj := { cls := (.type "tuple"), dict := none, data := (.seq #[] 0), slots := #[] }
noncomputable def o55S1 (P : Params) : Obj := { cls := (.type "dict"), dict := none, data := (.dict #[de P "__module__" 241 (.str "switchloom.errors" 187), de P "__firstlineno__" 245 (.int 9 244), de P "__static_attributes__" 246 (.ref 54), de P "__doc__" 247 .none] 2), slots := #[] }
noncomputable def o56S1 (P : Params) : Obj := { cls := (.type "type"), dict := none, data := (.cls { name := "SizeError", bases := [(.ref 31)], mro := [(.ref 56), (.ref 31), (.type "Exception"), (.type "BaseException"), (.type "object")], ns := 55, qualname := "SizeError", hasDict := true, slotNames := [], subclasses := [], abstract := false, collection := none, hasDel := false }), slots := #[(some (.ref 47)), none, (some (.str "SizeError" 234)), (some (.str "SizeError" 242)), (some (.builtin "Exception.__new__")), (some (.bool true))] }
noncomputable def o57S1 (P : Params) : Obj := { cls := (.type "super"), dict := none, data := (.fields #[(.ref 56), (.ref 56), (.ref 56)]), slots := #[] }
noncomputable def o58S1 (P : Params) : Obj := { cls := (.type "builtin_function_or_method"), dict := none, data := (.fields #[(.builtin "object.__init_subclass__"), (.ref 56)]), slots := #[] }
noncomputable def o59S1 (P : Params) : Obj := { cls := (.type "tuple"), dict := none, data := (.seq #[] 0), slots := #[] }
noncomputable def o60S1 (P : Params) : Obj := { cls := .none, dict := none, data := (.fields #[]), slots := #[] }
noncomputable def o61S1 (P : Params) : Obj := { cls := (.type "tuple"), dict := none, data := (.seq #[(.str "word" 259), (.str "turn" 260)] 0), slots := #[] }
noncomputable def o62S1 (P : Params) : Obj := { cls := (.type "tuple"), dict := none, data := (.seq #[] 0), slots := #[] }
noncomputable def o63S1 (P : Params) : Obj := { cls := .none, dict := none, data := (fdat (fdef 7) "divided_word" "divided_word" 0 [] .none .none .none .none none .none .none 0), slots := #[] }
noncomputable def o64S1 (P : Params) : Obj := { cls := (.type "code"), dict := none, data := (.fields #[(.str "divided_word" 256), (.str "divided_word" 257), (.str "/claim/cut.py" 258), (.int 14 0), (.int 1 0), (.int 0 0), (.int 0 0), (.int 3 0), (.ref 59), (.bool true), (.int 181 0), (.ref 60), .none, (.ref 61), (.ref 62), (.ref 63), (.int 261 0), (.int 14 0), (.str "/claim/cut.py" 262)]), slots := #[] }
noncomputable def o65S1 (P : Params) : Obj := { cls := (.type "function"), dict := none, data := (fdat (fdef 7) "divided_word" "divided_word" 3 [] .none .none .none (.str "switchloom.crc" 250) none (.ref 64) .none 0), slots := #[] }
noncomputable def toksS1 : Nat := 264
noncomputable def o3SB (P : Params) : Obj := { cls := (.type "dict"), dict := none, data := (.dict #[de P "__name__" 165 (.str "switchloom.crc" 250), de P "__doc__" 166 .none, de P "__package__" 167 .none, de P "__loader__" 168 (.builtin "__main__.__loader__#opaque"), de P "__spec__" 169 .none, de P "__annotations__" 170 (.ref 6), de P "__builtins__" 171 (.ref 4), de P "__file__" 173 (.str "/claim/cut.py" 172), de P "__cached__" 174 .none, de P "SwitchError" 217 (.ref 31), de P "FormError" 233 (.ref 44), de P "SizeError" 249 (.ref 56), de P "TURNED_POLYNOMIAL" 253 (.int 3988292384 252), de P "ALL_ONES" 255 (.int 4294967295 254), de P "divided_word" 263 (.ref 65), de P "HALF_TABLE" 907 (.ref 153)] 16), slots := #[] }
noncomputable def o66SB (P : Params) : Obj := { cls := (.type "range"), dict := none, data := (.fields #[(.int 0 265), (.int 16 264), (.int 1 266)]), slots := #[] }
noncomputable def o67SB (P : Params) : Obj := { cls := (.type "range_iterator"), dict := none, data := (.fields #[(.int 16 0), (.int 0 0), (.int 1 0)]), slots := #[] }
noncomputable def o68SB (P : Params) : Obj := { cls := (.type "list"), dict := none, data := (.seq #[(.int 0 303), (.int 498536548 342), (.int 997073096 381), (.int 651767980 421), (.int 1994146192 460), (.int 1802195444 500), (.int 1303535960 540), (.int 1342533948 581), (.int 3988292384 620), (.int 4027552580 660), (.int 3604390888 700), (.int 3412177804 741), (.int 2607071920 781), (.int 2262029012 822), (.int 2685067896 863), (.int 3183342108 905)] 16), slots := #[] }
noncomputable def o69SB (P : Params) : Obj := { cls := (.type "dict"), dict := none, data := (.dict #[] 2), slots := #[] }
noncomputable def o70SB (P : Params) : Obj := { cls := (.type "frame"), dict := none, data := (.dict #[de P "word" 269 (.int 0 303), de P "turn" 274 (.int 3 297)] 2), slots := #[] }
noncomputable def o71SB (P : Params) : Obj := { cls := (.type "range"), dict := none, data := (.fields #[(.int 0 271), (.int 4 270), (.int 1 272)]), slots := #[] }
noncomputable def o72SB (P : Params) : Obj := { cls := (.type "range_iterator"), dict := none, data := (.fields #[(.int 4 0), (.int 0 0), (.int 1 0)]), slots := #[] }
noncomputable def o73SB (P : Params) : Obj := { cls := (.type "tuple"), dict := none, data := (.seq #[] 0), slots := #[] }
noncomputable def o74SB (P : Params) : Obj := { cls := (.type "StopIteration"), dict := none, data := (.fields #[(.ref 73), .none, .none, .none, (.bool false), .none]), slots := #[] }
noncomputable def o75SB (P : Params) : Obj := { cls := (.type "frame"), dict := none, data := (.dict #[de P "word" 307 (.int 498536548 342), de P "turn" 312 (.int 3 336)] 2), slots := #[] }
noncomputable def o76SB (P : Params) : Obj := { cls := (.type "range"), dict := none, data := (.fields #[(.int 0 309), (.int 4 308), (.int 1 310)]), slots := #[] }
noncomputable def o77SB (P : Params) : Obj := { cls := (.type "range_iterator"), dict := none, data := (.fields #[(.int 4 0), (.int 0 0), (.int 1 0)]), slots := #[] }
noncomputable def o78SB (P : Params) : Obj := { cls := (.type "tuple"), dict := none, data := (.seq #[] 0), slots := #[] }
noncomputable def o79SB (P : Params) : Obj := { cls := (.type "StopIteration"), dict := none, data := (.fields #[(.ref 78), .none, .none, .none, (.bool false), .none]), slots := #[] }
noncomputable def o80SB (P : Params) : Obj := { cls := (.type "frame"), dict := none, data := (.dict #[de P "word" 346 (.int 997073096 381), de P "turn" 351 (.int 3 375)] 2), slots := #[] }
noncomputable def o81SB (P : Params) : Obj := { cls := (.type "range"), dict := none, data := (.fields #[(.int 0 348), (.int 4 347), (.int 1 349)]), slots := #[] }
noncomputable def o82SB (P : Params) : Obj := { cls := (.type "range_iterator"), dict := none, data := (.fields #[(.int 4 0), (.int 0 0), (.int 1 0)]), slots := #[] }
noncomputable def o83SB (P : Params) : Obj := { cls := (.type "tuple"), dict := none, data := (.seq #[] 0), slots := #[] }
noncomputable def o84SB (P : Params) : Obj := { cls := (.type "StopIteration"), dict := none, data := (.fields #[(.ref 83), .none, .none, .none, (.bool false), .none]), slots := #[] }
noncomputable def o85SB (P : Params) : Obj := { cls := (.type "frame"), dict := none, data := (.dict #[de P "word" 385 (.int 651767980 421), de P "turn" 390 (.int 3 415)] 2), slots := #[] }
noncomputable def o86SB (P : Params) : Obj := { cls := (.type "range"), dict := none, data := (.fields #[(.int 0 387), (.int 4 386), (.int 1 388)]), slots := #[] }
noncomputable def o87SB (P : Params) : Obj := { cls := (.type "range_iterator"), dict := none, data := (.fields #[(.int 4 0), (.int 0 0), (.int 1 0)]), slots := #[] }
noncomputable def o88SB (P : Params) : Obj := { cls := (.type "tuple"), dict := none, data := (.seq #[] 0), slots := #[] }
noncomputable def o89SB (P : Params) : Obj := { cls := (.type "StopIteration"), dict := none, data := (.fields #[(.ref 88), .none, .none, .none, (.bool false), .none]), slots := #[] }
noncomputable def o90SB (P : Params) : Obj := { cls := (.type "frame"), dict := none, data := (.dict #[de P "word" 425 (.int 1994146192 460), de P "turn" 430 (.int 3 454)] 2), slots := #[] }
noncomputable def o91SB (P : Params) : Obj := { cls := (.type "range"), dict := none, data := (.fields #[(.int 0 427), (.int 4 426), (.int 1 428)]), slots := #[] }
noncomputable def o92SB (P : Params) : Obj := { cls := (.type "range_iterator"), dict := none, data := (.fields #[(.int 4 0), (.int 0 0), (.int 1 0)]), slots := #[] }
noncomputable def o93SB (P : Params) : Obj := { cls := (.type "tuple"), dict := none, data := (.seq #[] 0), slots := #[] }
noncomputable def o94SB (P : Params) : Obj := { cls := (.type "StopIteration"), dict := none, data := (.fields #[(.ref 93), .none, .none, .none, (.bool false), .none]), slots := #[] }
noncomputable def o95SB (P : Params) : Obj := { cls := (.type "frame"), dict := none, data := (.dict #[de P "word" 464 (.int 1802195444 500), de P "turn" 469 (.int 3 494)] 2), slots := #[] }
noncomputable def o96SB (P : Params) : Obj := { cls := (.type "range"), dict := none, data := (.fields #[(.int 0 466), (.int 4 465), (.int 1 467)]), slots := #[] }
noncomputable def o97SB (P : Params) : Obj := { cls := (.type "range_iterator"), dict := none, data := (.fields #[(.int 4 0), (.int 0 0), (.int 1 0)]), slots := #[] }
noncomputable def o98SB (P : Params) : Obj := { cls := (.type "tuple"), dict := none, data := (.seq #[] 0), slots := #[] }
noncomputable def o99SB (P : Params) : Obj := { cls := (.type "StopIteration"), dict := none, data := (.fields #[(.ref 98), .none, .none, .none, (.bool false), .none]), slots := #[] }
noncomputable def o100SB (P : Params) : Obj := { cls := (.type "frame"), dict := none, data := (.dict #[de P "word" 504 (.int 1303535960 540), de P "turn" 509 (.int 3 534)] 2), slots := #[] }
noncomputable def o101SB (P : Params) : Obj := { cls := (.type "range"), dict := none, data := (.fields #[(.int 0 506), (.int 4 505), (.int 1 507)]), slots := #[] }
noncomputable def o102SB (P : Params) : Obj := { cls := (.type "range_iterator"), dict := none, data := (.fields #[(.int 4 0), (.int 0 0), (.int 1 0)]), slots := #[] }
noncomputable def o103SB (P : Params) : Obj := { cls := (.type "tuple"), dict := none, data := (.seq #[] 0), slots := #[] }
noncomputable def o104SB (P : Params) : Obj := { cls := (.type "StopIteration"), dict := none, data := (.fields #[(.ref 103), .none, .none, .none, (.bool false), .none]), slots := #[] }
noncomputable def o105SB (P : Params) : Obj := { cls := (.type "frame"), dict := none, data := (.dict #[de P "word" 544 (.int 1342533948 581), de P "turn" 549 (.int 3 575)] 2), slots := #[] }
noncomputable def o106SB (P : Params) : Obj := { cls := (.type "range"), dict := none, data := (.fields #[(.int 0 546), (.int 4 545), (.int 1 547)]), slots := #[] }
noncomputable def o107SB (P : Params) : Obj := { cls := (.type "range_iterator"), dict := none, data := (.fields #[(.int 4 0), (.int 0 0), (.int 1 0)]), slots := #[] }
noncomputable def o108SB (P : Params) : Obj := { cls := (.type "tuple"), dict := none, data := (.seq #[] 0), slots := #[] }
noncomputable def o109SB (P : Params) : Obj := { cls := (.type "StopIteration"), dict := none, data := (.fields #[(.ref 108), .none, .none, .none, (.bool false), .none]), slots := #[] }
noncomputable def o110SB (P : Params) : Obj := { cls := (.type "frame"), dict := none, data := (.dict #[de P "word" 585 (.int 3988292384 620), de P "turn" 590 (.int 3 613)] 2), slots := #[] }
noncomputable def o111SB (P : Params) : Obj := { cls := (.type "range"), dict := none, data := (.fields #[(.int 0 587), (.int 4 586), (.int 1 588)]), slots := #[] }
noncomputable def o112SB (P : Params) : Obj := { cls := (.type "range_iterator"), dict := none, data := (.fields #[(.int 4 0), (.int 0 0), (.int 1 0)]), slots := #[] }
noncomputable def o113SB (P : Params) : Obj := { cls := (.type "tuple"), dict := none, data := (.seq #[] 0), slots := #[] }
noncomputable def o114SB (P : Params) : Obj := { cls := (.type "StopIteration"), dict := none, data := (.fields #[(.ref 113), .none, .none, .none, (.bool false), .none]), slots := #[] }
noncomputable def o115SB (P : Params) : Obj := { cls := (.type "frame"), dict := none, data := (.dict #[de P "word" 624 (.int 4027552580 660), de P "turn" 629 (.int 3 653)] 2), slots := #[] }
noncomputable def o116SB (P : Params) : Obj := { cls := (.type "range"), dict := none, data := (.fields #[(.int 0 626), (.int 4 625), (.int 1 627)]), slots := #[] }
noncomputable def o117SB (P : Params) : Obj := { cls := (.type "range_iterator"), dict := none, data := (.fields #[(.int 4 0), (.int 0 0), (.int 1 0)]), slots := #[] }
noncomputable def o118SB (P : Params) : Obj := { cls := (.type "tuple"), dict := none, data := (.seq #[] 0), slots := #[] }
noncomputable def o119SB (P : Params) : Obj := { cls := (.type "StopIteration"), dict := none, data := (.fields #[(.ref 118), .none, .none, .none, (.bool false), .none]), slots := #[] }
noncomputable def o120SB (P : Params) : Obj := { cls := (.type "frame"), dict := none, data := (.dict #[de P "word" 664 (.int 3604390888 700), de P "turn" 669 (.int 3 693)] 2), slots := #[] }
noncomputable def o121SB (P : Params) : Obj := { cls := (.type "range"), dict := none, data := (.fields #[(.int 0 666), (.int 4 665), (.int 1 667)]), slots := #[] }
noncomputable def o122SB (P : Params) : Obj := { cls := (.type "range_iterator"), dict := none, data := (.fields #[(.int 4 0), (.int 0 0), (.int 1 0)]), slots := #[] }
noncomputable def o123SB (P : Params) : Obj := { cls := (.type "tuple"), dict := none, data := (.seq #[] 0), slots := #[] }
noncomputable def o124SB (P : Params) : Obj := { cls := (.type "StopIteration"), dict := none, data := (.fields #[(.ref 123), .none, .none, .none, (.bool false), .none]), slots := #[] }
noncomputable def o125SB (P : Params) : Obj := { cls := (.type "frame"), dict := none, data := (.dict #[de P "word" 704 (.int 3412177804 741), de P "turn" 709 (.int 3 734)] 2), slots := #[] }
noncomputable def o126SB (P : Params) : Obj := { cls := (.type "range"), dict := none, data := (.fields #[(.int 0 706), (.int 4 705), (.int 1 707)]), slots := #[] }
noncomputable def o127SB (P : Params) : Obj := { cls := (.type "range_iterator"), dict := none, data := (.fields #[(.int 4 0), (.int 0 0), (.int 1 0)]), slots := #[] }
noncomputable def o128SB (P : Params) : Obj := { cls := (.type "tuple"), dict := none, data := (.seq #[] 0), slots := #[] }
noncomputable def o129SB (P : Params) : Obj := { cls := (.type "StopIteration"), dict := none, data := (.fields #[(.ref 128), .none, .none, .none, (.bool false), .none]), slots := #[] }
noncomputable def o130SB (P : Params) : Obj := { cls := (.type "frame"), dict := none, data := (.dict #[de P "word" 745 (.int 2607071920 781), de P "turn" 750 (.int 3 774)] 2), slots := #[] }
noncomputable def o131SB (P : Params) : Obj := { cls := (.type "range"), dict := none, data := (.fields #[(.int 0 747), (.int 4 746), (.int 1 748)]), slots := #[] }
noncomputable def o132SB (P : Params) : Obj := { cls := (.type "range_iterator"), dict := none, data := (.fields #[(.int 4 0), (.int 0 0), (.int 1 0)]), slots := #[] }
noncomputable def o133SB (P : Params) : Obj := { cls := (.type "tuple"), dict := none, data := (.seq #[] 0), slots := #[] }
noncomputable def o134SB (P : Params) : Obj := { cls := (.type "StopIteration"), dict := none, data := (.fields #[(.ref 133), .none, .none, .none, (.bool false), .none]), slots := #[] }
noncomputable def o135SB (P : Params) : Obj := { cls := (.type "frame"), dict := none, data := (.dict #[de P "word" 785 (.int 2262029012 822), de P "turn" 790 (.int 3 815)] 2), slots := #[] }
noncomputable def o136SB (P : Params) : Obj := { cls := (.type "range"), dict := none, data := (.fields #[(.int 0 787), (.int 4 786), (.int 1 788)]), slots := #[] }
noncomputable def o137SB (P : Params) : Obj := { cls := (.type "range_iterator"), dict := none, data := (.fields #[(.int 4 0), (.int 0 0), (.int 1 0)]), slots := #[] }
noncomputable def o138SB (P : Params) : Obj := { cls := (.type "tuple"), dict := none, data := (.seq #[] 0), slots := #[] }
noncomputable def o139SB (P : Params) : Obj := { cls := (.type "StopIteration"), dict := none, data := (.fields #[(.ref 138), .none, .none, .none, (.bool false), .none]), slots := #[] }
noncomputable def o140SB (P : Params) : Obj := { cls := (.type "frame"), dict := none, data := (.dict #[de P "word" 826 (.int 2685067896 863), de P "turn" 831 (.int 3 856)] 2), slots := #[] }
noncomputable def o141SB (P : Params) : Obj := { cls := (.type "range"), dict := none, data := (.fields #[(.int 0 828), (.int 4 827), (.int 1 829)]), slots := #[] }
noncomputable def o142SB (P : Params) : Obj := { cls := (.type "range_iterator"), dict := none, data := (.fields #[(.int 4 0), (.int 0 0), (.int 1 0)]), slots := #[] }
noncomputable def o143SB (P : Params) : Obj := { cls := (.type "tuple"), dict := none, data := (.seq #[] 0), slots := #[] }
noncomputable def o144SB (P : Params) : Obj := { cls := (.type "StopIteration"), dict := none, data := (.fields #[(.ref 143), .none, .none, .none, (.bool false), .none]), slots := #[] }
noncomputable def o145SB (P : Params) : Obj := { cls := (.type "frame"), dict := none, data := (.dict #[de P "word" 867 (.int 3183342108 905), de P "turn" 872 (.int 3 898)] 2), slots := #[] }
noncomputable def o146SB (P : Params) : Obj := { cls := (.type "range"), dict := none, data := (.fields #[(.int 0 869), (.int 4 868), (.int 1 870)]), slots := #[] }
noncomputable def o147SB (P : Params) : Obj := { cls := (.type "range_iterator"), dict := none, data := (.fields #[(.int 4 0), (.int 0 0), (.int 1 0)]), slots := #[] }
noncomputable def o148SB (P : Params) : Obj := { cls := (.type "tuple"), dict := none, data := (.seq #[] 0), slots := #[] }
noncomputable def o149SB (P : Params) : Obj := { cls := (.type "StopIteration"), dict := none, data := (.fields #[(.ref 148), .none, .none, .none, (.bool false), .none]), slots := #[] }
noncomputable def o150SB (P : Params) : Obj := { cls := (.type "tuple"), dict := none, data := (.seq #[] 0), slots := #[] }
noncomputable def o151SB (P : Params) : Obj := { cls := (.type "StopIteration"), dict := none, data := (.fields #[(.ref 150), .none, .none, .none, (.bool false), .none]), slots := #[] }
noncomputable def o152SB (P : Params) : Obj := { cls := (.type "list"), dict := none, data := (.seq #[(.int 0 303), (.int 498536548 342), (.int 997073096 381), (.int 651767980 421), (.int 1994146192 460), (.int 1802195444 500), (.int 1303535960 540), (.int 1342533948 581), (.int 3988292384 620), (.int 4027552580 660), (.int 3604390888 700), (.int 3412177804 741), (.int 2607071920 781), (.int 2262029012 822), (.int 2685067896 863), (.int 3183342108 905)] 1), slots := #[] }
noncomputable def o153SB (P : Params) : Obj := { cls := (.type "tuple"), dict := none, data := (.seq #[(.int 0 303), (.int 498536548 342), (.int 997073096 381), (.int 651767980 421), (.int 1994146192 460), (.int 1802195444 500), (.int 1303535960 540), (.int 1342533948 581), (.int 3988292384 620), (.int 4027552580 660), (.int 3604390888 700), (.int 3412177804 741), (.int 2607071920 781), (.int 2262029012 822), (.int 2685067896 863), (.int 3183342108 905)] 0), slots := #[] }
noncomputable def l0SB (P : Params) : List Obj := [(boot_o_0 P), (boot_o_1 P), (o2S1 P), (o3SB P), (boot_o_4 P), (boot_o_5 P), (boot_o_6 P), (boot_o_7 P)]
noncomputable def l1SB (P : Params) : List Obj := [(boot_o_8 P), (boot_o_9 P), (boot_o_10 P), (o11S0 P), (o12S1 P), (o13S0 P), (o14S0 P), (o15S1 P)]
noncomputable def l2SB (P : Params) : List Obj := [(o16S1 P), (o17S1 P), (o18S1 P), (o19S1 P), (o20S1 P), (o21S1 P), (o22S1 P), (o23S1 P)]
noncomputable def l3SB (P : Params) : List Obj := [(o24S1 P), (o25S1 P), (o26S1 P), (o27S1 P), (o28S1 P), (o29S1 P), (o30S1 P), (o31S1 P)]
noncomputable def l4SB (P : Params) : List Obj := [(o32S1 P), (o33S1 P), (o34S1 P), (o35S1 P), (o36S1 P), (o37S1 P), (o38S1 P), (o39S1 P)]
noncomputable def l5SB (P : Params) : List Obj := [(o40S1 P), (o41S1 P), (o42S1 P), (o43S1 P), (o44S1 P), (o45S1 P), (o46S1 P), (o47S1 P)]
noncomputable def l6SB (P : Params) : List Obj := [(o48S1 P), (o49S1 P), (o50S1 P), (o51S1 P), (o52S1 P), (o53S1 P), (o54S1 P), (o55S1 P)]
noncomputable def l7SB (P : Params) : List Obj := [(o56S1 P), (o57S1 P), (o58S1 P), (o59S1 P), (o60S1 P), (o61S1 P), (o62S1 P), (o63S1 P)]
noncomputable def l8SB (P : Params) : List Obj := [(o64S1 P), (o65S1 P), (o66SB P), (o67SB P), (o68SB P), (o69SB P), (o70SB P), (o71SB P)]
noncomputable def l9SB (P : Params) : List Obj := [(o72SB P), (o73SB P), (o74SB P), (o75SB P), (o76SB P), (o77SB P), (o78SB P), (o79SB P)]
noncomputable def l10SB (P : Params) : List Obj := [(o80SB P), (o81SB P), (o82SB P), (o83SB P), (o84SB P), (o85SB P), (o86SB P), (o87SB P)]
noncomputable def l11SB (P : Params) : List Obj := [(o88SB P), (o89SB P), (o90SB P), (o91SB P), (o92SB P), (o93SB P), (o94SB P), (o95SB P)]
noncomputable def l12SB (P : Params) : List Obj := [(o96SB P), (o97SB P), (o98SB P), (o99SB P), (o100SB P), (o101SB P), (o102SB P), (o103SB P)]
noncomputable def l13SB (P : Params) : List Obj := [(o104SB P), (o105SB P), (o106SB P), (o107SB P), (o108SB P), (o109SB P), (o110SB P), (o111SB P)]
noncomputable def l14SB (P : Params) : List Obj := [(o112SB P), (o113SB P), (o114SB P), (o115SB P), (o116SB P), (o117SB P), (o118SB P), (o119SB P)]
noncomputable def l15SB (P : Params) : List Obj := [(o120SB P), (o121SB P), (o122SB P), (o123SB P), (o124SB P), (o125SB P), (o126SB P), (o127SB P)]
noncomputable def l16SB (P : Params) : List Obj := [(o128SB P), (o129SB P), (o130SB P), (o131SB P), (o132SB P), (o133SB P), (o134SB P), (o135SB P)]
noncomputable def l17SB (P : Params) : List Obj := [(o136SB P), (o137SB P), (o138SB P), (o139SB P), (o140SB P), (o141SB P), (o142SB P), (o143SB P)]
noncomputable def l18SB (P : Params) : List Obj := [(o144SB P), (o145SB P), (o146SB P), (o147SB P), (o148SB P), (o149SB P), (o150SB P), (o151SB P)]
noncomputable def l19SB (P : Params) : List Obj := [(o152SB P), (o153SB P)]
noncomputable def g0SB (P : Params) : List Obj := l0SB P ++ l1SB P ++ l2SB P ++ l3SB P ++ l4SB P ++ l5SB P ++ l6SB P ++ l7SB P
noncomputable def g1SB (P : Params) : List Obj := l8SB P ++ l9SB P ++ l10SB P ++ l11SB P ++ l12SB P ++ l13SB P ++ l14SB P ++ l15SB P
noncomputable def g2SB (P : Params) : List Obj := l16SB P ++ l17SB P ++ l18SB P ++ l19SB P
noncomputable def lSB (P : Params) : List Obj := g0SB P ++ g1SB P ++ g2SB P
noncomputable def toksSB : Nat := 908
noncomputable def o3S3 (P : Params) : Obj := { cls := (.type "dict"), dict := none, data := (.dict #[de P "__name__" 165 (.str "law_pb0555_01" 1239), de P "__doc__" 166 .none, de P "__package__" 167 .none, de P "__loader__" 168 (.builtin "__main__.__loader__#opaque"), de P "__spec__" 169 .none, de P "__annotations__" 170 (.ref 6), de P "__builtins__" 171 (.ref 4), de P "__file__" 173 (.str "/claim/cut.py" 172), de P "__cached__" 174 .none, de P "SwitchError" 217 (.ref 31), de P "FormError" 233 (.ref 44), de P "SizeError" 249 (.ref 56), de P "TURNED_POLYNOMIAL" 253 (.int 3988292384 252), de P "ALL_ONES" 255 (.int 4294967295 254), de P "divided_word" 263 (.ref 65), de P "HALF_TABLE" 907 (.ref 153), de P "crc32" 916 (.ref 160), de P "frame_sum" 922 (.ref 165), de P "put_number" 930 (.ref 170), de P "get_number" 941 (.ref 177), de P "put16" 948 (.ref 184), de P "put48" 955 (.ref 191), de P "get16" 963 (.ref 198), de P "get48" 971 (.ref 205), de P "CUSTOMER_KIND" 975 (.int 33024 974), de P "PROVIDER_KIND" 977 (.int 34984 976), de P "TAG_KINDS" 978 (.ref 206), de P "FIRST_KIND" 980 (.int 1536 979), de P "MOST_LENGTH" 982 (.int 1500 981), de P "MOST_TAGS" 984 (.int 4 983), de P "NO_VLAN" 986 (.int 4095 985), de P "HEAD_SIZE" 988 (.int 14 987), de P "TAG_SIZE" 990 (.int 4 989), de P "SUM_SIZE" 992 (.int 4 991), de P "LEAST_SIZE" 994 (.int 60 993), de P "Tag" 1036 (.ref 230), de P "Frame" 1087 (.ref 264), de P "pack_tag" 1094 (.ref 275), de P "pack_kind" 1101 (.ref 282), de P "pack_frame" 1107 (.ref 288), de P "unpack_tag" 1116 (.ref 295), de P "unpack_tags" 1125 (.ref 302), de P "unpack_frame" 1139 (.ref 310), de P "SNAP_POINT" 1143 (.int 170 1142), de P "PLAIN_CONTROL" 1145 (.int 3 1144), de P "SNAP_SIZE" 1147 (.int 5 1146), de P "Llc" 1189 (.ref 334), de P "is_short_control" 1196 (.ref 345), de P "pack_llc" 1204 (.ref 352), de P "unpack_llc" 1212 (.ref 359), de P "pack_snap" 1221 (.ref 366), de P "unpack_snap" 1228 (.ref 373), de P "link_frame" 1238 (.ref 380), de P "_law_pool" 1251 (.ref 387), de P "_law_take" 1260 (.ref 394), de P "_law_one" 1268 (.ref 401), de P "_law_heard" 1275 (.ref 408), de P "_law_control" 1285 (.ref 415), de P "_law_octets" 1291 (.ref 420), de P "_law_head_right" 1306 (.ref 427), de P "_law_kind_right" 1322 (.ref 434), de P "law" 1331 (.ref 441)] 62), slots := #[] }
noncomputable def o12S3 (P : Params) : Obj := { cls := .none, dict := none, data := (.fields #[(.int 2 0), (.int 0 0), (.ref 20), (.int 7 0), (.int 0 0), (.ref 40), (.int 9 0), (.int 0 0), (.ref 52), (.int 14 0), (.int 0 0), (.ref 64), (.int 19 0), (.int 0 0), (.ref 159), (.int 25 0), (.int 0 0), (.ref 164), (.int 29 0), (.int 0 0), (.ref 169), (.int 33 0), (.int 0 0), (.ref 176), (.int 40 0), (.int 0 0), (.ref 183), (.int 42 0), (.int 0 0), (.ref 190), (.int 44 0), (.int 0 0), (.ref 197), (.int 46 0), (.int 0 0), (.ref 204), (.int 60 0), (.int 0 0), (.ref 212), (.int 70 0), (.int 0 0), (.ref 240), (.int 84 0), (.int 0 0), (.ref 274), (.int 88 0), (.int 0 0), (.ref 281), (.int 96 0), (.int 0 0), (.ref 287), (.int 103 0), (.int 0 0), (.ref 294), (.int 108 0), (.int 0 0), (.ref 301), (.int 116 0), (.int 0 0), (.ref 309), (.int 135 0), (.int 0 0), (.ref 316), (.int 145 0), (.int 0 0), (.ref 344), (.int 147 0), (.int 0 0), (.ref 351), (.int 155 0), (.int 0 0), (.ref 358), (.int 160 0), (.int 0 0), (.ref 365), (.int 162 0), (.int 0 0), (.ref 372), (.int 168 0), (.int 0 0), (.ref 379), (.int 171 0), (.int 0 0), (.ref 386), (.int 176 0), (.int 0 0), (.ref 393), (.int 183 0), (.int 0 0), (.ref 400), (.int 185 0), (.int 0 0), (.ref 407), (.int 192 0), (.int 0 0), (.ref 414), (.int 198 0), (.int 0 0), (.ref 419), (.int 200 0), (.int 0 0), (.ref 426), (.int 215 0), (.int 0 0), (.ref 433), (.int 231 0), (.int 0 0), (.ref 440)]), slots := #[] }
noncomputable def o154S3 (P : Params) : Obj := { cls := (.type "tuple"), dict := none, data := (.seq #[] 0), slots := #[] }
noncomputable def o155S3 (P : Params) : Obj := { cls := .none, dict := none, data := (.fields #[]), slots := #[] }
noncomputable def o156S3 (P : Params) : Obj := { cls := (.type "tuple"), dict := none, data := (.seq #[(.str "octets" 911), (.str "word" 912), (.str "octet" 913)] 0), slots := #[] }
noncomputable def o157S3 (P : Params) : Obj := { cls := (.type "tuple"), dict := none, data := (.seq #[] 0), slots := #[] }
noncomputable def o158S3 (P : Params) : Obj := { cls := .none, dict := none, data := (fdat (fdef 9) "crc32" "crc32" 0 [] .none .none .none .none none .none .none 0), slots := #[] }
noncomputable def o159S3 (P : Params) : Obj := { cls := (.type "code"), dict := none, data := (.fields #[(.str "crc32" 908), (.str "crc32" 909), (.str "/claim/cut.py" 910), (.int 19 0), (.int 1 0), (.int 0 0), (.int 0 0), (.int 3 0), (.ref 154), (.bool true), (.int 181 0), (.ref 155), .none, (.ref 156), (.ref 157), (.ref 158), (.int 914 0), (.int 19 0), (.str "/claim/cut.py" 915)]), slots := #[] }
noncomputable def o160S3 (P : Params) : Obj := { cls := (.type "function"), dict := none, data := (fdat (fdef 9) "crc32" "crc32" 3 [] .none .none .none (.str "switchloom.crc" 250) none (.ref 159) .none 0), slots := #[] }
noncomputable def o161S3 (P : Params) : Obj := { cls := (.type "tuple"), dict := none, data := (.seq #[] 0), slots := #[] }
noncomputable def o162S3 (P : Params) : Obj := { cls := .none, dict := none, data := (.fields #[]), slots := #[] }
noncomputable def o163S3 (P : Params) : Obj := { cls := .none, dict := none, data := (fdat (fdef 10) "frame_sum" "frame_sum" 0 [] .none .none .none .none none .none .none 0), slots := #[] }
noncomputable def o164S3 (P : Params) : Obj := { cls := (.type "code"), dict := none, data := (.fields #[(.str "frame_sum" 917), (.str "frame_sum" 918), (.str "/claim/cut.py" 919), (.int 25 0), (.int 1 0), (.int 0 0), (.int 0 0), (.int 3 0), (.ref 161), (.bool true), (.int 181 0), (.ref 162), .none, .none, .none, (.ref 163), (.int 920 0), (.int 25 0), (.str "/claim/cut.py" 921)]), slots := #[] }
noncomputable def o165S3 (P : Params) : Obj := { cls := (.type "function"), dict := none, data := (fdat (fdef 10) "frame_sum" "frame_sum" 3 [] .none .none .none (.str "switchloom.crc" 250) none (.ref 164) .none 0), slots := #[] }
noncomputable def o166S3 (P : Params) : Obj := { cls := (.type "tuple"), dict := none, data := (.seq #[] 0), slots := #[] }
noncomputable def o167S3 (P : Params) : Obj := { cls := .none, dict := none, data := (.fields #[]), slots := #[] }
noncomputable def o168S3 (P : Params) : Obj := { cls := .none, dict := none, data := (fdat (fdef 12) "put_number" "put_number" 0 [] .none .none .none .none none .none .none 0), slots := #[] }
noncomputable def o169S3 (P : Params) : Obj := { cls := (.type "code"), dict := none, data := (.fields #[(.str "put_number" 925), (.str "put_number" 926), (.str "/claim/cut.py" 927), (.int 29 0), (.int 2 0), (.int 0 0), (.int 0 0), (.int 3 0), (.ref 166), (.bool true), (.int 181 0), (.ref 167), .none, .none, .none, (.ref 168), (.int 928 0), (.int 29 0), (.str "/claim/cut.py" 929)]), slots := #[] }
noncomputable def o170S3 (P : Params) : Obj := { cls := (.type "function"), dict := none, data := (fdat (fdef 12) "put_number" "put_number" 3 [] .none .none .none (.str "switchloom.octets" 923) none (.ref 169) .none 0), slots := #[] }
noncomputable def o171S3 (P : Params) : Obj := { cls := (.type "tuple"), dict := none, data := (.seq #[] 0), slots := #[] }
noncomputable def o172S3 (P : Params) : Obj := { cls := .none, dict := none, data := (.fields #[]), slots := #[] }
noncomputable def o173S3 (P : Params) : Obj := { cls := (.type "tuple"), dict := none, data := (.seq #[(.str "octets" 934), (.str "at" 935), (.str "many" 936), (.str "found" 937), (.str "octet" 938)] 0), slots := #[] }
noncomputable def o174S3 (P : Params) : Obj := { cls := (.type "tuple"), dict := none, data := (.seq #[] 0), slots := #[] }
noncomputable def o175S3 (P : Params) : Obj := { cls := .none, dict := none, data := (fdat (fdef 13) "get_number" "get_number" 0 [] .none .none .none .none none .none .none 0), slots := #[] }
noncomputable def o176S3 (P : Params) : Obj := { cls := (.type "code"), dict := none, data := (.fields #[(.str "get_number" 931), (.str "get_number" 932), (.str "/claim/cut.py" 933), (.int 33 0), (.int 3 0), (.int 0 0), (.int 0 0), (.int 3 0), (.ref 171), (.bool true), (.int 181 0), (.ref 172), .none, (.ref 173), (.ref 174), (.ref 175), (.int 939 0), (.int 33 0), (.str "/claim/cut.py" 940)]), slots := #[] }
noncomputable def o177S3 (P : Params) : Obj := { cls := (.type "function"), dict := none, data := (fdat (fdef 13) "get_number" "get_number" 3 [] .none .none .none (.str "switchloom.octets" 923) none (.ref 176) .none 0), slots := #[] }
noncomputable def o178S3 (P : Params) : Obj := { cls := (.type "tuple"), dict := none, data := (.seq #[] 0), slots := #[] }
noncomputable def o179S3 (P : Params) : Obj := { cls := .none, dict := none, data := (.fields #[]), slots := #[] }
noncomputable def o180S3 (P : Params) : Obj := { cls := (.type "tuple"), dict := none, data := (.seq #[(.str "number" 945)] 0), slots := #[] }
noncomputable def o181S3 (P : Params) : Obj := { cls := (.type "tuple"), dict := none, data := (.seq #[] 0), slots := #[] }
noncomputable def o182S3 (P : Params) : Obj := { cls := .none, dict := none, data := (fdat (fdef 14) "put16" "put16" 0 [] .none .none .none .none none .none .none 0), slots := #[] }
noncomputable def o183S3 (P : Params) : Obj := { cls := (.type "code"), dict := none, data := (.fields #[(.str "put16" 942), (.str "put16" 943), (.str "/claim/cut.py" 944), (.int 40 0), (.int 1 0), (.int 0 0), (.int 0 0), (.int 3 0), (.ref 178), (.bool true), (.int 181 0), (.ref 179), .none, (.ref 180), (.ref 181), (.ref 182), (.int 946 0), (.int 40 0), (.str "/claim/cut.py" 947)]), slots := #[] }
noncomputable def o184S3 (P : Params) : Obj := { cls := (.type "function"), dict := none, data := (fdat (fdef 14) "put16" "put16" 3 [] .none .none .none (.str "switchloom.octets" 923) none (.ref 183) .none 0), slots := #[] }
noncomputable def o185S3 (P : Params) : Obj := { cls := (.type "tuple"), dict := none, data := (.seq #[] 0), slots := #[] }
noncomputable def o186S3 (P : Params) : Obj := { cls := .none, dict := none, data := (.fields #[]), slots := #[] }
noncomputable def o187S3 (P : Params) : Obj := { cls := (.type "tuple"), dict := none, data := (.seq #[(.str "number" 952)] 0), slots := #[] }
noncomputable def o188S3 (P : Params) : Obj := { cls := (.type "tuple"), dict := none, data := (.seq #[] 0), slots := #[] }
noncomputable def o189S3 (P : Params) : Obj := { cls := .none, dict := none, data := (fdat (fdef 15) "put48" "put48" 0 [] .none .none .none .none none .none .none 0), slots := #[] }
noncomputable def o190S3 (P : Params) : Obj := { cls := (.type "code"), dict := none, data := (.fields #[(.str "put48" 949), (.str "put48" 950), (.str "/claim/cut.py" 951), (.int 42 0), (.int 1 0), (.int 0 0), (.int 0 0), (.int 3 0), (.ref 185), (.bool true), (.int 181 0), (.ref 186), .none, (.ref 187), (.ref 188), (.ref 189), (.int 953 0), (.int 42 0), (.str "/claim/cut.py" 954)]), slots := #[] }
noncomputable def o191S3 (P : Params) : Obj := { cls := (.type "function"), dict := none, data := (fdat (fdef 15) "put48" "put48" 3 [] .none .none .none (.str "switchloom.octets" 923) none (.ref 190) .none 0), slots := #[] }
noncomputable def o192S3 (P : Params) : Obj := { cls := (.type "tuple"), dict := none, data := (.seq #[] 0), slots := #[] }
noncomputable def o193S3 (P : Params) : Obj := { cls := .none, dict := none, data := (.fields #[]), slots := #[] }
noncomputable def o194S3 (P : Params) : Obj := { cls := (.type "tuple"), dict := none, data := (.seq #[(.str "octets" 959), (.str "at" 960)] 0), slots := #[] }
noncomputable def o195S3 (P : Params) : Obj := { cls := (.type "tuple"), dict := none, data := (.seq #[] 0), slots := #[] }
noncomputable def o196S3 (P : Params) : Obj := { cls := .none, dict := none, data := (fdat (fdef 16) "get16" "get16" 0 [] .none .none .none .none none .none .none 0), slots := #[] }
noncomputable def o197S3 (P : Params) : Obj := { cls := (.type "code"), dict := none, data := (.fields #[(.str "get16" 956), (.str "get16" 957), (.str "/claim/cut.py" 958), (.int 44 0), (.int 2 0), (.int 0 0), (.int 0 0), (.int 3 0), (.ref 192), (.bool true), (.int 181 0), (.ref 193), .none, (.ref 194), (.ref 195), (.ref 196), (.int 961 0), (.int 44 0), (.str "/claim/cut.py" 962)]), slots := #[] }
noncomputable def o198S3 (P : Params) : Obj := { cls := (.type "function"), dict := none, data := (fdat (fdef 16) "get16" "get16" 3 [] .none .none .none (.str "switchloom.octets" 923) none (.ref 197) .none 0), slots := #[] }
noncomputable def o199S3 (P : Params) : Obj := { cls := (.type "tuple"), dict := none, data := (.seq #[] 0), slots := #[] }
noncomputable def o200S3 (P : Params) : Obj := { cls := .none, dict := none, data := (.fields #[]), slots := #[] }
noncomputable def o201S3 (P : Params) : Obj := { cls := (.type "tuple"), dict := none, data := (.seq #[(.str "octets" 967), (.str "at" 968)] 0), slots := #[] }
noncomputable def o202S3 (P : Params) : Obj := { cls := (.type "tuple"), dict := none, data := (.seq #[] 0), slots := #[] }
noncomputable def o203S3 (P : Params) : Obj := { cls := .none, dict := none, data := (fdat (fdef 17) "get48" "get48" 0 [] .none .none .none .none none .none .none 0), slots := #[] }
noncomputable def o204S3 (P : Params) : Obj := { cls := (.type "code"), dict := none, data := (.fields #[(.str "get48" 964), (.str "get48" 965), (.str "/claim/cut.py" 966), (.int 46 0), (.int 2 0), (.int 0 0), (.int 0 0), (.int 3 0), (.ref 199), (.bool true), (.int 181 0), (.ref 200), .none, (.ref 201), (.ref 202), (.ref 203), (.int 969 0), (.int 46 0), (.str "/claim/cut.py" 970)]), slots := #[] }
noncomputable def o205S3 (P : Params) : Obj := { cls := (.type "function"), dict := none, data := (fdat (fdef 17) "get48" "get48" 3 [] .none .none .none (.str "switchloom.octets" 923) none (.ref 204) .none 0), slots := #[] }
noncomputable def o206S3 (P : Params) : Obj := { cls := (.type "tuple"), dict := none, data := (.seq #[(.int 33024 974), (.int 34984 976)] 0), slots := #[] }
noncomputable def o207S3 (P : Params) : Obj := { cls := (.type "tuple"), dict := none, data := (.seq #[] 0), slots := #[] }
noncomputable def o208S3 (P : Params) : Obj := { cls := (.type "builtin_function_or_method"), dict := none, data := (.fields #[(.builtin "type.__prepare__"), (.type "type")]), slots := #[] }
noncomputable def o209S3 (P : Params) : Obj := { cls := (.type "dict"), dict := none, data := (.dict #[de P "__module__" 1002 (.str "switchloom.frames" 972), de P "__qualname__" 1004 (.str "Tag" 1003), de P "__firstlineno__" 1006 (.int 60 1005), de P "__init__" 1017 (.ref 220), de P "told" 1024 (.ref 227), de P "__static_attributes__" 1029 (.ref 228)] 6), slots := #[] }
noncomputable def o210S3 (P : Params) : Obj := { cls := (.type "tuple"), dict := none, data := (.seq #[] 0), slots := #[] }
noncomputable def o211S3 (P : Params) : Obj := { cls := .none, dict := none, data := (.fields #[(.int 62 0), (.int 4 0), (.ref 219), (.int 68 0), (.int 4 0), (.ref 226)]), slots := #[] }
noncomputable def o212S3 (P : Params) : Obj := { cls := (.type "code"), dict := none, data := (.fields #[(.str "Tag" 997), (.str "Tag" 998), (.str "/claim/cut.py" 999), (.int 60 0), (.int 0 0), (.int 0 0), (.int 0 0), (.int 0 0), (.ref 210), (.bool false), (.int 181 0), (.ref 211), .none, .none, .none, .none, (.int 1000 0), (.int 60 0), (.str "/claim/cut.py" 1001)]), slots := #[] }
noncomputable def o213S3 (P : Params) : Obj := { cls := (.type "frame"), dict := none, data := .plain, slots := #[(some (.ref 212)), (some (.ref 3)), (some (.ref 209)), none, (some (.str "switchloom.frames" 972)), none, (some (.ref 0))] }
noncomputable def o214S3 (P : Params) : Obj := { cls := (.type "tuple"), dict := none, data := (.seq #[] 0), slots := #[] }
noncomputable def o215S3 (P : Params) : Obj := { cls := .none, dict := none, data := (.fields #[]), slots := #[] }
noncomputable def o216S3 (P : Params) : Obj := { cls := (.type "tuple"), dict := none, data := (.seq #[(.str "self" 1010), (.str "kind" 1011), (.str "priority" 1012), (.str "may_drop" 1013), (.str "vlan" 1014)] 0), slots := #[] }
noncomputable def o217S3 (P : Params) : Obj := { cls := (.type "tuple"), dict := none, data := (.seq #[] 0), slots := #[] }
noncomputable def o218S3 (P : Params) : Obj := { cls := .none, dict := none, data := (fdat (mdef 30 0) "__init__" "Tag.__init__" 0 [] .none .none .none .none none .none .none 0), slots := #[] }
noncomputable def o219S3 (P : Params) : Obj := { cls := (.type "code"), dict := none, data := (.fields #[(.str "__init__" 1007), (.str "Tag.__init__" 1008), (.str "/claim/cut.py" 1009), (.int 62 0), (.int 5 0), (.int 0 0), (.int 0 0), (.int 3 0), (.ref 214), (.bool true), (.int 181 0), (.ref 215), .none, (.ref 216), (.ref 217), (.ref 218), (.int 1015 0), (.int 62 0), (.str "/claim/cut.py" 1016)]), slots := #[] }
noncomputable def o220S3 (P : Params) : Obj := { cls := (.type "function"), dict := none, data := (fdat (mdef 30 0) "__init__" "Tag.__init__" 3 [] .none .none .none (.str "switchloom.frames" 972) none (.ref 219) .none 0), slots := #[] }
noncomputable def o221S3 (P : Params) : Obj := { cls := (.type "tuple"), dict := none, data := (.seq #[] 0), slots := #[] }
noncomputable def o222S3 (P : Params) : Obj := { cls := .none, dict := none, data := (.fields #[]), slots := #[] }
noncomputable def o223S3 (P : Params) : Obj := { cls := (.type "tuple"), dict := none, data := (.seq #[(.str "self" 1021)] 0), slots := #[] }
noncomputable def o224S3 (P : Params) : Obj := { cls := (.type "tuple"), dict := none, data := (.seq #[] 0), slots := #[] }
noncomputable def o225S3 (P : Params) : Obj := { cls := .none, dict := none, data := (fdat (mdef 30 1) "told" "Tag.told" 0 [] .none .none .none .none none .none .none 0), slots := #[] }
noncomputable def o226S3 (P : Params) : Obj := { cls := (.type "code"), dict := none, data := (.fields #[(.str "told" 1018), (.str "Tag.told" 1019), (.str "/claim/cut.py" 1020), (.int 68 0), (.int 1 0), (.int 0 0), (.int 0 0), (.int 3 0), (.ref 221), (.bool true), (.int 181 0), (.ref 222), .none, (.ref 223), (.ref 224), (.ref 225), (.int 1022 0), (.int 68 0), (.str "/claim/cut.py" 1023)]), slots := #[] }
noncomputable def o227S3 (P : Params) : Obj := { cls := (.type "function"), dict := none, data := (fdat (mdef 30 1) "told" "Tag.told" 3 [] .none .none .none (.str "switchloom.frames" 972) none (.ref 226) .none 0), slots := #[] }
noncomputable def o228S3 (P : Params) : Obj := { cls := (.type "tuple"), dict := none, data := (.seq #[(.str "kind" 1025), (.str "may_drop" 1026), (.str "priority" 1027), (.str "vlan" 1028)] 0), slots := #[] }
noncomputable def o229S3 (P : Params) : Obj := { cls := (.type "dict"), dict := none, data := (.dict #[de P "__module__" 1002 (.str "switchloom.frames" 972), de P "__firstlineno__" 1006 (.int 60 1005), de P "__init__" 1017 (.ref 220), de P "told" 1024 (.ref 227), de P "__static_attributes__" 1029 (.ref 228), de P "__dict__" 1031 (.ref 231), de P "__weakref__" 1033 (.ref 232), de P "__doc__" 1034 .none] 4), slots := #[] }
noncomputable def o230S3 (P : Params) : Obj := { cls := (.type "type"), dict := none, data := (.cls { name := "Tag", bases := [(.type "object")], mro := [(.ref 230), (.type "object")], ns := 229, qualname := "Tag", hasDict := true, slotNames := [], subclasses := [], abstract := false, collection := none, hasDel := false }), slots := #[none, none, (some (.str "Tag" 995)), (some (.str "Tag" 1003)), (some (.builtin "object.__new__")), (some (.bool true))] }
noncomputable def o231S3 (P : Params) : Obj := { cls := (.type "getset_descriptor"), dict := none, data := (.fields #[(.str "__dict__" 1030), (.ref 230), (.builtin "function.__dict__"), (.builtin "function.__dict__#set")]), slots := #[] }
noncomputable def o232S3 (P : Params) : Obj := { cls := (.type "getset_descriptor"), dict := none, data := (.fields #[(.str "__weakref__" 1032), (.ref 230), (.builtin "ExceptionGroup.__weakref__"), .none]), slots := #[] }
noncomputable def o233S3 (P : Params) : Obj := { cls := (.type "super"), dict := none, data := (.fields #[(.ref 230), (.ref 230), (.ref 230)]), slots := #[] }
noncomputable def o234S3 (P : Params) : Obj := { cls := (.type "builtin_function_or_method"), dict := none, data := (.fields #[(.builtin "object.__init_subclass__"), (.ref 230)]), slots := #[] }
noncomputable def o235S3 (P : Params) : Obj := { cls := (.type "tuple"), dict := none, data := (.seq #[] 0), slots := #[] }
noncomputable def o236S3 (P : Params) : Obj := { cls := (.type "builtin_function_or_method"), dict := none, data := (.fields #[(.builtin "type.__prepare__"), (.type "type")]), slots := #[] }
noncomputable def o237S3 (P : Params) : Obj := { cls := (.type "dict"), dict := none, data := (.dict #[de P "__module__" 1044 (.str "switchloom.frames" 972), de P "__qualname__" 1046 (.str "Frame" 1045), de P "__firstlineno__" 1048 (.int 70 1047), de P "__init__" 1060 (.ref 248), de P "told" 1066 (.ref 253), de P "size" 1074 (.ref 261), de P "__static_attributes__" 1080 (.ref 262)] 7), slots := #[] }
noncomputable def o238S3 (P : Params) : Obj := { cls := (.type "tuple"), dict := none, data := (.seq #[] 0), slots := #[] }
noncomputable def o239S3 (P : Params) : Obj := { cls := .none, dict := none, data := (.fields #[(.int 72 0), (.int 4 0), (.ref 247), (.int 79 0), (.int 4 0), (.ref 252), (.int 82 0), (.int 4 0), (.ref 260)]), slots := #[] }
noncomputable def o240S3 (P : Params) : Obj := { cls := (.type "code"), dict := none, data := (.fields #[(.str "Frame" 1039), (.str "Frame" 1040), (.str "/claim/cut.py" 1041), (.int 70 0), (.int 0 0), (.int 0 0), (.int 0 0), (.int 0 0), (.ref 238), (.bool false), (.int 181 0), (.ref 239), .none, .none, .none, .none, (.int 1042 0), (.int 70 0), (.str "/claim/cut.py" 1043)]), slots := #[] }
noncomputable def o241S3 (P : Params) : Obj := { cls := (.type "frame"), dict := none, data := .plain, slots := #[(some (.ref 240)), (some (.ref 3)), (some (.ref 237)), none, (some (.str "switchloom.frames" 972)), none, (some (.ref 0))] }
noncomputable def o242S3 (P : Params) : Obj := { cls := (.type "tuple"), dict := none, data := (.seq #[] 0), slots := #[] }
noncomputable def o243S3 (P : Params) : Obj := { cls := .none, dict := none, data := (.fields #[]), slots := #[] }
noncomputable def o244S3 (P : Params) : Obj := { cls := (.type "tuple"), dict := none, data := (.seq #[(.str "self" 1052), (.str "target" 1053), (.str "source" 1054), (.str "tags" 1055), (.str "kind" 1056), (.str "payload" 1057)] 0), slots := #[] }
noncomputable def o245S3 (P : Params) : Obj := { cls := (.type "tuple"), dict := none, data := (.seq #[] 0), slots := #[] }
noncomputable def o246S3 (P : Params) : Obj := { cls := .none, dict := none, data := (fdat (mdef 31 0) "__init__" "Frame.__init__" 0 [] .none .none .none .none none .none .none 0), slots := #[] }
noncomputable def o247S3 (P : Params) : Obj := { cls := (.type "code"), dict := none, data := (.fields #[(.str "__init__" 1049), (.str "Frame.__init__" 1050), (.str "/claim/cut.py" 1051), (.int 72 0), (.int 6 0), (.int 0 0), (.int 0 0), (.int 3 0), (.ref 242), (.bool true), (.int 181 0), (.ref 243), .none, (.ref 244), (.ref 245), (.ref 246), (.int 1058 0), (.int 72 0), (.str "/claim/cut.py" 1059)]), slots := #[] }
noncomputable def o248S3 (P : Params) : Obj := { cls := (.type "function"), dict := none, data := (fdat (mdef 31 0) "__init__" "Frame.__init__" 3 [] .none .none .none (.str "switchloom.frames" 972) none (.ref 247) .none 0), slots := #[] }
noncomputable def o249S3 (P : Params) : Obj := { cls := (.type "tuple"), dict := none, data := (.seq #[] 0), slots := #[] }
noncomputable def o250S3 (P : Params) : Obj := { cls := .none, dict := none, data := (.fields #[]), slots := #[] }
noncomputable def o251S3 (P : Params) : Obj := { cls := .none, dict := none, data := (fdat (mdef 31 1) "told" "Frame.told" 0 [] .none .none .none .none none .none .none 0), slots := #[] }
noncomputable def o252S3 (P : Params) : Obj := { cls := (.type "code"), dict := none, data := (.fields #[(.str "told" 1061), (.str "Frame.told" 1062), (.str "/claim/cut.py" 1063), (.int 79 0), (.int 1 0), (.int 0 0), (.int 0 0), (.int 3 0), (.ref 249), (.bool true), (.int 181 0), (.ref 250), .none, .none, .none, (.ref 251), (.int 1064 0), (.int 79 0), (.str "/claim/cut.py" 1065)]), slots := #[] }
noncomputable def o253S3 (P : Params) : Obj := { cls := (.type "function"), dict := none, data := (fdat (mdef 31 1) "told" "Frame.told" 3 [] .none .none .none (.str "switchloom.frames" 972) none (.ref 252) .none 0), slots := #[] }
noncomputable def o254S3 (P : Params) : Obj := { cls := (.type "tuple"), dict := none, data := (.seq #[(.int 60 993)] 0), slots := #[] }
noncomputable def o255S3 (P : Params) : Obj := { cls := (.type "tuple"), dict := none, data := (.seq #[] 0), slots := #[] }
noncomputable def o256S3 (P : Params) : Obj := { cls := .none, dict := none, data := (.fields #[]), slots := #[] }
noncomputable def o257S3 (P : Params) : Obj := { cls := (.type "tuple"), dict := none, data := (.seq #[(.str "self" 1070), (.str "least" 1071)] 0), slots := #[] }
noncomputable def o258S3 (P : Params) : Obj := { cls := (.type "tuple"), dict := none, data := (.seq #[] 0), slots := #[] }
noncomputable def o259S3 (P : Params) : Obj := { cls := .none, dict := none, data := (fdat (mdef 31 2) "size" "Frame.size" 0 [] .none .none .none .none none .none .none 0), slots := #[] }
noncomputable def o260S3 (P : Params) : Obj := { cls := (.type "code"), dict := none, data := (.fields #[(.str "size" 1067), (.str "Frame.size" 1068), (.str "/claim/cut.py" 1069), (.int 82 0), (.int 2 0), (.int 0 0), (.int 0 0), (.int 3 0), (.ref 255), (.bool true), (.int 181 0), (.ref 256), .none, (.ref 257), (.ref 258), (.ref 259), (.int 1072 0), (.int 82 0), (.str "/claim/cut.py" 1073)]), slots := #[] }
noncomputable def o261S3 (P : Params) : Obj := { cls := (.type "function"), dict := none, data := (fdat (mdef 31 2) "size" "Frame.size" 3 [] (.ref 254) .none .none (.str "switchloom.frames" 972) none (.ref 260) .none 0), slots := #[] }
noncomputable def o262S3 (P : Params) : Obj := { cls := (.type "tuple"), dict := none, data := (.seq #[(.str "kind" 1075), (.str "payload" 1076), (.str "source" 1077), (.str "tags" 1078), (.str "target" 1079)] 0), slots := #[] }
noncomputable def o263S3 (P : Params) : Obj := { cls := (.type "dict"), dict := none, data := (.dict #[de P "__module__" 1044 (.str "switchloom.frames" 972), de P "__firstlineno__" 1048 (.int 70 1047), de P "__init__" 1060 (.ref 248), de P "told" 1066 (.ref 253), de P "size" 1074 (.ref 261), de P "__static_attributes__" 1080 (.ref 262), de P "__dict__" 1082 (.ref 265), de P "__weakref__" 1084 (.ref 266), de P "__doc__" 1085 .none] 4), slots := #[] }
noncomputable def o264S3 (P : Params) : Obj := { cls := (.type "type"), dict := none, data := (.cls { name := "Frame", bases := [(.type "object")], mro := [(.ref 264), (.type "object")], ns := 263, qualname := "Frame", hasDict := true, slotNames := [], subclasses := [], abstract := false, collection := none, hasDel := false }), slots := #[none, none, (some (.str "Frame" 1037)), (some (.str "Frame" 1045)), (some (.builtin "object.__new__")), (some (.bool true))] }
noncomputable def o265S3 (P : Params) : Obj := { cls := (.type "getset_descriptor"), dict := none, data := (.fields #[(.str "__dict__" 1081), (.ref 264), (.builtin "function.__dict__"), (.builtin "function.__dict__#set")]), slots := #[] }
noncomputable def o266S3 (P : Params) : Obj := { cls := (.type "getset_descriptor"), dict := none, data := (.fields #[(.str "__weakref__" 1083), (.ref 264), (.builtin "ExceptionGroup.__weakref__"), .none]), slots := #[] }
noncomputable def o267S3 (P : Params) : Obj := { cls := (.type "super"), dict := none, data := (.fields #[(.ref 264), (.ref 264), (.ref 264)]), slots := #[] }
noncomputable def o268S3 (P : Params) : Obj := { cls := (.type "builtin_function_or_method"), dict := none, data := (.fields #[(.builtin "object.__init_subclass__"), (.ref 264)]), slots := #[] }
noncomputable def o269S3 (P : Params) : Obj := { cls := (.type "tuple"), dict := none, data := (.seq #[] 0), slots := #[] }
noncomputable def o270S3 (P : Params) : Obj := { cls := .none, dict := none, data := (.fields #[]), slots := #[] }
noncomputable def o271S3 (P : Params) : Obj := { cls := (.type "tuple"), dict := none, data := (.seq #[(.str "tag" 1091)] 0), slots := #[] }
noncomputable def o272S3 (P : Params) : Obj := { cls := (.type "tuple"), dict := none, data := (.seq #[] 0), slots := #[] }
noncomputable def o273S3 (P : Params) : Obj := { cls := .none, dict := none, data := (fdat (fdef 32) "pack_tag" "pack_tag" 0 [] .none .none .none .none none .none .none 0), slots := #[] }
noncomputable def o274S3 (P : Params) : Obj := { cls := (.type "code"), dict := none, data := (.fields #[(.str "pack_tag" 1088), (.str "pack_tag" 1089), (.str "/claim/cut.py" 1090), (.int 84 0), (.int 1 0), (.int 0 0), (.int 0 0), (.int 3 0), (.ref 269), (.bool true), (.int 181 0), (.ref 270), .none, (.ref 271), (.ref 272), (.ref 273), (.int 1092 0), (.int 84 0), (.str "/claim/cut.py" 1093)]), slots := #[] }
noncomputable def o275S3 (P : Params) : Obj := { cls := (.type "function"), dict := none, data := (fdat (fdef 32) "pack_tag" "pack_tag" 3 [] .none .none .none (.str "switchloom.frames" 972) none (.ref 274) .none 0), slots := #[] }
noncomputable def o276S3 (P : Params) : Obj := { cls := (.type "tuple"), dict := none, data := (.seq #[] 0), slots := #[] }
noncomputable def o277S3 (P : Params) : Obj := { cls := .none, dict := none, data := (.fields #[]), slots := #[] }
noncomputable def o278S3 (P : Params) : Obj := { cls := (.type "tuple"), dict := none, data := (.seq #[(.str "frame" 1098)] 0), slots := #[] }
noncomputable def o279S3 (P : Params) : Obj := { cls := (.type "tuple"), dict := none, data := (.seq #[] 0), slots := #[] }
noncomputable def o280S3 (P : Params) : Obj := { cls := .none, dict := none, data := (fdat (fdef 33) "pack_kind" "pack_kind" 0 [] .none .none .none .none none .none .none 0), slots := #[] }
noncomputable def o281S3 (P : Params) : Obj := { cls := (.type "code"), dict := none, data := (.fields #[(.str "pack_kind" 1095), (.str "pack_kind" 1096), (.str "/claim/cut.py" 1097), (.int 88 0), (.int 1 0), (.int 0 0), (.int 0 0), (.int 3 0), (.ref 276), (.bool true), (.int 181 0), (.ref 277), .none, (.ref 278), (.ref 279), (.ref 280), (.int 1099 0), (.int 88 0), (.str "/claim/cut.py" 1100)]), slots := #[] }
noncomputable def o282S3 (P : Params) : Obj := { cls := (.type "function"), dict := none, data := (fdat (fdef 33) "pack_kind" "pack_kind" 3 [] .none .none .none (.str "switchloom.frames" 972) none (.ref 281) .none 0), slots := #[] }
noncomputable def o283S3 (P : Params) : Obj := { cls := (.type "tuple"), dict := none, data := (.seq #[(.int 60 993)] 0), slots := #[] }
noncomputable def o284S3 (P : Params) : Obj := { cls := (.type "tuple"), dict := none, data := (.seq #[] 0), slots := #[] }
noncomputable def o285S3 (P : Params) : Obj := { cls := .none, dict := none, data := (.fields #[]), slots := #[] }
noncomputable def o286S3 (P : Params) : Obj := { cls := .none, dict := none, data := (fdat (fdef 34) "pack_frame" "pack_frame" 0 [] .none .none .none .none none .none .none 0), slots := #[] }
noncomputable def o287S3 (P : Params) : Obj := { cls := (.type "code"), dict := none, data := (.fields #[(.str "pack_frame" 1102), (.str "pack_frame" 1103), (.str "/claim/cut.py" 1104), (.int 96 0), (.int 2 0), (.int 0 0), (.int 0 0), (.int 3 0), (.ref 284), (.bool true), (.int 181 0), (.ref 285), .none, .none, .none, (.ref 286), (.int 1105 0), (.int 96 0), (.str "/claim/cut.py" 1106)]), slots := #[] }
noncomputable def o288S3 (P : Params) : Obj := { cls := (.type "function"), dict := none, data := (fdat (fdef 34) "pack_frame" "pack_frame" 3 [] (.ref 283) .none .none (.str "switchloom.frames" 972) none (.ref 287) .none 0), slots := #[] }
noncomputable def o289S3 (P : Params) : Obj := { cls := (.type "tuple"), dict := none, data := (.seq #[] 0), slots := #[] }
noncomputable def o290S3 (P : Params) : Obj := { cls := .none, dict := none, data := (.fields #[]), slots := #[] }
noncomputable def o291S3 (P : Params) : Obj := { cls := (.type "tuple"), dict := none, data := (.seq #[(.str "octets" 1111), (.str "at" 1112), (.str "word" 1113)] 0), slots := #[] }
noncomputable def o292S3 (P : Params) : Obj := { cls := (.type "tuple"), dict := none, data := (.seq #[] 0), slots := #[] }
noncomputable def o293S3 (P : Params) : Obj := { cls := .none, dict := none, data := (fdat (fdef 35) "unpack_tag" "unpack_tag" 0 [] .none .none .none .none none .none .none 0), slots := #[] }
noncomputable def o294S3 (P : Params) : Obj := { cls := (.type "code"), dict := none, data := (.fields #[(.str "unpack_tag" 1108), (.str "unpack_tag" 1109), (.str "/claim/cut.py" 1110), (.int 103 0), (.int 2 0), (.int 0 0), (.int 0 0), (.int 3 0), (.ref 289), (.bool true), (.int 181 0), (.ref 290), .none, (.ref 291), (.ref 292), (.ref 293), (.int 1114 0), (.int 103 0), (.str "/claim/cut.py" 1115)]), slots := #[] }
noncomputable def o295S3 (P : Params) : Obj := { cls := (.type "function"), dict := none, data := (fdat (fdef 35) "unpack_tag" "unpack_tag" 3 [] .none .none .none (.str "switchloom.frames" 972) none (.ref 294) .none 0), slots := #[] }
noncomputable def o296S3 (P : Params) : Obj := { cls := (.type "tuple"), dict := none, data := (.seq #[] 0), slots := #[] }
noncomputable def o297S3 (P : Params) : Obj := { cls := .none, dict := none, data := (.fields #[]), slots := #[] }
noncomputable def o298S3 (P : Params) : Obj := { cls := (.type "tuple"), dict := none, data := (.seq #[(.str "octets" 1120), (.str "at" 1121), (.str "found" 1122)] 0), slots := #[] }
noncomputable def o299S3 (P : Params) : Obj := { cls := (.type "tuple"), dict := none, data := (.seq #[] 0), slots := #[] }
noncomputable def o300S3 (P : Params) : Obj := { cls := .none, dict := none, data := (fdat (fdef 36) "unpack_tags" "unpack_tags" 0 [] .none .none .none .none none .none .none 0), slots := #[] }
noncomputable def o301S3 (P : Params) : Obj := { cls := (.type "code"), dict := none, data := (.fields #[(.str "unpack_tags" 1117), (.str "unpack_tags" 1118), (.str "/claim/cut.py" 1119), (.int 108 0), (.int 2 0), (.int 0 0), (.int 0 0), (.int 3 0), (.ref 296), (.bool true), (.int 181 0), (.ref 297), .none, (.ref 298), (.ref 299), (.ref 300), (.int 1123 0), (.int 108 0), (.str "/claim/cut.py" 1124)]), slots := #[] }
noncomputable def o302S3 (P : Params) : Obj := { cls := (.type "function"), dict := none, data := (fdat (fdef 36) "unpack_tags" "unpack_tags" 3 [] .none .none .none (.str "switchloom.frames" 972) none (.ref 301) .none 0), slots := #[] }
noncomputable def o303S3 (P : Params) : Obj := { cls := (.type "tuple"), dict := none, data := (.seq #[(.int 1522 1126)] 0), slots := #[] }
noncomputable def o304S3 (P : Params) : Obj := { cls := (.type "tuple"), dict := none, data := (.seq #[] 0), slots := #[] }
noncomputable def o305S3 (P : Params) : Obj := { cls := .none, dict := none, data := (.fields #[]), slots := #[] }
noncomputable def o306S3 (P : Params) : Obj := { cls := (.type "tuple"), dict := none, data := (.seq #[(.str "octets" 1130), (.str "most" 1131), (.str "held" 1132), (.str "tags" 1133), (.str "at" 1134), (.str "kind" 1135), (.str "payload" 1136)] 0), slots := #[] }
noncomputable def o307S3 (P : Params) : Obj := { cls := (.type "tuple"), dict := none, data := (.seq #[] 0), slots := #[] }
noncomputable def o308S3 (P : Params) : Obj := { cls := .none, dict := none, data := (fdat (fdef 37) "unpack_frame" "unpack_frame" 0 [] .none .none .none .none none .none .none 0), slots := #[] }
noncomputable def o309S3 (P : Params) : Obj := { cls := (.type "code"), dict := none, data := (.fields #[(.str "unpack_frame" 1127), (.str "unpack_frame" 1128), (.str "/claim/cut.py" 1129), (.int 116 0), (.int 2 0), (.int 0 0), (.int 0 0), (.int 3 0), (.ref 304), (.bool true), (.int 181 0), (.ref 305), .none, (.ref 306), (.ref 307), (.ref 308), (.int 1137 0), (.int 116 0), (.str "/claim/cut.py" 1138)]), slots := #[] }
noncomputable def o310S3 (P : Params) : Obj := { cls := (.type "function"), dict := none, data := (fdat (fdef 37) "unpack_frame" "unpack_frame" 3 [] (.ref 303) .none .none (.str "switchloom.frames" 972) none (.ref 309) .none 0), slots := #[] }
noncomputable def o311S3 (P : Params) : Obj := { cls := (.type "tuple"), dict := none, data := (.seq #[] 0), slots := #[] }
noncomputable def o312S3 (P : Params) : Obj := { cls := (.type "builtin_function_or_method"), dict := none, data := (.fields #[(.builtin "type.__prepare__"), (.type "type")]), slots := #[] }
noncomputable def o313S3 (P : Params) : Obj := { cls := (.type "dict"), dict := none, data := (.dict #[de P "__module__" 1155 (.str "switchloom.llc" 1140), de P "__qualname__" 1157 (.str "Llc" 1156), de P "__firstlineno__" 1159 (.int 135 1158), de P "__init__" 1170 (.ref 324), de P "told" 1177 (.ref 331), de P "__static_attributes__" 1182 (.ref 332)] 6), slots := #[] }
noncomputable def o314S3 (P : Params) : Obj := { cls := (.type "tuple"), dict := none, data := (.seq #[] 0), slots := #[] }
noncomputable def o315S3 (P : Params) : Obj := { cls := .none, dict := none, data := (.fields #[(.int 137 0), (.int 4 0), (.ref 323), (.int 143 0), (.int 4 0), (.ref 330)]), slots := #[] }
noncomputable def o316S3 (P : Params) : Obj := { cls := (.type "code"), dict := none, data := (.fields #[(.str "Llc" 1150), (.str "Llc" 1151), (.str "/claim/cut.py" 1152), (.int 135 0), (.int 0 0), (.int 0 0), (.int 0 0), (.int 0 0), (.ref 314), (.bool false), (.int 181 0), (.ref 315), .none, .none, .none, .none, (.int 1153 0), (.int 135 0), (.str "/claim/cut.py" 1154)]), slots := #[] }
noncomputable def o317S3 (P : Params) : Obj := { cls := (.type "frame"), dict := none, data := .plain, slots := #[(some (.ref 316)), (some (.ref 3)), (some (.ref 313)), none, (some (.str "switchloom.llc" 1140)), none, (some (.ref 0))] }
noncomputable def o318S3 (P : Params) : Obj := { cls := (.type "tuple"), dict := none, data := (.seq #[] 0), slots := #[] }
noncomputable def o319S3 (P : Params) : Obj := { cls := .none, dict := none, data := (.fields #[]), slots := #[] }
noncomputable def o320S3 (P : Params) : Obj := { cls := (.type "tuple"), dict := none, data := (.seq #[(.str "self" 1163), (.str "dsap" 1164), (.str "ssap" 1165), (.str "control" 1166), (.str "payload" 1167)] 0), slots := #[] }
noncomputable def o321S3 (P : Params) : Obj := { cls := (.type "tuple"), dict := none, data := (.seq #[] 0), slots := #[] }
noncomputable def o322S3 (P : Params) : Obj := { cls := .none, dict := none, data := (fdat (mdef 42 0) "__init__" "Llc.__init__" 0 [] .none .none .none .none none .none .none 0), slots := #[] }
noncomputable def o323S3 (P : Params) : Obj := { cls := (.type "code"), dict := none, data := (.fields #[(.str "__init__" 1160), (.str "Llc.__init__" 1161), (.str "/claim/cut.py" 1162), (.int 137 0), (.int 5 0), (.int 0 0), (.int 0 0), (.int 3 0), (.ref 318), (.bool true), (.int 181 0), (.ref 319), .none, (.ref 320), (.ref 321), (.ref 322), (.int 1168 0), (.int 137 0), (.str "/claim/cut.py" 1169)]), slots := #[] }
noncomputable def o324S3 (P : Params) : Obj := { cls := (.type "function"), dict := none, data := (fdat (mdef 42 0) "__init__" "Llc.__init__" 3 [] .none .none .none (.str "switchloom.llc" 1140) none (.ref 323) .none 0), slots := #[] }
noncomputable def o325S3 (P : Params) : Obj := { cls := (.type "tuple"), dict := none, data := (.seq #[] 0), slots := #[] }
noncomputable def o326S3 (P : Params) : Obj := { cls := .none, dict := none, data := (.fields #[]), slots := #[] }
noncomputable def o327S3 (P : Params) : Obj := { cls := (.type "tuple"), dict := none, data := (.seq #[(.str "self" 1174)] 0), slots := #[] }
noncomputable def o328S3 (P : Params) : Obj := { cls := (.type "tuple"), dict := none, data := (.seq #[] 0), slots := #[] }
noncomputable def o329S3 (P : Params) : Obj := { cls := .none, dict := none, data := (fdat (mdef 42 1) "told" "Llc.told" 0 [] .none .none .none .none none .none .none 0), slots := #[] }
noncomputable def o330S3 (P : Params) : Obj := { cls := (.type "code"), dict := none, data := (.fields #[(.str "told" 1171), (.str "Llc.told" 1172), (.str "/claim/cut.py" 1173), (.int 143 0), (.int 1 0), (.int 0 0), (.int 0 0), (.int 3 0), (.ref 325), (.bool true), (.int 181 0), (.ref 326), .none, (.ref 327), (.ref 328), (.ref 329), (.int 1175 0), (.int 143 0), (.str "/claim/cut.py" 1176)]), slots := #[] }
noncomputable def o331S3 (P : Params) : Obj := { cls := (.type "function"), dict := none, data := (fdat (mdef 42 1) "told" "Llc.told" 3 [] .none .none .none (.str "switchloom.llc" 1140) none (.ref 330) .none 0), slots := #[] }
noncomputable def o332S3 (P : Params) : Obj := { cls := (.type "tuple"), dict := none, data := (.seq #[(.str "control" 1178), (.str "dsap" 1179), (.str "payload" 1180), (.str "ssap" 1181)] 0), slots := #[] }
noncomputable def o333S3 (P : Params) : Obj := { cls := (.type "dict"), dict := none, data := (.dict #[de P "__module__" 1155 (.str "switchloom.llc" 1140), de P "__firstlineno__" 1159 (.int 135 1158), de P "__init__" 1170 (.ref 324), de P "told" 1177 (.ref 331), de P "__static_attributes__" 1182 (.ref 332), de P "__dict__" 1184 (.ref 335), de P "__weakref__" 1186 (.ref 336), de P "__doc__" 1187 .none] 4), slots := #[] }
noncomputable def o334S3 (P : Params) : Obj := { cls := (.type "type"), dict := none, data := (.cls { name := "Llc", bases := [(.type "object")], mro := [(.ref 334), (.type "object")], ns := 333, qualname := "Llc", hasDict := true, slotNames := [], subclasses := [], abstract := false, collection := none, hasDel := false }), slots := #[none, none, (some (.str "Llc" 1148)), (some (.str "Llc" 1156)), (some (.builtin "object.__new__")), (some (.bool true))] }
noncomputable def o335S3 (P : Params) : Obj := { cls := (.type "getset_descriptor"), dict := none, data := (.fields #[(.str "__dict__" 1183), (.ref 334), (.builtin "function.__dict__"), (.builtin "function.__dict__#set")]), slots := #[] }
noncomputable def o336S3 (P : Params) : Obj := { cls := (.type "getset_descriptor"), dict := none, data := (.fields #[(.str "__weakref__" 1185), (.ref 334), (.builtin "ExceptionGroup.__weakref__"), .none]), slots := #[] }
noncomputable def o337S3 (P : Params) : Obj := { cls := (.type "super"), dict := none, data := (.fields #[(.ref 334), (.ref 334), (.ref 334)]), slots := #[] }
noncomputable def o338S3 (P : Params) : Obj := { cls := (.type "builtin_function_or_method"), dict := none, data := (.fields #[(.builtin "object.__init_subclass__"), (.ref 334)]), slots := #[] }
noncomputable def o339S3 (P : Params) : Obj := { cls := (.type "tuple"), dict := none, data := (.seq #[] 0), slots := #[] }
noncomputable def o340S3 (P : Params) : Obj := { cls := .none, dict := none, data := (.fields #[]), slots := #[] }
noncomputable def o341S3 (P : Params) : Obj := { cls := (.type "tuple"), dict := none, data := (.seq #[(.str "octet" 1193)] 0), slots := #[] }
noncomputable def o342S3 (P : Params) : Obj := { cls := (.type "tuple"), dict := none, data := (.seq #[] 0), slots := #[] }
noncomputable def o343S3 (P : Params) : Obj := { cls := .none, dict := none, data := (fdat (fdef 43) "is_short_control" "is_short_control" 0 [] .none .none .none .none none .none .none 0), slots := #[] }
noncomputable def o344S3 (P : Params) : Obj := { cls := (.type "code"), dict := none, data := (.fields #[(.str "is_short_control" 1190), (.str "is_short_control" 1191), (.str "/claim/cut.py" 1192), (.int 145 0), (.int 1 0), (.int 0 0), (.int 0 0), (.int 3 0), (.ref 339), (.bool true), (.int 181 0), (.ref 340), .none, (.ref 341), (.ref 342), (.ref 343), (.int 1194 0), (.int 145 0), (.str "/claim/cut.py" 1195)]), slots := #[] }
noncomputable def o345S3 (P : Params) : Obj := { cls := (.type "function"), dict := none, data := (fdat (fdef 43) "is_short_control" "is_short_control" 3 [] .none .none .none (.str "switchloom.llc" 1140) none (.ref 344) .none 0), slots := #[] }
noncomputable def o346S3 (P : Params) : Obj := { cls := (.type "tuple"), dict := none, data := (.seq #[] 0), slots := #[] }
noncomputable def o347S3 (P : Params) : Obj := { cls := .none, dict := none, data := (.fields #[]), slots := #[] }
noncomputable def o348S3 (P : Params) : Obj := { cls := (.type "tuple"), dict := none, data := (.seq #[(.str "link" 1200), (.str "control" 1201)] 0), slots := #[] }
noncomputable def o349S3 (P : Params) : Obj := { cls := (.type "tuple"), dict := none, data := (.seq #[] 0), slots := #[] }
noncomputable def o350S3 (P : Params) : Obj := { cls := .none, dict := none, data := (fdat (fdef 44) "pack_llc" "pack_llc" 0 [] .none .none .none .none none .none .none 0), slots := #[] }
noncomputable def o351S3 (P : Params) : Obj := { cls := (.type "code"), dict := none, data := (.fields #[(.str "pack_llc" 1197), (.str "pack_llc" 1198), (.str "/claim/cut.py" 1199), (.int 147 0), (.int 1 0), (.int 0 0), (.int 0 0), (.int 3 0), (.ref 346), (.bool true), (.int 181 0), (.ref 347), .none, (.ref 348), (.ref 349), (.ref 350), (.int 1202 0), (.int 147 0), (.str "/claim/cut.py" 1203)]), slots := #[] }
noncomputable def o352S3 (P : Params) : Obj := { cls := (.type "function"), dict := none, data := (fdat (fdef 44) "pack_llc" "pack_llc" 3 [] .none .none .none (.str "switchloom.llc" 1140) none (.ref 351) .none 0), slots := #[] }
noncomputable def o353S3 (P : Params) : Obj := { cls := (.type "tuple"), dict := none, data := (.seq #[] 0), slots := #[] }
noncomputable def o354S3 (P : Params) : Obj := { cls := .none, dict := none, data := (.fields #[]), slots := #[] }
noncomputable def o355S3 (P : Params) : Obj := { cls := (.type "tuple"), dict := none, data := (.seq #[(.str "octets" 1208), (.str "first" 1209)] 0), slots := #[] }
noncomputable def o356S3 (P : Params) : Obj := { cls := (.type "tuple"), dict := none, data := (.seq #[] 0), slots := #[] }
noncomputable def o357S3 (P : Params) : Obj := { cls := .none, dict := none, data := (fdat (fdef 45) "unpack_llc" "unpack_llc" 0 [] .none .none .none .none none .none .none 0), slots := #[] }
noncomputable def o358S3 (P : Params) : Obj := { cls := (.type "code"), dict := none, data := (.fields #[(.str "unpack_llc" 1205), (.str "unpack_llc" 1206), (.str "/claim/cut.py" 1207), (.int 155 0), (.int 1 0), (.int 0 0), (.int 0 0), (.int 3 0), (.ref 353), (.bool true), (.int 181 0), (.ref 354), .none, (.ref 355), (.ref 356), (.ref 357), (.int 1210 0), (.int 155 0), (.str "/claim/cut.py" 1211)]), slots := #[] }
noncomputable def o359S3 (P : Params) : Obj := { cls := (.type "function"), dict := none, data := (fdat (fdef 45) "unpack_llc" "unpack_llc" 3 [] .none .none .none (.str "switchloom.llc" 1140) none (.ref 358) .none 0), slots := #[] }
noncomputable def o360S3 (P : Params) : Obj := { cls := (.type "tuple"), dict := none, data := (.seq #[] 0), slots := #[] }
noncomputable def o361S3 (P : Params) : Obj := { cls := .none, dict := none, data := (.fields #[]), slots := #[] }
noncomputable def o362S3 (P : Params) : Obj := { cls := (.type "tuple"), dict := none, data := (.seq #[(.str "organisation" 1216), (.str "kind" 1217), (.str "payload" 1218)] 0), slots := #[] }
noncomputable def o363S3 (P : Params) : Obj := { cls := (.type "tuple"), dict := none, data := (.seq #[] 0), slots := #[] }
noncomputable def o364S3 (P : Params) : Obj := { cls := .none, dict := none, data := (fdat (fdef 46) "pack_snap" "pack_snap" 0 [] .none .none .none .none none .none .none 0), slots := #[] }
noncomputable def o365S3 (P : Params) : Obj := { cls := (.type "code"), dict := none, data := (.fields #[(.str "pack_snap" 1213), (.str "pack_snap" 1214), (.str "/claim/cut.py" 1215), (.int 160 0), (.int 3 0), (.int 0 0), (.int 0 0), (.int 3 0), (.ref 360), (.bool true), (.int 181 0), (.ref 361), .none, (.ref 362), (.ref 363), (.ref 364), (.int 1219 0), (.int 160 0), (.str "/claim/cut.py" 1220)]), slots := #[] }
noncomputable def o366S3 (P : Params) : Obj := { cls := (.type "function"), dict := none, data := (fdat (fdef 46) "pack_snap" "pack_snap" 3 [] .none .none .none (.str "switchloom.llc" 1140) none (.ref 365) .none 0), slots := #[] }
noncomputable def o367S3 (P : Params) : Obj := { cls := (.type "tuple"), dict := none, data := (.seq #[] 0), slots := #[] }
noncomputable def o368S3 (P : Params) : Obj := { cls := .none, dict := none, data := (.fields #[]), slots := #[] }
noncomputable def o369S3 (P : Params) : Obj := { cls := (.type "tuple"), dict := none, data := (.seq #[(.str "link" 1225)] 0), slots := #[] }
noncomputable def o370S3 (P : Params) : Obj := { cls := (.type "tuple"), dict := none, data := (.seq #[] 0), slots := #[] }
noncomputable def o371S3 (P : Params) : Obj := { cls := .none, dict := none, data := (fdat (fdef 47) "unpack_snap" "unpack_snap" 0 [] .none .none .none .none none .none .none 0), slots := #[] }
noncomputable def o372S3 (P : Params) : Obj := { cls := (.type "code"), dict := none, data := (.fields #[(.str "unpack_snap" 1222), (.str "unpack_snap" 1223), (.str "/claim/cut.py" 1224), (.int 162 0), (.int 1 0), (.int 0 0), (.int 0 0), (.int 3 0), (.ref 367), (.bool true), (.int 181 0), (.ref 368), .none, (.ref 369), (.ref 370), (.ref 371), (.int 1226 0), (.int 162 0), (.str "/claim/cut.py" 1227)]), slots := #[] }
noncomputable def o373S3 (P : Params) : Obj := { cls := (.type "function"), dict := none, data := (fdat (fdef 47) "unpack_snap" "unpack_snap" 3 [] .none .none .none (.str "switchloom.llc" 1140) none (.ref 372) .none 0), slots := #[] }
noncomputable def o374S3 (P : Params) : Obj := { cls := (.type "tuple"), dict := none, data := (.seq #[] 0), slots := #[] }
noncomputable def o375S3 (P : Params) : Obj := { cls := .none, dict := none, data := (.fields #[]), slots := #[] }
noncomputable def o376S3 (P : Params) : Obj := { cls := (.type "tuple"), dict := none, data := (.seq #[(.str "target" 1232), (.str "source" 1233), (.str "tags" 1234), (.str "link" 1235)] 0), slots := #[] }
noncomputable def o377S3 (P : Params) : Obj := { cls := (.type "tuple"), dict := none, data := (.seq #[] 0), slots := #[] }
noncomputable def o378S3 (P : Params) : Obj := { cls := .none, dict := none, data := (fdat (fdef 48) "link_frame" "link_frame" 0 [] .none .none .none .none none .none .none 0), slots := #[] }
noncomputable def o379S3 (P : Params) : Obj := { cls := (.type "code"), dict := none, data := (.fields #[(.str "link_frame" 1229), (.str "link_frame" 1230), (.str "/claim/cut.py" 1231), (.int 168 0), (.int 4 0), (.int 0 0), (.int 0 0), (.int 3 0), (.ref 374), (.bool true), (.int 181 0), (.ref 375), .none, (.ref 376), (.ref 377), (.ref 378), (.int 1236 0), (.int 168 0), (.str "/claim/cut.py" 1237)]), slots := #[] }
noncomputable def o380S3 (P : Params) : Obj := { cls := (.type "function"), dict := none, data := (fdat (fdef 48) "link_frame" "link_frame" 3 [] .none .none .none (.str "switchloom.llc" 1140) none (.ref 379) .none 0), slots := #[] }
noncomputable def o381S3 (P : Params) : Obj := { cls := (.type "tuple"), dict := none, data := (.seq #[] 0), slots := #[] }
noncomputable def o382S3 (P : Params) : Obj := { cls := .none, dict := none, data := (.fields #[]), slots := #[] }
noncomputable def o383S3 (P : Params) : Obj := { cls := (.type "tuple"), dict := none, data := (.seq #[(.str "script" 1244), (.str "k" 1245), (.str "cell" 1246), (.str "size" 1247), (.str "stirred" 1248)] 0), slots := #[] }
noncomputable def o384S3 (P : Params) : Obj := { cls := (.type "tuple"), dict := none, data := (.seq #[] 0), slots := #[] }
noncomputable def o385S3 (P : Params) : Obj := { cls := .none, dict := none, data := (fdat (fdef 50) "_law_pool" "_law_pool" 0 [] .none .none .none .none none .none .none 0), slots := #[] }
noncomputable def o386S3 (P : Params) : Obj := { cls := (.type "code"), dict := none, data := (.fields #[(.str "_law_pool" 1241), (.str "_law_pool" 1242), (.str "/claim/cut.py" 1243), (.int 171 0), (.int 2 0), (.int 0 0), (.int 0 0), (.int 3 0), (.ref 381), (.bool true), (.int 181 0), (.ref 382), .none, (.ref 383), (.ref 384), (.ref 385), (.int 1249 0), (.int 171 0), (.str "/claim/cut.py" 1250)]), slots := #[] }
noncomputable def o387S3 (P : Params) : Obj := { cls := (.type "function"), dict := none, data := (fdat (fdef 50) "_law_pool" "_law_pool" 3 [] .none .none .none (.str "law_pb0555_01" 1239) none (.ref 386) .none 0), slots := #[] }
noncomputable def o388S3 (P : Params) : Obj := { cls := (.type "tuple"), dict := none, data := (.seq #[] 0), slots := #[] }
noncomputable def o389S3 (P : Params) : Obj := { cls := .none, dict := none, data := (.fields #[]), slots := #[] }
noncomputable def o390S3 (P : Params) : Obj := { cls := (.type "tuple"), dict := none, data := (.seq #[(.str "source" 1255), (.str "top" 1256), (.str "drawn" 1257)] 0), slots := #[] }
noncomputable def o391S3 (P : Params) : Obj := { cls := (.type "tuple"), dict := none, data := (.seq #[] 0), slots := #[] }
noncomputable def o392S3 (P : Params) : Obj := { cls := .none, dict := none, data := (fdat (fdef 51) "_law_take" "_law_take" 0 [] .none .none .none .none none .none .none 0), slots := #[] }
noncomputable def o393S3 (P : Params) : Obj := { cls := (.type "code"), dict := none, data := (.fields #[(.str "_law_take" 1252), (.str "_law_take" 1253), (.str "/claim/cut.py" 1254), (.int 176 0), (.int 2 0), (.int 0 0), (.int 0 0), (.int 3 0), (.ref 388), (.bool true), (.int 181 0), (.ref 389), .none, (.ref 390), (.ref 391), (.ref 392), (.int 1258 0), (.int 176 0), (.str "/claim/cut.py" 1259)]), slots := #[] }
noncomputable def o394S3 (P : Params) : Obj := { cls := (.type "function"), dict := none, data := (fdat (fdef 51) "_law_take" "_law_take" 3 [] .none .none .none (.str "law_pb0555_01" 1239) none (.ref 393) .none 0), slots := #[] }
noncomputable def o395S3 (P : Params) : Obj := { cls := (.type "tuple"), dict := none, data := (.seq #[] 0), slots := #[] }
noncomputable def o396S3 (P : Params) : Obj := { cls := .none, dict := none, data := (.fields #[]), slots := #[] }
noncomputable def o397S3 (P : Params) : Obj := { cls := (.type "tuple"), dict := none, data := (.seq #[(.str "source" 1264), (.str "things" 1265)] 0), slots := #[] }
noncomputable def o398S3 (P : Params) : Obj := { cls := (.type "tuple"), dict := none, data := (.seq #[] 0), slots := #[] }
noncomputable def o399S3 (P : Params) : Obj := { cls := .none, dict := none, data := (fdat (fdef 52) "_law_one" "_law_one" 0 [] .none .none .none .none none .none .none 0), slots := #[] }
noncomputable def o400S3 (P : Params) : Obj := { cls := (.type "code"), dict := none, data := (.fields #[(.str "_law_one" 1261), (.str "_law_one" 1262), (.str "/claim/cut.py" 1263), (.int 183 0), (.int 2 0), (.int 0 0), (.int 0 0), (.int 3 0), (.ref 395), (.bool true), (.int 181 0), (.ref 396), .none, (.ref 397), (.ref 398), (.ref 399), (.int 1266 0), (.int 183 0), (.str "/claim/cut.py" 1267)]), slots := #[] }
noncomputable def o401S3 (P : Params) : Obj := { cls := (.type "function"), dict := none, data := (fdat (fdef 52) "_law_one" "_law_one" 3 [] .none .none .none (.str "law_pb0555_01" 1239) none (.ref 400) .none 0), slots := #[] }
noncomputable def o402S3 (P : Params) : Obj := { cls := (.type "tuple"), dict := none, data := (.seq #[] 0), slots := #[] }
noncomputable def o403S3 (P : Params) : Obj := { cls := .none, dict := none, data := (.fields #[]), slots := #[] }
noncomputable def o404S3 (P : Params) : Obj := { cls := (.type "tuple"), dict := none, data := (.seq #[(.str "call" 1272)] 0), slots := #[] }
noncomputable def o405S3 (P : Params) : Obj := { cls := (.type "tuple"), dict := none, data := (.seq #[] 0), slots := #[] }
noncomputable def o406S3 (P : Params) : Obj := { cls := .none, dict := none, data := (fdat (fdef 53) "_law_heard" "_law_heard" 0 [] .none .none .none .none none .none .none 0), slots := #[] }
noncomputable def o407S3 (P : Params) : Obj := { cls := (.type "code"), dict := none, data := (.fields #[(.str "_law_heard" 1269), (.str "_law_heard" 1270), (.str "/claim/cut.py" 1271), (.int 185 0), (.int 1 0), (.int 0 0), (.int 0 0), (.int 3 0), (.ref 402), (.bool true), (.int 181 0), (.ref 403), .none, (.ref 404), (.ref 405), (.ref 406), (.int 1273 0), (.int 185 0), (.str "/claim/cut.py" 1274)]), slots := #[] }
noncomputable def o408S3 (P : Params) : Obj := { cls := (.type "function"), dict := none, data := (fdat (fdef 53) "_law_heard" "_law_heard" 3 [] .none .none .none (.str "law_pb0555_01" 1239) none (.ref 407) .none 0), slots := #[] }
noncomputable def o409S3 (P : Params) : Obj := { cls := (.type "tuple"), dict := none, data := (.seq #[] 0), slots := #[] }
noncomputable def o410S3 (P : Params) : Obj := { cls := .none, dict := none, data := (.fields #[]), slots := #[] }
noncomputable def o411S3 (P : Params) : Obj := { cls := (.type "tuple"), dict := none, data := (.seq #[(.str "source" 1279), (.str "first" 1280), (.str "second" 1281), (.str "number" 1282)] 0), slots := #[] }
noncomputable def o412S3 (P : Params) : Obj := { cls := (.type "tuple"), dict := none, data := (.seq #[] 0), slots := #[] }
noncomputable def o413S3 (P : Params) : Obj := { cls := .none, dict := none, data := (fdat (fdef 54) "_law_control" "_law_control" 0 [] .none .none .none .none none .none .none 0), slots := #[] }
noncomputable def o414S3 (P : Params) : Obj := { cls := (.type "code"), dict := none, data := (.fields #[(.str "_law_control" 1276), (.str "_law_control" 1277), (.str "/claim/cut.py" 1278), (.int 192 0), (.int 1 0), (.int 0 0), (.int 0 0), (.int 3 0), (.ref 409), (.bool true), (.int 181 0), (.ref 410), .none, (.ref 411), (.ref 412), (.ref 413), (.int 1283 0), (.int 192 0), (.str "/claim/cut.py" 1284)]), slots := #[] }
noncomputable def o415S3 (P : Params) : Obj := { cls := (.type "function"), dict := none, data := (fdat (fdef 54) "_law_control" "_law_control" 3 [] .none .none .none (.str "law_pb0555_01" 1239) none (.ref 414) .none 0), slots := #[] }
noncomputable def o416S3 (P : Params) : Obj := { cls := (.type "tuple"), dict := none, data := (.seq #[] 0), slots := #[] }
noncomputable def o417S3 (P : Params) : Obj := { cls := .none, dict := none, data := (.fields #[]), slots := #[] }
noncomputable def o418S3 (P : Params) : Obj := { cls := .none, dict := none, data := (fdat (fdef 55) "_law_octets" "_law_octets" 0 [] .none .none .none .none none .none .none 0), slots := #[] }
noncomputable def o419S3 (P : Params) : Obj := { cls := (.type "code"), dict := none, data := (.fields #[(.str "_law_octets" 1286), (.str "_law_octets" 1287), (.str "/claim/cut.py" 1288), (.int 198 0), (.int 1 0), (.int 0 0), (.int 0 0), (.int 3 0), (.ref 416), (.bool true), (.int 181 0), (.ref 417), .none, .none, .none, (.ref 418), (.int 1289 0), (.int 198 0), (.str "/claim/cut.py" 1290)]), slots := #[] }
noncomputable def o420S3 (P : Params) : Obj := { cls := (.type "function"), dict := none, data := (fdat (fdef 55) "_law_octets" "_law_octets" 3 [] .none .none .none (.str "law_pb0555_01" 1239) none (.ref 419) .none 0), slots := #[] }
noncomputable def o421S3 (P : Params) : Obj := { cls := (.type "tuple"), dict := none, data := (.seq #[] 0), slots := #[] }
noncomputable def o422S3 (P : Params) : Obj := { cls := .none, dict := none, data := (.fields #[]), slots := #[] }
noncomputable def o423S3 (P : Params) : Obj := { cls := (.type "tuple"), dict := none, data := (.seq #[(.str "source" 1295), (.str "control" 1296), (.str "laid" 1297), (.str "points" 1298), (.str "payload" 1299), (.str "told" 1300), (.str "back" 1301)] 0), slots := #[] }
noncomputable def o424S3 (P : Params) : Obj := { cls := (.type "tuple"), dict := none, data := (.seq #[(.str "head" 1302), (.str "short" 1303)] 0), slots := #[] }
noncomputable def o425S3 (P : Params) : Obj := { cls := .none, dict := none, data := (fdat (fdef 56) "_law_head_right" "_law_head_right" 0 [] .none .none .none .none none .none .none 0), slots := #[] }
noncomputable def o426S3 (P : Params) : Obj := { cls := (.type "code"), dict := none, data := (.fields #[(.str "_law_head_right" 1292), (.str "_law_head_right" 1293), (.str "/claim/cut.py" 1294), (.int 200 0), (.int 1 0), (.int 0 0), (.int 0 0), (.int 3 0), (.ref 421), (.bool true), (.int 181 0), (.ref 422), .none, (.ref 423), (.ref 424), (.ref 425), (.int 1304 0), (.int 200 0), (.str "/claim/cut.py" 1305)]), slots := #[] }
noncomputable def o427S3 (P : Params) : Obj := { cls := (.type "function"), dict := none, data := (fdat (fdef 56) "_law_head_right" "_law_head_right" 3 [] .none .none .none (.str "law_pb0555_01" 1239) none (.ref 426) .none 0), slots := #[] }
noncomputable def o428S3 (P : Params) : Obj := { cls := (.type "tuple"), dict := none, data := (.seq #[] 0), slots := #[] }
noncomputable def o429S3 (P : Params) : Obj := { cls := .none, dict := none, data := (.fields #[]), slots := #[] }
noncomputable def o430S3 (P : Params) : Obj := { cls := (.type "tuple"), dict := none, data := (.seq #[(.str "source" 1310), (.str "head" 1311), (.str "place" 1312), (.str "other" 1313), (.str "frame" 1314)] 0), slots := #[] }
noncomputable def o431S3 (P : Params) : Obj := { cls := (.type "tuple"), dict := none, data := (.seq #[(.str "source" 1315), (.str "kind" 1316), (.str "laid" 1317), (.str "owner" 1318), (.str "payload" 1319)] 0), slots := #[] }
noncomputable def o432S3 (P : Params) : Obj := { cls := .none, dict := none, data := (fdat (fdef 57) "_law_kind_right" "_law_kind_right" 0 [] .none .none .none .none none .none .none 0), slots := #[] }
noncomputable def o433S3 (P : Params) : Obj := { cls := (.type "code"), dict := none, data := (.fields #[(.str "_law_kind_right" 1307), (.str "_law_kind_right" 1308), (.str "/claim/cut.py" 1309), (.int 215 0), (.int 1 0), (.int 0 0), (.int 0 0), (.int 3 0), (.ref 428), (.bool true), (.int 181 0), (.ref 429), .none, (.ref 430), (.ref 431), (.ref 432), (.int 1320 0), (.int 215 0), (.str "/claim/cut.py" 1321)]), slots := #[] }
noncomputable def o434S3 (P : Params) : Obj := { cls := (.type "function"), dict := none, data := (fdat (fdef 57) "_law_kind_right" "_law_kind_right" 3 [] .none .none .none (.str "law_pb0555_01" 1239) none (.ref 433) .none 0), slots := #[] }
noncomputable def o435S3 (P : Params) : Obj := { cls := (.type "tuple"), dict := none, data := (.seq #[] 0), slots := #[] }
noncomputable def o436S3 (P : Params) : Obj := { cls := .none, dict := none, data := (.fields #[]), slots := #[] }
noncomputable def o437S3 (P : Params) : Obj := { cls := (.type "tuple"), dict := none, data := (.seq #[(.str "script" 1326), (.str "k" 1327), (.str "source" 1328)] 0), slots := #[] }
noncomputable def o438S3 (P : Params) : Obj := { cls := (.type "tuple"), dict := none, data := (.seq #[] 0), slots := #[] }
noncomputable def o439S3 (P : Params) : Obj := { cls := .none, dict := none, data := (fdat (fdef 58) "law" "law" 0 [] .none .none .none .none none .none .none 0), slots := #[] }
noncomputable def o440S3 (P : Params) : Obj := { cls := (.type "code"), dict := none, data := (.fields #[(.str "law" 1323), (.str "law" 1324), (.str "/claim/cut.py" 1325), (.int 231 0), (.int 1 0), (.int 0 0), (.int 0 0), (.int 3 0), (.ref 435), (.bool true), (.int 181 0), (.ref 436), .none, (.ref 437), (.ref 438), (.ref 439), (.int 1329 0), (.int 231 0), (.str "/claim/cut.py" 1330)]), slots := #[] }
noncomputable def o441S3 (P : Params) : Obj := { cls := (.type "function"), dict := none, data := (fdat (fdef 58) "law" "law" 3 [] .none .none .none (.str "law_pb0555_01" 1239) none (.ref 440) .none 0), slots := #[] }
noncomputable def l0S3 (P : Params) : List Obj := [(boot_o_0 P), (boot_o_1 P), (o2S1 P), (o3S3 P), (boot_o_4 P), (boot_o_5 P), (boot_o_6 P), (boot_o_7 P)]
noncomputable def l1S3 (P : Params) : List Obj := [(boot_o_8 P), (boot_o_9 P), (boot_o_10 P), (o11S0 P), (o12S3 P), (o13S0 P), (o14S0 P), (o15S1 P)]
noncomputable def l2S3 (P : Params) : List Obj := [(o16S1 P), (o17S1 P), (o18S1 P), (o19S1 P), (o20S1 P), (o21S1 P), (o22S1 P), (o23S1 P)]
noncomputable def l3S3 (P : Params) : List Obj := [(o24S1 P), (o25S1 P), (o26S1 P), (o27S1 P), (o28S1 P), (o29S1 P), (o30S1 P), (o31S1 P)]
noncomputable def l4S3 (P : Params) : List Obj := [(o32S1 P), (o33S1 P), (o34S1 P), (o35S1 P), (o36S1 P), (o37S1 P), (o38S1 P), (o39S1 P)]
noncomputable def l5S3 (P : Params) : List Obj := [(o40S1 P), (o41S1 P), (o42S1 P), (o43S1 P), (o44S1 P), (o45S1 P), (o46S1 P), (o47S1 P)]
noncomputable def l6S3 (P : Params) : List Obj := [(o48S1 P), (o49S1 P), (o50S1 P), (o51S1 P), (o52S1 P), (o53S1 P), (o54S1 P), (o55S1 P)]
noncomputable def l7S3 (P : Params) : List Obj := [(o56S1 P), (o57S1 P), (o58S1 P), (o59S1 P), (o60S1 P), (o61S1 P), (o62S1 P), (o63S1 P)]
noncomputable def l8S3 (P : Params) : List Obj := [(o64S1 P), (o65S1 P), (o66SB P), (o67SB P), (o68SB P), (o69SB P), (o70SB P), (o71SB P)]
noncomputable def l9S3 (P : Params) : List Obj := [(o72SB P), (o73SB P), (o74SB P), (o75SB P), (o76SB P), (o77SB P), (o78SB P), (o79SB P)]
noncomputable def l10S3 (P : Params) : List Obj := [(o80SB P), (o81SB P), (o82SB P), (o83SB P), (o84SB P), (o85SB P), (o86SB P), (o87SB P)]
noncomputable def l11S3 (P : Params) : List Obj := [(o88SB P), (o89SB P), (o90SB P), (o91SB P), (o92SB P), (o93SB P), (o94SB P), (o95SB P)]
noncomputable def l12S3 (P : Params) : List Obj := [(o96SB P), (o97SB P), (o98SB P), (o99SB P), (o100SB P), (o101SB P), (o102SB P), (o103SB P)]
noncomputable def l13S3 (P : Params) : List Obj := [(o104SB P), (o105SB P), (o106SB P), (o107SB P), (o108SB P), (o109SB P), (o110SB P), (o111SB P)]
noncomputable def l14S3 (P : Params) : List Obj := [(o112SB P), (o113SB P), (o114SB P), (o115SB P), (o116SB P), (o117SB P), (o118SB P), (o119SB P)]
noncomputable def l15S3 (P : Params) : List Obj := [(o120SB P), (o121SB P), (o122SB P), (o123SB P), (o124SB P), (o125SB P), (o126SB P), (o127SB P)]
noncomputable def l16S3 (P : Params) : List Obj := [(o128SB P), (o129SB P), (o130SB P), (o131SB P), (o132SB P), (o133SB P), (o134SB P), (o135SB P)]
noncomputable def l17S3 (P : Params) : List Obj := [(o136SB P), (o137SB P), (o138SB P), (o139SB P), (o140SB P), (o141SB P), (o142SB P), (o143SB P)]
noncomputable def l18S3 (P : Params) : List Obj := [(o144SB P), (o145SB P), (o146SB P), (o147SB P), (o148SB P), (o149SB P), (o150SB P), (o151SB P)]
noncomputable def l19S3 (P : Params) : List Obj := [(o152SB P), (o153SB P), (o154S3 P), (o155S3 P), (o156S3 P), (o157S3 P), (o158S3 P), (o159S3 P)]
noncomputable def l20S3 (P : Params) : List Obj := [(o160S3 P), (o161S3 P), (o162S3 P), (o163S3 P), (o164S3 P), (o165S3 P), (o166S3 P), (o167S3 P)]
noncomputable def l21S3 (P : Params) : List Obj := [(o168S3 P), (o169S3 P), (o170S3 P), (o171S3 P), (o172S3 P), (o173S3 P), (o174S3 P), (o175S3 P)]
noncomputable def l22S3 (P : Params) : List Obj := [(o176S3 P), (o177S3 P), (o178S3 P), (o179S3 P), (o180S3 P), (o181S3 P), (o182S3 P), (o183S3 P)]
noncomputable def l23S3 (P : Params) : List Obj := [(o184S3 P), (o185S3 P), (o186S3 P), (o187S3 P), (o188S3 P), (o189S3 P), (o190S3 P), (o191S3 P)]
noncomputable def l24S3 (P : Params) : List Obj := [(o192S3 P), (o193S3 P), (o194S3 P), (o195S3 P), (o196S3 P), (o197S3 P), (o198S3 P), (o199S3 P)]
noncomputable def l25S3 (P : Params) : List Obj := [(o200S3 P), (o201S3 P), (o202S3 P), (o203S3 P), (o204S3 P), (o205S3 P), (o206S3 P), (o207S3 P)]
noncomputable def l26S3 (P : Params) : List Obj := [(o208S3 P), (o209S3 P), (o210S3 P), (o211S3 P), (o212S3 P), (o213S3 P), (o214S3 P), (o215S3 P)]
noncomputable def l27S3 (P : Params) : List Obj := [(o216S3 P), (o217S3 P), (o218S3 P), (o219S3 P), (o220S3 P), (o221S3 P), (o222S3 P), (o223S3 P)]
noncomputable def l28S3 (P : Params) : List Obj := [(o224S3 P), (o225S3 P), (o226S3 P), (o227S3 P), (o228S3 P), (o229S3 P), (o230S3 P), (o231S3 P)]
noncomputable def l29S3 (P : Params) : List Obj := [(o232S3 P), (o233S3 P), (o234S3 P), (o235S3 P), (o236S3 P), (o237S3 P), (o238S3 P), (o239S3 P)]
noncomputable def l30S3 (P : Params) : List Obj := [(o240S3 P), (o241S3 P), (o242S3 P), (o243S3 P), (o244S3 P), (o245S3 P), (o246S3 P), (o247S3 P)]
noncomputable def l31S3 (P : Params) : List Obj := [(o248S3 P), (o249S3 P), (o250S3 P), (o251S3 P), (o252S3 P), (o253S3 P), (o254S3 P), (o255S3 P)]
noncomputable def l32S3 (P : Params) : List Obj := [(o256S3 P), (o257S3 P), (o258S3 P), (o259S3 P), (o260S3 P), (o261S3 P), (o262S3 P), (o263S3 P)]
noncomputable def l33S3 (P : Params) : List Obj := [(o264S3 P), (o265S3 P), (o266S3 P), (o267S3 P), (o268S3 P), (o269S3 P), (o270S3 P), (o271S3 P)]
noncomputable def l34S3 (P : Params) : List Obj := [(o272S3 P), (o273S3 P), (o274S3 P), (o275S3 P), (o276S3 P), (o277S3 P), (o278S3 P), (o279S3 P)]
noncomputable def l35S3 (P : Params) : List Obj := [(o280S3 P), (o281S3 P), (o282S3 P), (o283S3 P), (o284S3 P), (o285S3 P), (o286S3 P), (o287S3 P)]
noncomputable def l36S3 (P : Params) : List Obj := [(o288S3 P), (o289S3 P), (o290S3 P), (o291S3 P), (o292S3 P), (o293S3 P), (o294S3 P), (o295S3 P)]
noncomputable def l37S3 (P : Params) : List Obj := [(o296S3 P), (o297S3 P), (o298S3 P), (o299S3 P), (o300S3 P), (o301S3 P), (o302S3 P), (o303S3 P)]
noncomputable def l38S3 (P : Params) : List Obj := [(o304S3 P), (o305S3 P), (o306S3 P), (o307S3 P), (o308S3 P), (o309S3 P), (o310S3 P), (o311S3 P)]
noncomputable def l39S3 (P : Params) : List Obj := [(o312S3 P), (o313S3 P), (o314S3 P), (o315S3 P), (o316S3 P), (o317S3 P), (o318S3 P), (o319S3 P)]
noncomputable def l40S3 (P : Params) : List Obj := [(o320S3 P), (o321S3 P), (o322S3 P), (o323S3 P), (o324S3 P), (o325S3 P), (o326S3 P), (o327S3 P)]
noncomputable def l41S3 (P : Params) : List Obj := [(o328S3 P), (o329S3 P), (o330S3 P), (o331S3 P), (o332S3 P), (o333S3 P), (o334S3 P), (o335S3 P)]
noncomputable def l42S3 (P : Params) : List Obj := [(o336S3 P), (o337S3 P), (o338S3 P), (o339S3 P), (o340S3 P), (o341S3 P), (o342S3 P), (o343S3 P)]
noncomputable def l43S3 (P : Params) : List Obj := [(o344S3 P), (o345S3 P), (o346S3 P), (o347S3 P), (o348S3 P), (o349S3 P), (o350S3 P), (o351S3 P)]
noncomputable def l44S3 (P : Params) : List Obj := [(o352S3 P), (o353S3 P), (o354S3 P), (o355S3 P), (o356S3 P), (o357S3 P), (o358S3 P), (o359S3 P)]
noncomputable def l45S3 (P : Params) : List Obj := [(o360S3 P), (o361S3 P), (o362S3 P), (o363S3 P), (o364S3 P), (o365S3 P), (o366S3 P), (o367S3 P)]
noncomputable def l46S3 (P : Params) : List Obj := [(o368S3 P), (o369S3 P), (o370S3 P), (o371S3 P), (o372S3 P), (o373S3 P), (o374S3 P), (o375S3 P)]
noncomputable def l47S3 (P : Params) : List Obj := [(o376S3 P), (o377S3 P), (o378S3 P), (o379S3 P), (o380S3 P), (o381S3 P), (o382S3 P), (o383S3 P)]
noncomputable def l48S3 (P : Params) : List Obj := [(o384S3 P), (o385S3 P), (o386S3 P), (o387S3 P), (o388S3 P), (o389S3 P), (o390S3 P), (o391S3 P)]
noncomputable def l49S3 (P : Params) : List Obj := [(o392S3 P), (o393S3 P), (o394S3 P), (o395S3 P), (o396S3 P), (o397S3 P), (o398S3 P), (o399S3 P)]
noncomputable def l50S3 (P : Params) : List Obj := [(o400S3 P), (o401S3 P), (o402S3 P), (o403S3 P), (o404S3 P), (o405S3 P), (o406S3 P), (o407S3 P)]
noncomputable def l51S3 (P : Params) : List Obj := [(o408S3 P), (o409S3 P), (o410S3 P), (o411S3 P), (o412S3 P), (o413S3 P), (o414S3 P), (o415S3 P)]
noncomputable def l52S3 (P : Params) : List Obj := [(o416S3 P), (o417S3 P), (o418S3 P), (o419S3 P), (o420S3 P), (o421S3 P), (o422S3 P), (o423S3 P)]
noncomputable def l53S3 (P : Params) : List Obj := [(o424S3 P), (o425S3 P), (o426S3 P), (o427S3 P), (o428S3 P), (o429S3 P), (o430S3 P), (o431S3 P)]
noncomputable def l54S3 (P : Params) : List Obj := [(o432S3 P), (o433S3 P), (o434S3 P), (o435S3 P), (o436S3 P), (o437S3 P), (o438S3 P), (o439S3 P)]
noncomputable def l55S3 (P : Params) : List Obj := [(o440S3 P), (o441S3 P)]
noncomputable def g0S3 (P : Params) : List Obj := l0S3 P ++ l1S3 P ++ l2S3 P ++ l3S3 P ++ l4S3 P ++ l5S3 P ++ l6S3 P ++ l7S3 P
noncomputable def g1S3 (P : Params) : List Obj := l8S3 P ++ l9S3 P ++ l10S3 P ++ l11S3 P ++ l12S3 P ++ l13S3 P ++ l14S3 P ++ l15S3 P
noncomputable def g2S3 (P : Params) : List Obj := l16S3 P ++ l17S3 P ++ l18S3 P ++ l19S3 P ++ l20S3 P ++ l21S3 P ++ l22S3 P ++ l23S3 P
noncomputable def g3S3 (P : Params) : List Obj := l24S3 P ++ l25S3 P ++ l26S3 P ++ l27S3 P ++ l28S3 P ++ l29S3 P ++ l30S3 P ++ l31S3 P
noncomputable def g4S3 (P : Params) : List Obj := l32S3 P ++ l33S3 P ++ l34S3 P ++ l35S3 P ++ l36S3 P ++ l37S3 P ++ l38S3 P ++ l39S3 P
noncomputable def g5S3 (P : Params) : List Obj := l40S3 P ++ l41S3 P ++ l42S3 P ++ l43S3 P ++ l44S3 P ++ l45S3 P ++ l46S3 P ++ l47S3 P
noncomputable def g6S3 (P : Params) : List Obj := l48S3 P ++ l49S3 P ++ l50S3 P ++ l51S3 P ++ l52S3 P ++ l53S3 P ++ l54S3 P ++ l55S3 P
noncomputable def lS3 (P : Params) : List Obj := g0S3 P ++ g1S3 P ++ g2S3 P ++ g3S3 P ++ g4S3 P ++ g5S3 P ++ g6S3 P
noncomputable def toksS3 : Nat := 1332
noncomputable def S0 (P : Params) (os : OsState) : SharedT := ⟨mkT (lS0 P), 15, (boot_heap P).life, #[], boot_drawn, 187, os⟩
noncomputable def SB (P : Params) (os : OsState) : SharedT := ⟨mkT (lSB P), 154, (boot_heap P).life, #[], boot_drawn, 908, os⟩
noncomputable def S3 (P : Params) (os : OsState) : SharedT := ⟨mkT (lS3 P), 442, (boot_heap P).life, #[], boot_drawn, 1332, os⟩

noncomputable def envT : Env := { scope := pw.main.scope, locals := mainNs, globals := mainNs, cells := [], code := .ref 13, frame := some 14 }
noncomputable def cE : Code := .body (behindTheImports pw) envT
noncomputable def BB : List Frame := [topFrame ⟨0, 0, 0, 0⟩]
noncomputable def G12 : List Stmt := pw.main.body.take 9
noncomputable def G3 : List Stmt := pw.main.body.drop 9
noncomputable abbrev annT : Option Value := some (.ref 6)
noncomputable def q0 : Pos := ⟨0, 0, 0, 0⟩
noncomputable def q2 : Pos := ⟨18, 0, 18, 10⟩
noncomputable def q3 : Pos := ⟨231, 0, 238, 15⟩
noncomputable def wrow (a b : Bool) (w : World) : World := (w.withFollow "comprehension-iter-twice" a).withFollow "special-get-raises" b
noncomputable def g0L (w : World) (os : OsState) : Option (Shared × Thread) := topGo treeTable pw w 11 annT 12 ⟨boot_heap w.params, #[], boot_drawn, boot_toks, os⟩ (topStub pw)
noncomputable def g0R (w : World) (os : OsState) : Option (Shared × Thread) := some ((S0 w.params os).abs, ⟨denote treeTable cE, cE, q0, BB⟩)
theorem g0L_self : g0L = g0L := rfl
theorem g0R_self : g0R = g0R := rfl
name_quick g0L for Mine.g0L by Mine.g0L_self
name_quick g0R for Mine.g0R by Mine.g0R_self
theorem g0 : ∀ (w : World) (os : OsState), g0L w os = g0R w os := by
  intro w os
  rw [PySem.W.Fast.g0L_eq, PySem.W.Fast.g0R_eq]
  kernel_rfl
noncomputable def b0L (w : World) (os : OsState) : Option (Flow × SharedT × Code × Pos) := segRunT treeTable pw w 11 annT 1 1 (S0 w.params os) (blockOf (behindTheImports pw) envT cE q0 BB)
noncomputable def b0R (w : World) (os : OsState) : Option (Flow × SharedT × Code × Pos) := some (.next, S0 w.params os, cE, q0)
theorem b0L_self : b0L = b0L := rfl
theorem b0R_self : b0R = b0R := rfl
name_quick b0L for Mine.b0L by Mine.b0L_self
name_quick b0R for Mine.b0R by Mine.b0R_self
theorem b0 : ∀ (w : World) (os : OsState), b0L w os = b0R w os := by
  intro w os
  rw [PySem.W.Fast.b0L_eq, PySem.W.Fast.b0R_eq]
  kernel_rfl
noncomputable def ettL (w : World) (os : OsState) : Option (Flow × SharedT × Code × Pos) := segRunT treeTable pw (wrow true true w) 11 annT 1 7000 (S0 w.params os) (piecesOf G12 envT cE q0 BB)
noncomputable def ettR (w : World) (os : OsState) : Option (Flow × SharedT × Code × Pos) := some (.next, SB w.params os, cE, q2)
theorem ettL_self : ettL = ettL := rfl
theorem ettR_self : ettR = ettR := rfl
name_quick ettL for Mine.ettL by Mine.ettL_self
name_quick ettR for Mine.ettR by Mine.ettR_self
theorem ett : ∀ (w : World) (os : OsState), ettL w os = ettR w os := by
  intro w os
  rw [PySem.W.Fast.ettL_eq, PySem.W.Fast.ettR_eq]
  kernel_rfl
noncomputable def etfL (w : World) (os : OsState) : Option (Flow × SharedT × Code × Pos) := segRunT treeTable pw (wrow true false w) 11 annT 1 7000 (S0 w.params os) (piecesOf G12 envT cE q0 BB)
noncomputable def etfR (w : World) (os : OsState) : Option (Flow × SharedT × Code × Pos) := some (.next, SB w.params os, cE, q2)
theorem etfL_self : etfL = etfL := rfl
theorem etfR_self : etfR = etfR := rfl
name_quick etfL for Mine.etfL by Mine.etfL_self
name_quick etfR for Mine.etfR by Mine.etfR_self
theorem etf : ∀ (w : World) (os : OsState), etfL w os = etfR w os := by
  intro w os
  rw [PySem.W.Fast.etfL_eq, PySem.W.Fast.etfR_eq]
  kernel_rfl
noncomputable def eftL (w : World) (os : OsState) : Option (Flow × SharedT × Code × Pos) := segRunT treeTable pw (wrow false true w) 11 annT 1 7000 (S0 w.params os) (piecesOf G12 envT cE q0 BB)
noncomputable def eftR (w : World) (os : OsState) : Option (Flow × SharedT × Code × Pos) := some (.next, SB w.params os, cE, q2)
theorem eftL_self : eftL = eftL := rfl
theorem eftR_self : eftR = eftR := rfl
name_quick eftL for Mine.eftL by Mine.eftL_self
name_quick eftR for Mine.eftR by Mine.eftR_self
theorem eft : ∀ (w : World) (os : OsState), eftL w os = eftR w os := by
  intro w os
  rw [PySem.W.Fast.eftL_eq, PySem.W.Fast.eftR_eq]
  kernel_rfl
noncomputable def effL (w : World) (os : OsState) : Option (Flow × SharedT × Code × Pos) := segRunT treeTable pw (wrow false false w) 11 annT 1 7000 (S0 w.params os) (piecesOf G12 envT cE q0 BB)
noncomputable def effR (w : World) (os : OsState) : Option (Flow × SharedT × Code × Pos) := some (.next, SB w.params os, cE, q2)
theorem effL_self : effL = effL := rfl
theorem effR_self : effR = effR := rfl
name_quick effL for Mine.effL by Mine.effL_self
name_quick effR for Mine.effR by Mine.effR_self
theorem eff : ∀ (w : World) (os : OsState), effL w os = effR w os := by
  intro w os
  rw [PySem.W.Fast.effL_eq, PySem.W.Fast.effR_eq]
  kernel_rfl
noncomputable def e3L (w : World) (os : OsState) : Option (Flow × SharedT × Code × Pos) := segRunT treeTable pw w 11 annT 1 2000 (SB w.params os) (piecesOf G3 envT cE q2 BB)
noncomputable def e3R (w : World) (os : OsState) : Option (Flow × SharedT × Code × Pos) := some (.next, S3 w.params os, cE, q3)
theorem e3L_self : e3L = e3L := rfl
theorem e3R_self : e3R = e3R := rfl
name_quick e3L for Mine.e3L by Mine.e3L_self
name_quick e3R for Mine.e3R by Mine.e3R_self
theorem e3 : ∀ (w : World) (os : OsState), e3L w os = e3R w os := by
  intro w os
  rw [PySem.W.Fast.e3L_eq, PySem.W.Fast.e3R_eq]
  kernel_rfl
end

-- part HeadD
noncomputable section

noncomputable def KH (P : Params) : Frag := (nat_lit 2, o2S1 P) :: (nat_lit 3, o3S3 P) :: (nat_lit 15, o15S1 P) :: (nat_lit 22, o22S1 P) :: (nat_lit 24, o24S1 P) :: (nat_lit 25, o25S1 P) :: (nat_lit 27, o27S1 P) :: (nat_lit 28, o28S1 P) :: (nat_lit 29, o29S1 P) :: (nat_lit 30, o30S1 P) :: (nat_lit 31, o31S1 P) :: (nat_lit 32, o32S1 P) :: (nat_lit 35, o35S1 P) :: (nat_lit 42, o42S1 P) :: (nat_lit 43, o43S1 P) :: (nat_lit 44, o44S1 P) :: (nat_lit 47, o47S1 P) :: (nat_lit 54, o54S1 P) :: (nat_lit 55, o55S1 P) :: (nat_lit 56, o56S1 P) :: (nat_lit 153, o153SB P) :: (nat_lit 154, o154S3 P) :: (nat_lit 156, o156S3 P) :: (nat_lit 157, o157S3 P) :: (nat_lit 159, o159S3 P) :: (nat_lit 160, o160S3 P) :: (nat_lit 161, o161S3 P) :: (nat_lit 164, o164S3 P) :: (nat_lit 165, o165S3 P) :: (nat_lit 166, o166S3 P) :: (nat_lit 169, o169S3 P) :: (nat_lit 170, o170S3 P) :: (nat_lit 171, o171S3 P) :: (nat_lit 173, o173S3 P) :: (nat_lit 174, o174S3 P) :: (nat_lit 176, o176S3 P) :: (nat_lit 177, o177S3 P) :: (nat_lit 178, o178S3 P) :: (nat_lit 180, o180S3 P) :: (nat_lit 181, o181S3 P) :: (nat_lit 183, o183S3 P) :: (nat_lit 184, o184S3 P) :: (nat_lit 185, o185S3 P) :: (nat_lit 187, o187S3 P) :: (nat_lit 188, o188S3 P) :: (nat_lit 190, o190S3 P) :: (nat_lit 191, o191S3 P) :: (nat_lit 192, o192S3 P) :: (nat_lit 194, o194S3 P) :: (nat_lit 195, o195S3 P) :: (nat_lit 197, o197S3 P) :: (nat_lit 198, o198S3 P) :: (nat_lit 199, o199S3 P) :: (nat_lit 201, o201S3 P) :: (nat_lit 202, o202S3 P) :: (nat_lit 204, o204S3 P) :: (nat_lit 205, o205S3 P) :: (nat_lit 206, o206S3 P) :: (nat_lit 214, o214S3 P) :: (nat_lit 216, o216S3 P) :: (nat_lit 217, o217S3 P) :: (nat_lit 219, o219S3 P) :: (nat_lit 220, o220S3 P) :: (nat_lit 221, o221S3 P) :: (nat_lit 223, o223S3 P) :: (nat_lit 224, o224S3 P) :: (nat_lit 226, o226S3 P) :: (nat_lit 227, o227S3 P) :: (nat_lit 228, o228S3 P) :: (nat_lit 229, o229S3 P) :: (nat_lit 230, o230S3 P) :: (nat_lit 231, o231S3 P) :: (nat_lit 232, o232S3 P) :: (nat_lit 242, o242S3 P) :: (nat_lit 244, o244S3 P) :: (nat_lit 245, o245S3 P) :: (nat_lit 247, o247S3 P) :: (nat_lit 248, o248S3 P) :: (nat_lit 249, o249S3 P) :: (nat_lit 252, o252S3 P) :: (nat_lit 253, o253S3 P) :: (nat_lit 254, o254S3 P) :: (nat_lit 255, o255S3 P) :: (nat_lit 257, o257S3 P) :: (nat_lit 258, o258S3 P) :: (nat_lit 260, o260S3 P) :: (nat_lit 261, o261S3 P) :: (nat_lit 262, o262S3 P) :: (nat_lit 263, o263S3 P) :: (nat_lit 264, o264S3 P) :: (nat_lit 265, o265S3 P) :: (nat_lit 266, o266S3 P) :: (nat_lit 269, o269S3 P) :: (nat_lit 271, o271S3 P) :: (nat_lit 272, o272S3 P) :: (nat_lit 274, o274S3 P) :: (nat_lit 275, o275S3 P) :: (nat_lit 276, o276S3 P) :: (nat_lit 278, o278S3 P) :: (nat_lit 279, o279S3 P) :: (nat_lit 281, o281S3 P) :: (nat_lit 282, o282S3 P) :: (nat_lit 283, o283S3 P) :: (nat_lit 284, o284S3 P) :: (nat_lit 287, o287S3 P) :: (nat_lit 288, o288S3 P) :: (nat_lit 289, o289S3 P) :: (nat_lit 291, o291S3 P) :: (nat_lit 292, o292S3 P) :: (nat_lit 294, o294S3 P) :: (nat_lit 295, o295S3 P) :: (nat_lit 296, o296S3 P) :: (nat_lit 298, o298S3 P) :: (nat_lit 299, o299S3 P) :: (nat_lit 301, o301S3 P) :: (nat_lit 302, o302S3 P) :: (nat_lit 303, o303S3 P) :: (nat_lit 304, o304S3 P) :: (nat_lit 306, o306S3 P) :: (nat_lit 307, o307S3 P) :: (nat_lit 309, o309S3 P) :: (nat_lit 310, o310S3 P) :: (nat_lit 318, o318S3 P) :: (nat_lit 320, o320S3 P) :: (nat_lit 321, o321S3 P) :: (nat_lit 323, o323S3 P) :: (nat_lit 324, o324S3 P) :: (nat_lit 325, o325S3 P) :: (nat_lit 327, o327S3 P) :: (nat_lit 328, o328S3 P) :: (nat_lit 330, o330S3 P) :: (nat_lit 331, o331S3 P) :: (nat_lit 332, o332S3 P) :: (nat_lit 333, o333S3 P) :: (nat_lit 334, o334S3 P) :: (nat_lit 335, o335S3 P) :: (nat_lit 336, o336S3 P) :: (nat_lit 339, o339S3 P) :: (nat_lit 341, o341S3 P) :: (nat_lit 342, o342S3 P) :: (nat_lit 344, o344S3 P) :: (nat_lit 345, o345S3 P) :: (nat_lit 346, o346S3 P) :: (nat_lit 348, o348S3 P) :: (nat_lit 349, o349S3 P) :: (nat_lit 351, o351S3 P) :: (nat_lit 352, o352S3 P) :: (nat_lit 353, o353S3 P) :: (nat_lit 355, o355S3 P) :: (nat_lit 356, o356S3 P) :: (nat_lit 358, o358S3 P) :: (nat_lit 359, o359S3 P) :: (nat_lit 360, o360S3 P) :: (nat_lit 362, o362S3 P) :: (nat_lit 363, o363S3 P) :: (nat_lit 365, o365S3 P) :: (nat_lit 366, o366S3 P) :: (nat_lit 367, o367S3 P) :: (nat_lit 369, o369S3 P) :: (nat_lit 370, o370S3 P) :: (nat_lit 372, o372S3 P) :: (nat_lit 373, o373S3 P) :: (nat_lit 374, o374S3 P) :: (nat_lit 376, o376S3 P) :: (nat_lit 377, o377S3 P) :: (nat_lit 379, o379S3 P) :: (nat_lit 380, o380S3 P) :: (nat_lit 381, o381S3 P) :: (nat_lit 383, o383S3 P) :: (nat_lit 384, o384S3 P) :: (nat_lit 386, o386S3 P) :: (nat_lit 387, o387S3 P) :: (nat_lit 388, o388S3 P) :: (nat_lit 390, o390S3 P) :: (nat_lit 391, o391S3 P) :: (nat_lit 393, o393S3 P) :: (nat_lit 394, o394S3 P) :: (nat_lit 395, o395S3 P) :: (nat_lit 397, o397S3 P) :: (nat_lit 398, o398S3 P) :: (nat_lit 400, o400S3 P) :: (nat_lit 401, o401S3 P) :: (nat_lit 402, o402S3 P) :: (nat_lit 404, o404S3 P) :: (nat_lit 405, o405S3 P) :: (nat_lit 407, o407S3 P) :: (nat_lit 408, o408S3 P) :: (nat_lit 409, o409S3 P) :: (nat_lit 411, o411S3 P) :: (nat_lit 412, o412S3 P) :: (nat_lit 414, o414S3 P) :: (nat_lit 415, o415S3 P) :: (nat_lit 416, o416S3 P) :: (nat_lit 419, o419S3 P) :: (nat_lit 420, o420S3 P) :: (nat_lit 421, o421S3 P) :: (nat_lit 423, o423S3 P) :: (nat_lit 424, o424S3 P) :: (nat_lit 426, o426S3 P) :: (nat_lit 427, o427S3 P) :: (nat_lit 428, o428S3 P) :: (nat_lit 430, o430S3 P) :: (nat_lit 431, o431S3 P) :: (nat_lit 433, o433S3 P) :: (nat_lit 434, o434S3 P) :: (nat_lit 435, o435S3 P) :: (nat_lit 437, o437S3 P) :: (nat_lit 438, o438S3 P) :: (nat_lit 440, o440S3 P) :: (nat_lit 441, o441S3 P) :: []
noncomputable def KHc29 (P : Params) : Frag := (nat_lit 433, o433S3 P) :: (nat_lit 434, o434S3 P) :: (nat_lit 435, o435S3 P) :: (nat_lit 437, o437S3 P) :: (nat_lit 438, o438S3 P) :: (nat_lit 440, o440S3 P) :: (nat_lit 441, o441S3 P) :: []
noncomputable def KHc28 (P : Params) : Frag := (nat_lit 423, o423S3 P) :: (nat_lit 424, o424S3 P) :: (nat_lit 426, o426S3 P) :: (nat_lit 427, o427S3 P) :: (nat_lit 428, o428S3 P) :: (nat_lit 430, o430S3 P) :: (nat_lit 431, o431S3 P) :: KHc29 P
noncomputable def KHc27 (P : Params) : Frag := (nat_lit 412, o412S3 P) :: (nat_lit 414, o414S3 P) :: (nat_lit 415, o415S3 P) :: (nat_lit 416, o416S3 P) :: (nat_lit 419, o419S3 P) :: (nat_lit 420, o420S3 P) :: (nat_lit 421, o421S3 P) :: KHc28 P
noncomputable def KHc26 (P : Params) : Frag := (nat_lit 402, o402S3 P) :: (nat_lit 404, o404S3 P) :: (nat_lit 405, o405S3 P) :: (nat_lit 407, o407S3 P) :: (nat_lit 408, o408S3 P) :: (nat_lit 409, o409S3 P) :: (nat_lit 411, o411S3 P) :: KHc27 P
noncomputable def KHc25 (P : Params) : Frag := (nat_lit 393, o393S3 P) :: (nat_lit 394, o394S3 P) :: (nat_lit 395, o395S3 P) :: (nat_lit 397, o397S3 P) :: (nat_lit 398, o398S3 P) :: (nat_lit 400, o400S3 P) :: (nat_lit 401, o401S3 P) :: KHc26 P
noncomputable def KHc24 (P : Params) : Frag := (nat_lit 383, o383S3 P) :: (nat_lit 384, o384S3 P) :: (nat_lit 386, o386S3 P) :: (nat_lit 387, o387S3 P) :: (nat_lit 388, o388S3 P) :: (nat_lit 390, o390S3 P) :: (nat_lit 391, o391S3 P) :: KHc25 P
noncomputable def KHc23 (P : Params) : Frag := (nat_lit 373, o373S3 P) :: (nat_lit 374, o374S3 P) :: (nat_lit 376, o376S3 P) :: (nat_lit 377, o377S3 P) :: (nat_lit 379, o379S3 P) :: (nat_lit 380, o380S3 P) :: (nat_lit 381, o381S3 P) :: KHc24 P
noncomputable def KHc22 (P : Params) : Frag := (nat_lit 363, o363S3 P) :: (nat_lit 365, o365S3 P) :: (nat_lit 366, o366S3 P) :: (nat_lit 367, o367S3 P) :: (nat_lit 369, o369S3 P) :: (nat_lit 370, o370S3 P) :: (nat_lit 372, o372S3 P) :: KHc23 P
noncomputable def KHc21 (P : Params) : Frag := (nat_lit 353, o353S3 P) :: (nat_lit 355, o355S3 P) :: (nat_lit 356, o356S3 P) :: (nat_lit 358, o358S3 P) :: (nat_lit 359, o359S3 P) :: (nat_lit 360, o360S3 P) :: (nat_lit 362, o362S3 P) :: KHc22 P
noncomputable def KHc20 (P : Params) : Frag := (nat_lit 344, o344S3 P) :: (nat_lit 345, o345S3 P) :: (nat_lit 346, o346S3 P) :: (nat_lit 348, o348S3 P) :: (nat_lit 349, o349S3 P) :: (nat_lit 351, o351S3 P) :: (nat_lit 352, o352S3 P) :: KHc21 P
noncomputable def KHc19 (P : Params) : Frag := (nat_lit 333, o333S3 P) :: (nat_lit 334, o334S3 P) :: (nat_lit 335, o335S3 P) :: (nat_lit 336, o336S3 P) :: (nat_lit 339, o339S3 P) :: (nat_lit 341, o341S3 P) :: (nat_lit 342, o342S3 P) :: KHc20 P
noncomputable def KHc18 (P : Params) : Frag := (nat_lit 324, o324S3 P) :: (nat_lit 325, o325S3 P) :: (nat_lit 327, o327S3 P) :: (nat_lit 328, o328S3 P) :: (nat_lit 330, o330S3 P) :: (nat_lit 331, o331S3 P) :: (nat_lit 332, o332S3 P) :: KHc19 P
noncomputable def KHc17 (P : Params) : Frag := (nat_lit 307, o307S3 P) :: (nat_lit 309, o309S3 P) :: (nat_lit 310, o310S3 P) :: (nat_lit 318, o318S3 P) :: (nat_lit 320, o320S3 P) :: (nat_lit 321, o321S3 P) :: (nat_lit 323, o323S3 P) :: KHc18 P
noncomputable def KHc16 (P : Params) : Frag := (nat_lit 298, o298S3 P) :: (nat_lit 299, o299S3 P) :: (nat_lit 301, o301S3 P) :: (nat_lit 302, o302S3 P) :: (nat_lit 303, o303S3 P) :: (nat_lit 304, o304S3 P) :: (nat_lit 306, o306S3 P) :: KHc17 P
noncomputable def KHc15 (P : Params) : Frag := (nat_lit 288, o288S3 P) :: (nat_lit 289, o289S3 P) :: (nat_lit 291, o291S3 P) :: (nat_lit 292, o292S3 P) :: (nat_lit 294, o294S3 P) :: (nat_lit 295, o295S3 P) :: (nat_lit 296, o296S3 P) :: KHc16 P
noncomputable def KHc14 (P : Params) : Frag := (nat_lit 278, o278S3 P) :: (nat_lit 279, o279S3 P) :: (nat_lit 281, o281S3 P) :: (nat_lit 282, o282S3 P) :: (nat_lit 283, o283S3 P) :: (nat_lit 284, o284S3 P) :: (nat_lit 287, o287S3 P) :: KHc15 P
noncomputable def KHc13 (P : Params) : Frag := (nat_lit 266, o266S3 P) :: (nat_lit 269, o269S3 P) :: (nat_lit 271, o271S3 P) :: (nat_lit 272, o272S3 P) :: (nat_lit 274, o274S3 P) :: (nat_lit 275, o275S3 P) :: (nat_lit 276, o276S3 P) :: KHc14 P
noncomputable def KHc12 (P : Params) : Frag := (nat_lit 258, o258S3 P) :: (nat_lit 260, o260S3 P) :: (nat_lit 261, o261S3 P) :: (nat_lit 262, o262S3 P) :: (nat_lit 263, o263S3 P) :: (nat_lit 264, o264S3 P) :: (nat_lit 265, o265S3 P) :: KHc13 P
noncomputable def KHc11 (P : Params) : Frag := (nat_lit 248, o248S3 P) :: (nat_lit 249, o249S3 P) :: (nat_lit 252, o252S3 P) :: (nat_lit 253, o253S3 P) :: (nat_lit 254, o254S3 P) :: (nat_lit 255, o255S3 P) :: (nat_lit 257, o257S3 P) :: KHc12 P
noncomputable def KHc10 (P : Params) : Frag := (nat_lit 230, o230S3 P) :: (nat_lit 231, o231S3 P) :: (nat_lit 232, o232S3 P) :: (nat_lit 242, o242S3 P) :: (nat_lit 244, o244S3 P) :: (nat_lit 245, o245S3 P) :: (nat_lit 247, o247S3 P) :: KHc11 P
noncomputable def KHc9 (P : Params) : Frag := (nat_lit 221, o221S3 P) :: (nat_lit 223, o223S3 P) :: (nat_lit 224, o224S3 P) :: (nat_lit 226, o226S3 P) :: (nat_lit 227, o227S3 P) :: (nat_lit 228, o228S3 P) :: (nat_lit 229, o229S3 P) :: KHc10 P
noncomputable def KHc8 (P : Params) : Frag := (nat_lit 205, o205S3 P) :: (nat_lit 206, o206S3 P) :: (nat_lit 214, o214S3 P) :: (nat_lit 216, o216S3 P) :: (nat_lit 217, o217S3 P) :: (nat_lit 219, o219S3 P) :: (nat_lit 220, o220S3 P) :: KHc9 P
noncomputable def KHc7 (P : Params) : Frag := (nat_lit 195, o195S3 P) :: (nat_lit 197, o197S3 P) :: (nat_lit 198, o198S3 P) :: (nat_lit 199, o199S3 P) :: (nat_lit 201, o201S3 P) :: (nat_lit 202, o202S3 P) :: (nat_lit 204, o204S3 P) :: KHc8 P
noncomputable def KHc6 (P : Params) : Frag := (nat_lit 185, o185S3 P) :: (nat_lit 187, o187S3 P) :: (nat_lit 188, o188S3 P) :: (nat_lit 190, o190S3 P) :: (nat_lit 191, o191S3 P) :: (nat_lit 192, o192S3 P) :: (nat_lit 194, o194S3 P) :: KHc7 P
noncomputable def KHc5 (P : Params) : Frag := (nat_lit 176, o176S3 P) :: (nat_lit 177, o177S3 P) :: (nat_lit 178, o178S3 P) :: (nat_lit 180, o180S3 P) :: (nat_lit 181, o181S3 P) :: (nat_lit 183, o183S3 P) :: (nat_lit 184, o184S3 P) :: KHc6 P
noncomputable def KHc4 (P : Params) : Frag := (nat_lit 165, o165S3 P) :: (nat_lit 166, o166S3 P) :: (nat_lit 169, o169S3 P) :: (nat_lit 170, o170S3 P) :: (nat_lit 171, o171S3 P) :: (nat_lit 173, o173S3 P) :: (nat_lit 174, o174S3 P) :: KHc5 P
noncomputable def KHc3 (P : Params) : Frag := (nat_lit 154, o154S3 P) :: (nat_lit 156, o156S3 P) :: (nat_lit 157, o157S3 P) :: (nat_lit 159, o159S3 P) :: (nat_lit 160, o160S3 P) :: (nat_lit 161, o161S3 P) :: (nat_lit 164, o164S3 P) :: KHc4 P
noncomputable def KHc2 (P : Params) : Frag := (nat_lit 43, o43S1 P) :: (nat_lit 44, o44S1 P) :: (nat_lit 47, o47S1 P) :: (nat_lit 54, o54S1 P) :: (nat_lit 55, o55S1 P) :: (nat_lit 56, o56S1 P) :: (nat_lit 153, o153SB P) :: KHc3 P
noncomputable def KHc1 (P : Params) : Frag := (nat_lit 28, o28S1 P) :: (nat_lit 29, o29S1 P) :: (nat_lit 30, o30S1 P) :: (nat_lit 31, o31S1 P) :: (nat_lit 32, o32S1 P) :: (nat_lit 35, o35S1 P) :: (nat_lit 42, o42S1 P) :: KHc2 P
noncomputable def KHc (P : Params) : Frag := (nat_lit 2, o2S1 P) :: (nat_lit 3, o3S3 P) :: (nat_lit 15, o15S1 P) :: (nat_lit 22, o22S1 P) :: (nat_lit 24, o24S1 P) :: (nat_lit 25, o25S1 P) :: (nat_lit 27, o27S1 P) :: KHc1 P
noncomputable def kas : List Addr := [2, 3, 15, 22, 24, 25, 27, 28, 29, 30, 31, 32, 35, 42, 43, 44, 47, 54, 55, 56, 153, 154, 156, 157, 159, 160, 161, 164, 165, 166, 169, 170, 171, 173, 174, 176, 177, 178, 180, 181, 183, 184, 185, 187, 188, 190, 191, 192, 194, 195, 197, 198, 199, 201, 202, 204, 205, 206, 214, 216, 217, 219, 220, 221, 223, 224, 226, 227, 228, 229, 230, 231, 232, 242, 244, 245, 247, 248, 249, 252, 253, 254, 255, 257, 258, 260, 261, 262, 263, 264, 265, 266, 269, 271, 272, 274, 275, 276, 278, 279, 281, 282, 283, 284, 287, 288, 289, 291, 292, 294, 295, 296, 298, 299, 301, 302, 303, 304, 306, 307, 309, 310, 318, 320, 321, 323, 324, 325, 327, 328, 330, 331, 332, 333, 334, 335, 336, 339, 341, 342, 344, 345, 346, 348, 349, 351, 352, 353, 355, 356, 358, 359, 360, 362, 363, 365, 366, 367, 369, 370, 372, 373, 374, 376, 377, 379, 380, 381, 383, 384, 386, 387, 388, 390, 391, 393, 394, 395, 397, 398, 400, 401, 402, 404, 405, 407, 408, 409, 411, 412, 414, 415, 416, 419, 420, 421, 423, 424, 426, 427, 428, 430, 431, 433, 434, 435, 437, 438, 440, 441]
theorem kas_eq : ∀ P, kas = (KH P).map (·.1) := fun _ => rfl
noncomputable def HK : Hook := kmHook KH kas kas_eq [429, 422]
noncomputable def qv : Program := view pw [1, 2, 3, 5, 6, 7, 8, 9, 10, 12, 13, 14, 15, 16, 17, 19, 20, 21, 22, 23, 24, 25, 26, 27, 28, 29, 30, 31, 32, 33, 35, 36, 39, 40, 41, 42, 43, 44, 45, 46, 47, 48, 50, 51, 52, 53, 54, 55, 56, 57, 58]
noncomputable def looseV : List Str := ["HALF_TABLE", "TAG_KINDS", "Frame", "pack_frame", "unpack_frame"]
noncomputable def lvV : List (Str × WData) := [("HALF_TABLE", .tuple [.int 0, .int 498536548, .int 997073096, .int 651767980, .int 1994146192, .int 1802195444, .int 1303535960, .int 1342533948, .int 3988292384, .int 4027552580, .int 3604390888, .int 3412177804, .int 2607071920, .int 2262029012, .int 2685067896, .int 3183342108]), ("TAG_KINDS", .tuple [.int 33024, .int 34984])]
noncomputable def H1 (P : Params) : Heap := absHeap (mkT (lS3 P)) 442 (boot_heap P).life
noncomputable def XtV (s : Shared) : Bool := xlAt qv lvV s && recOk (RowW.records PySem.Challenge.rw_pb0555_01.row.toRowW) s
noncomputable def SF (w : World) (os : OsState) : Shared := ⟨H1 w.params, #[], boot_drawn, 1332, os⟩
noncomputable def k1L (w : World) (os : OsState) : Bool := staticsOk (importedModules pw.main.body) (boot_heap w.params) (SF w os).heap && namesBound pw (SF w os).heap && gensDone (SF w os) && laidKept (boot_heap w.params) (SF w os).heap
noncomputable def k1R (w : World) (os : OsState) : Bool := true
theorem k1L_self : k1L = k1L := rfl
name_quick k1L for Mine.k1L by Mine.k1L_self
theorem k1 : ∀ (w : World) (os : OsState), k1L w os = k1R w os := by
  intro w os
  rw [PySem.W.Fast.k1L_eq]
  kernel_rfl
noncomputable def c1L (w : World) (os : OsState) := seen ((recsOf qv).map (·.name)) (ownsOf qv) [] { (SF w os) with gens := #[] }
noncomputable def c1R (w : World) (os : OsState) := expectedOf qv
theorem c1L_self : c1L = c1L := rfl
theorem c1R_self : c1R = c1R := rfl
name_quick c1L for Mine.c1L by Mine.c1L_self
name_quick c1R for Mine.c1R by Mine.c1R_self
theorem c1 : ∀ (w : World) (os : OsState), c1L w os = c1R w os := by
  intro w os
  rw [PySem.W.Fast.c1L_eq, PySem.W.Fast.c1R_eq]
  kernel_rfl
noncomputable def c2L (w : World) (os : OsState) := (SF w os).heap.bltView
noncomputable def c2R (w : World) (os : OsState) := bltViewBooted
theorem c2L_self : c2L = c2L := rfl
name_quick c2L for Mine.c2L by Mine.c2L_self
theorem c2 : ∀ (w : World) (os : OsState), c2L w os = c2R w os := by
  intro w os
  rw [PySem.W.Fast.c2L_eq]
  kernel_rfl
noncomputable def c3L (w : World) (os : OsState) : Bool := (SF w os).heap.keysOk (looseW qv looseV) ((recsOf qv).map (·.name)) ((litsOf qv).map (·.1)) ((clssOf qv (looseW qv looseV)).map (·.name)) && (SF w os).heap.accountedOkI (importedModules pw.main.body) && (SF w os).heap.isNs mainGlobals && (SF w os).heap.isNs builtinsNs && tablesOk qv (SF w os).heap && XtV (SF w os) && (if true then (SF w os).gens.size == 0 else !leftWithCleanup (SF w os).gens)
noncomputable def c3R (w : World) (os : OsState) : Bool := true
theorem c3L_self : c3L = c3L := rfl
name_quick c3L for Mine.c3L by Mine.c3L_self
theorem c3 : ∀ (w : World) (os : OsState), c3L w os = c3R w os := by
  intro w os
  rw [PySem.W.Fast.c3L_eq]
  kernel_rfl
noncomputable def c4L (w : World) (os : OsState) : Bool := tabsOk qv (SF w os)
noncomputable def c4R (w : World) (os : OsState) : Bool := true
theorem c4L_self : c4L = c4L := rfl
name_quick c4L for Mine.c4L by Mine.c4L_self
theorem c4 : ∀ (w : World) (os : OsState), c4L w os = c4R w os := by
  intro w os
  rw [PySem.W.Fast.c4L_eq]
  kernel_rfl
noncomputable def c5L (w : World) (os : OsState) := pinSeenD qv (drecsOf qv) (SF w os)
noncomputable def c5R (w : World) (os : OsState) := pinGoodD (drecsOf qv)
theorem c5L_self : c5L = c5L := rfl
theorem c5R_self : c5R = c5R := rfl
name_quick c5L for Mine.c5L by Mine.c5L_self
name_quick c5R for Mine.c5R by Mine.c5R_self
theorem c5 : ∀ (w : World) (os : OsState), c5L w os = c5R w os := by
  intro w os
  rw [PySem.W.Fast.c5L_eq, PySem.W.Fast.c5R_eq]
  kernel_rfl
noncomputable def c6L (w : World) (os : OsState) := plainSeenE qv (looseW qv looseV) (SF w os)
noncomputable def c6R (w : World) (os : OsState) := plainGoodE qv (looseW qv looseV)
theorem c6L_self : c6L = c6L := rfl
theorem c6R_self : c6R = c6R := rfl
name_quick c6L for Mine.c6L by Mine.c6L_self
name_quick c6R for Mine.c6R by Mine.c6R_self
theorem c6 : ∀ (w : World) (os : OsState), c6L w os = c6R w os := by
  intro w os
  rw [PySem.W.Fast.c6L_eq, PySem.W.Fast.c6R_eq]
  kernel_rfl
noncomputable def c7L (w : World) (os : OsState) := plainSeenD qv looseV (SF w os)
noncomputable def c7R (w : World) (os : OsState) := plainGoodD qv looseV
theorem c7L_self : c7L = c7L := rfl
theorem c7R_self : c7R = c7R := rfl
name_quick c7L for Mine.c7L by Mine.c7L_self
name_quick c7R for Mine.c7R by Mine.c7R_self
theorem c7 : ∀ (w : World) (os : OsState), c7L w os = c7R w os := by
  intro w os
  rw [PySem.W.Fast.c7L_eq, PySem.W.Fast.c7R_eq]
  kernel_rfl
noncomputable def c8L (w : World) (os : OsState) := wideSeen qv (SF w os)
noncomputable def c8R (w : World) (os : OsState) := wideGood qv
theorem c8L_self : c8L = c8L := rfl
theorem c8R_self : c8R = c8R := rfl
name_quick c8L for Mine.c8L by Mine.c8L_self
name_quick c8R for Mine.c8R by Mine.c8R_self
theorem c8 : ∀ (w : World) (os : OsState), c8L w os = c8R w os := by
  intro w os
  rw [PySem.W.Fast.c8L_eq, PySem.W.Fast.c8R_eq]
  kernel_rfl
noncomputable def c9L (w : World) (os : OsState) := clsSeenW qv looseV (SF w os)
noncomputable def c9R (w : World) (os : OsState) := clsGoodW qv looseV
theorem c9L_self : c9L = c9L := rfl
theorem c9R_self : c9R = c9R := rfl
name_quick c9L for Mine.c9L by Mine.c9L_self
name_quick c9R for Mine.c9R by Mine.c9R_self
theorem c9 : ∀ (w : World) (os : OsState), c9L w os = c9R w os := by
  intro w os
  rw [PySem.W.Fast.c9L_eq, PySem.W.Fast.c9R_eq]
  kernel_rfl
noncomputable def opL (w : World) : Option (Heap × Array GenState × Drawn × Nat) := (fencedOpening treeTable pw w 16034).map (fun s => (s.heap, s.gens, s.drawn, s.toks))
noncomputable def opR (w : World) : Option (Heap × Array GenState × Drawn × Nat) := some (boot_heap w.params, Array.mk [], boot_drawn, boot_toks)
theorem opL_self : opL = opL := rfl
name_quick opL for Mine.opL by Mine.opL_self
theorem op : ∀ (w : World), opL w = opR w := by
  intro w
  rw [PySem.W.Fast.opL_eq]
  kernel_rfl
noncomputable def y1L (w : World) (os : OsState) : List (Option Obj) := kas.map (SF w os).heap.get?
noncomputable def y1R (w : World) (os : OsState) : List (Option Obj) := (KHc w.params).map fun p => some p.2
theorem y1L_self : y1L = y1L := rfl
theorem y1R_self : y1R = y1R := rfl
name_quick y1L for Mine.y1L by Mine.y1L_self
name_quick y1R for Mine.y1R by Mine.y1R_self
theorem y1 : ∀ (w : World) (os : OsState), y1L w os = y1R w os := by
  intro w os
  rw [PySem.W.Fast.y1L_eq, PySem.W.Fast.y1R_eq]
  kernel_rfl
noncomputable def y2L (w : World) (os : OsState) : List (Option Obj) := ([429, 422] : List Addr).map (SF w os).heap.get?
noncomputable def y2R (w : World) (os : OsState) : List (Option Obj) := ([429, 422] : List Addr).map fun _ => some (tabObj #[])
theorem y2L_self : y2L = y2L := rfl
name_quick y2L for Mine.y2L by Mine.y2L_self
theorem y2 : ∀ (w : World) (os : OsState), y2L w os = y2R w os := by
  intro w os
  rw [PySem.W.Fast.y2L_eq]
  kernel_rfl
end

-- part HeadE
noncomputable section
theorem go0 (w : World) (os : OsState) : topGo treeTable pw w 11 annT 12 ⟨boot_heap w.params, Array.mk [], boot_drawn, boot_toks, os⟩ (topStub pw) = some ((S0 w.params os).abs, ⟨denote treeTable (.body (behindTheImports pw) envT), cE, q0, [topFrame q0]⟩) := g0 w os
theorem blk0 (w : World) (os : OsState) : segRun treeTable pw w 11 annT 1 1 (S0 w.params os).abs (blockOf (behindTheImports pw) envT cE q0 [topFrame q0]) = some (.next, (S0 w.params os).abs, cE, q0) := segRun_of (b0 w os)
theorem seg12_all (w : World) (os : OsState) : segRunT treeTable pw w 11 annT 1 7000 (S0 w.params os) (piecesOf G12 envT cE q0 BB) = some (.next, SB w.params os, cE, q2) :=
  byRow2 "special-get-raises" (P := fun w => segRunT treeTable pw w 11 annT 1 7000 (S0 w.params os) (piecesOf G12 envT cE q0 BB) = some (.next, SB w.params os, cE, q2))
    (fun w => byRow2 "comprehension-iter-twice" (P := fun w => segRunT treeTable pw (w.withFollow "special-get-raises" false) 11 annT 1 7000 (S0 (w.withFollow "special-get-raises" false).params os) (piecesOf G12 envT cE q0 BB) = some (.next, SB (w.withFollow "special-get-raises" false).params os, cE, q2))
      (fun w => eff w os) (fun w => etf w os) w)
    (fun w => byRow2 "comprehension-iter-twice" (P := fun w => segRunT treeTable pw (w.withFollow "special-get-raises" true) 11 annT 1 7000 (S0 (w.withFollow "special-get-raises" true).params os) (piecesOf G12 envT cE q0 BB) = some (.next, SB (w.withFollow "special-get-raises" true).params os, cE, q2))
      (fun w => eft w os) (fun w => ett w os) w) w
theorem seg12 (w : World) (os : OsState) : segRun treeTable pw w 11 annT 1 7000 (S0 w.params os).abs (piecesOf G12 envT cE q0 [topFrame q0]) = some (.next, (SB w.params os).abs, cE, q2) := segRun_of (seg12_all w os)
theorem seg3 (w : World) (os : OsState) : segRun treeTable pw w 11 annT 1 2000 (SB w.params os).abs (piecesOf G3 envT cE q2 [topFrame q0]) = some (.next, (S3 w.params os).abs, cE, q3) := segRun_of (e3 w os)
theorem body_split : behindTheImports pw = G12 ++ (G3 ++ []) := by kernel_rfl
theorem run_all (w : World) (os : OsState) : topRun treeTable pw w 11 annT (12 + (1 + (7000 + (2000 + 2)))) ⟨boot_heap w.params, Array.mk [], boot_drawn, boot_toks, os⟩ (topStub pw) = some (S3 w.params os).abs := by
  refine go_top (go0 w os) (piece_block (blk0 w os) ?_)
  rw [body_split]
  exact piece_app (seg12 w os) (piece_app (seg3 w os) (piece_nil rfl))
theorem abs3 (P : Params) (os : OsState) : (S3 P os).abs = ⟨H1 P, #[], boot_drawn, 1332, os⟩ := by kernel_rfl
theorem run_end (w : World) (os : OsState) : topRun treeTable pw w 11 annT (12 + (1 + (7000 + (2000 + 2)))) ⟨boot_heap w.params, Array.mk [], boot_drawn, boot_toks, os⟩ (topStub pw) = some ⟨H1 w.params, #[], boot_drawn, 1332, os⟩ :=
  (run_all w os).trans (congrArg some (abs3 w.params os))
theorem size0 (w : World) : ((boot_heap w.params).isNs mainGlobals && (Array.mk [] : Array GenState).size == 0, (boot_heap w.params).objs.size, (boot_heap w.params).nsMap mainGlobals "__annotations__") = (true, 11, annT) := by kernel_rfl
theorem looks_of (w : World) (s : Shared)
    (k : (staticsOk (importedModules pw.main.body) (boot_heap w.params) s.heap && namesBound pw s.heap && gensDone s && laidKept (boot_heap w.params) s.heap) = true)
    (x1 : seen ((recsOf qv).map (·.name)) (ownsOf qv) [] { s with gens := #[] } = expectedOf qv) (x2 : s.heap.bltView = bltViewBooted)
    (x3 : (s.heap.keysOk (looseW qv looseV) ((recsOf qv).map (·.name)) ((litsOf qv).map (·.1)) ((clssOf qv (looseW qv looseV)).map (·.name)) && s.heap.accountedOkI (importedModules pw.main.body) && s.heap.isNs mainGlobals && s.heap.isNs builtinsNs && tablesOk qv s.heap && XtV s && (if true then s.gens.size == 0 else !leftWithCleanup s.gens)) = true)
    (x4 : tabsOk qv s = true) (x5 : pinSeenD qv (drecsOf qv) s = pinGoodD (drecsOf qv)) (x6 : plainSeenE qv (looseW qv looseV) s = plainGoodE qv (looseW qv looseV)) (x7 : plainSeenD qv looseV s = plainGoodD qv looseV) (x8 : wideSeen qv s = wideGood qv) (x9 : clsSeenW qv looseV s = clsGoodW qv looseV)
    (z1 : kas.map s.heap.get? = (KH w.params).map fun p => some p.2) (z2 : ([429, 422] : List Addr).map s.heap.get? = ([429, 422] : List Addr).map fun _ => some (tabObj #[])) :
    ((staticsOk (importedModules pw.main.body) (boot_heap w.params) s.heap && namesBound pw s.heap && gensDone s && laidKept (boot_heap w.params) s.heap), openSeen qv looseV (importedModules pw.main.body) XtV true s, HK.obs s) = (true, openGood qv looseV, HK.val w) := by
  unfold openSeen openGood
  exact looks_pair k (looks_pair (looks_pair x1 (looks_pair x2 (looks_pair x3 (looks_pair x4 (looks_pair x5 (looks_pair x6 (looks_pair x7 (looks_pair x8 x9)))))))) (looks_pair z1 z2))
theorem looks0 (w : World) (os : OsState) : ((staticsOk (importedModules pw.main.body) (boot_heap w.params) (SF w os).heap && namesBound pw (SF w os).heap && gensDone (SF w os) && laidKept (boot_heap w.params) (SF w os).heap), openSeen qv looseV (importedModules pw.main.body) XtV true (SF w os), HK.obs (SF w os)) = (true, openGood qv looseV, HK.val w) :=
  looks_of w (SF w os) (k1 w os) (c1 w os) (c2 w os) (c3 w os) (c4 w os) (c5 w os) (c6 w os) (c7 w os) (c8 w os) (c9 w os) (y1 w os) (y2 w os)
theorem left : LeftO pw qv looseV XtV HK.obs HK.val 16034 true :=
  LeftO.of_pieces (H₀ := boot_heap) (H₁ := H1) (gs₀ := Array.mk []) (gs₁ := #[]) (d₀ := boot_drawn) (d₁ := boot_drawn) (k₀ := boot_toks) (k₁ := 1332) (m₀ := 11) (ann := annT) (M := 12 + (1 + (7000 + (2000 + 2)))) op size0 run_end rfl (fun w => funext fun os => looks0 w os)
abbrev rw0 : OpenLaw := PySem.Challenge.rw_pb0555_01
end

-- part HeadF
noncomputable section
theorem hd0 {d : DefRec} {kwd : List (Str × Expr)} (hdef : defOf qv rw0.row.name = some (d, kwd)) (hp : rw0.row.prog.theDef rw0.row.name = some (d.params, d.body, d.scope)) (hk : kwWritten? d.params.kwonlyargs d.params.kw_defaults = some kwd)
    (call : WalkO qv looseV (XL qv lvV) HK.says rw0.row.toRowW d kwd fun f vs => PySem.call f vs) : rw0.Holds := by
  unfold rw0
  o_law
  refine holds_open (q := qv) (loose := looseV) (Xt := XtV) (XP := XL qv lvV) (Yf := HK.obs) (Ya := HK.val) (YP := HK.says) (N := 16034) left (Hook.of HK) (Hook.keeps HK) (fun s e => xl_of s (Bool.and_eq_true_iff.mp e).1) XL.keeps hdef hp hk (fun s e => recFacts_of (Bool.and_eq_true_iff.mp e).2) rfl (by first | assumption | decide +kernel) (by decide +kernel) ⟨rfl, rfl, rfl, rfl, rfl, by decide +kernel⟩ ?hw call
  case hw => w_witness2
end

-- part Base
abbrev Led := List (Addr × Obj)
def Kept (h h' : Heap) (sub : Led) : Prop := ∀ b o, h.get? b = some o → b ∉ sub.map (·.1) → h'.get? b = some o
def Fresh (h : Heap) (sub sub' : Led) : Prop := ∀ q ∈ sub', q.1 ∈ sub.map (·.1) ∨ h.get? q.1 = none
def LeaveQ (h : Heap) (sub : Led) (h₀ : Heap) (L : Addr) (m : Str → Option Value) (g : Heap) (R : Result → Shared → Prop) (v : Value) (s' : Shared) : Prop :=
  ∃ L' m' news', Fr g L' s'.heap m' ∧ News g L' s'.heap news' ∧ (Fr h₀ L s'.heap m → News h₀ L s'.heap news' → Kept h s'.heap sub → Fresh h sub news' → R (.ok (.ret v)) s')

section
variable {prog : Program} {w : World} {A₀ A : Around} {s : Shared} {base h₀ : Heap} {outer : List Env} {L : Addr} {m : Str → Option Value} {env : Env} {news : Led} {K : Frag}
  {R : Result → Shared → Prop} {name qual : Str} {params : Arguments} {body : List Stmt} {scope : Scope} {dV kV doc pm cdv ct oc : Value} {an od : Option Addr} {osl : Array (Option Value)} {f : Addr} {args : Args} {binds : List (Str × Value)}
  {p : Program} {loose : List Str} {mean : ExcName → Option Value} {mg mb : Str → Option Value}

theorem leave_of (B : Below A₀ base outer h₀) (F : Fr h₀ L s.heap m) (N : News h₀ L s.heap news) (hA : A.frames = some (env :: outer)) (hf : env.frame = some L) (hke : env.scope.kind = .function) {v : Value} {s' : Shared}
    (hl : LeaveQ s.heap news h₀ L m (hideAll s.heap (news.map (·.1))) R v s') : R (.ok (.ret v)) s' := by
  obtain ⟨_, _, _, lv⟩ := groundX (R := R) B F N hA hf hke
  obtain ⟨L', m', n', F', N', k⟩ := hl
  refine lv _ _ ⟨L', m', n', F', N', fun a b => k a b (fun b o e nm => F'.keep b o (hideAll_get _ e nm)) fun q hq => ?_⟩
  by_cases hm : q.1 ∈ news.map (·.1)
  · exact .inl hm
  · refine .inr ?_
    cases e : s.heap.get? q.1 with
    | none => rfl
    | some o =>
      have z := (N' q hq).2.2
      rw [hideAll_get _ e hm] at z
      cases z

theorem enterQ (B : Below A₀ base outer h₀) (F : Fr h₀ L s.heap m) (X₀ : K.In h₀) (N : News h₀ L s.heap news) (T : Top p loose mean mg mb h₀) (hA : A.frames = some (env :: outer)) (hf : env.frame = some L) (hke : env.scope.kind = .function)
    (ho : K.lookup f = some ⟨oc, od, .func (fnOf name qual params body scope dV kV doc pm an cdv ct), osl⟩) (hcd : codeIn K cdv qual = true) (hroom : A.depth < recursionLimit)
    (hbind : BindsTo s (fnOf name qual params body scope dV kV doc pm an cdv ct) args binds) (hloc : ∀ y ∈ binds, scope.names.lookup y.1 = some .local)
    (h : ∀ g L' h₁ tk, Fr h₀ L g m → Fr g L' h₁ (fun y => binds.reverse.lookup y) → News g L' h₁ news → Below A base (env :: outer) g → K.In g → Top p loose mean mg mb g → g = hideAll s.heap (news.map (·.1)) → (∀ q ∈ news, q.1 < L') →
      wpAny (model prog w) (A.deeper (envOf qual scope L' f cdv)) (execs body (envOf qual scope L' f cdv))
        (fun fl s' => LeaveQ s.heap news h₀ L m g R (match fl with | .ret v => v | _ => .none) s')
        (fun e s' => wpAny (model prog w) (A.deeper (envOf qual scope L' f cdv)) (leaving (envOf qual scope L' f cdv) e) (fun _ s'' => R (.error e) s'') (fun e' s'' => R (.error e') s'') s')
        { s with heap := h₁, toks := tk })
    (hco : scope.isCoroutine = false) (hgen : scope.isGenerator = false) (hk : scope.kind = .function)
    (hcell : ∀ x ∈ scope.names, x.2 ≠ .cell) : codeAny (model prog w) A (.call (.ref f) args) R s := by
  obtain ⟨FG, BG, st, lv⟩ := groundX (R := R) B F N hA hf hke
  refine codeAny_call_def (fd := fnOf name qual params body scope dV kV doc pm an cdv ct) (body := body) (binds := binds) hroom ((X₀.keeps F.keep) _ _ ho) rfl (T.nolimit.keeps F.keep) (codeRec_of (X₀.keeps F.keep) hcd) rfl hbind hcell hloc (fun h₁ hns hk₁ => ?_) hco hgen hk
  exact wpAny_mono (h _ s.heap.objs.size h₁ _ FG ⟨hns, fun b o e => hk₁ b o (of_hideAll _ e), Nat.le_of_eq (hideAll_size _ _)⟩
    (fun p hp => ⟨hk₁ _ _ (N p hp).1, Nat.ne_of_lt (Heap.lt_size (N p hp).1), hideAll_none _ (List.mem_map_of_mem hp)⟩) BG (X₀.keeps st) (T.keeps st) rfl (fun p hp => Heap.lt_size (N p hp).1)) (fun fl s' hl => leave_of B F N hA hf hke hl) fun _ _ y => y

theorem enterQC (B : Below A₀ base outer h₀) (F : Fr h₀ L s.heap m) (X₀ : K.In h₀) (N : News h₀ L s.heap news) (T : Top p loose mean mg mb h₀) (hA : A.frames = some (env :: outer)) (hf : env.frame = some L) (hke : env.scope.kind = .function)
    (ho : K.lookup f = some ⟨oc, od, .func (fnOf name qual params body scope dV kV doc pm an cdv ct), osl⟩) (hcd : codeIn K cdv qual = true) (hroom : A.depth < recursionLimit)
    (hbind : BindsTo s (fnOf name qual params body scope dV kV doc pm an cdv ct) args binds) (hkind : (binds.all fun y => scope.names.lookup y.1 == some .local || scope.names.lookup y.1 == some .cell) = true)
    (hnd : ((cellsFrom 0 scope.names []).map (·.1)).Nodup)
    (h : ∀ g L' h₁ tk cells, Fr h₀ L g m → Fr g L' h₁ (bindL (envOfC qual scope L' f cdv).kindOf binds fun _ => none) → News g L' h₁ (cells ++ news) →
      CellsAre (bindC (envOfC qual scope L' f cdv).kindOf binds fun _ => none) (cellsFrom (L' + 1) scope.names []) cells → Below A base (env :: outer) g → K.In g → Top p loose mean mg mb g → g = hideAll s.heap (news.map (·.1)) → (∀ q ∈ news, q.1 < L') →
      wpAny (model prog w) (A.deeper (envOfC qual scope L' f cdv)) (execs body (envOfC qual scope L' f cdv))
        (fun fl s' => LeaveQ s.heap news h₀ L m g R (match fl with | .ret v => v | _ => .none) s')
        (fun e s' => wpAny (model prog w) (A.deeper (envOfC qual scope L' f cdv)) (leaving (envOfC qual scope L' f cdv) e) (fun _ s'' => R (.error e) s'') (fun e' s'' => R (.error e') s'') s')
        { s with heap := h₁, toks := tk })
    (hco : scope.isCoroutine = false) (hgen : scope.isGenerator = false) (hk : scope.kind = .function) : codeAny (model prog w) A (.call (.ref f) args) R s := by
  obtain ⟨FG, BG, st, lv⟩ := groundX (R := R) B F N hA hf hke
  refine codeAny_call_function (fd := fnOf name qual params body scope dV kV doc pm an cdv ct) hroom ((X₀.keeps F.keep) _ _ ho) rfl hco hgen rfl (codeRec_of (X₀.keeps F.keep) hcd) (hbind _ _ _ _ ?_)
  refine wpAny_newFunctionEnv_cells hk (kindsX hkind _) fun env' he s' x => ?_
  subst he
  refine ⟨(T.nolimit.keeps F.keep).keeps x.toInCall.keep, codeAny_func ?_⟩
  obtain ⟨h₁, tk, rfl, _⟩ := x.done
  have hk₁ := x.toInCall.keep
  obtain ⟨cells, NC, Y⟩ := Cl.news (h₀ := s.heap) (Nat.le_refl _) fun n c hm => ⟨x.cell n c (lookup_of_mem_nodup (cellsFrom_names scope.names 0 (s.heap.objs.size + 1) [] [] rfl ▸ hnd) hm), x.above n c hm⟩
  refine wpAny_mono (h _ s.heap.objs.size h₁ tk cells FG ⟨x.toInCall.ns, fun b o e => hk₁ b o (of_hideAll _ e), Nat.le_of_eq (hideAll_size _ _)⟩ (fun p hp => ?_) Y BG (X₀.keeps st) (T.keeps st) rfl (fun p hp => Heap.lt_size (N p hp).1)) (fun fl s' hl => leave_of B F N hA hf hke hl) fun _ _ y => y
  rcases List.mem_append.mp hp with hp | hp
  · refine ⟨(NC p hp).1, (NC p hp).2.1, ?_⟩
    cases q : (hideAll s.heap (news.map (·.1))).get? p.1 with
    | none => rfl
    | some o => have := of_hideAll _ q; rw [(NC p hp).2.2] at this; cases this
  · exact ⟨hk₁ _ _ (N p hp).1, Nat.ne_of_lt (Heap.lt_size (N p hp).1), hideAll_none _ (List.mem_map_of_mem hp)⟩

theorem leave_end {h : Heap} {sub sub' news' : Led} {g : Heap} {L' : Addr} {m' : Str → Option Value} {v : Value} {s' : Shared} (F' : Fr g L' s'.heap m') (N' : News g L' s'.heap news') (hs : ∀ q ∈ sub', q ∈ news')
    (k : Fr h₀ L s'.heap m → News h₀ L s'.heap sub' → Kept h s'.heap sub → Fresh h sub sub' → R (.ok (.ret v)) s') : LeaveQ h sub h₀ L m g R v s' :=
  ⟨L', m', sub', F', fun q hq => N' q (hs q hq), k⟩
theorem leave_all {h : Heap} {sub news' : Led} {g : Heap} {L' : Addr} {m' : Str → Option Value} {v : Value} {s' : Shared} (F' : Fr g L' s'.heap m') (N' : News g L' s'.heap news')
    (k : Fr h₀ L s'.heap m → News h₀ L s'.heap news' → Kept h s'.heap sub → Fresh h sub news' → R (.ok (.ret v)) s') : LeaveQ h sub h₀ L m g R v s' :=
  ⟨L', m', news', F', N', k⟩
end

section
variable (w : World) (loose : List Str) (mean : ExcName → Option Value) (mg mb : Str → Option Value)

-- a call that comes back: its value and what it leaves of 'sub' (and adds) stand in Post
def Ok (D U : Nat) (f : Value) (vs : List Value) (sub : Led) (Post : Value → Led → Prop) : Prop :=
  ∀ (cn : Str) (cs : Scope) (a : Addr) (ccd : Value) (cl : List (Str × Addr)) (outer : List Env) (A₀ : Around) (base h₀ : Heap) (L : Addr) (m : Str → Option Value) (s : Shared) (Q E : Value → Shared → Prop),
    Below A₀ base outer h₀ → Fr h₀ L s.heap m → (KH w.params).In h₀ → News h₀ L s.heap sub → Top topProg loose mean mg mb h₀ → cs.kind = .function →
    (∀ v sub' h' tk', Post v sub' → Fr h₀ L h' m → News h₀ L h' sub' → Kept s.heap h' sub → Fresh s.heap sub sub' → Q v { s with heap := h', toks := tk' }) →
    wpAny (model rw0.prog w) (ktrTop D U none cn cs L a ccd cl outer) (call f vs) Q E s
end

theorem wpAny_wider {α : Type} {M : Model} {A A' : Around} {t : Sem α} {Q : α → Shared → Prop} {E : Value → Shared → Prop} {s : Shared} (h : wpAny M A' t Q E s)
    (h1 : A'.handled = A.handled) (h2 : A.depth ≤ A'.depth) (h3 : A'.frames = A.frames) (h4 : A'.guards = none) (h5 : A.units ≤ A'.units) : wpAny M A t Q E s := fun Γ q hΓ =>
  h Γ q ⟨hΓ.1.trans h1.symm, Nat.le_trans hΓ.2.1 h2, fun l hl => hΓ.2.2.1 l (h3 ▸ hl), fun g hg => (by rw [h4] at hg; cases hg), Nat.le_trans hΓ.2.2.2.2 h5⟩

section
variable {w : World} {loose : List Str} {mean : ExcName → Option Value} {mg mb : Str → Option Value} {D U : Nat} {f : Value} {vs : List Value} {sub : Led} {Post : Value → Led → Prop}
  {A : Around} {cn : Str} {cs : Scope} {a : Addr} {ccd : Value} {cl : List (Str × Addr)} {outer : List Env} {A₀ : Around} {base h₀ : Heap} {L : Addr} {m : Str → Option Value} {s : Shared} {Q E : Value → Shared → Prop} {news rest : Led}

theorem Ok.use (C : Ok w loose mean mg mb D U f vs sub Post) (hA : A.frames = some (envX cn cs L a ccd cl :: outer)) (hh : A.handled = none) (hd : A.depth ≤ D) (hu : A.units ≤ U)
    (B : Below A₀ base outer h₀) (F : Fr h₀ L s.heap m) (X : (KH w.params).In h₀) (N : News h₀ L s.heap news) (T : Top topProg loose mean mg mb h₀) (hk : cs.kind = .function)
    (hs : ∀ q ∈ sub, q ∈ news) (hr : ∀ q ∈ rest, q ∈ news ∧ q.1 ∉ sub.map (·.1))
    (k : ∀ v sub' h' tk', Post v sub' → Fr h₀ L h' m → News h₀ L h' (sub' ++ rest) → (∀ q ∈ sub', q.1 ∈ sub.map (·.1) ∨ ∀ r ∈ rest, r.1 ≠ q.1) → Q v { s with heap := h', toks := tk' }) :
    wpAny (model rw0.prog w) A (call f vs) Q E s := by
  refine wpAny_wider (A' := ktrTop D U none cn cs L a ccd cl outer) (C cn cs a ccd cl outer A₀ base h₀ L m s Q E B F X (fun q hq => N q (hs q hq)) T hk fun v sub' h' tk' P F' N' K' Z' => k v sub' h' tk' P F' (fun q hq => ?_) fun q hq => ?_) hh.symm hd hA.symm rfl hu
  · rcases List.mem_append.mp hq with hq | hq
    · exact N' q hq
    · obtain ⟨h1, h2⟩ := hr q hq
      exact ⟨K' q.1 q.2 (N q h1).1 h2, (N q h1).2⟩
  · rcases Z' q hq with h | h
    · exact .inl h
    · refine .inr fun r hr' e => ?_
      have := (N r (hr r hr').1).1
      rw [e, h] at this
      cases this

theorem Ok.useR {Post : Value → Led → Prop} (C : Ok w loose mean mg mb D U f vs sub (fun v l => ∃ nw, l = nw ++ sub ∧ (∀ q ∈ nw, q.1 ∉ sub.map (·.1)) ∧ Post v nw)) (hA : A.frames = some (envX cn cs L a ccd cl :: outer)) (hh : A.handled = none) (hd : A.depth ≤ D) (hu : A.units ≤ U)
    (B : Below A₀ base outer h₀) (F : Fr h₀ L s.heap m) (X : (KH w.params).In h₀) (N : News h₀ L s.heap news) (T : Top topProg loose mean mg mb h₀) (hk : cs.kind = .function)
    (hs : ∀ q ∈ sub, q ∈ news)
    (k : ∀ v nw h' tk', Post v nw → Fr h₀ L h' m → News h₀ L h' (nw ++ news) → (∀ q ∈ nw, ∀ r ∈ news, r.1 ≠ q.1) → Q v { s with heap := h', toks := tk' }) :
    wpAny (model rw0.prog w) A (call f vs) Q E s := by
  refine wpAny_wider (A' := ktrTop D U none cn cs L a ccd cl outer) (C cn cs a ccd cl outer A₀ base h₀ L m s Q E B F X (fun q hq => N q (hs q hq)) T hk fun v sub' h' tk' P F' N' K' Z' => ?_) hh.symm hd hA.symm rfl hu
  obtain ⟨nw, rfl, hf, P⟩ := P
  refine k v nw h' tk' P F' (fun q hq => ?_) fun q hq r hr e => ?_
  · rcases List.mem_append.mp hq with hq | hq
    · exact N' q (List.mem_append_left _ hq)
    · refine ⟨?_, (N q hq).2⟩
      by_cases hm : q.1 ∈ sub.map (·.1)
      · obtain ⟨r, hr, e⟩ := List.mem_map.mp hm
        have h1 := (N r (hs r hr)).1
        have h2 := (N' r (List.mem_append_right _ hr)).1
        rw [e] at h1 h2
        rw [h2, ← h1]
        exact (N q hq).1
      · exact K' q.1 q.2 (N q hq).1 hm
  · rcases Z' q (List.mem_append_left _ hq) with h | h
    · exact hf q hq h
    · have := (N r hr).1
      rw [e, h] at this
      cases this

theorem Ok.useW {src : Addr} {o : Obj} {ro : Led} {fN : Obj → Led} {Post : Value → Obj → Led → Prop} (C : Ok w loose mean mg mb D U f vs ((src, o) :: ro) (fun v l => ∃ o' nw, l = (src, o') :: (nw ++ ro) ∧ (∀ q ∈ nw, q.1 ∉ src :: ro.map (·.1)) ∧ Post v o' nw))
    (hA : A.frames = some (envX cn cs L a ccd cl :: outer)) (hh : A.handled = none) (hd : A.depth ≤ D) (hu : A.units ≤ U)
    (B : Below A₀ base outer h₀) (F : Fr h₀ L s.heap m) (X : (KH w.params).In h₀) (N : News h₀ L s.heap news) (T : Top topProg loose mean mg mb h₀) (hk : cs.kind = .function)
    (hU : ∀ o', Upd src o o' news (fN o')) (hs : ∀ q ∈ ro, q ∈ news)
    (k : ∀ v o' nw h' tk', Post v o' nw → Fr h₀ L h' m → News h₀ L h' (nw ++ fN o') → (∀ q ∈ nw, ∀ r ∈ fN o', r.1 ≠ q.1) → Q v { s with heap := h', toks := tk' }) :
    wpAny (model rw0.prog w) A (call f vs) Q E s := by
  have hsrc : (src, o) ∈ news := by
    obtain ⟨pre, post, e, _, _, _⟩ := (hU o).split
    rw [e]
    exact List.mem_append_right _ (.head _)
  refine wpAny_wider (A' := ktrTop D U none cn cs L a ccd cl outer) (C cn cs a ccd cl outer A₀ base h₀ L m s Q E B F X (fun q hq => (by
    rcases List.mem_cons.mp hq with rfl | hq
    · exact N _ hsrc
    · exact N q (hs q hq))) T hk fun v sub' h' tk' P F' N' K' Z' => ?_) hh.symm hd hA.symm rfl hu
  obtain ⟨o', nw, rfl, hf, P⟩ := P
  obtain ⟨pre, post, e1, e2, n1, n2⟩ := (hU o').split
  have hm : ∀ r ∈ fN o', r = (src, o') ∨ (r ∈ news ∧ r.1 ≠ src) := fun r hr => by
    rw [e2] at hr
    rw [e1]
    rcases List.mem_append.mp hr with hr | hr
    · exact .inr ⟨List.mem_append_left _ hr, n1 r hr⟩
    · rcases List.mem_cons.mp hr with hr | hr
      · exact .inl hr
      · exact .inr ⟨List.mem_append_right _ (.tail _ hr), n2 r hr⟩
  refine k v o' nw h' tk' P F' (fun q hq => ?_) fun q hq r hr e => ?_
  · rcases List.mem_append.mp hq with hq | hq
    · exact N' q (.tail _ (List.mem_append_left _ hq))
    · rcases hm q hq with rfl | ⟨hq, hne⟩
      · exact N' _ (.head _)
      · refine ⟨?_, (N q hq).2⟩
        by_cases hr : q.1 ∈ ro.map (·.1)
        · obtain ⟨r, hr, e⟩ := List.mem_map.mp hr
          have h1 := (N r (hs r hr)).1
          have h2 := (N' r (.tail _ (List.mem_append_right _ hr))).1
          rw [e] at h1 h2
          rw [h2, ← h1]
          exact (N q hq).1
        · exact K' q.1 q.2 (N q hq).1 (fun z => by
            rcases List.mem_cons.mp z with z | z
            · exact hne z
            · exact hr z)
  · rcases Z' q (.tail _ (List.mem_append_left _ hq)) with h | h
    · exact hf q hq h
    · rcases hm r hr with rfl | ⟨hr, _⟩
      · have := (N _ hsrc).1
        rw [e, h] at this
        cases this
      · have := (N r hr).1
        rw [e, h] at this
        cases this
end

def AllNe (d : Nat) : Led → Prop
  | [] => True
  | p :: r => @Ne Nat p.1 d ∧ AllNe d r
def AllNe2 (l : Led) : Led → Prop
  | [] => True
  | q :: r => AllNe q.1 l ∧ AllNe2 l r
theorem allNe_of {d : Addr} : ∀ {l : Led}, (∀ r ∈ l, r.1 ≠ d) → AllNe d l
  | [], _ => trivial
  | p :: _, h => ⟨h p (.head _), allNe_of fun q hq => h q (.tail _ hq)⟩
theorem allNe2_of {l : Led} : ∀ {nw : Led}, (∀ q ∈ nw, ∀ r ∈ l, r.1 ≠ q.1) → AllNe2 l nw
  | [], _ => trivial
  | q :: _, h => ⟨allNe_of (h q (.head _)), allNe2_of fun p hp => h p (.tail _ hp)⟩

section
variable {g h₀ : Heap} {L L' : Addr} {m m' : Str → Option Value} {R : Result → Shared → Prop} {v : Value} {s' : Shared} {h : Heap} {src : Addr} {o o' : Obj} {ro nw news' : Led} {sub : Led}
-- the way out of a call that has changed the one object
theorem leaveW (F' : Fr g L' s'.heap m') (N' : News g L' s'.heap news') (k : Fr h₀ L s'.heap m → News h₀ L s'.heap ((src, o') :: (nw ++ ro)) → Kept h s'.heap ((src, o) :: ro) → Fresh h ((src, o) :: ro) ((src, o') :: (nw ++ ro)) → R (.ok (.ret v)) s')
    (h1 : (src, o') ∈ news') (h2 : ∀ q ∈ nw, q ∈ news') (h3 : ∀ q ∈ ro, q ∈ news') : LeaveQ h ((src, o) :: ro) h₀ L m g R v s' :=
  leave_end F' N' (fun q hq => by
    rcases List.mem_cons.mp hq with rfl | hq
    · exact h1
    · rcases List.mem_append.mp hq with hq | hq
      · exact h2 q hq
      · exact h3 q hq) k
-- the way out of a call that only reads
theorem leaveR (F' : Fr g L' s'.heap m') (N' : News g L' s'.heap news') (k : Fr h₀ L s'.heap m → News h₀ L s'.heap (nw ++ sub) → Kept h s'.heap sub → Fresh h sub (nw ++ sub) → R (.ok (.ret v)) s')
    (h2 : ∀ q ∈ nw, q ∈ news') (h3 : ∀ q ∈ sub, q ∈ news') : LeaveQ h sub h₀ L m g R v s' :=
  leave_end F' N' (fun q hq => by
    rcases List.mem_append.mp hq with hq | hq
    · exact h2 q hq
    · exact h3 q hq) k
end

-- part C1
local macro_rules | `(tactic| k_ne) => `(tactic| k_extra "MineNe1")
local macro_rules | `(tactic| walk_at "call ref") => `(tactic| k_extra "call ref")
local macro_rules | `(tactic| walk_at "subscriptTail") => `(tactic| k_extra "subscriptTail")
local macro_rules | `(tactic| walk_at "binaryOp Mult int int") => `(tactic| k_extra "binaryOp Mult int int")
local macro_rules | `(tactic| walk_at "call builtin:len") => `(tactic| k_extra "call builtin:len")
local macro_rules | `(tactic| walk_at "exec Raise some none") => `(tactic| k_extra "exec Raise some none")
local macro_rules | `(tactic| walk_at "leaving ref") => `(tactic| k_extra "leaving ref")
theorem words0_C1 : True := by
  k_with_none
  (k_with "MineEnter" => (refine wpAny_call ?_; k_dflt (refine' enterQ ?k1 ?k2 ?k3 ?k4 ?k5 ?kA ?kF ?kK ?k6 ?k7 ?k8 ?k9 ?kB ?_ ?c2 ?c3 ?c4 ?c5; (case kA => exact rfl); (case kF => exact rfl); (case kK => assumption); (case k1 => k_asm); (case k2 => k_asm); (case k3 => k_asm); (case k4 => k_asm); (case k5 => k_asm); (case k6 => k_is); (case k7 => k_is); (case k8 => ktr_room); (case k9 => first | exact BindsTo.of_eq rfl | exact binds_K (by k_in) rfl (by k_is) rfl rfl rfl); (case c5 => decide); (case kB => exact locs rfl); (case c2 => exact rfl); (case c3 => exact rfl); (case c4 => exact rfl)); intro g' L' h' tk' FG' F' N' B' X' T' hg' lL'; (try k_lt lL'); (try dsimp only); (try k_fold)))
  (k_with "MineEnterC" => (refine wpAny_call ?_; k_dflt (refine' enterQC ?k1 ?k2 ?k3 ?k4 ?k5 ?kA ?kF ?kK ?k6 ?k7 ?k8 ?k9 ?kB ?kD ?_ ?c2 ?c3 ?c4; (case kA => exact rfl); (case kF => exact rfl); (case kK => assumption); (case k1 => k_asm); (case k2 => k_asm); (case k3 => k_asm); (case k4 => k_asm); (case k5 => k_asm); (case k6 => k_is); (case k7 => k_is); (case k8 => ktr_room); (case k9 => first | exact BindsTo.of_eq rfl | exact binds_K (by k_in) rfl (by k_is) rfl rfl rfl); (case kB => exact rfl); (case kD => decide +kernel); (case c2 => exact rfl); (case c3 => exact rfl); (case c4 => exact rfl)); intro g' L' h' tk' cells' FG' F' N' Y' B' X' T' hg' lL'; (try k_lt lL'); k_cells Y'; (try simp only [List.cons_append, List.nil_append] at N'); (try dsimp only); (try k_fold)))
  (k_with "MineWalkC" => (k_extra "MineEnterC"; k_steps; all_goals (try dsimp only); all_goals (try (k_unfold; dsimp only))))
  (k_with "MineWalk" => (k_extra "MineEnter"; k_steps; all_goals (try dsimp only); all_goals (try (k_unfold; dsimp only))))
  (k_with "MineFresh" => first | exact List.forall_mem_nil _ | (refine' List.forall_mem_cons.mpr ⟨?fa, ?fb⟩; (case fa => (repeat (first | exact List.not_mem_nil | (refine' List.not_mem_cons_of_ne_of_not_mem ?fn ?_; (case fn => k_ne)))))); (case fb => k_extra "MineFresh"))
  (k_with "MineMem" => first | exact List.forall_mem_nil _ | (refine' List.forall_mem_cons.mpr ⟨?fa, ?fb⟩; (case fa => k_mem); (case fb => k_extra "MineMem")))
  (k_with "MineSide" => ((case kA => exact rfl); (case kh => exact rfl); (case kd => exact Nat.le_of_ble_eq_true rfl); (case ku => exact Nat.le_of_ble_eq_true rfl); (case kB => k_asm); (case kF => k_asm); (case kX => k_asm); (case kN => k_asm); (case kT => k_asm); (case kk => exact rfl)))
  (k_with "MineLed" => ((try simp only [List.nil_append, List.cons_append] at N'); (try (replace D' := allNe2_of D'; simp only [AllNe2, AllNe, and_true] at D'))))
  (k_with "MineLeaveW" => ((case F => k_asm); (case N => k_asm); (case h1 => k_mem); (case h2 => k_extra "MineMem"); (case h3 => k_extra "MineMem"); intro F9 N9 K9 Z9))
  (k_with "MineLeaveR" => ((case F => k_asm); (case N => k_asm); (case h2 => k_extra "MineMem"); (case h3 => k_extra "MineMem"); intro F9 N9 K9 Z9))
  (k_with "MineGetLen" => (exfalso; omega))
  (k_with "MinePut" => (first | exact Int.lt_of_lt_of_le (b := 256) (by omega) (by decide) | exact Int.lt_of_lt_of_le (b := 65536) (by omega) (by decide) | exact Int.lt_of_lt_of_le (b := 16777216) (by omega) (by decide) | exact Int.lt_of_lt_of_le (b := 281474976710656) (by omega) (by decide)))
  (k_with "MineBytes" => first | assumption | exact bI1 ⟨by omega, by omega⟩ | exact bI2 ⟨by omega, by omega⟩ ⟨by omega, by omega⟩ | exact zeros_ints _ | exact KBw.ints_list _)
  (k_with "MineAdd" => (k_here; (with_reducible show wpAny _ _ (binaryOp Operator.Add (Value.bytes _ _) (Value.bytes _ _)) _ _ _); (refine KBa.add_K (by k_extra "MineBytes") (by k_extra "MineBytes") (by first | (simp only [List.length_cons, List.length_nil, List.length_append, List.length_map, List.length_replicate, rangeInts_length]; omega) | omega | (simp only [List.length_cons, List.length_nil, List.length_append, List.length_map, List.length_replicate, sum_len]; omega)) ?_); intro t' k' hb'))
  (k_with "MinePutBad" => (intro h9; first | (have h8 := Int.lt_of_lt_of_le h9 (show (1 * 2 ^ ((8:Int) * 1).toNat : Int) ≤ 256 by decide); omega) | (have h8 := Int.lt_of_lt_of_le h9 (show (1 * 2 ^ ((8:Int) * 3).toNat : Int) ≤ 16777216 by decide); omega)))
  (k_with "MinePass" => ((rename RaisedS _ _ _ _ _ _ _ _ _ => rsX); k_dflt (refine' leave_onX (news := ?sub) ?K ?F ?hf rsX ?U ?hs ?_; (case sub => first | k_extra "MineSub" | exact []); (case K => k_asm); (case F => k_asm); (case hf => exact rfl); (case U => k_asm); (case hs => k_extra "MineMem"); intro h9 R9 U9)))
  (k_with "MineEnterS" => (refine wpAny_call ?_; k_dflt (refine' enterQS ?k1 ?k2 ?k3 ?k4 ?k5 ?k0 ?kA ?kF ?kK ?k6 ?k7 ?k8 ?k9 ?kB ?_ ?c2 ?c3 ?c4 ?c5; (case kA => exact rfl); (case kF => exact rfl); (case kK => assumption); (case k1 => k_asm); (case k2 => k_asm); (case k3 => k_asm); (case k4 => k_asm); (case k5 => k_asm); (case k0 => k_asm); (case k6 => k_is); (case k7 => k_is); (case k8 => ktr_room); (case k9 => first | exact BindsTo.of_eq rfl | exact binds_K (by k_in) rfl (by k_is) rfl rfl rfl); (case c5 => decide); (case kB => exact locs rfl); (case c2 => exact rfl); (case c3 => exact rfl); (case c4 => exact rfl)); intro g' L' h' tk' FG' F' N' B' X' T' D' hg' lL'; (try k_lt lL'); (try dsimp only); (try k_fold)))
  (k_with "MineEnterSC" => (refine wpAny_call ?_; k_dflt (refine' enterQSC ?k1 ?k2 ?k3 ?k4 ?k5 ?k0 ?kA ?kF ?kK ?k6 ?k7 ?k8 ?k9 ?kB ?kD ?_ ?c2 ?c3 ?c4; (case kA => exact rfl); (case kF => exact rfl); (case kK => assumption); (case k1 => k_asm); (case k2 => k_asm); (case k3 => k_asm); (case k4 => k_asm); (case k5 => k_asm); (case k0 => k_asm); (case k6 => k_is); (case k7 => k_is); (case k8 => ktr_room); (case k9 => first | exact BindsTo.of_eq rfl | exact binds_K (by k_in) rfl (by k_is) rfl rfl rfl); (case kB => exact rfl); (case kD => decide +kernel); (case c2 => exact rfl); (case c3 => exact rfl); (case c4 => exact rfl)); intro g' L' h' tk' cells' FG' F' N' Y' B' X' T' D' hg' lL'; (try k_lt lL'); k_cells Y'; (try simp only [List.cons_append, List.nil_append] at N'); (try dsimp only); (try k_fold)))
  (k_with "MineEnterL" => (refine wpAny_call ?_; k_dflt (refine' enterQL ?k1 ?k2 ?k3 ?k4 ?k5 ?kA ?kF ?kK ?ho ?hc ?hd ?hv ?k8 ?k9 ?kB ?_ ?c2 ?c3 ?c4 ?c5; (case kA => exact rfl); (case kF => exact rfl); (case kK => assumption); (case k1 => k_asm); (case k2 => k_asm); (case k3 => k_asm); (case k4 => k_asm); (case k5 => k_asm); (case ho => k_mem); (case hc => k_mem); (case hd => assumption); (case hv => assumption); (case k8 => ktr_room); (case k9 => exact rfl); (case c5 => decide); (case kB => exact locs rfl); (case c2 => exact rfl); (case c3 => exact rfl); (case c4 => exact rfl)); intro g' L' h' tk' FG' F' N' B' X' T' hg' lL'; (try k_lt lL'); (try dsimp only); (try k_fold)))
  (k_with "MineWalkL" => (k_extra "MineEnterL"; k_dflt (show wpAny _ _ (eval (Expr.Call _ _ _ _) _) _ _ _); k_steps; all_goals (try dsimp only); all_goals (try (k_unfold; dsimp only))))
  (k_with "MineWalkS" => (k_extra "MineEnterS"; k_steps; all_goals (try dsimp only); all_goals (try (k_unfold; dsimp only))))
  (k_with "MineSame" => first | exact SameL.nil | (refine' SameL.cons ?sa ?sb; (case sa => first | exact same_int _ _ _ | exact same_bytes _ _ _ | exact PySem.SeqAt.EqAt.same _); (case sb => k_extra "MineSame")))
  (k_with "MineNeT" => (k_here; (with_reducible show wpAny _ _ (compareOp CmpOp.NotEq (Value.ref _) (Value.ref _)) _ _ _); k_dflt (refine' ne_tups ?N ?ml ?mb ?cl ?dl ?cb ?db ?hu ?hs ?_; (case N => k_asm); (case ml => k_mem); (case mb => k_mem); (case cl => rfl); (case dl => rfl); (case cb => rfl); (case db => rfl); (case hu => ke_room); (case hs => k_extra "MineSame"))))
  (k_with "MineEqT" => (k_here; (with_reducible show wpAny _ _ (compareOp CmpOp.Eq (Value.ref _) (Value.ref _)) _ _ _); k_dflt (refine' eq_tups ?N ?ml ?mb ?cl ?dl ?cb ?db ?hu ?hs ?_; (case N => k_asm); (case ml => k_mem); (case mb => k_mem); (case cl => rfl); (case dl => rfl); (case cb => rfl); (case db => rfl); (case hu => ke_room); (case hs => k_extra "MineSame"))))
  (k_with "MineNew" => ((try dsimp only [AllNe] at D1'); (try dsimp only [AllNe] at D2'); (try dsimp only [AllNe] at D3')))
  (k_with "MineNe1" => (refine neN ?_; (try dsimp only); with_reducible first | assumption | (refine Ne.symm ?_; assumption) | exact Nat.ne_of_lt (by assumption) | exact Nat.ne_of_gt (by assumption) | exact Nat.ne_of_lt (by k_extra "MineLtS") | exact Nat.ne_of_gt (by k_extra "MineLtS") | k_extra "MineNe2"))
  (k_with "MineLtS" => first | assumption | exact Nat.lt_succ_self _ | (refine Nat.lt_succ_of_lt ?_; k_extra "MineLtS"))
  (k_with "MineNe2" => (rename _ ∧ _ => hc9; first | k_extra "MinePrj" | (clear hc9; k_extra "MineNe2")))
  (k_with "MinePrj" => first | exact hc9.1 | exact Ne.symm hc9.1 | exact Nat.ne_of_lt hc9.1 | exact Nat.ne_of_gt hc9.1 | exact hc9.2.1 | exact Ne.symm hc9.2.1 | exact Nat.ne_of_lt hc9.2.1 | exact Nat.ne_of_gt hc9.2.1 | exact hc9.2.2.1 | exact Ne.symm hc9.2.2.1 | exact Nat.ne_of_lt hc9.2.2.1 | exact Nat.ne_of_gt hc9.2.2.1 | exact hc9.2.2.2.1 | exact Ne.symm hc9.2.2.2.1 | exact Nat.ne_of_lt hc9.2.2.2.1 | exact Nat.ne_of_gt hc9.2.2.2.1 | exact hc9.2.2.2.2.1 | exact Ne.symm hc9.2.2.2.2.1 | exact Nat.ne_of_lt hc9.2.2.2.2.1 | exact Nat.ne_of_gt hc9.2.2.2.2.1 | exact hc9.2.2.2.2.2.1 | exact Ne.symm hc9.2.2.2.2.2.1 | exact Nat.ne_of_lt hc9.2.2.2.2.2.1 | exact Nat.ne_of_gt hc9.2.2.2.2.2.1 | exact hc9.2.2.2.2.2.2.1 | exact Ne.symm hc9.2.2.2.2.2.2.1 | exact Nat.ne_of_lt hc9.2.2.2.2.2.2.1 | exact Nat.ne_of_gt hc9.2.2.2.2.2.2.1 | exact hc9.2.2.2.2.2.2.2.1 | exact Ne.symm hc9.2.2.2.2.2.2.2.1 | exact Nat.ne_of_lt hc9.2.2.2.2.2.2.2.1 | exact Nat.ne_of_gt hc9.2.2.2.2.2.2.2.1 | exact hc9.2.2.2.2.2.2.2.2.1 | exact Ne.symm hc9.2.2.2.2.2.2.2.2.1 | exact Nat.ne_of_lt hc9.2.2.2.2.2.2.2.2.1 | exact Nat.ne_of_gt hc9.2.2.2.2.2.2.2.2.1 | exact hc9.2.2.2.2.2.2.2.2.2.1 | exact Ne.symm hc9.2.2.2.2.2.2.2.2.2.1 | exact Nat.ne_of_lt hc9.2.2.2.2.2.2.2.2.2.1 | exact Nat.ne_of_gt hc9.2.2.2.2.2.2.2.2.2.1 | exact hc9.2.2.2.2.2.2.2.2.2.2.1 | exact Ne.symm hc9.2.2.2.2.2.2.2.2.2.2.1 | exact Nat.ne_of_lt hc9.2.2.2.2.2.2.2.2.2.2.1 | exact Nat.ne_of_gt hc9.2.2.2.2.2.2.2.2.2.2.1 | exact hc9.2.2.2.2.2.2.2.2.2.2.2.1 | exact Ne.symm hc9.2.2.2.2.2.2.2.2.2.2.2.1 | exact Nat.ne_of_lt hc9.2.2.2.2.2.2.2.2.2.2.2.1 | exact Nat.ne_of_gt hc9.2.2.2.2.2.2.2.2.2.2.2.1 | exact hc9.2.2.2.2.2.2.2.2.2.2.2.2.1 | exact Ne.symm hc9.2.2.2.2.2.2.2.2.2.2.2.2.1 | exact Nat.ne_of_lt hc9.2.2.2.2.2.2.2.2.2.2.2.2.1 | exact Nat.ne_of_gt hc9.2.2.2.2.2.2.2.2.2.2.2.2.1 | exact hc9.2.2.2.2.2.2.2.2.2.2.2.2.2.1 | exact Ne.symm hc9.2.2.2.2.2.2.2.2.2.2.2.2.2.1 | exact Nat.ne_of_lt hc9.2.2.2.2.2.2.2.2.2.2.2.2.2.1 | exact Nat.ne_of_gt hc9.2.2.2.2.2.2.2.2.2.2.2.2.2.1 | exact hc9.2.2.2.2.2.2.2.2.2.2.2.2.2.2.1 | exact Ne.symm hc9.2.2.2.2.2.2.2.2.2.2.2.2.2.2.1 | exact Nat.ne_of_lt hc9.2.2.2.2.2.2.2.2.2.2.2.2.2.2.1 | exact Nat.ne_of_gt hc9.2.2.2.2.2.2.2.2.2.2.2.2.2.2.1 | exact hc9.2.2.2.2.2.2.2.2.2.2.2.2.2.2.2.1 | exact Ne.symm hc9.2.2.2.2.2.2.2.2.2.2.2.2.2.2.2.1 | exact Nat.ne_of_lt hc9.2.2.2.2.2.2.2.2.2.2.2.2.2.2.2.1 | exact Nat.ne_of_gt hc9.2.2.2.2.2.2.2.2.2.2.2.2.2.2.2.1)
  trivial
theorem fmod_in (a : Int) {n : Int} (h : 0 < n) : 0 ≤ a.fmod n ∧ a.fmod n < n := ⟨Int.fmod_nonneg_of_pos a h, Int.fmod_lt_of_pos a h⟩
theorem mul_ok {a b : Int} (h0 : 0 ≤ a) (h1 : a < 18446744073709551616) : IntMulOk a b := IntMulOk.of_left (intBits_le_64 (by omega) (by omega))
theorem fmod_small (a : Int) {n : Int} (h : 0 < n) (h1 : n ≤ 18446744073709551616) (b : Int) : IntMulOk (a.fmod n) b := mul_ok (fmod_in a h).1 (Int.lt_of_lt_of_le (fmod_in a h).2 h1)
abbrev poolO (x y : Int) (tx ty : Tok) (n : Nat) : Obj := listOf [Value.int x tx, Value.int y ty].toArray n
def IsPool (o : Obj) : Prop := ∃ x y tx ty n, o = poolO x y tx ty n ∧ 0 ≤ x ∧ 0 ≤ y ∧ y < 2147483647
-- what a draw leaves: the pool, changed; nw, made; its value
def WPost (src : Addr) (ro : Led) (P : Value → Obj → Led → Prop) (v : Value) (l : Led) : Prop := ∃ o' nw, l = (src, o') :: (nw ++ ro) ∧ (∀ q ∈ nw, q.1 ∉ src :: ro.map (·.1)) ∧ P v o' nw
def TakePost (top : Int) (v : Value) (o' : Obj) (nw : Led) : Prop := IsPool o' ∧ nw = [] ∧ ∃ d td, v = .int d td ∧ 0 ≤ d ∧ d < top
section
variable {loose : List Str} {mean : ExcName → Option Value} {mg mb : Str → Option Value}
section
theorem words1 : True := by
  (k_with "binaryOp Mult int int" => (refine mul_int ?_ (fmod_small _ (by decide) (by decide) _)))
  trivial
theorem take_ok : ∀ (w : World) (src : Addr) (o : Obj) (top : Int) (tt : Tok), IsPool o → 1 ≤ top → top ≤ 1000 →
    Ok w loose mean mg mb 360 2880 (.ref 394) [.ref src, .int top tt] [(src, o)] (WPost src [] (TakePost top)) := by
  rintro w src _ top tt ⟨x, y, tx, ty, n, rfl, h0, hy0, hy1⟩ ht ht2
  unfold Ok
  k_fill
  intro cn cs a ccd cl outer A₀ base h₀ L m s Q E B F X N T hk hret
  k_extra "MineWalk"
  · refine' leaveW (nw := []) ?F ?N ?_ ?h1 ?h2 ?h3
    k_extra "MineLeaveW"
    exact hret _ _ _ _ ⟨_, _, rfl, List.forall_mem_nil _, ⟨_, _, _, _, _, rfl, Int.fdiv_nonneg h0 (by omega), hy0, hy1⟩, rfl, _, _, rfl, (fmod_in _ (by omega)).1, (fmod_in _ (by omega)).2⟩ F9 N9 K9 Z9
  · refine' leaveW (nw := []) ?F ?N ?_ ?h1 ?h2 ?h3
    k_extra "MineLeaveW"
    exact hret _ _ _ _ ⟨_, _, rfl, List.forall_mem_nil _, ⟨_, _, _, _, _, rfl, h0, (fmod_in _ (by decide)).1, (fmod_in _ (by decide)).2⟩, rfl, _, _, rfl, (fmod_in _ (by omega)).1, (fmod_in _ (by omega)).2⟩ F9 N9 K9 Z9
end
end
-- calls taken apart
section
variable {w : World} {loose : List Str} {mean : ExcName → Option Value} {mg mb : Str → Option Value} {D U : Nat} {f : Value} {vs : List Value} {sub : Led}
  {A : Around} {cn : Str} {cs : Scope} {a : Addr} {ccd : Value} {cl : List (Str × Addr)} {outer : List Env} {A₀ : Around} {base h₀ : Heap} {L : Addr} {m : Str → Option Value} {s : Shared} {Q E : Value → Shared → Prop} {news : Led}
theorem Ok.useTake {top : Int} {src : Addr} {o : Obj} {ro : Led} {fN : Obj → Led} (C : Ok w loose mean mg mb D U f vs ((src, o) :: ro) (WPost src ro (TakePost top))) (hA : A.frames = some (envX cn cs L a ccd cl :: outer)) (hh : A.handled = none) (hd : A.depth ≤ D) (hu : A.units ≤ U)
    (B : Below A₀ base outer h₀) (F : Fr h₀ L s.heap m) (X : (KH w.params).In h₀) (N : News h₀ L s.heap news) (T : Top topProg loose mean mg mb h₀) (hk : cs.kind = .function)
    (hU : ∀ o', Upd src o o' news (fN o')) (hs : ∀ q ∈ ro, q ∈ news) (k : ∀ o' d t h' tk', IsPool o' → 0 ≤ d → d < top → Fr h₀ L h' m → News h₀ L h' (fN o') → Q (.int d t) { s with heap := h', toks := tk' }) : wpAny (model rw0.prog w) A (call f vs) Q E s :=
  Ok.useW C hA hh hd hu B F X N T hk hU hs fun v o' nw h' tk' P F' N' D' => (by obtain ⟨hP, rfl, d, t, rfl, h0, h1⟩ := P; exact k o' d t h' tk' hP h0 h1 F' N')
end

-- part C2
theorem words0_C2 : True := by
  k_with_none
  (k_with "MineEnter" => (refine wpAny_call ?_; k_dflt (refine' enterQ ?k1 ?k2 ?k3 ?k4 ?k5 ?kA ?kF ?kK ?k6 ?k7 ?k8 ?k9 ?kB ?_ ?c2 ?c3 ?c4 ?c5; (case kA => exact rfl); (case kF => exact rfl); (case kK => assumption); (case k1 => k_asm); (case k2 => k_asm); (case k3 => k_asm); (case k4 => k_asm); (case k5 => k_asm); (case k6 => k_is); (case k7 => k_is); (case k8 => ktr_room); (case k9 => first | exact BindsTo.of_eq rfl | exact binds_K (by k_in) rfl (by k_is) rfl rfl rfl); (case c5 => decide); (case kB => exact locs rfl); (case c2 => exact rfl); (case c3 => exact rfl); (case c4 => exact rfl)); intro g' L' h' tk' FG' F' N' B' X' T' hg' lL'; (try k_lt lL'); (try dsimp only); (try k_fold)))
  (k_with "MineEnterC" => (refine wpAny_call ?_; k_dflt (refine' enterQC ?k1 ?k2 ?k3 ?k4 ?k5 ?kA ?kF ?kK ?k6 ?k7 ?k8 ?k9 ?kB ?kD ?_ ?c2 ?c3 ?c4; (case kA => exact rfl); (case kF => exact rfl); (case kK => assumption); (case k1 => k_asm); (case k2 => k_asm); (case k3 => k_asm); (case k4 => k_asm); (case k5 => k_asm); (case k6 => k_is); (case k7 => k_is); (case k8 => ktr_room); (case k9 => first | exact BindsTo.of_eq rfl | exact binds_K (by k_in) rfl (by k_is) rfl rfl rfl); (case kB => exact rfl); (case kD => decide +kernel); (case c2 => exact rfl); (case c3 => exact rfl); (case c4 => exact rfl)); intro g' L' h' tk' cells' FG' F' N' Y' B' X' T' hg' lL'; (try k_lt lL'); k_cells Y'; (try simp only [List.cons_append, List.nil_append] at N'); (try dsimp only); (try k_fold)))
  (k_with "MineWalkC" => (k_extra "MineEnterC"; k_steps; all_goals (try dsimp only); all_goals (try (k_unfold; dsimp only))))
  (k_with "MineWalk" => (k_extra "MineEnter"; k_steps; all_goals (try dsimp only); all_goals (try (k_unfold; dsimp only))))
  (k_with "MineFresh" => first | exact List.forall_mem_nil _ | (refine' List.forall_mem_cons.mpr ⟨?fa, ?fb⟩; (case fa => (repeat (first | exact List.not_mem_nil | (refine' List.not_mem_cons_of_ne_of_not_mem ?fn ?_; (case fn => k_ne)))))); (case fb => k_extra "MineFresh"))
  (k_with "MineMem" => first | exact List.forall_mem_nil _ | (refine' List.forall_mem_cons.mpr ⟨?fa, ?fb⟩; (case fa => k_mem); (case fb => k_extra "MineMem")))
  (k_with "MineSide" => ((case kA => exact rfl); (case kh => exact rfl); (case kd => exact Nat.le_of_ble_eq_true rfl); (case ku => exact Nat.le_of_ble_eq_true rfl); (case kB => k_asm); (case kF => k_asm); (case kX => k_asm); (case kN => k_asm); (case kT => k_asm); (case kk => exact rfl)))
  (k_with "MineLed" => ((try simp only [List.nil_append, List.cons_append] at N'); (try (replace D' := allNe2_of D'; simp only [AllNe2, AllNe, and_true] at D'))))
  (k_with "MineLeaveW" => ((case F => k_asm); (case N => k_asm); (case h1 => k_mem); (case h2 => k_extra "MineMem"); (case h3 => k_extra "MineMem"); intro F9 N9 K9 Z9))
  (k_with "MineLeaveR" => ((case F => k_asm); (case N => k_asm); (case h2 => k_extra "MineMem"); (case h3 => k_extra "MineMem"); intro F9 N9 K9 Z9))
  (k_with "MineGetLen" => (exfalso; omega))
  (k_with "MinePut" => (first | exact Int.lt_of_lt_of_le (b := 256) (by omega) (by decide) | exact Int.lt_of_lt_of_le (b := 65536) (by omega) (by decide) | exact Int.lt_of_lt_of_le (b := 16777216) (by omega) (by decide) | exact Int.lt_of_lt_of_le (b := 281474976710656) (by omega) (by decide)))
  (k_with "MineBytes" => first | assumption | exact bI1 ⟨by omega, by omega⟩ | exact bI2 ⟨by omega, by omega⟩ ⟨by omega, by omega⟩ | exact zeros_ints _ | exact KBw.ints_list _)
  (k_with "MineAdd" => (k_here; (with_reducible show wpAny _ _ (binaryOp Operator.Add (Value.bytes _ _) (Value.bytes _ _)) _ _ _); (refine KBa.add_K (by k_extra "MineBytes") (by k_extra "MineBytes") (by first | (simp only [List.length_cons, List.length_nil, List.length_append, List.length_map, List.length_replicate, rangeInts_length]; omega) | omega | (simp only [List.length_cons, List.length_nil, List.length_append, List.length_map, List.length_replicate, sum_len]; omega)) ?_); intro t' k' hb'))
  (k_with "MinePutBad" => (intro h9; first | (have h8 := Int.lt_of_lt_of_le h9 (show (1 * 2 ^ ((8:Int) * 1).toNat : Int) ≤ 256 by decide); omega) | (have h8 := Int.lt_of_lt_of_le h9 (show (1 * 2 ^ ((8:Int) * 3).toNat : Int) ≤ 16777216 by decide); omega)))
  (k_with "MinePass" => ((rename RaisedS _ _ _ _ _ _ _ _ _ => rsX); k_dflt (refine' leave_onX (news := ?sub) ?K ?F ?hf rsX ?U ?hs ?_; (case sub => first | k_extra "MineSub" | exact []); (case K => k_asm); (case F => k_asm); (case hf => exact rfl); (case U => k_asm); (case hs => k_extra "MineMem"); intro h9 R9 U9)))
  (k_with "MineEnterS" => (refine wpAny_call ?_; k_dflt (refine' enterQS ?k1 ?k2 ?k3 ?k4 ?k5 ?k0 ?kA ?kF ?kK ?k6 ?k7 ?k8 ?k9 ?kB ?_ ?c2 ?c3 ?c4 ?c5; (case kA => exact rfl); (case kF => exact rfl); (case kK => assumption); (case k1 => k_asm); (case k2 => k_asm); (case k3 => k_asm); (case k4 => k_asm); (case k5 => k_asm); (case k0 => k_asm); (case k6 => k_is); (case k7 => k_is); (case k8 => ktr_room); (case k9 => first | exact BindsTo.of_eq rfl | exact binds_K (by k_in) rfl (by k_is) rfl rfl rfl); (case c5 => decide); (case kB => exact locs rfl); (case c2 => exact rfl); (case c3 => exact rfl); (case c4 => exact rfl)); intro g' L' h' tk' FG' F' N' B' X' T' D' hg' lL'; (try k_lt lL'); (try dsimp only); (try k_fold)))
  (k_with "MineEnterSC" => (refine wpAny_call ?_; k_dflt (refine' enterQSC ?k1 ?k2 ?k3 ?k4 ?k5 ?k0 ?kA ?kF ?kK ?k6 ?k7 ?k8 ?k9 ?kB ?kD ?_ ?c2 ?c3 ?c4; (case kA => exact rfl); (case kF => exact rfl); (case kK => assumption); (case k1 => k_asm); (case k2 => k_asm); (case k3 => k_asm); (case k4 => k_asm); (case k5 => k_asm); (case k0 => k_asm); (case k6 => k_is); (case k7 => k_is); (case k8 => ktr_room); (case k9 => first | exact BindsTo.of_eq rfl | exact binds_K (by k_in) rfl (by k_is) rfl rfl rfl); (case kB => exact rfl); (case kD => decide +kernel); (case c2 => exact rfl); (case c3 => exact rfl); (case c4 => exact rfl)); intro g' L' h' tk' cells' FG' F' N' Y' B' X' T' D' hg' lL'; (try k_lt lL'); k_cells Y'; (try simp only [List.cons_append, List.nil_append] at N'); (try dsimp only); (try k_fold)))
  (k_with "MineEnterL" => (refine wpAny_call ?_; k_dflt (refine' enterQL ?k1 ?k2 ?k3 ?k4 ?k5 ?kA ?kF ?kK ?ho ?hc ?hd ?hv ?k8 ?k9 ?kB ?_ ?c2 ?c3 ?c4 ?c5; (case kA => exact rfl); (case kF => exact rfl); (case kK => assumption); (case k1 => k_asm); (case k2 => k_asm); (case k3 => k_asm); (case k4 => k_asm); (case k5 => k_asm); (case ho => k_mem); (case hc => k_mem); (case hd => assumption); (case hv => assumption); (case k8 => ktr_room); (case k9 => exact rfl); (case c5 => decide); (case kB => exact locs rfl); (case c2 => exact rfl); (case c3 => exact rfl); (case c4 => exact rfl)); intro g' L' h' tk' FG' F' N' B' X' T' hg' lL'; (try k_lt lL'); (try dsimp only); (try k_fold)))
  (k_with "MineWalkL" => (k_extra "MineEnterL"; k_dflt (show wpAny _ _ (eval (Expr.Call _ _ _ _) _) _ _ _); k_steps; all_goals (try dsimp only); all_goals (try (k_unfold; dsimp only))))
  (k_with "MineWalkS" => (k_extra "MineEnterS"; k_steps; all_goals (try dsimp only); all_goals (try (k_unfold; dsimp only))))
  (k_with "MineSame" => first | exact SameL.nil | (refine' SameL.cons ?sa ?sb; (case sa => first | exact same_int _ _ _ | exact same_bytes _ _ _ | exact PySem.SeqAt.EqAt.same _); (case sb => k_extra "MineSame")))
  (k_with "MineNeT" => (k_here; (with_reducible show wpAny _ _ (compareOp CmpOp.NotEq (Value.ref _) (Value.ref _)) _ _ _); k_dflt (refine' ne_tups ?N ?ml ?mb ?cl ?dl ?cb ?db ?hu ?hs ?_; (case N => k_asm); (case ml => k_mem); (case mb => k_mem); (case cl => rfl); (case dl => rfl); (case cb => rfl); (case db => rfl); (case hu => ke_room); (case hs => k_extra "MineSame"))))
  (k_with "MineEqT" => (k_here; (with_reducible show wpAny _ _ (compareOp CmpOp.Eq (Value.ref _) (Value.ref _)) _ _ _); k_dflt (refine' eq_tups ?N ?ml ?mb ?cl ?dl ?cb ?db ?hu ?hs ?_; (case N => k_asm); (case ml => k_mem); (case mb => k_mem); (case cl => rfl); (case dl => rfl); (case cb => rfl); (case db => rfl); (case hu => ke_room); (case hs => k_extra "MineSame"))))
  (k_with "MineNew" => ((try dsimp only [AllNe] at D1'); (try dsimp only [AllNe] at D2'); (try dsimp only [AllNe] at D3')))
  (k_with "MineNe1" => (refine neN ?_; (try dsimp only); with_reducible first | assumption | (refine Ne.symm ?_; assumption) | exact Nat.ne_of_lt (by assumption) | exact Nat.ne_of_gt (by assumption) | exact Nat.ne_of_lt (by k_extra "MineLtS") | exact Nat.ne_of_gt (by k_extra "MineLtS") | k_extra "MineNe2"))
  (k_with "MineLtS" => first | assumption | exact Nat.lt_succ_self _ | (refine Nat.lt_succ_of_lt ?_; k_extra "MineLtS"))
  (k_with "MineNe2" => (rename _ ∧ _ => hc9; first | k_extra "MinePrj" | (clear hc9; k_extra "MineNe2")))
  (k_with "MinePrj" => first | exact hc9.1 | exact Ne.symm hc9.1 | exact Nat.ne_of_lt hc9.1 | exact Nat.ne_of_gt hc9.1 | exact hc9.2.1 | exact Ne.symm hc9.2.1 | exact Nat.ne_of_lt hc9.2.1 | exact Nat.ne_of_gt hc9.2.1 | exact hc9.2.2.1 | exact Ne.symm hc9.2.2.1 | exact Nat.ne_of_lt hc9.2.2.1 | exact Nat.ne_of_gt hc9.2.2.1 | exact hc9.2.2.2.1 | exact Ne.symm hc9.2.2.2.1 | exact Nat.ne_of_lt hc9.2.2.2.1 | exact Nat.ne_of_gt hc9.2.2.2.1 | exact hc9.2.2.2.2.1 | exact Ne.symm hc9.2.2.2.2.1 | exact Nat.ne_of_lt hc9.2.2.2.2.1 | exact Nat.ne_of_gt hc9.2.2.2.2.1 | exact hc9.2.2.2.2.2.1 | exact Ne.symm hc9.2.2.2.2.2.1 | exact Nat.ne_of_lt hc9.2.2.2.2.2.1 | exact Nat.ne_of_gt hc9.2.2.2.2.2.1 | exact hc9.2.2.2.2.2.2.1 | exact Ne.symm hc9.2.2.2.2.2.2.1 | exact Nat.ne_of_lt hc9.2.2.2.2.2.2.1 | exact Nat.ne_of_gt hc9.2.2.2.2.2.2.1 | exact hc9.2.2.2.2.2.2.2.1 | exact Ne.symm hc9.2.2.2.2.2.2.2.1 | exact Nat.ne_of_lt hc9.2.2.2.2.2.2.2.1 | exact Nat.ne_of_gt hc9.2.2.2.2.2.2.2.1 | exact hc9.2.2.2.2.2.2.2.2.1 | exact Ne.symm hc9.2.2.2.2.2.2.2.2.1 | exact Nat.ne_of_lt hc9.2.2.2.2.2.2.2.2.1 | exact Nat.ne_of_gt hc9.2.2.2.2.2.2.2.2.1 | exact hc9.2.2.2.2.2.2.2.2.2.1 | exact Ne.symm hc9.2.2.2.2.2.2.2.2.2.1 | exact Nat.ne_of_lt hc9.2.2.2.2.2.2.2.2.2.1 | exact Nat.ne_of_gt hc9.2.2.2.2.2.2.2.2.2.1 | exact hc9.2.2.2.2.2.2.2.2.2.2.1 | exact Ne.symm hc9.2.2.2.2.2.2.2.2.2.2.1 | exact Nat.ne_of_lt hc9.2.2.2.2.2.2.2.2.2.2.1 | exact Nat.ne_of_gt hc9.2.2.2.2.2.2.2.2.2.2.1 | exact hc9.2.2.2.2.2.2.2.2.2.2.2.1 | exact Ne.symm hc9.2.2.2.2.2.2.2.2.2.2.2.1 | exact Nat.ne_of_lt hc9.2.2.2.2.2.2.2.2.2.2.2.1 | exact Nat.ne_of_gt hc9.2.2.2.2.2.2.2.2.2.2.2.1 | exact hc9.2.2.2.2.2.2.2.2.2.2.2.2.1 | exact Ne.symm hc9.2.2.2.2.2.2.2.2.2.2.2.2.1 | exact Nat.ne_of_lt hc9.2.2.2.2.2.2.2.2.2.2.2.2.1 | exact Nat.ne_of_gt hc9.2.2.2.2.2.2.2.2.2.2.2.2.1 | exact hc9.2.2.2.2.2.2.2.2.2.2.2.2.2.1 | exact Ne.symm hc9.2.2.2.2.2.2.2.2.2.2.2.2.2.1 | exact Nat.ne_of_lt hc9.2.2.2.2.2.2.2.2.2.2.2.2.2.1 | exact Nat.ne_of_gt hc9.2.2.2.2.2.2.2.2.2.2.2.2.2.1 | exact hc9.2.2.2.2.2.2.2.2.2.2.2.2.2.2.1 | exact Ne.symm hc9.2.2.2.2.2.2.2.2.2.2.2.2.2.2.1 | exact Nat.ne_of_lt hc9.2.2.2.2.2.2.2.2.2.2.2.2.2.2.1 | exact Nat.ne_of_gt hc9.2.2.2.2.2.2.2.2.2.2.2.2.2.2.1 | exact hc9.2.2.2.2.2.2.2.2.2.2.2.2.2.2.2.1 | exact Ne.symm hc9.2.2.2.2.2.2.2.2.2.2.2.2.2.2.2.1 | exact Nat.ne_of_lt hc9.2.2.2.2.2.2.2.2.2.2.2.2.2.2.2.1 | exact Nat.ne_of_gt hc9.2.2.2.2.2.2.2.2.2.2.2.2.2.2.2.1)
  trivial
theorem wordsK_C2 : True := by
  (k_with "call ref" => (k_here; (with_reducible show wpAny _ _ (call (Value.ref 394) _) _ _ _); (try k_fold); k_dflt (refine' Ok.useTake (take_ok _ _ _ _ _ ?p0 ?p1 ?p2) ?kA ?kh ?kd ?ku ?kB ?kF ?kX ?kN ?kT ?kk ?kU ?ks ?_; k_extra "MineSide"; (case kU => (intro; k_upd)); (case ks => k_extra "MineMem"); (case p0 => assumption); (case p1 => first | assumption | decide | omega); (case p2 => first | assumption | decide | omega); intro o' d' td' h' tk' hP' hd0' hd1' F' N')))
  trivial
section
variable {loose : List Str} {mean : ExcName → Option Value} {mg mb : Str → Option Value}
def OnePost (ks : List Int) (v : Value) (o' : Obj) (nw : Led) : Prop := IsPool o' ∧ nw = [] ∧ ∃ d td, v = .int d td ∧ d ∈ ks
def intsOf : List Value → List Int
  | .int n _ :: r => n :: intsOf r
  | _ => []
def allInt : List Value → Bool
  | [] => true
  | .int _ _ :: r => allInt r
  | _ => false
theorem ints_of : ∀ {vs : List Value}, allInt vs = true → IntsAre vs (intsOf vs)
  | [], _ => .nil
  | .int n t :: r, h => .cons n t (ints_of (vs := r) h)
theorem item_any {prog : Program} {w : World} {A : Around} {E : Value → Shared → Prop} {s : Shared} {value slice : PySem.Expr} {l : Addr} {vs : List Value} {ks : List Int} {k : Int} {u : Tok} {Q : Value → Shared → Prop}
    (hl : s.heap.IsList l vs.toArray) (hi : IntsAre vs ks) (h0 : 0 ≤ k) (hhi : k < 2 ^ 63) (hx : k < ((vs.length : Nat) : Int)) (h : ∀ d td, d ∈ ks → Q (.int d td) s)
    (hs : subscripted slice false (.ref l) (.int k u) = operate [.ref l, .int k u] (getItem (.ref l) (.int k u)) := by with_unfolding_all rfl) :
    wpAny (model prog w) A (subscriptTail value slice (.ref l) (.int k u)) Q E s := by
  have hk : k.toNat < vs.length := by omega
  obtain ⟨n, t, e, en⟩ := hi.at k.toNat _ (List.getElem?_eq_getElem hk)
  refine tail_any hl.typeIs slot_list_getitem.lookup (wpAny_getItem_list hl h0 hhi (x := .int n t) (by rw [List.getElem?_toArray, List.getElem?_eq_getElem hk, e]) (h n t (List.mem_of_getElem? en))) hs
theorem len_one {prog : Program} {w : World} {A : Around} {E : Value → Shared → Prop} {s : Shared} {l : Addr} {vs : List Value} {Q : Value → Shared → Prop} (hl : s.heap.IsList l vs.toArray) (hv : vs.length ≤ 1000)
    (h : ∀ t k, Q (.int ((vs.length : Nat) : Int) t) { s with toks := k }) : wpAny (model prog w) A (call (.builtin "len") [.ref l]) Q E s :=
  PyProof.Rows.len_list hl (by rw [List.size_toArray]; omega) (by rw [List.size_toArray]; exact h _ _)
section
theorem words2 : True := by
  (k_with "call builtin:len" => (k_here; (with_reducible show wpAny _ _ (call (Value.builtin "len") [Value.ref _]) _ _ _); (with_unfolding_all (refine' len_one ?k1 ?k2 ?_)); ((case k1 => is_list); (case k2 => assumption)); intro _ _))
  (k_with "subscriptTail" => (k_here; (with_reducible show wpAny _ _ (subscriptTail _ _ (Value.ref _) (Value.int _ _)) _ _ _); k_dflt ((with_unfolding_all (refine' item_any ?k1 ?k6 ?k2 ?k3 ?k4 ?_ ?k5)); (case k1 => is_list); (case k6 => assumption); (case k2 => assumption); (case k3 => omega); (case k4 => assumption); (case k5 => with_unfolding_all rfl); intro _ _ _)))
  trivial
theorem one_ok : ∀ (w : World) (src : Addr) (o : Obj) (l : Addr) (vs : List Value) (nl : Nat), @Ne Nat src l → IsPool o → allInt vs = true → 1 ≤ vs.length → vs.length ≤ 1000 →
    Ok w loose mean mg mb 350 2800 (.ref 401) [.ref src, .ref l] [(src, o), (l, listOf vs.toArray nl)] (WPost src [(l, listOf vs.toArray nl)] (OnePost (intsOf vs))) := by
  intro w src o l vs nl hsl hP hI ht ht2
  replace hI := ints_of hI
  unfold Ok
  k_fill
  intro cn cs a ccd cl outer A₀ base h₀ L m s Q E B F X N T hk hret
  k_extra "MineWalk"
  · refine' leaveW (nw := []) ?F ?N ?_ ?h1 ?h2 ?h3
    k_extra "MineLeaveW"
    exact hret _ _ _ _ ⟨_, _, rfl, List.forall_mem_nil _, ‹_›, rfl, _, _, rfl, ‹_›⟩ F9 N9 K9 Z9
end
end
-- calls taken apart
section
variable {w : World} {loose : List Str} {mean : ExcName → Option Value} {mg mb : Str → Option Value} {D U : Nat} {f : Value} {vs : List Value} {sub : Led}
  {A : Around} {cn : Str} {cs : Scope} {a : Addr} {ccd : Value} {cl : List (Str × Addr)} {outer : List Env} {A₀ : Around} {base h₀ : Heap} {L : Addr} {m : Str → Option Value} {s : Shared} {Q E : Value → Shared → Prop} {news : Led}
theorem Ok.useOne {ks : List Int} {src : Addr} {o : Obj} {ro : Led} {fN : Obj → Led} (C : Ok w loose mean mg mb D U f vs ((src, o) :: ro) (WPost src ro (OnePost ks))) (hA : A.frames = some (envX cn cs L a ccd cl :: outer)) (hh : A.handled = none) (hd : A.depth ≤ D) (hu : A.units ≤ U)
    (B : Below A₀ base outer h₀) (F : Fr h₀ L s.heap m) (X : (KH w.params).In h₀) (N : News h₀ L s.heap news) (T : Top topProg loose mean mg mb h₀) (hk : cs.kind = .function)
    (hU : ∀ o', Upd src o o' news (fN o')) (hs : ∀ q ∈ ro, q ∈ news) (k : ∀ o' d t h' tk', IsPool o' → d ∈ ks → Fr h₀ L h' m → News h₀ L h' (fN o') → Q (.int d t) { s with heap := h', toks := tk' }) : wpAny (model rw0.prog w) A (call f vs) Q E s :=
  Ok.useW C hA hh hd hu B F X N T hk hU hs fun v o' nw h' tk' P F' N' D' => (by obtain ⟨hP, rfl, d, t, rfl, h0⟩ := P; exact k o' d t h' tk' hP h0 F' N')
theorem in_bound {ks : List Int} {d b : Int} (h : d ∈ ks) (hb : (ks.all fun k => decide (0 ≤ k) && decide (k < b)) = true) : 0 ≤ d ∧ d < b := by
  have := List.all_eq_true.mp hb d h
  simpa using this
end

-- part C3
theorem words0_C3 : True := by
  k_with_none
  (k_with "MineEnter" => (refine wpAny_call ?_; k_dflt (refine' enterQ ?k1 ?k2 ?k3 ?k4 ?k5 ?kA ?kF ?kK ?k6 ?k7 ?k8 ?k9 ?kB ?_ ?c2 ?c3 ?c4 ?c5; (case kA => exact rfl); (case kF => exact rfl); (case kK => assumption); (case k1 => k_asm); (case k2 => k_asm); (case k3 => k_asm); (case k4 => k_asm); (case k5 => k_asm); (case k6 => k_is); (case k7 => k_is); (case k8 => ktr_room); (case k9 => first | exact BindsTo.of_eq rfl | exact binds_K (by k_in) rfl (by k_is) rfl rfl rfl); (case c5 => decide); (case kB => exact locs rfl); (case c2 => exact rfl); (case c3 => exact rfl); (case c4 => exact rfl)); intro g' L' h' tk' FG' F' N' B' X' T' hg' lL'; (try k_lt lL'); (try dsimp only); (try k_fold)))
  (k_with "MineEnterC" => (refine wpAny_call ?_; k_dflt (refine' enterQC ?k1 ?k2 ?k3 ?k4 ?k5 ?kA ?kF ?kK ?k6 ?k7 ?k8 ?k9 ?kB ?kD ?_ ?c2 ?c3 ?c4; (case kA => exact rfl); (case kF => exact rfl); (case kK => assumption); (case k1 => k_asm); (case k2 => k_asm); (case k3 => k_asm); (case k4 => k_asm); (case k5 => k_asm); (case k6 => k_is); (case k7 => k_is); (case k8 => ktr_room); (case k9 => first | exact BindsTo.of_eq rfl | exact binds_K (by k_in) rfl (by k_is) rfl rfl rfl); (case kB => exact rfl); (case kD => decide +kernel); (case c2 => exact rfl); (case c3 => exact rfl); (case c4 => exact rfl)); intro g' L' h' tk' cells' FG' F' N' Y' B' X' T' hg' lL'; (try k_lt lL'); k_cells Y'; (try simp only [List.cons_append, List.nil_append] at N'); (try dsimp only); (try k_fold)))
  (k_with "MineWalkC" => (k_extra "MineEnterC"; k_steps; all_goals (try dsimp only); all_goals (try (k_unfold; dsimp only))))
  (k_with "MineWalk" => (k_extra "MineEnter"; k_steps; all_goals (try dsimp only); all_goals (try (k_unfold; dsimp only))))
  (k_with "MineFresh" => first | exact List.forall_mem_nil _ | (refine' List.forall_mem_cons.mpr ⟨?fa, ?fb⟩; (case fa => (repeat (first | exact List.not_mem_nil | (refine' List.not_mem_cons_of_ne_of_not_mem ?fn ?_; (case fn => k_ne)))))); (case fb => k_extra "MineFresh"))
  (k_with "MineMem" => first | exact List.forall_mem_nil _ | (refine' List.forall_mem_cons.mpr ⟨?fa, ?fb⟩; (case fa => k_mem); (case fb => k_extra "MineMem")))
  (k_with "MineSide" => ((case kA => exact rfl); (case kh => exact rfl); (case kd => exact Nat.le_of_ble_eq_true rfl); (case ku => exact Nat.le_of_ble_eq_true rfl); (case kB => k_asm); (case kF => k_asm); (case kX => k_asm); (case kN => k_asm); (case kT => k_asm); (case kk => exact rfl)))
  (k_with "MineLed" => ((try simp only [List.nil_append, List.cons_append] at N'); (try (replace D' := allNe2_of D'; simp only [AllNe2, AllNe, and_true] at D'))))
  (k_with "MineLeaveW" => ((case F => k_asm); (case N => k_asm); (case h1 => k_mem); (case h2 => k_extra "MineMem"); (case h3 => k_extra "MineMem"); intro F9 N9 K9 Z9))
  (k_with "MineLeaveR" => ((case F => k_asm); (case N => k_asm); (case h2 => k_extra "MineMem"); (case h3 => k_extra "MineMem"); intro F9 N9 K9 Z9))
  (k_with "MineGetLen" => (exfalso; omega))
  (k_with "MinePut" => (first | exact Int.lt_of_lt_of_le (b := 256) (by omega) (by decide) | exact Int.lt_of_lt_of_le (b := 65536) (by omega) (by decide) | exact Int.lt_of_lt_of_le (b := 16777216) (by omega) (by decide) | exact Int.lt_of_lt_of_le (b := 281474976710656) (by omega) (by decide)))
  (k_with "MineBytes" => first | assumption | exact bI1 ⟨by omega, by omega⟩ | exact bI2 ⟨by omega, by omega⟩ ⟨by omega, by omega⟩ | exact zeros_ints _ | exact KBw.ints_list _)
  (k_with "MineAdd" => (k_here; (with_reducible show wpAny _ _ (binaryOp Operator.Add (Value.bytes _ _) (Value.bytes _ _)) _ _ _); (refine KBa.add_K (by k_extra "MineBytes") (by k_extra "MineBytes") (by first | (simp only [List.length_cons, List.length_nil, List.length_append, List.length_map, List.length_replicate, rangeInts_length]; omega) | omega | (simp only [List.length_cons, List.length_nil, List.length_append, List.length_map, List.length_replicate, sum_len]; omega)) ?_); intro t' k' hb'))
  (k_with "MinePutBad" => (intro h9; first | (have h8 := Int.lt_of_lt_of_le h9 (show (1 * 2 ^ ((8:Int) * 1).toNat : Int) ≤ 256 by decide); omega) | (have h8 := Int.lt_of_lt_of_le h9 (show (1 * 2 ^ ((8:Int) * 3).toNat : Int) ≤ 16777216 by decide); omega)))
  (k_with "MinePass" => ((rename RaisedS _ _ _ _ _ _ _ _ _ => rsX); k_dflt (refine' leave_onX (news := ?sub) ?K ?F ?hf rsX ?U ?hs ?_; (case sub => first | k_extra "MineSub" | exact []); (case K => k_asm); (case F => k_asm); (case hf => exact rfl); (case U => k_asm); (case hs => k_extra "MineMem"); intro h9 R9 U9)))
  (k_with "MineEnterS" => (refine wpAny_call ?_; k_dflt (refine' enterQS ?k1 ?k2 ?k3 ?k4 ?k5 ?k0 ?kA ?kF ?kK ?k6 ?k7 ?k8 ?k9 ?kB ?_ ?c2 ?c3 ?c4 ?c5; (case kA => exact rfl); (case kF => exact rfl); (case kK => assumption); (case k1 => k_asm); (case k2 => k_asm); (case k3 => k_asm); (case k4 => k_asm); (case k5 => k_asm); (case k0 => k_asm); (case k6 => k_is); (case k7 => k_is); (case k8 => ktr_room); (case k9 => first | exact BindsTo.of_eq rfl | exact binds_K (by k_in) rfl (by k_is) rfl rfl rfl); (case c5 => decide); (case kB => exact locs rfl); (case c2 => exact rfl); (case c3 => exact rfl); (case c4 => exact rfl)); intro g' L' h' tk' FG' F' N' B' X' T' D' hg' lL'; (try k_lt lL'); (try dsimp only); (try k_fold)))
  (k_with "MineEnterSC" => (refine wpAny_call ?_; k_dflt (refine' enterQSC ?k1 ?k2 ?k3 ?k4 ?k5 ?k0 ?kA ?kF ?kK ?k6 ?k7 ?k8 ?k9 ?kB ?kD ?_ ?c2 ?c3 ?c4; (case kA => exact rfl); (case kF => exact rfl); (case kK => assumption); (case k1 => k_asm); (case k2 => k_asm); (case k3 => k_asm); (case k4 => k_asm); (case k5 => k_asm); (case k0 => k_asm); (case k6 => k_is); (case k7 => k_is); (case k8 => ktr_room); (case k9 => first | exact BindsTo.of_eq rfl | exact binds_K (by k_in) rfl (by k_is) rfl rfl rfl); (case kB => exact rfl); (case kD => decide +kernel); (case c2 => exact rfl); (case c3 => exact rfl); (case c4 => exact rfl)); intro g' L' h' tk' cells' FG' F' N' Y' B' X' T' D' hg' lL'; (try k_lt lL'); k_cells Y'; (try simp only [List.cons_append, List.nil_append] at N'); (try dsimp only); (try k_fold)))
  (k_with "MineEnterL" => (refine wpAny_call ?_; k_dflt (refine' enterQL ?k1 ?k2 ?k3 ?k4 ?k5 ?kA ?kF ?kK ?ho ?hc ?hd ?hv ?k8 ?k9 ?kB ?_ ?c2 ?c3 ?c4 ?c5; (case kA => exact rfl); (case kF => exact rfl); (case kK => assumption); (case k1 => k_asm); (case k2 => k_asm); (case k3 => k_asm); (case k4 => k_asm); (case k5 => k_asm); (case ho => k_mem); (case hc => k_mem); (case hd => assumption); (case hv => assumption); (case k8 => ktr_room); (case k9 => exact rfl); (case c5 => decide); (case kB => exact locs rfl); (case c2 => exact rfl); (case c3 => exact rfl); (case c4 => exact rfl)); intro g' L' h' tk' FG' F' N' B' X' T' hg' lL'; (try k_lt lL'); (try dsimp only); (try k_fold)))
  (k_with "MineWalkL" => (k_extra "MineEnterL"; k_dflt (show wpAny _ _ (eval (Expr.Call _ _ _ _) _) _ _ _); k_steps; all_goals (try dsimp only); all_goals (try (k_unfold; dsimp only))))
  (k_with "MineWalkS" => (k_extra "MineEnterS"; k_steps; all_goals (try dsimp only); all_goals (try (k_unfold; dsimp only))))
  (k_with "MineSame" => first | exact SameL.nil | (refine' SameL.cons ?sa ?sb; (case sa => first | exact same_int _ _ _ | exact same_bytes _ _ _ | exact PySem.SeqAt.EqAt.same _); (case sb => k_extra "MineSame")))
  (k_with "MineNeT" => (k_here; (with_reducible show wpAny _ _ (compareOp CmpOp.NotEq (Value.ref _) (Value.ref _)) _ _ _); k_dflt (refine' ne_tups ?N ?ml ?mb ?cl ?dl ?cb ?db ?hu ?hs ?_; (case N => k_asm); (case ml => k_mem); (case mb => k_mem); (case cl => rfl); (case dl => rfl); (case cb => rfl); (case db => rfl); (case hu => ke_room); (case hs => k_extra "MineSame"))))
  (k_with "MineEqT" => (k_here; (with_reducible show wpAny _ _ (compareOp CmpOp.Eq (Value.ref _) (Value.ref _)) _ _ _); k_dflt (refine' eq_tups ?N ?ml ?mb ?cl ?dl ?cb ?db ?hu ?hs ?_; (case N => k_asm); (case ml => k_mem); (case mb => k_mem); (case cl => rfl); (case dl => rfl); (case cb => rfl); (case db => rfl); (case hu => ke_room); (case hs => k_extra "MineSame"))))
  (k_with "MineNew" => ((try dsimp only [AllNe] at D1'); (try dsimp only [AllNe] at D2'); (try dsimp only [AllNe] at D3')))
  (k_with "MineNe1" => (refine neN ?_; (try dsimp only); with_reducible first | assumption | (refine Ne.symm ?_; assumption) | exact Nat.ne_of_lt (by assumption) | exact Nat.ne_of_gt (by assumption) | exact Nat.ne_of_lt (by k_extra "MineLtS") | exact Nat.ne_of_gt (by k_extra "MineLtS") | k_extra "MineNe2"))
  (k_with "MineLtS" => first | assumption | exact Nat.lt_succ_self _ | (refine Nat.lt_succ_of_lt ?_; k_extra "MineLtS"))
  (k_with "MineNe2" => (rename _ ∧ _ => hc9; first | k_extra "MinePrj" | (clear hc9; k_extra "MineNe2")))
  (k_with "MinePrj" => first | exact hc9.1 | exact Ne.symm hc9.1 | exact Nat.ne_of_lt hc9.1 | exact Nat.ne_of_gt hc9.1 | exact hc9.2.1 | exact Ne.symm hc9.2.1 | exact Nat.ne_of_lt hc9.2.1 | exact Nat.ne_of_gt hc9.2.1 | exact hc9.2.2.1 | exact Ne.symm hc9.2.2.1 | exact Nat.ne_of_lt hc9.2.2.1 | exact Nat.ne_of_gt hc9.2.2.1 | exact hc9.2.2.2.1 | exact Ne.symm hc9.2.2.2.1 | exact Nat.ne_of_lt hc9.2.2.2.1 | exact Nat.ne_of_gt hc9.2.2.2.1 | exact hc9.2.2.2.2.1 | exact Ne.symm hc9.2.2.2.2.1 | exact Nat.ne_of_lt hc9.2.2.2.2.1 | exact Nat.ne_of_gt hc9.2.2.2.2.1 | exact hc9.2.2.2.2.2.1 | exact Ne.symm hc9.2.2.2.2.2.1 | exact Nat.ne_of_lt hc9.2.2.2.2.2.1 | exact Nat.ne_of_gt hc9.2.2.2.2.2.1 | exact hc9.2.2.2.2.2.2.1 | exact Ne.symm hc9.2.2.2.2.2.2.1 | exact Nat.ne_of_lt hc9.2.2.2.2.2.2.1 | exact Nat.ne_of_gt hc9.2.2.2.2.2.2.1 | exact hc9.2.2.2.2.2.2.2.1 | exact Ne.symm hc9.2.2.2.2.2.2.2.1 | exact Nat.ne_of_lt hc9.2.2.2.2.2.2.2.1 | exact Nat.ne_of_gt hc9.2.2.2.2.2.2.2.1 | exact hc9.2.2.2.2.2.2.2.2.1 | exact Ne.symm hc9.2.2.2.2.2.2.2.2.1 | exact Nat.ne_of_lt hc9.2.2.2.2.2.2.2.2.1 | exact Nat.ne_of_gt hc9.2.2.2.2.2.2.2.2.1 | exact hc9.2.2.2.2.2.2.2.2.2.1 | exact Ne.symm hc9.2.2.2.2.2.2.2.2.2.1 | exact Nat.ne_of_lt hc9.2.2.2.2.2.2.2.2.2.1 | exact Nat.ne_of_gt hc9.2.2.2.2.2.2.2.2.2.1 | exact hc9.2.2.2.2.2.2.2.2.2.2.1 | exact Ne.symm hc9.2.2.2.2.2.2.2.2.2.2.1 | exact Nat.ne_of_lt hc9.2.2.2.2.2.2.2.2.2.2.1 | exact Nat.ne_of_gt hc9.2.2.2.2.2.2.2.2.2.2.1 | exact hc9.2.2.2.2.2.2.2.2.2.2.2.1 | exact Ne.symm hc9.2.2.2.2.2.2.2.2.2.2.2.1 | exact Nat.ne_of_lt hc9.2.2.2.2.2.2.2.2.2.2.2.1 | exact Nat.ne_of_gt hc9.2.2.2.2.2.2.2.2.2.2.2.1 | exact hc9.2.2.2.2.2.2.2.2.2.2.2.2.1 | exact Ne.symm hc9.2.2.2.2.2.2.2.2.2.2.2.2.1 | exact Nat.ne_of_lt hc9.2.2.2.2.2.2.2.2.2.2.2.2.1 | exact Nat.ne_of_gt hc9.2.2.2.2.2.2.2.2.2.2.2.2.1 | exact hc9.2.2.2.2.2.2.2.2.2.2.2.2.2.1 | exact Ne.symm hc9.2.2.2.2.2.2.2.2.2.2.2.2.2.1 | exact Nat.ne_of_lt hc9.2.2.2.2.2.2.2.2.2.2.2.2.2.1 | exact Nat.ne_of_gt hc9.2.2.2.2.2.2.2.2.2.2.2.2.2.1 | exact hc9.2.2.2.2.2.2.2.2.2.2.2.2.2.2.1 | exact Ne.symm hc9.2.2.2.2.2.2.2.2.2.2.2.2.2.2.1 | exact Nat.ne_of_lt hc9.2.2.2.2.2.2.2.2.2.2.2.2.2.2.1 | exact Nat.ne_of_gt hc9.2.2.2.2.2.2.2.2.2.2.2.2.2.2.1 | exact hc9.2.2.2.2.2.2.2.2.2.2.2.2.2.2.2.1 | exact Ne.symm hc9.2.2.2.2.2.2.2.2.2.2.2.2.2.2.2.1 | exact Nat.ne_of_lt hc9.2.2.2.2.2.2.2.2.2.2.2.2.2.2.2.1 | exact Nat.ne_of_gt hc9.2.2.2.2.2.2.2.2.2.2.2.2.2.2.2.1)
  trivial
theorem wordsK_C3 : True := by
  (k_with "call ref" => (k_here; (with_reducible show wpAny _ _ (call (Value.ref 394) _) _ _ _); (try k_fold); k_dflt (refine' Ok.useTake (take_ok _ _ _ _ _ ?p0 ?p1 ?p2) ?kA ?kh ?kd ?ku ?kB ?kF ?kX ?kN ?kT ?kk ?kU ?ks ?_; k_extra "MineSide"; (case kU => (intro; k_upd)); (case ks => k_extra "MineMem"); (case p0 => assumption); (case p1 => first | assumption | decide | omega); (case p2 => first | assumption | decide | omega); intro o' d' td' h' tk' hP' hd0' hd1' F' N')))
  (k_with "call ref" => (k_here; (with_reducible show wpAny _ _ (call (Value.ref 401) _) _ _ _); (try k_fold); k_dflt (refine' Ok.useOne (one_ok _ _ _ _ _ _ ?p0 ?p1 ?p2 ?p3 ?p4) ?kA ?kh ?kd ?ku ?kB ?kF ?kX ?kN ?kT ?kk ?kU ?ks ?_; k_extra "MineSide"; (case kU => (intro; k_upd)); (case ks => k_extra "MineMem"); (case p0 => k_ne); (case p1 => assumption); (case p2 => exact rfl); (case p3 => exact Nat.le_of_ble_eq_true rfl); (case p4 => exact Nat.le_of_ble_eq_true rfl); intro o' d' td' h' tk' hP' hd' F' N'; (first | (have hb' : 0 ≤ d' ∧ d' < 256 := in_bound hd' (by rfl)); (clear hd') | (have hb' : 0 ≤ d' ∧ d' < 65536 := in_bound hd' (by rfl)) | (have hb' : 0 ≤ d' ∧ d' < 16777216 := in_bound hd' (by rfl)) | ((simp only [intsOf, List.mem_cons, List.not_mem_nil, or_false] at hd'); (first | ((have hb' : 0 ≤ d' ∧ d' < 256 := (by omega)); clear hd') | (have hb' : 0 ≤ d' ∧ d' < 65536 := (by omega)) | skip))); (try simp only [intsOf, List.mem_cons, List.not_mem_nil, or_false] at hd'))))
  trivial
abbrev tup2 (a b : Value) : Obj := { cls := .type "tuple", data := .seq #[a, b] }
theorem fm (a : Int) {n : Int} (h : 0 < n) : a.fmod n = a % n := Int.fmod_eq_emod_of_nonneg a (Int.le_of_lt h)
theorem fd (a : Int) {n : Int} (h : 0 < n) : a.fdiv n = a / n := Int.fdiv_eq_ediv_of_nonneg a (Int.le_of_lt h)
theorem bI1 {a : Int} (h : 0 ≤ a ∧ a < 256) : KBw.bInts #[a.toNat.toUInt8] = [a] := KBa.ints_make (ns := [a]) (fun n hn => by rw [List.mem_singleton.mp hn]; exact h)
theorem bI2 {a b : Int} (h : 0 ≤ a ∧ a < 256) (h2 : 0 ≤ b ∧ b < 256) : KBw.bInts #[a.toNat.toUInt8, b.toNat.toUInt8] = [a, b] := KBa.ints_make (ns := [a, b]) (fun n hn => by
  rcases List.mem_cons.mp hn with rfl | hn
  · exact h
  · rw [List.mem_singleton.mp hn]; exact h2)
inductive CtlIs (n : Int) : Value → Prop
  | one (h : 0 ≤ n ∧ n < 256) (h4 : n % 4 = 3) (b : Array UInt8) (t : Tok) (hb : KBw.bInts b = [n]) : CtlIs n (.bytes b t)
  | two (h : 0 ≤ n ∧ n < 65536) (h4 : ¬ (n < 256 ∧ n % 4 = 3)) (h5 : (n / 256) % 4 ≠ 3) (b : Array UInt8) (t : Tok) (hb : KBw.bInts b = [n / 256, n % 256]) : CtlIs n (.bytes b t)
  | bad (h : 256 ≤ n ∧ n < 65536) (h5 : (n / 256) % 4 = 3) : CtlIs n .none
theorem ctl1 {d e n : Int} {t : Tok} (h : d.fmod 4 = 3) (hd : 0 ≤ d ∧ d < 256) (h0 : 0 ≤ e) (h1 : e < 256) (hn : n = d ∨ n = d ∨ n = 256 * d + e) (hb : 0 ≤ n ∧ n < 65536) (hs : n < 256) : CtlIs n (.bytes #[d.toNat.toUInt8] t) := by
  rw [fm _ (by decide)] at h
  have e : n = d := by omega
  subst e
  exact .one hd h _ _ (bI1 hd)
theorem ctl2 {d e n : Int} (h : d.fmod 4 = 3) (hd : 0 ≤ d ∧ d < 256) (h0 : 0 ≤ e) (h1 : e < 256) (hn : n = d ∨ n = d ∨ n = 256 * d + e) (hb : 0 ≤ n ∧ n < 65536) (hs : ¬ n < 256) : CtlIs n .none := by
  rw [fm _ (by decide)] at h
  have e : n / 256 = d := by omega
  exact .bad (by omega) (by omega)
theorem ctl3 {d e : Int} {t : Tok} (h : d.fmod 4 ≠ 3) (hd : 0 ≤ d ∧ d < 256) (h0 : 0 ≤ e) (h1 : e < 256) (hs : 0 < d) : CtlIs (256 * d + e) (.bytes #[d.toNat.toUInt8, e.toNat.toUInt8] t) := by
  rw [fm _ (by decide)] at h
  have e1 : (256 * d + e) / 256 = d := by omega
  have e2 : (256 * d + e) % 256 = e := by omega
  exact .two (by omega) (by omega) (by omega) _ _ (by rw [e1, e2]; exact bI2 hd ⟨h0, h1⟩)
theorem ctl4 {d e : Int} {t : Tok} (hd : 0 ≤ d ∧ d < 256) (h0 : 0 ≤ e) (h1 : e < 256) (hs : ¬ 0 < d) (h : e.fmod 4 ≠ 3) : CtlIs (256 * d + e) (.bytes #[d.toNat.toUInt8, e.toNat.toUInt8] t) := by
  rw [fm _ (by decide)] at h
  have e0 : d = 0 := by omega
  have e1 : (256 * d + e) / 256 = d := by omega
  have e2 : (256 * d + e) % 256 = e := by omega
  exact .two (by omega) (by omega) (by omega) _ _ (by rw [e1, e2]; exact bI2 hd ⟨h0, h1⟩)
theorem ctl5 {d e : Int} {t : Tok} (hd : 0 ≤ d ∧ d < 256) (h0 : 0 ≤ e) (h1 : e < 256) (hs : ¬ 0 < d) (h : e.fmod 4 = 3) : CtlIs (256 * d + e) (.bytes #[e.toNat.toUInt8] t) := by
  rw [fm _ (by decide)] at h
  have e0 : 256 * d + e = e := by omega
  rw [e0]
  exact .one ⟨h0, h1⟩ h _ _ (bI1 ⟨h0, h1⟩)
def CtlPost (v : Value) (o' : Obj) (nw : Led) : Prop := IsPool o' ∧ ∃ t n tn lv, v = .ref t ∧ nw = [(t, tup2 (.int n tn) lv)] ∧ CtlIs n lv
section
variable {loose : List Str} {mean : ExcName → Option Value} {mg mb : Str → Option Value}
theorem control_ok : ∀ (w : World) (src : Addr) (o : Obj), IsPool o →
    Ok w loose mean mg mb 340 2720 (.ref 415) [.ref src] [(src, o)] (WPost src [] CtlPost) := by
  intro w src o hP
  unfold Ok
  k_fill
  intro cn cs a ccd cl outer A₀ base h₀ L m s Q E B F X N T hk hret
  k_extra "MineWalk"
  · refine' leaveW (nw := [(_, tup2 (.int _ _) _)]) ?F ?N ?_ ?h1 ?h2 ?h3
    k_extra "MineLeaveW"
    refine' hret _ _ _ _ ⟨_, _, rfl, ?_, by assumption, _, _, _, _, rfl, rfl, ctl1 (by assumption) (by assumption) (by assumption) (by assumption) (by assumption) (by assumption) (by assumption)⟩ F9 N9 K9 Z9
    k_extra "MineFresh"
  · refine' leaveW (nw := [(_, tup2 (.int _ _) _)]) ?F ?N ?_ ?h1 ?h2 ?h3
    k_extra "MineLeaveW"
    refine' hret _ _ _ _ ⟨_, _, rfl, ?_, by assumption, _, _, _, _, rfl, rfl, ctl2 (by assumption) (by assumption) (by assumption) (by assumption) (by assumption) (by assumption) (by assumption)⟩ F9 N9 K9 Z9
    k_extra "MineFresh"
  · refine' leaveW (nw := [(_, tup2 (.int _ _) _)]) ?F ?N ?_ ?h1 ?h2 ?h3
    k_extra "MineLeaveW"
    refine' hret _ _ _ _ ⟨_, _, rfl, ?_, by assumption, _, _, _, _, rfl, rfl, ctl3 (by assumption) (by assumption) (by assumption) (by assumption) (by assumption)⟩ F9 N9 K9 Z9
    k_extra "MineFresh"
  · refine' leaveW (nw := [(_, tup2 (.int _ _) _)]) ?F ?N ?_ ?h1 ?h2 ?h3
    k_extra "MineLeaveW"
    refine' hret _ _ _ _ ⟨_, _, rfl, ?_, by assumption, _, _, _, _, rfl, rfl, ctl4 (by assumption) (by assumption) (by assumption) (by assumption) (by assumption)⟩ F9 N9 K9 Z9
    k_extra "MineFresh"
  · refine' leaveW (nw := [(_, tup2 (.int _ _) _)]) ?F ?N ?_ ?h1 ?h2 ?h3
    k_extra "MineLeaveW"
    refine' hret _ _ _ _ ⟨_, _, rfl, ?_, by assumption, _, _, _, _, rfl, rfl, ctl5 (by assumption) (by assumption) (by assumption) (by assumption) (by assumption)⟩ F9 N9 K9 Z9
    k_extra "MineFresh"
end
-- calls taken apart
section
variable {w : World} {loose : List Str} {mean : ExcName → Option Value} {mg mb : Str → Option Value} {D U : Nat} {f : Value} {vs : List Value} {sub : Led}
  {A : Around} {cn : Str} {cs : Scope} {a : Addr} {ccd : Value} {cl : List (Str × Addr)} {outer : List Env} {A₀ : Around} {base h₀ : Heap} {L : Addr} {m : Str → Option Value} {s : Shared} {Q E : Value → Shared → Prop} {news : Led}
theorem Ok.useCtl {src : Addr} {o : Obj} {ro : Led} {fN : Obj → Led} (C : Ok w loose mean mg mb D U f vs ((src, o) :: ro) (WPost src ro (CtlPost))) (hA : A.frames = some (envX cn cs L a ccd cl :: outer)) (hh : A.handled = none) (hd : A.depth ≤ D) (hu : A.units ≤ U)
    (B : Below A₀ base outer h₀) (F : Fr h₀ L s.heap m) (X : (KH w.params).In h₀) (N : News h₀ L s.heap news) (T : Top topProg loose mean mg mb h₀) (hk : cs.kind = .function)
    (hU : ∀ o', Upd src o o' news (fN o')) (hs : ∀ q ∈ ro, q ∈ news) (k : ∀ o' t n tn lv h' tk', IsPool o' → CtlIs n lv → (∀ r ∈ fN o', r.1 ≠ t) → Fr h₀ L h' m → News h₀ L h' ((t, tup2 (.int n tn) lv) :: fN o') → Q (.ref t) { s with heap := h', toks := tk' }) : wpAny (model rw0.prog w) A (call f vs) Q E s :=
  Ok.useW C hA hh hd hu B F X N T hk hU hs fun v o' nw h' tk' P F' N' D' => (by obtain ⟨hP, t, n, tn, lv, rfl, rfl, hC⟩ := P; exact k o' t n tn lv h' tk' hP hC (D' _ (.head _)) F' N')
end

-- part C4
theorem words0_C4 : True := by
  k_with_none
  (k_with "MineEnter" => (refine wpAny_call ?_; k_dflt (refine' enterQ ?k1 ?k2 ?k3 ?k4 ?k5 ?kA ?kF ?kK ?k6 ?k7 ?k8 ?k9 ?kB ?_ ?c2 ?c3 ?c4 ?c5; (case kA => exact rfl); (case kF => exact rfl); (case kK => assumption); (case k1 => k_asm); (case k2 => k_asm); (case k3 => k_asm); (case k4 => k_asm); (case k5 => k_asm); (case k6 => k_is); (case k7 => k_is); (case k8 => ktr_room); (case k9 => first | exact BindsTo.of_eq rfl | exact binds_K (by k_in) rfl (by k_is) rfl rfl rfl); (case c5 => decide); (case kB => exact locs rfl); (case c2 => exact rfl); (case c3 => exact rfl); (case c4 => exact rfl)); intro g' L' h' tk' FG' F' N' B' X' T' hg' lL'; (try k_lt lL'); (try dsimp only); (try k_fold)))
  (k_with "MineEnterC" => (refine wpAny_call ?_; k_dflt (refine' enterQC ?k1 ?k2 ?k3 ?k4 ?k5 ?kA ?kF ?kK ?k6 ?k7 ?k8 ?k9 ?kB ?kD ?_ ?c2 ?c3 ?c4; (case kA => exact rfl); (case kF => exact rfl); (case kK => assumption); (case k1 => k_asm); (case k2 => k_asm); (case k3 => k_asm); (case k4 => k_asm); (case k5 => k_asm); (case k6 => k_is); (case k7 => k_is); (case k8 => ktr_room); (case k9 => first | exact BindsTo.of_eq rfl | exact binds_K (by k_in) rfl (by k_is) rfl rfl rfl); (case kB => exact rfl); (case kD => decide +kernel); (case c2 => exact rfl); (case c3 => exact rfl); (case c4 => exact rfl)); intro g' L' h' tk' cells' FG' F' N' Y' B' X' T' hg' lL'; (try k_lt lL'); k_cells Y'; (try simp only [List.cons_append, List.nil_append] at N'); (try dsimp only); (try k_fold)))
  (k_with "MineWalkC" => (k_extra "MineEnterC"; k_steps; all_goals (try dsimp only); all_goals (try (k_unfold; dsimp only))))
  (k_with "MineWalk" => (k_extra "MineEnter"; k_steps; all_goals (try dsimp only); all_goals (try (k_unfold; dsimp only))))
  (k_with "MineFresh" => first | exact List.forall_mem_nil _ | (refine' List.forall_mem_cons.mpr ⟨?fa, ?fb⟩; (case fa => (repeat (first | exact List.not_mem_nil | (refine' List.not_mem_cons_of_ne_of_not_mem ?fn ?_; (case fn => k_ne)))))); (case fb => k_extra "MineFresh"))
  (k_with "MineMem" => first | exact List.forall_mem_nil _ | (refine' List.forall_mem_cons.mpr ⟨?fa, ?fb⟩; (case fa => k_mem); (case fb => k_extra "MineMem")))
  (k_with "MineSide" => ((case kA => exact rfl); (case kh => exact rfl); (case kd => exact Nat.le_of_ble_eq_true rfl); (case ku => exact Nat.le_of_ble_eq_true rfl); (case kB => k_asm); (case kF => k_asm); (case kX => k_asm); (case kN => k_asm); (case kT => k_asm); (case kk => exact rfl)))
  (k_with "MineLed" => ((try simp only [List.nil_append, List.cons_append] at N'); (try (replace D' := allNe2_of D'; simp only [AllNe2, AllNe, and_true] at D'))))
  (k_with "MineLeaveW" => ((case F => k_asm); (case N => k_asm); (case h1 => k_mem); (case h2 => k_extra "MineMem"); (case h3 => k_extra "MineMem"); intro F9 N9 K9 Z9))
  (k_with "MineLeaveR" => ((case F => k_asm); (case N => k_asm); (case h2 => k_extra "MineMem"); (case h3 => k_extra "MineMem"); intro F9 N9 K9 Z9))
  (k_with "MineGetLen" => (exfalso; omega))
  (k_with "MinePut" => (first | exact Int.lt_of_lt_of_le (b := 256) (by omega) (by decide) | exact Int.lt_of_lt_of_le (b := 65536) (by omega) (by decide) | exact Int.lt_of_lt_of_le (b := 16777216) (by omega) (by decide) | exact Int.lt_of_lt_of_le (b := 281474976710656) (by omega) (by decide)))
  (k_with "MineBytes" => first | assumption | exact bI1 ⟨by omega, by omega⟩ | exact bI2 ⟨by omega, by omega⟩ ⟨by omega, by omega⟩ | exact zeros_ints _ | exact KBw.ints_list _)
  (k_with "MineAdd" => (k_here; (with_reducible show wpAny _ _ (binaryOp Operator.Add (Value.bytes _ _) (Value.bytes _ _)) _ _ _); (refine KBa.add_K (by k_extra "MineBytes") (by k_extra "MineBytes") (by first | (simp only [List.length_cons, List.length_nil, List.length_append, List.length_map, List.length_replicate, rangeInts_length]; omega) | omega | (simp only [List.length_cons, List.length_nil, List.length_append, List.length_map, List.length_replicate, sum_len]; omega)) ?_); intro t' k' hb'))
  (k_with "MinePutBad" => (intro h9; first | (have h8 := Int.lt_of_lt_of_le h9 (show (1 * 2 ^ ((8:Int) * 1).toNat : Int) ≤ 256 by decide); omega) | (have h8 := Int.lt_of_lt_of_le h9 (show (1 * 2 ^ ((8:Int) * 3).toNat : Int) ≤ 16777216 by decide); omega)))
  (k_with "MinePass" => ((rename RaisedS _ _ _ _ _ _ _ _ _ => rsX); k_dflt (refine' leave_onX (news := ?sub) ?K ?F ?hf rsX ?U ?hs ?_; (case sub => first | k_extra "MineSub" | exact []); (case K => k_asm); (case F => k_asm); (case hf => exact rfl); (case U => k_asm); (case hs => k_extra "MineMem"); intro h9 R9 U9)))
  (k_with "MineEnterS" => (refine wpAny_call ?_; k_dflt (refine' enterQS ?k1 ?k2 ?k3 ?k4 ?k5 ?k0 ?kA ?kF ?kK ?k6 ?k7 ?k8 ?k9 ?kB ?_ ?c2 ?c3 ?c4 ?c5; (case kA => exact rfl); (case kF => exact rfl); (case kK => assumption); (case k1 => k_asm); (case k2 => k_asm); (case k3 => k_asm); (case k4 => k_asm); (case k5 => k_asm); (case k0 => k_asm); (case k6 => k_is); (case k7 => k_is); (case k8 => ktr_room); (case k9 => first | exact BindsTo.of_eq rfl | exact binds_K (by k_in) rfl (by k_is) rfl rfl rfl); (case c5 => decide); (case kB => exact locs rfl); (case c2 => exact rfl); (case c3 => exact rfl); (case c4 => exact rfl)); intro g' L' h' tk' FG' F' N' B' X' T' D' hg' lL'; (try k_lt lL'); (try dsimp only); (try k_fold)))
  (k_with "MineEnterSC" => (refine wpAny_call ?_; k_dflt (refine' enterQSC ?k1 ?k2 ?k3 ?k4 ?k5 ?k0 ?kA ?kF ?kK ?k6 ?k7 ?k8 ?k9 ?kB ?kD ?_ ?c2 ?c3 ?c4; (case kA => exact rfl); (case kF => exact rfl); (case kK => assumption); (case k1 => k_asm); (case k2 => k_asm); (case k3 => k_asm); (case k4 => k_asm); (case k5 => k_asm); (case k0 => k_asm); (case k6 => k_is); (case k7 => k_is); (case k8 => ktr_room); (case k9 => first | exact BindsTo.of_eq rfl | exact binds_K (by k_in) rfl (by k_is) rfl rfl rfl); (case kB => exact rfl); (case kD => decide +kernel); (case c2 => exact rfl); (case c3 => exact rfl); (case c4 => exact rfl)); intro g' L' h' tk' cells' FG' F' N' Y' B' X' T' D' hg' lL'; (try k_lt lL'); k_cells Y'; (try simp only [List.cons_append, List.nil_append] at N'); (try dsimp only); (try k_fold)))
  (k_with "MineEnterL" => (refine wpAny_call ?_; k_dflt (refine' enterQL ?k1 ?k2 ?k3 ?k4 ?k5 ?kA ?kF ?kK ?ho ?hc ?hd ?hv ?k8 ?k9 ?kB ?_ ?c2 ?c3 ?c4 ?c5; (case kA => exact rfl); (case kF => exact rfl); (case kK => assumption); (case k1 => k_asm); (case k2 => k_asm); (case k3 => k_asm); (case k4 => k_asm); (case k5 => k_asm); (case ho => k_mem); (case hc => k_mem); (case hd => assumption); (case hv => assumption); (case k8 => ktr_room); (case k9 => exact rfl); (case c5 => decide); (case kB => exact locs rfl); (case c2 => exact rfl); (case c3 => exact rfl); (case c4 => exact rfl)); intro g' L' h' tk' FG' F' N' B' X' T' hg' lL'; (try k_lt lL'); (try dsimp only); (try k_fold)))
  (k_with "MineWalkL" => (k_extra "MineEnterL"; k_dflt (show wpAny _ _ (eval (Expr.Call _ _ _ _) _) _ _ _); k_steps; all_goals (try dsimp only); all_goals (try (k_unfold; dsimp only))))
  (k_with "MineWalkS" => (k_extra "MineEnterS"; k_steps; all_goals (try dsimp only); all_goals (try (k_unfold; dsimp only))))
  (k_with "MineSame" => first | exact SameL.nil | (refine' SameL.cons ?sa ?sb; (case sa => first | exact same_int _ _ _ | exact same_bytes _ _ _ | exact PySem.SeqAt.EqAt.same _); (case sb => k_extra "MineSame")))
  (k_with "MineNeT" => (k_here; (with_reducible show wpAny _ _ (compareOp CmpOp.NotEq (Value.ref _) (Value.ref _)) _ _ _); k_dflt (refine' ne_tups ?N ?ml ?mb ?cl ?dl ?cb ?db ?hu ?hs ?_; (case N => k_asm); (case ml => k_mem); (case mb => k_mem); (case cl => rfl); (case dl => rfl); (case cb => rfl); (case db => rfl); (case hu => ke_room); (case hs => k_extra "MineSame"))))
  (k_with "MineEqT" => (k_here; (with_reducible show wpAny _ _ (compareOp CmpOp.Eq (Value.ref _) (Value.ref _)) _ _ _); k_dflt (refine' eq_tups ?N ?ml ?mb ?cl ?dl ?cb ?db ?hu ?hs ?_; (case N => k_asm); (case ml => k_mem); (case mb => k_mem); (case cl => rfl); (case dl => rfl); (case cb => rfl); (case db => rfl); (case hu => ke_room); (case hs => k_extra "MineSame"))))
  (k_with "MineNew" => ((try dsimp only [AllNe] at D1'); (try dsimp only [AllNe] at D2'); (try dsimp only [AllNe] at D3')))
  (k_with "MineNe1" => (refine neN ?_; (try dsimp only); with_reducible first | assumption | (refine Ne.symm ?_; assumption) | exact Nat.ne_of_lt (by assumption) | exact Nat.ne_of_gt (by assumption) | exact Nat.ne_of_lt (by k_extra "MineLtS") | exact Nat.ne_of_gt (by k_extra "MineLtS") | k_extra "MineNe2"))
  (k_with "MineLtS" => first | assumption | exact Nat.lt_succ_self _ | (refine Nat.lt_succ_of_lt ?_; k_extra "MineLtS"))
  (k_with "MineNe2" => (rename _ ∧ _ => hc9; first | k_extra "MinePrj" | (clear hc9; k_extra "MineNe2")))
  (k_with "MinePrj" => first | exact hc9.1 | exact Ne.symm hc9.1 | exact Nat.ne_of_lt hc9.1 | exact Nat.ne_of_gt hc9.1 | exact hc9.2.1 | exact Ne.symm hc9.2.1 | exact Nat.ne_of_lt hc9.2.1 | exact Nat.ne_of_gt hc9.2.1 | exact hc9.2.2.1 | exact Ne.symm hc9.2.2.1 | exact Nat.ne_of_lt hc9.2.2.1 | exact Nat.ne_of_gt hc9.2.2.1 | exact hc9.2.2.2.1 | exact Ne.symm hc9.2.2.2.1 | exact Nat.ne_of_lt hc9.2.2.2.1 | exact Nat.ne_of_gt hc9.2.2.2.1 | exact hc9.2.2.2.2.1 | exact Ne.symm hc9.2.2.2.2.1 | exact Nat.ne_of_lt hc9.2.2.2.2.1 | exact Nat.ne_of_gt hc9.2.2.2.2.1 | exact hc9.2.2.2.2.2.1 | exact Ne.symm hc9.2.2.2.2.2.1 | exact Nat.ne_of_lt hc9.2.2.2.2.2.1 | exact Nat.ne_of_gt hc9.2.2.2.2.2.1 | exact hc9.2.2.2.2.2.2.1 | exact Ne.symm hc9.2.2.2.2.2.2.1 | exact Nat.ne_of_lt hc9.2.2.2.2.2.2.1 | exact Nat.ne_of_gt hc9.2.2.2.2.2.2.1 | exact hc9.2.2.2.2.2.2.2.1 | exact Ne.symm hc9.2.2.2.2.2.2.2.1 | exact Nat.ne_of_lt hc9.2.2.2.2.2.2.2.1 | exact Nat.ne_of_gt hc9.2.2.2.2.2.2.2.1 | exact hc9.2.2.2.2.2.2.2.2.1 | exact Ne.symm hc9.2.2.2.2.2.2.2.2.1 | exact Nat.ne_of_lt hc9.2.2.2.2.2.2.2.2.1 | exact Nat.ne_of_gt hc9.2.2.2.2.2.2.2.2.1 | exact hc9.2.2.2.2.2.2.2.2.2.1 | exact Ne.symm hc9.2.2.2.2.2.2.2.2.2.1 | exact Nat.ne_of_lt hc9.2.2.2.2.2.2.2.2.2.1 | exact Nat.ne_of_gt hc9.2.2.2.2.2.2.2.2.2.1 | exact hc9.2.2.2.2.2.2.2.2.2.2.1 | exact Ne.symm hc9.2.2.2.2.2.2.2.2.2.2.1 | exact Nat.ne_of_lt hc9.2.2.2.2.2.2.2.2.2.2.1 | exact Nat.ne_of_gt hc9.2.2.2.2.2.2.2.2.2.2.1 | exact hc9.2.2.2.2.2.2.2.2.2.2.2.1 | exact Ne.symm hc9.2.2.2.2.2.2.2.2.2.2.2.1 | exact Nat.ne_of_lt hc9.2.2.2.2.2.2.2.2.2.2.2.1 | exact Nat.ne_of_gt hc9.2.2.2.2.2.2.2.2.2.2.2.1 | exact hc9.2.2.2.2.2.2.2.2.2.2.2.2.1 | exact Ne.symm hc9.2.2.2.2.2.2.2.2.2.2.2.2.1 | exact Nat.ne_of_lt hc9.2.2.2.2.2.2.2.2.2.2.2.2.1 | exact Nat.ne_of_gt hc9.2.2.2.2.2.2.2.2.2.2.2.2.1 | exact hc9.2.2.2.2.2.2.2.2.2.2.2.2.2.1 | exact Ne.symm hc9.2.2.2.2.2.2.2.2.2.2.2.2.2.1 | exact Nat.ne_of_lt hc9.2.2.2.2.2.2.2.2.2.2.2.2.2.1 | exact Nat.ne_of_gt hc9.2.2.2.2.2.2.2.2.2.2.2.2.2.1 | exact hc9.2.2.2.2.2.2.2.2.2.2.2.2.2.2.1 | exact Ne.symm hc9.2.2.2.2.2.2.2.2.2.2.2.2.2.2.1 | exact Nat.ne_of_lt hc9.2.2.2.2.2.2.2.2.2.2.2.2.2.2.1 | exact Nat.ne_of_gt hc9.2.2.2.2.2.2.2.2.2.2.2.2.2.2.1 | exact hc9.2.2.2.2.2.2.2.2.2.2.2.2.2.2.2.1 | exact Ne.symm hc9.2.2.2.2.2.2.2.2.2.2.2.2.2.2.2.1 | exact Nat.ne_of_lt hc9.2.2.2.2.2.2.2.2.2.2.2.2.2.2.2.1 | exact Nat.ne_of_gt hc9.2.2.2.2.2.2.2.2.2.2.2.2.2.2.2.1)
  trivial
theorem wordsK_C4 : True := by
  (k_with "call ref" => (k_here; (with_reducible show wpAny _ _ (call (Value.ref 394) _) _ _ _); (try k_fold); k_dflt (refine' Ok.useTake (take_ok _ _ _ _ _ ?p0 ?p1 ?p2) ?kA ?kh ?kd ?ku ?kB ?kF ?kX ?kN ?kT ?kk ?kU ?ks ?_; k_extra "MineSide"; (case kU => (intro; k_upd)); (case ks => k_extra "MineMem"); (case p0 => assumption); (case p1 => first | assumption | decide | omega); (case p2 => first | assumption | decide | omega); intro o' d' td' h' tk' hP' hd0' hd1' F' N')))
  (k_with "call ref" => (k_here; (with_reducible show wpAny _ _ (call (Value.ref 401) _) _ _ _); (try k_fold); k_dflt (refine' Ok.useOne (one_ok _ _ _ _ _ _ ?p0 ?p1 ?p2 ?p3 ?p4) ?kA ?kh ?kd ?ku ?kB ?kF ?kX ?kN ?kT ?kk ?kU ?ks ?_; k_extra "MineSide"; (case kU => (intro; k_upd)); (case ks => k_extra "MineMem"); (case p0 => k_ne); (case p1 => assumption); (case p2 => exact rfl); (case p3 => exact Nat.le_of_ble_eq_true rfl); (case p4 => exact Nat.le_of_ble_eq_true rfl); intro o' d' td' h' tk' hP' hd' F' N'; (first | (have hb' : 0 ≤ d' ∧ d' < 256 := in_bound hd' (by rfl)); (clear hd') | (have hb' : 0 ≤ d' ∧ d' < 65536 := in_bound hd' (by rfl)) | (have hb' : 0 ≤ d' ∧ d' < 16777216 := in_bound hd' (by rfl)) | ((simp only [intsOf, List.mem_cons, List.not_mem_nil, or_false] at hd'); (first | ((have hb' : 0 ≤ d' ∧ d' < 256 := (by omega)); clear hd') | (have hb' : 0 ≤ d' ∧ d' < 65536 := (by omega)) | skip))); (try simp only [intsOf, List.mem_cons, List.not_mem_nil, or_false] at hd'))))
  trivial
def BytesV (ys : List Value) : Prop := ∃ ks, IntsAre ys ks ∧ KBa.In ks
theorem bytesV_nil : BytesV [] := ⟨[], .nil, fun _ h => by cases h⟩
theorem bytesV_snoc {ys : List Value} {d : Int} {t : Tok} (h : BytesV ys) (hd : 0 ≤ d ∧ d < 256) : BytesV (ys ++ [.int d t]) := by
  obtain ⟨ks, hi, hin⟩ := h
  refine ⟨ks ++ [d], IntsAre.append hi (.cons d t .nil), fun n hn => ?_⟩
  rcases List.mem_append.mp hn with hn | hn
  · exact hin n hn
  · rw [List.mem_singleton.mp hn]; exact hd
def ownJ (c : Addr) (oc : Obj) (src : Addr) (ys : List Value) (nws : Led) : Prop := ∃ o1, nws = [(c, oc), (src, o1)] ∧ IsPool o1 ∧ BytesV ys
section
variable {prog : Program} {w : World} {A : Around} {h₀ : Heap} {L : Addr} {m : Str → Option Value} {env : Env} {elt : Expr} {x : Str} {scope : Scope} {cl : List (Str × Addr)} {s : Shared} {S : Led → Prop} {P : Nat → Value → Prop} {Fin : List Value → Led → Prop} {news : Led}
theorem comp_own {n : Nat} (J : List Value → Led → Prop) (h0 : J [] news)
    (turn : ∀ v I oI C oC D m₂ ys nws h tk (E' : Value → Shared → Prop), J ys nws → LCg.NsObj oC m₂ → m₂ x = some v → Fr h₀ L h m → News h₀ L h ((I, oI) :: (C, oC) :: (D, LCg.lst ys) :: nws) → LCg.Off3 I C D nws → ((@Ne Nat I C) ∧ (@Ne Nat I D) ∧ (@Ne Nat C D)) →
      wpAny (model prog w) A (eval elt (compEnvC scope cl C env)) (LCg.CompEnd h₀ L m { s with heap := h, toks := tk } I oI C oC D (LCg.lst ys) S (fun y news' => J (ys ++ [y]) news')) E' { s with heap := h, toks := tk })
    (fin : ∀ ys nws, J ys nws → ys.length = n → Fin ys nws) : LCg.CompRest prog w A h₀ L m env elt x scope cl s S P Fin n 0 [] news := by
  have key : ∀ (j i : Nat) (ys : List Value) (nws : Led), i + j = n → ys.length = i → J ys nws → LCg.CompRest prog w A h₀ L m env elt x scope cl s S P Fin j i ys nws := by
    intro j
    induction j with
    | zero => intro i ys nws hi hy hJ; exact LCg.CompRest.zero (fin ys nws hJ (by omega))
    | succ j ih =>
      intro i ys nws hi hy hJ
      refine LCg.CompRest.succ ?_
      intro v I oI C oC D m₂ h tk E' hv hC hx F N off ne
      refine wpAny_mono (turn v I oI C oC D m₂ ys nws h tk E' hJ hC hx F N off ne) (fun y s₂ hq => ?_) fun _ _ e => e
      obtain ⟨h', tk', nw, e, F', N', off', hS, hn⟩ := hq
      exact ⟨h', tk', nw, e, F', N', off', hS, ih (i + 1) _ _ (by omega) (by simp [hy]) hn⟩
  exact key n 0 [] news (by omega) rfl h0
end
theorem comp_oct {prog : Program} {w : World} {A : Around} {h₀ : Heap} {L : Addr} {m : Str → Option Value} {env : Env} {elt : Expr} {x : Str} {scope : Scope} {cl : List (Str × Addr)} {s : Shared} {S : Led → Prop} {P : Nat → Value → Prop} {Fin : List Value → Led → Prop}
    {n : Nat} {c : Addr} {oc : Obj} {src : Addr} {o1 : Obj} (hP : IsPool o1)
    (turn : ∀ v I oI C oC D m₂ ys o2 h tk (E' : Value → Shared → Prop), IsPool o2 → BytesV ys → LCg.NsObj oC m₂ → m₂ x = some v → Fr h₀ L h m → News h₀ L h [(I, oI), (C, oC), (D, LCg.lst ys), (c, oc), (src, o2)] → LCg.Off3 I C D [(c, oc), (src, o2)] → ((@Ne Nat I C) ∧ (@Ne Nat I D) ∧ (@Ne Nat C D)) →
      wpAny (model prog w) A (eval elt (compEnvC scope cl C env)) (LCg.CompEnd h₀ L m { s with heap := h, toks := tk } I oI C oC D (LCg.lst ys) S (fun y news' => ownJ c oc src (ys ++ [y]) news')) E' { s with heap := h, toks := tk })
    (fin : ∀ ys o2, IsPool o2 → BytesV ys → ys.length = n → Fin ys [(c, oc), (src, o2)]) : LCg.CompRest prog w A h₀ L m env elt x scope cl s S P Fin n 0 [] [(c, oc), (src, o1)] := by
  refine comp_own (ownJ c oc src) ⟨_, rfl, hP, bytesV_nil⟩ ?_ ?_
  · rintro v I oI C oC D m₂ ys _ h tk E' ⟨o2, rfl, h1, h2⟩ hC hx F N off ne
    exact turn v I oI C oC D m₂ ys o2 h tk E' h1 h2 hC hx F N off ne
  · rintro ys _ ⟨o2, rfl, h1, h2⟩ hl
    exact fin ys o2 h1 h2 hl
theorem compEnd_oct {h₀ : Heap} {L I C D : Addr} {m : Str → Option Value} {s₁ : Shared} {oI oC : Obj} {S : Led → Prop} {h' : Heap} {tk : Nat} {all : Led} {c : Addr} {oc : Obj} {src : Addr} {o2 : Obj} {ys : List Value} {d : Int} {t : Tok}
    (F : Fr h₀ L h' m) (N : News h₀ L h' all) (sub : ∀ p ∈ [(I, oI), (C, oC), (D, LCg.lst ys), (c, oc), (src, o2)], p ∈ all) (off : LCg.Off3 I C D [(c, oc), (src, o2)]) (hS : S [(c, oc), (src, o2)]) (hP : IsPool o2) (hB : BytesV ys) (hd : 0 ≤ d ∧ d < 256) :
    LCg.CompEnd h₀ L m s₁ I oI C oC D (LCg.lst ys) S (fun y news' => ownJ c oc src (ys ++ [y]) news') (.int d t) { s₁ with heap := h', toks := tk } :=
  LCg.CompEnd.intro F N _ sub off hS ⟨_, rfl, hP, bytesV_snoc hB hd⟩
theorem small_ten {d : Int} (h0 : 0 ≤ d) (h1 : d < 10) : Builtin.Range.small 0 d 1 = true := small_one (by omega) (by omega) (by omega) (by omega)
def OctPost (v : Value) (o' : Obj) (nw : Led) : Prop := IsPool o' ∧ nw = [] ∧ ∃ b t, v = .bytes b t ∧ (KBw.bInts b).length ≤ 9
theorem bytes_own {prog : Program} {w : World} {A : Around} {E : Value → Shared → Prop} {s : Shared} {h₀ : Heap} {L D : Addr} {m : Str → Option Value} {news : Led} {ys : List Value} {Q : Value → Shared → Prop} (F : Fr h₀ L s.heap m) (N : News h₀ L s.heap news) (hh : A.handled = none) (hl : s.heap.IsList D ys.toArray) (hB : BytesV ys) (hn : ys.length ≤ 16777216)
    (h : ∀ h' b t' k, Fr h₀ L h' m → News h₀ L h' news → (KBw.bInts b).length = ys.length → Q (.bytes b t') { s with heap := h', toks := k }) : wpAny (model prog w) A (call (.type "bytes") [.ref D]) Q E s := by
  obtain ⟨ks, hi, hin⟩ := hB
  exact KBa.make_K F N hh hl hi hin (by rw [← hi.length]; exact hn) fun h' t' k F' N' _ => h h' _ t' k F' N' (by rw [KBa.ints_make hin, hi.length])
local macro_rules | `(tactic| walk_at "CompSrc") => `(tactic| k_extra "CompSrc")
local macro_rules | `(tactic| walk_at "CompEnd") => `(tactic| k_extra "CompEnd")
local macro_rules | `(tactic| walk_at "call type:bytes") => `(tactic| k_extra "call type:bytes")
theorem words4 : True := by
  (k_with "CompSrc" => (k_here; k_dflt (refine LCg.CompSrc.range (by rfl) (by k_asm) (by k_asm) (by assumption) (small_ten (by assumption) (by assumption)) (rangeSize_nat _ _) (by rw [PySem.sizeLine_eq]; omega) ?_; intro g'; refine comp_oct (by assumption) ?_ ?_; (rotate_left; intro ys' o1' hP' hB' hl'; rotate_left; intro _ I' oI' C' oC' D' m' ys' o1' h' tk' E' hP' hB' hC' hx' F' N' off' ne'; simp only [LCg.Off3, and_true] at off'))))
  (k_with "CompEnd" => (k_dflt (refine' compEnd_oct ?F ?N ?sub ?off trivial ?hP ?hB ?hd; (case F => k_asm); (case N => k_asm); (case hP => assumption); (case hB => assumption); (case hd => assumption); (case sub => k_extra "MineMem"); (case off => (simp only [LCg.Off3, and_true]; first | assumption | omega)))))
  (k_with "call type:bytes" => (k_here; (with_reducible show wpAny _ _ (call (Value.type "bytes") [Value.ref _]) _ _ _); k_dflt (refine' bytes_own ?kbaF ?kbaN ?kbah ?kbal ?kbai ?kban ?_; (case kbaF => k_asm); (case kbaN => k_asm); (case kbah => rfl); (case kbal => is_list); (case kbai => assumption); (case kban => omega); intro h' b' t' k' F' N' hb')))
  trivial
section
variable {loose : List Str} {mean : ExcName → Option Value} {mg mb : Str → Option Value}
theorem octets_ok : ∀ (w : World) (src : Addr) (o : Obj), IsPool o →
    Ok w loose mean mg mb 340 2720 (.ref 420) [.ref src] [(src, o)] (WPost src [] OctPost) := by
  intro w src o hP
  unfold Ok
  k_fill
  intro cn cs a ccd cl outer A₀ base h₀ L m s Q E B F X N T hk hret
  k_extra "MineWalkC"
  · refine' leaveW (nw := []) ?F ?N ?_ ?h1 ?h2 ?h3
    k_extra "MineLeaveW"
    refine hret _ _ _ _ ⟨_, _, rfl, List.forall_mem_nil _, by assumption, rfl, _, _, rfl, ?_⟩ F9 N9 K9 Z9
    omega
end
-- calls taken apart
section
variable {w : World} {loose : List Str} {mean : ExcName → Option Value} {mg mb : Str → Option Value} {D U : Nat} {f : Value} {vs : List Value} {sub : Led}
  {A : Around} {cn : Str} {cs : Scope} {a : Addr} {ccd : Value} {cl : List (Str × Addr)} {outer : List Env} {A₀ : Around} {base h₀ : Heap} {L : Addr} {m : Str → Option Value} {s : Shared} {Q E : Value → Shared → Prop} {news : Led}
theorem Ok.useOct {src : Addr} {o : Obj} {ro : Led} {fN : Obj → Led} (C : Ok w loose mean mg mb D U f vs ((src, o) :: ro) (WPost src ro (OctPost))) (hA : A.frames = some (envX cn cs L a ccd cl :: outer)) (hh : A.handled = none) (hd : A.depth ≤ D) (hu : A.units ≤ U)
    (B : Below A₀ base outer h₀) (F : Fr h₀ L s.heap m) (X : (KH w.params).In h₀) (N : News h₀ L s.heap news) (T : Top topProg loose mean mg mb h₀) (hk : cs.kind = .function)
    (hU : ∀ o', Upd src o o' news (fN o')) (hs : ∀ q ∈ ro, q ∈ news) (k : ∀ o' b t pl h' tk', IsPool o' → KBw.bInts b = pl → pl.length ≤ 9 → Fr h₀ L h' m → News h₀ L h' (fN o') → Q (.bytes b t) { s with heap := h', toks := tk' }) : wpAny (model rw0.prog w) A (call f vs) Q E s :=
  Ok.useW C hA hh hd hu B F X N T hk hU hs fun v o' nw h' tk' P F' N' D' => (by obtain ⟨hP, rfl, b, t, rfl, hl⟩ := P; exact k o' b t _ h' tk' hP rfl hl F' N')
end

-- part C5
def RPost (sub : Led) (P : Value → Led → Prop) (v : Value) (l : Led) : Prop := ∃ nw, l = nw ++ sub ∧ (∀ q ∈ nw, q.1 ∉ sub.map (·.1)) ∧ P v nw
def BytesAre (ks : List Int) (v : Value) (nw : Led) : Prop := nw = [] ∧ ∃ b t, v = .bytes b t ∧ KBw.bInts b = ks
def byteOf (n a : Int) : Int := Builtin.bitAnd (n.fdiv (2 ^ (8 * a).toNat)) 255
theorem byteOf_is (n a : Int) : byteOf n a = n.fdiv (2 ^ (8 * a).toNat) % 256 := bitAnd_m8 _
theorem byteOf_in (n a : Int) : 0 ≤ byteOf n a ∧ byteOf n a < 256 := by rw [byteOf_is]; omega
theorem mapByte_in (n : Int) (l : List Int) : KBa.In (l.map (byteOf n)) := fun k hk => by
  obtain ⟨a, _, rfl⟩ := List.mem_map.mp hk
  exact byteOf_in n a
section
variable {prog : Program} {w : World} {A : Around} {E : Value → Shared → Prop} {s : Shared} {h₀ : Heap} {L : Addr} {m : Str → Option Value} {env : Env}
theorem elem_byte {env' : Env} {x y : Str} {p1 p2 p3 p4 p5 p6 p7 : Pos} {k1 k2 : Nat} {c : Addr} {n a : Int} {tn ta : Tok} {m₂ : Str → Option Value} {Q : Value → Shared → Prop}
    (hk : env'.scope.kind = .function) (hx : env'.kindOf x = some .cell) (hc : env'.cells.lookup x = some c) (hv : s.heap.IsCell c (some (.int n tn))) (hy : env'.kindOf y = some .local) (hn : s.heap.Ns env'.locals m₂) (hm : m₂ y = some (.int a ta))
    (h0 : 0 ≤ a) (h8 : a ≤ 8) (hdx : (x == ("__debug__" : Str)) = false) (hcx : (x == ("__classdict__" : Str)) = false) (hdy : (y == ("__debug__" : Str)) = false)
    (h : ∀ t tk, Q (.int (byteOf n a) t) { s with toks := tk }) :
    wpAny (model prog w) A (eval (.BinOp (.BinOp (.Name x p1) .RShift (.BinOp (.Constant (.int 8) k1 p2) .Mult (.Name y p3) p4) p5) .BitAnd (.Constant (.int 255) k2 p6) p7) env') Q E s := by
  refine wpAny_BinOp (wpAny_BinOp (wpAny_Name (wpAny_loadName_cell hk hx hc hv ?_) hdx))
  refine wpAny_BinOp (wpAny_Constant_int (wpAny_Name (wpAny_loadName_local hk hy hn hm ?_) hdy))
  refine mul_int ?_ (mul_ok (by decide) (by decide))
  refine rshift_int (by omega) ?_
  refine wpAny_Constant_int (and_int ?_)
  exact h _ _

def ByteSrc (h₀ : Heap) (L : Addr) (m : Str → Option Value) (cl : List (Str × Addr)) (x : Str) (n : Int) (Q : Value → Shared → Prop) (xv : Value) (s₁ : Shared) : Prop :=
  ∃ (news : Led) (r : Addr) (a₀ b₀ c₀ : Int) (t₀ u₀ v₀ : Tok) (k : Nat), xv = .ref r ∧ IsRange s₁.heap r a₀ b₀ c₀ t₀ u₀ v₀ ∧ Builtin.Range.small a₀ b₀ c₀ = true ∧ Builtin.Range.rangeSize a₀ b₀ c₀ = (k : Int) ∧ k ≤ sizeLine ∧ Fr h₀ L s₁.heap m ∧ News h₀ L s₁.heap news ∧
    (∃ c oc tn, cl.lookup x = some c ∧ (c, oc) ∈ news ∧ oc.data = .cell (some (.int n tn))) ∧ (∀ a ∈ rangeInts a₀ c₀ k, 0 ≤ a ∧ a ≤ 8) ∧
    (∀ D ys h' tk, Fr h₀ L h' m → News h₀ L h' news → h'.IsList D ys.toArray → IntsAre ys ((rangeInts a₀ c₀ k).map (byteOf n)) → Q (.ref D) { s₁ with heap := h', toks := tk })
theorem filter_yes (l : List Int) : l.filter (fun _ => true) = l := List.filter_eq_self.mpr fun _ _ => rfl
theorem comp_bytes {iter : Expr} {x y : Str} {px : Pos} {p1 p2 p3 p4 p5 p6 p7 : Pos} {k1 k2 : Nat} {scope : Scope} {cl : List (Str × Addr)} {pos : Pos} {Q : Value → Shared → Prop} {n : Int} {news₀ : Led} {c₀ : Addr} {oc₀ : Obj} {tn₀ : Tok} (F₀ : Fr h₀ L s.heap m) (N₀ : News h₀ L s.heap news₀) (hc₀ : cl.lookup x = some c₀) (hm₀ : (c₀, oc₀) ∈ news₀) (hd₀ : oc₀.data = .cell (some (.int n tn₀)))
    (hh : A.handled = none) (hclos : closureFor scope env = pure cl) (hcell : ∀ y ∈ scope.names, y.2 ≠ .cell) (hkind : scope.kind = .function)
    (hnames : ∀ y ∈ scope.names, y.2 = .local → scope.names.lookup y.1 = some .local) (hy : scope.names.lookup y = some .local)
    (hxk : ∀ C, (compEnvC scope cl C env).kindOf x = some .cell) (hyk : ∀ C, (compEnvC scope cl C env).kindOf y = some .local) (hdx : (x == ("__debug__" : Str)) = false) (hcx : (x == ("__classdict__" : Str)) = false) (hdy : (y == ("__debug__" : Str)) = false)
    (h : wpAny (model prog w) A (eval iter env) (fun xv s₁ => ByteSrc h₀ L m cl x n Q xv s₁) E s)
    (hs : ∀ x, foldedSetIterable iter env x = pure x) :
    wpAny (model prog w) A (eval (.ListComp (.BinOp (.BinOp (.Name x p1) .RShift (.BinOp (.Constant (.int 8) k1 p2) .Mult (.Name y p3) p4) p5) .BitAnd (.Constant (.int 255) k2 p6) p7) [⟨.Name y px, iter, [], 0⟩] scope pos) env) Q E s := by
  refine ListComp_DCr (pz := fun _ => true) (d := fun a => .int (byteOf n a)) (h₀ := h₀) (L := L) (m := m) hh hclos hcell hkind hnames hy (wpAny_mono h (fun xv s₁ hx => ?_) fun _ _ e => e) hs
  obtain ⟨news, r, a₀, b₀, c₀, t₀, u₀, v₀, k, rfl, hr, hsm, hsz, hl, F, N, ⟨c, oc, tn, hcl, hmem, hcd⟩, hin, hq⟩ := hx
  refine ⟨news, r, a₀, b₀, c₀, t₀, u₀, v₀, k, rfl, hr, hsm, hsz, hl, F, N, ?_, ?_, ?_⟩
  · intro C a v s₂ m₂ E' _ _ _ _ _ _
    exact wpAny_pure ⟨rfl, _, _, rfl, fun _ _ e => e⟩
  · intro C a v s₂ m₂ E' _ ha hi _ hn hm hkeep
    obtain ⟨t, rfl⟩ := ItemKind.int_is hi
    exact elem_byte hkind (hxk C) hcl ⟨oc, hkeep _ _ (N _ hmem).1, hcd⟩ (hyk C) hn hm (hin a ha).1 (hin a ha).2 hdx hcx hdy fun t tk => ⟨.int _ _, _, _, rfl, fun _ _ e => e⟩
  · intro D ys h' tk F' N' hD hl' hp hc
    rw [filter_yes] at hc
    exact hq D ys h' tk F' N' hl' (IntsAre.ofCarried (by rw [List.map_map]; exact hc))
theorem bytes_ints {D : Addr} {news : Led} {ys : List Value} {ks : List Int} {Q : Value → Shared → Prop} (F : Fr h₀ L s.heap m) (N : News h₀ L s.heap news) (hh : A.handled = none) (hl : s.heap.IsList D ys.toArray) (hi : IntsAre ys ks) (hin : KBa.In ks) (hn : ks.length ≤ 16777216)
    (h : ∀ h' b t' k, Fr h₀ L h' m → News h₀ L h' news → KBw.bInts b = ks → Q (.bytes b t') { s with heap := h', toks := k }) : wpAny (model prog w) A (call (.type "bytes") [.ref D]) Q E s :=
  KBa.make_K F N hh hl hi hin hn fun h' t' k F' N' _ => h h' _ t' k F' N' (KBa.ints_make hin)
end
theorem down_size {a : Int} (h0 : 1 ≤ a) : Builtin.Range.rangeSize (a - 1) (-1) (-1) = ((a.toNat : Nat) : Int) := by
  unfold Builtin.Range.rangeSize
  rw [if_neg (by decide), if_pos (by omega)]
  have e : -(-1 : Int) = 1 := rfl
  rw [e, Int.ediv_one]
  omega
theorem down_small {a : Int} (h0 : 1 ≤ a) (h1 : a ≤ 6) : Builtin.Range.small (a - 1) (-1) (-1) = true := small_down (by omega) (by omega) (by omega) (by omega)
theorem down_in {a : Int} (h0 : 1 ≤ a) (h1 : a ≤ 6) : ∀ k ∈ rangeInts (a - 1) (-1) a.toNat, 0 ≤ k ∧ k ≤ 8 := fun k hk => by
  obtain ⟨i, hi, rfl⟩ := List.mem_map.mp hk
  have := List.mem_range.mp hi
  omega

-- part C6
theorem words0_C6 : True := by
  k_with_none
  (k_with "MineEnter" => (refine wpAny_call ?_; k_dflt (refine' enterQ ?k1 ?k2 ?k3 ?k4 ?k5 ?kA ?kF ?kK ?k6 ?k7 ?k8 ?k9 ?kB ?_ ?c2 ?c3 ?c4 ?c5; (case kA => exact rfl); (case kF => exact rfl); (case kK => assumption); (case k1 => k_asm); (case k2 => k_asm); (case k3 => k_asm); (case k4 => k_asm); (case k5 => k_asm); (case k6 => k_is); (case k7 => k_is); (case k8 => ktr_room); (case k9 => first | exact BindsTo.of_eq rfl | exact binds_K (by k_in) rfl (by k_is) rfl rfl rfl); (case c5 => decide); (case kB => exact locs rfl); (case c2 => exact rfl); (case c3 => exact rfl); (case c4 => exact rfl)); intro g' L' h' tk' FG' F' N' B' X' T' hg' lL'; (try k_lt lL'); (try dsimp only); (try k_fold)))
  (k_with "MineEnterC" => (refine wpAny_call ?_; k_dflt (refine' enterQC ?k1 ?k2 ?k3 ?k4 ?k5 ?kA ?kF ?kK ?k6 ?k7 ?k8 ?k9 ?kB ?kD ?_ ?c2 ?c3 ?c4; (case kA => exact rfl); (case kF => exact rfl); (case kK => assumption); (case k1 => k_asm); (case k2 => k_asm); (case k3 => k_asm); (case k4 => k_asm); (case k5 => k_asm); (case k6 => k_is); (case k7 => k_is); (case k8 => ktr_room); (case k9 => first | exact BindsTo.of_eq rfl | exact binds_K (by k_in) rfl (by k_is) rfl rfl rfl); (case kB => exact rfl); (case kD => decide +kernel); (case c2 => exact rfl); (case c3 => exact rfl); (case c4 => exact rfl)); intro g' L' h' tk' cells' FG' F' N' Y' B' X' T' hg' lL'; (try k_lt lL'); k_cells Y'; (try simp only [List.cons_append, List.nil_append] at N'); (try dsimp only); (try k_fold)))
  (k_with "MineWalkC" => (k_extra "MineEnterC"; k_steps; all_goals (try dsimp only); all_goals (try (k_unfold; dsimp only))))
  (k_with "MineWalk" => (k_extra "MineEnter"; k_steps; all_goals (try dsimp only); all_goals (try (k_unfold; dsimp only))))
  (k_with "MineFresh" => first | exact List.forall_mem_nil _ | (refine' List.forall_mem_cons.mpr ⟨?fa, ?fb⟩; (case fa => (repeat (first | exact List.not_mem_nil | (refine' List.not_mem_cons_of_ne_of_not_mem ?fn ?_; (case fn => k_ne)))))); (case fb => k_extra "MineFresh"))
  (k_with "MineMem" => first | exact List.forall_mem_nil _ | (refine' List.forall_mem_cons.mpr ⟨?fa, ?fb⟩; (case fa => k_mem); (case fb => k_extra "MineMem")))
  (k_with "MineSide" => ((case kA => exact rfl); (case kh => exact rfl); (case kd => exact Nat.le_of_ble_eq_true rfl); (case ku => exact Nat.le_of_ble_eq_true rfl); (case kB => k_asm); (case kF => k_asm); (case kX => k_asm); (case kN => k_asm); (case kT => k_asm); (case kk => exact rfl)))
  (k_with "MineLed" => ((try simp only [List.nil_append, List.cons_append] at N'); (try (replace D' := allNe2_of D'; simp only [AllNe2, AllNe, and_true] at D'))))
  (k_with "MineLeaveW" => ((case F => k_asm); (case N => k_asm); (case h1 => k_mem); (case h2 => k_extra "MineMem"); (case h3 => k_extra "MineMem"); intro F9 N9 K9 Z9))
  (k_with "MineLeaveR" => ((case F => k_asm); (case N => k_asm); (case h2 => k_extra "MineMem"); (case h3 => k_extra "MineMem"); intro F9 N9 K9 Z9))
  (k_with "MineGetLen" => (exfalso; omega))
  (k_with "MinePut" => (first | exact Int.lt_of_lt_of_le (b := 256) (by omega) (by decide) | exact Int.lt_of_lt_of_le (b := 65536) (by omega) (by decide) | exact Int.lt_of_lt_of_le (b := 16777216) (by omega) (by decide) | exact Int.lt_of_lt_of_le (b := 281474976710656) (by omega) (by decide)))
  (k_with "MineBytes" => first | assumption | exact bI1 ⟨by omega, by omega⟩ | exact bI2 ⟨by omega, by omega⟩ ⟨by omega, by omega⟩ | exact zeros_ints _ | exact KBw.ints_list _)
  (k_with "MineAdd" => (k_here; (with_reducible show wpAny _ _ (binaryOp Operator.Add (Value.bytes _ _) (Value.bytes _ _)) _ _ _); (refine KBa.add_K (by k_extra "MineBytes") (by k_extra "MineBytes") (by first | (simp only [List.length_cons, List.length_nil, List.length_append, List.length_map, List.length_replicate, rangeInts_length]; omega) | omega | (simp only [List.length_cons, List.length_nil, List.length_append, List.length_map, List.length_replicate, sum_len]; omega)) ?_); intro t' k' hb'))
  (k_with "MinePutBad" => (intro h9; first | (have h8 := Int.lt_of_lt_of_le h9 (show (1 * 2 ^ ((8:Int) * 1).toNat : Int) ≤ 256 by decide); omega) | (have h8 := Int.lt_of_lt_of_le h9 (show (1 * 2 ^ ((8:Int) * 3).toNat : Int) ≤ 16777216 by decide); omega)))
  (k_with "MinePass" => ((rename RaisedS _ _ _ _ _ _ _ _ _ => rsX); k_dflt (refine' leave_onX (news := ?sub) ?K ?F ?hf rsX ?U ?hs ?_; (case sub => first | k_extra "MineSub" | exact []); (case K => k_asm); (case F => k_asm); (case hf => exact rfl); (case U => k_asm); (case hs => k_extra "MineMem"); intro h9 R9 U9)))
  (k_with "MineEnterS" => (refine wpAny_call ?_; k_dflt (refine' enterQS ?k1 ?k2 ?k3 ?k4 ?k5 ?k0 ?kA ?kF ?kK ?k6 ?k7 ?k8 ?k9 ?kB ?_ ?c2 ?c3 ?c4 ?c5; (case kA => exact rfl); (case kF => exact rfl); (case kK => assumption); (case k1 => k_asm); (case k2 => k_asm); (case k3 => k_asm); (case k4 => k_asm); (case k5 => k_asm); (case k0 => k_asm); (case k6 => k_is); (case k7 => k_is); (case k8 => ktr_room); (case k9 => first | exact BindsTo.of_eq rfl | exact binds_K (by k_in) rfl (by k_is) rfl rfl rfl); (case c5 => decide); (case kB => exact locs rfl); (case c2 => exact rfl); (case c3 => exact rfl); (case c4 => exact rfl)); intro g' L' h' tk' FG' F' N' B' X' T' D' hg' lL'; (try k_lt lL'); (try dsimp only); (try k_fold)))
  (k_with "MineEnterSC" => (refine wpAny_call ?_; k_dflt (refine' enterQSC ?k1 ?k2 ?k3 ?k4 ?k5 ?k0 ?kA ?kF ?kK ?k6 ?k7 ?k8 ?k9 ?kB ?kD ?_ ?c2 ?c3 ?c4; (case kA => exact rfl); (case kF => exact rfl); (case kK => assumption); (case k1 => k_asm); (case k2 => k_asm); (case k3 => k_asm); (case k4 => k_asm); (case k5 => k_asm); (case k0 => k_asm); (case k6 => k_is); (case k7 => k_is); (case k8 => ktr_room); (case k9 => first | exact BindsTo.of_eq rfl | exact binds_K (by k_in) rfl (by k_is) rfl rfl rfl); (case kB => exact rfl); (case kD => decide +kernel); (case c2 => exact rfl); (case c3 => exact rfl); (case c4 => exact rfl)); intro g' L' h' tk' cells' FG' F' N' Y' B' X' T' D' hg' lL'; (try k_lt lL'); k_cells Y'; (try simp only [List.cons_append, List.nil_append] at N'); (try dsimp only); (try k_fold)))
  (k_with "MineEnterL" => (refine wpAny_call ?_; k_dflt (refine' enterQL ?k1 ?k2 ?k3 ?k4 ?k5 ?kA ?kF ?kK ?ho ?hc ?hd ?hv ?k8 ?k9 ?kB ?_ ?c2 ?c3 ?c4 ?c5; (case kA => exact rfl); (case kF => exact rfl); (case kK => assumption); (case k1 => k_asm); (case k2 => k_asm); (case k3 => k_asm); (case k4 => k_asm); (case k5 => k_asm); (case ho => k_mem); (case hc => k_mem); (case hd => assumption); (case hv => assumption); (case k8 => ktr_room); (case k9 => exact rfl); (case c5 => decide); (case kB => exact locs rfl); (case c2 => exact rfl); (case c3 => exact rfl); (case c4 => exact rfl)); intro g' L' h' tk' FG' F' N' B' X' T' hg' lL'; (try k_lt lL'); (try dsimp only); (try k_fold)))
  (k_with "MineWalkL" => (k_extra "MineEnterL"; k_dflt (show wpAny _ _ (eval (Expr.Call _ _ _ _) _) _ _ _); k_steps; all_goals (try dsimp only); all_goals (try (k_unfold; dsimp only))))
  (k_with "MineWalkS" => (k_extra "MineEnterS"; k_steps; all_goals (try dsimp only); all_goals (try (k_unfold; dsimp only))))
  (k_with "MineSame" => first | exact SameL.nil | (refine' SameL.cons ?sa ?sb; (case sa => first | exact same_int _ _ _ | exact same_bytes _ _ _ | exact PySem.SeqAt.EqAt.same _); (case sb => k_extra "MineSame")))
  (k_with "MineNeT" => (k_here; (with_reducible show wpAny _ _ (compareOp CmpOp.NotEq (Value.ref _) (Value.ref _)) _ _ _); k_dflt (refine' ne_tups ?N ?ml ?mb ?cl ?dl ?cb ?db ?hu ?hs ?_; (case N => k_asm); (case ml => k_mem); (case mb => k_mem); (case cl => rfl); (case dl => rfl); (case cb => rfl); (case db => rfl); (case hu => ke_room); (case hs => k_extra "MineSame"))))
  (k_with "MineEqT" => (k_here; (with_reducible show wpAny _ _ (compareOp CmpOp.Eq (Value.ref _) (Value.ref _)) _ _ _); k_dflt (refine' eq_tups ?N ?ml ?mb ?cl ?dl ?cb ?db ?hu ?hs ?_; (case N => k_asm); (case ml => k_mem); (case mb => k_mem); (case cl => rfl); (case dl => rfl); (case cb => rfl); (case db => rfl); (case hu => ke_room); (case hs => k_extra "MineSame"))))
  (k_with "MineNew" => ((try dsimp only [AllNe] at D1'); (try dsimp only [AllNe] at D2'); (try dsimp only [AllNe] at D3')))
  (k_with "MineNe1" => (refine neN ?_; (try dsimp only); with_reducible first | assumption | (refine Ne.symm ?_; assumption) | exact Nat.ne_of_lt (by assumption) | exact Nat.ne_of_gt (by assumption) | exact Nat.ne_of_lt (by k_extra "MineLtS") | exact Nat.ne_of_gt (by k_extra "MineLtS") | k_extra "MineNe2"))
  (k_with "MineLtS" => first | assumption | exact Nat.lt_succ_self _ | (refine Nat.lt_succ_of_lt ?_; k_extra "MineLtS"))
  (k_with "MineNe2" => (rename _ ∧ _ => hc9; first | k_extra "MinePrj" | (clear hc9; k_extra "MineNe2")))
  (k_with "MinePrj" => first | exact hc9.1 | exact Ne.symm hc9.1 | exact Nat.ne_of_lt hc9.1 | exact Nat.ne_of_gt hc9.1 | exact hc9.2.1 | exact Ne.symm hc9.2.1 | exact Nat.ne_of_lt hc9.2.1 | exact Nat.ne_of_gt hc9.2.1 | exact hc9.2.2.1 | exact Ne.symm hc9.2.2.1 | exact Nat.ne_of_lt hc9.2.2.1 | exact Nat.ne_of_gt hc9.2.2.1 | exact hc9.2.2.2.1 | exact Ne.symm hc9.2.2.2.1 | exact Nat.ne_of_lt hc9.2.2.2.1 | exact Nat.ne_of_gt hc9.2.2.2.1 | exact hc9.2.2.2.2.1 | exact Ne.symm hc9.2.2.2.2.1 | exact Nat.ne_of_lt hc9.2.2.2.2.1 | exact Nat.ne_of_gt hc9.2.2.2.2.1 | exact hc9.2.2.2.2.2.1 | exact Ne.symm hc9.2.2.2.2.2.1 | exact Nat.ne_of_lt hc9.2.2.2.2.2.1 | exact Nat.ne_of_gt hc9.2.2.2.2.2.1 | exact hc9.2.2.2.2.2.2.1 | exact Ne.symm hc9.2.2.2.2.2.2.1 | exact Nat.ne_of_lt hc9.2.2.2.2.2.2.1 | exact Nat.ne_of_gt hc9.2.2.2.2.2.2.1 | exact hc9.2.2.2.2.2.2.2.1 | exact Ne.symm hc9.2.2.2.2.2.2.2.1 | exact Nat.ne_of_lt hc9.2.2.2.2.2.2.2.1 | exact Nat.ne_of_gt hc9.2.2.2.2.2.2.2.1 | exact hc9.2.2.2.2.2.2.2.2.1 | exact Ne.symm hc9.2.2.2.2.2.2.2.2.1 | exact Nat.ne_of_lt hc9.2.2.2.2.2.2.2.2.1 | exact Nat.ne_of_gt hc9.2.2.2.2.2.2.2.2.1 | exact hc9.2.2.2.2.2.2.2.2.2.1 | exact Ne.symm hc9.2.2.2.2.2.2.2.2.2.1 | exact Nat.ne_of_lt hc9.2.2.2.2.2.2.2.2.2.1 | exact Nat.ne_of_gt hc9.2.2.2.2.2.2.2.2.2.1 | exact hc9.2.2.2.2.2.2.2.2.2.2.1 | exact Ne.symm hc9.2.2.2.2.2.2.2.2.2.2.1 | exact Nat.ne_of_lt hc9.2.2.2.2.2.2.2.2.2.2.1 | exact Nat.ne_of_gt hc9.2.2.2.2.2.2.2.2.2.2.1 | exact hc9.2.2.2.2.2.2.2.2.2.2.2.1 | exact Ne.symm hc9.2.2.2.2.2.2.2.2.2.2.2.1 | exact Nat.ne_of_lt hc9.2.2.2.2.2.2.2.2.2.2.2.1 | exact Nat.ne_of_gt hc9.2.2.2.2.2.2.2.2.2.2.2.1 | exact hc9.2.2.2.2.2.2.2.2.2.2.2.2.1 | exact Ne.symm hc9.2.2.2.2.2.2.2.2.2.2.2.2.1 | exact Nat.ne_of_lt hc9.2.2.2.2.2.2.2.2.2.2.2.2.1 | exact Nat.ne_of_gt hc9.2.2.2.2.2.2.2.2.2.2.2.2.1 | exact hc9.2.2.2.2.2.2.2.2.2.2.2.2.2.1 | exact Ne.symm hc9.2.2.2.2.2.2.2.2.2.2.2.2.2.1 | exact Nat.ne_of_lt hc9.2.2.2.2.2.2.2.2.2.2.2.2.2.1 | exact Nat.ne_of_gt hc9.2.2.2.2.2.2.2.2.2.2.2.2.2.1 | exact hc9.2.2.2.2.2.2.2.2.2.2.2.2.2.2.1 | exact Ne.symm hc9.2.2.2.2.2.2.2.2.2.2.2.2.2.2.1 | exact Nat.ne_of_lt hc9.2.2.2.2.2.2.2.2.2.2.2.2.2.2.1 | exact Nat.ne_of_gt hc9.2.2.2.2.2.2.2.2.2.2.2.2.2.2.1 | exact hc9.2.2.2.2.2.2.2.2.2.2.2.2.2.2.2.1 | exact Ne.symm hc9.2.2.2.2.2.2.2.2.2.2.2.2.2.2.2.1 | exact Nat.ne_of_lt hc9.2.2.2.2.2.2.2.2.2.2.2.2.2.2.2.1 | exact Nat.ne_of_gt hc9.2.2.2.2.2.2.2.2.2.2.2.2.2.2.2.1)
  trivial
local macro_rules | `(tactic| walk_at "eval ListComp") => `(tactic| k_extra "eval ListComp")
local macro_rules | `(tactic| walk_at "ByteSrc") => `(tactic| k_extra "ByteSrc")
theorem words6 : True := by
  (k_with "eval ListComp" => (k_dflt (refine' comp_bytes ?F ?N0 ?c0 ?m0 ?d0 ?hh ?hclos ?hcell ?hkind ?hnames ?hy ?hxk ?hyk ?hdx ?hcx ?hdy ?_ ?hs; (case F => k_asm); (case hh => rfl); (case hclos => with_unfolding_all rfl); (case N0 => k_asm); (case c0 => rfl); (case m0 => k_mem); (case d0 => first | assumption | (with_unfolding_all assumption)); (case hcell => decide); (case hkind => with_unfolding_all rfl); (case hnames => decide); (case hy => with_unfolding_all rfl); (case hxk => intro _; with_unfolding_all rfl); (case hyk => intro _; with_unfolding_all rfl); (case hdx => decide); (case hcx => decide); (case hdy => decide); (case hs => intro _; with_unfolding_all rfl))))
  (k_with "ByteSrc" => (k_dflt (refine' ⟨_, _, _, _, _, _, _, _, _, rfl, (by assumption), ?sm, ?rs, ?sl, (by k_asm), (by k_asm), ⟨_, _, _, rfl, (by k_mem), (by assumption)⟩, ?rg, ?_⟩; (case sm => first | exact down_small (by assumption) (by assumption) | decide); (case rs => first | exact down_size (by assumption) | exact rangeSize_nat _ _); (case sl => (rw [PySem.sizeLine_eq]; omega)); (case rg => first | exact down_in (by assumption) (by assumption) | decide); intro D' ys' h' tk' F' N' l1 hi')))
  (k_with "call type:bytes" => (k_here; (with_reducible show wpAny _ _ (call (Value.type "bytes") [Value.ref _]) _ _ _); k_dflt (refine' bytes_ints ?kbaF ?kbaN ?kbah ?kbal ?kbai ?kbar ?kban ?_; (case kbaF => k_asm); (case kbaN => k_asm); (case kbah => rfl); (case kbal => assumption); (case kbai => assumption); (case kbar => exact mapByte_in _ _); (case kban => (rw [List.length_map, rangeInts_length]; omega)); intro h' b' t' k' F' N' hb')))
  (k_with "exec Raise some none" => (exact absurd (by assumption) (by assumption : ¬ _ < _)))
  trivial
section
variable {loose : List Str} {mean : ExcName → Option Value} {mg mb : Str → Option Value}
theorem put_ok : ∀ (w : World) (n many : Int) (tn tm : Tok), 1 ≤ many → many ≤ 6 → 0 ≤ n → n < 1 * 2 ^ (8 * many).toNat →
    Ok w loose mean mg mb 360 2880 (.ref 170) [.int n tn, .int many tm] [] (RPost [] (BytesAre ((rangeInts (many - 1) (-1) many.toNat).map (byteOf n)))) := by
  intro w n many tn tm hm0 hm1 h0 h1
  unfold Ok
  k_fill
  intro cn cs a ccd cl outer A₀ base h₀ L m s Q E B F X N T hk hret
  k_extra "MineWalkC"
  · refine' leaveR (nw := []) ?F ?N ?_ ?h2 ?h3
    k_extra "MineLeaveR"
    exact hret _ _ _ _ ⟨[], rfl, List.forall_mem_nil _, rfl, _, _, rfl, hb'⟩ F9 N9 K9 Z9
end
-- calls taken apart
section
variable {w : World} {loose : List Str} {mean : ExcName → Option Value} {mg mb : Str → Option Value} {D U : Nat} {f : Value} {vs : List Value} {sub : Led}
  {A : Around} {cn : Str} {cs : Scope} {a : Addr} {ccd : Value} {cl : List (Str × Addr)} {outer : List Env} {A₀ : Around} {base h₀ : Heap} {L : Addr} {m : Str → Option Value} {s : Shared} {Q E : Value → Shared → Prop} {news : Led}
theorem Ok.useBy {ks : List Int} (C : Ok w loose mean mg mb D U f vs sub (RPost sub (BytesAre ks))) (hA : A.frames = some (envX cn cs L a ccd cl :: outer)) (hh : A.handled = none) (hd : A.depth ≤ D) (hu : A.units ≤ U)
    (B : Below A₀ base outer h₀) (F : Fr h₀ L s.heap m) (X : (KH w.params).In h₀) (N : News h₀ L s.heap news) (T : Top topProg loose mean mg mb h₀) (hk : cs.kind = .function) (hs : ∀ q ∈ sub, q ∈ news)
    (k : ∀ b t h' tk', KBw.bInts b = ks → Fr h₀ L h' m → News h₀ L h' news → Q (.bytes b t) { s with heap := h', toks := tk' }) : wpAny (model rw0.prog w) A (call f vs) Q E s :=
  Ok.useR C hA hh hd hu B F X N T hk hs fun v nw h' tk' P F' N' D' => (by obtain ⟨rfl, b, t, rfl, hb⟩ := P; exact k b t h' tk' hb F' N')
end

-- part C7
def IntIs (r : Int) (v : Value) (nw : Led) : Prop := nw = [] ∧ ∃ t, v = .int r t
def beStep (a k : Int) : Int := Builtin.bitOr (a * 2 ^ (8 : Int).toNat) k
def beVal (ks : List Int) : Int := ks.foldl beStep 0
theorem bitOr_small : ∀ (a k : Nat), k < 256 → Nat.lor (a * 256) k = a * 256 + k := fun a k h => by
  have := Nat.two_pow_add_eq_or_of_lt (i := 8) (b := k) (by simpa using h) a
  have e : 2 ^ 8 * a + k = (2 ^ 8 * a) ||| k := this
  show (a * 256) ||| k = a * 256 + k
  rw [show a * 256 = 2 ^ 8 * a by omega, ← e]
theorem beStep_is {a k : Int} (h0 : 0 ≤ a) (k0 : 0 ≤ k) (k1 : k < 256) : beStep a k = a * 256 + k := by
  unfold beStep
  rw [bitOr_and]
  have e : a * 2 ^ (8 : Int).toNat = a * 256 := rfl
  rw [e]
  have z : Builtin.bitAnd (a * 256) k = 0 := by
    rw [bitAnd_pp (by omega) k0]
    obtain ⟨n, rfl⟩ := Int.eq_ofNat_of_zero_le h0
    obtain ⟨j, rfl⟩ := Int.eq_ofNat_of_zero_le k0
    have h2 := nat_or_add_and (n * 256) j
    have h3 : n * 256 ||| j = n * 256 + j := bitOr_small n j (by omega)
    have e1 : ((n : Int) * 256).toNat = n * 256 := by omega
    have e2 : ((j : Nat) : Int).toNat = j := by omega
    rw [e1, e2]
    omega
  rw [z]
  omega
section
variable {prog : Program} {w : World} {A : Around} {E : Value → Shared → Prop} {s : Shared} {env : Env} {h₀ : Heap} {x : PySem.Str} {body : List Stmt} {Q : Flow → Shared → Prop} {b : Array UInt8} {tb : Tok} {ks : List Int} {m₀ : PySem.Str → Option Value} {news : Led}
theorem bytes_loop {y : PySem.Str} {c₀ : Int} {tc : Tok} (g : Int → Int → Int) (Bd : Int → Prop) (hB : ∀ i, i < ks.length → Bd ((ks.take i).foldl g c₀))
    (hk : KBw.bInts b = ks) (hh : A.handled = none) (F : Fr h₀ env.locals s.heap m₀) (N : News h₀ env.locals s.heap news) (hy : m₀ y = some (.int c₀ tc))
    (turn : ∀ k t a ta h tk own, Bd a → 0 ≤ k → k < 256 → OwnOff own (news.map (·.1)) → Fr h₀ env.locals h (fun z => if z = x then some (.int k t) else if z = y then some (.int a ta) else m₀ z) → News h₀ env.locals h (news ++ own) →
      wpAny (model prog w) A (execs body env) (InvPostN h₀ env.locals (fun m' nx => nx = news ∧ (∃ t', m' y = some (.int (g a k) t')) ∧ ∀ z, z ≠ x → z ≠ y → m' z = m₀ z) own (news.map (·.1)) { s with heap := h, toks := tk } Q) E { s with heap := h, toks := tk })
    (done : ∀ (u : PySem.Str → Option Value) t h tk, Fr h₀ env.locals h (fun z => if z = x then u z else if z = y then some (.int (ks.foldl g c₀) t) else m₀ z) → News h₀ env.locals h news → Q .next { s with heap := h, toks := tk }) :
    wpAny (model prog w) A (pyIter (.bytes b tb)) (fun it s₂ => LoopAtV prog w A h₀ env x body Q E it s₂) E s := by
  refine KBmo.iter_bytesN (fun i m nx => nx = news ∧ (∃ t, m y = some (.int ((ks.take i).foldl g c₀) t)) ∧ ∀ z, z ≠ x → z ≠ y → m z = m₀ z) hk hh F N ⟨rfl, ⟨tc, by simpa using hy⟩, fun _ _ _ => rfl⟩ ?_ ?_
  · rintro i k t m₁ nx h tk own he h0 h1 hoff ⟨rfl, ⟨ta, ha⟩, hm⟩ F₁ N₁
    have hi : i < ks.length := by
      rcases Nat.lt_or_ge i ks.length with h | h
      · exact h
      · rw [List.getElem?_eq_none h] at he; cases he
    have hs : (ks.take (i + 1)).foldl g c₀ = g ((ks.take i).foldl g c₀) k := by
      rw [List.take_add_one, he]; simp
    rw [hs]
    rw [map_one ha hm] at F₁
    exact turn k t _ ta h tk own (hB i hi) h0 h1 hoff F₁ N₁
  · rintro m₁ nx h tk ⟨rfl, ⟨t, ha⟩, hm⟩ F₁ N₁
    rw [List.take_length] at ha
    refine done m₁ t h tk ?_ N₁
    rw [done_one ha hm]; exact F₁
end
theorem beVal_lt : ∀ (ks : List Int) (a : Int) (p : Int), (∀ k ∈ ks, 0 ≤ k ∧ k < 256) → 0 ≤ a → a < p → 0 ≤ ks.foldl beStep a ∧ ks.foldl beStep a < p * 256 ^ ks.length
  | [], a, p, _, h0, h1 => by simp only [List.foldl_nil, List.length_nil, Int.pow_zero, Int.mul_one]; exact ⟨h0, h1⟩
  | k :: r, a, p, hk, h0, h1 => by
    have hk' := hk k (.head _)
    have e := beStep_is h0 hk'.1 hk'.2
    rw [List.foldl_cons, e, List.length_cons]
    have := beVal_lt r (a * 256 + k) (p * 256) (fun q hq => hk q (.tail _ hq)) (by omega) (by omega)
    rw [Int.pow_succ]
    have e2 : p * 256 * 256 ^ r.length = p * (256 ^ r.length * 256) := by rw [Int.mul_assoc, Int.mul_comm 256]
    rw [e2] at this
    exact this
theorem beVal_small {ks : List Int} (hk : ∀ k ∈ ks, 0 ≤ k ∧ k < 256) (hl : ks.length ≤ 6) : 0 ≤ beVal ks ∧ beVal ks < 281474976710656 := by
  have h := beVal_lt ks 0 1 hk (by decide) (by decide)
  refine ⟨h.1, Int.lt_of_lt_of_le h.2 ?_⟩
  rw [Int.one_mul]
  have : ks.length = 0 ∨ ks.length = 1 ∨ ks.length = 2 ∨ ks.length = 3 ∨ ks.length = 4 ∨ ks.length = 5 ∨ ks.length = 6 := by omega
  rcases this with e | e | e | e | e | e | e <;> rw [e] <;> decide
theorem slice_fold_small {ks : List Int} (hk : ∀ k ∈ ks, 0 ≤ k ∧ k < 256) (hl : ks.length ≤ 6) : ∀ i, i < ks.length → (fun a : Int => 0 ≤ a ∧ a < 281474976710656) ((ks.take i).foldl beStep 0) := fun i _ =>
  beVal_small (ks := ks.take i) (fun k h => hk k (List.mem_of_mem_take h)) (by rw [List.length_take]; omega)
def sliceAt (ks : List Int) (a n : Int) : List Int := (ks.drop a.toNat).take n.toNat
theorem picked_at {b : Array UInt8} {ks : List Int} (hk : KBw.bInts b = ks) {a n : Int} (h0 : 0 ≤ a) (h1 : 0 ≤ n) (h2 : a + n ≤ (ks.length : Int)) : KBw.bInts (KBy.picked b (some a) (some (a + n))) = sliceAt ks a n := by
  rw [KBc.ints_picked hk]
  show (ks.drop (clipAt ks.length a)).take (clipAt ks.length (a + n) - clipAt ks.length a) = _
  have e1 : clipAt ks.length a = a.toNat := by
    obtain ⟨i, rfl⟩ := Int.eq_ofNat_of_zero_le h0
    rw [clipAt_nat]
    omega
  have e2 : clipAt ks.length (a + n) = a.toNat + n.toNat := by
    obtain ⟨i, hi⟩ := Int.eq_ofNat_of_zero_le (show 0 ≤ a + n by omega)
    rw [hi, clipAt_nat]
    omega
  rw [e1, e2, Nat.add_sub_cancel_left]
  rfl
theorem sliceAt_len {ks : List Int} {a n : Int} (h0 : 0 ≤ a) (h1 : 0 ≤ n) (h2 : a + n ≤ (ks.length : Int)) : (sliceAt ks a n).length = n.toNat := by
  unfold sliceAt
  rw [List.length_take, List.length_drop]
  omega
theorem sliceAt_in {b : Array UInt8} {ks : List Int} (hk : KBw.bInts b = ks) (a n : Int) : ∀ k ∈ sliceAt ks a n, 0 ≤ k ∧ k < 256 := fun k h => by
  subst hk
  exact KBw.ints_in (List.mem_of_mem_drop (List.mem_of_mem_take h))

-- part C8
theorem words0_C8 : True := by
  k_with_none
  (k_with "MineEnter" => (refine wpAny_call ?_; k_dflt (refine' enterQ ?k1 ?k2 ?k3 ?k4 ?k5 ?kA ?kF ?kK ?k6 ?k7 ?k8 ?k9 ?kB ?_ ?c2 ?c3 ?c4 ?c5; (case kA => exact rfl); (case kF => exact rfl); (case kK => assumption); (case k1 => k_asm); (case k2 => k_asm); (case k3 => k_asm); (case k4 => k_asm); (case k5 => k_asm); (case k6 => k_is); (case k7 => k_is); (case k8 => ktr_room); (case k9 => first | exact BindsTo.of_eq rfl | exact binds_K (by k_in) rfl (by k_is) rfl rfl rfl); (case c5 => decide); (case kB => exact locs rfl); (case c2 => exact rfl); (case c3 => exact rfl); (case c4 => exact rfl)); intro g' L' h' tk' FG' F' N' B' X' T' hg' lL'; (try k_lt lL'); (try dsimp only); (try k_fold)))
  (k_with "MineEnterC" => (refine wpAny_call ?_; k_dflt (refine' enterQC ?k1 ?k2 ?k3 ?k4 ?k5 ?kA ?kF ?kK ?k6 ?k7 ?k8 ?k9 ?kB ?kD ?_ ?c2 ?c3 ?c4; (case kA => exact rfl); (case kF => exact rfl); (case kK => assumption); (case k1 => k_asm); (case k2 => k_asm); (case k3 => k_asm); (case k4 => k_asm); (case k5 => k_asm); (case k6 => k_is); (case k7 => k_is); (case k8 => ktr_room); (case k9 => first | exact BindsTo.of_eq rfl | exact binds_K (by k_in) rfl (by k_is) rfl rfl rfl); (case kB => exact rfl); (case kD => decide +kernel); (case c2 => exact rfl); (case c3 => exact rfl); (case c4 => exact rfl)); intro g' L' h' tk' cells' FG' F' N' Y' B' X' T' hg' lL'; (try k_lt lL'); k_cells Y'; (try simp only [List.cons_append, List.nil_append] at N'); (try dsimp only); (try k_fold)))
  (k_with "MineWalkC" => (k_extra "MineEnterC"; k_steps; all_goals (try dsimp only); all_goals (try (k_unfold; dsimp only))))
  (k_with "MineWalk" => (k_extra "MineEnter"; k_steps; all_goals (try dsimp only); all_goals (try (k_unfold; dsimp only))))
  (k_with "MineFresh" => first | exact List.forall_mem_nil _ | (refine' List.forall_mem_cons.mpr ⟨?fa, ?fb⟩; (case fa => (repeat (first | exact List.not_mem_nil | (refine' List.not_mem_cons_of_ne_of_not_mem ?fn ?_; (case fn => k_ne)))))); (case fb => k_extra "MineFresh"))
  (k_with "MineMem" => first | exact List.forall_mem_nil _ | (refine' List.forall_mem_cons.mpr ⟨?fa, ?fb⟩; (case fa => k_mem); (case fb => k_extra "MineMem")))
  (k_with "MineSide" => ((case kA => exact rfl); (case kh => exact rfl); (case kd => exact Nat.le_of_ble_eq_true rfl); (case ku => exact Nat.le_of_ble_eq_true rfl); (case kB => k_asm); (case kF => k_asm); (case kX => k_asm); (case kN => k_asm); (case kT => k_asm); (case kk => exact rfl)))
  (k_with "MineLed" => ((try simp only [List.nil_append, List.cons_append] at N'); (try (replace D' := allNe2_of D'; simp only [AllNe2, AllNe, and_true] at D'))))
  (k_with "MineLeaveW" => ((case F => k_asm); (case N => k_asm); (case h1 => k_mem); (case h2 => k_extra "MineMem"); (case h3 => k_extra "MineMem"); intro F9 N9 K9 Z9))
  (k_with "MineLeaveR" => ((case F => k_asm); (case N => k_asm); (case h2 => k_extra "MineMem"); (case h3 => k_extra "MineMem"); intro F9 N9 K9 Z9))
  (k_with "MineGetLen" => (exfalso; omega))
  (k_with "MinePut" => (first | exact Int.lt_of_lt_of_le (b := 256) (by omega) (by decide) | exact Int.lt_of_lt_of_le (b := 65536) (by omega) (by decide) | exact Int.lt_of_lt_of_le (b := 16777216) (by omega) (by decide) | exact Int.lt_of_lt_of_le (b := 281474976710656) (by omega) (by decide)))
  (k_with "MineBytes" => first | assumption | exact bI1 ⟨by omega, by omega⟩ | exact bI2 ⟨by omega, by omega⟩ ⟨by omega, by omega⟩ | exact zeros_ints _ | exact KBw.ints_list _)
  (k_with "MineAdd" => (k_here; (with_reducible show wpAny _ _ (binaryOp Operator.Add (Value.bytes _ _) (Value.bytes _ _)) _ _ _); (refine KBa.add_K (by k_extra "MineBytes") (by k_extra "MineBytes") (by first | (simp only [List.length_cons, List.length_nil, List.length_append, List.length_map, List.length_replicate, rangeInts_length]; omega) | omega | (simp only [List.length_cons, List.length_nil, List.length_append, List.length_map, List.length_replicate, sum_len]; omega)) ?_); intro t' k' hb'))
  (k_with "MinePutBad" => (intro h9; first | (have h8 := Int.lt_of_lt_of_le h9 (show (1 * 2 ^ ((8:Int) * 1).toNat : Int) ≤ 256 by decide); omega) | (have h8 := Int.lt_of_lt_of_le h9 (show (1 * 2 ^ ((8:Int) * 3).toNat : Int) ≤ 16777216 by decide); omega)))
  (k_with "MinePass" => ((rename RaisedS _ _ _ _ _ _ _ _ _ => rsX); k_dflt (refine' leave_onX (news := ?sub) ?K ?F ?hf rsX ?U ?hs ?_; (case sub => first | k_extra "MineSub" | exact []); (case K => k_asm); (case F => k_asm); (case hf => exact rfl); (case U => k_asm); (case hs => k_extra "MineMem"); intro h9 R9 U9)))
  (k_with "MineEnterS" => (refine wpAny_call ?_; k_dflt (refine' enterQS ?k1 ?k2 ?k3 ?k4 ?k5 ?k0 ?kA ?kF ?kK ?k6 ?k7 ?k8 ?k9 ?kB ?_ ?c2 ?c3 ?c4 ?c5; (case kA => exact rfl); (case kF => exact rfl); (case kK => assumption); (case k1 => k_asm); (case k2 => k_asm); (case k3 => k_asm); (case k4 => k_asm); (case k5 => k_asm); (case k0 => k_asm); (case k6 => k_is); (case k7 => k_is); (case k8 => ktr_room); (case k9 => first | exact BindsTo.of_eq rfl | exact binds_K (by k_in) rfl (by k_is) rfl rfl rfl); (case c5 => decide); (case kB => exact locs rfl); (case c2 => exact rfl); (case c3 => exact rfl); (case c4 => exact rfl)); intro g' L' h' tk' FG' F' N' B' X' T' D' hg' lL'; (try k_lt lL'); (try dsimp only); (try k_fold)))
  (k_with "MineEnterSC" => (refine wpAny_call ?_; k_dflt (refine' enterQSC ?k1 ?k2 ?k3 ?k4 ?k5 ?k0 ?kA ?kF ?kK ?k6 ?k7 ?k8 ?k9 ?kB ?kD ?_ ?c2 ?c3 ?c4; (case kA => exact rfl); (case kF => exact rfl); (case kK => assumption); (case k1 => k_asm); (case k2 => k_asm); (case k3 => k_asm); (case k4 => k_asm); (case k5 => k_asm); (case k0 => k_asm); (case k6 => k_is); (case k7 => k_is); (case k8 => ktr_room); (case k9 => first | exact BindsTo.of_eq rfl | exact binds_K (by k_in) rfl (by k_is) rfl rfl rfl); (case kB => exact rfl); (case kD => decide +kernel); (case c2 => exact rfl); (case c3 => exact rfl); (case c4 => exact rfl)); intro g' L' h' tk' cells' FG' F' N' Y' B' X' T' D' hg' lL'; (try k_lt lL'); k_cells Y'; (try simp only [List.cons_append, List.nil_append] at N'); (try dsimp only); (try k_fold)))
  (k_with "MineEnterL" => (refine wpAny_call ?_; k_dflt (refine' enterQL ?k1 ?k2 ?k3 ?k4 ?k5 ?kA ?kF ?kK ?ho ?hc ?hd ?hv ?k8 ?k9 ?kB ?_ ?c2 ?c3 ?c4 ?c5; (case kA => exact rfl); (case kF => exact rfl); (case kK => assumption); (case k1 => k_asm); (case k2 => k_asm); (case k3 => k_asm); (case k4 => k_asm); (case k5 => k_asm); (case ho => k_mem); (case hc => k_mem); (case hd => assumption); (case hv => assumption); (case k8 => ktr_room); (case k9 => exact rfl); (case c5 => decide); (case kB => exact locs rfl); (case c2 => exact rfl); (case c3 => exact rfl); (case c4 => exact rfl)); intro g' L' h' tk' FG' F' N' B' X' T' hg' lL'; (try k_lt lL'); (try dsimp only); (try k_fold)))
  (k_with "MineWalkL" => (k_extra "MineEnterL"; k_dflt (show wpAny _ _ (eval (Expr.Call _ _ _ _) _) _ _ _); k_steps; all_goals (try dsimp only); all_goals (try (k_unfold; dsimp only))))
  (k_with "MineWalkS" => (k_extra "MineEnterS"; k_steps; all_goals (try dsimp only); all_goals (try (k_unfold; dsimp only))))
  (k_with "MineSame" => first | exact SameL.nil | (refine' SameL.cons ?sa ?sb; (case sa => first | exact same_int _ _ _ | exact same_bytes _ _ _ | exact PySem.SeqAt.EqAt.same _); (case sb => k_extra "MineSame")))
  (k_with "MineNeT" => (k_here; (with_reducible show wpAny _ _ (compareOp CmpOp.NotEq (Value.ref _) (Value.ref _)) _ _ _); k_dflt (refine' ne_tups ?N ?ml ?mb ?cl ?dl ?cb ?db ?hu ?hs ?_; (case N => k_asm); (case ml => k_mem); (case mb => k_mem); (case cl => rfl); (case dl => rfl); (case cb => rfl); (case db => rfl); (case hu => ke_room); (case hs => k_extra "MineSame"))))
  (k_with "MineEqT" => (k_here; (with_reducible show wpAny _ _ (compareOp CmpOp.Eq (Value.ref _) (Value.ref _)) _ _ _); k_dflt (refine' eq_tups ?N ?ml ?mb ?cl ?dl ?cb ?db ?hu ?hs ?_; (case N => k_asm); (case ml => k_mem); (case mb => k_mem); (case cl => rfl); (case dl => rfl); (case cb => rfl); (case db => rfl); (case hu => ke_room); (case hs => k_extra "MineSame"))))
  (k_with "MineNew" => ((try dsimp only [AllNe] at D1'); (try dsimp only [AllNe] at D2'); (try dsimp only [AllNe] at D3')))
  (k_with "MineNe1" => (refine neN ?_; (try dsimp only); with_reducible first | assumption | (refine Ne.symm ?_; assumption) | exact Nat.ne_of_lt (by assumption) | exact Nat.ne_of_gt (by assumption) | exact Nat.ne_of_lt (by k_extra "MineLtS") | exact Nat.ne_of_gt (by k_extra "MineLtS") | k_extra "MineNe2"))
  (k_with "MineLtS" => first | assumption | exact Nat.lt_succ_self _ | (refine Nat.lt_succ_of_lt ?_; k_extra "MineLtS"))
  (k_with "MineNe2" => (rename _ ∧ _ => hc9; first | k_extra "MinePrj" | (clear hc9; k_extra "MineNe2")))
  (k_with "MinePrj" => first | exact hc9.1 | exact Ne.symm hc9.1 | exact Nat.ne_of_lt hc9.1 | exact Nat.ne_of_gt hc9.1 | exact hc9.2.1 | exact Ne.symm hc9.2.1 | exact Nat.ne_of_lt hc9.2.1 | exact Nat.ne_of_gt hc9.2.1 | exact hc9.2.2.1 | exact Ne.symm hc9.2.2.1 | exact Nat.ne_of_lt hc9.2.2.1 | exact Nat.ne_of_gt hc9.2.2.1 | exact hc9.2.2.2.1 | exact Ne.symm hc9.2.2.2.1 | exact Nat.ne_of_lt hc9.2.2.2.1 | exact Nat.ne_of_gt hc9.2.2.2.1 | exact hc9.2.2.2.2.1 | exact Ne.symm hc9.2.2.2.2.1 | exact Nat.ne_of_lt hc9.2.2.2.2.1 | exact Nat.ne_of_gt hc9.2.2.2.2.1 | exact hc9.2.2.2.2.2.1 | exact Ne.symm hc9.2.2.2.2.2.1 | exact Nat.ne_of_lt hc9.2.2.2.2.2.1 | exact Nat.ne_of_gt hc9.2.2.2.2.2.1 | exact hc9.2.2.2.2.2.2.1 | exact Ne.symm hc9.2.2.2.2.2.2.1 | exact Nat.ne_of_lt hc9.2.2.2.2.2.2.1 | exact Nat.ne_of_gt hc9.2.2.2.2.2.2.1 | exact hc9.2.2.2.2.2.2.2.1 | exact Ne.symm hc9.2.2.2.2.2.2.2.1 | exact Nat.ne_of_lt hc9.2.2.2.2.2.2.2.1 | exact Nat.ne_of_gt hc9.2.2.2.2.2.2.2.1 | exact hc9.2.2.2.2.2.2.2.2.1 | exact Ne.symm hc9.2.2.2.2.2.2.2.2.1 | exact Nat.ne_of_lt hc9.2.2.2.2.2.2.2.2.1 | exact Nat.ne_of_gt hc9.2.2.2.2.2.2.2.2.1 | exact hc9.2.2.2.2.2.2.2.2.2.1 | exact Ne.symm hc9.2.2.2.2.2.2.2.2.2.1 | exact Nat.ne_of_lt hc9.2.2.2.2.2.2.2.2.2.1 | exact Nat.ne_of_gt hc9.2.2.2.2.2.2.2.2.2.1 | exact hc9.2.2.2.2.2.2.2.2.2.2.1 | exact Ne.symm hc9.2.2.2.2.2.2.2.2.2.2.1 | exact Nat.ne_of_lt hc9.2.2.2.2.2.2.2.2.2.2.1 | exact Nat.ne_of_gt hc9.2.2.2.2.2.2.2.2.2.2.1 | exact hc9.2.2.2.2.2.2.2.2.2.2.2.1 | exact Ne.symm hc9.2.2.2.2.2.2.2.2.2.2.2.1 | exact Nat.ne_of_lt hc9.2.2.2.2.2.2.2.2.2.2.2.1 | exact Nat.ne_of_gt hc9.2.2.2.2.2.2.2.2.2.2.2.1 | exact hc9.2.2.2.2.2.2.2.2.2.2.2.2.1 | exact Ne.symm hc9.2.2.2.2.2.2.2.2.2.2.2.2.1 | exact Nat.ne_of_lt hc9.2.2.2.2.2.2.2.2.2.2.2.2.1 | exact Nat.ne_of_gt hc9.2.2.2.2.2.2.2.2.2.2.2.2.1 | exact hc9.2.2.2.2.2.2.2.2.2.2.2.2.2.1 | exact Ne.symm hc9.2.2.2.2.2.2.2.2.2.2.2.2.2.1 | exact Nat.ne_of_lt hc9.2.2.2.2.2.2.2.2.2.2.2.2.2.1 | exact Nat.ne_of_gt hc9.2.2.2.2.2.2.2.2.2.2.2.2.2.1 | exact hc9.2.2.2.2.2.2.2.2.2.2.2.2.2.2.1 | exact Ne.symm hc9.2.2.2.2.2.2.2.2.2.2.2.2.2.2.1 | exact Nat.ne_of_lt hc9.2.2.2.2.2.2.2.2.2.2.2.2.2.2.1 | exact Nat.ne_of_gt hc9.2.2.2.2.2.2.2.2.2.2.2.2.2.2.1 | exact hc9.2.2.2.2.2.2.2.2.2.2.2.2.2.2.2.1 | exact Ne.symm hc9.2.2.2.2.2.2.2.2.2.2.2.2.2.2.2.1 | exact Nat.ne_of_lt hc9.2.2.2.2.2.2.2.2.2.2.2.2.2.2.2.1 | exact Nat.ne_of_gt hc9.2.2.2.2.2.2.2.2.2.2.2.2.2.2.2.1)
  trivial
local macro_rules | `(tactic| walk_at "exec For Name Subscript cons nil") => `(tactic| k_extra "exec For Name Subscript cons nil")
local macro_rules | `(tactic| walk_at "pyIter bytes") => `(tactic| k_extra "pyIter bytes")
local macro_rules | `(tactic| walk_at "binaryOp LShift int int") => `(tactic| k_extra "binaryOp LShift int int")
local macro_rules | `(tactic| walk_at "InvEndN") => `(tactic| k_extra "InvEndN")
theorem words8 : True := by
  (k_with "exec Raise some none" => (exfalso; omega))
  (k_with "exec For Name Subscript cons nil" => (k_dflt (refine' For_invVF ?F ?k1 ?k2 ?_; (case F => k_asm); (case k1 => exact rfl); (case k2 => exact rfl))))
  (k_with "pyIter bytes" => (k_dflt (refine' bytes_loop (y := Str.ofString "found") beStep (fun a : Int => 0 ≤ a ∧ a < 281474976710656) ?hB ?hk ?hh ?F ?N ?hy ?turn ?done; (case hk => exact picked_at hb h0 (Int.le_of_lt hm0) h1); (case hB => exact slice_fold_small (sliceAt_in hb _ _) (by rw [sliceAt_len h0 (Int.le_of_lt hm0) h1]; omega)); (case hh => rfl); (case F => k_asm); (case N => k_asm); (case hy => exact rfl); (case' turn => intro k' t' a' ta' h' tk' own' hBd' k0' k1' off' F' N'); (case' done => intro u' t' h' tk' F' N'))))
  (k_with "binaryOp LShift int int" => (refine lshift_int_small (by decide) (by decide) (by omega) ?_))
  (k_with "InvEndN" => (k_dflt (refine InvEndN.intro (by assumption) (by assumption) ⟨rfl, ⟨_, rfl⟩, ?_⟩ (by rfl) ?_)))
  trivial
section
variable {loose : List Str} {mean : ExcName → Option Value} {mg mb : Str → Option Value}
theorem get_ok : ∀ (w : World) (b : Array UInt8) (tb : Tok) (ks : List Int) (at' many : Int) (ta tm : Tok), KBw.bInts b = ks → ks.length ≤ 2000 → 0 ≤ at' → 1 ≤ many → many ≤ 6 → at' + many ≤ (ks.length : Int) →
    Ok w loose mean mg mb 360 2880 (.ref 177) [.bytes b tb, .int at' ta, .int many tm] [] (RPost [] (IntIs (beVal (sliceAt ks at' many)))) := by
  intro w b tb ks at' many ta tm hb hlen h0 hm0 hm1 h1
  unfold Ok
  k_fill
  intro cn cs a ccd cl outer A₀ base h₀ L m s Q E B F X N T hk hret
  k_extra "MineWalk"
  · refine' leaveR (nw := []) ?F ?N ?_ ?h2 ?h3
    k_extra "MineLeaveR"
    exact hret _ _ _ _ ⟨[], rfl, List.forall_mem_nil _, rfl, _, rfl⟩ F9 N9 K9 Z9
end
-- calls taken apart
section
variable {w : World} {loose : List Str} {mean : ExcName → Option Value} {mg mb : Str → Option Value} {D U : Nat} {f : Value} {vs : List Value} {sub : Led}
  {A : Around} {cn : Str} {cs : Scope} {a : Addr} {ccd : Value} {cl : List (Str × Addr)} {outer : List Env} {A₀ : Around} {base h₀ : Heap} {L : Addr} {m : Str → Option Value} {s : Shared} {Q E : Value → Shared → Prop} {news : Led}
theorem Ok.useIn {r : Int} (C : Ok w loose mean mg mb D U f vs sub (RPost sub (IntIs r))) (hA : A.frames = some (envX cn cs L a ccd cl :: outer)) (hh : A.handled = none) (hd : A.depth ≤ D) (hu : A.units ≤ U)
    (B : Below A₀ base outer h₀) (F : Fr h₀ L s.heap m) (X : (KH w.params).In h₀) (N : News h₀ L s.heap news) (T : Top topProg loose mean mg mb h₀) (hk : cs.kind = .function) (hs : ∀ q ∈ sub, q ∈ news)
    (k : ∀ t h' tk', Fr h₀ L h' m → News h₀ L h' news → Q (.int r t) { s with heap := h', toks := tk' }) : wpAny (model rw0.prog w) A (call f vs) Q E s :=
  Ok.useR C hA hh hd hu B F X N T hk hs fun v nw h' tk' P F' N' D' => (by obtain ⟨rfl, t, rfl⟩ := P; exact k t h' tk' F' N')
end

-- part C9
-- an own exception whose __init__ is inherited from another own class
section
open Sem (wp)
variable {prog : Program} {w : World} {M : Model} {A : Around} {E : Value → Shared → Prop} {R : Result → Shared → Prop} {h : Heap} {g : Array GenState} {d : Drawn} {t : Nat} {os : OsState}
variable {nm q : Str} {C N : Addr} {bs bm bmB : List Value} {hdct : Bool} {sn : List Str} {sub : List Value} {ab : Bool} {col : Option Bool} {dd : Option Addr} {k0 k1 k2 k3 k5 : Option Value}
abbrev excObj (e t : Addr) (C : Addr) : Obj := { cls := .ref C, data := .fields #[.ref t, .none, .none, .none, .bool false, .none] }
structure TailOf (bm : List Value) : Prop where
  hasB : bm.contains (.type "Exception") = true
  noAttr : bm.contains (.type "AttributeError") = false
  noName : bm.contains (.type "NameError") = false
abbrev clsObj (nm q : Str) (C N : Addr) (bs bm : List Value) (hdct : Bool) (sn : List Str) (sub : List Value) (ab : Bool) (col : Option Bool) (dd : Option Addr) (k0 k1 k2 k3 k5 : Option Value) : Obj := excClassObj nm q C N bs bm hdct sn sub ab col dd k0 k1 k2 k3 k5 "Exception.__new__"
theorem own_check_new (T : TailOf bm) {rest : List Value} {Q : Unit → Shared → Prop} (hC : h.get? C = some (clsObj nm q C N bs bm hdct sn sub ab col dd k0 k1 k2 k3 k5))
    (hq : Q () ⟨h, g, d, t, os⟩) : wpAny M A (checkBuiltinCall "Exception.__new__" ⟨.ref C :: rest, []⟩) Q E ⟨h, g, d, t, os⟩ := by
  have F := PySem.F.excBase_Exception
  have hcont : (Value.ref C :: bm).contains (.type "Exception") = true := by rw [List.contains_cons, T.hasB, Bool.or_true]
  have hstar := F.noStar
  simp only [checkBuiltinCall, F.newKind, F.newSplit, F.newRow]
  repeat (first | refine wpAny_loadPart_at hC ?_ | (refine wpAny_isSubtype_exc hC ?_; rw [hcont]) | refine wpAny_staticBase_exc hC ?_ | refine wpAny_madeBy_exc hC ?_ | simp only [bne_self_eq_false, Bool.false_eq_true, if_false] | wp_step)
  exact hq
theorem own_new (T : TailOf bm) {rest : List Value} (hC : h.get? C = some (clsObj nm q C N bs bm hdct sn sub ab col dd k0 k1 k2 k3 k5))
    (hq : R (.ok (.ret (.ref (h.objs.size + 1)))) ⟨(h.push { cls := .type "tuple", data := .seq rest.toArray }).push (excObj (h.objs.size + 1) h.objs.size C), g, d, t, os⟩) (hrest : rest.length ≤ sizeLine) :
    codeAny (model prog w) A (.builtin "Exception.__new__" ⟨.ref C :: rest, []⟩) R ⟨h, g, d, t, os⟩ := by
  have F := PySem.F.excBase_Exception
  have hends := F.ends
  have hcB : (Value.ref C :: bm).contains (.type "Exception") = true := by rw [List.contains_cons, T.hasB, Bool.or_true]
  have hcA : (Value.ref C :: bm).contains (.type "AttributeError") = false := by rw [List.contains_cons, T.noAttr]; rfl
  have hcN : (Value.ref C :: bm).contains (.type "NameError") = false := by rw [List.contains_cons, T.noName]; rfl
  refine codeAny_builtinAt F.entry ?_
  unfold Builtin.«BaseException.__new__»
  refine PySem.wpAt_bind ?_
  show PySem.wpAt _ _ _ (stack >>= _) _ _ _
  refine PySem.wpAt_bind (PySem.wpAt_stack fun p below => PySem.wpAt_of_wpAny ?_)
  wp_walk
  refine PySem.wpAt_of_wpAny ?_
  rw [F.owner]
  repeat (first | with_reducible refine wpAny_madeHere_exc F.canon hC ?_ | with_reducible refine wpAny_loadPart_at hC ?_ | (with_reducible refine wpAny_isSubtype_exc hC ?_; first | rw [hcB] | rw [hcA] | rw [hcN]) | wp_step)
  show R _ _
  rw [Heap.size_push]
  exact hq
theorem own_type_call (T : TailOf bm) {rest : List Value} {fI : Addr} {oI : Obj} {Q : Fin → Shared → Prop}
    (hC : h.get? C = some (clsObj nm q C N bs bm hdct sn sub ab col dd k0 k1 k2 k3 k5)) (hl : Looks (model prog w) h (typeLookup (.ref C) "__init__") (some (.ref fI)))
    (hfI : h.get? fI = some oI) (hfc : oI.cls = .type "function")
    (hq : ∀ h' e, Heap.MadeExcOf h h' e (.ref C) rest →
      wpAny (model prog w) A (call (.ref fI) (.ref e :: rest)) (fun r s' => r = .none ∧ Q (.done (.ret (.ref e))) s') E ⟨h', g, d, t, os⟩) (hrest : rest.length ≤ sizeLine) :
    wpAny (model prog w) A (Builtin.«type.__call__» ⟨.ref C :: rest, []⟩) Q E ⟨h, g, d, t, os⟩ := by
  have F := PySem.F.excBase_Exception
  repeat (first | with_reducible refine wpAny_loadPart_at hC ?_ | with_reducible refine wpAny_madeBy_exc hC ?_ | wp_step)
  refine codeAny_call_builtin_code (Code.quiet_builtin _ F.quiet) (own_check_new T hC ?_)
  refine own_new T hC ?_ hrest
  show wpAny _ _ _ _ _ _
  have kp : ∀ b o, h.get? b = some o → ((h.push { cls := .type "tuple", data := .seq rest.toArray }).push (excObj (h.objs.size + 1) h.objs.size C)).get? b = some o :=
    fun b o e => Heap.get?_push_of_some _ (Heap.get?_push_of_some _ e)
  have hC₁ := kp _ _ hC
  have hfI₁ := kp _ _ hfI
  have hget : ((h.push { cls := .type "tuple", data := .seq rest.toArray }).push
      (excObj (h.objs.size + 1) h.objs.size C)).get? (h.objs.size + 1) = some
      (excObj (h.objs.size + 1) h.objs.size C) := by heap_get
  have hcC : (Value.ref C :: bm).contains (.ref C) = true := by simp
  unfold isInstance
  repeat (first | with_reducible refine wpAny_loadPart_at hget ?_ | (with_reducible refine wpAny_isSubtype_exc hC₁ ?_; rw [hcC]) | wp_step)
  show wpAny _ _ (typeLookup (.ref C) _) _ _ _
  refine hl _ _ _ _ kp ?_
  refine wpAny_holding (wpAny_bind ?_)
  unfold bindSpecial
  refine wpAny_bind (wpAny_typeOf (T := "function") ⟨_, hfI₁, hfc⟩ ?_)
  rw [if_pos (by decide)]
  refine wpAny_pure (wpAny_bind (wpAny_mono (hq _ (h.objs.size + 1) ⟨kp, Heap.get?_none_of_le (Nat.le_succ _), h.objs.size, hget, Heap.get?_none_of_le (Nat.le_refl _), ?_⟩) (fun r s' hr => ?_) fun _ _ x => x))
  · exact Heap.get?_push_of_some _ (Heap.get?_push_at rfl rfl)
  · obtain ⟨rfl, hQ⟩ := hr
    wp_walk
    exact hQ
theorem own_call (T : TailOf bm) {rest : List Value} {fI : Addr} {oI : Obj} {Q : Value → Shared → Prop}
    (hC : h.get? C = some (clsObj nm q C N bs bm hdct sn sub ab col dd k0 k1 k2 k3 k5)) (hl : Looks (model prog w) h (typeLookup (.ref C) "__init__") (some (.ref fI)))
    (hfI : h.get? fI = some oI) (hfc : oI.cls = .type "function")
    (hq : ∀ h' e, Heap.MadeExcOf h h' e (.ref C) rest →
      wpAny (model prog w) (A.under (.builtin "type.__call__" ⟨.ref C :: rest, []⟩)) (call (.ref fI) (.ref e :: rest)) (fun r s' => r = .none ∧ Q (.ref e) s') E ⟨h', g, d, t, os⟩) (hrest : rest.length ≤ sizeLine) :
    wpAny (model prog w) A (call (.ref C) rest) Q E ⟨h, g, d, t, os⟩ := by
  have f1 := tc_lookup
  have f2 := tc_bind (.ref C)
  have hT : (⟨h, g, d, t, os⟩ : Shared).TypeIs (.ref C) "type" := ⟨_, hC, rfl⟩
  refine wpAny_call (codeAny_of_tree ?_)
  show wpAny _ _ (callAny (.ref C) _) _ _ _
  repeat (any_goals (first | assumption | with_reducible refine wpAny_loadPart_at hC ?_ | wp_step))
  refine ⟨rfl, ?_⟩
  refine codeAny_call_builtin_at (Code.quiet_builtin _ (by decide +kernel)) entry_typeCall (wpAny_check_type_call_sub hC (own_type_call (hrest := hrest) T hC hl hfI hfc fun h' e hm => ?_))
  exact hq h' e hm
end

-- part CA
theorem meta_Exc : typeOf (.type "Exception") = pure (.type "type") := by kernel_rfl
section
open Sem (wp)
variable {prog : Program} {w : World} {M : Model} {A : Around} {E : Value → Shared → Prop} {h : Heap} {g : Array GenState} {d : Drawn} {t : Nat} {os : OsState}
variable {nm q : Str} {C N : Addr} {bs bm : List Value} {hdct : Bool} {sn : List Str} {sub : List Value} {ab : Bool} {col : Option Bool} {dd : Option Addr} {k0 k1 k2 k3 k5 : Option Value}
theorem own_check_init (T : TailOf bm) {e : Addr} {oe : Obj} {rest : List Value} {Q : Unit → Shared → Prop}
    (hC : h.get? C = some (clsObj nm q C N bs bm hdct sn sub ab col dd k0 k1 k2 k3 k5)) (he : h.get? e = some oe) (hcls : oe.cls = .ref C) (hq : Q () ⟨h, g, d, t, os⟩) :
    wpAny M A (checkBuiltinCall "Exception.__init__" ⟨.ref e :: rest, []⟩) Q E ⟨h, g, d, t, os⟩ := by
  have F := PySem.F.excBase_Exception
  have hcB : (Value.ref C :: bm).contains (.type "Exception") = true := by rw [List.contains_cons, T.hasB, Bool.or_true]
  have hshort := F.noStar
  simp only [checkBuiltinCall, F.initKind, F.initSplit, F.initRow]
  repeat (first | (with_reducible refine wpAny_loadPart_at he ?_; rw [hcls]) | with_reducible refine wpAny_loadPart_at hC ?_ | (with_reducible refine wpAny_isSubtype_exc hC ?_; rw [hcB]) | wp_step)
  refine wpAny_onRaise ?_
  rw [show ∀ (a b : String) (n : Nat), Bind.check ⟨.positional, "*", "Exception", .self, [⟨"args", .varPos, false⟩]⟩ a b n (List.map (fun x => x.fst) ({ pos := Value.ref e :: rest } : Args).kw) = pure () from
    fun a b n => check_star_args _ _ _ _ _ _]
  exact wpAny_pure hq
theorem own_init (T : TailOf bm) {e t₀ : Addr} {rest : List Value} {Q : Value → Shared → Prop}
    (hC : h.get? C = some (clsObj nm q C N bs bm hdct sn sub ab col dd k0 k1 k2 k3 k5)) (hget : h.get? e = some (excObj e t₀ C)) (hrest : rest.length ≤ sizeLine)
    (hq : ∀ h' tt, (∀ b o, b ∉ [e] → h.get? b = some o → h'.get? b = some o) → h'.get? e = some (excObj e tt C) → h.get? tt = none → h'.get? tt = some { cls := .type "tuple", data := .seq rest.toArray } → Q .none ⟨h', g, d, t, os⟩) :
    wpAny (model prog w) A (call (.builtin "Exception.__init__") (.ref e :: rest)) Q E ⟨h, g, d, t, os⟩ := by
  have F := PySem.F.excBase_Exception
  refine wpAny_call (codeAny_call_builtin F.init.plain F.initEntry (own_check_init T hC hget rfl ?_))
  wp_walk
  refine hq _ h.objs.size (fun b o hb e' => ?_) ?_ (Heap.get?_none_of_le (Nat.le_refl _)) ?_
  · rw [Heap.get?_update_other _ _ (Ne.symm (by simpa using hb))]
    exact Heap.get?_push_of_some _ e'
  · rw [Heap.get?_update_self _ (Heap.get?_push_of_some _ hget) rfl]
    rfl
  · rw [Heap.get?_update_other _ _ (Nat.ne_of_lt (Heap.lt_size hget))]
    exact Heap.get?_push_at rfl rfl
end
def excMro (C : Addr) : List Value := [.ref C, .ref 31, .type "Exception", .type "BaseException", .type "object"]
theorem refuse_exc (self : Value) (C : Addr) : refuseLoop self "__setattr__" (excMro C) = pure () := by
  unfold excMro
  rw [refuseLoop_ref, refuseLoop_ref]
  kernel_rfl
section
variable {prog : Program} {w : World} {A : Around} {s : Shared} {K : Frag} {x C : Addr} {R : Result → Shared → Prop}
theorem ose_open {ox : Obj} {od : Option Obj} {cd : ClassData} {name : Str} {tk : Tok} {v : Value} (X : K.In s.heap) (I : InstAt s.heap x ox C od) (hc : clsIn K C = some cd) (hm : cd.mro = excMro C) (ht : takerIn K C name = some none)
    (h : ∀ b, wpAny (model prog w) A.in1 (Builtin.ObjectAttr.storeInOwnDict (.ref x) (.ref C) (.str name tk) name v b)
      (fun fin s' => match fin with | .done f => R (.ok f) s' | .again c' => c'.quiet = true ∧ codeAny (model prog w) A c' R s') (fun e s' => R (.error e) s') s) :
    codeAny (model prog w) A (.call (.builtin "object.__setattr__") ⟨[.ref x, .str name tk, v], []⟩) R s := by
  have SF := PySem.F.store_object
  have ne : cd.mro.isEmpty = false := by rw [hm]; rfl
  have sub : Looks (model prog w) s.heap (isInstance (.ref x) (.type "object")) true := I.type.andThen (looks_mroIn X (by unfold mroIn; rw [hc, Option.bind_some, if_neg (by rw [ne]; decide), hm]; rfl))
  refine codeAny_call_builtin SF.slot.plain SF.entry (@check_slot (model prog w) _ _ s "object.__setattr__" "object" "__setattr__" (.ref x) [.str name tk, v] [] _ SF.kind SF.split sub (SF.args (.ref x) (.str name tk) v) ?_)
  obtain ⟨attr, ha, hr⟩ := Option.bind_eq_some_iff.mp ht
  have hmr : Looks (model prog w) s.heap (mroOf (.ref C)) cd.mro := (looks_clsIn X hc).andThen .now
  have L3 : Looks (model prog w) s.heap (Builtin.ObjectAttr.storeTaker? attr) none := by
    cases attr with
    | none => exact .now
    | some a =>
      obtain ⟨b, hb, hb2⟩ := Option.map_eq_some_iff.mp hr
      refine (looks_takesIn X hb).andThen ?_
      cases b
      · exact .now
      · cases hb2
  rw [osa_eq, refuse_eq]
  refine wpAny_bind (wpAny_bind (I.type.here (wpAny_bind (hmr.here ?_))))
  rw [hm, refuse_exc]
  refine wpAny_pure (wpAny_bind (I.type.here (wpAny_bind ((looks_findIn X ha).here (wpAny_bind (L3.here ?_))))))
  exact h _
end
section
variable {prog : Program} {w : World} {A : Around} {E : Value → Shared → Prop} {s : Shared} {K : Frag} {x C L : Addr} {h₀ : Heap} {m : Str → Option Value} {R : Result → Shared → Prop}
-- the first field of an exception: its dict is made
theorem osa_new {ox : Obj} {vsf : Array Value} {name : Str} {tk : Tok} {v : Value} {post : Led} (F : Fr h₀ L s.heap m) (N : News h₀ L s.heap ((x, ox) :: post)) (X : K.In s.heap)
    (I : InstAt s.heap x ox C none) (hdn : ox.dict = none) (hdat : ox.data = .fields vsf) {cd : ClassData} (hc : clsIn K C = some cd) (hm : cd.mro = excMro C) (ht : takerIn K C name = some none) (hd' : cd.hasDict = true) (h2 : ∀ p ∈ post, p.1 ≠ x)
    (h : ∀ h' D od', Fr h₀ L h' m → News h₀ L h' ((D, od') :: (x, { ox with dict := some D }) :: post) → @Ne Nat x D → R (.ok (.ret .none)) { s with heap := h', toks := s.toks + 1 }) :
    codeAny (model prog w) A (.call (.builtin "object.__setattr__") ⟨[.ref x, .str name tk, v], []⟩) R s := by
  refine ose_open X I hc hm ht fun b => ?_
  have l : ∀ p ∈ (x, ox) :: post, p.1 < s.heap.objs.size := fun p hp => Heap.lt_size (N p hp).1
  have N1 : News h₀ L (s.heap.push { cls := .type "dict", data := .dict #[] }) ((s.heap.objs.size, { cls := .type "dict", data := .dict #[] }) :: (x, ox) :: post) := News.push F N _ rfl
  have F1 : Fr h₀ L (s.heap.push { cls := .type "dict", data := .dict #[] }) m := F.push _
  have hxD : ∀ p ∈ (x, ox) :: post, p.1 ≠ s.heap.objs.size := fun p hp => Nat.ne_of_lt (l p hp)
  obtain ⟨U1, U2⟩ := news_upd (pre := [(s.heap.objs.size, { cls := .type "dict", data := .dict #[] })]) (post := post) (f := fun o => { o with dict := some s.heap.objs.size }) F1 N1
    (fun p hp => by rw [List.mem_singleton.mp hp]; exact Ne.symm (hxD _ (.head _))) h2 rfl (by obtain ⟨_, _, dd, _⟩ := ox; cases hdat; rfl)
  obtain ⟨V1, V2⟩ := news_upd (pre := []) (post := (x, { ox with dict := some s.heap.objs.size }) :: post) (f := Obj.putName name (PyData.keyHash w.params name) (.str name s.toks) v) U1 U2 (fun _ h => nomatch h)
    (fun p hp => by
      rcases List.mem_cons.mp hp with rfl | hp
      · exact hxD (x, ox) (.head _)
      · exact hxD _ (.tail _ hp)) rfl rfl
  have D := (U2 _ (.head _)).1
  have D' := (V2 _ (.head _)).1
  obtain ⟨hx, hcl, hn, -⟩ := I
  have hxp := Heap.get?_push_of_some { cls := .type "dict", data := .dict #[] } hx
  obtain ⟨oc, odi, oda, osl⟩ := ox
  dsimp only at hcl hdn hdat
  subst hcl hdn hdat
  refine wpAny_bind (wpAny_pure (wpAny_bind (wpAny_bind (wpAny_loadPart hx (wpAny_bind ((looks_clsIn X hc).here ?_))))))
  rw [hd']
  show wpAny _ _ (alloc { cls := .type "dict", data := .dict #[] } >>= fun d => update x (fun o => { o with dict := some d }) >>= fun _ => dictMade (.ref C) x d) _ _ _
  refine wpAny_bind (wpAny_alloc ?_)
  refine wpAny_bind (wpAny_update hxp ?_)
  refine wpAny_pure (a := some s.heap.objs.size) (wpAny_bind (wpAny_pure (wpAny_bind ?_)))
  unfold nsSet
  refine wpAny_bind (wpAny_bind (wpAny_askSetting (wpAny_pure (wpAny_bind (wpAny_mkText (wpAny_bind (wpAny_loadPart D ?_)))))))
  refine wpAny_updatePart D ?_
  refine wpAny_bind (wpAny_lookBehind D' (by exact pastItsLine_dict (by rw [sizeLine_eq]; exact Nat.le_of_ble_eq_true rfl)) ?_)
  exact wpAny_pure (h _ _ _ V1 V2 (hxD _ (.head _)))
end

-- part CB
theorem words0_CB : True := by
  k_with_none
  (k_with "MineEnter" => (refine wpAny_call ?_; k_dflt (refine' enterQ ?k1 ?k2 ?k3 ?k4 ?k5 ?kA ?kF ?kK ?k6 ?k7 ?k8 ?k9 ?kB ?_ ?c2 ?c3 ?c4 ?c5; (case kA => exact rfl); (case kF => exact rfl); (case kK => assumption); (case k1 => k_asm); (case k2 => k_asm); (case k3 => k_asm); (case k4 => k_asm); (case k5 => k_asm); (case k6 => k_is); (case k7 => k_is); (case k8 => ktr_room); (case k9 => first | exact BindsTo.of_eq rfl | exact binds_K (by k_in) rfl (by k_is) rfl rfl rfl); (case c5 => decide); (case kB => exact locs rfl); (case c2 => exact rfl); (case c3 => exact rfl); (case c4 => exact rfl)); intro g' L' h' tk' FG' F' N' B' X' T' hg' lL'; (try k_lt lL'); (try dsimp only); (try k_fold)))
  (k_with "MineEnterC" => (refine wpAny_call ?_; k_dflt (refine' enterQC ?k1 ?k2 ?k3 ?k4 ?k5 ?kA ?kF ?kK ?k6 ?k7 ?k8 ?k9 ?kB ?kD ?_ ?c2 ?c3 ?c4; (case kA => exact rfl); (case kF => exact rfl); (case kK => assumption); (case k1 => k_asm); (case k2 => k_asm); (case k3 => k_asm); (case k4 => k_asm); (case k5 => k_asm); (case k6 => k_is); (case k7 => k_is); (case k8 => ktr_room); (case k9 => first | exact BindsTo.of_eq rfl | exact binds_K (by k_in) rfl (by k_is) rfl rfl rfl); (case kB => exact rfl); (case kD => decide +kernel); (case c2 => exact rfl); (case c3 => exact rfl); (case c4 => exact rfl)); intro g' L' h' tk' cells' FG' F' N' Y' B' X' T' hg' lL'; (try k_lt lL'); k_cells Y'; (try simp only [List.cons_append, List.nil_append] at N'); (try dsimp only); (try k_fold)))
  (k_with "MineWalkC" => (k_extra "MineEnterC"; k_steps; all_goals (try dsimp only); all_goals (try (k_unfold; dsimp only))))
  (k_with "MineWalk" => (k_extra "MineEnter"; k_steps; all_goals (try dsimp only); all_goals (try (k_unfold; dsimp only))))
  (k_with "MineFresh" => first | exact List.forall_mem_nil _ | (refine' List.forall_mem_cons.mpr ⟨?fa, ?fb⟩; (case fa => (repeat (first | exact List.not_mem_nil | (refine' List.not_mem_cons_of_ne_of_not_mem ?fn ?_; (case fn => k_ne)))))); (case fb => k_extra "MineFresh"))
  (k_with "MineMem" => first | exact List.forall_mem_nil _ | (refine' List.forall_mem_cons.mpr ⟨?fa, ?fb⟩; (case fa => k_mem); (case fb => k_extra "MineMem")))
  (k_with "MineSide" => ((case kA => exact rfl); (case kh => exact rfl); (case kd => exact Nat.le_of_ble_eq_true rfl); (case ku => exact Nat.le_of_ble_eq_true rfl); (case kB => k_asm); (case kF => k_asm); (case kX => k_asm); (case kN => k_asm); (case kT => k_asm); (case kk => exact rfl)))
  (k_with "MineLed" => ((try simp only [List.nil_append, List.cons_append] at N'); (try (replace D' := allNe2_of D'; simp only [AllNe2, AllNe, and_true] at D'))))
  (k_with "MineLeaveW" => ((case F => k_asm); (case N => k_asm); (case h1 => k_mem); (case h2 => k_extra "MineMem"); (case h3 => k_extra "MineMem"); intro F9 N9 K9 Z9))
  (k_with "MineLeaveR" => ((case F => k_asm); (case N => k_asm); (case h2 => k_extra "MineMem"); (case h3 => k_extra "MineMem"); intro F9 N9 K9 Z9))
  (k_with "MineGetLen" => (exfalso; omega))
  (k_with "MinePut" => (first | exact Int.lt_of_lt_of_le (b := 256) (by omega) (by decide) | exact Int.lt_of_lt_of_le (b := 65536) (by omega) (by decide) | exact Int.lt_of_lt_of_le (b := 16777216) (by omega) (by decide) | exact Int.lt_of_lt_of_le (b := 281474976710656) (by omega) (by decide)))
  (k_with "MineBytes" => first | assumption | exact bI1 ⟨by omega, by omega⟩ | exact bI2 ⟨by omega, by omega⟩ ⟨by omega, by omega⟩ | exact zeros_ints _ | exact KBw.ints_list _)
  (k_with "MineAdd" => (k_here; (with_reducible show wpAny _ _ (binaryOp Operator.Add (Value.bytes _ _) (Value.bytes _ _)) _ _ _); (refine KBa.add_K (by k_extra "MineBytes") (by k_extra "MineBytes") (by first | (simp only [List.length_cons, List.length_nil, List.length_append, List.length_map, List.length_replicate, rangeInts_length]; omega) | omega | (simp only [List.length_cons, List.length_nil, List.length_append, List.length_map, List.length_replicate, sum_len]; omega)) ?_); intro t' k' hb'))
  (k_with "MinePutBad" => (intro h9; first | (have h8 := Int.lt_of_lt_of_le h9 (show (1 * 2 ^ ((8:Int) * 1).toNat : Int) ≤ 256 by decide); omega) | (have h8 := Int.lt_of_lt_of_le h9 (show (1 * 2 ^ ((8:Int) * 3).toNat : Int) ≤ 16777216 by decide); omega)))
  (k_with "MinePass" => ((rename RaisedS _ _ _ _ _ _ _ _ _ => rsX); k_dflt (refine' leave_onX (news := ?sub) ?K ?F ?hf rsX ?U ?hs ?_; (case sub => first | k_extra "MineSub" | exact []); (case K => k_asm); (case F => k_asm); (case hf => exact rfl); (case U => k_asm); (case hs => k_extra "MineMem"); intro h9 R9 U9)))
  (k_with "MineEnterS" => (refine wpAny_call ?_; k_dflt (refine' enterQS ?k1 ?k2 ?k3 ?k4 ?k5 ?k0 ?kA ?kF ?kK ?k6 ?k7 ?k8 ?k9 ?kB ?_ ?c2 ?c3 ?c4 ?c5; (case kA => exact rfl); (case kF => exact rfl); (case kK => assumption); (case k1 => k_asm); (case k2 => k_asm); (case k3 => k_asm); (case k4 => k_asm); (case k5 => k_asm); (case k0 => k_asm); (case k6 => k_is); (case k7 => k_is); (case k8 => ktr_room); (case k9 => first | exact BindsTo.of_eq rfl | exact binds_K (by k_in) rfl (by k_is) rfl rfl rfl); (case c5 => decide); (case kB => exact locs rfl); (case c2 => exact rfl); (case c3 => exact rfl); (case c4 => exact rfl)); intro g' L' h' tk' FG' F' N' B' X' T' D' hg' lL'; (try k_lt lL'); (try dsimp only); (try k_fold)))
  (k_with "MineEnterSC" => (refine wpAny_call ?_; k_dflt (refine' enterQSC ?k1 ?k2 ?k3 ?k4 ?k5 ?k0 ?kA ?kF ?kK ?k6 ?k7 ?k8 ?k9 ?kB ?kD ?_ ?c2 ?c3 ?c4; (case kA => exact rfl); (case kF => exact rfl); (case kK => assumption); (case k1 => k_asm); (case k2 => k_asm); (case k3 => k_asm); (case k4 => k_asm); (case k5 => k_asm); (case k0 => k_asm); (case k6 => k_is); (case k7 => k_is); (case k8 => ktr_room); (case k9 => first | exact BindsTo.of_eq rfl | exact binds_K (by k_in) rfl (by k_is) rfl rfl rfl); (case kB => exact rfl); (case kD => decide +kernel); (case c2 => exact rfl); (case c3 => exact rfl); (case c4 => exact rfl)); intro g' L' h' tk' cells' FG' F' N' Y' B' X' T' D' hg' lL'; (try k_lt lL'); k_cells Y'; (try simp only [List.cons_append, List.nil_append] at N'); (try dsimp only); (try k_fold)))
  (k_with "MineEnterL" => (refine wpAny_call ?_; k_dflt (refine' enterQL ?k1 ?k2 ?k3 ?k4 ?k5 ?kA ?kF ?kK ?ho ?hc ?hd ?hv ?k8 ?k9 ?kB ?_ ?c2 ?c3 ?c4 ?c5; (case kA => exact rfl); (case kF => exact rfl); (case kK => assumption); (case k1 => k_asm); (case k2 => k_asm); (case k3 => k_asm); (case k4 => k_asm); (case k5 => k_asm); (case ho => k_mem); (case hc => k_mem); (case hd => assumption); (case hv => assumption); (case k8 => ktr_room); (case k9 => exact rfl); (case c5 => decide); (case kB => exact locs rfl); (case c2 => exact rfl); (case c3 => exact rfl); (case c4 => exact rfl)); intro g' L' h' tk' FG' F' N' B' X' T' hg' lL'; (try k_lt lL'); (try dsimp only); (try k_fold)))
  (k_with "MineWalkL" => (k_extra "MineEnterL"; k_dflt (show wpAny _ _ (eval (Expr.Call _ _ _ _) _) _ _ _); k_steps; all_goals (try dsimp only); all_goals (try (k_unfold; dsimp only))))
  (k_with "MineWalkS" => (k_extra "MineEnterS"; k_steps; all_goals (try dsimp only); all_goals (try (k_unfold; dsimp only))))
  (k_with "MineSame" => first | exact SameL.nil | (refine' SameL.cons ?sa ?sb; (case sa => first | exact same_int _ _ _ | exact same_bytes _ _ _ | exact PySem.SeqAt.EqAt.same _); (case sb => k_extra "MineSame")))
  (k_with "MineNeT" => (k_here; (with_reducible show wpAny _ _ (compareOp CmpOp.NotEq (Value.ref _) (Value.ref _)) _ _ _); k_dflt (refine' ne_tups ?N ?ml ?mb ?cl ?dl ?cb ?db ?hu ?hs ?_; (case N => k_asm); (case ml => k_mem); (case mb => k_mem); (case cl => rfl); (case dl => rfl); (case cb => rfl); (case db => rfl); (case hu => ke_room); (case hs => k_extra "MineSame"))))
  (k_with "MineEqT" => (k_here; (with_reducible show wpAny _ _ (compareOp CmpOp.Eq (Value.ref _) (Value.ref _)) _ _ _); k_dflt (refine' eq_tups ?N ?ml ?mb ?cl ?dl ?cb ?db ?hu ?hs ?_; (case N => k_asm); (case ml => k_mem); (case mb => k_mem); (case cl => rfl); (case dl => rfl); (case cb => rfl); (case db => rfl); (case hu => ke_room); (case hs => k_extra "MineSame"))))
  (k_with "MineNew" => ((try dsimp only [AllNe] at D1'); (try dsimp only [AllNe] at D2'); (try dsimp only [AllNe] at D3')))
  (k_with "MineNe1" => (refine neN ?_; (try dsimp only); with_reducible first | assumption | (refine Ne.symm ?_; assumption) | exact Nat.ne_of_lt (by assumption) | exact Nat.ne_of_gt (by assumption) | exact Nat.ne_of_lt (by k_extra "MineLtS") | exact Nat.ne_of_gt (by k_extra "MineLtS") | k_extra "MineNe2"))
  (k_with "MineLtS" => first | assumption | exact Nat.lt_succ_self _ | (refine Nat.lt_succ_of_lt ?_; k_extra "MineLtS"))
  (k_with "MineNe2" => (rename _ ∧ _ => hc9; first | k_extra "MinePrj" | (clear hc9; k_extra "MineNe2")))
  (k_with "MinePrj" => first | exact hc9.1 | exact Ne.symm hc9.1 | exact Nat.ne_of_lt hc9.1 | exact Nat.ne_of_gt hc9.1 | exact hc9.2.1 | exact Ne.symm hc9.2.1 | exact Nat.ne_of_lt hc9.2.1 | exact Nat.ne_of_gt hc9.2.1 | exact hc9.2.2.1 | exact Ne.symm hc9.2.2.1 | exact Nat.ne_of_lt hc9.2.2.1 | exact Nat.ne_of_gt hc9.2.2.1 | exact hc9.2.2.2.1 | exact Ne.symm hc9.2.2.2.1 | exact Nat.ne_of_lt hc9.2.2.2.1 | exact Nat.ne_of_gt hc9.2.2.2.1 | exact hc9.2.2.2.2.1 | exact Ne.symm hc9.2.2.2.2.1 | exact Nat.ne_of_lt hc9.2.2.2.2.1 | exact Nat.ne_of_gt hc9.2.2.2.2.1 | exact hc9.2.2.2.2.2.1 | exact Ne.symm hc9.2.2.2.2.2.1 | exact Nat.ne_of_lt hc9.2.2.2.2.2.1 | exact Nat.ne_of_gt hc9.2.2.2.2.2.1 | exact hc9.2.2.2.2.2.2.1 | exact Ne.symm hc9.2.2.2.2.2.2.1 | exact Nat.ne_of_lt hc9.2.2.2.2.2.2.1 | exact Nat.ne_of_gt hc9.2.2.2.2.2.2.1 | exact hc9.2.2.2.2.2.2.2.1 | exact Ne.symm hc9.2.2.2.2.2.2.2.1 | exact Nat.ne_of_lt hc9.2.2.2.2.2.2.2.1 | exact Nat.ne_of_gt hc9.2.2.2.2.2.2.2.1 | exact hc9.2.2.2.2.2.2.2.2.1 | exact Ne.symm hc9.2.2.2.2.2.2.2.2.1 | exact Nat.ne_of_lt hc9.2.2.2.2.2.2.2.2.1 | exact Nat.ne_of_gt hc9.2.2.2.2.2.2.2.2.1 | exact hc9.2.2.2.2.2.2.2.2.2.1 | exact Ne.symm hc9.2.2.2.2.2.2.2.2.2.1 | exact Nat.ne_of_lt hc9.2.2.2.2.2.2.2.2.2.1 | exact Nat.ne_of_gt hc9.2.2.2.2.2.2.2.2.2.1 | exact hc9.2.2.2.2.2.2.2.2.2.2.1 | exact Ne.symm hc9.2.2.2.2.2.2.2.2.2.2.1 | exact Nat.ne_of_lt hc9.2.2.2.2.2.2.2.2.2.2.1 | exact Nat.ne_of_gt hc9.2.2.2.2.2.2.2.2.2.2.1 | exact hc9.2.2.2.2.2.2.2.2.2.2.2.1 | exact Ne.symm hc9.2.2.2.2.2.2.2.2.2.2.2.1 | exact Nat.ne_of_lt hc9.2.2.2.2.2.2.2.2.2.2.2.1 | exact Nat.ne_of_gt hc9.2.2.2.2.2.2.2.2.2.2.2.1 | exact hc9.2.2.2.2.2.2.2.2.2.2.2.2.1 | exact Ne.symm hc9.2.2.2.2.2.2.2.2.2.2.2.2.1 | exact Nat.ne_of_lt hc9.2.2.2.2.2.2.2.2.2.2.2.2.1 | exact Nat.ne_of_gt hc9.2.2.2.2.2.2.2.2.2.2.2.2.1 | exact hc9.2.2.2.2.2.2.2.2.2.2.2.2.2.1 | exact Ne.symm hc9.2.2.2.2.2.2.2.2.2.2.2.2.2.1 | exact Nat.ne_of_lt hc9.2.2.2.2.2.2.2.2.2.2.2.2.2.1 | exact Nat.ne_of_gt hc9.2.2.2.2.2.2.2.2.2.2.2.2.2.1 | exact hc9.2.2.2.2.2.2.2.2.2.2.2.2.2.2.1 | exact Ne.symm hc9.2.2.2.2.2.2.2.2.2.2.2.2.2.2.1 | exact Nat.ne_of_lt hc9.2.2.2.2.2.2.2.2.2.2.2.2.2.2.1 | exact Nat.ne_of_gt hc9.2.2.2.2.2.2.2.2.2.2.2.2.2.2.1 | exact hc9.2.2.2.2.2.2.2.2.2.2.2.2.2.2.2.1 | exact Ne.symm hc9.2.2.2.2.2.2.2.2.2.2.2.2.2.2.2.1 | exact Nat.ne_of_lt hc9.2.2.2.2.2.2.2.2.2.2.2.2.2.2.2.1 | exact Nat.ne_of_gt hc9.2.2.2.2.2.2.2.2.2.2.2.2.2.2.2.1)
  trivial
abbrev excObjD (t D C : Addr) : Obj := { cls := .ref C, dict := some D, data := .fields #[.ref t, .none, .none, .none, .bool false, .none] }
abbrev tup1 (v : Value) : Obj := { cls := .type "tuple", data := .seq #[v] }
section
variable {prog : Program} {w : World} {A : Around} {E : Value → Shared → Prop} {s : Shared} {K : Frag} {x C L e t₀ : Addr} {h₀ : Heap} {m : Str → Option Value}
variable {nm q : Str} {N : Addr} {bs bm : List Value} {hdct : Bool} {sn : List Str} {sub : List Value} {ab : Bool} {col : Option Bool} {dd : Option Addr} {k0 k1 k2 k3 k5 : Option Value}
theorem own_init_K (T : TailOf bm) {v : Value} {Q : Value → Shared → Prop} (F : Fr h₀ L s.heap m) (N₀ : News h₀ L s.heap [(e, excObj e t₀ C)])
    (hC : s.heap.get? C = some (clsObj nm q C N bs bm hdct sn sub ab col dd k0 k1 k2 k3 k5))
    (h : ∀ h' tt, Fr h₀ L h' m → News h₀ L h' [(e, excObj e tt C), (tt, tup1 v)] → @Ne Nat e tt → Q .none { s with heap := h' }) :
    wpAny (model prog w) A (call (.builtin "Exception.__init__") [.ref e, v]) Q E s := by
  have he := N₀ _ (.head _)
  refine own_init T hC he.1 (by rw [sizeLine_eq]; exact Nat.le_of_ble_eq_true rfl) fun h' tt hk he' htn htt => ?_
  have hne : e ≠ tt := fun z => by rw [← z, he.1] at htn; cases htn
  have hnL : tt ≠ L := fun z => by
    obtain ⟨o, es, ep, hL, _⟩ := F.ns
    rw [z, hL] at htn; cases htn
  refine h h' tt (LCg.fr_but F hk (Ne.symm he.2.1) he.2.2) (fun p hp => ?_) hne
  rcases List.mem_cons.mp hp with rfl | hp
  · exact ⟨he', he.2⟩
  · rw [List.mem_singleton.mp hp]
    refine ⟨htt, hnL, ?_⟩
    cases z : h₀.get? tt with
    | none => rfl
    | some o => rw [F.keep _ _ z] at htn; cases htn
theorem set_new {ox : Obj} {vsf : Array Value} {name : Str} {v : Value} {post : Led} {Q : Unit → Shared → Prop} (F : Fr h₀ L s.heap m) (X₀ : K.In h₀) (N : News h₀ L s.heap ((x, ox) :: post))
    (hcl : ox.cls = .ref C) (hdn : ox.dict = none) (hdat : ox.data = .fields vsf)
    (hs : findIn K (.ref C) "__setattr__" = some (some (.builtin "object.__setattr__"))) {cd : ClassData} (hc : clsIn K C = some cd) (hm : cd.mro = excMro C) (ht : takerIn K C name = some none) (hd' : cd.hasDict = true) (h2 : ∀ p ∈ post, p.1 ≠ x)
    (h : ∀ h' D od', Fr h₀ L h' m → News h₀ L h' ((x, { ox with dict := some D }) :: (D, od') :: post) → @Ne Nat x D → Q () { s with heap := h', toks := s.toks + 2 }) :
    wpAny (model prog w) A (setAttr (.ref x) name v) Q E s := by
  have I : InstAt s.heap x ox C none := ⟨(N _ (.head _)).1, hcl, by obtain ⟨_, _, dd, _⟩ := ox; cases hdat; rfl, by rw [hdn]; trivial⟩
  refine set_plain (X₀.keeps F.keep) I hs (osa_new (s := { s with toks := s.toks + 1 }) F N (X₀.keeps F.keep) I hdn hdat hc hm ht hd' h2 fun h' D od' F' N' hne => h h' D od' F' (fun p hp => ?_) hne)
  rcases List.mem_cons.mp hp with rfl | hp
  · exact N' _ (.tail _ (.head _))
  · rcases List.mem_cons.mp hp with rfl | hp
    · exact N' _ (.head _)
    · exact N' _ (.tail _ (.tail _ hp))
end
theorem tail_own : TailOf [.ref 31, .type "Exception", .type "BaseException", .type "object"] := ⟨by decide, by decide, by decide⟩
local macro_rules | `(tactic| walk_at "getMethod type:Exception") => `(tactic| k_extra "getMethod type:Exception")
local macro_rules | `(tactic| walk_at "call builtin:Exception.__init__") => `(tactic| k_extra "call builtin:Exception.__init__")
local macro_rules | `(tactic| walk_at "setAttr ref") => `(tactic| k_extra "setAttr ref")
theorem wordsB : True := by
  (k_with "getMethod type:Exception" => (k_here; k_dflt (refine' method_type ?F ?X ?m (by decide +kernel) ?e ?h ?_; (case F => k_asm); (case X => k_asm); (case m => exact meta_Exc); (case e => k_is); (case h => k_handed))))
  (k_with "call builtin:Exception.__init__" => (k_dflt (refine' own_init_K tail_own ?F ?N ?C ?_; (case F => k_asm); (case N => k_asm); (case C => exact (by assumption : Frag.In _ _).keeps (Fr.keep (by assumption)) _ _ hC9); intro h' tt' F' N' ne')))
  (k_with "setAttr ref" => (k_dflt (refine' set_new ?F ?X ?N ?a ?b ?c ?d ?e ?e2 ?f ?g ?h ?_; (case F => k_asm); (case X => k_asm); (case N => k_asm); (case a => rfl); (case b => rfl); (case c => rfl); (case d => exact hs9); (case e => exact hc9); (case e2 => exact hm9); (case f => exact ht9); (case g => exact hd9); (case h => k_all); intro h' D' od' F' N' ne9')))
  trivial
def InitPost (C : Addr) (v x : Value) (o' : Obj) (nw : Led) : Prop := v = .none ∧ ∃ t D od, o' = excObjD t D C ∧ nw = [(D, od), (t, tup1 x)]
structure ExcCls (K : Frag) (C : Addr) : Prop where
  obj : ∃ nm q N bs hdct sn sub ab col dd k0 k1 k2 k3 k5, K.lookup C = some (clsObj nm q C N bs [.ref 31, .type "Exception", .type "BaseException", .type "object"] hdct sn sub ab col dd k0 k1 k2 k3 k5)
  set : findIn K (.ref C) "__setattr__" = some (some (.builtin "object.__setattr__"))
  taker : takerIn K C (Str.ofString "message") = some none
  cls : ∃ cd, clsIn K C = some cd ∧ cd.mro = excMro C ∧ cd.hasDict = true
  init : findIn K (.ref C) "__init__" = some (some (.ref 28))
theorem form_cls (P : Params) : ExcCls (KH P) 44 := ⟨⟨_, _, _, _, _, _, _, _, _, _, _, _, _, _, _, rfl⟩, (by kernel_rfl), (by kernel_rfl), ⟨_, rfl, rfl, rfl⟩, (by kernel_rfl)⟩
theorem size_cls (P : Params) : ExcCls (KH P) 56 := ⟨⟨_, _, _, _, _, _, _, _, _, _, _, _, _, _, _, rfl⟩, (by kernel_rfl), (by kernel_rfl), ⟨_, rfl, rfl, rfl⟩, (by kernel_rfl)⟩
section
variable {loose : List Str} {mean : ExcName → Option Value} {mg mb : Str → Option Value}
theorem init_ok : ∀ (w : World) (e t C : Addr) (msg : Str) (tm : Tok), ExcCls (KH w.params) C →
    Ok w loose mean mg mb 400 3200 (.ref 28) [.ref e, .str msg tm] [(e, excObj e t C)] (WPost e [] (fun v o' nw => InitPost C v (.str msg tm) o' nw)) := by
  intro w e t C msg tm hX
  obtain ⟨nm, q, N9, bs, hdct, sn, sub9, ab, col, dd, k0, k1, k2, k3, k5, hC9⟩ := hX.obj
  obtain ⟨cd9, hc9, hm9, hd9⟩ := hX.cls
  have hs9 := hX.set
  have ht9 := hX.taker
  unfold Ok
  k_fill
  intro cn cs a ccd cl outer A₀ base h₀ L m s Q E B F X N T hk hret
  k_extra "MineWalk"
  · refine' leaveW (o' := excObjD tt' D' C) (nw := [(D', od'), (tt', tup1 (.str msg tm))]) ?F ?N ?_ ?h1 ?h2 ?h3
    k_extra "MineLeaveW"
    refine' hret _ _ _ _ ⟨_, _, rfl, ?_, rfl, _, _, _, rfl, rfl⟩ F9 N9 K9 Z9
    k_extra "MineFresh"
end

-- part CC
def OwnRaised (K : Frag) (E : Value → Shared → Prop) (v : Value) (s₁ : Shared) : Prop := ∃ C e t D, ExcCls K C ∧ K.In s₁.heap ∧ v = .ref e ∧ s₁.heap.get? e = some (excObjD t D C) ∧ E (.ref e) s₁
section
variable {prog : Program} {w : World} {M : Model} {A : Around} {E : Value → Shared → Prop} {s : Shared} {env : Env} {K : Frag}
theorem own_raiseStmt {x : Sem Value} {Q : Flow → Shared → Prop} (hh : A.handled = none) (h : wpAny M A x (fun v s₁ => OwnRaised K E v s₁) E s) :
    wpAny M A (raiseStmt env (some x) none) Q E s := by
  unfold raiseStmt
  refine wpAny_bind (wpAny_mono h (fun v s₁ h₁ => ?_) fun _ _ x => x)
  obtain ⟨C, e, t9, D9, hX, X, rfl, he, hE⟩ := h₁
  obtain ⟨nm, q, N9, bs, hdct, sn, sub9, ab, col, dd, k0, k1, k2, k3, k5, hC9⟩ := hX.obj
  have hC := X _ _ hC9
  obtain ⟨hp, g, d, tk, os⟩ := s₁
  have hcB : (Value.ref C :: [.ref 31, .type "Exception", .type "BaseException", .type "object"]).contains (.type "BaseException") = true := by simp
  repeat (first | with_reducible refine wpAny_loadPart_at he ?_ | with_reducible refine wpAny_loadPart_at hC ?_ | (with_reducible refine wpAny_isSubtype_exc hC ?_; rw [hcB]) | wp_step)
  exact wpAny_raiseNew_none hh hE
theorem own_Raise {x : Expr} {pos : Pos} {Q : Flow → Shared → Prop} (hh : A.handled = none) (h : wpAny M A (eval x env) (fun v s₁ => OwnRaised K E v s₁) E s) :
    wpAny M A (exec (.Raise (some x) none pos) env) Q E s := by
  rw [arm_exec_Raise]
  refine wpAny_bind (wpAny_standAt (own_raiseStmt (K := K) hh ?_))
  exact wpAny_bind (wpAny_mono h (fun v s₁ h₁ => wpAny_bind (wpAny_standAt (wpAny_pure h₁))) fun _ _ e => e)
end
def ExcPost (C : Addr) (v : Value) (nw : Led) : Prop := ∃ e t D od x, v = .ref e ∧ nw = [(e, excObjD t D C), (D, od), (t, tup1 x)]
section
variable {loose : List Str} {mean : ExcName → Option Value} {mg mb : Str → Option Value}
theorem exc_call_ok : ∀ (w : World) (C : Addr) (msg : Str) (tm : Tok), ExcCls (KH w.params) C →
    Ok w loose mean mg mb 395 3160 (.ref C) [.str msg tm] [] (RPost [] (ExcPost C)) := by
  intro w C msg tm hX
  obtain ⟨nm, q, N9, bs, hdct, sn, sub9, ab, col, dd, k0, k1, k2, k3, k5, hC9⟩ := hX.obj
  intro cn cs a ccd cl outer A₀ base h₀ L m s Q E B F X N T hk hret
  obtain ⟨hp, g, d, tk, os⟩ := s
  have X' := X.keeps F.keep
  refine own_call tail_own (X' _ _ hC9) (looks_findIn X' hX.init) (X' 28 _ rfl) rfl (fun h' e hm => ?_) (by rw [sizeLine_eq]; exact Nat.le_of_ble_eq_true rfl)
  obtain ⟨t, he, htn, ht⟩ := hm.there
  have heL : e ≠ L := fun z => by
    obtain ⟨o, es, ep, hL, _⟩ := F.ns
    have := hm.new
    rw [z, hL] at this; cases this
  have he0 : h₀.get? e = none := by
    cases z : h₀.get? e with
    | none => rfl
    | some o => have := F.keep _ _ z; rw [hm.new] at this; cases this
  have F1 : Fr h₀ L h' m := F.keptAll hm.keeps
  have N1 : News h₀ L h' [(e, excObj e t C)] := fun p hp => by
    rw [List.mem_singleton.mp hp]
    exact ⟨he, heL, he0⟩
  refine wpAny_wider (A' := ktrTop 400 3200 none cn cs L a ccd cl outer) (init_ok w e t C msg tm hX cn cs a ccd cl outer A₀ base h₀ L m ⟨h', g, d, tk, os⟩ _ _ B F1 X N1 T hk fun v sub' h2 tk2 P F2 N2 K2 Z2 => ?_) rfl (Nat.le_of_ble_eq_true rfl) rfl rfl (Nat.le_of_ble_eq_true rfl)
  obtain ⟨o', nw, rfl, _, rfl, t2, D, od, rfl, rfl⟩ := P
  have hnone : ∀ b, h'.get? b = none → hp.get? b = none := fun b hb => by
    cases z : hp.get? b with
    | none => rfl
    | some o => have := hm.keeps _ _ z; rw [hb] at this; cases this
  refine ⟨rfl, hret _ _ _ _ ⟨[(e, excObjD t2 D C), (D, od), (t2, tup1 (.str msg tm))], rfl, fun q hq h => (by cases h), _, _, _, _, _, rfl, rfl⟩ F2 (fun p hp => N2 p hp) (fun b o hb hn => ?_) (fun p hp9 => .inr ?_)⟩
  · refine K2 b o (hm.keeps _ _ hb) fun h => ?_
    rw [List.mem_singleton.mp h] at hb
    exact absurd (hm.new.symm.trans hb) (fun z => by cases z)
  · rcases Z2 p hp9 with h | h
    · rw [List.mem_singleton.mp h]; exact hm.new
    · exact hnone _ h
end
-- calls taken apart
section
variable {w : World} {loose : List Str} {mean : ExcName → Option Value} {mg mb : Str → Option Value} {D U : Nat} {f : Value} {vs : List Value} {sub : Led}
  {A : Around} {cn : Str} {cs : Scope} {a : Addr} {ccd : Value} {cl : List (Str × Addr)} {outer : List Env} {A₀ : Around} {base h₀ : Heap} {L : Addr} {m : Str → Option Value} {s : Shared} {Q E : Value → Shared → Prop} {news : Led}
theorem Ok.useExc {C₀ : Addr} (C : Ok w loose mean mg mb D U f vs sub (RPost sub (ExcPost C₀))) (hA : A.frames = some (envX cn cs L a ccd cl :: outer)) (hh : A.handled = none) (hd : A.depth ≤ D) (hu : A.units ≤ U)
    (B : Below A₀ base outer h₀) (F : Fr h₀ L s.heap m) (X : (KH w.params).In h₀) (N : News h₀ L s.heap news) (T : Top topProg loose mean mg mb h₀) (hk : cs.kind = .function) (hs : ∀ q ∈ sub, q ∈ news)
    (k : ∀ e t d od x h' tk', AllNe e news → AllNe d news → AllNe t news → Fr h₀ L h' m → News h₀ L h' ((e, excObjD t d C₀) :: (d, od) :: (t, tup1 x) :: news) → Q (.ref e) { s with heap := h', toks := tk' }) : wpAny (model rw0.prog w) A (call f vs) Q E s :=
  Ok.useR C hA hh hd hu B F X N T hk hs fun v nw h' tk' P F' N' D' => (by obtain ⟨e, t, d, od, x, rfl, rfl⟩ := P; exact k e t d od x h' tk' (allNe_of (D' _ (.head _))) (allNe_of (D' _ (.tail _ (.head _)))) (allNe_of (D' _ (.tail _ (.tail _ (.head _))))) F' N')
end

-- part CD
section
variable {M : Model} {A : Around} {E : Value → Shared → Prop} {s' : Shared} {base g g₂ : Heap} {outer : List Env} {L e t : Addr} {m : Str → Option Value} {env : Env} {Q : Unit → Shared → Prop} {news sub : Led}
theorem kts_memX {b : Addr} (hf : env.frame = some L) (hm : b ∈ (env :: outer).filterMap (·.frame)) : b = L ∨ b ∈ outer.filterMap (·.frame) := by
  obtain ⟨env', he, hf'⟩ := List.mem_filterMap.mp hm
  rcases List.mem_cons.mp he with rfl | he
  · rw [hf] at hf'; exact .inl (Option.some.inj hf').symm
  · exact .inr (List.mem_filterMap.mpr ⟨env', he, hf'⟩)
theorem leave_first {D C : Addr} {x : Value} (K : Below A base outer g) (F : Fr g L s'.heap m) (hf : env.frame = some L) (hke : env.scope.kind = .function) (N : News g L s'.heap news)
    (he : (e, excObjD t D C) ∈ news) (ht : (t, tup1 x) ∈ news) (hs : ∀ q ∈ sub, q ∈ news ∧ @Ne Nat q.1 e ∧ @Ne Nat q.1 t)
    (hQ : ∀ h', RaisedS base g outer e (.ref C) t [x] sub h' → g.UpToSlots h' → Q () { s' with heap := h' }) :
    wpAny M (A.deeper env) (leaving env (.ref e)) Q E s' := by
  have K' := pushX K F hf hke
  have hHe := N _ he
  have hHt := N _ ht
  have hin : ∀ env' ∈ (env :: outer), ∀ b, env'.frame = some b → b ∈ (env :: outer).filterMap (·.frame) ++ [e, t] := fun env' he b hb => List.mem_append_left _ (List.mem_filterMap.mpr ⟨env', he, hb⟩)
  have nmf : ∀ b o, g.get? b = some o → b ∉ outer.filterMap (·.frame) → b ∉ (env :: outer).filterMap (·.frame) ++ [e, t] := fun b o q nm hm => by
    rcases List.mem_append.mp hm with hm | hm
    · rcases kts_memX hf hm with z | z
      · rw [z, kts_self F] at q; cases q
      · exact nm z
    · rcases List.mem_cons.mp hm with z | hm
      · rw [z, hHe.2.2] at q; cases q
      · rw [List.mem_singleton.mp hm, hHt.2.2] at q; cases q
  have st : base.StaysIn (hideAll s'.heap ((env :: outer).filterMap (·.frame) ++ [e, t])) := fun b o q => hideAll_get _ (K'.stays b o q) fun hm => by
    rcases List.mem_append.mp hm with hm | hm
    · rw [(K'.frames.mem hm).1] at q; cases q
    · have qg := K.stays b o q
      rcases List.mem_cons.mp hm with z | hm
      · rw [z, hHe.2.2] at qg; cases qg
      · rw [List.mem_singleton.mp hm, hHt.2.2] at qg; cases qg
  have sg : ∀ b o, g.get? b = some o → b ∉ outer.filterMap (·.frame) → (hideAll s'.heap ((env :: outer).filterMap (·.frame) ++ [e, t])).get? b = some o := fun b o q nm => hideAll_get _ (F.keep b o q) (nmf b o q nm)
  have hl : ∀ q ∈ sub, (hideAll s'.heap ((env :: outer).filterMap (·.frame) ++ [e, t])).get? q.1 = some q.2 ∧ g.get? q.1 = none ∧ base.get? q.1 = none := fun q hq => by
    obtain ⟨hq, hqe, hqt⟩ := hs q hq
    refine ⟨hideAll_get _ (N q hq).1 fun hm => ?_, (N q hq).2.2, fresh_of_stays K.stays (N q hq).2.2⟩
    rcases List.mem_append.mp hm with hm | hm
    · rcases kts_memX hf hm with z | z
      · exact (N q hq).2.1 z
      · obtain ⟨o, ho, _⟩ := (K.frames.mem z).2
        rw [(N q hq).2.2] at ho; cases ho
    · rcases List.mem_cons.mp hm with z | hm
      · exact hqe z
      · exact hqt (List.mem_singleton.mp hm)
  have hne : ∀ b, b ∈ [e, t] → (hideAll s'.heap ((env :: outer).filterMap (·.frame) ++ [e, t])).get? b = none := fun b hb => hideAll_none _ (List.mem_append_right _ hb)
  refine wpAny_leaving_firstW (base := hideAll s'.heap ((env :: outer).filterMap (·.frame) ++ [e, t])) (a0 := .ref t) (Around.frames_deeper K.stack) (funFrames_hide K'.frames hin) hf hHe.1 (fun b o q => of_hideAll _ q) (hne e (.head _)) rfl rfl rfl fun h' hL => ?_
  obtain ⟨k1, ⟨_, _, k2⟩, k3, k4⟩ := hL
  exact hQ h' ⟨⟨_, st, sg, hl, ⟨k1, hne e (.head _), k2, k3⟩, hne t (.tail _ (.head _))⟩, Heap.TupAt.of_slots ⟨_, _, hHt.1, rfl, rfl⟩ k4⟩ ((Heap.UpToSlots.of_keeps F.keep).trans k4)
theorem leave_onX {cls : Value} {vs : List Value} (K : Below A base outer g) (F : Fr g L g₂ m) (hf : env.frame = some L) (R : RaisedS base g₂ (env :: outer) e cls t vs sub s'.heap) (hsm : g₂.UpToSlots s'.heap) (hs : ∀ q ∈ news, q ∈ sub)
    (hQ : ∀ h', RaisedS base g outer e cls t vs news h' → g.UpToSlots h' → Q () { s' with heap := h' }) :
    wpAny M (A.deeper env) (leaving env (.ref e)) Q E s' := by
  obtain ⟨⟨B, hB, hBG, hl, hfl, hnew⟩, htup⟩ := R
  exact wpAny_leaves_onW (Around.frames_deeper K.stack) hf hfl fun h' x1 x2 =>
    hQ h' ⟨⟨B, hB, fun b o q nm => hBG b o (F.keep b o q) (fun hm => by
      rcases kts_memX hf hm with z | z
      · rw [z, kts_self F] at q
        cases q
      · exact nm z), fun q hq => ⟨(hl q (hs q hq)).1, kts_none F.keep (hl q (hs q hq)).2.1, (hl q (hs q hq)).2.2⟩, x1, hnew⟩, htup.of_slots x2⟩ ((Heap.UpToSlots.of_keeps F.keep).trans (hsm.trans x2))
end

-- part CE
section
variable (w : World) (loose : List Str) (mean : ExcName → Option Value) (mg mb : Str → Option Value)
-- a call that raises an own exception of class C, whatever it does on the way; what stands in 'sub' stays
def Bad (D U : Nat) (f : Value) (vs : List Value) (sub : Led) (C : Addr) : Prop :=
  ∀ (cn : Str) (cs : Scope) (a : Addr) (ccd : Value) (cl : List (Str × Addr)) (outer : List Env) (A₀ : Around) (base h₀ : Heap) (L : Addr) (m : Str → Option Value) (s : Shared) (Q E : Value → Shared → Prop),
    Below A₀ base outer h₀ → Fr h₀ L s.heap m → (KH w.params).In h₀ → News h₀ L s.heap sub → Top topProg loose mean mg mb h₀ → cs.kind = .function →
    (∀ e t x h' tk', RaisedS base (hideAll s.heap (sub.map (·.1))) (envX cn cs L a ccd cl :: outer) e (.ref C) t x sub h' → (hideAll s.heap (sub.map (·.1))).UpToSlots h' → E (.ref e) { s with heap := h', toks := tk' }) →
    wpAny (model rw0.prog w) (ktrTop D U none cn cs L a ccd cl outer) (call f vs) Q E s
end
section
variable {w : World} {loose : List Str} {mean : ExcName → Option Value} {mg mb : Str → Option Value} {D U : Nat} {f : Value} {vs : List Value} {sub : Led} {C : Addr}
  {A : Around} {cn : Str} {cs : Scope} {a : Addr} {ccd : Value} {cl : List (Str × Addr)} {outer : List Env} {A₀ : Around} {base h₀ : Heap} {L : Addr} {m : Str → Option Value} {s : Shared} {Q E : Value → Shared → Prop} {news : Led}
theorem Bad.use (H : Bad w loose mean mg mb D U f vs sub C) (hA : A.frames = some (envX cn cs L a ccd cl :: outer)) (hh : A.handled = none) (hd : A.depth ≤ D) (hu : A.units ≤ U)
    (B : Below A₀ base outer h₀) (F : Fr h₀ L s.heap m) (X : (KH w.params).In h₀) (N : News h₀ L s.heap news) (T : Top topProg loose mean mg mb h₀) (hk : cs.kind = .function)
    (hs : ∀ q ∈ sub, q ∈ news)
    (k : ∀ e t x h' tk' G, Fr h₀ L G m → RaisedS base G (envX cn cs L a ccd cl :: outer) e (.ref C) t x news h' → G.UpToSlots h' → E (.ref e) { s with heap := h', toks := tk' }) :
    wpAny (model rw0.prog w) A (call f vs) Q E s := by
  obtain ⟨FG, _, _, _⟩ := groundX (A := ktrTop D U none cn cs L a ccd cl outer) (R := fun _ _ => True) B F N rfl rfl hk
  refine wpAny_wider (A' := ktrTop D U none cn cs L a ccd cl outer) (H cn cs a ccd cl outer A₀ base h₀ L m s Q E B F X (fun q hq => N q (hs q hq)) T hk fun e t x h' tk' R Us => k e t x h' tk' _ FG ?_ ?_) hh.symm hd hA.symm rfl hu
  · have sub_of : ∀ b o, (hideAll s.heap (news.map (·.1))).get? b = some o → (hideAll s.heap (sub.map (·.1))).get? b = some o := fun b o e' => by
      refine hideAll_get _ (of_hideAll _ e') fun hm => ?_
      obtain ⟨q, hq, rfl⟩ := List.mem_map.mp hm
      rw [hideAll_none _ (List.mem_map_of_mem (hs q hq))] at e'
      cases e'
    obtain ⟨⟨B', hB, hBG, hl, hfl, hnew⟩, htup⟩ := R
    refine ⟨⟨B', hB, fun b o e' nm => hBG b o (sub_of b o e') nm, fun q hq => ⟨?_, hideAll_none _ (List.mem_map_of_mem hq), fresh_of_stays B.stays (N q hq).2.2⟩, hfl, hnew⟩, htup⟩
    by_cases hm : q.1 ∈ sub.map (·.1)
    · obtain ⟨r, hr, e'⟩ := List.mem_map.mp hm
      have h1 := (N r (hs r hr)).1
      have h2 := (hl r hr).1
      rw [e'] at h1 h2
      rw [h2, ← h1]
      exact (N q hq).1
    · refine hBG q.1 q.2 (hideAll_get _ (N q hq).1 hm) fun hf => ?_
      rcases kts_memX (L := L) rfl hf with z | z
      · exact (N q hq).2.1 z
      · obtain ⟨o, ho, _⟩ := (B.frames.mem z).2
        rw [(N q hq).2.2] at ho; cases ho
  · intro b o e'
    refine Us b o (hideAll_get _ (of_hideAll _ e') fun hm => ?_)
    obtain ⟨q, hq, rfl⟩ := List.mem_map.mp hm
    rw [hideAll_none _ (List.mem_map_of_mem (hs q hq))] at e'
    cases e'
end

-- part CF
theorem words0_CF : True := by
  k_with_none
  (k_with "MineEnter" => (refine wpAny_call ?_; k_dflt (refine' enterQ ?k1 ?k2 ?k3 ?k4 ?k5 ?kA ?kF ?kK ?k6 ?k7 ?k8 ?k9 ?kB ?_ ?c2 ?c3 ?c4 ?c5; (case kA => exact rfl); (case kF => exact rfl); (case kK => assumption); (case k1 => k_asm); (case k2 => k_asm); (case k3 => k_asm); (case k4 => k_asm); (case k5 => k_asm); (case k6 => k_is); (case k7 => k_is); (case k8 => ktr_room); (case k9 => first | exact BindsTo.of_eq rfl | exact binds_K (by k_in) rfl (by k_is) rfl rfl rfl); (case c5 => decide); (case kB => exact locs rfl); (case c2 => exact rfl); (case c3 => exact rfl); (case c4 => exact rfl)); intro g' L' h' tk' FG' F' N' B' X' T' hg' lL'; (try k_lt lL'); (try dsimp only); (try k_fold)))
  (k_with "MineEnterC" => (refine wpAny_call ?_; k_dflt (refine' enterQC ?k1 ?k2 ?k3 ?k4 ?k5 ?kA ?kF ?kK ?k6 ?k7 ?k8 ?k9 ?kB ?kD ?_ ?c2 ?c3 ?c4; (case kA => exact rfl); (case kF => exact rfl); (case kK => assumption); (case k1 => k_asm); (case k2 => k_asm); (case k3 => k_asm); (case k4 => k_asm); (case k5 => k_asm); (case k6 => k_is); (case k7 => k_is); (case k8 => ktr_room); (case k9 => first | exact BindsTo.of_eq rfl | exact binds_K (by k_in) rfl (by k_is) rfl rfl rfl); (case kB => exact rfl); (case kD => decide +kernel); (case c2 => exact rfl); (case c3 => exact rfl); (case c4 => exact rfl)); intro g' L' h' tk' cells' FG' F' N' Y' B' X' T' hg' lL'; (try k_lt lL'); k_cells Y'; (try simp only [List.cons_append, List.nil_append] at N'); (try dsimp only); (try k_fold)))
  (k_with "MineWalkC" => (k_extra "MineEnterC"; k_steps; all_goals (try dsimp only); all_goals (try (k_unfold; dsimp only))))
  (k_with "MineWalk" => (k_extra "MineEnter"; k_steps; all_goals (try dsimp only); all_goals (try (k_unfold; dsimp only))))
  (k_with "MineFresh" => first | exact List.forall_mem_nil _ | (refine' List.forall_mem_cons.mpr ⟨?fa, ?fb⟩; (case fa => (repeat (first | exact List.not_mem_nil | (refine' List.not_mem_cons_of_ne_of_not_mem ?fn ?_; (case fn => k_ne)))))); (case fb => k_extra "MineFresh"))
  (k_with "MineMem" => first | exact List.forall_mem_nil _ | (refine' List.forall_mem_cons.mpr ⟨?fa, ?fb⟩; (case fa => k_mem); (case fb => k_extra "MineMem")))
  (k_with "MineSide" => ((case kA => exact rfl); (case kh => exact rfl); (case kd => exact Nat.le_of_ble_eq_true rfl); (case ku => exact Nat.le_of_ble_eq_true rfl); (case kB => k_asm); (case kF => k_asm); (case kX => k_asm); (case kN => k_asm); (case kT => k_asm); (case kk => exact rfl)))
  (k_with "MineLed" => ((try simp only [List.nil_append, List.cons_append] at N'); (try (replace D' := allNe2_of D'; simp only [AllNe2, AllNe, and_true] at D'))))
  (k_with "MineLeaveW" => ((case F => k_asm); (case N => k_asm); (case h1 => k_mem); (case h2 => k_extra "MineMem"); (case h3 => k_extra "MineMem"); intro F9 N9 K9 Z9))
  (k_with "MineLeaveR" => ((case F => k_asm); (case N => k_asm); (case h2 => k_extra "MineMem"); (case h3 => k_extra "MineMem"); intro F9 N9 K9 Z9))
  (k_with "MineGetLen" => (exfalso; omega))
  (k_with "MinePut" => (first | exact Int.lt_of_lt_of_le (b := 256) (by omega) (by decide) | exact Int.lt_of_lt_of_le (b := 65536) (by omega) (by decide) | exact Int.lt_of_lt_of_le (b := 16777216) (by omega) (by decide) | exact Int.lt_of_lt_of_le (b := 281474976710656) (by omega) (by decide)))
  (k_with "MineBytes" => first | assumption | exact bI1 ⟨by omega, by omega⟩ | exact bI2 ⟨by omega, by omega⟩ ⟨by omega, by omega⟩ | exact zeros_ints _ | exact KBw.ints_list _)
  (k_with "MineAdd" => (k_here; (with_reducible show wpAny _ _ (binaryOp Operator.Add (Value.bytes _ _) (Value.bytes _ _)) _ _ _); (refine KBa.add_K (by k_extra "MineBytes") (by k_extra "MineBytes") (by first | (simp only [List.length_cons, List.length_nil, List.length_append, List.length_map, List.length_replicate, rangeInts_length]; omega) | omega | (simp only [List.length_cons, List.length_nil, List.length_append, List.length_map, List.length_replicate, sum_len]; omega)) ?_); intro t' k' hb'))
  (k_with "MinePutBad" => (intro h9; first | (have h8 := Int.lt_of_lt_of_le h9 (show (1 * 2 ^ ((8:Int) * 1).toNat : Int) ≤ 256 by decide); omega) | (have h8 := Int.lt_of_lt_of_le h9 (show (1 * 2 ^ ((8:Int) * 3).toNat : Int) ≤ 16777216 by decide); omega)))
  (k_with "MinePass" => ((rename RaisedS _ _ _ _ _ _ _ _ _ => rsX); k_dflt (refine' leave_onX (news := ?sub) ?K ?F ?hf rsX ?U ?hs ?_; (case sub => first | k_extra "MineSub" | exact []); (case K => k_asm); (case F => k_asm); (case hf => exact rfl); (case U => k_asm); (case hs => k_extra "MineMem"); intro h9 R9 U9)))
  (k_with "MineEnterS" => (refine wpAny_call ?_; k_dflt (refine' enterQS ?k1 ?k2 ?k3 ?k4 ?k5 ?k0 ?kA ?kF ?kK ?k6 ?k7 ?k8 ?k9 ?kB ?_ ?c2 ?c3 ?c4 ?c5; (case kA => exact rfl); (case kF => exact rfl); (case kK => assumption); (case k1 => k_asm); (case k2 => k_asm); (case k3 => k_asm); (case k4 => k_asm); (case k5 => k_asm); (case k0 => k_asm); (case k6 => k_is); (case k7 => k_is); (case k8 => ktr_room); (case k9 => first | exact BindsTo.of_eq rfl | exact binds_K (by k_in) rfl (by k_is) rfl rfl rfl); (case c5 => decide); (case kB => exact locs rfl); (case c2 => exact rfl); (case c3 => exact rfl); (case c4 => exact rfl)); intro g' L' h' tk' FG' F' N' B' X' T' D' hg' lL'; (try k_lt lL'); (try dsimp only); (try k_fold)))
  (k_with "MineEnterSC" => (refine wpAny_call ?_; k_dflt (refine' enterQSC ?k1 ?k2 ?k3 ?k4 ?k5 ?k0 ?kA ?kF ?kK ?k6 ?k7 ?k8 ?k9 ?kB ?kD ?_ ?c2 ?c3 ?c4; (case kA => exact rfl); (case kF => exact rfl); (case kK => assumption); (case k1 => k_asm); (case k2 => k_asm); (case k3 => k_asm); (case k4 => k_asm); (case k5 => k_asm); (case k0 => k_asm); (case k6 => k_is); (case k7 => k_is); (case k8 => ktr_room); (case k9 => first | exact BindsTo.of_eq rfl | exact binds_K (by k_in) rfl (by k_is) rfl rfl rfl); (case kB => exact rfl); (case kD => decide +kernel); (case c2 => exact rfl); (case c3 => exact rfl); (case c4 => exact rfl)); intro g' L' h' tk' cells' FG' F' N' Y' B' X' T' D' hg' lL'; (try k_lt lL'); k_cells Y'; (try simp only [List.cons_append, List.nil_append] at N'); (try dsimp only); (try k_fold)))
  (k_with "MineEnterL" => (refine wpAny_call ?_; k_dflt (refine' enterQL ?k1 ?k2 ?k3 ?k4 ?k5 ?kA ?kF ?kK ?ho ?hc ?hd ?hv ?k8 ?k9 ?kB ?_ ?c2 ?c3 ?c4 ?c5; (case kA => exact rfl); (case kF => exact rfl); (case kK => assumption); (case k1 => k_asm); (case k2 => k_asm); (case k3 => k_asm); (case k4 => k_asm); (case k5 => k_asm); (case ho => k_mem); (case hc => k_mem); (case hd => assumption); (case hv => assumption); (case k8 => ktr_room); (case k9 => exact rfl); (case c5 => decide); (case kB => exact locs rfl); (case c2 => exact rfl); (case c3 => exact rfl); (case c4 => exact rfl)); intro g' L' h' tk' FG' F' N' B' X' T' hg' lL'; (try k_lt lL'); (try dsimp only); (try k_fold)))
  (k_with "MineWalkL" => (k_extra "MineEnterL"; k_dflt (show wpAny _ _ (eval (Expr.Call _ _ _ _) _) _ _ _); k_steps; all_goals (try dsimp only); all_goals (try (k_unfold; dsimp only))))
  (k_with "MineWalkS" => (k_extra "MineEnterS"; k_steps; all_goals (try dsimp only); all_goals (try (k_unfold; dsimp only))))
  (k_with "MineSame" => first | exact SameL.nil | (refine' SameL.cons ?sa ?sb; (case sa => first | exact same_int _ _ _ | exact same_bytes _ _ _ | exact PySem.SeqAt.EqAt.same _); (case sb => k_extra "MineSame")))
  (k_with "MineNeT" => (k_here; (with_reducible show wpAny _ _ (compareOp CmpOp.NotEq (Value.ref _) (Value.ref _)) _ _ _); k_dflt (refine' ne_tups ?N ?ml ?mb ?cl ?dl ?cb ?db ?hu ?hs ?_; (case N => k_asm); (case ml => k_mem); (case mb => k_mem); (case cl => rfl); (case dl => rfl); (case cb => rfl); (case db => rfl); (case hu => ke_room); (case hs => k_extra "MineSame"))))
  (k_with "MineEqT" => (k_here; (with_reducible show wpAny _ _ (compareOp CmpOp.Eq (Value.ref _) (Value.ref _)) _ _ _); k_dflt (refine' eq_tups ?N ?ml ?mb ?cl ?dl ?cb ?db ?hu ?hs ?_; (case N => k_asm); (case ml => k_mem); (case mb => k_mem); (case cl => rfl); (case dl => rfl); (case cb => rfl); (case db => rfl); (case hu => ke_room); (case hs => k_extra "MineSame"))))
  (k_with "MineNew" => ((try dsimp only [AllNe] at D1'); (try dsimp only [AllNe] at D2'); (try dsimp only [AllNe] at D3')))
  (k_with "MineNe1" => (refine neN ?_; (try dsimp only); with_reducible first | assumption | (refine Ne.symm ?_; assumption) | exact Nat.ne_of_lt (by assumption) | exact Nat.ne_of_gt (by assumption) | exact Nat.ne_of_lt (by k_extra "MineLtS") | exact Nat.ne_of_gt (by k_extra "MineLtS") | k_extra "MineNe2"))
  (k_with "MineLtS" => first | assumption | exact Nat.lt_succ_self _ | (refine Nat.lt_succ_of_lt ?_; k_extra "MineLtS"))
  (k_with "MineNe2" => (rename _ ∧ _ => hc9; first | k_extra "MinePrj" | (clear hc9; k_extra "MineNe2")))
  (k_with "MinePrj" => first | exact hc9.1 | exact Ne.symm hc9.1 | exact Nat.ne_of_lt hc9.1 | exact Nat.ne_of_gt hc9.1 | exact hc9.2.1 | exact Ne.symm hc9.2.1 | exact Nat.ne_of_lt hc9.2.1 | exact Nat.ne_of_gt hc9.2.1 | exact hc9.2.2.1 | exact Ne.symm hc9.2.2.1 | exact Nat.ne_of_lt hc9.2.2.1 | exact Nat.ne_of_gt hc9.2.2.1 | exact hc9.2.2.2.1 | exact Ne.symm hc9.2.2.2.1 | exact Nat.ne_of_lt hc9.2.2.2.1 | exact Nat.ne_of_gt hc9.2.2.2.1 | exact hc9.2.2.2.2.1 | exact Ne.symm hc9.2.2.2.2.1 | exact Nat.ne_of_lt hc9.2.2.2.2.1 | exact Nat.ne_of_gt hc9.2.2.2.2.1 | exact hc9.2.2.2.2.2.1 | exact Ne.symm hc9.2.2.2.2.2.1 | exact Nat.ne_of_lt hc9.2.2.2.2.2.1 | exact Nat.ne_of_gt hc9.2.2.2.2.2.1 | exact hc9.2.2.2.2.2.2.1 | exact Ne.symm hc9.2.2.2.2.2.2.1 | exact Nat.ne_of_lt hc9.2.2.2.2.2.2.1 | exact Nat.ne_of_gt hc9.2.2.2.2.2.2.1 | exact hc9.2.2.2.2.2.2.2.1 | exact Ne.symm hc9.2.2.2.2.2.2.2.1 | exact Nat.ne_of_lt hc9.2.2.2.2.2.2.2.1 | exact Nat.ne_of_gt hc9.2.2.2.2.2.2.2.1 | exact hc9.2.2.2.2.2.2.2.2.1 | exact Ne.symm hc9.2.2.2.2.2.2.2.2.1 | exact Nat.ne_of_lt hc9.2.2.2.2.2.2.2.2.1 | exact Nat.ne_of_gt hc9.2.2.2.2.2.2.2.2.1 | exact hc9.2.2.2.2.2.2.2.2.2.1 | exact Ne.symm hc9.2.2.2.2.2.2.2.2.2.1 | exact Nat.ne_of_lt hc9.2.2.2.2.2.2.2.2.2.1 | exact Nat.ne_of_gt hc9.2.2.2.2.2.2.2.2.2.1 | exact hc9.2.2.2.2.2.2.2.2.2.2.1 | exact Ne.symm hc9.2.2.2.2.2.2.2.2.2.2.1 | exact Nat.ne_of_lt hc9.2.2.2.2.2.2.2.2.2.2.1 | exact Nat.ne_of_gt hc9.2.2.2.2.2.2.2.2.2.2.1 | exact hc9.2.2.2.2.2.2.2.2.2.2.2.1 | exact Ne.symm hc9.2.2.2.2.2.2.2.2.2.2.2.1 | exact Nat.ne_of_lt hc9.2.2.2.2.2.2.2.2.2.2.2.1 | exact Nat.ne_of_gt hc9.2.2.2.2.2.2.2.2.2.2.2.1 | exact hc9.2.2.2.2.2.2.2.2.2.2.2.2.1 | exact Ne.symm hc9.2.2.2.2.2.2.2.2.2.2.2.2.1 | exact Nat.ne_of_lt hc9.2.2.2.2.2.2.2.2.2.2.2.2.1 | exact Nat.ne_of_gt hc9.2.2.2.2.2.2.2.2.2.2.2.2.1 | exact hc9.2.2.2.2.2.2.2.2.2.2.2.2.2.1 | exact Ne.symm hc9.2.2.2.2.2.2.2.2.2.2.2.2.2.1 | exact Nat.ne_of_lt hc9.2.2.2.2.2.2.2.2.2.2.2.2.2.1 | exact Nat.ne_of_gt hc9.2.2.2.2.2.2.2.2.2.2.2.2.2.1 | exact hc9.2.2.2.2.2.2.2.2.2.2.2.2.2.2.1 | exact Ne.symm hc9.2.2.2.2.2.2.2.2.2.2.2.2.2.2.1 | exact Nat.ne_of_lt hc9.2.2.2.2.2.2.2.2.2.2.2.2.2.2.1 | exact Nat.ne_of_gt hc9.2.2.2.2.2.2.2.2.2.2.2.2.2.2.1 | exact hc9.2.2.2.2.2.2.2.2.2.2.2.2.2.2.2.1 | exact Ne.symm hc9.2.2.2.2.2.2.2.2.2.2.2.2.2.2.2.1 | exact Nat.ne_of_lt hc9.2.2.2.2.2.2.2.2.2.2.2.2.2.2.2.1 | exact Nat.ne_of_gt hc9.2.2.2.2.2.2.2.2.2.2.2.2.2.2.2.1)
  trivial
theorem wordsBad_CF : True := by
  (k_with "call ref" => (k_here; (with_reducible show wpAny _ _ (call (Value.ref 44) _) _ _ _); k_dflt (refine' Ok.useR (exc_call_ok _ _ _ _ (form_cls _)) ?kA ?kh ?kd ?ku ?kB ?kF ?kX ?kN ?kT ?kk ?ks ?_; k_extra "MineSide"; (case ks => k_extra "MineMem"); rintro _ _ h' tk' ⟨eX', tX', DX', odX', xX', rfl, rfl⟩ F' N' D'; k_extra "MineLed")))
  (k_with "call ref" => (k_here; (with_reducible show wpAny _ _ (call (Value.ref 56) _) _ _ _); k_dflt (refine' Ok.useR (exc_call_ok _ _ _ _ (size_cls _)) ?kA ?kh ?kd ?ku ?kB ?kF ?kX ?kN ?kT ?kk ?ks ?_; k_extra "MineSide"; (case ks => k_extra "MineMem"); rintro _ _ h' tk' ⟨eX', tX', DX', odX', xX', rfl, rfl⟩ F' N' D'; k_extra "MineLed")))
  (k_with "exec Raise some none" => (k_dflt (refine own_Raise (K := KH w.params) rfl ?_)))
  (k_with "OwnRaised" => (k_dflt (refine' ⟨_, _, _, _, ?c, ?X, rfl, ?he, ?_⟩; (case he => exact (‹News _ _ _ _› _ (.head _)).1); (case c => first | exact form_cls _ | exact size_cls _); (case X => exact (‹Frag.In _ _›).keeps (Fr.keep (by k_asm))))))
  (k_with "leaving ref" => (k_dflt (refine' leave_first (sub := ?sub) ?K ?F rfl rfl ?N ?he ?ht ?hs ?_; (case sub => first | k_extra "MineSub" | exact []); (case K => k_asm); (case F => k_asm); (case N => k_asm); (case he => k_mem); (case ht => k_mem); (case hs => k_extra "MineApart"); intro h9 R9 U9)))
  (k_with "MineApart" => first | exact List.forall_mem_nil _ | (refine' List.forall_mem_cons.mpr ⟨⟨?fa, ?fc, ?fd⟩, ?fb⟩; (case fa => k_mem); (case fc => k_ne); (case fd => k_ne); (case fb => k_extra "MineApart")))
  trivial
local macro_rules | `(tactic| walk_at "OwnRaised") => `(tactic| k_extra "OwnRaised")
section
variable {loose : List Str} {mean : ExcName → Option Value} {mg mb : Str → Option Value}
theorem put_bad : ∀ (w : World) (n many : Int) (tn tm : Tok), 1 ≤ many → many ≤ 6 → 0 ≤ n → ¬ n < 1 * 2 ^ (8 * many).toNat →
    Bad w loose mean mg mb 360 2880 (.ref 170) [.int n tn, .int many tm] [] 56 := by
  intro w n many tn tm hm0 hm1 h0 h1
  unfold Bad
  k_fill
  intro cn cs a ccd cl outer A₀ base h₀ L m s Q E B F X N T hk hret
  k_extra "MineWalkC"
  · subst hg'
    exact hret _ _ _ _ _ R9 U9
end

-- part CG
theorem words0_CG : True := by
  k_with_none
  (k_with "MineEnter" => (refine wpAny_call ?_; k_dflt (refine' enterQ ?k1 ?k2 ?k3 ?k4 ?k5 ?kA ?kF ?kK ?k6 ?k7 ?k8 ?k9 ?kB ?_ ?c2 ?c3 ?c4 ?c5; (case kA => exact rfl); (case kF => exact rfl); (case kK => assumption); (case k1 => k_asm); (case k2 => k_asm); (case k3 => k_asm); (case k4 => k_asm); (case k5 => k_asm); (case k6 => k_is); (case k7 => k_is); (case k8 => ktr_room); (case k9 => first | exact BindsTo.of_eq rfl | exact binds_K (by k_in) rfl (by k_is) rfl rfl rfl); (case c5 => decide); (case kB => exact locs rfl); (case c2 => exact rfl); (case c3 => exact rfl); (case c4 => exact rfl)); intro g' L' h' tk' FG' F' N' B' X' T' hg' lL'; (try k_lt lL'); (try dsimp only); (try k_fold)))
  (k_with "MineEnterC" => (refine wpAny_call ?_; k_dflt (refine' enterQC ?k1 ?k2 ?k3 ?k4 ?k5 ?kA ?kF ?kK ?k6 ?k7 ?k8 ?k9 ?kB ?kD ?_ ?c2 ?c3 ?c4; (case kA => exact rfl); (case kF => exact rfl); (case kK => assumption); (case k1 => k_asm); (case k2 => k_asm); (case k3 => k_asm); (case k4 => k_asm); (case k5 => k_asm); (case k6 => k_is); (case k7 => k_is); (case k8 => ktr_room); (case k9 => first | exact BindsTo.of_eq rfl | exact binds_K (by k_in) rfl (by k_is) rfl rfl rfl); (case kB => exact rfl); (case kD => decide +kernel); (case c2 => exact rfl); (case c3 => exact rfl); (case c4 => exact rfl)); intro g' L' h' tk' cells' FG' F' N' Y' B' X' T' hg' lL'; (try k_lt lL'); k_cells Y'; (try simp only [List.cons_append, List.nil_append] at N'); (try dsimp only); (try k_fold)))
  (k_with "MineWalkC" => (k_extra "MineEnterC"; k_steps; all_goals (try dsimp only); all_goals (try (k_unfold; dsimp only))))
  (k_with "MineWalk" => (k_extra "MineEnter"; k_steps; all_goals (try dsimp only); all_goals (try (k_unfold; dsimp only))))
  (k_with "MineFresh" => first | exact List.forall_mem_nil _ | (refine' List.forall_mem_cons.mpr ⟨?fa, ?fb⟩; (case fa => (repeat (first | exact List.not_mem_nil | (refine' List.not_mem_cons_of_ne_of_not_mem ?fn ?_; (case fn => k_ne)))))); (case fb => k_extra "MineFresh"))
  (k_with "MineMem" => first | exact List.forall_mem_nil _ | (refine' List.forall_mem_cons.mpr ⟨?fa, ?fb⟩; (case fa => k_mem); (case fb => k_extra "MineMem")))
  (k_with "MineSide" => ((case kA => exact rfl); (case kh => exact rfl); (case kd => exact Nat.le_of_ble_eq_true rfl); (case ku => exact Nat.le_of_ble_eq_true rfl); (case kB => k_asm); (case kF => k_asm); (case kX => k_asm); (case kN => k_asm); (case kT => k_asm); (case kk => exact rfl)))
  (k_with "MineLed" => ((try simp only [List.nil_append, List.cons_append] at N'); (try (replace D' := allNe2_of D'; simp only [AllNe2, AllNe, and_true] at D'))))
  (k_with "MineLeaveW" => ((case F => k_asm); (case N => k_asm); (case h1 => k_mem); (case h2 => k_extra "MineMem"); (case h3 => k_extra "MineMem"); intro F9 N9 K9 Z9))
  (k_with "MineLeaveR" => ((case F => k_asm); (case N => k_asm); (case h2 => k_extra "MineMem"); (case h3 => k_extra "MineMem"); intro F9 N9 K9 Z9))
  (k_with "MineGetLen" => (exfalso; omega))
  (k_with "MinePut" => (first | exact Int.lt_of_lt_of_le (b := 256) (by omega) (by decide) | exact Int.lt_of_lt_of_le (b := 65536) (by omega) (by decide) | exact Int.lt_of_lt_of_le (b := 16777216) (by omega) (by decide) | exact Int.lt_of_lt_of_le (b := 281474976710656) (by omega) (by decide)))
  (k_with "MineBytes" => first | assumption | exact bI1 ⟨by omega, by omega⟩ | exact bI2 ⟨by omega, by omega⟩ ⟨by omega, by omega⟩ | exact zeros_ints _ | exact KBw.ints_list _)
  (k_with "MineAdd" => (k_here; (with_reducible show wpAny _ _ (binaryOp Operator.Add (Value.bytes _ _) (Value.bytes _ _)) _ _ _); (refine KBa.add_K (by k_extra "MineBytes") (by k_extra "MineBytes") (by first | (simp only [List.length_cons, List.length_nil, List.length_append, List.length_map, List.length_replicate, rangeInts_length]; omega) | omega | (simp only [List.length_cons, List.length_nil, List.length_append, List.length_map, List.length_replicate, sum_len]; omega)) ?_); intro t' k' hb'))
  (k_with "MinePutBad" => (intro h9; first | (have h8 := Int.lt_of_lt_of_le h9 (show (1 * 2 ^ ((8:Int) * 1).toNat : Int) ≤ 256 by decide); omega) | (have h8 := Int.lt_of_lt_of_le h9 (show (1 * 2 ^ ((8:Int) * 3).toNat : Int) ≤ 16777216 by decide); omega)))
  (k_with "MinePass" => ((rename RaisedS _ _ _ _ _ _ _ _ _ => rsX); k_dflt (refine' leave_onX (news := ?sub) ?K ?F ?hf rsX ?U ?hs ?_; (case sub => first | k_extra "MineSub" | exact []); (case K => k_asm); (case F => k_asm); (case hf => exact rfl); (case U => k_asm); (case hs => k_extra "MineMem"); intro h9 R9 U9)))
  (k_with "MineEnterS" => (refine wpAny_call ?_; k_dflt (refine' enterQS ?k1 ?k2 ?k3 ?k4 ?k5 ?k0 ?kA ?kF ?kK ?k6 ?k7 ?k8 ?k9 ?kB ?_ ?c2 ?c3 ?c4 ?c5; (case kA => exact rfl); (case kF => exact rfl); (case kK => assumption); (case k1 => k_asm); (case k2 => k_asm); (case k3 => k_asm); (case k4 => k_asm); (case k5 => k_asm); (case k0 => k_asm); (case k6 => k_is); (case k7 => k_is); (case k8 => ktr_room); (case k9 => first | exact BindsTo.of_eq rfl | exact binds_K (by k_in) rfl (by k_is) rfl rfl rfl); (case c5 => decide); (case kB => exact locs rfl); (case c2 => exact rfl); (case c3 => exact rfl); (case c4 => exact rfl)); intro g' L' h' tk' FG' F' N' B' X' T' D' hg' lL'; (try k_lt lL'); (try dsimp only); (try k_fold)))
  (k_with "MineEnterSC" => (refine wpAny_call ?_; k_dflt (refine' enterQSC ?k1 ?k2 ?k3 ?k4 ?k5 ?k0 ?kA ?kF ?kK ?k6 ?k7 ?k8 ?k9 ?kB ?kD ?_ ?c2 ?c3 ?c4; (case kA => exact rfl); (case kF => exact rfl); (case kK => assumption); (case k1 => k_asm); (case k2 => k_asm); (case k3 => k_asm); (case k4 => k_asm); (case k5 => k_asm); (case k0 => k_asm); (case k6 => k_is); (case k7 => k_is); (case k8 => ktr_room); (case k9 => first | exact BindsTo.of_eq rfl | exact binds_K (by k_in) rfl (by k_is) rfl rfl rfl); (case kB => exact rfl); (case kD => decide +kernel); (case c2 => exact rfl); (case c3 => exact rfl); (case c4 => exact rfl)); intro g' L' h' tk' cells' FG' F' N' Y' B' X' T' D' hg' lL'; (try k_lt lL'); k_cells Y'; (try simp only [List.cons_append, List.nil_append] at N'); (try dsimp only); (try k_fold)))
  (k_with "MineEnterL" => (refine wpAny_call ?_; k_dflt (refine' enterQL ?k1 ?k2 ?k3 ?k4 ?k5 ?kA ?kF ?kK ?ho ?hc ?hd ?hv ?k8 ?k9 ?kB ?_ ?c2 ?c3 ?c4 ?c5; (case kA => exact rfl); (case kF => exact rfl); (case kK => assumption); (case k1 => k_asm); (case k2 => k_asm); (case k3 => k_asm); (case k4 => k_asm); (case k5 => k_asm); (case ho => k_mem); (case hc => k_mem); (case hd => assumption); (case hv => assumption); (case k8 => ktr_room); (case k9 => exact rfl); (case c5 => decide); (case kB => exact locs rfl); (case c2 => exact rfl); (case c3 => exact rfl); (case c4 => exact rfl)); intro g' L' h' tk' FG' F' N' B' X' T' hg' lL'; (try k_lt lL'); (try dsimp only); (try k_fold)))
  (k_with "MineWalkL" => (k_extra "MineEnterL"; k_dflt (show wpAny _ _ (eval (Expr.Call _ _ _ _) _) _ _ _); k_steps; all_goals (try dsimp only); all_goals (try (k_unfold; dsimp only))))
  (k_with "MineWalkS" => (k_extra "MineEnterS"; k_steps; all_goals (try dsimp only); all_goals (try (k_unfold; dsimp only))))
  (k_with "MineSame" => first | exact SameL.nil | (refine' SameL.cons ?sa ?sb; (case sa => first | exact same_int _ _ _ | exact same_bytes _ _ _ | exact PySem.SeqAt.EqAt.same _); (case sb => k_extra "MineSame")))
  (k_with "MineNeT" => (k_here; (with_reducible show wpAny _ _ (compareOp CmpOp.NotEq (Value.ref _) (Value.ref _)) _ _ _); k_dflt (refine' ne_tups ?N ?ml ?mb ?cl ?dl ?cb ?db ?hu ?hs ?_; (case N => k_asm); (case ml => k_mem); (case mb => k_mem); (case cl => rfl); (case dl => rfl); (case cb => rfl); (case db => rfl); (case hu => ke_room); (case hs => k_extra "MineSame"))))
  (k_with "MineEqT" => (k_here; (with_reducible show wpAny _ _ (compareOp CmpOp.Eq (Value.ref _) (Value.ref _)) _ _ _); k_dflt (refine' eq_tups ?N ?ml ?mb ?cl ?dl ?cb ?db ?hu ?hs ?_; (case N => k_asm); (case ml => k_mem); (case mb => k_mem); (case cl => rfl); (case dl => rfl); (case cb => rfl); (case db => rfl); (case hu => ke_room); (case hs => k_extra "MineSame"))))
  (k_with "MineNew" => ((try dsimp only [AllNe] at D1'); (try dsimp only [AllNe] at D2'); (try dsimp only [AllNe] at D3')))
  (k_with "MineNe1" => (refine neN ?_; (try dsimp only); with_reducible first | assumption | (refine Ne.symm ?_; assumption) | exact Nat.ne_of_lt (by assumption) | exact Nat.ne_of_gt (by assumption) | exact Nat.ne_of_lt (by k_extra "MineLtS") | exact Nat.ne_of_gt (by k_extra "MineLtS") | k_extra "MineNe2"))
  (k_with "MineLtS" => first | assumption | exact Nat.lt_succ_self _ | (refine Nat.lt_succ_of_lt ?_; k_extra "MineLtS"))
  (k_with "MineNe2" => (rename _ ∧ _ => hc9; first | k_extra "MinePrj" | (clear hc9; k_extra "MineNe2")))
  (k_with "MinePrj" => first | exact hc9.1 | exact Ne.symm hc9.1 | exact Nat.ne_of_lt hc9.1 | exact Nat.ne_of_gt hc9.1 | exact hc9.2.1 | exact Ne.symm hc9.2.1 | exact Nat.ne_of_lt hc9.2.1 | exact Nat.ne_of_gt hc9.2.1 | exact hc9.2.2.1 | exact Ne.symm hc9.2.2.1 | exact Nat.ne_of_lt hc9.2.2.1 | exact Nat.ne_of_gt hc9.2.2.1 | exact hc9.2.2.2.1 | exact Ne.symm hc9.2.2.2.1 | exact Nat.ne_of_lt hc9.2.2.2.1 | exact Nat.ne_of_gt hc9.2.2.2.1 | exact hc9.2.2.2.2.1 | exact Ne.symm hc9.2.2.2.2.1 | exact Nat.ne_of_lt hc9.2.2.2.2.1 | exact Nat.ne_of_gt hc9.2.2.2.2.1 | exact hc9.2.2.2.2.2.1 | exact Ne.symm hc9.2.2.2.2.2.1 | exact Nat.ne_of_lt hc9.2.2.2.2.2.1 | exact Nat.ne_of_gt hc9.2.2.2.2.2.1 | exact hc9.2.2.2.2.2.2.1 | exact Ne.symm hc9.2.2.2.2.2.2.1 | exact Nat.ne_of_lt hc9.2.2.2.2.2.2.1 | exact Nat.ne_of_gt hc9.2.2.2.2.2.2.1 | exact hc9.2.2.2.2.2.2.2.1 | exact Ne.symm hc9.2.2.2.2.2.2.2.1 | exact Nat.ne_of_lt hc9.2.2.2.2.2.2.2.1 | exact Nat.ne_of_gt hc9.2.2.2.2.2.2.2.1 | exact hc9.2.2.2.2.2.2.2.2.1 | exact Ne.symm hc9.2.2.2.2.2.2.2.2.1 | exact Nat.ne_of_lt hc9.2.2.2.2.2.2.2.2.1 | exact Nat.ne_of_gt hc9.2.2.2.2.2.2.2.2.1 | exact hc9.2.2.2.2.2.2.2.2.2.1 | exact Ne.symm hc9.2.2.2.2.2.2.2.2.2.1 | exact Nat.ne_of_lt hc9.2.2.2.2.2.2.2.2.2.1 | exact Nat.ne_of_gt hc9.2.2.2.2.2.2.2.2.2.1 | exact hc9.2.2.2.2.2.2.2.2.2.2.1 | exact Ne.symm hc9.2.2.2.2.2.2.2.2.2.2.1 | exact Nat.ne_of_lt hc9.2.2.2.2.2.2.2.2.2.2.1 | exact Nat.ne_of_gt hc9.2.2.2.2.2.2.2.2.2.2.1 | exact hc9.2.2.2.2.2.2.2.2.2.2.2.1 | exact Ne.symm hc9.2.2.2.2.2.2.2.2.2.2.2.1 | exact Nat.ne_of_lt hc9.2.2.2.2.2.2.2.2.2.2.2.1 | exact Nat.ne_of_gt hc9.2.2.2.2.2.2.2.2.2.2.2.1 | exact hc9.2.2.2.2.2.2.2.2.2.2.2.2.1 | exact Ne.symm hc9.2.2.2.2.2.2.2.2.2.2.2.2.1 | exact Nat.ne_of_lt hc9.2.2.2.2.2.2.2.2.2.2.2.2.1 | exact Nat.ne_of_gt hc9.2.2.2.2.2.2.2.2.2.2.2.2.1 | exact hc9.2.2.2.2.2.2.2.2.2.2.2.2.2.1 | exact Ne.symm hc9.2.2.2.2.2.2.2.2.2.2.2.2.2.1 | exact Nat.ne_of_lt hc9.2.2.2.2.2.2.2.2.2.2.2.2.2.1 | exact Nat.ne_of_gt hc9.2.2.2.2.2.2.2.2.2.2.2.2.2.1 | exact hc9.2.2.2.2.2.2.2.2.2.2.2.2.2.2.1 | exact Ne.symm hc9.2.2.2.2.2.2.2.2.2.2.2.2.2.2.1 | exact Nat.ne_of_lt hc9.2.2.2.2.2.2.2.2.2.2.2.2.2.2.1 | exact Nat.ne_of_gt hc9.2.2.2.2.2.2.2.2.2.2.2.2.2.2.1 | exact hc9.2.2.2.2.2.2.2.2.2.2.2.2.2.2.2.1 | exact Ne.symm hc9.2.2.2.2.2.2.2.2.2.2.2.2.2.2.2.1 | exact Nat.ne_of_lt hc9.2.2.2.2.2.2.2.2.2.2.2.2.2.2.2.1 | exact Nat.ne_of_gt hc9.2.2.2.2.2.2.2.2.2.2.2.2.2.2.2.1)
  trivial
theorem wordsBad_CG : True := by
  (k_with "call ref" => (k_here; (with_reducible show wpAny _ _ (call (Value.ref 44) _) _ _ _); k_dflt (refine' Ok.useR (exc_call_ok _ _ _ _ (form_cls _)) ?kA ?kh ?kd ?ku ?kB ?kF ?kX ?kN ?kT ?kk ?ks ?_; k_extra "MineSide"; (case ks => k_extra "MineMem"); rintro _ _ h' tk' ⟨eX', tX', DX', odX', xX', rfl, rfl⟩ F' N' D'; k_extra "MineLed")))
  (k_with "call ref" => (k_here; (with_reducible show wpAny _ _ (call (Value.ref 56) _) _ _ _); k_dflt (refine' Ok.useR (exc_call_ok _ _ _ _ (size_cls _)) ?kA ?kh ?kd ?ku ?kB ?kF ?kX ?kN ?kT ?kk ?ks ?_; k_extra "MineSide"; (case ks => k_extra "MineMem"); rintro _ _ h' tk' ⟨eX', tX', DX', odX', xX', rfl, rfl⟩ F' N' D'; k_extra "MineLed")))
  (k_with "exec Raise some none" => (k_dflt (refine own_Raise (K := KH w.params) rfl ?_)))
  (k_with "OwnRaised" => (k_dflt (refine' ⟨_, _, _, _, ?c, ?X, rfl, ?he, ?_⟩; (case he => exact (‹News _ _ _ _› _ (.head _)).1); (case c => first | exact form_cls _ | exact size_cls _); (case X => exact (‹Frag.In _ _›).keeps (Fr.keep (by k_asm))))))
  (k_with "leaving ref" => (k_dflt (refine' leave_first (sub := ?sub) ?K ?F rfl rfl ?N ?he ?ht ?hs ?_; (case sub => first | k_extra "MineSub" | exact []); (case K => k_asm); (case F => k_asm); (case N => k_asm); (case he => k_mem); (case ht => k_mem); (case hs => k_extra "MineApart"); intro h9 R9 U9)))
  (k_with "MineApart" => first | exact List.forall_mem_nil _ | (refine' List.forall_mem_cons.mpr ⟨⟨?fa, ?fc, ?fd⟩, ?fb⟩; (case fa => k_mem); (case fc => k_ne); (case fd => k_ne); (case fb => k_extra "MineApart")))
  trivial
section
variable {loose : List Str} {mean : ExcName → Option Value} {mg mb : Str → Option Value}
theorem get_bad : ∀ (w : World) (b : Array UInt8) (tb : Tok) (ks : List Int) (at' many : Int) (ta tm : Tok), KBw.bInts b = ks → ks.length ≤ 2000 → 0 ≤ at' → 1 ≤ many → many ≤ 6 → (ks.length : Int) < at' + many →
    Bad w loose mean mg mb 360 2880 (.ref 177) [.bytes b tb, .int at' ta, .int many tm] [] 44 := by
  intro w b tb ks at' many ta tm hb hlen h0 hm0 hm1 h1
  unfold Bad
  k_fill
  intro cn cs a ccd cl outer A₀ base h₀ L m s Q E B F X N T hk hret
  k_extra "MineWalk"
  · subst hg'
    exact hret _ _ _ _ _ R9 U9
end

-- part CH
theorem bs_bytes : typeLookup (.type "bytes") "__bytes__" = pure (some (.builtin "bytes.__bytes__")) := by rw [typeLookup_type, builtinLookup_eq_fast]; kernel_rfl
section
open PySem.F
variable {prog : Program} {w : World} {A : Around} {E : Value → Shared → Prop} {s : Shared}
theorem bytes_same_new {b : Array UInt8} {t : Tok} {Q : Value → Shared → Prop} (hQ : Q (.bytes b t) s) :
    codeAny (model prog w) A (.call (.builtin "bytes.__new__") ⟨[.type "bytes", .bytes b t], []⟩) (wants Q E) s := by
  refine codeAny_of_tree ?_
  show wpAny _ A.in1 (do checkBuiltinCall "bytes.__new__" ⟨[.type "bytes", .bytes b t], []⟩; again (.builtin "bytes.__new__" ⟨[.type "bytes", .bytes b t], []⟩)) _ _ s
  refine wpAny_bind (wpAny_of_eq (bm_newCall _) (wpAny_pure ⟨plainId_quiet bm_plain _, codeAny_builtin bm_entry ?_⟩))
  rw [Around.under_plainId bm_plain _]
  have hT : s.TypeIs (.bytes b t) "bytes" := PySem.W.typeIs_bytes _ _ _
  unfold Builtin.«bytes.__new__»
  refine wpAny_bind (wpAny_of_eq (a := true) rfl ?_)
  refine bm_if_false rfl ?_
  refine wpAny_bind (wpAny_of_eq bm_sub ?_)
  refine bm_if_false rfl ?_
  refine wpAny_bind (wpAny_of_eq (bm_bind _) ?_)
  refine wpAny_bind (wpAny_of_eq (a := ()) rfl ?_)
  refine wpAny_bind (wpAny_of_eq (a := ()) rfl ?_)
  refine bm_if_false rfl ?_
  refine wpAny_bind (wpAny_specialOf hT bs_bytes ?_)
  refine wpAny_bind (wpAny_rule ?_)
  refine wpAny_bind (wpAny_typeOf hT ?_)
  refine bm_if_true rfl ?_
  exact wpAny_pure hQ
theorem bytes_same {b : Array UInt8} {t : Tok} {Q : Value → Shared → Prop} (hQ : Q (.bytes b t) s) : wpAny (model prog w) A (call (.type "bytes") [.bytes b t]) Q E s := by
  refine callType_codes (Q₁ := fun obj s₁ => s₁.TypeIs obj "bytes" ∧ Q obj s₁) bm_called (bm_typeCall _) entry_object_init (bytes_same_new ⟨PySem.W.typeIs_bytes _ _ _, hQ⟩) fun obj s₁ h₁ => ?_
  exact ⟨h₁.1, args_object_init_2 obj _, object_init_meets bm_called.init.lookup bm_called.made (by decide) prog w A.in1 _ s₁ ⟨h₁.1, rfl, h₁.2⟩⟩
end

-- part SA
abbrev frs (l : List Env) : List Addr := l.filterMap (·.frame)
def KeptF (h h' : Heap) (sub : Led) (fs : List Addr) : Prop := ∀ b o, h.get? b = some o → b ∉ sub.map (·.1) → b ∉ fs → h'.get? b = some o
def LeaveQS (h : Heap) (sub : Led) (fs0 fs : List Addr) (A₀ : Around) (base : Heap) (outer : List Env) (h₀ : Heap) (L : Addr) (m : Str → Option Value) (g : Heap) (R : Result → Shared → Prop) (v : Value) (s' : Shared) : Prop :=
  ∃ g' L' m' news', KtsTurn fs g g' ∧ Fr g' L' s'.heap m' ∧ News g' L' s'.heap news' ∧
    (∀ h₀', KtsTurn fs0 h₀ h₀' → Fr h₀' L s'.heap m → News h₀' L s'.heap news' → Below A₀ base outer h₀' → KeptF h s'.heap sub fs → Fresh h sub news' → R (.ok (.ret v)) s')
section
variable {prog : Program} {w : World} {A₀ A : Around} {s : Shared} {base h₀ : Heap} {outer : List Env} {L : Addr} {m : Str → Option Value} {env : Env} {news : Led} {K : Frag}
  {R : Result → Shared → Prop} {name qual : Str} {params : Arguments} {body : List Stmt} {scope : Scope} {dV kV doc pm cdv ct oc : Value} {an od : Option Addr} {osl : Array (Option Value)} {f : Addr} {args : Args} {binds : List (Str × Value)}
  {p : Program} {loose : List Str} {mean : ExcName → Option Value} {mg mb : Str → Option Value}

theorem ground_dicts (F : Fr h₀ L s.heap m) (N : News h₀ L s.heap news) (hf : env.frame = some L) (D : KtsDicts (frs outer) h₀) : KtsDicts (frs (env :: outer)) (hideAll s.heap (news.map (·.1))) := by
  intro b hb
  rcases kts_memX (L := L) hf hb with z | z
  · subst z
    obtain ⟨o, es, n, ho, hd, _⟩ := F.ns
    exact ⟨o, es, n, hideAll_get _ ho fun q => by obtain ⟨p, hp, e⟩ := List.mem_map.mp q; exact (N p hp).2.1 e, hd⟩
  · obtain ⟨o, es, n, ho, hd⟩ := D b z
    refine ⟨o, es, n, hideAll_get _ (F.keep _ _ ho) fun q => ?_, hd⟩
    obtain ⟨p, hp, rfl⟩ := List.mem_map.mp q
    rw [(N p hp).2.2] at ho; cases ho

theorem leave_ofS (B : Below A₀ base outer h₀) (F : Fr h₀ L s.heap m) (N : News h₀ L s.heap news) (hA : A.frames = some (env :: outer)) (hf : env.frame = some L) (hke : env.scope.kind = .function) {v : Value} {s' : Shared}
    (hl : LeaveQS s.heap news (frs outer) (frs (env :: outer)) A₀ base outer h₀ L m (hideAll s.heap (news.map (·.1))) R v s') : R (.ok (.ret v)) s' := by
  obtain ⟨FG, _, st, _⟩ := groundX (R := R) B F N hA hf hke
  obtain ⟨g', L', m', n', T', F', N', k⟩ := hl
  obtain ⟨oL, es, ep, hL, hLd, hLk, hLf⟩ := FG.ns
  have nL₀ : h₀.get? L = none := kts_self F
  obtain ⟨sl, hs⟩ := T'.up hL
  obtain ⟨T₁, S₁⟩ := kts_turn_at (h := s'.heap) (fs := frs outer) (g := h₀)
    (fun b hb => by
      obtain ⟨_, o, ho', _⟩ := B.frames.mem hb
      exact ⟨o, ho'⟩)
    (fun b o e nmem => F'.keep b o (T'.other b o (st b o e) (fun q => by
      rcases kts_memX (L := L) hf q with z | z
      · rw [z, nL₀] at e
        cases e
      · exact nmem z)))
    (fun b o e hm => by
      obtain ⟨sl', hs'⟩ := T'.up (st b o e)
      exact ⟨sl', F'.keep _ _ hs'⟩)
  have B₃ : Below A₀ base outer (ktsHeap s'.heap (frs outer) h₀) := ⟨B.stack, fun b o e => T₁.other b o (B.stays b o e) (fun hm => by
    rw [(B.frames.mem hm).1] at e
    cases e), B.frames.of_keeps fun b o e _ => by
    obtain ⟨sl', hs'⟩ := T₁.up e
    exact ⟨_, hs', rfl⟩⟩
  refine k _ T₁ ⟨⟨_, es, ep, F'.keep _ _ hs, hLd, hLk, hLf⟩, S₁, by rw [T₁.size]; exact F.above⟩ (fun p hp => ⟨(N' p hp).1, fun q => ?_, ?_⟩) B₃ (fun b o e nm nf => F'.keep b o (T'.other b o (hideAll_get _ e nm) nf)) fun q hq => ?_
  · have := (N' p hp).2.2; rw [q, hs] at this; cases this
  · refine T₁.none_ _ ?_
    cases q : h₀.get? p.1 with
    | none => rfl
    | some o =>
      obtain ⟨sl', hs'⟩ := T'.up (st _ _ q)
      have := (N' p hp).2.2
      rw [hs'] at this
      cases this
  · by_cases hm : q.1 ∈ news.map (·.1)
    · exact .inl hm
    · refine .inr ?_
      cases e : s.heap.get? q.1 with
      | none => rfl
      | some o =>
        have z := (N' q hq).2.2
        obtain ⟨sl', hs'⟩ := T'.up (hideAll_get _ e hm)
        rw [hs'] at z
        cases z

theorem enterQS (B : Below A₀ base outer h₀) (F : Fr h₀ L s.heap m) (X₀ : K.In h₀) (N : News h₀ L s.heap news) (T : Top p loose mean mg mb h₀) (D : KtsDicts (frs outer) h₀) (hA : A.frames = some (env :: outer)) (hf : env.frame = some L) (hke : env.scope.kind = .function)
    (ho : K.lookup f = some ⟨oc, od, .func (fnOf name qual params body scope dV kV doc pm an cdv ct), osl⟩) (hcd : codeIn K cdv qual = true) (hroom : A.depth < recursionLimit)
    (hbind : BindsTo s (fnOf name qual params body scope dV kV doc pm an cdv ct) args binds) (hloc : ∀ y ∈ binds, scope.names.lookup y.1 = some .local)
    (h : ∀ g L' h₁ tk, Fr h₀ L g m → Fr g L' h₁ (fun y => binds.reverse.lookup y) → News g L' h₁ news → Below A base (env :: outer) g → K.In g → Top p loose mean mg mb g → KtsDicts (frs (env :: outer)) g → g = hideAll s.heap (news.map (·.1)) → (∀ q ∈ news, q.1 < L') →
      wpAny (model prog w) (A.deeper (envOf qual scope L' f cdv)) (execs body (envOf qual scope L' f cdv))
        (fun fl s' => LeaveQS s.heap news (frs outer) (frs (env :: outer)) A₀ base outer h₀ L m g R (match fl with | .ret v => v | _ => .none) s')
        (fun e s' => wpAny (model prog w) (A.deeper (envOf qual scope L' f cdv)) (leaving (envOf qual scope L' f cdv) e) (fun _ s'' => R (.error e) s'') (fun e' s'' => R (.error e') s'') s')
        { s with heap := h₁, toks := tk })
    (hco : scope.isCoroutine = false) (hgen : scope.isGenerator = false) (hk : scope.kind = .function)
    (hcell : ∀ x ∈ scope.names, x.2 ≠ .cell) : codeAny (model prog w) A (.call (.ref f) args) R s := by
  obtain ⟨FG, BG, st, lv⟩ := groundX (R := R) B F N hA hf hke
  refine codeAny_call_def (fd := fnOf name qual params body scope dV kV doc pm an cdv ct) (body := body) (binds := binds) hroom ((X₀.keeps F.keep) _ _ ho) rfl (T.nolimit.keeps F.keep) (codeRec_of (X₀.keeps F.keep) hcd) rfl hbind hcell hloc (fun h₁ hns hk₁ => ?_) hco hgen hk
  exact wpAny_mono (h _ s.heap.objs.size h₁ _ FG ⟨hns, fun b o e => hk₁ b o (of_hideAll _ e), Nat.le_of_eq (hideAll_size _ _)⟩
    (fun p hp => ⟨hk₁ _ _ (N p hp).1, Nat.ne_of_lt (Heap.lt_size (N p hp).1), hideAll_none _ (List.mem_map_of_mem hp)⟩) BG (X₀.keeps st) (T.keeps st) (ground_dicts F N hf D) rfl (fun p hp => Heap.lt_size (N p hp).1)) (fun fl s' hl => leave_ofS B F N hA hf hke hl) fun _ _ y => y

theorem enterQSC (B : Below A₀ base outer h₀) (F : Fr h₀ L s.heap m) (X₀ : K.In h₀) (N : News h₀ L s.heap news) (T : Top p loose mean mg mb h₀) (D : KtsDicts (frs outer) h₀) (hA : A.frames = some (env :: outer)) (hf : env.frame = some L) (hke : env.scope.kind = .function)
    (ho : K.lookup f = some ⟨oc, od, .func (fnOf name qual params body scope dV kV doc pm an cdv ct), osl⟩) (hcd : codeIn K cdv qual = true) (hroom : A.depth < recursionLimit)
    (hbind : BindsTo s (fnOf name qual params body scope dV kV doc pm an cdv ct) args binds) (hkind : (binds.all fun y => scope.names.lookup y.1 == some .local || scope.names.lookup y.1 == some .cell) = true)
    (hnd : ((cellsFrom 0 scope.names []).map (·.1)).Nodup)
    (h : ∀ g L' h₁ tk cells, Fr h₀ L g m → Fr g L' h₁ (bindL (envOfC qual scope L' f cdv).kindOf binds fun _ => none) → News g L' h₁ (cells ++ news) →
      CellsAre (bindC (envOfC qual scope L' f cdv).kindOf binds fun _ => none) (cellsFrom (L' + 1) scope.names []) cells → Below A base (env :: outer) g → K.In g → Top p loose mean mg mb g → KtsDicts (frs (env :: outer)) g → g = hideAll s.heap (news.map (·.1)) → (∀ q ∈ news, q.1 < L') →
      wpAny (model prog w) (A.deeper (envOfC qual scope L' f cdv)) (execs body (envOfC qual scope L' f cdv))
        (fun fl s' => LeaveQS s.heap news (frs outer) (frs (env :: outer)) A₀ base outer h₀ L m g R (match fl with | .ret v => v | _ => .none) s')
        (fun e s' => wpAny (model prog w) (A.deeper (envOfC qual scope L' f cdv)) (leaving (envOfC qual scope L' f cdv) e) (fun _ s'' => R (.error e) s'') (fun e' s'' => R (.error e') s'') s')
        { s with heap := h₁, toks := tk })
    (hco : scope.isCoroutine = false) (hgen : scope.isGenerator = false) (hk : scope.kind = .function) : codeAny (model prog w) A (.call (.ref f) args) R s := by
  obtain ⟨FG, BG, st, lv⟩ := groundX (R := R) B F N hA hf hke
  refine codeAny_call_function (fd := fnOf name qual params body scope dV kV doc pm an cdv ct) hroom ((X₀.keeps F.keep) _ _ ho) rfl hco hgen rfl (codeRec_of (X₀.keeps F.keep) hcd) (hbind _ _ _ _ ?_)
  refine wpAny_newFunctionEnv_cells hk (kindsX hkind _) fun env' he s' x => ?_
  subst he
  refine ⟨(T.nolimit.keeps F.keep).keeps x.toInCall.keep, codeAny_func ?_⟩
  obtain ⟨h₁, tk, rfl, _⟩ := x.done
  have hk₁ := x.toInCall.keep
  obtain ⟨cells, NC, Y⟩ := Cl.news (h₀ := s.heap) (Nat.le_refl _) fun n c hm => ⟨x.cell n c (lookup_of_mem_nodup (cellsFrom_names scope.names 0 (s.heap.objs.size + 1) [] [] rfl ▸ hnd) hm), x.above n c hm⟩
  refine wpAny_mono (h _ s.heap.objs.size h₁ tk cells FG ⟨x.toInCall.ns, fun b o e => hk₁ b o (of_hideAll _ e), Nat.le_of_eq (hideAll_size _ _)⟩ (fun p hp => ?_) Y BG (X₀.keeps st) (T.keeps st) (ground_dicts F N hf D) rfl (fun p hp => Heap.lt_size (N p hp).1)) (fun fl s' hl => leave_ofS B F N hA hf hke hl) fun _ _ y => y
  rcases List.mem_append.mp hp with hp | hp
  · refine ⟨(NC p hp).1, (NC p hp).2.1, ?_⟩
    cases q : (hideAll s.heap (news.map (·.1))).get? p.1 with
    | none => rfl
    | some o => have := of_hideAll _ q; rw [(NC p hp).2.2] at this; cases this
  · exact ⟨hk₁ _ _ (N p hp).1, Nat.ne_of_lt (Heap.lt_size (N p hp).1), hideAll_none _ (List.mem_map_of_mem hp)⟩

theorem leaveS {h : Heap} {sub sub' news' : Led} {fs0 fs : List Addr} {g g' : Heap} {L' : Addr} {m' : Str → Option Value} {v : Value} {s' : Shared} (T : KtsTurn fs g g') (F' : Fr g' L' s'.heap m') (N' : News g' L' s'.heap news')
    (k : ∀ h₀', KtsTurn fs0 h₀ h₀' → Fr h₀' L s'.heap m → News h₀' L s'.heap sub' → Below A₀ base outer h₀' → KeptF h s'.heap sub fs → Fresh h sub sub' → R (.ok (.ret v)) s') (hs : ∀ q ∈ sub', q ∈ news') :
    LeaveQS h sub fs0 fs A₀ base outer h₀ L m g R v s' := ⟨g', L', m', sub', T, F', fun q hq => N' q (hs q hq), k⟩

-- a lambda's frame
theorem enterQL {body : Expr} {cl : List (Str × Addr)} {pmv ctv : Value} {c' : Addr} {oc : Obj} {vs : Array Value} {t : Tok}
    (B : Below A₀ base outer h₀) (F : Fr h₀ L s.heap m) (X₀ : K.In h₀) (N : News h₀ L s.heap news) (T : Top p loose mean mg mb h₀) (hA : A.frames = some (env :: outer)) (hf : env.frame = some L) (hke : env.scope.kind = .function)
    (ho : (f, kla_obj name qual params body scope cl pmv c' ctv) ∈ news) (hc : (c', oc) ∈ news) (hcd : oc.data = .fields vs) (hcv : vs[1]? = some (.str qual t)) (hroom : A.depth < recursionLimit)
    (hbind : bindArgs (kla_fn name qual params body scope cl pmv (.ref c') ctv) args = pure binds) (hloc : ∀ y ∈ binds, scope.names.lookup y.1 = some .local)
    (h : ∀ g L' h₁ tk, Fr h₀ L g m → Fr g L' h₁ (fun y => binds.reverse.lookup y) → News g L' h₁ news → Below A base (env :: outer) g → K.In g → Top p loose mean mg mb g → g = hideAll s.heap (news.map (·.1)) → (∀ q ∈ news, q.1 < L') →
      wpAny (model prog w) (A.deeper (envX qual scope L' f (.ref c') cl)) (eval body (envX qual scope L' f (.ref c') cl))
        (fun v s' => LeaveQ s.heap news h₀ L m g R v s')
        (fun e s' => wpAny (model prog w) (A.deeper (envX qual scope L' f (.ref c') cl)) (leaving (envX qual scope L' f (.ref c') cl) e) (fun _ s'' => R (.error e) s'') (fun e' s'' => R (.error e') s'') s')
        { s with heap := h₁, toks := tk })
    (hco : scope.isCoroutine = false) (hgen : scope.isGenerator = false) (hk : scope.kind = .function)
    (hcell : ∀ x ∈ scope.names, x.2 ≠ .cell) : codeAny (model prog w) A (.call (.ref f) args) R s := by
  obtain ⟨FG, BG, st, lv⟩ := groundX (R := R) B F N hA hf hke
  refine kla_callFunE hroom (N _ ho).1 rfl hco hgen rfl (codeRec_news N hc hcd hcv) ?_
  rw [hbind]
  refine wpAny_pure (wpAny_newFunctionEnv hcell hloc (fun h₁ hns hsb => ⟨((T.nolimit).keeps F.keep).fresh _ hsb, ?_⟩) hk)
  show codeAny _ _ (.expr body (envX qual scope s.heap.objs.size f (.ref c') cl)) _ _
  have hk₁ : ∀ b o, s.heap.get? b = some o → h₁.get? b = some o := fun b o e => hsb.extBut b o (Nat.ne_of_lt (Heap.lt_size e)) (Heap.get?_push_of_some _ e)
  exact kla_codeExpr (wpAny_mono (h _ s.heap.objs.size h₁ _ FG ⟨hns, fun b o e => hk₁ b o (of_hideAll _ e), Nat.le_of_eq (hideAll_size _ _)⟩
    (fun p hp => ⟨hk₁ _ _ (N p hp).1, Nat.ne_of_lt (Heap.lt_size (N p hp).1), hideAll_none _ (List.mem_map_of_mem hp)⟩) BG (X₀.keeps st) (T.keeps st) rfl (fun p hp => Heap.lt_size (N p hp).1)) (fun v s' hl => leave_of B F N hA hf hke hl) fun _ _ y => y)
end

section
variable (w : World) (loose : List Str) (mean : ExcName → Option Value) (mg mb : Str → Option Value)
def BadP (D U : Nat) (f : Value) (vs : List Value) (sub : Led) (C : Addr) (PB : Led → Prop) : Prop :=
  ∀ (cn : Str) (cs : Scope) (a : Addr) (ccd : Value) (cl : List (Str × Addr)) (outer : List Env) (A₀ : Around) (base h₀ : Heap) (L : Addr) (m : Str → Option Value) (s : Shared) (Q E : Value → Shared → Prop),
    Below A₀ base outer h₀ → Fr h₀ L s.heap m → (KH w.params).In h₀ → News h₀ L s.heap sub → Top topProg loose mean mg mb h₀ → cs.kind = .function →
    (∀ e t x sub' h' tk', PB sub' → RaisedS base (hideAll s.heap (sub.map (·.1))) (envX cn cs L a ccd cl :: outer) e (.ref C) t x sub' h' → (hideAll s.heap (sub.map (·.1))).UpToSlots h' → E (.ref e) { s with heap := h', toks := tk' }) →
    wpAny (model rw0.prog w) (ktrTop D U none cn cs L a ccd cl outer) (call f vs) Q E s
def OkS (D U : Nat) (f : Value) (vs : List Value) (sub : Led) (Post : Value → Led → Prop) : Prop :=
  ∀ (cn : Str) (cs : Scope) (a : Addr) (ccd : Value) (cl : List (Str × Addr)) (outer : List Env) (A₀ : Around) (base h₀ : Heap) (L : Addr) (m : Str → Option Value) (s : Shared) (Q E : Value → Shared → Prop),
    Below A₀ base outer h₀ → Fr h₀ L s.heap m → (KH w.params).In h₀ → News h₀ L s.heap sub → Top topProg loose mean mg mb h₀ → (KH w.params).In base → Top topProg loose mean mg mb base → KtsDicts (frs outer) h₀ → cs.kind = .function →
    (∀ v sub' h' tk' g', Post v sub' → KtsTurn (frs outer) h₀ g' → Fr g' L h' m → News g' L h' sub' → Below A₀ base outer g' → KeptF s.heap h' sub (frs (envX cn cs L a ccd cl :: outer)) → Fresh s.heap sub sub' → Q v { s with heap := h', toks := tk' }) →
    wpAny (model rw0.prog w) (ktrTop D U none cn cs L a ccd cl outer) (call f vs) Q E s
end
section
variable {w : World} {loose : List Str} {mean : ExcName → Option Value} {mg mb : Str → Option Value} {D U : Nat} {f : Value} {vs : List Value} {sub : Led} {C : Addr} {Post : Value → Led → Prop} {PB : Led → Prop}
  {A : Around} {cn : Str} {cs : Scope} {a : Addr} {ccd : Value} {cl : List (Str × Addr)} {outer : List Env} {A₀ : Around} {base h₀ : Heap} {L : Addr} {m : Str → Option Value} {s : Shared} {Q E : Value → Shared → Prop} {news rest : Led}
theorem Ok.useAll (H : Ok w loose mean mg mb D U f vs sub Post) (hA : A.frames = some (envX cn cs L a ccd cl :: outer)) (hh : A.handled = none) (hd : A.depth ≤ D) (hu : A.units ≤ U)
    (B : Below A₀ base outer h₀) (F : Fr h₀ L s.heap m) (X : (KH w.params).In h₀) (N : News h₀ L s.heap sub) (T : Top topProg loose mean mg mb h₀) (hk : cs.kind = .function)
    (k : ∀ v sub' h' tk', Post v sub' → Fr h₀ L h' m → News h₀ L h' sub' → Q v { s with heap := h', toks := tk' }) :
    wpAny (model rw0.prog w) A (call f vs) Q E s :=
  wpAny_wider (A' := ktrTop D U none cn cs L a ccd cl outer) (H cn cs a ccd cl outer A₀ base h₀ L m s Q E B F X N T hk fun v sub' h' tk' P F' N' _ _ => k v sub' h' tk' P F' N') hh.symm hd hA.symm rfl hu
theorem BadP.useAll (H : BadP w loose mean mg mb D U f vs sub C PB) (hA : A.frames = some (envX cn cs L a ccd cl :: outer)) (hh : A.handled = none) (hd : A.depth ≤ D) (hu : A.units ≤ U)
    (B : Below A₀ base outer h₀) (F : Fr h₀ L s.heap m) (X : (KH w.params).In h₀) (N : News h₀ L s.heap sub) (T : Top topProg loose mean mg mb h₀) (hk : cs.kind = .function)
    (k : ∀ e t x sub' h' tk' G, PB sub' → Fr h₀ L G m → RaisedS base G (envX cn cs L a ccd cl :: outer) e (.ref C) t x sub' h' → G.UpToSlots h' → E (.ref e) { s with heap := h', toks := tk' }) :
    wpAny (model rw0.prog w) A (call f vs) Q E s := by
  obtain ⟨FG, _, _, _⟩ := groundX (A := ktrTop D U none cn cs L a ccd cl outer) (R := fun _ _ => True) B F N rfl rfl hk
  exact wpAny_wider (A' := ktrTop D U none cn cs L a ccd cl outer) (H cn cs a ccd cl outer A₀ base h₀ L m s Q E B F X N T hk fun e t x sub' h' tk' P R Us => k e t x sub' h' tk' _ P FG R Us) hh.symm hd hA.symm rfl hu
theorem OkS.use {g₀ : Heap} (H : OkS w loose mean mg mb D U f vs sub Post) (hA : A.frames = some (envX cn cs L a ccd cl :: outer)) (hh : A.handled = none) (hd : A.depth ≤ D) (hu : A.units ≤ U)
    (B : Below A₀ base outer h₀) (F : Fr h₀ L s.heap m) (X : (KH w.params).In h₀) (N : News h₀ L s.heap news) (T : Top topProg loose mean mg mb h₀) (XB : (KH w.params).In base) (TB : Top topProg loose mean mg mb base) (Dx : KtsDicts (frs outer) h₀) (T0 : KtsTurn (frs outer) g₀ h₀) (hk : cs.kind = .function)
    (hs : ∀ q ∈ sub, q ∈ news) (hr : ∀ q ∈ rest, q ∈ news ∧ q.1 ∉ sub.map (·.1))
    (k : ∀ v sub' h' tk' g', Post v sub' → KtsTurn (frs outer) g₀ g' → Fr g' L h' m → News g' L h' (sub' ++ rest) → Below A₀ base outer g' → (KH w.params).In g' → Top topProg loose mean mg mb g' → KtsDicts (frs outer) g' →
      (∀ q ∈ sub', q.1 ∈ sub.map (·.1) ∨ ∀ r ∈ news, r.1 ≠ q.1) → Q v { s with heap := h', toks := tk' }) :
    wpAny (model rw0.prog w) A (call f vs) Q E s := by
  refine wpAny_wider (A' := ktrTop D U none cn cs L a ccd cl outer) (H cn cs a ccd cl outer A₀ base h₀ L m s Q E B F X (fun q hq => N q (hs q hq)) T XB TB Dx hk fun v sub' h' tk' g' P T' F' N' B' Kp Fh => k v sub' h' tk' g' P (T0.trans T') F' (fun q hq => ?_) B' (XB.keeps B'.stays) (TB.keeps B'.stays) (Dx.turn T') fun q hq => ?_) hh.symm hd hA.symm rfl hu
  · rcases List.mem_append.mp hq with hq | hq
    · exact N' q hq
    · obtain ⟨h1, h2⟩ := hr q hq
      refine ⟨Kp q.1 q.2 (N q h1).1 h2 fun hm => ?_, (N q h1).2.1, T'.none_ _ (N q h1).2.2⟩
      rcases kts_memX (L := L) rfl hm with z | z
      · exact (N q h1).2.1 z
      · obtain ⟨_, o, ho, _⟩ := B.frames.mem z
        rw [(N q h1).2.2] at ho; cases ho
  · rcases Fh q hq with h | h
    · exact .inl h
    · refine .inr fun r hr' e => ?_
      have := (N r hr').1
      rw [e, h] at this
      cases this
theorem Bad.toP (H : Bad w loose mean mg mb D U f vs sub C) : BadP w loose mean mg mb D U f vs sub C (fun l => l = sub) :=
  fun cn cs a ccd cl outer A₀ base h₀ L m s Q E B F X N T hk k => H cn cs a ccd cl outer A₀ base h₀ L m s Q E B F X N T hk fun e t x h' tk' R Us => k e t x sub h' tk' rfl R Us
end

-- part SB
theorem words0_SB : True := by
  k_with_none
  (k_with "MineEnter" => (refine wpAny_call ?_; k_dflt (refine' enterQ ?k1 ?k2 ?k3 ?k4 ?k5 ?kA ?kF ?kK ?k6 ?k7 ?k8 ?k9 ?kB ?_ ?c2 ?c3 ?c4 ?c5; (case kA => exact rfl); (case kF => exact rfl); (case kK => assumption); (case k1 => k_asm); (case k2 => k_asm); (case k3 => k_asm); (case k4 => k_asm); (case k5 => k_asm); (case k6 => k_is); (case k7 => k_is); (case k8 => ktr_room); (case k9 => first | exact BindsTo.of_eq rfl | exact binds_K (by k_in) rfl (by k_is) rfl rfl rfl); (case c5 => decide); (case kB => exact locs rfl); (case c2 => exact rfl); (case c3 => exact rfl); (case c4 => exact rfl)); intro g' L' h' tk' FG' F' N' B' X' T' hg' lL'; (try k_lt lL'); (try dsimp only); (try k_fold)))
  (k_with "MineEnterC" => (refine wpAny_call ?_; k_dflt (refine' enterQC ?k1 ?k2 ?k3 ?k4 ?k5 ?kA ?kF ?kK ?k6 ?k7 ?k8 ?k9 ?kB ?kD ?_ ?c2 ?c3 ?c4; (case kA => exact rfl); (case kF => exact rfl); (case kK => assumption); (case k1 => k_asm); (case k2 => k_asm); (case k3 => k_asm); (case k4 => k_asm); (case k5 => k_asm); (case k6 => k_is); (case k7 => k_is); (case k8 => ktr_room); (case k9 => first | exact BindsTo.of_eq rfl | exact binds_K (by k_in) rfl (by k_is) rfl rfl rfl); (case kB => exact rfl); (case kD => decide +kernel); (case c2 => exact rfl); (case c3 => exact rfl); (case c4 => exact rfl)); intro g' L' h' tk' cells' FG' F' N' Y' B' X' T' hg' lL'; (try k_lt lL'); k_cells Y'; (try simp only [List.cons_append, List.nil_append] at N'); (try dsimp only); (try k_fold)))
  (k_with "MineWalkC" => (k_extra "MineEnterC"; k_steps; all_goals (try dsimp only); all_goals (try (k_unfold; dsimp only))))
  (k_with "MineWalk" => (k_extra "MineEnter"; k_steps; all_goals (try dsimp only); all_goals (try (k_unfold; dsimp only))))
  (k_with "MineFresh" => first | exact List.forall_mem_nil _ | (refine' List.forall_mem_cons.mpr ⟨?fa, ?fb⟩; (case fa => (repeat (first | exact List.not_mem_nil | (refine' List.not_mem_cons_of_ne_of_not_mem ?fn ?_; (case fn => k_ne)))))); (case fb => k_extra "MineFresh"))
  (k_with "MineMem" => first | exact List.forall_mem_nil _ | (refine' List.forall_mem_cons.mpr ⟨?fa, ?fb⟩; (case fa => k_mem); (case fb => k_extra "MineMem")))
  (k_with "MineSide" => ((case kA => exact rfl); (case kh => exact rfl); (case kd => exact Nat.le_of_ble_eq_true rfl); (case ku => exact Nat.le_of_ble_eq_true rfl); (case kB => k_asm); (case kF => k_asm); (case kX => k_asm); (case kN => k_asm); (case kT => k_asm); (case kk => exact rfl)))
  (k_with "MineLed" => ((try simp only [List.nil_append, List.cons_append] at N'); (try (replace D' := allNe2_of D'; simp only [AllNe2, AllNe, and_true] at D'))))
  (k_with "MineLeaveW" => ((case F => k_asm); (case N => k_asm); (case h1 => k_mem); (case h2 => k_extra "MineMem"); (case h3 => k_extra "MineMem"); intro F9 N9 K9 Z9))
  (k_with "MineLeaveR" => ((case F => k_asm); (case N => k_asm); (case h2 => k_extra "MineMem"); (case h3 => k_extra "MineMem"); intro F9 N9 K9 Z9))
  (k_with "MineGetLen" => (exfalso; omega))
  (k_with "MinePut" => (first | exact Int.lt_of_lt_of_le (b := 256) (by omega) (by decide) | exact Int.lt_of_lt_of_le (b := 65536) (by omega) (by decide) | exact Int.lt_of_lt_of_le (b := 16777216) (by omega) (by decide) | exact Int.lt_of_lt_of_le (b := 281474976710656) (by omega) (by decide)))
  (k_with "MineBytes" => first | assumption | exact bI1 ⟨by omega, by omega⟩ | exact bI2 ⟨by omega, by omega⟩ ⟨by omega, by omega⟩ | exact zeros_ints _ | exact KBw.ints_list _)
  (k_with "MineAdd" => (k_here; (with_reducible show wpAny _ _ (binaryOp Operator.Add (Value.bytes _ _) (Value.bytes _ _)) _ _ _); (refine KBa.add_K (by k_extra "MineBytes") (by k_extra "MineBytes") (by first | (simp only [List.length_cons, List.length_nil, List.length_append, List.length_map, List.length_replicate, rangeInts_length]; omega) | omega | (simp only [List.length_cons, List.length_nil, List.length_append, List.length_map, List.length_replicate, sum_len]; omega)) ?_); intro t' k' hb'))
  (k_with "MinePutBad" => (intro h9; first | (have h8 := Int.lt_of_lt_of_le h9 (show (1 * 2 ^ ((8:Int) * 1).toNat : Int) ≤ 256 by decide); omega) | (have h8 := Int.lt_of_lt_of_le h9 (show (1 * 2 ^ ((8:Int) * 3).toNat : Int) ≤ 16777216 by decide); omega)))
  (k_with "MinePass" => ((rename RaisedS _ _ _ _ _ _ _ _ _ => rsX); k_dflt (refine' leave_onX (news := ?sub) ?K ?F ?hf rsX ?U ?hs ?_; (case sub => first | k_extra "MineSub" | exact []); (case K => k_asm); (case F => k_asm); (case hf => exact rfl); (case U => k_asm); (case hs => k_extra "MineMem"); intro h9 R9 U9)))
  (k_with "MineEnterS" => (refine wpAny_call ?_; k_dflt (refine' enterQS ?k1 ?k2 ?k3 ?k4 ?k5 ?k0 ?kA ?kF ?kK ?k6 ?k7 ?k8 ?k9 ?kB ?_ ?c2 ?c3 ?c4 ?c5; (case kA => exact rfl); (case kF => exact rfl); (case kK => assumption); (case k1 => k_asm); (case k2 => k_asm); (case k3 => k_asm); (case k4 => k_asm); (case k5 => k_asm); (case k0 => k_asm); (case k6 => k_is); (case k7 => k_is); (case k8 => ktr_room); (case k9 => first | exact BindsTo.of_eq rfl | exact binds_K (by k_in) rfl (by k_is) rfl rfl rfl); (case c5 => decide); (case kB => exact locs rfl); (case c2 => exact rfl); (case c3 => exact rfl); (case c4 => exact rfl)); intro g' L' h' tk' FG' F' N' B' X' T' D' hg' lL'; (try k_lt lL'); (try dsimp only); (try k_fold)))
  (k_with "MineEnterSC" => (refine wpAny_call ?_; k_dflt (refine' enterQSC ?k1 ?k2 ?k3 ?k4 ?k5 ?k0 ?kA ?kF ?kK ?k6 ?k7 ?k8 ?k9 ?kB ?kD ?_ ?c2 ?c3 ?c4; (case kA => exact rfl); (case kF => exact rfl); (case kK => assumption); (case k1 => k_asm); (case k2 => k_asm); (case k3 => k_asm); (case k4 => k_asm); (case k5 => k_asm); (case k0 => k_asm); (case k6 => k_is); (case k7 => k_is); (case k8 => ktr_room); (case k9 => first | exact BindsTo.of_eq rfl | exact binds_K (by k_in) rfl (by k_is) rfl rfl rfl); (case kB => exact rfl); (case kD => decide +kernel); (case c2 => exact rfl); (case c3 => exact rfl); (case c4 => exact rfl)); intro g' L' h' tk' cells' FG' F' N' Y' B' X' T' D' hg' lL'; (try k_lt lL'); k_cells Y'; (try simp only [List.cons_append, List.nil_append] at N'); (try dsimp only); (try k_fold)))
  (k_with "MineEnterL" => (refine wpAny_call ?_; k_dflt (refine' enterQL ?k1 ?k2 ?k3 ?k4 ?k5 ?kA ?kF ?kK ?ho ?hc ?hd ?hv ?k8 ?k9 ?kB ?_ ?c2 ?c3 ?c4 ?c5; (case kA => exact rfl); (case kF => exact rfl); (case kK => assumption); (case k1 => k_asm); (case k2 => k_asm); (case k3 => k_asm); (case k4 => k_asm); (case k5 => k_asm); (case ho => k_mem); (case hc => k_mem); (case hd => assumption); (case hv => assumption); (case k8 => ktr_room); (case k9 => exact rfl); (case c5 => decide); (case kB => exact locs rfl); (case c2 => exact rfl); (case c3 => exact rfl); (case c4 => exact rfl)); intro g' L' h' tk' FG' F' N' B' X' T' hg' lL'; (try k_lt lL'); (try dsimp only); (try k_fold)))
  (k_with "MineWalkL" => (k_extra "MineEnterL"; k_dflt (show wpAny _ _ (eval (Expr.Call _ _ _ _) _) _ _ _); k_steps; all_goals (try dsimp only); all_goals (try (k_unfold; dsimp only))))
  (k_with "MineWalkS" => (k_extra "MineEnterS"; k_steps; all_goals (try dsimp only); all_goals (try (k_unfold; dsimp only))))
  (k_with "MineSame" => first | exact SameL.nil | (refine' SameL.cons ?sa ?sb; (case sa => first | exact same_int _ _ _ | exact same_bytes _ _ _ | exact PySem.SeqAt.EqAt.same _); (case sb => k_extra "MineSame")))
  (k_with "MineNeT" => (k_here; (with_reducible show wpAny _ _ (compareOp CmpOp.NotEq (Value.ref _) (Value.ref _)) _ _ _); k_dflt (refine' ne_tups ?N ?ml ?mb ?cl ?dl ?cb ?db ?hu ?hs ?_; (case N => k_asm); (case ml => k_mem); (case mb => k_mem); (case cl => rfl); (case dl => rfl); (case cb => rfl); (case db => rfl); (case hu => ke_room); (case hs => k_extra "MineSame"))))
  (k_with "MineEqT" => (k_here; (with_reducible show wpAny _ _ (compareOp CmpOp.Eq (Value.ref _) (Value.ref _)) _ _ _); k_dflt (refine' eq_tups ?N ?ml ?mb ?cl ?dl ?cb ?db ?hu ?hs ?_; (case N => k_asm); (case ml => k_mem); (case mb => k_mem); (case cl => rfl); (case dl => rfl); (case cb => rfl); (case db => rfl); (case hu => ke_room); (case hs => k_extra "MineSame"))))
  (k_with "MineNew" => ((try dsimp only [AllNe] at D1'); (try dsimp only [AllNe] at D2'); (try dsimp only [AllNe] at D3')))
  (k_with "MineNe1" => (refine neN ?_; (try dsimp only); with_reducible first | assumption | (refine Ne.symm ?_; assumption) | exact Nat.ne_of_lt (by assumption) | exact Nat.ne_of_gt (by assumption) | exact Nat.ne_of_lt (by k_extra "MineLtS") | exact Nat.ne_of_gt (by k_extra "MineLtS") | k_extra "MineNe2"))
  (k_with "MineLtS" => first | assumption | exact Nat.lt_succ_self _ | (refine Nat.lt_succ_of_lt ?_; k_extra "MineLtS"))
  (k_with "MineNe2" => (rename _ ∧ _ => hc9; first | k_extra "MinePrj" | (clear hc9; k_extra "MineNe2")))
  (k_with "MinePrj" => first | exact hc9.1 | exact Ne.symm hc9.1 | exact Nat.ne_of_lt hc9.1 | exact Nat.ne_of_gt hc9.1 | exact hc9.2.1 | exact Ne.symm hc9.2.1 | exact Nat.ne_of_lt hc9.2.1 | exact Nat.ne_of_gt hc9.2.1 | exact hc9.2.2.1 | exact Ne.symm hc9.2.2.1 | exact Nat.ne_of_lt hc9.2.2.1 | exact Nat.ne_of_gt hc9.2.2.1 | exact hc9.2.2.2.1 | exact Ne.symm hc9.2.2.2.1 | exact Nat.ne_of_lt hc9.2.2.2.1 | exact Nat.ne_of_gt hc9.2.2.2.1 | exact hc9.2.2.2.2.1 | exact Ne.symm hc9.2.2.2.2.1 | exact Nat.ne_of_lt hc9.2.2.2.2.1 | exact Nat.ne_of_gt hc9.2.2.2.2.1 | exact hc9.2.2.2.2.2.1 | exact Ne.symm hc9.2.2.2.2.2.1 | exact Nat.ne_of_lt hc9.2.2.2.2.2.1 | exact Nat.ne_of_gt hc9.2.2.2.2.2.1 | exact hc9.2.2.2.2.2.2.1 | exact Ne.symm hc9.2.2.2.2.2.2.1 | exact Nat.ne_of_lt hc9.2.2.2.2.2.2.1 | exact Nat.ne_of_gt hc9.2.2.2.2.2.2.1 | exact hc9.2.2.2.2.2.2.2.1 | exact Ne.symm hc9.2.2.2.2.2.2.2.1 | exact Nat.ne_of_lt hc9.2.2.2.2.2.2.2.1 | exact Nat.ne_of_gt hc9.2.2.2.2.2.2.2.1 | exact hc9.2.2.2.2.2.2.2.2.1 | exact Ne.symm hc9.2.2.2.2.2.2.2.2.1 | exact Nat.ne_of_lt hc9.2.2.2.2.2.2.2.2.1 | exact Nat.ne_of_gt hc9.2.2.2.2.2.2.2.2.1 | exact hc9.2.2.2.2.2.2.2.2.2.1 | exact Ne.symm hc9.2.2.2.2.2.2.2.2.2.1 | exact Nat.ne_of_lt hc9.2.2.2.2.2.2.2.2.2.1 | exact Nat.ne_of_gt hc9.2.2.2.2.2.2.2.2.2.1 | exact hc9.2.2.2.2.2.2.2.2.2.2.1 | exact Ne.symm hc9.2.2.2.2.2.2.2.2.2.2.1 | exact Nat.ne_of_lt hc9.2.2.2.2.2.2.2.2.2.2.1 | exact Nat.ne_of_gt hc9.2.2.2.2.2.2.2.2.2.2.1 | exact hc9.2.2.2.2.2.2.2.2.2.2.2.1 | exact Ne.symm hc9.2.2.2.2.2.2.2.2.2.2.2.1 | exact Nat.ne_of_lt hc9.2.2.2.2.2.2.2.2.2.2.2.1 | exact Nat.ne_of_gt hc9.2.2.2.2.2.2.2.2.2.2.2.1 | exact hc9.2.2.2.2.2.2.2.2.2.2.2.2.1 | exact Ne.symm hc9.2.2.2.2.2.2.2.2.2.2.2.2.1 | exact Nat.ne_of_lt hc9.2.2.2.2.2.2.2.2.2.2.2.2.1 | exact Nat.ne_of_gt hc9.2.2.2.2.2.2.2.2.2.2.2.2.1 | exact hc9.2.2.2.2.2.2.2.2.2.2.2.2.2.1 | exact Ne.symm hc9.2.2.2.2.2.2.2.2.2.2.2.2.2.1 | exact Nat.ne_of_lt hc9.2.2.2.2.2.2.2.2.2.2.2.2.2.1 | exact Nat.ne_of_gt hc9.2.2.2.2.2.2.2.2.2.2.2.2.2.1 | exact hc9.2.2.2.2.2.2.2.2.2.2.2.2.2.2.1 | exact Ne.symm hc9.2.2.2.2.2.2.2.2.2.2.2.2.2.2.1 | exact Nat.ne_of_lt hc9.2.2.2.2.2.2.2.2.2.2.2.2.2.2.1 | exact Nat.ne_of_gt hc9.2.2.2.2.2.2.2.2.2.2.2.2.2.2.1 | exact hc9.2.2.2.2.2.2.2.2.2.2.2.2.2.2.2.1 | exact Ne.symm hc9.2.2.2.2.2.2.2.2.2.2.2.2.2.2.2.1 | exact Nat.ne_of_lt hc9.2.2.2.2.2.2.2.2.2.2.2.2.2.2.2.1 | exact Nat.ne_of_gt hc9.2.2.2.2.2.2.2.2.2.2.2.2.2.2.2.1)
  trivial
abbrev en (P : Params) (x : Str) (k : Tok) (v : Value) : DictEntry := { hash := PyData.keyHash P x, key := .str x k, val := v }
abbrev llcD (P : Params) (k1 k2 k3 k4 : Tok) (v1 v2 v3 v4 : Value) : Obj := dictOf [en P (Str.ofString "dsap") k1 v1, en P (Str.ofString "ssap") k2 v2, en P (Str.ofString "control") k3 v3, en P (Str.ofString "payload") k4 v4] 4
section
variable (w : World) (loose : List Str) (mean : ExcName → Option Value) (mg mb : Str → Option Value)
-- a call that only makes, whatever stands in the ledger
def OkN (D U : Nat) (f : Value) (vs : List Value) (P : Value → Led → Prop) : Prop :=
  ∀ (cn : Str) (cs : Scope) (a : Addr) (ccd : Value) (cl : List (Str × Addr)) (outer : List Env) (A₀ : Around) (base h₀ : Heap) (L : Addr) (m : Str → Option Value) (news : Led) (s : Shared) (Q E : Value → Shared → Prop),
    Below A₀ base outer h₀ → Fr h₀ L s.heap m → (KH w.params).In h₀ → News h₀ L s.heap news → Top topProg loose mean mg mb h₀ → cs.kind = .function →
    (∀ v nw h' tk', P v nw → Fr h₀ L h' m → News h₀ L h' (nw ++ news) → (∀ q ∈ nw, ∀ r ∈ news, r.1 ≠ q.1) → Q v { s with heap := h', toks := tk' }) →
    wpAny (model rw0.prog w) (ktrTop D U none cn cs L a ccd cl outer) (call f vs) Q E s
end
section
variable {w : World} {loose : List Str} {mean : ExcName → Option Value} {mg mb : Str → Option Value} {D U : Nat} {f : Value} {vs : List Value} {P : Value → Led → Prop}
  {A : Around} {cn : Str} {cs : Scope} {a : Addr} {ccd : Value} {cl : List (Str × Addr)} {outer : List Env} {A₀ : Around} {base h₀ : Heap} {L : Addr} {m : Str → Option Value} {s : Shared} {Q E : Value → Shared → Prop} {news : Led}
theorem OkN.use (H : OkN w loose mean mg mb D U f vs P) (hA : A.frames = some (envX cn cs L a ccd cl :: outer)) (hh : A.handled = none) (hd : A.depth ≤ D) (hu : A.units ≤ U)
    (B : Below A₀ base outer h₀) (F : Fr h₀ L s.heap m) (X : (KH w.params).In h₀) (N : News h₀ L s.heap news) (T : Top topProg loose mean mg mb h₀) (hk : cs.kind = .function)
    (k : ∀ v nw h' tk', P v nw → Fr h₀ L h' m → News h₀ L h' (nw ++ news) → (∀ q ∈ nw, ∀ r ∈ news, r.1 ≠ q.1) → Q v { s with heap := h', toks := tk' }) :
    wpAny (model rw0.prog w) A (call f vs) Q E s :=
  wpAny_wider (A' := ktrTop D U none cn cs L a ccd cl outer) (H cn cs a ccd cl outer A₀ base h₀ L m news s Q E B F X N T hk k) hh.symm hd hA.symm rfl hu
end
local macro_rules | `(tactic| k_all) => `(tactic| assumption)
theorem lt_ne {news : Led} {d : Addr} (h : ∀ p ∈ news, p.1 < d) : ∀ p ∈ news, p.1 ≠ d := fun p hp e => absurd (h p hp) (by rw [e]; exact Nat.lt_irrefl _)
theorem wordsSB : True := by
  (k_with "call type:bytes" => (k_here; (with_reducible show wpAny _ _ (call (Value.type "bytes") [Value.bytes _ _]) _ _ _); (refine bytes_same ?_)))
  (k_with "MineEnterI" => (k_dflt (refine' enterQ ?k1 ?k2 ?k3 ?k4 ?k5 ?kA ?kF ?kK ?k6 ?k7 ?k8 ?k9 ?kB ?_ ?c2 ?c3 ?c4 ?c5; (case kA => exact rfl); (case kF => exact rfl); (case kK => assumption); (case k1 => k_asm); (case k2 => k_asm); (case k3 => k_asm); (case k4 => k_asm); (case k5 => k_asm); (case k6 => k_is); (case k7 => k_is); (case k8 => ktr_room); (case k9 => exact BindsTo.of_eq rfl); (case c5 => decide); (case kB => exact locs rfl); (case c2 => exact rfl); (case c3 => exact rfl); (case c4 => exact rfl)); intro g' L' h' tk' FG' F' N' B' X' T' hg' lL'; (try dsimp only); (try k_fold)))
  trivial
section
variable {loose : List Str} {mean : ExcName → Option Value} {mg mb : Str → Option Value}
def LlcMade (P : Params) (a b c d : Value) (v : Value) (nw : Led) : Prop := ∃ x dx k1 k2 k3 k4, @Ne Nat x dx ∧ v = .ref x ∧ nw = [(x, instObj 334 dx), (dx, llcD P k1 k2 k3 k4 a b c d)]
theorem llc_ok : ∀ (w : World) (a b c : Value) (p : Array UInt8) (tp : Tok),
    OkN w loose mean mg mb 350 2800 (.ref 334) [a, b, c, .bytes p tp] (LlcMade w.params a b c (.bytes p tp)) := by
  intro w va vb vc p tp
  unfold OkN
  k_fill
  intro cn cs a ccd cl outer A₀ base h₀ L m news s Q E B F X N T hk hret
  k_dflt (refine' call_cls ?k1 ?k2 ?k3 ?k4 ?k5 ?k6 ?_; (case k1 => k_asm); (case k2 => k_asm); (case k3 => k_asm); (case k4 => k_is); (case k5 => k_is); (case k6 => k_is); intro x1 d1 h1 F1 N1 l1 l2)
  have ne1 := lt_ne l1
  have ne2 : ∀ p ∈ news, p.1 ≠ x1 := lt_ne fun p hp => Nat.lt_trans (l1 p hp) l2
  replace l2 := ltN l2
  k_extra "MineEnterI"
  k_steps
  all_goals (try dsimp only)
  refine leave_all (by k_asm) (by k_asm) ?_
  intro F9 N9 K9 Z9
  refine ⟨rfl, hret _ [(x1, _), (d1, _)] _ _ ⟨_, _, _, _, _, _, neN (by omega), rfl, rfl⟩ F9 N9 ?_⟩
  intro q hq r hr
  rcases List.mem_cons.mp hq with rfl | hq
  · exact ne2 r hr
  · rw [List.mem_singleton.mp hq]; exact ne1 r hr
end
-- calls taken apart
section
variable {w : World} {loose : List Str} {mean : ExcName → Option Value} {mg mb : Str → Option Value} {D U : Nat} {f : Value} {vs : List Value} {sub : Led}
  {A : Around} {cn : Str} {cs : Scope} {a : Addr} {ccd : Value} {cl : List (Str × Addr)} {outer : List Env} {A₀ : Around} {base h₀ : Heap} {L : Addr} {m : Str → Option Value} {s : Shared} {Q E : Value → Shared → Prop} {news : Led}
theorem OkN.useLlc {v1 v2 v3 v4 : Value} (C : OkN w loose mean mg mb D U f vs (LlcMade w.params v1 v2 v3 v4)) (hA : A.frames = some (envX cn cs L a ccd cl :: outer)) (hh : A.handled = none) (hd : A.depth ≤ D) (hu : A.units ≤ U)
    (B : Below A₀ base outer h₀) (F : Fr h₀ L s.heap m) (X : (KH w.params).In h₀) (N : News h₀ L s.heap news) (T : Top topProg loose mean mg mb h₀) (hk : cs.kind = .function)
    (k : ∀ x dx k1 k2 k3 k4 h' tk', @Ne Nat x dx → AllNe x news → AllNe dx news → Fr h₀ L h' m → News h₀ L h' ((x, instObj 334 dx) :: (dx, llcD w.params k1 k2 k3 k4 v1 v2 v3 v4) :: news) → Q (.ref x) { s with heap := h', toks := tk' }) : wpAny (model rw0.prog w) A (call f vs) Q E s :=
  OkN.use C hA hh hd hu B F X N T hk fun v nw h' tk' P F' N' D' => (by obtain ⟨x, dx, k1, k2, k3, k4, ne, rfl, rfl⟩ := P; exact k x dx k1 k2 k3 k4 h' tk' ne (allNe_of (D' _ (.head _))) (allNe_of (D' _ (.tail _ (.head _)))) F' N')
end

-- part PA
inductive LaidIs (ks : List Int) (p0 p1 c : Int) (pl : List Int) : Prop
  | one (h : 0 ≤ c ∧ c < 256) (h4 : c % 4 = 3) (e : ks = p0 :: p1 :: c :: pl)
  | two (h : 0 ≤ c ∧ c < 65536) (h4 : ¬ (c < 256 ∧ c % 4 = 3)) (h5 : (c / 256) % 4 ≠ 3) (e : ks = p0 :: p1 :: (c / 256) :: (c % 256) :: pl)
theorem be1 {c : Int} (h : 0 ≤ c ∧ c < 256) : beVal [c] = c := by
  show beStep 0 c = c
  rw [beStep_is (by decide) h.1 h.2]; omega
theorem be2 {c d : Int} (h : 0 ≤ c ∧ c < 256) (h' : 0 ≤ d ∧ d < 256) : beVal [c, d] = c * 256 + d := by
  show beStep (beStep 0 c) d = _
  rw [beStep_is (by decide) h.1 h.2, beStep_is (by omega) h'.1 h'.2]; omega
theorem be3 {c d e : Int} (h : 0 ≤ c ∧ c < 256) (h' : 0 ≤ d ∧ d < 256) (h'' : 0 ≤ e ∧ e < 256) : beVal [c, d, e] = (c * 256 + d) * 256 + e := by
  show beStep (beStep (beStep 0 c) d) e = _
  rw [beStep_is (by decide) h.1 h.2, beStep_is (by omega) h'.1 h'.2, beStep_is (by omega) h''.1 h''.2]; omega
theorem picked_from {b : Array UInt8} {ks : List Int} (hk : KBw.bInts b = ks) {a : Int} (h0 : 0 ≤ a) (h2 : a ≤ (ks.length : Int)) : KBw.bInts (KBy.picked b (some a) none) = ks.drop a.toNat := by
  rw [KBc.ints_picked hk]
  show (ks.drop (clipAt ks.length a)).take (ks.length - clipAt ks.length a) = _
  have e1 : clipAt ks.length a = a.toNat := by
    obtain ⟨i, rfl⟩ := Int.eq_ofNat_of_zero_le h0
    rw [clipAt_nat]
    omega
  rw [e1]
  exact List.take_of_length_le (by rw [List.length_drop]; exact Nat.le_refl _)
theorem short_of {ks pl : List Int} {p0 p1 c : Int} {b : Array UInt8} (H : LaidIs ks p0 p1 c pl) (hk : KBw.bInts b = ks) (hf : Builtin.bitAnd (beVal (sliceAt ks 2 1)) 3 = 3) :
    ks.getD 0 0 = p0 ∧ ks.getD 1 0 = p1 ∧ beVal (sliceAt ks 2 1) = c ∧ KBw.bInts (KBy.picked b (some 3) none) = pl := by
  rw [bitAnd_m2] at hf
  cases H with
  | one h h4 e =>
    have e3 : beVal (sliceAt ks 2 1) = c := by rw [e]; exact be1 h
    refine ⟨by rw [e]; rfl, by rw [e]; rfl, e3, ?_⟩
    rw [picked_from hk (by decide) (by rw [e]; simp only [List.length_cons]; omega), e]; rfl
  | two h h4 h5 e =>
    have e3 : beVal (sliceAt ks 2 1) = c / 256 := by rw [e]; exact be1 (by omega)
    rw [e3] at hf
    exact absurd hf h5
theorem long_of {ks pl : List Int} {p0 p1 c : Int} {b : Array UInt8} (H : LaidIs ks p0 p1 c pl) (hk : KBw.bInts b = ks) (hf : Builtin.bitAnd (beVal (sliceAt ks 2 1)) 3 ≠ 3) :
    ks.getD 0 0 = p0 ∧ ks.getD 1 0 = p1 ∧ beVal (sliceAt ks 2 2) = c ∧ KBw.bInts (KBy.picked b (some 4) none) = pl := by
  rw [bitAnd_m2] at hf
  cases H with
  | one h h4 e =>
    have e3 : beVal (sliceAt ks 2 1) = c := by rw [e]; exact be1 h
    rw [e3] at hf
    exact absurd h4 hf
  | two h h4 h5 e =>
    have e3 : beVal (sliceAt ks 2 2) = c := by
      rw [e]
      show beVal [c / 256, c % 256] = c
      rw [be2 (by omega) (by omega)]; omega
    refine ⟨by rw [e]; rfl, by rw [e]; rfl, e3, ?_⟩
    rw [picked_from hk (by decide) (by rw [e]; simp only [List.length_cons]; omega), e]; rfl
theorem long_len {ks pl : List Int} {p0 p1 c : Int} (H : LaidIs ks p0 p1 c pl) (hf : Builtin.bitAnd (beVal (sliceAt ks 2 1)) 3 ≠ 3) : 4 ≤ ks.length := by
  rw [bitAnd_m2] at hf
  cases H with
  | one h h4 e =>
    have e3 : beVal (sliceAt ks 2 1) = c := by rw [e]; exact be1 h
    rw [e3] at hf
    exact absurd h4 hf
  | two h h4 h5 e => rw [e]; simp only [List.length_cons]; omega
theorem laid_len {ks pl : List Int} {p0 p1 c : Int} (H : LaidIs ks p0 p1 c pl) : 3 ≤ ks.length := by
  cases H with
  | one h h4 e => rw [e]; simp only [List.length_cons]; omega
  | two h h4 h5 e => rw [e]; simp only [List.length_cons]; omega
theorem laid_c {ks pl : List Int} {p0 p1 c : Int} (H : LaidIs ks p0 p1 c pl) : 0 ≤ c ∧ c < 65536 := by
  cases H with
  | one h h4 e => omega
  | two h h4 h5 e => exact h
theorem byte0 (n : Int) : byteOf n 0 = n % 256 := by
  rw [byteOf_is]
  show n.fdiv 1 % 256 = _
  rw [Int.fdiv_one]
theorem byte1 (n : Int) : byteOf n 1 = n / 256 % 256 := by
  rw [byteOf_is]
  show n.fdiv 256 % 256 = _
  rw [fd _ (by decide)]
theorem byte2 (n : Int) : byteOf n 2 = n / 65536 % 256 := by
  rw [byteOf_is]
  show n.fdiv 65536 % 256 = _
  rw [fd _ (by decide)]
theorem put1 {n : Int} (h0 : 0 ≤ n) (h1 : n < 256) : List.map (byteOf n) (rangeInts (1 - 1) (-1) (Int.toNat 1)) = [n] := by
  show [byteOf n 0] = [n]
  rw [byte0]; congr 1; omega
theorem put2 {n : Int} (h0 : 0 ≤ n) (h1 : n < 65536) : List.map (byteOf n) (rangeInts (2 - 1) (-1) (Int.toNat 2)) = [n / 256, n % 256] := by
  show [byteOf n 1, byteOf n 0] = _
  rw [byte0, byte1]; congr 1; omega
theorem put3 {n : Int} (h0 : 0 ≤ n) (h1 : n < 16777216) : List.map (byteOf n) (rangeInts (3 - 1) (-1) (Int.toNat 3)) = [n / 65536, n / 256 % 256, n % 256] := by
  show [byteOf n 2, byteOf n 1, byteOf n 0] = _
  rw [byte0, byte1, byte2]; congr 1; omega
theorem pk_one {ks pl : List Int} {p0 p1 c : Int} (H : LaidIs ks p0 p1 c pl) (h : Builtin.bitAnd c 3 = 3) (h2 : c < 256) : ks = [p0] ++ [p1] ++ [c] ++ pl := by
  rw [bitAnd_m2] at h
  cases H with
  | one _ _ e => exact e
  | two _ h4 _ _ => exact absurd ⟨h2, h⟩ h4
theorem pk_two {ks pl : List Int} {p0 p1 c : Int} (H : LaidIs ks p0 p1 c pl) (h : Builtin.bitAnd c 3 = 3) (h2 : ¬ c < 256) : ks = [p0] ++ [p1] ++ [c / 256, c % 256] ++ pl := by
  cases H with
  | one h _ e => exact absurd h.2 h2
  | two _ h4 _ e => exact e
theorem pk_two' {ks pl : List Int} {p0 p1 c : Int} (H : LaidIs ks p0 p1 c pl) (h : Builtin.bitAnd c 3 ≠ 3) : ks = [p0] ++ [p1] ++ [c / 256, c % 256] ++ pl := by
  rw [bitAnd_m2] at h
  cases H with
  | one _ h4 e => exact absurd h4 h
  | two _ h4 _ e => exact e
theorem pk_no {ks pl : List Int} {p0 p1 c : Int} (H : LaidIs ks p0 p1 c pl) (h : Builtin.bitAnd (c.fdiv (2 ^ Int.toNat 8)) 3 = 3) : Builtin.bitAnd c 3 = 3 ∧ c < 256 := by
  rw [bitAnd_m2] at h ⊢
  have e : c.fdiv (2 ^ Int.toNat 8) = c / 256 := fd c (by decide)
  rw [e] at h
  cases H with
  | one h' h4 e => exact ⟨h4, h'.2⟩
  | two _ _ h5 _ => exact absurd h h5
abbrev tup3 (a b c : Value) : Obj := { cls := .type "tuple", data := .seq #[a, b, c] }
theorem snap_of {pl rest : List Int} {o kd : Int} {b : Array UInt8} (e : pl = [o / 65536, o / 256 % 256, o % 256] ++ [kd / 256, kd % 256] ++ rest) (h0 : 0 ≤ o) (h1 : o < 16777216) (h2 : 0 ≤ kd) (h3 : kd < 65536) (hb : KBw.bInts b = pl) :
    beVal (sliceAt pl 0 3) = o ∧ beVal (sliceAt pl 3 2) = kd ∧ KBw.bInts (KBy.picked b (some 5) none) = rest := by
  refine ⟨?_, ?_, ?_⟩
  · rw [e]
    show beVal [o / 65536, o / 256 % 256, o % 256] = o
    rw [be3 (by omega) (by omega) (by omega)]; omega
  · rw [e]
    show beVal [kd / 256, kd % 256] = kd
    rw [be2 (by omega) (by omega)]; omega
  · rw [picked_from hb (by decide) (by rw [e]; simp only [List.length_cons, List.length_append, List.length_nil]; omega), e]; rfl

-- part CI
theorem words0_CI : True := by
  k_with_none
  (k_with "MineEnter" => (refine wpAny_call ?_; k_dflt (refine' enterQ ?k1 ?k2 ?k3 ?k4 ?k5 ?kA ?kF ?kK ?k6 ?k7 ?k8 ?k9 ?kB ?_ ?c2 ?c3 ?c4 ?c5; (case kA => exact rfl); (case kF => exact rfl); (case kK => assumption); (case k1 => k_asm); (case k2 => k_asm); (case k3 => k_asm); (case k4 => k_asm); (case k5 => k_asm); (case k6 => k_is); (case k7 => k_is); (case k8 => ktr_room); (case k9 => first | exact BindsTo.of_eq rfl | exact binds_K (by k_in) rfl (by k_is) rfl rfl rfl); (case c5 => decide); (case kB => exact locs rfl); (case c2 => exact rfl); (case c3 => exact rfl); (case c4 => exact rfl)); intro g' L' h' tk' FG' F' N' B' X' T' hg' lL'; (try k_lt lL'); (try dsimp only); (try k_fold)))
  (k_with "MineEnterC" => (refine wpAny_call ?_; k_dflt (refine' enterQC ?k1 ?k2 ?k3 ?k4 ?k5 ?kA ?kF ?kK ?k6 ?k7 ?k8 ?k9 ?kB ?kD ?_ ?c2 ?c3 ?c4; (case kA => exact rfl); (case kF => exact rfl); (case kK => assumption); (case k1 => k_asm); (case k2 => k_asm); (case k3 => k_asm); (case k4 => k_asm); (case k5 => k_asm); (case k6 => k_is); (case k7 => k_is); (case k8 => ktr_room); (case k9 => first | exact BindsTo.of_eq rfl | exact binds_K (by k_in) rfl (by k_is) rfl rfl rfl); (case kB => exact rfl); (case kD => decide +kernel); (case c2 => exact rfl); (case c3 => exact rfl); (case c4 => exact rfl)); intro g' L' h' tk' cells' FG' F' N' Y' B' X' T' hg' lL'; (try k_lt lL'); k_cells Y'; (try simp only [List.cons_append, List.nil_append] at N'); (try dsimp only); (try k_fold)))
  (k_with "MineWalkC" => (k_extra "MineEnterC"; k_steps; all_goals (try dsimp only); all_goals (try (k_unfold; dsimp only))))
  (k_with "MineWalk" => (k_extra "MineEnter"; k_steps; all_goals (try dsimp only); all_goals (try (k_unfold; dsimp only))))
  (k_with "MineFresh" => first | exact List.forall_mem_nil _ | (refine' List.forall_mem_cons.mpr ⟨?fa, ?fb⟩; (case fa => (repeat (first | exact List.not_mem_nil | (refine' List.not_mem_cons_of_ne_of_not_mem ?fn ?_; (case fn => k_ne)))))); (case fb => k_extra "MineFresh"))
  (k_with "MineMem" => first | exact List.forall_mem_nil _ | (refine' List.forall_mem_cons.mpr ⟨?fa, ?fb⟩; (case fa => k_mem); (case fb => k_extra "MineMem")))
  (k_with "MineSide" => ((case kA => exact rfl); (case kh => exact rfl); (case kd => exact Nat.le_of_ble_eq_true rfl); (case ku => exact Nat.le_of_ble_eq_true rfl); (case kB => k_asm); (case kF => k_asm); (case kX => k_asm); (case kN => k_asm); (case kT => k_asm); (case kk => exact rfl)))
  (k_with "MineLed" => ((try simp only [List.nil_append, List.cons_append] at N'); (try (replace D' := allNe2_of D'; simp only [AllNe2, AllNe, and_true] at D'))))
  (k_with "MineLeaveW" => ((case F => k_asm); (case N => k_asm); (case h1 => k_mem); (case h2 => k_extra "MineMem"); (case h3 => k_extra "MineMem"); intro F9 N9 K9 Z9))
  (k_with "MineLeaveR" => ((case F => k_asm); (case N => k_asm); (case h2 => k_extra "MineMem"); (case h3 => k_extra "MineMem"); intro F9 N9 K9 Z9))
  (k_with "MineGetLen" => (exfalso; omega))
  (k_with "MinePut" => (first | exact Int.lt_of_lt_of_le (b := 256) (by omega) (by decide) | exact Int.lt_of_lt_of_le (b := 65536) (by omega) (by decide) | exact Int.lt_of_lt_of_le (b := 16777216) (by omega) (by decide) | exact Int.lt_of_lt_of_le (b := 281474976710656) (by omega) (by decide)))
  (k_with "MineBytes" => first | assumption | exact bI1 ⟨by omega, by omega⟩ | exact bI2 ⟨by omega, by omega⟩ ⟨by omega, by omega⟩ | exact zeros_ints _ | exact KBw.ints_list _)
  (k_with "MineAdd" => (k_here; (with_reducible show wpAny _ _ (binaryOp Operator.Add (Value.bytes _ _) (Value.bytes _ _)) _ _ _); (refine KBa.add_K (by k_extra "MineBytes") (by k_extra "MineBytes") (by first | (simp only [List.length_cons, List.length_nil, List.length_append, List.length_map, List.length_replicate, rangeInts_length]; omega) | omega | (simp only [List.length_cons, List.length_nil, List.length_append, List.length_map, List.length_replicate, sum_len]; omega)) ?_); intro t' k' hb'))
  (k_with "MinePutBad" => (intro h9; first | (have h8 := Int.lt_of_lt_of_le h9 (show (1 * 2 ^ ((8:Int) * 1).toNat : Int) ≤ 256 by decide); omega) | (have h8 := Int.lt_of_lt_of_le h9 (show (1 * 2 ^ ((8:Int) * 3).toNat : Int) ≤ 16777216 by decide); omega)))
  (k_with "MinePass" => ((rename RaisedS _ _ _ _ _ _ _ _ _ => rsX); k_dflt (refine' leave_onX (news := ?sub) ?K ?F ?hf rsX ?U ?hs ?_; (case sub => first | k_extra "MineSub" | exact []); (case K => k_asm); (case F => k_asm); (case hf => exact rfl); (case U => k_asm); (case hs => k_extra "MineMem"); intro h9 R9 U9)))
  (k_with "MineEnterS" => (refine wpAny_call ?_; k_dflt (refine' enterQS ?k1 ?k2 ?k3 ?k4 ?k5 ?k0 ?kA ?kF ?kK ?k6 ?k7 ?k8 ?k9 ?kB ?_ ?c2 ?c3 ?c4 ?c5; (case kA => exact rfl); (case kF => exact rfl); (case kK => assumption); (case k1 => k_asm); (case k2 => k_asm); (case k3 => k_asm); (case k4 => k_asm); (case k5 => k_asm); (case k0 => k_asm); (case k6 => k_is); (case k7 => k_is); (case k8 => ktr_room); (case k9 => first | exact BindsTo.of_eq rfl | exact binds_K (by k_in) rfl (by k_is) rfl rfl rfl); (case c5 => decide); (case kB => exact locs rfl); (case c2 => exact rfl); (case c3 => exact rfl); (case c4 => exact rfl)); intro g' L' h' tk' FG' F' N' B' X' T' D' hg' lL'; (try k_lt lL'); (try dsimp only); (try k_fold)))
  (k_with "MineEnterSC" => (refine wpAny_call ?_; k_dflt (refine' enterQSC ?k1 ?k2 ?k3 ?k4 ?k5 ?k0 ?kA ?kF ?kK ?k6 ?k7 ?k8 ?k9 ?kB ?kD ?_ ?c2 ?c3 ?c4; (case kA => exact rfl); (case kF => exact rfl); (case kK => assumption); (case k1 => k_asm); (case k2 => k_asm); (case k3 => k_asm); (case k4 => k_asm); (case k5 => k_asm); (case k0 => k_asm); (case k6 => k_is); (case k7 => k_is); (case k8 => ktr_room); (case k9 => first | exact BindsTo.of_eq rfl | exact binds_K (by k_in) rfl (by k_is) rfl rfl rfl); (case kB => exact rfl); (case kD => decide +kernel); (case c2 => exact rfl); (case c3 => exact rfl); (case c4 => exact rfl)); intro g' L' h' tk' cells' FG' F' N' Y' B' X' T' D' hg' lL'; (try k_lt lL'); k_cells Y'; (try simp only [List.cons_append, List.nil_append] at N'); (try dsimp only); (try k_fold)))
  (k_with "MineEnterL" => (refine wpAny_call ?_; k_dflt (refine' enterQL ?k1 ?k2 ?k3 ?k4 ?k5 ?kA ?kF ?kK ?ho ?hc ?hd ?hv ?k8 ?k9 ?kB ?_ ?c2 ?c3 ?c4 ?c5; (case kA => exact rfl); (case kF => exact rfl); (case kK => assumption); (case k1 => k_asm); (case k2 => k_asm); (case k3 => k_asm); (case k4 => k_asm); (case k5 => k_asm); (case ho => k_mem); (case hc => k_mem); (case hd => assumption); (case hv => assumption); (case k8 => ktr_room); (case k9 => exact rfl); (case c5 => decide); (case kB => exact locs rfl); (case c2 => exact rfl); (case c3 => exact rfl); (case c4 => exact rfl)); intro g' L' h' tk' FG' F' N' B' X' T' hg' lL'; (try k_lt lL'); (try dsimp only); (try k_fold)))
  (k_with "MineWalkL" => (k_extra "MineEnterL"; k_dflt (show wpAny _ _ (eval (Expr.Call _ _ _ _) _) _ _ _); k_steps; all_goals (try dsimp only); all_goals (try (k_unfold; dsimp only))))
  (k_with "MineWalkS" => (k_extra "MineEnterS"; k_steps; all_goals (try dsimp only); all_goals (try (k_unfold; dsimp only))))
  (k_with "MineSame" => first | exact SameL.nil | (refine' SameL.cons ?sa ?sb; (case sa => first | exact same_int _ _ _ | exact same_bytes _ _ _ | exact PySem.SeqAt.EqAt.same _); (case sb => k_extra "MineSame")))
  (k_with "MineNeT" => (k_here; (with_reducible show wpAny _ _ (compareOp CmpOp.NotEq (Value.ref _) (Value.ref _)) _ _ _); k_dflt (refine' ne_tups ?N ?ml ?mb ?cl ?dl ?cb ?db ?hu ?hs ?_; (case N => k_asm); (case ml => k_mem); (case mb => k_mem); (case cl => rfl); (case dl => rfl); (case cb => rfl); (case db => rfl); (case hu => ke_room); (case hs => k_extra "MineSame"))))
  (k_with "MineEqT" => (k_here; (with_reducible show wpAny _ _ (compareOp CmpOp.Eq (Value.ref _) (Value.ref _)) _ _ _); k_dflt (refine' eq_tups ?N ?ml ?mb ?cl ?dl ?cb ?db ?hu ?hs ?_; (case N => k_asm); (case ml => k_mem); (case mb => k_mem); (case cl => rfl); (case dl => rfl); (case cb => rfl); (case db => rfl); (case hu => ke_room); (case hs => k_extra "MineSame"))))
  (k_with "MineNew" => ((try dsimp only [AllNe] at D1'); (try dsimp only [AllNe] at D2'); (try dsimp only [AllNe] at D3')))
  (k_with "MineNe1" => (refine neN ?_; (try dsimp only); with_reducible first | assumption | (refine Ne.symm ?_; assumption) | exact Nat.ne_of_lt (by assumption) | exact Nat.ne_of_gt (by assumption) | exact Nat.ne_of_lt (by k_extra "MineLtS") | exact Nat.ne_of_gt (by k_extra "MineLtS") | k_extra "MineNe2"))
  (k_with "MineLtS" => first | assumption | exact Nat.lt_succ_self _ | (refine Nat.lt_succ_of_lt ?_; k_extra "MineLtS"))
  (k_with "MineNe2" => (rename _ ∧ _ => hc9; first | k_extra "MinePrj" | (clear hc9; k_extra "MineNe2")))
  (k_with "MinePrj" => first | exact hc9.1 | exact Ne.symm hc9.1 | exact Nat.ne_of_lt hc9.1 | exact Nat.ne_of_gt hc9.1 | exact hc9.2.1 | exact Ne.symm hc9.2.1 | exact Nat.ne_of_lt hc9.2.1 | exact Nat.ne_of_gt hc9.2.1 | exact hc9.2.2.1 | exact Ne.symm hc9.2.2.1 | exact Nat.ne_of_lt hc9.2.2.1 | exact Nat.ne_of_gt hc9.2.2.1 | exact hc9.2.2.2.1 | exact Ne.symm hc9.2.2.2.1 | exact Nat.ne_of_lt hc9.2.2.2.1 | exact Nat.ne_of_gt hc9.2.2.2.1 | exact hc9.2.2.2.2.1 | exact Ne.symm hc9.2.2.2.2.1 | exact Nat.ne_of_lt hc9.2.2.2.2.1 | exact Nat.ne_of_gt hc9.2.2.2.2.1 | exact hc9.2.2.2.2.2.1 | exact Ne.symm hc9.2.2.2.2.2.1 | exact Nat.ne_of_lt hc9.2.2.2.2.2.1 | exact Nat.ne_of_gt hc9.2.2.2.2.2.1 | exact hc9.2.2.2.2.2.2.1 | exact Ne.symm hc9.2.2.2.2.2.2.1 | exact Nat.ne_of_lt hc9.2.2.2.2.2.2.1 | exact Nat.ne_of_gt hc9.2.2.2.2.2.2.1 | exact hc9.2.2.2.2.2.2.2.1 | exact Ne.symm hc9.2.2.2.2.2.2.2.1 | exact Nat.ne_of_lt hc9.2.2.2.2.2.2.2.1 | exact Nat.ne_of_gt hc9.2.2.2.2.2.2.2.1 | exact hc9.2.2.2.2.2.2.2.2.1 | exact Ne.symm hc9.2.2.2.2.2.2.2.2.1 | exact Nat.ne_of_lt hc9.2.2.2.2.2.2.2.2.1 | exact Nat.ne_of_gt hc9.2.2.2.2.2.2.2.2.1 | exact hc9.2.2.2.2.2.2.2.2.2.1 | exact Ne.symm hc9.2.2.2.2.2.2.2.2.2.1 | exact Nat.ne_of_lt hc9.2.2.2.2.2.2.2.2.2.1 | exact Nat.ne_of_gt hc9.2.2.2.2.2.2.2.2.2.1 | exact hc9.2.2.2.2.2.2.2.2.2.2.1 | exact Ne.symm hc9.2.2.2.2.2.2.2.2.2.2.1 | exact Nat.ne_of_lt hc9.2.2.2.2.2.2.2.2.2.2.1 | exact Nat.ne_of_gt hc9.2.2.2.2.2.2.2.2.2.2.1 | exact hc9.2.2.2.2.2.2.2.2.2.2.2.1 | exact Ne.symm hc9.2.2.2.2.2.2.2.2.2.2.2.1 | exact Nat.ne_of_lt hc9.2.2.2.2.2.2.2.2.2.2.2.1 | exact Nat.ne_of_gt hc9.2.2.2.2.2.2.2.2.2.2.2.1 | exact hc9.2.2.2.2.2.2.2.2.2.2.2.2.1 | exact Ne.symm hc9.2.2.2.2.2.2.2.2.2.2.2.2.1 | exact Nat.ne_of_lt hc9.2.2.2.2.2.2.2.2.2.2.2.2.1 | exact Nat.ne_of_gt hc9.2.2.2.2.2.2.2.2.2.2.2.2.1 | exact hc9.2.2.2.2.2.2.2.2.2.2.2.2.2.1 | exact Ne.symm hc9.2.2.2.2.2.2.2.2.2.2.2.2.2.1 | exact Nat.ne_of_lt hc9.2.2.2.2.2.2.2.2.2.2.2.2.2.1 | exact Nat.ne_of_gt hc9.2.2.2.2.2.2.2.2.2.2.2.2.2.1 | exact hc9.2.2.2.2.2.2.2.2.2.2.2.2.2.2.1 | exact Ne.symm hc9.2.2.2.2.2.2.2.2.2.2.2.2.2.2.1 | exact Nat.ne_of_lt hc9.2.2.2.2.2.2.2.2.2.2.2.2.2.2.1 | exact Nat.ne_of_gt hc9.2.2.2.2.2.2.2.2.2.2.2.2.2.2.1 | exact hc9.2.2.2.2.2.2.2.2.2.2.2.2.2.2.2.1 | exact Ne.symm hc9.2.2.2.2.2.2.2.2.2.2.2.2.2.2.2.1 | exact Nat.ne_of_lt hc9.2.2.2.2.2.2.2.2.2.2.2.2.2.2.2.1 | exact Nat.ne_of_gt hc9.2.2.2.2.2.2.2.2.2.2.2.2.2.2.2.1)
  trivial
theorem wordsK_CI : True := by
  (k_with "call ref" => (k_here; (with_reducible show wpAny _ _ (call (Value.ref 177) _) _ _ _); (try k_fold); k_dflt (refine' Ok.useIn (get_ok _ _ _ _ _ _ _ _ ?p0 ?p1 ?p2 ?p3 ?p4 ?p5) ?kA ?kh ?kd ?ku ?kB ?kF ?kX ?kN ?kT ?kk ?ks ?_; k_extra "MineSide"; (case ks => k_extra "MineMem"); (case p0 => assumption); (case p1 => omega); (case p2 => first | decide | omega); (case p3 => first | decide | omega); (case p4 => first | decide | omega); (case p5 => first | omega | k_extra "MineGetLen"); intro t' h' tk' F' N')))
  (k_with "call ref" => (k_here; (with_reducible show wpAny _ _ (call (Value.ref 334) _) _ _ _); (try k_fold); k_dflt (refine' OkN.useLlc (llc_ok _ _ _ _ _ _ ) ?kA ?kh ?kd ?ku ?kB ?kF ?kX ?kN ?kT ?kk ?_; k_extra "MineSide"; intro x' dx' k1' k2' k3' k4' h' tk' ne' D1' D2' F' N'; replace ne' := neN ne'; k_extra "MineNew")))
  trivial
theorem wordsCI : True := by
  (k_with "MineGetLen" => (have := h5 (by assumption); omega))
  trivial
section
variable {loose : List Str} {mean : ExcName → Option Value} {mg mb : Str → Option Value}
def UnpIs (P : Params) (p0 p1 c : Int) (pl : List Int) (v : Value) (nw : Led) : Prop := ∃ t0 t1 tc pb tp, KBw.bInts pb = pl ∧ LlcMade P (.int p0 t0) (.int p1 t1) (.int c tc) (.bytes pb tp) v nw
theorem unpack_llc_ok : ∀ (w : World) (b : Array UInt8) (tb : Tok) (ks pl : List Int) (p0 p1 c : Int), KBw.bInts b = ks → ks.length ≤ 100 → LaidIs ks p0 p1 c pl →
    Ok w loose mean mg mb 335 2680 (.ref 359) [.bytes b tb] [] (RPost [] (UnpIs w.params p0 p1 c pl)) := by
  intro w b tb ks pl p0 p1 c hb hl hL
  have h4 := laid_len hL
  have h5 := @long_len ks pl p0 p1 c hL
  unfold Ok
  k_fill
  intro cn cs a ccd cl outer A₀ base h₀ L m s Q E B F X N T hk hret
  k_extra "MineWalk"
  · obtain ⟨e1, e2, e3, e4⟩ := short_of hL hb (by assumption)
    refine' leaveR (nw := [(_, instObj 334 _), (_, llcD _ _ _ _ _ _ _ _ _)]) ?F ?N ?_ ?h2 ?h3
    k_extra "MineLeaveR"
    rw [← e1, ← e2, ← e3] at hret
    exact hret _ _ _ _ ⟨_, rfl, (fun q hq h => by cases h), _, _, _, _, _, e4, _, _, _, _, _, _, by assumption, rfl, rfl⟩ F9 N9 K9 Z9
  · obtain ⟨e1, e2, e3, e4⟩ := long_of hL hb (by assumption)
    refine' leaveR (nw := [(_, instObj 334 _), (_, llcD _ _ _ _ _ _ _ _ _)]) ?F ?N ?_ ?h2 ?h3
    k_extra "MineLeaveR"
    rw [← e1, ← e2, ← e3] at hret
    exact hret _ _ _ _ ⟨_, rfl, (fun q hq h => by cases h), _, _, _, _, _, e4, _, _, _, _, _, _, by assumption, rfl, rfl⟩ F9 N9 K9 Z9
end
-- calls taken apart
section
variable {w : World} {loose : List Str} {mean : ExcName → Option Value} {mg mb : Str → Option Value} {D U : Nat} {f : Value} {vs : List Value} {sub : Led}
  {A : Around} {cn : Str} {cs : Scope} {a : Addr} {ccd : Value} {cl : List (Str × Addr)} {outer : List Env} {A₀ : Around} {base h₀ : Heap} {L : Addr} {m : Str → Option Value} {s : Shared} {Q E : Value → Shared → Prop} {news : Led}
theorem Ok.useUnp {p0 p1 c : Int} {pl : List Int} (C : Ok w loose mean mg mb D U f vs sub (RPost sub (UnpIs w.params p0 p1 c pl))) (hA : A.frames = some (envX cn cs L a ccd cl :: outer)) (hh : A.handled = none) (hd : A.depth ≤ D) (hu : A.units ≤ U)
    (B : Below A₀ base outer h₀) (F : Fr h₀ L s.heap m) (X : (KH w.params).In h₀) (N : News h₀ L s.heap news) (T : Top topProg loose mean mg mb h₀) (hk : cs.kind = .function) (hs : ∀ q ∈ sub, q ∈ news)
    (k : ∀ x dx k1 k2 k3 k4 t0 t1 tc pb tp h' tk', KBw.bInts pb = pl → @Ne Nat x dx → AllNe x news → AllNe dx news → Fr h₀ L h' m → News h₀ L h' ((x, instObj 334 dx) :: (dx, llcD w.params k1 k2 k3 k4 (.int p0 t0) (.int p1 t1) (.int c tc) (.bytes pb tp)) :: news) → Q (.ref x) { s with heap := h', toks := tk' }) : wpAny (model rw0.prog w) A (call f vs) Q E s :=
  Ok.useR C hA hh hd hu B F X N T hk hs fun v nw h' tk' P F' N' D' => (by obtain ⟨t0, t1, tc, pb, tp, hb, x, dx, k1, k2, k3, k4, ne, rfl, rfl⟩ := P; exact k x dx k1 k2 k3 k4 t0 t1 tc pb tp h' tk' hb ne (allNe_of (D' _ (.head _))) (allNe_of (D' _ (.tail _ (.head _)))) F' N')
end

-- part CJ
theorem words0_CJ : True := by
  k_with_none
  (k_with "MineEnter" => (refine wpAny_call ?_; k_dflt (refine' enterQ ?k1 ?k2 ?k3 ?k4 ?k5 ?kA ?kF ?kK ?k6 ?k7 ?k8 ?k9 ?kB ?_ ?c2 ?c3 ?c4 ?c5; (case kA => exact rfl); (case kF => exact rfl); (case kK => assumption); (case k1 => k_asm); (case k2 => k_asm); (case k3 => k_asm); (case k4 => k_asm); (case k5 => k_asm); (case k6 => k_is); (case k7 => k_is); (case k8 => ktr_room); (case k9 => first | exact BindsTo.of_eq rfl | exact binds_K (by k_in) rfl (by k_is) rfl rfl rfl); (case c5 => decide); (case kB => exact locs rfl); (case c2 => exact rfl); (case c3 => exact rfl); (case c4 => exact rfl)); intro g' L' h' tk' FG' F' N' B' X' T' hg' lL'; (try k_lt lL'); (try dsimp only); (try k_fold)))
  (k_with "MineEnterC" => (refine wpAny_call ?_; k_dflt (refine' enterQC ?k1 ?k2 ?k3 ?k4 ?k5 ?kA ?kF ?kK ?k6 ?k7 ?k8 ?k9 ?kB ?kD ?_ ?c2 ?c3 ?c4; (case kA => exact rfl); (case kF => exact rfl); (case kK => assumption); (case k1 => k_asm); (case k2 => k_asm); (case k3 => k_asm); (case k4 => k_asm); (case k5 => k_asm); (case k6 => k_is); (case k7 => k_is); (case k8 => ktr_room); (case k9 => first | exact BindsTo.of_eq rfl | exact binds_K (by k_in) rfl (by k_is) rfl rfl rfl); (case kB => exact rfl); (case kD => decide +kernel); (case c2 => exact rfl); (case c3 => exact rfl); (case c4 => exact rfl)); intro g' L' h' tk' cells' FG' F' N' Y' B' X' T' hg' lL'; (try k_lt lL'); k_cells Y'; (try simp only [List.cons_append, List.nil_append] at N'); (try dsimp only); (try k_fold)))
  (k_with "MineWalkC" => (k_extra "MineEnterC"; k_steps; all_goals (try dsimp only); all_goals (try (k_unfold; dsimp only))))
  (k_with "MineWalk" => (k_extra "MineEnter"; k_steps; all_goals (try dsimp only); all_goals (try (k_unfold; dsimp only))))
  (k_with "MineFresh" => first | exact List.forall_mem_nil _ | (refine' List.forall_mem_cons.mpr ⟨?fa, ?fb⟩; (case fa => (repeat (first | exact List.not_mem_nil | (refine' List.not_mem_cons_of_ne_of_not_mem ?fn ?_; (case fn => k_ne)))))); (case fb => k_extra "MineFresh"))
  (k_with "MineMem" => first | exact List.forall_mem_nil _ | (refine' List.forall_mem_cons.mpr ⟨?fa, ?fb⟩; (case fa => k_mem); (case fb => k_extra "MineMem")))
  (k_with "MineSide" => ((case kA => exact rfl); (case kh => exact rfl); (case kd => exact Nat.le_of_ble_eq_true rfl); (case ku => exact Nat.le_of_ble_eq_true rfl); (case kB => k_asm); (case kF => k_asm); (case kX => k_asm); (case kN => k_asm); (case kT => k_asm); (case kk => exact rfl)))
  (k_with "MineLed" => ((try simp only [List.nil_append, List.cons_append] at N'); (try (replace D' := allNe2_of D'; simp only [AllNe2, AllNe, and_true] at D'))))
  (k_with "MineLeaveW" => ((case F => k_asm); (case N => k_asm); (case h1 => k_mem); (case h2 => k_extra "MineMem"); (case h3 => k_extra "MineMem"); intro F9 N9 K9 Z9))
  (k_with "MineLeaveR" => ((case F => k_asm); (case N => k_asm); (case h2 => k_extra "MineMem"); (case h3 => k_extra "MineMem"); intro F9 N9 K9 Z9))
  (k_with "MineGetLen" => (exfalso; omega))
  (k_with "MinePut" => (first | exact Int.lt_of_lt_of_le (b := 256) (by omega) (by decide) | exact Int.lt_of_lt_of_le (b := 65536) (by omega) (by decide) | exact Int.lt_of_lt_of_le (b := 16777216) (by omega) (by decide) | exact Int.lt_of_lt_of_le (b := 281474976710656) (by omega) (by decide)))
  (k_with "MineBytes" => first | assumption | exact bI1 ⟨by omega, by omega⟩ | exact bI2 ⟨by omega, by omega⟩ ⟨by omega, by omega⟩ | exact zeros_ints _ | exact KBw.ints_list _)
  (k_with "MineAdd" => (k_here; (with_reducible show wpAny _ _ (binaryOp Operator.Add (Value.bytes _ _) (Value.bytes _ _)) _ _ _); (refine KBa.add_K (by k_extra "MineBytes") (by k_extra "MineBytes") (by first | (simp only [List.length_cons, List.length_nil, List.length_append, List.length_map, List.length_replicate, rangeInts_length]; omega) | omega | (simp only [List.length_cons, List.length_nil, List.length_append, List.length_map, List.length_replicate, sum_len]; omega)) ?_); intro t' k' hb'))
  (k_with "MinePutBad" => (intro h9; first | (have h8 := Int.lt_of_lt_of_le h9 (show (1 * 2 ^ ((8:Int) * 1).toNat : Int) ≤ 256 by decide); omega) | (have h8 := Int.lt_of_lt_of_le h9 (show (1 * 2 ^ ((8:Int) * 3).toNat : Int) ≤ 16777216 by decide); omega)))
  (k_with "MinePass" => ((rename RaisedS _ _ _ _ _ _ _ _ _ => rsX); k_dflt (refine' leave_onX (news := ?sub) ?K ?F ?hf rsX ?U ?hs ?_; (case sub => first | k_extra "MineSub" | exact []); (case K => k_asm); (case F => k_asm); (case hf => exact rfl); (case U => k_asm); (case hs => k_extra "MineMem"); intro h9 R9 U9)))
  (k_with "MineEnterS" => (refine wpAny_call ?_; k_dflt (refine' enterQS ?k1 ?k2 ?k3 ?k4 ?k5 ?k0 ?kA ?kF ?kK ?k6 ?k7 ?k8 ?k9 ?kB ?_ ?c2 ?c3 ?c4 ?c5; (case kA => exact rfl); (case kF => exact rfl); (case kK => assumption); (case k1 => k_asm); (case k2 => k_asm); (case k3 => k_asm); (case k4 => k_asm); (case k5 => k_asm); (case k0 => k_asm); (case k6 => k_is); (case k7 => k_is); (case k8 => ktr_room); (case k9 => first | exact BindsTo.of_eq rfl | exact binds_K (by k_in) rfl (by k_is) rfl rfl rfl); (case c5 => decide); (case kB => exact locs rfl); (case c2 => exact rfl); (case c3 => exact rfl); (case c4 => exact rfl)); intro g' L' h' tk' FG' F' N' B' X' T' D' hg' lL'; (try k_lt lL'); (try dsimp only); (try k_fold)))
  (k_with "MineEnterSC" => (refine wpAny_call ?_; k_dflt (refine' enterQSC ?k1 ?k2 ?k3 ?k4 ?k5 ?k0 ?kA ?kF ?kK ?k6 ?k7 ?k8 ?k9 ?kB ?kD ?_ ?c2 ?c3 ?c4; (case kA => exact rfl); (case kF => exact rfl); (case kK => assumption); (case k1 => k_asm); (case k2 => k_asm); (case k3 => k_asm); (case k4 => k_asm); (case k5 => k_asm); (case k0 => k_asm); (case k6 => k_is); (case k7 => k_is); (case k8 => ktr_room); (case k9 => first | exact BindsTo.of_eq rfl | exact binds_K (by k_in) rfl (by k_is) rfl rfl rfl); (case kB => exact rfl); (case kD => decide +kernel); (case c2 => exact rfl); (case c3 => exact rfl); (case c4 => exact rfl)); intro g' L' h' tk' cells' FG' F' N' Y' B' X' T' D' hg' lL'; (try k_lt lL'); k_cells Y'; (try simp only [List.cons_append, List.nil_append] at N'); (try dsimp only); (try k_fold)))
  (k_with "MineEnterL" => (refine wpAny_call ?_; k_dflt (refine' enterQL ?k1 ?k2 ?k3 ?k4 ?k5 ?kA ?kF ?kK ?ho ?hc ?hd ?hv ?k8 ?k9 ?kB ?_ ?c2 ?c3 ?c4 ?c5; (case kA => exact rfl); (case kF => exact rfl); (case kK => assumption); (case k1 => k_asm); (case k2 => k_asm); (case k3 => k_asm); (case k4 => k_asm); (case k5 => k_asm); (case ho => k_mem); (case hc => k_mem); (case hd => assumption); (case hv => assumption); (case k8 => ktr_room); (case k9 => exact rfl); (case c5 => decide); (case kB => exact locs rfl); (case c2 => exact rfl); (case c3 => exact rfl); (case c4 => exact rfl)); intro g' L' h' tk' FG' F' N' B' X' T' hg' lL'; (try k_lt lL'); (try dsimp only); (try k_fold)))
  (k_with "MineWalkL" => (k_extra "MineEnterL"; k_dflt (show wpAny _ _ (eval (Expr.Call _ _ _ _) _) _ _ _); k_steps; all_goals (try dsimp only); all_goals (try (k_unfold; dsimp only))))
  (k_with "MineWalkS" => (k_extra "MineEnterS"; k_steps; all_goals (try dsimp only); all_goals (try (k_unfold; dsimp only))))
  (k_with "MineSame" => first | exact SameL.nil | (refine' SameL.cons ?sa ?sb; (case sa => first | exact same_int _ _ _ | exact same_bytes _ _ _ | exact PySem.SeqAt.EqAt.same _); (case sb => k_extra "MineSame")))
  (k_with "MineNeT" => (k_here; (with_reducible show wpAny _ _ (compareOp CmpOp.NotEq (Value.ref _) (Value.ref _)) _ _ _); k_dflt (refine' ne_tups ?N ?ml ?mb ?cl ?dl ?cb ?db ?hu ?hs ?_; (case N => k_asm); (case ml => k_mem); (case mb => k_mem); (case cl => rfl); (case dl => rfl); (case cb => rfl); (case db => rfl); (case hu => ke_room); (case hs => k_extra "MineSame"))))
  (k_with "MineEqT" => (k_here; (with_reducible show wpAny _ _ (compareOp CmpOp.Eq (Value.ref _) (Value.ref _)) _ _ _); k_dflt (refine' eq_tups ?N ?ml ?mb ?cl ?dl ?cb ?db ?hu ?hs ?_; (case N => k_asm); (case ml => k_mem); (case mb => k_mem); (case cl => rfl); (case dl => rfl); (case cb => rfl); (case db => rfl); (case hu => ke_room); (case hs => k_extra "MineSame"))))
  (k_with "MineNew" => ((try dsimp only [AllNe] at D1'); (try dsimp only [AllNe] at D2'); (try dsimp only [AllNe] at D3')))
  (k_with "MineNe1" => (refine neN ?_; (try dsimp only); with_reducible first | assumption | (refine Ne.symm ?_; assumption) | exact Nat.ne_of_lt (by assumption) | exact Nat.ne_of_gt (by assumption) | exact Nat.ne_of_lt (by k_extra "MineLtS") | exact Nat.ne_of_gt (by k_extra "MineLtS") | k_extra "MineNe2"))
  (k_with "MineLtS" => first | assumption | exact Nat.lt_succ_self _ | (refine Nat.lt_succ_of_lt ?_; k_extra "MineLtS"))
  (k_with "MineNe2" => (rename _ ∧ _ => hc9; first | k_extra "MinePrj" | (clear hc9; k_extra "MineNe2")))
  (k_with "MinePrj" => first | exact hc9.1 | exact Ne.symm hc9.1 | exact Nat.ne_of_lt hc9.1 | exact Nat.ne_of_gt hc9.1 | exact hc9.2.1 | exact Ne.symm hc9.2.1 | exact Nat.ne_of_lt hc9.2.1 | exact Nat.ne_of_gt hc9.2.1 | exact hc9.2.2.1 | exact Ne.symm hc9.2.2.1 | exact Nat.ne_of_lt hc9.2.2.1 | exact Nat.ne_of_gt hc9.2.2.1 | exact hc9.2.2.2.1 | exact Ne.symm hc9.2.2.2.1 | exact Nat.ne_of_lt hc9.2.2.2.1 | exact Nat.ne_of_gt hc9.2.2.2.1 | exact hc9.2.2.2.2.1 | exact Ne.symm hc9.2.2.2.2.1 | exact Nat.ne_of_lt hc9.2.2.2.2.1 | exact Nat.ne_of_gt hc9.2.2.2.2.1 | exact hc9.2.2.2.2.2.1 | exact Ne.symm hc9.2.2.2.2.2.1 | exact Nat.ne_of_lt hc9.2.2.2.2.2.1 | exact Nat.ne_of_gt hc9.2.2.2.2.2.1 | exact hc9.2.2.2.2.2.2.1 | exact Ne.symm hc9.2.2.2.2.2.2.1 | exact Nat.ne_of_lt hc9.2.2.2.2.2.2.1 | exact Nat.ne_of_gt hc9.2.2.2.2.2.2.1 | exact hc9.2.2.2.2.2.2.2.1 | exact Ne.symm hc9.2.2.2.2.2.2.2.1 | exact Nat.ne_of_lt hc9.2.2.2.2.2.2.2.1 | exact Nat.ne_of_gt hc9.2.2.2.2.2.2.2.1 | exact hc9.2.2.2.2.2.2.2.2.1 | exact Ne.symm hc9.2.2.2.2.2.2.2.2.1 | exact Nat.ne_of_lt hc9.2.2.2.2.2.2.2.2.1 | exact Nat.ne_of_gt hc9.2.2.2.2.2.2.2.2.1 | exact hc9.2.2.2.2.2.2.2.2.2.1 | exact Ne.symm hc9.2.2.2.2.2.2.2.2.2.1 | exact Nat.ne_of_lt hc9.2.2.2.2.2.2.2.2.2.1 | exact Nat.ne_of_gt hc9.2.2.2.2.2.2.2.2.2.1 | exact hc9.2.2.2.2.2.2.2.2.2.2.1 | exact Ne.symm hc9.2.2.2.2.2.2.2.2.2.2.1 | exact Nat.ne_of_lt hc9.2.2.2.2.2.2.2.2.2.2.1 | exact Nat.ne_of_gt hc9.2.2.2.2.2.2.2.2.2.2.1 | exact hc9.2.2.2.2.2.2.2.2.2.2.2.1 | exact Ne.symm hc9.2.2.2.2.2.2.2.2.2.2.2.1 | exact Nat.ne_of_lt hc9.2.2.2.2.2.2.2.2.2.2.2.1 | exact Nat.ne_of_gt hc9.2.2.2.2.2.2.2.2.2.2.2.1 | exact hc9.2.2.2.2.2.2.2.2.2.2.2.2.1 | exact Ne.symm hc9.2.2.2.2.2.2.2.2.2.2.2.2.1 | exact Nat.ne_of_lt hc9.2.2.2.2.2.2.2.2.2.2.2.2.1 | exact Nat.ne_of_gt hc9.2.2.2.2.2.2.2.2.2.2.2.2.1 | exact hc9.2.2.2.2.2.2.2.2.2.2.2.2.2.1 | exact Ne.symm hc9.2.2.2.2.2.2.2.2.2.2.2.2.2.1 | exact Nat.ne_of_lt hc9.2.2.2.2.2.2.2.2.2.2.2.2.2.1 | exact Nat.ne_of_gt hc9.2.2.2.2.2.2.2.2.2.2.2.2.2.1 | exact hc9.2.2.2.2.2.2.2.2.2.2.2.2.2.2.1 | exact Ne.symm hc9.2.2.2.2.2.2.2.2.2.2.2.2.2.2.1 | exact Nat.ne_of_lt hc9.2.2.2.2.2.2.2.2.2.2.2.2.2.2.1 | exact Nat.ne_of_gt hc9.2.2.2.2.2.2.2.2.2.2.2.2.2.2.1 | exact hc9.2.2.2.2.2.2.2.2.2.2.2.2.2.2.2.1 | exact Ne.symm hc9.2.2.2.2.2.2.2.2.2.2.2.2.2.2.2.1 | exact Nat.ne_of_lt hc9.2.2.2.2.2.2.2.2.2.2.2.2.2.2.2.1 | exact Nat.ne_of_gt hc9.2.2.2.2.2.2.2.2.2.2.2.2.2.2.2.1)
  trivial
theorem wordsK_CJ : True := by
  (k_with "call ref" => (k_here; (with_reducible show wpAny _ _ (call (Value.ref 170) _) _ _ _); (try k_fold); k_dflt (refine' Ok.useBy (put_ok _ _ _ _ _ ?p0 ?p1 ?p2 ?p3) ?kA ?kh ?kd ?ku ?kB ?kF ?kX ?kN ?kT ?kk ?ks ?_; k_extra "MineSide"; (case ks => k_extra "MineMem"); (case p0 => first | assumption | decide | omega); (case p1 => first | assumption | decide | omega); (case p2 => first | assumption | decide | omega); (case p3 => first | assumption | k_extra "MinePut"); intro b' t' h' tk' hb' F' N'; (first | rw [put1 (by omega) (by omega)] at hb' | rw [put2 (by omega) (by omega)] at hb' | rw [put3 (by omega) (by omega)] at hb' | rw [put65] at hb' | rw [put66] at hb' | skip))))
  trivial
abbrev linkL (P : Params) (x dx : Addr) (k1 k2 k3 k4 : Tok) (p0 p1 c : Int) (t0 t1 tc : Tok) (pb : Array UInt8) (tp : Tok) : Led := [(x, instObj 334 dx), (dx, llcD P k1 k2 k3 k4 (.int p0 t0) (.int p1 t1) (.int c tc) (.bytes pb tp))]
local macro_rules | `(tactic| walk_at "binaryOp Add bytes bytes") => `(tactic| k_extra "MineAdd")
theorem wordsCJ : True := by
  (k_with "exec Raise some none" => (exfalso; have hno := pk_no hL (by assumption); exact absurd hno.1 (by assumption)))
  (k_with "exec Raise some none" => (exfalso; have hno := pk_no hL (by assumption); exact absurd hno.2 (by assumption)))
  trivial
section
variable {loose : List Str} {mean : ExcName → Option Value} {mg mb : Str → Option Value}
theorem pack_llc_ok : ∀ (w : World) (x dx : Addr) (k1 k2 k3 k4 : Tok) (p0 p1 c : Int) (t0 t1 tc : Tok) (pb : Array UInt8) (tp : Tok) (pl ks : List Int), @Ne Nat x dx → KBw.bInts pb = pl → pl.length ≤ 50 → LaidIs ks p0 p1 c pl → (0 ≤ p0 ∧ p0 < 256) → (0 ≤ p1 ∧ p1 < 256) →
    Ok w loose mean mg mb 335 2680 (.ref 352) [.ref x] (linkL w.params x dx k1 k2 k3 k4 p0 p1 c t0 t1 tc pb tp) (RPost (linkL w.params x dx k1 k2 k3 k4 p0 p1 c t0 t1 tc pb tp) (BytesAre ks)) := by
  intro w x dx k1 k2 k3 k4 p0 p1 c t0 t1 tc pb tp pl ks hne hb hl hL h0 h1
  have hc0 := laid_c hL
  obtain ⟨hc0, hc1⟩ := hc0
  obtain ⟨hp00, hp01⟩ := h0
  obtain ⟨hp10, hp11⟩ := h1
  unfold Ok
  k_fill
  intro cn cs a ccd cl outer A₀ base h₀ L m s Q E B F X N T hk hret
  k_extra "MineWalk"
  · refine' leaveR (nw := []) ?F ?N ?_ ?h2 ?h3
    k_extra "MineLeaveR"
    refine hret _ _ _ _ ⟨[], rfl, List.forall_mem_nil _, rfl, _, _, rfl, ?_⟩ F9 N9 K9 Z9
    rw [pk_one hL (by assumption) (by assumption)]; assumption
  · refine' leaveR (nw := []) ?F ?N ?_ ?h2 ?h3
    k_extra "MineLeaveR"
    refine hret _ _ _ _ ⟨[], rfl, List.forall_mem_nil _, rfl, _, _, rfl, ?_⟩ F9 N9 K9 Z9
    rw [pk_two hL (by assumption) (by assumption)]; assumption
  · refine' leaveR (nw := []) ?F ?N ?_ ?h2 ?h3
    k_extra "MineLeaveR"
    refine hret _ _ _ _ ⟨[], rfl, List.forall_mem_nil _, rfl, _, _, rfl, ?_⟩ F9 N9 K9 Z9
    rw [pk_two' hL (by assumption)]; assumption
end

-- part CK
theorem words0_CK : True := by
  k_with_none
  (k_with "MineEnter" => (refine wpAny_call ?_; k_dflt (refine' enterQ ?k1 ?k2 ?k3 ?k4 ?k5 ?kA ?kF ?kK ?k6 ?k7 ?k8 ?k9 ?kB ?_ ?c2 ?c3 ?c4 ?c5; (case kA => exact rfl); (case kF => exact rfl); (case kK => assumption); (case k1 => k_asm); (case k2 => k_asm); (case k3 => k_asm); (case k4 => k_asm); (case k5 => k_asm); (case k6 => k_is); (case k7 => k_is); (case k8 => ktr_room); (case k9 => first | exact BindsTo.of_eq rfl | exact binds_K (by k_in) rfl (by k_is) rfl rfl rfl); (case c5 => decide); (case kB => exact locs rfl); (case c2 => exact rfl); (case c3 => exact rfl); (case c4 => exact rfl)); intro g' L' h' tk' FG' F' N' B' X' T' hg' lL'; (try k_lt lL'); (try dsimp only); (try k_fold)))
  (k_with "MineEnterC" => (refine wpAny_call ?_; k_dflt (refine' enterQC ?k1 ?k2 ?k3 ?k4 ?k5 ?kA ?kF ?kK ?k6 ?k7 ?k8 ?k9 ?kB ?kD ?_ ?c2 ?c3 ?c4; (case kA => exact rfl); (case kF => exact rfl); (case kK => assumption); (case k1 => k_asm); (case k2 => k_asm); (case k3 => k_asm); (case k4 => k_asm); (case k5 => k_asm); (case k6 => k_is); (case k7 => k_is); (case k8 => ktr_room); (case k9 => first | exact BindsTo.of_eq rfl | exact binds_K (by k_in) rfl (by k_is) rfl rfl rfl); (case kB => exact rfl); (case kD => decide +kernel); (case c2 => exact rfl); (case c3 => exact rfl); (case c4 => exact rfl)); intro g' L' h' tk' cells' FG' F' N' Y' B' X' T' hg' lL'; (try k_lt lL'); k_cells Y'; (try simp only [List.cons_append, List.nil_append] at N'); (try dsimp only); (try k_fold)))
  (k_with "MineWalkC" => (k_extra "MineEnterC"; k_steps; all_goals (try dsimp only); all_goals (try (k_unfold; dsimp only))))
  (k_with "MineWalk" => (k_extra "MineEnter"; k_steps; all_goals (try dsimp only); all_goals (try (k_unfold; dsimp only))))
  (k_with "MineFresh" => first | exact List.forall_mem_nil _ | (refine' List.forall_mem_cons.mpr ⟨?fa, ?fb⟩; (case fa => (repeat (first | exact List.not_mem_nil | (refine' List.not_mem_cons_of_ne_of_not_mem ?fn ?_; (case fn => k_ne)))))); (case fb => k_extra "MineFresh"))
  (k_with "MineMem" => first | exact List.forall_mem_nil _ | (refine' List.forall_mem_cons.mpr ⟨?fa, ?fb⟩; (case fa => k_mem); (case fb => k_extra "MineMem")))
  (k_with "MineSide" => ((case kA => exact rfl); (case kh => exact rfl); (case kd => exact Nat.le_of_ble_eq_true rfl); (case ku => exact Nat.le_of_ble_eq_true rfl); (case kB => k_asm); (case kF => k_asm); (case kX => k_asm); (case kN => k_asm); (case kT => k_asm); (case kk => exact rfl)))
  (k_with "MineLed" => ((try simp only [List.nil_append, List.cons_append] at N'); (try (replace D' := allNe2_of D'; simp only [AllNe2, AllNe, and_true] at D'))))
  (k_with "MineLeaveW" => ((case F => k_asm); (case N => k_asm); (case h1 => k_mem); (case h2 => k_extra "MineMem"); (case h3 => k_extra "MineMem"); intro F9 N9 K9 Z9))
  (k_with "MineLeaveR" => ((case F => k_asm); (case N => k_asm); (case h2 => k_extra "MineMem"); (case h3 => k_extra "MineMem"); intro F9 N9 K9 Z9))
  (k_with "MineGetLen" => (exfalso; omega))
  (k_with "MinePut" => (first | exact Int.lt_of_lt_of_le (b := 256) (by omega) (by decide) | exact Int.lt_of_lt_of_le (b := 65536) (by omega) (by decide) | exact Int.lt_of_lt_of_le (b := 16777216) (by omega) (by decide) | exact Int.lt_of_lt_of_le (b := 281474976710656) (by omega) (by decide)))
  (k_with "MineBytes" => first | assumption | exact bI1 ⟨by omega, by omega⟩ | exact bI2 ⟨by omega, by omega⟩ ⟨by omega, by omega⟩ | exact zeros_ints _ | exact KBw.ints_list _)
  (k_with "MineAdd" => (k_here; (with_reducible show wpAny _ _ (binaryOp Operator.Add (Value.bytes _ _) (Value.bytes _ _)) _ _ _); (refine KBa.add_K (by k_extra "MineBytes") (by k_extra "MineBytes") (by first | (simp only [List.length_cons, List.length_nil, List.length_append, List.length_map, List.length_replicate, rangeInts_length]; omega) | omega | (simp only [List.length_cons, List.length_nil, List.length_append, List.length_map, List.length_replicate, sum_len]; omega)) ?_); intro t' k' hb'))
  (k_with "MinePutBad" => (intro h9; first | (have h8 := Int.lt_of_lt_of_le h9 (show (1 * 2 ^ ((8:Int) * 1).toNat : Int) ≤ 256 by decide); omega) | (have h8 := Int.lt_of_lt_of_le h9 (show (1 * 2 ^ ((8:Int) * 3).toNat : Int) ≤ 16777216 by decide); omega)))
  (k_with "MinePass" => ((rename RaisedS _ _ _ _ _ _ _ _ _ => rsX); k_dflt (refine' leave_onX (news := ?sub) ?K ?F ?hf rsX ?U ?hs ?_; (case sub => first | k_extra "MineSub" | exact []); (case K => k_asm); (case F => k_asm); (case hf => exact rfl); (case U => k_asm); (case hs => k_extra "MineMem"); intro h9 R9 U9)))
  (k_with "MineEnterS" => (refine wpAny_call ?_; k_dflt (refine' enterQS ?k1 ?k2 ?k3 ?k4 ?k5 ?k0 ?kA ?kF ?kK ?k6 ?k7 ?k8 ?k9 ?kB ?_ ?c2 ?c3 ?c4 ?c5; (case kA => exact rfl); (case kF => exact rfl); (case kK => assumption); (case k1 => k_asm); (case k2 => k_asm); (case k3 => k_asm); (case k4 => k_asm); (case k5 => k_asm); (case k0 => k_asm); (case k6 => k_is); (case k7 => k_is); (case k8 => ktr_room); (case k9 => first | exact BindsTo.of_eq rfl | exact binds_K (by k_in) rfl (by k_is) rfl rfl rfl); (case c5 => decide); (case kB => exact locs rfl); (case c2 => exact rfl); (case c3 => exact rfl); (case c4 => exact rfl)); intro g' L' h' tk' FG' F' N' B' X' T' D' hg' lL'; (try k_lt lL'); (try dsimp only); (try k_fold)))
  (k_with "MineEnterSC" => (refine wpAny_call ?_; k_dflt (refine' enterQSC ?k1 ?k2 ?k3 ?k4 ?k5 ?k0 ?kA ?kF ?kK ?k6 ?k7 ?k8 ?k9 ?kB ?kD ?_ ?c2 ?c3 ?c4; (case kA => exact rfl); (case kF => exact rfl); (case kK => assumption); (case k1 => k_asm); (case k2 => k_asm); (case k3 => k_asm); (case k4 => k_asm); (case k5 => k_asm); (case k0 => k_asm); (case k6 => k_is); (case k7 => k_is); (case k8 => ktr_room); (case k9 => first | exact BindsTo.of_eq rfl | exact binds_K (by k_in) rfl (by k_is) rfl rfl rfl); (case kB => exact rfl); (case kD => decide +kernel); (case c2 => exact rfl); (case c3 => exact rfl); (case c4 => exact rfl)); intro g' L' h' tk' cells' FG' F' N' Y' B' X' T' D' hg' lL'; (try k_lt lL'); k_cells Y'; (try simp only [List.cons_append, List.nil_append] at N'); (try dsimp only); (try k_fold)))
  (k_with "MineEnterL" => (refine wpAny_call ?_; k_dflt (refine' enterQL ?k1 ?k2 ?k3 ?k4 ?k5 ?kA ?kF ?kK ?ho ?hc ?hd ?hv ?k8 ?k9 ?kB ?_ ?c2 ?c3 ?c4 ?c5; (case kA => exact rfl); (case kF => exact rfl); (case kK => assumption); (case k1 => k_asm); (case k2 => k_asm); (case k3 => k_asm); (case k4 => k_asm); (case k5 => k_asm); (case ho => k_mem); (case hc => k_mem); (case hd => assumption); (case hv => assumption); (case k8 => ktr_room); (case k9 => exact rfl); (case c5 => decide); (case kB => exact locs rfl); (case c2 => exact rfl); (case c3 => exact rfl); (case c4 => exact rfl)); intro g' L' h' tk' FG' F' N' B' X' T' hg' lL'; (try k_lt lL'); (try dsimp only); (try k_fold)))
  (k_with "MineWalkL" => (k_extra "MineEnterL"; k_dflt (show wpAny _ _ (eval (Expr.Call _ _ _ _) _) _ _ _); k_steps; all_goals (try dsimp only); all_goals (try (k_unfold; dsimp only))))
  (k_with "MineWalkS" => (k_extra "MineEnterS"; k_steps; all_goals (try dsimp only); all_goals (try (k_unfold; dsimp only))))
  (k_with "MineSame" => first | exact SameL.nil | (refine' SameL.cons ?sa ?sb; (case sa => first | exact same_int _ _ _ | exact same_bytes _ _ _ | exact PySem.SeqAt.EqAt.same _); (case sb => k_extra "MineSame")))
  (k_with "MineNeT" => (k_here; (with_reducible show wpAny _ _ (compareOp CmpOp.NotEq (Value.ref _) (Value.ref _)) _ _ _); k_dflt (refine' ne_tups ?N ?ml ?mb ?cl ?dl ?cb ?db ?hu ?hs ?_; (case N => k_asm); (case ml => k_mem); (case mb => k_mem); (case cl => rfl); (case dl => rfl); (case cb => rfl); (case db => rfl); (case hu => ke_room); (case hs => k_extra "MineSame"))))
  (k_with "MineEqT" => (k_here; (with_reducible show wpAny _ _ (compareOp CmpOp.Eq (Value.ref _) (Value.ref _)) _ _ _); k_dflt (refine' eq_tups ?N ?ml ?mb ?cl ?dl ?cb ?db ?hu ?hs ?_; (case N => k_asm); (case ml => k_mem); (case mb => k_mem); (case cl => rfl); (case dl => rfl); (case cb => rfl); (case db => rfl); (case hu => ke_room); (case hs => k_extra "MineSame"))))
  (k_with "MineNew" => ((try dsimp only [AllNe] at D1'); (try dsimp only [AllNe] at D2'); (try dsimp only [AllNe] at D3')))
  (k_with "MineNe1" => (refine neN ?_; (try dsimp only); with_reducible first | assumption | (refine Ne.symm ?_; assumption) | exact Nat.ne_of_lt (by assumption) | exact Nat.ne_of_gt (by assumption) | exact Nat.ne_of_lt (by k_extra "MineLtS") | exact Nat.ne_of_gt (by k_extra "MineLtS") | k_extra "MineNe2"))
  (k_with "MineLtS" => first | assumption | exact Nat.lt_succ_self _ | (refine Nat.lt_succ_of_lt ?_; k_extra "MineLtS"))
  (k_with "MineNe2" => (rename _ ∧ _ => hc9; first | k_extra "MinePrj" | (clear hc9; k_extra "MineNe2")))
  (k_with "MinePrj" => first | exact hc9.1 | exact Ne.symm hc9.1 | exact Nat.ne_of_lt hc9.1 | exact Nat.ne_of_gt hc9.1 | exact hc9.2.1 | exact Ne.symm hc9.2.1 | exact Nat.ne_of_lt hc9.2.1 | exact Nat.ne_of_gt hc9.2.1 | exact hc9.2.2.1 | exact Ne.symm hc9.2.2.1 | exact Nat.ne_of_lt hc9.2.2.1 | exact Nat.ne_of_gt hc9.2.2.1 | exact hc9.2.2.2.1 | exact Ne.symm hc9.2.2.2.1 | exact Nat.ne_of_lt hc9.2.2.2.1 | exact Nat.ne_of_gt hc9.2.2.2.1 | exact hc9.2.2.2.2.1 | exact Ne.symm hc9.2.2.2.2.1 | exact Nat.ne_of_lt hc9.2.2.2.2.1 | exact Nat.ne_of_gt hc9.2.2.2.2.1 | exact hc9.2.2.2.2.2.1 | exact Ne.symm hc9.2.2.2.2.2.1 | exact Nat.ne_of_lt hc9.2.2.2.2.2.1 | exact Nat.ne_of_gt hc9.2.2.2.2.2.1 | exact hc9.2.2.2.2.2.2.1 | exact Ne.symm hc9.2.2.2.2.2.2.1 | exact Nat.ne_of_lt hc9.2.2.2.2.2.2.1 | exact Nat.ne_of_gt hc9.2.2.2.2.2.2.1 | exact hc9.2.2.2.2.2.2.2.1 | exact Ne.symm hc9.2.2.2.2.2.2.2.1 | exact Nat.ne_of_lt hc9.2.2.2.2.2.2.2.1 | exact Nat.ne_of_gt hc9.2.2.2.2.2.2.2.1 | exact hc9.2.2.2.2.2.2.2.2.1 | exact Ne.symm hc9.2.2.2.2.2.2.2.2.1 | exact Nat.ne_of_lt hc9.2.2.2.2.2.2.2.2.1 | exact Nat.ne_of_gt hc9.2.2.2.2.2.2.2.2.1 | exact hc9.2.2.2.2.2.2.2.2.2.1 | exact Ne.symm hc9.2.2.2.2.2.2.2.2.2.1 | exact Nat.ne_of_lt hc9.2.2.2.2.2.2.2.2.2.1 | exact Nat.ne_of_gt hc9.2.2.2.2.2.2.2.2.2.1 | exact hc9.2.2.2.2.2.2.2.2.2.2.1 | exact Ne.symm hc9.2.2.2.2.2.2.2.2.2.2.1 | exact Nat.ne_of_lt hc9.2.2.2.2.2.2.2.2.2.2.1 | exact Nat.ne_of_gt hc9.2.2.2.2.2.2.2.2.2.2.1 | exact hc9.2.2.2.2.2.2.2.2.2.2.2.1 | exact Ne.symm hc9.2.2.2.2.2.2.2.2.2.2.2.1 | exact Nat.ne_of_lt hc9.2.2.2.2.2.2.2.2.2.2.2.1 | exact Nat.ne_of_gt hc9.2.2.2.2.2.2.2.2.2.2.2.1 | exact hc9.2.2.2.2.2.2.2.2.2.2.2.2.1 | exact Ne.symm hc9.2.2.2.2.2.2.2.2.2.2.2.2.1 | exact Nat.ne_of_lt hc9.2.2.2.2.2.2.2.2.2.2.2.2.1 | exact Nat.ne_of_gt hc9.2.2.2.2.2.2.2.2.2.2.2.2.1 | exact hc9.2.2.2.2.2.2.2.2.2.2.2.2.2.1 | exact Ne.symm hc9.2.2.2.2.2.2.2.2.2.2.2.2.2.1 | exact Nat.ne_of_lt hc9.2.2.2.2.2.2.2.2.2.2.2.2.2.1 | exact Nat.ne_of_gt hc9.2.2.2.2.2.2.2.2.2.2.2.2.2.1 | exact hc9.2.2.2.2.2.2.2.2.2.2.2.2.2.2.1 | exact Ne.symm hc9.2.2.2.2.2.2.2.2.2.2.2.2.2.2.1 | exact Nat.ne_of_lt hc9.2.2.2.2.2.2.2.2.2.2.2.2.2.2.1 | exact Nat.ne_of_gt hc9.2.2.2.2.2.2.2.2.2.2.2.2.2.2.1 | exact hc9.2.2.2.2.2.2.2.2.2.2.2.2.2.2.2.1 | exact Ne.symm hc9.2.2.2.2.2.2.2.2.2.2.2.2.2.2.2.1 | exact Nat.ne_of_lt hc9.2.2.2.2.2.2.2.2.2.2.2.2.2.2.2.1 | exact Nat.ne_of_gt hc9.2.2.2.2.2.2.2.2.2.2.2.2.2.2.2.1)
  trivial
theorem wordsK_CK : True := by
  (k_with "call ref" => (k_here; (with_reducible show wpAny _ _ (call (Value.ref 177) _) _ _ _); (try k_fold); k_dflt (refine' Ok.useIn (get_ok _ _ _ _ _ _ _ _ ?p0 ?p1 ?p2 ?p3 ?p4 ?p5) ?kA ?kh ?kd ?ku ?kB ?kF ?kX ?kN ?kT ?kk ?ks ?_; k_extra "MineSide"; (case ks => k_extra "MineMem"); (case p0 => assumption); (case p1 => omega); (case p2 => first | decide | omega); (case p3 => first | decide | omega); (case p4 => first | decide | omega); (case p5 => first | omega | k_extra "MineGetLen"); intro t' h' tk' F' N')))
  (k_with "call ref" => (k_here; (with_reducible show wpAny _ _ (call (Value.ref 177) _) _ _ _); k_dflt (refine' Bad.use (get_bad _ _ _ _ _ _ _ _ ?p0 ?p1 ?p2 ?p3 ?p4 ?p5) ?kA ?kh ?kd ?ku ?kB ?kF ?kX ?kN ?kT ?kk ?ks ?_; k_extra "MineSide"; (case ks => k_extra "MineMem"); (case p0 => assumption); (case p1 => omega); (case p2 => first | decide | omega); (case p3 => first | decide | omega); (case p4 => first | decide | omega); (case p5 => first | omega | k_extra "MineGetBad"); intro e' t' x' h' tk' G' FG' R' U')))
  trivial
section
variable {loose : List Str} {mean : ExcName → Option Value} {mg mb : Str → Option Value}
theorem wordsCK : True := by
  (k_with "leaving ref" => k_extra "MinePass")
  (k_with "MineGetLen" => omega)
  (k_with "subscriptTail" => (exfalso; exact absurd (by assumption) (by assumption : ¬ Builtin.bitAnd _ 3 = 3)))
  trivial
theorem unpack_bad1 : ∀ (w : World) (b : Array UInt8) (tb : Tok) (ks : List Int), KBw.bInts b = ks → ks.length ≤ 2 →
    Bad w loose mean mg mb 335 2680 (.ref 359) [.bytes b tb] [] 44 := by
  intro w b tb ks hb hl
  unfold Bad
  k_fill
  intro cn cs a ccd cl outer A₀ base h₀ L m s Q E B F X N T hk hret
  k_extra "MineWalk"
  · subst hg'
    exact hret _ _ _ _ _ R9 U9
theorem unpack_bad2 : ∀ (w : World) (b : Array UInt8) (tb : Tok) (ks : List Int), KBw.bInts b = ks → ks.length = 3 → ¬ Builtin.bitAnd (beVal (sliceAt ks 2 1)) 3 = 3 →
    Bad w loose mean mg mb 335 2680 (.ref 359) [.bytes b tb] [] 44 := by
  intro w b tb ks hb hl hs
  unfold Bad
  k_fill
  intro cn cs a ccd cl outer A₀ base h₀ L m s Q E B F X N T hk hret
  k_extra "MineWalk"
  · subst hg'
    exact hret _ _ _ _ _ R9 U9
end

-- part CL
theorem words0_CL : True := by
  k_with_none
  (k_with "MineEnter" => (refine wpAny_call ?_; k_dflt (refine' enterQ ?k1 ?k2 ?k3 ?k4 ?k5 ?kA ?kF ?kK ?k6 ?k7 ?k8 ?k9 ?kB ?_ ?c2 ?c3 ?c4 ?c5; (case kA => exact rfl); (case kF => exact rfl); (case kK => assumption); (case k1 => k_asm); (case k2 => k_asm); (case k3 => k_asm); (case k4 => k_asm); (case k5 => k_asm); (case k6 => k_is); (case k7 => k_is); (case k8 => ktr_room); (case k9 => first | exact BindsTo.of_eq rfl | exact binds_K (by k_in) rfl (by k_is) rfl rfl rfl); (case c5 => decide); (case kB => exact locs rfl); (case c2 => exact rfl); (case c3 => exact rfl); (case c4 => exact rfl)); intro g' L' h' tk' FG' F' N' B' X' T' hg' lL'; (try k_lt lL'); (try dsimp only); (try k_fold)))
  (k_with "MineEnterC" => (refine wpAny_call ?_; k_dflt (refine' enterQC ?k1 ?k2 ?k3 ?k4 ?k5 ?kA ?kF ?kK ?k6 ?k7 ?k8 ?k9 ?kB ?kD ?_ ?c2 ?c3 ?c4; (case kA => exact rfl); (case kF => exact rfl); (case kK => assumption); (case k1 => k_asm); (case k2 => k_asm); (case k3 => k_asm); (case k4 => k_asm); (case k5 => k_asm); (case k6 => k_is); (case k7 => k_is); (case k8 => ktr_room); (case k9 => first | exact BindsTo.of_eq rfl | exact binds_K (by k_in) rfl (by k_is) rfl rfl rfl); (case kB => exact rfl); (case kD => decide +kernel); (case c2 => exact rfl); (case c3 => exact rfl); (case c4 => exact rfl)); intro g' L' h' tk' cells' FG' F' N' Y' B' X' T' hg' lL'; (try k_lt lL'); k_cells Y'; (try simp only [List.cons_append, List.nil_append] at N'); (try dsimp only); (try k_fold)))
  (k_with "MineWalkC" => (k_extra "MineEnterC"; k_steps; all_goals (try dsimp only); all_goals (try (k_unfold; dsimp only))))
  (k_with "MineWalk" => (k_extra "MineEnter"; k_steps; all_goals (try dsimp only); all_goals (try (k_unfold; dsimp only))))
  (k_with "MineFresh" => first | exact List.forall_mem_nil _ | (refine' List.forall_mem_cons.mpr ⟨?fa, ?fb⟩; (case fa => (repeat (first | exact List.not_mem_nil | (refine' List.not_mem_cons_of_ne_of_not_mem ?fn ?_; (case fn => k_ne)))))); (case fb => k_extra "MineFresh"))
  (k_with "MineMem" => first | exact List.forall_mem_nil _ | (refine' List.forall_mem_cons.mpr ⟨?fa, ?fb⟩; (case fa => k_mem); (case fb => k_extra "MineMem")))
  (k_with "MineSide" => ((case kA => exact rfl); (case kh => exact rfl); (case kd => exact Nat.le_of_ble_eq_true rfl); (case ku => exact Nat.le_of_ble_eq_true rfl); (case kB => k_asm); (case kF => k_asm); (case kX => k_asm); (case kN => k_asm); (case kT => k_asm); (case kk => exact rfl)))
  (k_with "MineLed" => ((try simp only [List.nil_append, List.cons_append] at N'); (try (replace D' := allNe2_of D'; simp only [AllNe2, AllNe, and_true] at D'))))
  (k_with "MineLeaveW" => ((case F => k_asm); (case N => k_asm); (case h1 => k_mem); (case h2 => k_extra "MineMem"); (case h3 => k_extra "MineMem"); intro F9 N9 K9 Z9))
  (k_with "MineLeaveR" => ((case F => k_asm); (case N => k_asm); (case h2 => k_extra "MineMem"); (case h3 => k_extra "MineMem"); intro F9 N9 K9 Z9))
  (k_with "MineGetLen" => (exfalso; omega))
  (k_with "MinePut" => (first | exact Int.lt_of_lt_of_le (b := 256) (by omega) (by decide) | exact Int.lt_of_lt_of_le (b := 65536) (by omega) (by decide) | exact Int.lt_of_lt_of_le (b := 16777216) (by omega) (by decide) | exact Int.lt_of_lt_of_le (b := 281474976710656) (by omega) (by decide)))
  (k_with "MineBytes" => first | assumption | exact bI1 ⟨by omega, by omega⟩ | exact bI2 ⟨by omega, by omega⟩ ⟨by omega, by omega⟩ | exact zeros_ints _ | exact KBw.ints_list _)
  (k_with "MineAdd" => (k_here; (with_reducible show wpAny _ _ (binaryOp Operator.Add (Value.bytes _ _) (Value.bytes _ _)) _ _ _); (refine KBa.add_K (by k_extra "MineBytes") (by k_extra "MineBytes") (by first | (simp only [List.length_cons, List.length_nil, List.length_append, List.length_map, List.length_replicate, rangeInts_length]; omega) | omega | (simp only [List.length_cons, List.length_nil, List.length_append, List.length_map, List.length_replicate, sum_len]; omega)) ?_); intro t' k' hb'))
  (k_with "MinePutBad" => (intro h9; first | (have h8 := Int.lt_of_lt_of_le h9 (show (1 * 2 ^ ((8:Int) * 1).toNat : Int) ≤ 256 by decide); omega) | (have h8 := Int.lt_of_lt_of_le h9 (show (1 * 2 ^ ((8:Int) * 3).toNat : Int) ≤ 16777216 by decide); omega)))
  (k_with "MinePass" => ((rename RaisedS _ _ _ _ _ _ _ _ _ => rsX); k_dflt (refine' leave_onX (news := ?sub) ?K ?F ?hf rsX ?U ?hs ?_; (case sub => first | k_extra "MineSub" | exact []); (case K => k_asm); (case F => k_asm); (case hf => exact rfl); (case U => k_asm); (case hs => k_extra "MineMem"); intro h9 R9 U9)))
  (k_with "MineEnterS" => (refine wpAny_call ?_; k_dflt (refine' enterQS ?k1 ?k2 ?k3 ?k4 ?k5 ?k0 ?kA ?kF ?kK ?k6 ?k7 ?k8 ?k9 ?kB ?_ ?c2 ?c3 ?c4 ?c5; (case kA => exact rfl); (case kF => exact rfl); (case kK => assumption); (case k1 => k_asm); (case k2 => k_asm); (case k3 => k_asm); (case k4 => k_asm); (case k5 => k_asm); (case k0 => k_asm); (case k6 => k_is); (case k7 => k_is); (case k8 => ktr_room); (case k9 => first | exact BindsTo.of_eq rfl | exact binds_K (by k_in) rfl (by k_is) rfl rfl rfl); (case c5 => decide); (case kB => exact locs rfl); (case c2 => exact rfl); (case c3 => exact rfl); (case c4 => exact rfl)); intro g' L' h' tk' FG' F' N' B' X' T' D' hg' lL'; (try k_lt lL'); (try dsimp only); (try k_fold)))
  (k_with "MineEnterSC" => (refine wpAny_call ?_; k_dflt (refine' enterQSC ?k1 ?k2 ?k3 ?k4 ?k5 ?k0 ?kA ?kF ?kK ?k6 ?k7 ?k8 ?k9 ?kB ?kD ?_ ?c2 ?c3 ?c4; (case kA => exact rfl); (case kF => exact rfl); (case kK => assumption); (case k1 => k_asm); (case k2 => k_asm); (case k3 => k_asm); (case k4 => k_asm); (case k5 => k_asm); (case k0 => k_asm); (case k6 => k_is); (case k7 => k_is); (case k8 => ktr_room); (case k9 => first | exact BindsTo.of_eq rfl | exact binds_K (by k_in) rfl (by k_is) rfl rfl rfl); (case kB => exact rfl); (case kD => decide +kernel); (case c2 => exact rfl); (case c3 => exact rfl); (case c4 => exact rfl)); intro g' L' h' tk' cells' FG' F' N' Y' B' X' T' D' hg' lL'; (try k_lt lL'); k_cells Y'; (try simp only [List.cons_append, List.nil_append] at N'); (try dsimp only); (try k_fold)))
  (k_with "MineEnterL" => (refine wpAny_call ?_; k_dflt (refine' enterQL ?k1 ?k2 ?k3 ?k4 ?k5 ?kA ?kF ?kK ?ho ?hc ?hd ?hv ?k8 ?k9 ?kB ?_ ?c2 ?c3 ?c4 ?c5; (case kA => exact rfl); (case kF => exact rfl); (case kK => assumption); (case k1 => k_asm); (case k2 => k_asm); (case k3 => k_asm); (case k4 => k_asm); (case k5 => k_asm); (case ho => k_mem); (case hc => k_mem); (case hd => assumption); (case hv => assumption); (case k8 => ktr_room); (case k9 => exact rfl); (case c5 => decide); (case kB => exact locs rfl); (case c2 => exact rfl); (case c3 => exact rfl); (case c4 => exact rfl)); intro g' L' h' tk' FG' F' N' B' X' T' hg' lL'; (try k_lt lL'); (try dsimp only); (try k_fold)))
  (k_with "MineWalkL" => (k_extra "MineEnterL"; k_dflt (show wpAny _ _ (eval (Expr.Call _ _ _ _) _) _ _ _); k_steps; all_goals (try dsimp only); all_goals (try (k_unfold; dsimp only))))
  (k_with "MineWalkS" => (k_extra "MineEnterS"; k_steps; all_goals (try dsimp only); all_goals (try (k_unfold; dsimp only))))
  (k_with "MineSame" => first | exact SameL.nil | (refine' SameL.cons ?sa ?sb; (case sa => first | exact same_int _ _ _ | exact same_bytes _ _ _ | exact PySem.SeqAt.EqAt.same _); (case sb => k_extra "MineSame")))
  (k_with "MineNeT" => (k_here; (with_reducible show wpAny _ _ (compareOp CmpOp.NotEq (Value.ref _) (Value.ref _)) _ _ _); k_dflt (refine' ne_tups ?N ?ml ?mb ?cl ?dl ?cb ?db ?hu ?hs ?_; (case N => k_asm); (case ml => k_mem); (case mb => k_mem); (case cl => rfl); (case dl => rfl); (case cb => rfl); (case db => rfl); (case hu => ke_room); (case hs => k_extra "MineSame"))))
  (k_with "MineEqT" => (k_here; (with_reducible show wpAny _ _ (compareOp CmpOp.Eq (Value.ref _) (Value.ref _)) _ _ _); k_dflt (refine' eq_tups ?N ?ml ?mb ?cl ?dl ?cb ?db ?hu ?hs ?_; (case N => k_asm); (case ml => k_mem); (case mb => k_mem); (case cl => rfl); (case dl => rfl); (case cb => rfl); (case db => rfl); (case hu => ke_room); (case hs => k_extra "MineSame"))))
  (k_with "MineNew" => ((try dsimp only [AllNe] at D1'); (try dsimp only [AllNe] at D2'); (try dsimp only [AllNe] at D3')))
  (k_with "MineNe1" => (refine neN ?_; (try dsimp only); with_reducible first | assumption | (refine Ne.symm ?_; assumption) | exact Nat.ne_of_lt (by assumption) | exact Nat.ne_of_gt (by assumption) | exact Nat.ne_of_lt (by k_extra "MineLtS") | exact Nat.ne_of_gt (by k_extra "MineLtS") | k_extra "MineNe2"))
  (k_with "MineLtS" => first | assumption | exact Nat.lt_succ_self _ | (refine Nat.lt_succ_of_lt ?_; k_extra "MineLtS"))
  (k_with "MineNe2" => (rename _ ∧ _ => hc9; first | k_extra "MinePrj" | (clear hc9; k_extra "MineNe2")))
  (k_with "MinePrj" => first | exact hc9.1 | exact Ne.symm hc9.1 | exact Nat.ne_of_lt hc9.1 | exact Nat.ne_of_gt hc9.1 | exact hc9.2.1 | exact Ne.symm hc9.2.1 | exact Nat.ne_of_lt hc9.2.1 | exact Nat.ne_of_gt hc9.2.1 | exact hc9.2.2.1 | exact Ne.symm hc9.2.2.1 | exact Nat.ne_of_lt hc9.2.2.1 | exact Nat.ne_of_gt hc9.2.2.1 | exact hc9.2.2.2.1 | exact Ne.symm hc9.2.2.2.1 | exact Nat.ne_of_lt hc9.2.2.2.1 | exact Nat.ne_of_gt hc9.2.2.2.1 | exact hc9.2.2.2.2.1 | exact Ne.symm hc9.2.2.2.2.1 | exact Nat.ne_of_lt hc9.2.2.2.2.1 | exact Nat.ne_of_gt hc9.2.2.2.2.1 | exact hc9.2.2.2.2.2.1 | exact Ne.symm hc9.2.2.2.2.2.1 | exact Nat.ne_of_lt hc9.2.2.2.2.2.1 | exact Nat.ne_of_gt hc9.2.2.2.2.2.1 | exact hc9.2.2.2.2.2.2.1 | exact Ne.symm hc9.2.2.2.2.2.2.1 | exact Nat.ne_of_lt hc9.2.2.2.2.2.2.1 | exact Nat.ne_of_gt hc9.2.2.2.2.2.2.1 | exact hc9.2.2.2.2.2.2.2.1 | exact Ne.symm hc9.2.2.2.2.2.2.2.1 | exact Nat.ne_of_lt hc9.2.2.2.2.2.2.2.1 | exact Nat.ne_of_gt hc9.2.2.2.2.2.2.2.1 | exact hc9.2.2.2.2.2.2.2.2.1 | exact Ne.symm hc9.2.2.2.2.2.2.2.2.1 | exact Nat.ne_of_lt hc9.2.2.2.2.2.2.2.2.1 | exact Nat.ne_of_gt hc9.2.2.2.2.2.2.2.2.1 | exact hc9.2.2.2.2.2.2.2.2.2.1 | exact Ne.symm hc9.2.2.2.2.2.2.2.2.2.1 | exact Nat.ne_of_lt hc9.2.2.2.2.2.2.2.2.2.1 | exact Nat.ne_of_gt hc9.2.2.2.2.2.2.2.2.2.1 | exact hc9.2.2.2.2.2.2.2.2.2.2.1 | exact Ne.symm hc9.2.2.2.2.2.2.2.2.2.2.1 | exact Nat.ne_of_lt hc9.2.2.2.2.2.2.2.2.2.2.1 | exact Nat.ne_of_gt hc9.2.2.2.2.2.2.2.2.2.2.1 | exact hc9.2.2.2.2.2.2.2.2.2.2.2.1 | exact Ne.symm hc9.2.2.2.2.2.2.2.2.2.2.2.1 | exact Nat.ne_of_lt hc9.2.2.2.2.2.2.2.2.2.2.2.1 | exact Nat.ne_of_gt hc9.2.2.2.2.2.2.2.2.2.2.2.1 | exact hc9.2.2.2.2.2.2.2.2.2.2.2.2.1 | exact Ne.symm hc9.2.2.2.2.2.2.2.2.2.2.2.2.1 | exact Nat.ne_of_lt hc9.2.2.2.2.2.2.2.2.2.2.2.2.1 | exact Nat.ne_of_gt hc9.2.2.2.2.2.2.2.2.2.2.2.2.1 | exact hc9.2.2.2.2.2.2.2.2.2.2.2.2.2.1 | exact Ne.symm hc9.2.2.2.2.2.2.2.2.2.2.2.2.2.1 | exact Nat.ne_of_lt hc9.2.2.2.2.2.2.2.2.2.2.2.2.2.1 | exact Nat.ne_of_gt hc9.2.2.2.2.2.2.2.2.2.2.2.2.2.1 | exact hc9.2.2.2.2.2.2.2.2.2.2.2.2.2.2.1 | exact Ne.symm hc9.2.2.2.2.2.2.2.2.2.2.2.2.2.2.1 | exact Nat.ne_of_lt hc9.2.2.2.2.2.2.2.2.2.2.2.2.2.2.1 | exact Nat.ne_of_gt hc9.2.2.2.2.2.2.2.2.2.2.2.2.2.2.1 | exact hc9.2.2.2.2.2.2.2.2.2.2.2.2.2.2.2.1 | exact Ne.symm hc9.2.2.2.2.2.2.2.2.2.2.2.2.2.2.2.1 | exact Nat.ne_of_lt hc9.2.2.2.2.2.2.2.2.2.2.2.2.2.2.2.1 | exact Nat.ne_of_gt hc9.2.2.2.2.2.2.2.2.2.2.2.2.2.2.2.1)
  trivial
theorem wordsK_CL : True := by
  (k_with "call ref" => (k_here; (with_reducible show wpAny _ _ (call (Value.ref 170) _) _ _ _); (try k_fold); k_dflt (refine' Ok.useBy (put_ok _ _ _ _ _ ?p0 ?p1 ?p2 ?p3) ?kA ?kh ?kd ?ku ?kB ?kF ?kX ?kN ?kT ?kk ?ks ?_; k_extra "MineSide"; (case ks => k_extra "MineMem"); (case p0 => first | assumption | decide | omega); (case p1 => first | assumption | decide | omega); (case p2 => first | assumption | decide | omega); (case p3 => first | assumption | k_extra "MinePut"); intro b' t' h' tk' hb' F' N'; (first | rw [put1 (by omega) (by omega)] at hb' | rw [put2 (by omega) (by omega)] at hb' | rw [put3 (by omega) (by omega)] at hb' | rw [put65] at hb' | rw [put66] at hb' | skip))))
  (k_with "call ref" => (k_here; (with_reducible show wpAny _ _ (call (Value.ref 334) _) _ _ _); (try k_fold); k_dflt (refine' OkN.useLlc (llc_ok _ _ _ _ _ _ ) ?kA ?kh ?kd ?ku ?kB ?kF ?kX ?kN ?kT ?kk ?_; k_extra "MineSide"; intro x' dx' k1' k2' k3' k4' h' tk' ne' D1' D2' F' N'; replace ne' := neN ne'; k_extra "MineNew")))
  trivial
section
variable {loose : List Str} {mean : ExcName → Option Value} {mg mb : Str → Option Value}
theorem wordsCL : True := by
  (k_with "leaving ref" => k_extra "MinePass")
  (k_with "call type:bytes" => (k_here; (with_reducible show wpAny _ _ (call (Value.type "bytes") [Value.bytes _ _]) _ _ _); (refine bytes_same ?_)))
  trivial
theorem pack_snap_ok : ∀ (w : World) (o kd : Int) (to tk : Tok) (pb : Array UInt8) (tp : Tok) (pl : List Int), 0 ≤ o → o < 16777216 → 0 ≤ kd → kd < 65536 → KBw.bInts pb = pl → pl.length ≤ 50 →
    Ok w loose mean mg mb 335 2680 (.ref 366) [.int o to, .int kd tk, .bytes pb tp] [] (RPost [] (UnpIs w.params 170 170 3 ([o / 65536, o / 256 % 256, o % 256] ++ [kd / 256, kd % 256] ++ pl))) := by
  intro w o kd to tk pb tp pl h0 h1 h2 h3 hb hl
  unfold Ok
  k_fill
  intro cn cs a ccd cl outer A₀ base h₀ L m s Q E B F X N T hk hret
  k_extra "MineWalk"
  · refine' leaveR (nw := [(_, instObj 334 _), (_, llcD _ _ _ _ _ _ _ _ _)]) ?F ?N ?_ ?h2 ?h3
    k_extra "MineLeaveR"
    exact hret _ _ _ _ ⟨_, rfl, (fun q hq h => by cases h), _, _, _, _, _, by assumption, _, _, _, _, _, _, by assumption, rfl, rfl⟩ F9 N9 K9 Z9
end

-- part CN
theorem words0_CN : True := by
  k_with_none
  (k_with "MineEnter" => (refine wpAny_call ?_; k_dflt (refine' enterQ ?k1 ?k2 ?k3 ?k4 ?k5 ?kA ?kF ?kK ?k6 ?k7 ?k8 ?k9 ?kB ?_ ?c2 ?c3 ?c4 ?c5; (case kA => exact rfl); (case kF => exact rfl); (case kK => assumption); (case k1 => k_asm); (case k2 => k_asm); (case k3 => k_asm); (case k4 => k_asm); (case k5 => k_asm); (case k6 => k_is); (case k7 => k_is); (case k8 => ktr_room); (case k9 => first | exact BindsTo.of_eq rfl | exact binds_K (by k_in) rfl (by k_is) rfl rfl rfl); (case c5 => decide); (case kB => exact locs rfl); (case c2 => exact rfl); (case c3 => exact rfl); (case c4 => exact rfl)); intro g' L' h' tk' FG' F' N' B' X' T' hg' lL'; (try k_lt lL'); (try dsimp only); (try k_fold)))
  (k_with "MineEnterC" => (refine wpAny_call ?_; k_dflt (refine' enterQC ?k1 ?k2 ?k3 ?k4 ?k5 ?kA ?kF ?kK ?k6 ?k7 ?k8 ?k9 ?kB ?kD ?_ ?c2 ?c3 ?c4; (case kA => exact rfl); (case kF => exact rfl); (case kK => assumption); (case k1 => k_asm); (case k2 => k_asm); (case k3 => k_asm); (case k4 => k_asm); (case k5 => k_asm); (case k6 => k_is); (case k7 => k_is); (case k8 => ktr_room); (case k9 => first | exact BindsTo.of_eq rfl | exact binds_K (by k_in) rfl (by k_is) rfl rfl rfl); (case kB => exact rfl); (case kD => decide +kernel); (case c2 => exact rfl); (case c3 => exact rfl); (case c4 => exact rfl)); intro g' L' h' tk' cells' FG' F' N' Y' B' X' T' hg' lL'; (try k_lt lL'); k_cells Y'; (try simp only [List.cons_append, List.nil_append] at N'); (try dsimp only); (try k_fold)))
  (k_with "MineWalkC" => (k_extra "MineEnterC"; k_steps; all_goals (try dsimp only); all_goals (try (k_unfold; dsimp only))))
  (k_with "MineWalk" => (k_extra "MineEnter"; k_steps; all_goals (try dsimp only); all_goals (try (k_unfold; dsimp only))))
  (k_with "MineFresh" => first | exact List.forall_mem_nil _ | (refine' List.forall_mem_cons.mpr ⟨?fa, ?fb⟩; (case fa => (repeat (first | exact List.not_mem_nil | (refine' List.not_mem_cons_of_ne_of_not_mem ?fn ?_; (case fn => k_ne)))))); (case fb => k_extra "MineFresh"))
  (k_with "MineMem" => first | exact List.forall_mem_nil _ | (refine' List.forall_mem_cons.mpr ⟨?fa, ?fb⟩; (case fa => k_mem); (case fb => k_extra "MineMem")))
  (k_with "MineSide" => ((case kA => exact rfl); (case kh => exact rfl); (case kd => exact Nat.le_of_ble_eq_true rfl); (case ku => exact Nat.le_of_ble_eq_true rfl); (case kB => k_asm); (case kF => k_asm); (case kX => k_asm); (case kN => k_asm); (case kT => k_asm); (case kk => exact rfl)))
  (k_with "MineLed" => ((try simp only [List.nil_append, List.cons_append] at N'); (try (replace D' := allNe2_of D'; simp only [AllNe2, AllNe, and_true] at D'))))
  (k_with "MineLeaveW" => ((case F => k_asm); (case N => k_asm); (case h1 => k_mem); (case h2 => k_extra "MineMem"); (case h3 => k_extra "MineMem"); intro F9 N9 K9 Z9))
  (k_with "MineLeaveR" => ((case F => k_asm); (case N => k_asm); (case h2 => k_extra "MineMem"); (case h3 => k_extra "MineMem"); intro F9 N9 K9 Z9))
  (k_with "MineGetLen" => (exfalso; omega))
  (k_with "MinePut" => (first | exact Int.lt_of_lt_of_le (b := 256) (by omega) (by decide) | exact Int.lt_of_lt_of_le (b := 65536) (by omega) (by decide) | exact Int.lt_of_lt_of_le (b := 16777216) (by omega) (by decide) | exact Int.lt_of_lt_of_le (b := 281474976710656) (by omega) (by decide)))
  (k_with "MineBytes" => first | assumption | exact bI1 ⟨by omega, by omega⟩ | exact bI2 ⟨by omega, by omega⟩ ⟨by omega, by omega⟩ | exact zeros_ints _ | exact KBw.ints_list _)
  (k_with "MineAdd" => (k_here; (with_reducible show wpAny _ _ (binaryOp Operator.Add (Value.bytes _ _) (Value.bytes _ _)) _ _ _); (refine KBa.add_K (by k_extra "MineBytes") (by k_extra "MineBytes") (by first | (simp only [List.length_cons, List.length_nil, List.length_append, List.length_map, List.length_replicate, rangeInts_length]; omega) | omega | (simp only [List.length_cons, List.length_nil, List.length_append, List.length_map, List.length_replicate, sum_len]; omega)) ?_); intro t' k' hb'))
  (k_with "MinePutBad" => (intro h9; first | (have h8 := Int.lt_of_lt_of_le h9 (show (1 * 2 ^ ((8:Int) * 1).toNat : Int) ≤ 256 by decide); omega) | (have h8 := Int.lt_of_lt_of_le h9 (show (1 * 2 ^ ((8:Int) * 3).toNat : Int) ≤ 16777216 by decide); omega)))
  (k_with "MinePass" => ((rename RaisedS _ _ _ _ _ _ _ _ _ => rsX); k_dflt (refine' leave_onX (news := ?sub) ?K ?F ?hf rsX ?U ?hs ?_; (case sub => first | k_extra "MineSub" | exact []); (case K => k_asm); (case F => k_asm); (case hf => exact rfl); (case U => k_asm); (case hs => k_extra "MineMem"); intro h9 R9 U9)))
  (k_with "MineEnterS" => (refine wpAny_call ?_; k_dflt (refine' enterQS ?k1 ?k2 ?k3 ?k4 ?k5 ?k0 ?kA ?kF ?kK ?k6 ?k7 ?k8 ?k9 ?kB ?_ ?c2 ?c3 ?c4 ?c5; (case kA => exact rfl); (case kF => exact rfl); (case kK => assumption); (case k1 => k_asm); (case k2 => k_asm); (case k3 => k_asm); (case k4 => k_asm); (case k5 => k_asm); (case k0 => k_asm); (case k6 => k_is); (case k7 => k_is); (case k8 => ktr_room); (case k9 => first | exact BindsTo.of_eq rfl | exact binds_K (by k_in) rfl (by k_is) rfl rfl rfl); (case c5 => decide); (case kB => exact locs rfl); (case c2 => exact rfl); (case c3 => exact rfl); (case c4 => exact rfl)); intro g' L' h' tk' FG' F' N' B' X' T' D' hg' lL'; (try k_lt lL'); (try dsimp only); (try k_fold)))
  (k_with "MineEnterSC" => (refine wpAny_call ?_; k_dflt (refine' enterQSC ?k1 ?k2 ?k3 ?k4 ?k5 ?k0 ?kA ?kF ?kK ?k6 ?k7 ?k8 ?k9 ?kB ?kD ?_ ?c2 ?c3 ?c4; (case kA => exact rfl); (case kF => exact rfl); (case kK => assumption); (case k1 => k_asm); (case k2 => k_asm); (case k3 => k_asm); (case k4 => k_asm); (case k5 => k_asm); (case k0 => k_asm); (case k6 => k_is); (case k7 => k_is); (case k8 => ktr_room); (case k9 => first | exact BindsTo.of_eq rfl | exact binds_K (by k_in) rfl (by k_is) rfl rfl rfl); (case kB => exact rfl); (case kD => decide +kernel); (case c2 => exact rfl); (case c3 => exact rfl); (case c4 => exact rfl)); intro g' L' h' tk' cells' FG' F' N' Y' B' X' T' D' hg' lL'; (try k_lt lL'); k_cells Y'; (try simp only [List.cons_append, List.nil_append] at N'); (try dsimp only); (try k_fold)))
  (k_with "MineEnterL" => (refine wpAny_call ?_; k_dflt (refine' enterQL ?k1 ?k2 ?k3 ?k4 ?k5 ?kA ?kF ?kK ?ho ?hc ?hd ?hv ?k8 ?k9 ?kB ?_ ?c2 ?c3 ?c4 ?c5; (case kA => exact rfl); (case kF => exact rfl); (case kK => assumption); (case k1 => k_asm); (case k2 => k_asm); (case k3 => k_asm); (case k4 => k_asm); (case k5 => k_asm); (case ho => k_mem); (case hc => k_mem); (case hd => assumption); (case hv => assumption); (case k8 => ktr_room); (case k9 => exact rfl); (case c5 => decide); (case kB => exact locs rfl); (case c2 => exact rfl); (case c3 => exact rfl); (case c4 => exact rfl)); intro g' L' h' tk' FG' F' N' B' X' T' hg' lL'; (try k_lt lL'); (try dsimp only); (try k_fold)))
  (k_with "MineWalkL" => (k_extra "MineEnterL"; k_dflt (show wpAny _ _ (eval (Expr.Call _ _ _ _) _) _ _ _); k_steps; all_goals (try dsimp only); all_goals (try (k_unfold; dsimp only))))
  (k_with "MineWalkS" => (k_extra "MineEnterS"; k_steps; all_goals (try dsimp only); all_goals (try (k_unfold; dsimp only))))
  (k_with "MineSame" => first | exact SameL.nil | (refine' SameL.cons ?sa ?sb; (case sa => first | exact same_int _ _ _ | exact same_bytes _ _ _ | exact PySem.SeqAt.EqAt.same _); (case sb => k_extra "MineSame")))
  (k_with "MineNeT" => (k_here; (with_reducible show wpAny _ _ (compareOp CmpOp.NotEq (Value.ref _) (Value.ref _)) _ _ _); k_dflt (refine' ne_tups ?N ?ml ?mb ?cl ?dl ?cb ?db ?hu ?hs ?_; (case N => k_asm); (case ml => k_mem); (case mb => k_mem); (case cl => rfl); (case dl => rfl); (case cb => rfl); (case db => rfl); (case hu => ke_room); (case hs => k_extra "MineSame"))))
  (k_with "MineEqT" => (k_here; (with_reducible show wpAny _ _ (compareOp CmpOp.Eq (Value.ref _) (Value.ref _)) _ _ _); k_dflt (refine' eq_tups ?N ?ml ?mb ?cl ?dl ?cb ?db ?hu ?hs ?_; (case N => k_asm); (case ml => k_mem); (case mb => k_mem); (case cl => rfl); (case dl => rfl); (case cb => rfl); (case db => rfl); (case hu => ke_room); (case hs => k_extra "MineSame"))))
  (k_with "MineNew" => ((try dsimp only [AllNe] at D1'); (try dsimp only [AllNe] at D2'); (try dsimp only [AllNe] at D3')))
  (k_with "MineNe1" => (refine neN ?_; (try dsimp only); with_reducible first | assumption | (refine Ne.symm ?_; assumption) | exact Nat.ne_of_lt (by assumption) | exact Nat.ne_of_gt (by assumption) | exact Nat.ne_of_lt (by k_extra "MineLtS") | exact Nat.ne_of_gt (by k_extra "MineLtS") | k_extra "MineNe2"))
  (k_with "MineLtS" => first | assumption | exact Nat.lt_succ_self _ | (refine Nat.lt_succ_of_lt ?_; k_extra "MineLtS"))
  (k_with "MineNe2" => (rename _ ∧ _ => hc9; first | k_extra "MinePrj" | (clear hc9; k_extra "MineNe2")))
  (k_with "MinePrj" => first | exact hc9.1 | exact Ne.symm hc9.1 | exact Nat.ne_of_lt hc9.1 | exact Nat.ne_of_gt hc9.1 | exact hc9.2.1 | exact Ne.symm hc9.2.1 | exact Nat.ne_of_lt hc9.2.1 | exact Nat.ne_of_gt hc9.2.1 | exact hc9.2.2.1 | exact Ne.symm hc9.2.2.1 | exact Nat.ne_of_lt hc9.2.2.1 | exact Nat.ne_of_gt hc9.2.2.1 | exact hc9.2.2.2.1 | exact Ne.symm hc9.2.2.2.1 | exact Nat.ne_of_lt hc9.2.2.2.1 | exact Nat.ne_of_gt hc9.2.2.2.1 | exact hc9.2.2.2.2.1 | exact Ne.symm hc9.2.2.2.2.1 | exact Nat.ne_of_lt hc9.2.2.2.2.1 | exact Nat.ne_of_gt hc9.2.2.2.2.1 | exact hc9.2.2.2.2.2.1 | exact Ne.symm hc9.2.2.2.2.2.1 | exact Nat.ne_of_lt hc9.2.2.2.2.2.1 | exact Nat.ne_of_gt hc9.2.2.2.2.2.1 | exact hc9.2.2.2.2.2.2.1 | exact Ne.symm hc9.2.2.2.2.2.2.1 | exact Nat.ne_of_lt hc9.2.2.2.2.2.2.1 | exact Nat.ne_of_gt hc9.2.2.2.2.2.2.1 | exact hc9.2.2.2.2.2.2.2.1 | exact Ne.symm hc9.2.2.2.2.2.2.2.1 | exact Nat.ne_of_lt hc9.2.2.2.2.2.2.2.1 | exact Nat.ne_of_gt hc9.2.2.2.2.2.2.2.1 | exact hc9.2.2.2.2.2.2.2.2.1 | exact Ne.symm hc9.2.2.2.2.2.2.2.2.1 | exact Nat.ne_of_lt hc9.2.2.2.2.2.2.2.2.1 | exact Nat.ne_of_gt hc9.2.2.2.2.2.2.2.2.1 | exact hc9.2.2.2.2.2.2.2.2.2.1 | exact Ne.symm hc9.2.2.2.2.2.2.2.2.2.1 | exact Nat.ne_of_lt hc9.2.2.2.2.2.2.2.2.2.1 | exact Nat.ne_of_gt hc9.2.2.2.2.2.2.2.2.2.1 | exact hc9.2.2.2.2.2.2.2.2.2.2.1 | exact Ne.symm hc9.2.2.2.2.2.2.2.2.2.2.1 | exact Nat.ne_of_lt hc9.2.2.2.2.2.2.2.2.2.2.1 | exact Nat.ne_of_gt hc9.2.2.2.2.2.2.2.2.2.2.1 | exact hc9.2.2.2.2.2.2.2.2.2.2.2.1 | exact Ne.symm hc9.2.2.2.2.2.2.2.2.2.2.2.1 | exact Nat.ne_of_lt hc9.2.2.2.2.2.2.2.2.2.2.2.1 | exact Nat.ne_of_gt hc9.2.2.2.2.2.2.2.2.2.2.2.1 | exact hc9.2.2.2.2.2.2.2.2.2.2.2.2.1 | exact Ne.symm hc9.2.2.2.2.2.2.2.2.2.2.2.2.1 | exact Nat.ne_of_lt hc9.2.2.2.2.2.2.2.2.2.2.2.2.1 | exact Nat.ne_of_gt hc9.2.2.2.2.2.2.2.2.2.2.2.2.1 | exact hc9.2.2.2.2.2.2.2.2.2.2.2.2.2.1 | exact Ne.symm hc9.2.2.2.2.2.2.2.2.2.2.2.2.2.1 | exact Nat.ne_of_lt hc9.2.2.2.2.2.2.2.2.2.2.2.2.2.1 | exact Nat.ne_of_gt hc9.2.2.2.2.2.2.2.2.2.2.2.2.2.1 | exact hc9.2.2.2.2.2.2.2.2.2.2.2.2.2.2.1 | exact Ne.symm hc9.2.2.2.2.2.2.2.2.2.2.2.2.2.2.1 | exact Nat.ne_of_lt hc9.2.2.2.2.2.2.2.2.2.2.2.2.2.2.1 | exact Nat.ne_of_gt hc9.2.2.2.2.2.2.2.2.2.2.2.2.2.2.1 | exact hc9.2.2.2.2.2.2.2.2.2.2.2.2.2.2.2.1 | exact Ne.symm hc9.2.2.2.2.2.2.2.2.2.2.2.2.2.2.2.1 | exact Nat.ne_of_lt hc9.2.2.2.2.2.2.2.2.2.2.2.2.2.2.2.1 | exact Nat.ne_of_gt hc9.2.2.2.2.2.2.2.2.2.2.2.2.2.2.2.1)
  trivial
theorem wordsK_CN : True := by
  (k_with "call ref" => (k_here; (with_reducible show wpAny _ _ (call (Value.ref 170) _) _ _ _); k_dflt (refine' Bad.use (put_bad _ _ _ _ _ ?p0 ?p1 ?p2 ?p3) ?kA ?kh ?kd ?ku ?kB ?kF ?kX ?kN ?kT ?kk ?ks ?_; k_extra "MineSide"; (case ks => k_extra "MineMem"); (case p0 => first | assumption | decide | omega); (case p1 => first | assumption | decide | omega); (case p2 => first | assumption | decide | omega); (case p3 => first | assumption | k_extra "MinePutBad"); intro e' t' x' h' tk' G' FG' R' U')))
  trivial
section
variable {loose : List Str} {mean : ExcName → Option Value} {mg mb : Str → Option Value}
theorem wordsCN : True := by
  (k_with "leaving ref" => k_extra "MinePass")
  trivial
theorem pack_snap_bad : ∀ (w : World) (o kd : Int) (to tk : Tok) (pb : Array UInt8) (tp : Tok), 16777216 ≤ o →
    Bad w loose mean mg mb 335 2680 (.ref 366) [.int o to, .int kd tk, .bytes pb tp] [] 56 := by
  intro w o kd to tk pb tp h0
  unfold Bad
  k_fill
  intro cn cs a ccd cl outer A₀ base h₀ L m s Q E B F X N T hk hret
  k_extra "MineWalk"
  · subst hg'
    exact hret _ _ _ _ _ R9 U9
end

-- part CP
theorem words0_CP : True := by
  k_with_none
  (k_with "MineEnter" => (refine wpAny_call ?_; k_dflt (refine' enterQ ?k1 ?k2 ?k3 ?k4 ?k5 ?kA ?kF ?kK ?k6 ?k7 ?k8 ?k9 ?kB ?_ ?c2 ?c3 ?c4 ?c5; (case kA => exact rfl); (case kF => exact rfl); (case kK => assumption); (case k1 => k_asm); (case k2 => k_asm); (case k3 => k_asm); (case k4 => k_asm); (case k5 => k_asm); (case k6 => k_is); (case k7 => k_is); (case k8 => ktr_room); (case k9 => first | exact BindsTo.of_eq rfl | exact binds_K (by k_in) rfl (by k_is) rfl rfl rfl); (case c5 => decide); (case kB => exact locs rfl); (case c2 => exact rfl); (case c3 => exact rfl); (case c4 => exact rfl)); intro g' L' h' tk' FG' F' N' B' X' T' hg' lL'; (try k_lt lL'); (try dsimp only); (try k_fold)))
  (k_with "MineEnterC" => (refine wpAny_call ?_; k_dflt (refine' enterQC ?k1 ?k2 ?k3 ?k4 ?k5 ?kA ?kF ?kK ?k6 ?k7 ?k8 ?k9 ?kB ?kD ?_ ?c2 ?c3 ?c4; (case kA => exact rfl); (case kF => exact rfl); (case kK => assumption); (case k1 => k_asm); (case k2 => k_asm); (case k3 => k_asm); (case k4 => k_asm); (case k5 => k_asm); (case k6 => k_is); (case k7 => k_is); (case k8 => ktr_room); (case k9 => first | exact BindsTo.of_eq rfl | exact binds_K (by k_in) rfl (by k_is) rfl rfl rfl); (case kB => exact rfl); (case kD => decide +kernel); (case c2 => exact rfl); (case c3 => exact rfl); (case c4 => exact rfl)); intro g' L' h' tk' cells' FG' F' N' Y' B' X' T' hg' lL'; (try k_lt lL'); k_cells Y'; (try simp only [List.cons_append, List.nil_append] at N'); (try dsimp only); (try k_fold)))
  (k_with "MineWalkC" => (k_extra "MineEnterC"; k_steps; all_goals (try dsimp only); all_goals (try (k_unfold; dsimp only))))
  (k_with "MineWalk" => (k_extra "MineEnter"; k_steps; all_goals (try dsimp only); all_goals (try (k_unfold; dsimp only))))
  (k_with "MineFresh" => first | exact List.forall_mem_nil _ | (refine' List.forall_mem_cons.mpr ⟨?fa, ?fb⟩; (case fa => (repeat (first | exact List.not_mem_nil | (refine' List.not_mem_cons_of_ne_of_not_mem ?fn ?_; (case fn => k_ne)))))); (case fb => k_extra "MineFresh"))
  (k_with "MineMem" => first | exact List.forall_mem_nil _ | (refine' List.forall_mem_cons.mpr ⟨?fa, ?fb⟩; (case fa => k_mem); (case fb => k_extra "MineMem")))
  (k_with "MineSide" => ((case kA => exact rfl); (case kh => exact rfl); (case kd => exact Nat.le_of_ble_eq_true rfl); (case ku => exact Nat.le_of_ble_eq_true rfl); (case kB => k_asm); (case kF => k_asm); (case kX => k_asm); (case kN => k_asm); (case kT => k_asm); (case kk => exact rfl)))
  (k_with "MineLed" => ((try simp only [List.nil_append, List.cons_append] at N'); (try (replace D' := allNe2_of D'; simp only [AllNe2, AllNe, and_true] at D'))))
  (k_with "MineLeaveW" => ((case F => k_asm); (case N => k_asm); (case h1 => k_mem); (case h2 => k_extra "MineMem"); (case h3 => k_extra "MineMem"); intro F9 N9 K9 Z9))
  (k_with "MineLeaveR" => ((case F => k_asm); (case N => k_asm); (case h2 => k_extra "MineMem"); (case h3 => k_extra "MineMem"); intro F9 N9 K9 Z9))
  (k_with "MineGetLen" => (exfalso; omega))
  (k_with "MinePut" => (first | exact Int.lt_of_lt_of_le (b := 256) (by omega) (by decide) | exact Int.lt_of_lt_of_le (b := 65536) (by omega) (by decide) | exact Int.lt_of_lt_of_le (b := 16777216) (by omega) (by decide) | exact Int.lt_of_lt_of_le (b := 281474976710656) (by omega) (by decide)))
  (k_with "MineBytes" => first | assumption | exact bI1 ⟨by omega, by omega⟩ | exact bI2 ⟨by omega, by omega⟩ ⟨by omega, by omega⟩ | exact zeros_ints _ | exact KBw.ints_list _)
  (k_with "MineAdd" => (k_here; (with_reducible show wpAny _ _ (binaryOp Operator.Add (Value.bytes _ _) (Value.bytes _ _)) _ _ _); (refine KBa.add_K (by k_extra "MineBytes") (by k_extra "MineBytes") (by first | (simp only [List.length_cons, List.length_nil, List.length_append, List.length_map, List.length_replicate, rangeInts_length]; omega) | omega | (simp only [List.length_cons, List.length_nil, List.length_append, List.length_map, List.length_replicate, sum_len]; omega)) ?_); intro t' k' hb'))
  (k_with "MinePutBad" => (intro h9; first | (have h8 := Int.lt_of_lt_of_le h9 (show (1 * 2 ^ ((8:Int) * 1).toNat : Int) ≤ 256 by decide); omega) | (have h8 := Int.lt_of_lt_of_le h9 (show (1 * 2 ^ ((8:Int) * 3).toNat : Int) ≤ 16777216 by decide); omega)))
  (k_with "MinePass" => ((rename RaisedS _ _ _ _ _ _ _ _ _ => rsX); k_dflt (refine' leave_onX (news := ?sub) ?K ?F ?hf rsX ?U ?hs ?_; (case sub => first | k_extra "MineSub" | exact []); (case K => k_asm); (case F => k_asm); (case hf => exact rfl); (case U => k_asm); (case hs => k_extra "MineMem"); intro h9 R9 U9)))
  (k_with "MineEnterS" => (refine wpAny_call ?_; k_dflt (refine' enterQS ?k1 ?k2 ?k3 ?k4 ?k5 ?k0 ?kA ?kF ?kK ?k6 ?k7 ?k8 ?k9 ?kB ?_ ?c2 ?c3 ?c4 ?c5; (case kA => exact rfl); (case kF => exact rfl); (case kK => assumption); (case k1 => k_asm); (case k2 => k_asm); (case k3 => k_asm); (case k4 => k_asm); (case k5 => k_asm); (case k0 => k_asm); (case k6 => k_is); (case k7 => k_is); (case k8 => ktr_room); (case k9 => first | exact BindsTo.of_eq rfl | exact binds_K (by k_in) rfl (by k_is) rfl rfl rfl); (case c5 => decide); (case kB => exact locs rfl); (case c2 => exact rfl); (case c3 => exact rfl); (case c4 => exact rfl)); intro g' L' h' tk' FG' F' N' B' X' T' D' hg' lL'; (try k_lt lL'); (try dsimp only); (try k_fold)))
  (k_with "MineEnterSC" => (refine wpAny_call ?_; k_dflt (refine' enterQSC ?k1 ?k2 ?k3 ?k4 ?k5 ?k0 ?kA ?kF ?kK ?k6 ?k7 ?k8 ?k9 ?kB ?kD ?_ ?c2 ?c3 ?c4; (case kA => exact rfl); (case kF => exact rfl); (case kK => assumption); (case k1 => k_asm); (case k2 => k_asm); (case k3 => k_asm); (case k4 => k_asm); (case k5 => k_asm); (case k0 => k_asm); (case k6 => k_is); (case k7 => k_is); (case k8 => ktr_room); (case k9 => first | exact BindsTo.of_eq rfl | exact binds_K (by k_in) rfl (by k_is) rfl rfl rfl); (case kB => exact rfl); (case kD => decide +kernel); (case c2 => exact rfl); (case c3 => exact rfl); (case c4 => exact rfl)); intro g' L' h' tk' cells' FG' F' N' Y' B' X' T' D' hg' lL'; (try k_lt lL'); k_cells Y'; (try simp only [List.cons_append, List.nil_append] at N'); (try dsimp only); (try k_fold)))
  (k_with "MineEnterL" => (refine wpAny_call ?_; k_dflt (refine' enterQL ?k1 ?k2 ?k3 ?k4 ?k5 ?kA ?kF ?kK ?ho ?hc ?hd ?hv ?k8 ?k9 ?kB ?_ ?c2 ?c3 ?c4 ?c5; (case kA => exact rfl); (case kF => exact rfl); (case kK => assumption); (case k1 => k_asm); (case k2 => k_asm); (case k3 => k_asm); (case k4 => k_asm); (case k5 => k_asm); (case ho => k_mem); (case hc => k_mem); (case hd => assumption); (case hv => assumption); (case k8 => ktr_room); (case k9 => exact rfl); (case c5 => decide); (case kB => exact locs rfl); (case c2 => exact rfl); (case c3 => exact rfl); (case c4 => exact rfl)); intro g' L' h' tk' FG' F' N' B' X' T' hg' lL'; (try k_lt lL'); (try dsimp only); (try k_fold)))
  (k_with "MineWalkL" => (k_extra "MineEnterL"; k_dflt (show wpAny _ _ (eval (Expr.Call _ _ _ _) _) _ _ _); k_steps; all_goals (try dsimp only); all_goals (try (k_unfold; dsimp only))))
  (k_with "MineWalkS" => (k_extra "MineEnterS"; k_steps; all_goals (try dsimp only); all_goals (try (k_unfold; dsimp only))))
  (k_with "MineSame" => first | exact SameL.nil | (refine' SameL.cons ?sa ?sb; (case sa => first | exact same_int _ _ _ | exact same_bytes _ _ _ | exact PySem.SeqAt.EqAt.same _); (case sb => k_extra "MineSame")))
  (k_with "MineNeT" => (k_here; (with_reducible show wpAny _ _ (compareOp CmpOp.NotEq (Value.ref _) (Value.ref _)) _ _ _); k_dflt (refine' ne_tups ?N ?ml ?mb ?cl ?dl ?cb ?db ?hu ?hs ?_; (case N => k_asm); (case ml => k_mem); (case mb => k_mem); (case cl => rfl); (case dl => rfl); (case cb => rfl); (case db => rfl); (case hu => ke_room); (case hs => k_extra "MineSame"))))
  (k_with "MineEqT" => (k_here; (with_reducible show wpAny _ _ (compareOp CmpOp.Eq (Value.ref _) (Value.ref _)) _ _ _); k_dflt (refine' eq_tups ?N ?ml ?mb ?cl ?dl ?cb ?db ?hu ?hs ?_; (case N => k_asm); (case ml => k_mem); (case mb => k_mem); (case cl => rfl); (case dl => rfl); (case cb => rfl); (case db => rfl); (case hu => ke_room); (case hs => k_extra "MineSame"))))
  (k_with "MineNew" => ((try dsimp only [AllNe] at D1'); (try dsimp only [AllNe] at D2'); (try dsimp only [AllNe] at D3')))
  (k_with "MineNe1" => (refine neN ?_; (try dsimp only); with_reducible first | assumption | (refine Ne.symm ?_; assumption) | exact Nat.ne_of_lt (by assumption) | exact Nat.ne_of_gt (by assumption) | exact Nat.ne_of_lt (by k_extra "MineLtS") | exact Nat.ne_of_gt (by k_extra "MineLtS") | k_extra "MineNe2"))
  (k_with "MineLtS" => first | assumption | exact Nat.lt_succ_self _ | (refine Nat.lt_succ_of_lt ?_; k_extra "MineLtS"))
  (k_with "MineNe2" => (rename _ ∧ _ => hc9; first | k_extra "MinePrj" | (clear hc9; k_extra "MineNe2")))
  (k_with "MinePrj" => first | exact hc9.1 | exact Ne.symm hc9.1 | exact Nat.ne_of_lt hc9.1 | exact Nat.ne_of_gt hc9.1 | exact hc9.2.1 | exact Ne.symm hc9.2.1 | exact Nat.ne_of_lt hc9.2.1 | exact Nat.ne_of_gt hc9.2.1 | exact hc9.2.2.1 | exact Ne.symm hc9.2.2.1 | exact Nat.ne_of_lt hc9.2.2.1 | exact Nat.ne_of_gt hc9.2.2.1 | exact hc9.2.2.2.1 | exact Ne.symm hc9.2.2.2.1 | exact Nat.ne_of_lt hc9.2.2.2.1 | exact Nat.ne_of_gt hc9.2.2.2.1 | exact hc9.2.2.2.2.1 | exact Ne.symm hc9.2.2.2.2.1 | exact Nat.ne_of_lt hc9.2.2.2.2.1 | exact Nat.ne_of_gt hc9.2.2.2.2.1 | exact hc9.2.2.2.2.2.1 | exact Ne.symm hc9.2.2.2.2.2.1 | exact Nat.ne_of_lt hc9.2.2.2.2.2.1 | exact Nat.ne_of_gt hc9.2.2.2.2.2.1 | exact hc9.2.2.2.2.2.2.1 | exact Ne.symm hc9.2.2.2.2.2.2.1 | exact Nat.ne_of_lt hc9.2.2.2.2.2.2.1 | exact Nat.ne_of_gt hc9.2.2.2.2.2.2.1 | exact hc9.2.2.2.2.2.2.2.1 | exact Ne.symm hc9.2.2.2.2.2.2.2.1 | exact Nat.ne_of_lt hc9.2.2.2.2.2.2.2.1 | exact Nat.ne_of_gt hc9.2.2.2.2.2.2.2.1 | exact hc9.2.2.2.2.2.2.2.2.1 | exact Ne.symm hc9.2.2.2.2.2.2.2.2.1 | exact Nat.ne_of_lt hc9.2.2.2.2.2.2.2.2.1 | exact Nat.ne_of_gt hc9.2.2.2.2.2.2.2.2.1 | exact hc9.2.2.2.2.2.2.2.2.2.1 | exact Ne.symm hc9.2.2.2.2.2.2.2.2.2.1 | exact Nat.ne_of_lt hc9.2.2.2.2.2.2.2.2.2.1 | exact Nat.ne_of_gt hc9.2.2.2.2.2.2.2.2.2.1 | exact hc9.2.2.2.2.2.2.2.2.2.2.1 | exact Ne.symm hc9.2.2.2.2.2.2.2.2.2.2.1 | exact Nat.ne_of_lt hc9.2.2.2.2.2.2.2.2.2.2.1 | exact Nat.ne_of_gt hc9.2.2.2.2.2.2.2.2.2.2.1 | exact hc9.2.2.2.2.2.2.2.2.2.2.2.1 | exact Ne.symm hc9.2.2.2.2.2.2.2.2.2.2.2.1 | exact Nat.ne_of_lt hc9.2.2.2.2.2.2.2.2.2.2.2.1 | exact Nat.ne_of_gt hc9.2.2.2.2.2.2.2.2.2.2.2.1 | exact hc9.2.2.2.2.2.2.2.2.2.2.2.2.1 | exact Ne.symm hc9.2.2.2.2.2.2.2.2.2.2.2.2.1 | exact Nat.ne_of_lt hc9.2.2.2.2.2.2.2.2.2.2.2.2.1 | exact Nat.ne_of_gt hc9.2.2.2.2.2.2.2.2.2.2.2.2.1 | exact hc9.2.2.2.2.2.2.2.2.2.2.2.2.2.1 | exact Ne.symm hc9.2.2.2.2.2.2.2.2.2.2.2.2.2.1 | exact Nat.ne_of_lt hc9.2.2.2.2.2.2.2.2.2.2.2.2.2.1 | exact Nat.ne_of_gt hc9.2.2.2.2.2.2.2.2.2.2.2.2.2.1 | exact hc9.2.2.2.2.2.2.2.2.2.2.2.2.2.2.1 | exact Ne.symm hc9.2.2.2.2.2.2.2.2.2.2.2.2.2.2.1 | exact Nat.ne_of_lt hc9.2.2.2.2.2.2.2.2.2.2.2.2.2.2.1 | exact Nat.ne_of_gt hc9.2.2.2.2.2.2.2.2.2.2.2.2.2.2.1 | exact hc9.2.2.2.2.2.2.2.2.2.2.2.2.2.2.2.1 | exact Ne.symm hc9.2.2.2.2.2.2.2.2.2.2.2.2.2.2.2.1 | exact Nat.ne_of_lt hc9.2.2.2.2.2.2.2.2.2.2.2.2.2.2.2.1 | exact Nat.ne_of_gt hc9.2.2.2.2.2.2.2.2.2.2.2.2.2.2.2.1)
  trivial
theorem wordsBad_CP : True := by
  (k_with "call ref" => (k_here; (with_reducible show wpAny _ _ (call (Value.ref 44) _) _ _ _); k_dflt (refine' Ok.useR (exc_call_ok _ _ _ _ (form_cls _)) ?kA ?kh ?kd ?ku ?kB ?kF ?kX ?kN ?kT ?kk ?ks ?_; k_extra "MineSide"; (case ks => k_extra "MineMem"); rintro _ _ h' tk' ⟨eX', tX', DX', odX', xX', rfl, rfl⟩ F' N' D'; k_extra "MineLed")))
  (k_with "call ref" => (k_here; (with_reducible show wpAny _ _ (call (Value.ref 56) _) _ _ _); k_dflt (refine' Ok.useR (exc_call_ok _ _ _ _ (size_cls _)) ?kA ?kh ?kd ?ku ?kB ?kF ?kX ?kN ?kT ?kk ?ks ?_; k_extra "MineSide"; (case ks => k_extra "MineMem"); rintro _ _ h' tk' ⟨eX', tX', DX', odX', xX', rfl, rfl⟩ F' N' D'; k_extra "MineLed")))
  (k_with "exec Raise some none" => (k_dflt (refine own_Raise (K := KH w.params) rfl ?_)))
  (k_with "OwnRaised" => (k_dflt (refine' ⟨_, _, _, _, ?c, ?X, rfl, ?he, ?_⟩; (case he => exact (‹News _ _ _ _› _ (.head _)).1); (case c => first | exact form_cls _ | exact size_cls _); (case X => exact (‹Frag.In _ _›).keeps (Fr.keep (by k_asm))))))
  (k_with "leaving ref" => (k_dflt (refine' leave_first (sub := ?sub) ?K ?F rfl rfl ?N ?he ?ht ?hs ?_; (case sub => first | k_extra "MineSub" | exact []); (case K => k_asm); (case F => k_asm); (case N => k_asm); (case he => k_mem); (case ht => k_mem); (case hs => k_extra "MineApart"); intro h9 R9 U9)))
  (k_with "MineApart" => first | exact List.forall_mem_nil _ | (refine' List.forall_mem_cons.mpr ⟨⟨?fa, ?fc, ?fd⟩, ?fb⟩; (case fa => k_mem); (case fc => k_ne); (case fd => k_ne); (case fb => k_extra "MineApart")))
  trivial
section
variable {loose : List Str} {mean : ExcName → Option Value} {mg mb : Str → Option Value}
theorem wordsCP : True := by
  (k_with "MineSub" => exact (linkL w.params x dx k1 k2 k3 k4 p0 p1 c t0 t1 tc pb tp))
  (k_with "call ref" => (exfalso; exact absurd h3 (by assumption)))
  trivial
theorem pack_llc_bad : ∀ (w : World) (x dx : Addr) (k1 k2 k3 k4 : Tok) (p0 p1 c : Int) (t0 t1 tc : Tok) (pb : Array UInt8) (tp : Tok), @Ne Nat x dx → 256 ≤ c → c < 65536 → (c / 256) % 4 = 3 →
    Bad w loose mean mg mb 335 2680 (.ref 352) [.ref x] (linkL w.params x dx k1 k2 k3 k4 p0 p1 c t0 t1 tc pb tp) 56 := by
  intro w x dx k1 k2 k3 k4 p0 p1 c t0 t1 tc pb tp hne h0 h1 h2
  have h3 : Builtin.bitAnd (c.fdiv (2 ^ Int.toNat 8)) 3 = 3 := by
    rw [bitAnd_m2, show c.fdiv (2 ^ Int.toNat 8) = c / 256 from fd c (by decide)]; exact h2
  unfold Bad
  k_fill
  intro cn cs a ccd cl outer A₀ base h₀ L m s Q E B F X N T hk hret
  k_extra "MineWalk"
  all_goals (subst hg'; exact hret _ _ _ _ _ R9 U9)
end

-- part CQ
theorem words0_CQ : True := by
  k_with_none
  (k_with "MineEnter" => (refine wpAny_call ?_; k_dflt (refine' enterQ ?k1 ?k2 ?k3 ?k4 ?k5 ?kA ?kF ?kK ?k6 ?k7 ?k8 ?k9 ?kB ?_ ?c2 ?c3 ?c4 ?c5; (case kA => exact rfl); (case kF => exact rfl); (case kK => assumption); (case k1 => k_asm); (case k2 => k_asm); (case k3 => k_asm); (case k4 => k_asm); (case k5 => k_asm); (case k6 => k_is); (case k7 => k_is); (case k8 => ktr_room); (case k9 => first | exact BindsTo.of_eq rfl | exact binds_K (by k_in) rfl (by k_is) rfl rfl rfl); (case c5 => decide); (case kB => exact locs rfl); (case c2 => exact rfl); (case c3 => exact rfl); (case c4 => exact rfl)); intro g' L' h' tk' FG' F' N' B' X' T' hg' lL'; (try k_lt lL'); (try dsimp only); (try k_fold)))
  (k_with "MineEnterC" => (refine wpAny_call ?_; k_dflt (refine' enterQC ?k1 ?k2 ?k3 ?k4 ?k5 ?kA ?kF ?kK ?k6 ?k7 ?k8 ?k9 ?kB ?kD ?_ ?c2 ?c3 ?c4; (case kA => exact rfl); (case kF => exact rfl); (case kK => assumption); (case k1 => k_asm); (case k2 => k_asm); (case k3 => k_asm); (case k4 => k_asm); (case k5 => k_asm); (case k6 => k_is); (case k7 => k_is); (case k8 => ktr_room); (case k9 => first | exact BindsTo.of_eq rfl | exact binds_K (by k_in) rfl (by k_is) rfl rfl rfl); (case kB => exact rfl); (case kD => decide +kernel); (case c2 => exact rfl); (case c3 => exact rfl); (case c4 => exact rfl)); intro g' L' h' tk' cells' FG' F' N' Y' B' X' T' hg' lL'; (try k_lt lL'); k_cells Y'; (try simp only [List.cons_append, List.nil_append] at N'); (try dsimp only); (try k_fold)))
  (k_with "MineWalkC" => (k_extra "MineEnterC"; k_steps; all_goals (try dsimp only); all_goals (try (k_unfold; dsimp only))))
  (k_with "MineWalk" => (k_extra "MineEnter"; k_steps; all_goals (try dsimp only); all_goals (try (k_unfold; dsimp only))))
  (k_with "MineFresh" => first | exact List.forall_mem_nil _ | (refine' List.forall_mem_cons.mpr ⟨?fa, ?fb⟩; (case fa => (repeat (first | exact List.not_mem_nil | (refine' List.not_mem_cons_of_ne_of_not_mem ?fn ?_; (case fn => k_ne)))))); (case fb => k_extra "MineFresh"))
  (k_with "MineMem" => first | exact List.forall_mem_nil _ | (refine' List.forall_mem_cons.mpr ⟨?fa, ?fb⟩; (case fa => k_mem); (case fb => k_extra "MineMem")))
  (k_with "MineSide" => ((case kA => exact rfl); (case kh => exact rfl); (case kd => exact Nat.le_of_ble_eq_true rfl); (case ku => exact Nat.le_of_ble_eq_true rfl); (case kB => k_asm); (case kF => k_asm); (case kX => k_asm); (case kN => k_asm); (case kT => k_asm); (case kk => exact rfl)))
  (k_with "MineLed" => ((try simp only [List.nil_append, List.cons_append] at N'); (try (replace D' := allNe2_of D'; simp only [AllNe2, AllNe, and_true] at D'))))
  (k_with "MineLeaveW" => ((case F => k_asm); (case N => k_asm); (case h1 => k_mem); (case h2 => k_extra "MineMem"); (case h3 => k_extra "MineMem"); intro F9 N9 K9 Z9))
  (k_with "MineLeaveR" => ((case F => k_asm); (case N => k_asm); (case h2 => k_extra "MineMem"); (case h3 => k_extra "MineMem"); intro F9 N9 K9 Z9))
  (k_with "MineGetLen" => (exfalso; omega))
  (k_with "MinePut" => (first | exact Int.lt_of_lt_of_le (b := 256) (by omega) (by decide) | exact Int.lt_of_lt_of_le (b := 65536) (by omega) (by decide) | exact Int.lt_of_lt_of_le (b := 16777216) (by omega) (by decide) | exact Int.lt_of_lt_of_le (b := 281474976710656) (by omega) (by decide)))
  (k_with "MineBytes" => first | assumption | exact bI1 ⟨by omega, by omega⟩ | exact bI2 ⟨by omega, by omega⟩ ⟨by omega, by omega⟩ | exact zeros_ints _ | exact KBw.ints_list _)
  (k_with "MineAdd" => (k_here; (with_reducible show wpAny _ _ (binaryOp Operator.Add (Value.bytes _ _) (Value.bytes _ _)) _ _ _); (refine KBa.add_K (by k_extra "MineBytes") (by k_extra "MineBytes") (by first | (simp only [List.length_cons, List.length_nil, List.length_append, List.length_map, List.length_replicate, rangeInts_length]; omega) | omega | (simp only [List.length_cons, List.length_nil, List.length_append, List.length_map, List.length_replicate, sum_len]; omega)) ?_); intro t' k' hb'))
  (k_with "MinePutBad" => (intro h9; first | (have h8 := Int.lt_of_lt_of_le h9 (show (1 * 2 ^ ((8:Int) * 1).toNat : Int) ≤ 256 by decide); omega) | (have h8 := Int.lt_of_lt_of_le h9 (show (1 * 2 ^ ((8:Int) * 3).toNat : Int) ≤ 16777216 by decide); omega)))
  (k_with "MinePass" => ((rename RaisedS _ _ _ _ _ _ _ _ _ => rsX); k_dflt (refine' leave_onX (news := ?sub) ?K ?F ?hf rsX ?U ?hs ?_; (case sub => first | k_extra "MineSub" | exact []); (case K => k_asm); (case F => k_asm); (case hf => exact rfl); (case U => k_asm); (case hs => k_extra "MineMem"); intro h9 R9 U9)))
  (k_with "MineEnterS" => (refine wpAny_call ?_; k_dflt (refine' enterQS ?k1 ?k2 ?k3 ?k4 ?k5 ?k0 ?kA ?kF ?kK ?k6 ?k7 ?k8 ?k9 ?kB ?_ ?c2 ?c3 ?c4 ?c5; (case kA => exact rfl); (case kF => exact rfl); (case kK => assumption); (case k1 => k_asm); (case k2 => k_asm); (case k3 => k_asm); (case k4 => k_asm); (case k5 => k_asm); (case k0 => k_asm); (case k6 => k_is); (case k7 => k_is); (case k8 => ktr_room); (case k9 => first | exact BindsTo.of_eq rfl | exact binds_K (by k_in) rfl (by k_is) rfl rfl rfl); (case c5 => decide); (case kB => exact locs rfl); (case c2 => exact rfl); (case c3 => exact rfl); (case c4 => exact rfl)); intro g' L' h' tk' FG' F' N' B' X' T' D' hg' lL'; (try k_lt lL'); (try dsimp only); (try k_fold)))
  (k_with "MineEnterSC" => (refine wpAny_call ?_; k_dflt (refine' enterQSC ?k1 ?k2 ?k3 ?k4 ?k5 ?k0 ?kA ?kF ?kK ?k6 ?k7 ?k8 ?k9 ?kB ?kD ?_ ?c2 ?c3 ?c4; (case kA => exact rfl); (case kF => exact rfl); (case kK => assumption); (case k1 => k_asm); (case k2 => k_asm); (case k3 => k_asm); (case k4 => k_asm); (case k5 => k_asm); (case k0 => k_asm); (case k6 => k_is); (case k7 => k_is); (case k8 => ktr_room); (case k9 => first | exact BindsTo.of_eq rfl | exact binds_K (by k_in) rfl (by k_is) rfl rfl rfl); (case kB => exact rfl); (case kD => decide +kernel); (case c2 => exact rfl); (case c3 => exact rfl); (case c4 => exact rfl)); intro g' L' h' tk' cells' FG' F' N' Y' B' X' T' D' hg' lL'; (try k_lt lL'); k_cells Y'; (try simp only [List.cons_append, List.nil_append] at N'); (try dsimp only); (try k_fold)))
  (k_with "MineEnterL" => (refine wpAny_call ?_; k_dflt (refine' enterQL ?k1 ?k2 ?k3 ?k4 ?k5 ?kA ?kF ?kK ?ho ?hc ?hd ?hv ?k8 ?k9 ?kB ?_ ?c2 ?c3 ?c4 ?c5; (case kA => exact rfl); (case kF => exact rfl); (case kK => assumption); (case k1 => k_asm); (case k2 => k_asm); (case k3 => k_asm); (case k4 => k_asm); (case k5 => k_asm); (case ho => k_mem); (case hc => k_mem); (case hd => assumption); (case hv => assumption); (case k8 => ktr_room); (case k9 => exact rfl); (case c5 => decide); (case kB => exact locs rfl); (case c2 => exact rfl); (case c3 => exact rfl); (case c4 => exact rfl)); intro g' L' h' tk' FG' F' N' B' X' T' hg' lL'; (try k_lt lL'); (try dsimp only); (try k_fold)))
  (k_with "MineWalkL" => (k_extra "MineEnterL"; k_dflt (show wpAny _ _ (eval (Expr.Call _ _ _ _) _) _ _ _); k_steps; all_goals (try dsimp only); all_goals (try (k_unfold; dsimp only))))
  (k_with "MineWalkS" => (k_extra "MineEnterS"; k_steps; all_goals (try dsimp only); all_goals (try (k_unfold; dsimp only))))
  (k_with "MineSame" => first | exact SameL.nil | (refine' SameL.cons ?sa ?sb; (case sa => first | exact same_int _ _ _ | exact same_bytes _ _ _ | exact PySem.SeqAt.EqAt.same _); (case sb => k_extra "MineSame")))
  (k_with "MineNeT" => (k_here; (with_reducible show wpAny _ _ (compareOp CmpOp.NotEq (Value.ref _) (Value.ref _)) _ _ _); k_dflt (refine' ne_tups ?N ?ml ?mb ?cl ?dl ?cb ?db ?hu ?hs ?_; (case N => k_asm); (case ml => k_mem); (case mb => k_mem); (case cl => rfl); (case dl => rfl); (case cb => rfl); (case db => rfl); (case hu => ke_room); (case hs => k_extra "MineSame"))))
  (k_with "MineEqT" => (k_here; (with_reducible show wpAny _ _ (compareOp CmpOp.Eq (Value.ref _) (Value.ref _)) _ _ _); k_dflt (refine' eq_tups ?N ?ml ?mb ?cl ?dl ?cb ?db ?hu ?hs ?_; (case N => k_asm); (case ml => k_mem); (case mb => k_mem); (case cl => rfl); (case dl => rfl); (case cb => rfl); (case db => rfl); (case hu => ke_room); (case hs => k_extra "MineSame"))))
  (k_with "MineNew" => ((try dsimp only [AllNe] at D1'); (try dsimp only [AllNe] at D2'); (try dsimp only [AllNe] at D3')))
  (k_with "MineNe1" => (refine neN ?_; (try dsimp only); with_reducible first | assumption | (refine Ne.symm ?_; assumption) | exact Nat.ne_of_lt (by assumption) | exact Nat.ne_of_gt (by assumption) | exact Nat.ne_of_lt (by k_extra "MineLtS") | exact Nat.ne_of_gt (by k_extra "MineLtS") | k_extra "MineNe2"))
  (k_with "MineLtS" => first | assumption | exact Nat.lt_succ_self _ | (refine Nat.lt_succ_of_lt ?_; k_extra "MineLtS"))
  (k_with "MineNe2" => (rename _ ∧ _ => hc9; first | k_extra "MinePrj" | (clear hc9; k_extra "MineNe2")))
  (k_with "MinePrj" => first | exact hc9.1 | exact Ne.symm hc9.1 | exact Nat.ne_of_lt hc9.1 | exact Nat.ne_of_gt hc9.1 | exact hc9.2.1 | exact Ne.symm hc9.2.1 | exact Nat.ne_of_lt hc9.2.1 | exact Nat.ne_of_gt hc9.2.1 | exact hc9.2.2.1 | exact Ne.symm hc9.2.2.1 | exact Nat.ne_of_lt hc9.2.2.1 | exact Nat.ne_of_gt hc9.2.2.1 | exact hc9.2.2.2.1 | exact Ne.symm hc9.2.2.2.1 | exact Nat.ne_of_lt hc9.2.2.2.1 | exact Nat.ne_of_gt hc9.2.2.2.1 | exact hc9.2.2.2.2.1 | exact Ne.symm hc9.2.2.2.2.1 | exact Nat.ne_of_lt hc9.2.2.2.2.1 | exact Nat.ne_of_gt hc9.2.2.2.2.1 | exact hc9.2.2.2.2.2.1 | exact Ne.symm hc9.2.2.2.2.2.1 | exact Nat.ne_of_lt hc9.2.2.2.2.2.1 | exact Nat.ne_of_gt hc9.2.2.2.2.2.1 | exact hc9.2.2.2.2.2.2.1 | exact Ne.symm hc9.2.2.2.2.2.2.1 | exact Nat.ne_of_lt hc9.2.2.2.2.2.2.1 | exact Nat.ne_of_gt hc9.2.2.2.2.2.2.1 | exact hc9.2.2.2.2.2.2.2.1 | exact Ne.symm hc9.2.2.2.2.2.2.2.1 | exact Nat.ne_of_lt hc9.2.2.2.2.2.2.2.1 | exact Nat.ne_of_gt hc9.2.2.2.2.2.2.2.1 | exact hc9.2.2.2.2.2.2.2.2.1 | exact Ne.symm hc9.2.2.2.2.2.2.2.2.1 | exact Nat.ne_of_lt hc9.2.2.2.2.2.2.2.2.1 | exact Nat.ne_of_gt hc9.2.2.2.2.2.2.2.2.1 | exact hc9.2.2.2.2.2.2.2.2.2.1 | exact Ne.symm hc9.2.2.2.2.2.2.2.2.2.1 | exact Nat.ne_of_lt hc9.2.2.2.2.2.2.2.2.2.1 | exact Nat.ne_of_gt hc9.2.2.2.2.2.2.2.2.2.1 | exact hc9.2.2.2.2.2.2.2.2.2.2.1 | exact Ne.symm hc9.2.2.2.2.2.2.2.2.2.2.1 | exact Nat.ne_of_lt hc9.2.2.2.2.2.2.2.2.2.2.1 | exact Nat.ne_of_gt hc9.2.2.2.2.2.2.2.2.2.2.1 | exact hc9.2.2.2.2.2.2.2.2.2.2.2.1 | exact Ne.symm hc9.2.2.2.2.2.2.2.2.2.2.2.1 | exact Nat.ne_of_lt hc9.2.2.2.2.2.2.2.2.2.2.2.1 | exact Nat.ne_of_gt hc9.2.2.2.2.2.2.2.2.2.2.2.1 | exact hc9.2.2.2.2.2.2.2.2.2.2.2.2.1 | exact Ne.symm hc9.2.2.2.2.2.2.2.2.2.2.2.2.1 | exact Nat.ne_of_lt hc9.2.2.2.2.2.2.2.2.2.2.2.2.1 | exact Nat.ne_of_gt hc9.2.2.2.2.2.2.2.2.2.2.2.2.1 | exact hc9.2.2.2.2.2.2.2.2.2.2.2.2.2.1 | exact Ne.symm hc9.2.2.2.2.2.2.2.2.2.2.2.2.2.1 | exact Nat.ne_of_lt hc9.2.2.2.2.2.2.2.2.2.2.2.2.2.1 | exact Nat.ne_of_gt hc9.2.2.2.2.2.2.2.2.2.2.2.2.2.1 | exact hc9.2.2.2.2.2.2.2.2.2.2.2.2.2.2.1 | exact Ne.symm hc9.2.2.2.2.2.2.2.2.2.2.2.2.2.2.1 | exact Nat.ne_of_lt hc9.2.2.2.2.2.2.2.2.2.2.2.2.2.2.1 | exact Nat.ne_of_gt hc9.2.2.2.2.2.2.2.2.2.2.2.2.2.2.1 | exact hc9.2.2.2.2.2.2.2.2.2.2.2.2.2.2.2.1 | exact Ne.symm hc9.2.2.2.2.2.2.2.2.2.2.2.2.2.2.2.1 | exact Nat.ne_of_lt hc9.2.2.2.2.2.2.2.2.2.2.2.2.2.2.2.1 | exact Nat.ne_of_gt hc9.2.2.2.2.2.2.2.2.2.2.2.2.2.2.2.1)
  trivial
theorem wordsK_CQ : True := by
  (k_with "call ref" => (k_here; (with_reducible show wpAny _ _ (call (Value.ref 170) _) _ _ _); (try k_fold); k_dflt (refine' Ok.useBy (put_ok _ _ _ _ _ ?p0 ?p1 ?p2 ?p3) ?kA ?kh ?kd ?ku ?kB ?kF ?kX ?kN ?kT ?kk ?ks ?_; k_extra "MineSide"; (case ks => k_extra "MineMem"); (case p0 => first | assumption | decide | omega); (case p1 => first | assumption | decide | omega); (case p2 => first | assumption | decide | omega); (case p3 => first | assumption | k_extra "MinePut"); intro b' t' h' tk' hb' F' N'; (first | rw [put1 (by omega) (by omega)] at hb' | rw [put2 (by omega) (by omega)] at hb' | rw [put3 (by omega) (by omega)] at hb' | rw [put65] at hb' | rw [put66] at hb' | skip))))
  (k_with "call ref" => (k_here; (with_reducible show wpAny _ _ (call (Value.ref 170) _) _ _ _); k_dflt (refine' Bad.use (put_bad _ _ _ _ _ ?p0 ?p1 ?p2 ?p3) ?kA ?kh ?kd ?ku ?kB ?kF ?kX ?kN ?kT ?kk ?ks ?_; k_extra "MineSide"; (case ks => k_extra "MineMem"); (case p0 => first | assumption | decide | omega); (case p1 => first | assumption | decide | omega); (case p2 => first | assumption | decide | omega); (case p3 => first | assumption | k_extra "MinePutBad"); intro e' t' x' h' tk' G' FG' R' U')))
  trivial
section
variable {loose : List Str} {mean : ExcName → Option Value} {mg mb : Str → Option Value}
theorem wordsCQ : True := by
  (k_with "leaving ref" => k_extra "MinePass")
  (k_with "MineSub" => exact (linkL w.params x dx k1 k2 k3 k4 p0 p1 c t0 t1 tc pb tp))
  (k_with "exec Raise some none" => (exfalso; have hno := pk_no hL (by assumption); exact absurd hno.1 (by assumption)))
  (k_with "exec Raise some none" => (exfalso; have hno := pk_no hL (by assumption); exact absurd hno.2 (by assumption)))
  trivial
theorem pack_llc_far : ∀ (w : World) (x dx : Addr) (k1 k2 k3 k4 : Tok) (p0 p1 c : Int) (t0 t1 tc : Tok) (pb : Array UInt8) (tp : Tok) (pl ks : List Int), @Ne Nat x dx → LaidIs ks p0 p1 c pl → 256 ≤ p0 →
    Bad w loose mean mg mb 335 2680 (.ref 352) [.ref x] (linkL w.params x dx k1 k2 k3 k4 p0 p1 c t0 t1 tc pb tp) 56 := by
  intro w x dx k1 k2 k3 k4 p0 p1 c t0 t1 tc pb tp pl ks hne hL h0
  have hc0 := laid_c hL
  obtain ⟨hc0, hc1⟩ := hc0
  unfold Bad
  k_fill
  intro cn cs a ccd cl outer A₀ base h₀ L m s Q E B F X N T hk hret
  k_extra "MineWalk"
  all_goals (subst hg'; exact hret _ _ _ _ _ R9 U9)
end

-- part CM
theorem words0_CM : True := by
  k_with_none
  (k_with "MineEnter" => (refine wpAny_call ?_; k_dflt (refine' enterQ ?k1 ?k2 ?k3 ?k4 ?k5 ?kA ?kF ?kK ?k6 ?k7 ?k8 ?k9 ?kB ?_ ?c2 ?c3 ?c4 ?c5; (case kA => exact rfl); (case kF => exact rfl); (case kK => assumption); (case k1 => k_asm); (case k2 => k_asm); (case k3 => k_asm); (case k4 => k_asm); (case k5 => k_asm); (case k6 => k_is); (case k7 => k_is); (case k8 => ktr_room); (case k9 => first | exact BindsTo.of_eq rfl | exact binds_K (by k_in) rfl (by k_is) rfl rfl rfl); (case c5 => decide); (case kB => exact locs rfl); (case c2 => exact rfl); (case c3 => exact rfl); (case c4 => exact rfl)); intro g' L' h' tk' FG' F' N' B' X' T' hg' lL'; (try k_lt lL'); (try dsimp only); (try k_fold)))
  (k_with "MineEnterC" => (refine wpAny_call ?_; k_dflt (refine' enterQC ?k1 ?k2 ?k3 ?k4 ?k5 ?kA ?kF ?kK ?k6 ?k7 ?k8 ?k9 ?kB ?kD ?_ ?c2 ?c3 ?c4; (case kA => exact rfl); (case kF => exact rfl); (case kK => assumption); (case k1 => k_asm); (case k2 => k_asm); (case k3 => k_asm); (case k4 => k_asm); (case k5 => k_asm); (case k6 => k_is); (case k7 => k_is); (case k8 => ktr_room); (case k9 => first | exact BindsTo.of_eq rfl | exact binds_K (by k_in) rfl (by k_is) rfl rfl rfl); (case kB => exact rfl); (case kD => decide +kernel); (case c2 => exact rfl); (case c3 => exact rfl); (case c4 => exact rfl)); intro g' L' h' tk' cells' FG' F' N' Y' B' X' T' hg' lL'; (try k_lt lL'); k_cells Y'; (try simp only [List.cons_append, List.nil_append] at N'); (try dsimp only); (try k_fold)))
  (k_with "MineWalkC" => (k_extra "MineEnterC"; k_steps; all_goals (try dsimp only); all_goals (try (k_unfold; dsimp only))))
  (k_with "MineWalk" => (k_extra "MineEnter"; k_steps; all_goals (try dsimp only); all_goals (try (k_unfold; dsimp only))))
  (k_with "MineFresh" => first | exact List.forall_mem_nil _ | (refine' List.forall_mem_cons.mpr ⟨?fa, ?fb⟩; (case fa => (repeat (first | exact List.not_mem_nil | (refine' List.not_mem_cons_of_ne_of_not_mem ?fn ?_; (case fn => k_ne)))))); (case fb => k_extra "MineFresh"))
  (k_with "MineMem" => first | exact List.forall_mem_nil _ | (refine' List.forall_mem_cons.mpr ⟨?fa, ?fb⟩; (case fa => k_mem); (case fb => k_extra "MineMem")))
  (k_with "MineSide" => ((case kA => exact rfl); (case kh => exact rfl); (case kd => exact Nat.le_of_ble_eq_true rfl); (case ku => exact Nat.le_of_ble_eq_true rfl); (case kB => k_asm); (case kF => k_asm); (case kX => k_asm); (case kN => k_asm); (case kT => k_asm); (case kk => exact rfl)))
  (k_with "MineLed" => ((try simp only [List.nil_append, List.cons_append] at N'); (try (replace D' := allNe2_of D'; simp only [AllNe2, AllNe, and_true] at D'))))
  (k_with "MineLeaveW" => ((case F => k_asm); (case N => k_asm); (case h1 => k_mem); (case h2 => k_extra "MineMem"); (case h3 => k_extra "MineMem"); intro F9 N9 K9 Z9))
  (k_with "MineLeaveR" => ((case F => k_asm); (case N => k_asm); (case h2 => k_extra "MineMem"); (case h3 => k_extra "MineMem"); intro F9 N9 K9 Z9))
  (k_with "MineGetLen" => (exfalso; omega))
  (k_with "MinePut" => (first | exact Int.lt_of_lt_of_le (b := 256) (by omega) (by decide) | exact Int.lt_of_lt_of_le (b := 65536) (by omega) (by decide) | exact Int.lt_of_lt_of_le (b := 16777216) (by omega) (by decide) | exact Int.lt_of_lt_of_le (b := 281474976710656) (by omega) (by decide)))
  (k_with "MineBytes" => first | assumption | exact bI1 ⟨by omega, by omega⟩ | exact bI2 ⟨by omega, by omega⟩ ⟨by omega, by omega⟩ | exact zeros_ints _ | exact KBw.ints_list _)
  (k_with "MineAdd" => (k_here; (with_reducible show wpAny _ _ (binaryOp Operator.Add (Value.bytes _ _) (Value.bytes _ _)) _ _ _); (refine KBa.add_K (by k_extra "MineBytes") (by k_extra "MineBytes") (by first | (simp only [List.length_cons, List.length_nil, List.length_append, List.length_map, List.length_replicate, rangeInts_length]; omega) | omega | (simp only [List.length_cons, List.length_nil, List.length_append, List.length_map, List.length_replicate, sum_len]; omega)) ?_); intro t' k' hb'))
  (k_with "MinePutBad" => (intro h9; first | (have h8 := Int.lt_of_lt_of_le h9 (show (1 * 2 ^ ((8:Int) * 1).toNat : Int) ≤ 256 by decide); omega) | (have h8 := Int.lt_of_lt_of_le h9 (show (1 * 2 ^ ((8:Int) * 3).toNat : Int) ≤ 16777216 by decide); omega)))
  (k_with "MinePass" => ((rename RaisedS _ _ _ _ _ _ _ _ _ => rsX); k_dflt (refine' leave_onX (news := ?sub) ?K ?F ?hf rsX ?U ?hs ?_; (case sub => first | k_extra "MineSub" | exact []); (case K => k_asm); (case F => k_asm); (case hf => exact rfl); (case U => k_asm); (case hs => k_extra "MineMem"); intro h9 R9 U9)))
  (k_with "MineEnterS" => (refine wpAny_call ?_; k_dflt (refine' enterQS ?k1 ?k2 ?k3 ?k4 ?k5 ?k0 ?kA ?kF ?kK ?k6 ?k7 ?k8 ?k9 ?kB ?_ ?c2 ?c3 ?c4 ?c5; (case kA => exact rfl); (case kF => exact rfl); (case kK => assumption); (case k1 => k_asm); (case k2 => k_asm); (case k3 => k_asm); (case k4 => k_asm); (case k5 => k_asm); (case k0 => k_asm); (case k6 => k_is); (case k7 => k_is); (case k8 => ktr_room); (case k9 => first | exact BindsTo.of_eq rfl | exact binds_K (by k_in) rfl (by k_is) rfl rfl rfl); (case c5 => decide); (case kB => exact locs rfl); (case c2 => exact rfl); (case c3 => exact rfl); (case c4 => exact rfl)); intro g' L' h' tk' FG' F' N' B' X' T' D' hg' lL'; (try k_lt lL'); (try dsimp only); (try k_fold)))
  (k_with "MineEnterSC" => (refine wpAny_call ?_; k_dflt (refine' enterQSC ?k1 ?k2 ?k3 ?k4 ?k5 ?k0 ?kA ?kF ?kK ?k6 ?k7 ?k8 ?k9 ?kB ?kD ?_ ?c2 ?c3 ?c4; (case kA => exact rfl); (case kF => exact rfl); (case kK => assumption); (case k1 => k_asm); (case k2 => k_asm); (case k3 => k_asm); (case k4 => k_asm); (case k5 => k_asm); (case k0 => k_asm); (case k6 => k_is); (case k7 => k_is); (case k8 => ktr_room); (case k9 => first | exact BindsTo.of_eq rfl | exact binds_K (by k_in) rfl (by k_is) rfl rfl rfl); (case kB => exact rfl); (case kD => decide +kernel); (case c2 => exact rfl); (case c3 => exact rfl); (case c4 => exact rfl)); intro g' L' h' tk' cells' FG' F' N' Y' B' X' T' D' hg' lL'; (try k_lt lL'); k_cells Y'; (try simp only [List.cons_append, List.nil_append] at N'); (try dsimp only); (try k_fold)))
  (k_with "MineEnterL" => (refine wpAny_call ?_; k_dflt (refine' enterQL ?k1 ?k2 ?k3 ?k4 ?k5 ?kA ?kF ?kK ?ho ?hc ?hd ?hv ?k8 ?k9 ?kB ?_ ?c2 ?c3 ?c4 ?c5; (case kA => exact rfl); (case kF => exact rfl); (case kK => assumption); (case k1 => k_asm); (case k2 => k_asm); (case k3 => k_asm); (case k4 => k_asm); (case k5 => k_asm); (case ho => k_mem); (case hc => k_mem); (case hd => assumption); (case hv => assumption); (case k8 => ktr_room); (case k9 => exact rfl); (case c5 => decide); (case kB => exact locs rfl); (case c2 => exact rfl); (case c3 => exact rfl); (case c4 => exact rfl)); intro g' L' h' tk' FG' F' N' B' X' T' hg' lL'; (try k_lt lL'); (try dsimp only); (try k_fold)))
  (k_with "MineWalkL" => (k_extra "MineEnterL"; k_dflt (show wpAny _ _ (eval (Expr.Call _ _ _ _) _) _ _ _); k_steps; all_goals (try dsimp only); all_goals (try (k_unfold; dsimp only))))
  (k_with "MineWalkS" => (k_extra "MineEnterS"; k_steps; all_goals (try dsimp only); all_goals (try (k_unfold; dsimp only))))
  (k_with "MineSame" => first | exact SameL.nil | (refine' SameL.cons ?sa ?sb; (case sa => first | exact same_int _ _ _ | exact same_bytes _ _ _ | exact PySem.SeqAt.EqAt.same _); (case sb => k_extra "MineSame")))
  (k_with "MineNeT" => (k_here; (with_reducible show wpAny _ _ (compareOp CmpOp.NotEq (Value.ref _) (Value.ref _)) _ _ _); k_dflt (refine' ne_tups ?N ?ml ?mb ?cl ?dl ?cb ?db ?hu ?hs ?_; (case N => k_asm); (case ml => k_mem); (case mb => k_mem); (case cl => rfl); (case dl => rfl); (case cb => rfl); (case db => rfl); (case hu => ke_room); (case hs => k_extra "MineSame"))))
  (k_with "MineEqT" => (k_here; (with_reducible show wpAny _ _ (compareOp CmpOp.Eq (Value.ref _) (Value.ref _)) _ _ _); k_dflt (refine' eq_tups ?N ?ml ?mb ?cl ?dl ?cb ?db ?hu ?hs ?_; (case N => k_asm); (case ml => k_mem); (case mb => k_mem); (case cl => rfl); (case dl => rfl); (case cb => rfl); (case db => rfl); (case hu => ke_room); (case hs => k_extra "MineSame"))))
  (k_with "MineNew" => ((try dsimp only [AllNe] at D1'); (try dsimp only [AllNe] at D2'); (try dsimp only [AllNe] at D3')))
  (k_with "MineNe1" => (refine neN ?_; (try dsimp only); with_reducible first | assumption | (refine Ne.symm ?_; assumption) | exact Nat.ne_of_lt (by assumption) | exact Nat.ne_of_gt (by assumption) | exact Nat.ne_of_lt (by k_extra "MineLtS") | exact Nat.ne_of_gt (by k_extra "MineLtS") | k_extra "MineNe2"))
  (k_with "MineLtS" => first | assumption | exact Nat.lt_succ_self _ | (refine Nat.lt_succ_of_lt ?_; k_extra "MineLtS"))
  (k_with "MineNe2" => (rename _ ∧ _ => hc9; first | k_extra "MinePrj" | (clear hc9; k_extra "MineNe2")))
  (k_with "MinePrj" => first | exact hc9.1 | exact Ne.symm hc9.1 | exact Nat.ne_of_lt hc9.1 | exact Nat.ne_of_gt hc9.1 | exact hc9.2.1 | exact Ne.symm hc9.2.1 | exact Nat.ne_of_lt hc9.2.1 | exact Nat.ne_of_gt hc9.2.1 | exact hc9.2.2.1 | exact Ne.symm hc9.2.2.1 | exact Nat.ne_of_lt hc9.2.2.1 | exact Nat.ne_of_gt hc9.2.2.1 | exact hc9.2.2.2.1 | exact Ne.symm hc9.2.2.2.1 | exact Nat.ne_of_lt hc9.2.2.2.1 | exact Nat.ne_of_gt hc9.2.2.2.1 | exact hc9.2.2.2.2.1 | exact Ne.symm hc9.2.2.2.2.1 | exact Nat.ne_of_lt hc9.2.2.2.2.1 | exact Nat.ne_of_gt hc9.2.2.2.2.1 | exact hc9.2.2.2.2.2.1 | exact Ne.symm hc9.2.2.2.2.2.1 | exact Nat.ne_of_lt hc9.2.2.2.2.2.1 | exact Nat.ne_of_gt hc9.2.2.2.2.2.1 | exact hc9.2.2.2.2.2.2.1 | exact Ne.symm hc9.2.2.2.2.2.2.1 | exact Nat.ne_of_lt hc9.2.2.2.2.2.2.1 | exact Nat.ne_of_gt hc9.2.2.2.2.2.2.1 | exact hc9.2.2.2.2.2.2.2.1 | exact Ne.symm hc9.2.2.2.2.2.2.2.1 | exact Nat.ne_of_lt hc9.2.2.2.2.2.2.2.1 | exact Nat.ne_of_gt hc9.2.2.2.2.2.2.2.1 | exact hc9.2.2.2.2.2.2.2.2.1 | exact Ne.symm hc9.2.2.2.2.2.2.2.2.1 | exact Nat.ne_of_lt hc9.2.2.2.2.2.2.2.2.1 | exact Nat.ne_of_gt hc9.2.2.2.2.2.2.2.2.1 | exact hc9.2.2.2.2.2.2.2.2.2.1 | exact Ne.symm hc9.2.2.2.2.2.2.2.2.2.1 | exact Nat.ne_of_lt hc9.2.2.2.2.2.2.2.2.2.1 | exact Nat.ne_of_gt hc9.2.2.2.2.2.2.2.2.2.1 | exact hc9.2.2.2.2.2.2.2.2.2.2.1 | exact Ne.symm hc9.2.2.2.2.2.2.2.2.2.2.1 | exact Nat.ne_of_lt hc9.2.2.2.2.2.2.2.2.2.2.1 | exact Nat.ne_of_gt hc9.2.2.2.2.2.2.2.2.2.2.1 | exact hc9.2.2.2.2.2.2.2.2.2.2.2.1 | exact Ne.symm hc9.2.2.2.2.2.2.2.2.2.2.2.1 | exact Nat.ne_of_lt hc9.2.2.2.2.2.2.2.2.2.2.2.1 | exact Nat.ne_of_gt hc9.2.2.2.2.2.2.2.2.2.2.2.1 | exact hc9.2.2.2.2.2.2.2.2.2.2.2.2.1 | exact Ne.symm hc9.2.2.2.2.2.2.2.2.2.2.2.2.1 | exact Nat.ne_of_lt hc9.2.2.2.2.2.2.2.2.2.2.2.2.1 | exact Nat.ne_of_gt hc9.2.2.2.2.2.2.2.2.2.2.2.2.1 | exact hc9.2.2.2.2.2.2.2.2.2.2.2.2.2.1 | exact Ne.symm hc9.2.2.2.2.2.2.2.2.2.2.2.2.2.1 | exact Nat.ne_of_lt hc9.2.2.2.2.2.2.2.2.2.2.2.2.2.1 | exact Nat.ne_of_gt hc9.2.2.2.2.2.2.2.2.2.2.2.2.2.1 | exact hc9.2.2.2.2.2.2.2.2.2.2.2.2.2.2.1 | exact Ne.symm hc9.2.2.2.2.2.2.2.2.2.2.2.2.2.2.1 | exact Nat.ne_of_lt hc9.2.2.2.2.2.2.2.2.2.2.2.2.2.2.1 | exact Nat.ne_of_gt hc9.2.2.2.2.2.2.2.2.2.2.2.2.2.2.1 | exact hc9.2.2.2.2.2.2.2.2.2.2.2.2.2.2.2.1 | exact Ne.symm hc9.2.2.2.2.2.2.2.2.2.2.2.2.2.2.2.1 | exact Nat.ne_of_lt hc9.2.2.2.2.2.2.2.2.2.2.2.2.2.2.2.1 | exact Nat.ne_of_gt hc9.2.2.2.2.2.2.2.2.2.2.2.2.2.2.2.1)
  trivial
theorem wordsK_CM : True := by
  (k_with "call ref" => (k_here; (with_reducible show wpAny _ _ (call (Value.ref 177) _) _ _ _); (try k_fold); k_dflt (refine' Ok.useIn (get_ok _ _ _ _ _ _ _ _ ?p0 ?p1 ?p2 ?p3 ?p4 ?p5) ?kA ?kh ?kd ?ku ?kB ?kF ?kX ?kN ?kT ?kk ?ks ?_; k_extra "MineSide"; (case ks => k_extra "MineMem"); (case p0 => assumption); (case p1 => omega); (case p2 => first | decide | omega); (case p3 => first | decide | omega); (case p4 => first | decide | omega); (case p5 => first | omega | k_extra "MineGetLen"); intro t' h' tk' F' N')))
  trivial
section
variable {loose : List Str} {mean : ExcName → Option Value} {mg mb : Str → Option Value}
theorem unpack_snap_none : ∀ (w : World) (x dx : Addr) (k1 k2 k3 k4 : Tok) (p0 p1 c : Int) (t0 t1 tc : Tok) (pb : Array UInt8) (tp : Tok), @Ne Nat x dx → ¬ (p0 = 170 ∧ p1 = 170 ∧ c = 3) →
    Ok w loose mean mg mb 335 2680 (.ref 373) [.ref x] (linkL w.params x dx k1 k2 k3 k4 p0 p1 c t0 t1 tc pb tp) (RPost (linkL w.params x dx k1 k2 k3 k4 p0 p1 c t0 t1 tc pb tp) (fun v nw => v = .none ∧ nw = [])) := by
  intro w x dx k1 k2 k3 k4 p0 p1 c t0 t1 tc pb tp hne hno
  unfold Ok
  k_fill
  intro cn cs a ccd cl outer A₀ base h₀ L m s Q E B F X N T hk hret
  k_extra "MineWalk"
  · have h9 := ‹(p0 == 170 && _) = true›
    simp only [Bool.and_eq_true, beq_iff_eq] at h9
    exact absurd h9 hno
  · refine' leaveR (nw := []) ?F ?N ?_ ?h2 ?h3
    k_extra "MineLeaveR"
    exact hret _ _ _ _ ⟨[], rfl, List.forall_mem_nil _, rfl, rfl⟩ F9 N9 K9 Z9
theorem unpack_snap_ok : ∀ (w : World) (x dx : Addr) (k1 k2 k3 k4 : Tok) (t0 t1 tc : Tok) (pb : Array UInt8) (tp : Tok) (o kd : Int) (pl rest : List Int), @Ne Nat x dx → KBw.bInts pb = pl → pl = [o / 65536, o / 256 % 256, o % 256] ++ [kd / 256, kd % 256] ++ rest → 5 ≤ pl.length → pl.length ≤ 100 → 0 ≤ o → o < 16777216 → 0 ≤ kd → kd < 65536 →
    Ok w loose mean mg mb 335 2680 (.ref 373) [.ref x] (linkL w.params x dx k1 k2 k3 k4 170 170 3 t0 t1 tc pb tp) (RPost (linkL w.params x dx k1 k2 k3 k4 170 170 3 t0 t1 tc pb tp) (fun v nw => ∃ t to tk rb tr, v = .ref t ∧ nw = [(t, tup3 (.int o to) (.int kd tk) (.bytes rb tr))] ∧ KBw.bInts rb = rest)) := by
  intro w x dx k1 k2 k3 k4 t0 t1 tc pb tp o kd pl rest hne hb he h5 h6 h0 h1 h2 h3
  obtain ⟨e1, e2, e3⟩ := snap_of he h0 h1 h2 h3 hb
  unfold Ok
  k_fill
  intro cn cs a ccd cl outer A₀ base h₀ L m s Q E B F X N T hk hret
  k_extra "MineWalk"
  · refine' leaveR (nw := [(_, tup3 _ _ _)]) ?F ?N ?_ ?h2 ?h3
    k_extra "MineLeaveR"
    rw [← e1, ← e2] at hret
    refine' hret _ _ _ _ ⟨_, rfl, ?_, _, _, _, _, _, rfl, rfl, e3⟩ F9 N9 K9 Z9
    k_extra "MineFresh"
end
-- calls taken apart
section
variable {w : World} {loose : List Str} {mean : ExcName → Option Value} {mg mb : Str → Option Value} {D U : Nat} {f : Value} {vs : List Value} {sub : Led}
  {A : Around} {cn : Str} {cs : Scope} {a : Addr} {ccd : Value} {cl : List (Str × Addr)} {outer : List Env} {A₀ : Around} {base h₀ : Heap} {L : Addr} {m : Str → Option Value} {s : Shared} {Q E : Value → Shared → Prop} {news : Led}
theorem Ok.useNo (C : Ok w loose mean mg mb D U f vs sub (RPost sub (fun v nw => v = .none ∧ nw = []))) (hA : A.frames = some (envX cn cs L a ccd cl :: outer)) (hh : A.handled = none) (hd : A.depth ≤ D) (hu : A.units ≤ U)
    (B : Below A₀ base outer h₀) (F : Fr h₀ L s.heap m) (X : (KH w.params).In h₀) (N : News h₀ L s.heap news) (T : Top topProg loose mean mg mb h₀) (hk : cs.kind = .function) (hs : ∀ q ∈ sub, q ∈ news)
    (k : ∀ h' tk', Fr h₀ L h' m → News h₀ L h' news → Q .none { s with heap := h', toks := tk' }) : wpAny (model rw0.prog w) A (call f vs) Q E s :=
  Ok.useR C hA hh hd hu B F X N T hk hs fun v nw h' tk' P F' N' D' => (by obtain ⟨rfl, rfl⟩ := P; exact k h' tk' F' N')
theorem Ok.useSnap {o kd : Int} {rest : List Int} (C : Ok w loose mean mg mb D U f vs sub (RPost sub (fun v nw => ∃ t to tk rb tr, v = .ref t ∧ nw = [(t, tup3 (.int o to) (.int kd tk) (.bytes rb tr))] ∧ KBw.bInts rb = rest))) (hA : A.frames = some (envX cn cs L a ccd cl :: outer)) (hh : A.handled = none) (hd : A.depth ≤ D) (hu : A.units ≤ U)
    (B : Below A₀ base outer h₀) (F : Fr h₀ L s.heap m) (X : (KH w.params).In h₀) (N : News h₀ L s.heap news) (T : Top topProg loose mean mg mb h₀) (hk : cs.kind = .function) (hs : ∀ q ∈ sub, q ∈ news)
    (k : ∀ t to tk rb tr h' tk', KBw.bInts rb = rest → AllNe t news → Fr h₀ L h' m → News h₀ L h' ((t, tup3 (.int o to) (.int kd tk) (.bytes rb tr)) :: news) → Q (.ref t) { s with heap := h', toks := tk' }) : wpAny (model rw0.prog w) A (call f vs) Q E s :=
  Ok.useR C hA hh hd hu B F X N T hk hs fun v nw h' tk' P F' N' D' => (by obtain ⟨t, to, tk, rb, tr, rfl, rfl, hb⟩ := P; exact k t to tk rb tr h' tk' hb (allNe_of (D' _ (.head _))) F' N')
end

-- part CR
theorem words0_CR : True := by
  k_with_none
  (k_with "MineEnter" => (refine wpAny_call ?_; k_dflt (refine' enterQ ?k1 ?k2 ?k3 ?k4 ?k5 ?kA ?kF ?kK ?k6 ?k7 ?k8 ?k9 ?kB ?_ ?c2 ?c3 ?c4 ?c5; (case kA => exact rfl); (case kF => exact rfl); (case kK => assumption); (case k1 => k_asm); (case k2 => k_asm); (case k3 => k_asm); (case k4 => k_asm); (case k5 => k_asm); (case k6 => k_is); (case k7 => k_is); (case k8 => ktr_room); (case k9 => first | exact BindsTo.of_eq rfl | exact binds_K (by k_in) rfl (by k_is) rfl rfl rfl); (case c5 => decide); (case kB => exact locs rfl); (case c2 => exact rfl); (case c3 => exact rfl); (case c4 => exact rfl)); intro g' L' h' tk' FG' F' N' B' X' T' hg' lL'; (try k_lt lL'); (try dsimp only); (try k_fold)))
  (k_with "MineEnterC" => (refine wpAny_call ?_; k_dflt (refine' enterQC ?k1 ?k2 ?k3 ?k4 ?k5 ?kA ?kF ?kK ?k6 ?k7 ?k8 ?k9 ?kB ?kD ?_ ?c2 ?c3 ?c4; (case kA => exact rfl); (case kF => exact rfl); (case kK => assumption); (case k1 => k_asm); (case k2 => k_asm); (case k3 => k_asm); (case k4 => k_asm); (case k5 => k_asm); (case k6 => k_is); (case k7 => k_is); (case k8 => ktr_room); (case k9 => first | exact BindsTo.of_eq rfl | exact binds_K (by k_in) rfl (by k_is) rfl rfl rfl); (case kB => exact rfl); (case kD => decide +kernel); (case c2 => exact rfl); (case c3 => exact rfl); (case c4 => exact rfl)); intro g' L' h' tk' cells' FG' F' N' Y' B' X' T' hg' lL'; (try k_lt lL'); k_cells Y'; (try simp only [List.cons_append, List.nil_append] at N'); (try dsimp only); (try k_fold)))
  (k_with "MineWalkC" => (k_extra "MineEnterC"; k_steps; all_goals (try dsimp only); all_goals (try (k_unfold; dsimp only))))
  (k_with "MineWalk" => (k_extra "MineEnter"; k_steps; all_goals (try dsimp only); all_goals (try (k_unfold; dsimp only))))
  (k_with "MineFresh" => first | exact List.forall_mem_nil _ | (refine' List.forall_mem_cons.mpr ⟨?fa, ?fb⟩; (case fa => (repeat (first | exact List.not_mem_nil | (refine' List.not_mem_cons_of_ne_of_not_mem ?fn ?_; (case fn => k_ne)))))); (case fb => k_extra "MineFresh"))
  (k_with "MineMem" => first | exact List.forall_mem_nil _ | (refine' List.forall_mem_cons.mpr ⟨?fa, ?fb⟩; (case fa => k_mem); (case fb => k_extra "MineMem")))
  (k_with "MineSide" => ((case kA => exact rfl); (case kh => exact rfl); (case kd => exact Nat.le_of_ble_eq_true rfl); (case ku => exact Nat.le_of_ble_eq_true rfl); (case kB => k_asm); (case kF => k_asm); (case kX => k_asm); (case kN => k_asm); (case kT => k_asm); (case kk => exact rfl)))
  (k_with "MineLed" => ((try simp only [List.nil_append, List.cons_append] at N'); (try (replace D' := allNe2_of D'; simp only [AllNe2, AllNe, and_true] at D'))))
  (k_with "MineLeaveW" => ((case F => k_asm); (case N => k_asm); (case h1 => k_mem); (case h2 => k_extra "MineMem"); (case h3 => k_extra "MineMem"); intro F9 N9 K9 Z9))
  (k_with "MineLeaveR" => ((case F => k_asm); (case N => k_asm); (case h2 => k_extra "MineMem"); (case h3 => k_extra "MineMem"); intro F9 N9 K9 Z9))
  (k_with "MineGetLen" => (exfalso; omega))
  (k_with "MinePut" => (first | exact Int.lt_of_lt_of_le (b := 256) (by omega) (by decide) | exact Int.lt_of_lt_of_le (b := 65536) (by omega) (by decide) | exact Int.lt_of_lt_of_le (b := 16777216) (by omega) (by decide) | exact Int.lt_of_lt_of_le (b := 281474976710656) (by omega) (by decide)))
  (k_with "MineBytes" => first | assumption | exact bI1 ⟨by omega, by omega⟩ | exact bI2 ⟨by omega, by omega⟩ ⟨by omega, by omega⟩ | exact zeros_ints _ | exact KBw.ints_list _)
  (k_with "MineAdd" => (k_here; (with_reducible show wpAny _ _ (binaryOp Operator.Add (Value.bytes _ _) (Value.bytes _ _)) _ _ _); (refine KBa.add_K (by k_extra "MineBytes") (by k_extra "MineBytes") (by first | (simp only [List.length_cons, List.length_nil, List.length_append, List.length_map, List.length_replicate, rangeInts_length]; omega) | omega | (simp only [List.length_cons, List.length_nil, List.length_append, List.length_map, List.length_replicate, sum_len]; omega)) ?_); intro t' k' hb'))
  (k_with "MinePutBad" => (intro h9; first | (have h8 := Int.lt_of_lt_of_le h9 (show (1 * 2 ^ ((8:Int) * 1).toNat : Int) ≤ 256 by decide); omega) | (have h8 := Int.lt_of_lt_of_le h9 (show (1 * 2 ^ ((8:Int) * 3).toNat : Int) ≤ 16777216 by decide); omega)))
  (k_with "MinePass" => ((rename RaisedS _ _ _ _ _ _ _ _ _ => rsX); k_dflt (refine' leave_onX (news := ?sub) ?K ?F ?hf rsX ?U ?hs ?_; (case sub => first | k_extra "MineSub" | exact []); (case K => k_asm); (case F => k_asm); (case hf => exact rfl); (case U => k_asm); (case hs => k_extra "MineMem"); intro h9 R9 U9)))
  (k_with "MineEnterS" => (refine wpAny_call ?_; k_dflt (refine' enterQS ?k1 ?k2 ?k3 ?k4 ?k5 ?k0 ?kA ?kF ?kK ?k6 ?k7 ?k8 ?k9 ?kB ?_ ?c2 ?c3 ?c4 ?c5; (case kA => exact rfl); (case kF => exact rfl); (case kK => assumption); (case k1 => k_asm); (case k2 => k_asm); (case k3 => k_asm); (case k4 => k_asm); (case k5 => k_asm); (case k0 => k_asm); (case k6 => k_is); (case k7 => k_is); (case k8 => ktr_room); (case k9 => first | exact BindsTo.of_eq rfl | exact binds_K (by k_in) rfl (by k_is) rfl rfl rfl); (case c5 => decide); (case kB => exact locs rfl); (case c2 => exact rfl); (case c3 => exact rfl); (case c4 => exact rfl)); intro g' L' h' tk' FG' F' N' B' X' T' D' hg' lL'; (try k_lt lL'); (try dsimp only); (try k_fold)))
  (k_with "MineEnterSC" => (refine wpAny_call ?_; k_dflt (refine' enterQSC ?k1 ?k2 ?k3 ?k4 ?k5 ?k0 ?kA ?kF ?kK ?k6 ?k7 ?k8 ?k9 ?kB ?kD ?_ ?c2 ?c3 ?c4; (case kA => exact rfl); (case kF => exact rfl); (case kK => assumption); (case k1 => k_asm); (case k2 => k_asm); (case k3 => k_asm); (case k4 => k_asm); (case k5 => k_asm); (case k0 => k_asm); (case k6 => k_is); (case k7 => k_is); (case k8 => ktr_room); (case k9 => first | exact BindsTo.of_eq rfl | exact binds_K (by k_in) rfl (by k_is) rfl rfl rfl); (case kB => exact rfl); (case kD => decide +kernel); (case c2 => exact rfl); (case c3 => exact rfl); (case c4 => exact rfl)); intro g' L' h' tk' cells' FG' F' N' Y' B' X' T' D' hg' lL'; (try k_lt lL'); k_cells Y'; (try simp only [List.cons_append, List.nil_append] at N'); (try dsimp only); (try k_fold)))
  (k_with "MineEnterL" => (refine wpAny_call ?_; k_dflt (refine' enterQL ?k1 ?k2 ?k3 ?k4 ?k5 ?kA ?kF ?kK ?ho ?hc ?hd ?hv ?k8 ?k9 ?kB ?_ ?c2 ?c3 ?c4 ?c5; (case kA => exact rfl); (case kF => exact rfl); (case kK => assumption); (case k1 => k_asm); (case k2 => k_asm); (case k3 => k_asm); (case k4 => k_asm); (case k5 => k_asm); (case ho => k_mem); (case hc => k_mem); (case hd => assumption); (case hv => assumption); (case k8 => ktr_room); (case k9 => exact rfl); (case c5 => decide); (case kB => exact locs rfl); (case c2 => exact rfl); (case c3 => exact rfl); (case c4 => exact rfl)); intro g' L' h' tk' FG' F' N' B' X' T' hg' lL'; (try k_lt lL'); (try dsimp only); (try k_fold)))
  (k_with "MineWalkL" => (k_extra "MineEnterL"; k_dflt (show wpAny _ _ (eval (Expr.Call _ _ _ _) _) _ _ _); k_steps; all_goals (try dsimp only); all_goals (try (k_unfold; dsimp only))))
  (k_with "MineWalkS" => (k_extra "MineEnterS"; k_steps; all_goals (try dsimp only); all_goals (try (k_unfold; dsimp only))))
  (k_with "MineSame" => first | exact SameL.nil | (refine' SameL.cons ?sa ?sb; (case sa => first | exact same_int _ _ _ | exact same_bytes _ _ _ | exact PySem.SeqAt.EqAt.same _); (case sb => k_extra "MineSame")))
  (k_with "MineNeT" => (k_here; (with_reducible show wpAny _ _ (compareOp CmpOp.NotEq (Value.ref _) (Value.ref _)) _ _ _); k_dflt (refine' ne_tups ?N ?ml ?mb ?cl ?dl ?cb ?db ?hu ?hs ?_; (case N => k_asm); (case ml => k_mem); (case mb => k_mem); (case cl => rfl); (case dl => rfl); (case cb => rfl); (case db => rfl); (case hu => ke_room); (case hs => k_extra "MineSame"))))
  (k_with "MineEqT" => (k_here; (with_reducible show wpAny _ _ (compareOp CmpOp.Eq (Value.ref _) (Value.ref _)) _ _ _); k_dflt (refine' eq_tups ?N ?ml ?mb ?cl ?dl ?cb ?db ?hu ?hs ?_; (case N => k_asm); (case ml => k_mem); (case mb => k_mem); (case cl => rfl); (case dl => rfl); (case cb => rfl); (case db => rfl); (case hu => ke_room); (case hs => k_extra "MineSame"))))
  (k_with "MineNew" => ((try dsimp only [AllNe] at D1'); (try dsimp only [AllNe] at D2'); (try dsimp only [AllNe] at D3')))
  (k_with "MineNe1" => (refine neN ?_; (try dsimp only); with_reducible first | assumption | (refine Ne.symm ?_; assumption) | exact Nat.ne_of_lt (by assumption) | exact Nat.ne_of_gt (by assumption) | exact Nat.ne_of_lt (by k_extra "MineLtS") | exact Nat.ne_of_gt (by k_extra "MineLtS") | k_extra "MineNe2"))
  (k_with "MineLtS" => first | assumption | exact Nat.lt_succ_self _ | (refine Nat.lt_succ_of_lt ?_; k_extra "MineLtS"))
  (k_with "MineNe2" => (rename _ ∧ _ => hc9; first | k_extra "MinePrj" | (clear hc9; k_extra "MineNe2")))
  (k_with "MinePrj" => first | exact hc9.1 | exact Ne.symm hc9.1 | exact Nat.ne_of_lt hc9.1 | exact Nat.ne_of_gt hc9.1 | exact hc9.2.1 | exact Ne.symm hc9.2.1 | exact Nat.ne_of_lt hc9.2.1 | exact Nat.ne_of_gt hc9.2.1 | exact hc9.2.2.1 | exact Ne.symm hc9.2.2.1 | exact Nat.ne_of_lt hc9.2.2.1 | exact Nat.ne_of_gt hc9.2.2.1 | exact hc9.2.2.2.1 | exact Ne.symm hc9.2.2.2.1 | exact Nat.ne_of_lt hc9.2.2.2.1 | exact Nat.ne_of_gt hc9.2.2.2.1 | exact hc9.2.2.2.2.1 | exact Ne.symm hc9.2.2.2.2.1 | exact Nat.ne_of_lt hc9.2.2.2.2.1 | exact Nat.ne_of_gt hc9.2.2.2.2.1 | exact hc9.2.2.2.2.2.1 | exact Ne.symm hc9.2.2.2.2.2.1 | exact Nat.ne_of_lt hc9.2.2.2.2.2.1 | exact Nat.ne_of_gt hc9.2.2.2.2.2.1 | exact hc9.2.2.2.2.2.2.1 | exact Ne.symm hc9.2.2.2.2.2.2.1 | exact Nat.ne_of_lt hc9.2.2.2.2.2.2.1 | exact Nat.ne_of_gt hc9.2.2.2.2.2.2.1 | exact hc9.2.2.2.2.2.2.2.1 | exact Ne.symm hc9.2.2.2.2.2.2.2.1 | exact Nat.ne_of_lt hc9.2.2.2.2.2.2.2.1 | exact Nat.ne_of_gt hc9.2.2.2.2.2.2.2.1 | exact hc9.2.2.2.2.2.2.2.2.1 | exact Ne.symm hc9.2.2.2.2.2.2.2.2.1 | exact Nat.ne_of_lt hc9.2.2.2.2.2.2.2.2.1 | exact Nat.ne_of_gt hc9.2.2.2.2.2.2.2.2.1 | exact hc9.2.2.2.2.2.2.2.2.2.1 | exact Ne.symm hc9.2.2.2.2.2.2.2.2.2.1 | exact Nat.ne_of_lt hc9.2.2.2.2.2.2.2.2.2.1 | exact Nat.ne_of_gt hc9.2.2.2.2.2.2.2.2.2.1 | exact hc9.2.2.2.2.2.2.2.2.2.2.1 | exact Ne.symm hc9.2.2.2.2.2.2.2.2.2.2.1 | exact Nat.ne_of_lt hc9.2.2.2.2.2.2.2.2.2.2.1 | exact Nat.ne_of_gt hc9.2.2.2.2.2.2.2.2.2.2.1 | exact hc9.2.2.2.2.2.2.2.2.2.2.2.1 | exact Ne.symm hc9.2.2.2.2.2.2.2.2.2.2.2.1 | exact Nat.ne_of_lt hc9.2.2.2.2.2.2.2.2.2.2.2.1 | exact Nat.ne_of_gt hc9.2.2.2.2.2.2.2.2.2.2.2.1 | exact hc9.2.2.2.2.2.2.2.2.2.2.2.2.1 | exact Ne.symm hc9.2.2.2.2.2.2.2.2.2.2.2.2.1 | exact Nat.ne_of_lt hc9.2.2.2.2.2.2.2.2.2.2.2.2.1 | exact Nat.ne_of_gt hc9.2.2.2.2.2.2.2.2.2.2.2.2.1 | exact hc9.2.2.2.2.2.2.2.2.2.2.2.2.2.1 | exact Ne.symm hc9.2.2.2.2.2.2.2.2.2.2.2.2.2.1 | exact Nat.ne_of_lt hc9.2.2.2.2.2.2.2.2.2.2.2.2.2.1 | exact Nat.ne_of_gt hc9.2.2.2.2.2.2.2.2.2.2.2.2.2.1 | exact hc9.2.2.2.2.2.2.2.2.2.2.2.2.2.2.1 | exact Ne.symm hc9.2.2.2.2.2.2.2.2.2.2.2.2.2.2.1 | exact Nat.ne_of_lt hc9.2.2.2.2.2.2.2.2.2.2.2.2.2.2.1 | exact Nat.ne_of_gt hc9.2.2.2.2.2.2.2.2.2.2.2.2.2.2.1 | exact hc9.2.2.2.2.2.2.2.2.2.2.2.2.2.2.2.1 | exact Ne.symm hc9.2.2.2.2.2.2.2.2.2.2.2.2.2.2.2.1 | exact Nat.ne_of_lt hc9.2.2.2.2.2.2.2.2.2.2.2.2.2.2.2.1 | exact Nat.ne_of_gt hc9.2.2.2.2.2.2.2.2.2.2.2.2.2.2.2.1)
  trivial
theorem wordsBad_CR : True := by
  (k_with "call ref" => (k_here; (with_reducible show wpAny _ _ (call (Value.ref 44) _) _ _ _); k_dflt (refine' Ok.useR (exc_call_ok _ _ _ _ (form_cls _)) ?kA ?kh ?kd ?ku ?kB ?kF ?kX ?kN ?kT ?kk ?ks ?_; k_extra "MineSide"; (case ks => k_extra "MineMem"); rintro _ _ h' tk' ⟨eX', tX', DX', odX', xX', rfl, rfl⟩ F' N' D'; k_extra "MineLed")))
  (k_with "call ref" => (k_here; (with_reducible show wpAny _ _ (call (Value.ref 56) _) _ _ _); k_dflt (refine' Ok.useR (exc_call_ok _ _ _ _ (size_cls _)) ?kA ?kh ?kd ?ku ?kB ?kF ?kX ?kN ?kT ?kk ?ks ?_; k_extra "MineSide"; (case ks => k_extra "MineMem"); rintro _ _ h' tk' ⟨eX', tX', DX', odX', xX', rfl, rfl⟩ F' N' D'; k_extra "MineLed")))
  (k_with "exec Raise some none" => (k_dflt (refine own_Raise (K := KH w.params) rfl ?_)))
  (k_with "OwnRaised" => (k_dflt (refine' ⟨_, _, _, _, ?c, ?X, rfl, ?he, ?_⟩; (case he => exact (‹News _ _ _ _› _ (.head _)).1); (case c => first | exact form_cls _ | exact size_cls _); (case X => exact (‹Frag.In _ _›).keeps (Fr.keep (by k_asm))))))
  (k_with "leaving ref" => (k_dflt (refine' leave_first (sub := ?sub) ?K ?F rfl rfl ?N ?he ?ht ?hs ?_; (case sub => first | k_extra "MineSub" | exact []); (case K => k_asm); (case F => k_asm); (case N => k_asm); (case he => k_mem); (case ht => k_mem); (case hs => k_extra "MineApart"); intro h9 R9 U9)))
  (k_with "MineApart" => first | exact List.forall_mem_nil _ | (refine' List.forall_mem_cons.mpr ⟨⟨?fa, ?fc, ?fd⟩, ?fb⟩; (case fa => k_mem); (case fc => k_ne); (case fd => k_ne); (case fb => k_extra "MineApart")))
  trivial
section
variable {loose : List Str} {mean : ExcName → Option Value} {mg mb : Str → Option Value}
theorem wordsCR : True := by
  (k_with "MineSub" => exact (linkL w.params x dx k1 k2 k3 k4 170 170 3 t0 t1 tc pb tp))
  trivial
theorem unpack_snap_bad : ∀ (w : World) (x dx : Addr) (k1 k2 k3 k4 : Tok) (t0 t1 tc : Tok) (pb : Array UInt8) (tp : Tok) (pl : List Int), @Ne Nat x dx → KBw.bInts pb = pl → pl.length < 5 →
    Bad w loose mean mg mb 335 2680 (.ref 373) [.ref x] (linkL w.params x dx k1 k2 k3 k4 170 170 3 t0 t1 tc pb tp) 44 := by
  intro w x dx k1 k2 k3 k4 t0 t1 tc pb tp pl hne hb h5
  unfold Bad
  k_fill
  intro cn cs a ccd cl outer A₀ base h₀ L m s Q E B F X N T hk hret
  k_extra "MineWalk"
  all_goals (subst hg'; exact hret _ _ _ _ _ R9 U9)
end

-- part CS
theorem words0_CS : True := by
  k_with_none
  (k_with "MineEnter" => (refine wpAny_call ?_; k_dflt (refine' enterQ ?k1 ?k2 ?k3 ?k4 ?k5 ?kA ?kF ?kK ?k6 ?k7 ?k8 ?k9 ?kB ?_ ?c2 ?c3 ?c4 ?c5; (case kA => exact rfl); (case kF => exact rfl); (case kK => assumption); (case k1 => k_asm); (case k2 => k_asm); (case k3 => k_asm); (case k4 => k_asm); (case k5 => k_asm); (case k6 => k_is); (case k7 => k_is); (case k8 => ktr_room); (case k9 => first | exact BindsTo.of_eq rfl | exact binds_K (by k_in) rfl (by k_is) rfl rfl rfl); (case c5 => decide); (case kB => exact locs rfl); (case c2 => exact rfl); (case c3 => exact rfl); (case c4 => exact rfl)); intro g' L' h' tk' FG' F' N' B' X' T' hg' lL'; (try k_lt lL'); (try dsimp only); (try k_fold)))
  (k_with "MineEnterC" => (refine wpAny_call ?_; k_dflt (refine' enterQC ?k1 ?k2 ?k3 ?k4 ?k5 ?kA ?kF ?kK ?k6 ?k7 ?k8 ?k9 ?kB ?kD ?_ ?c2 ?c3 ?c4; (case kA => exact rfl); (case kF => exact rfl); (case kK => assumption); (case k1 => k_asm); (case k2 => k_asm); (case k3 => k_asm); (case k4 => k_asm); (case k5 => k_asm); (case k6 => k_is); (case k7 => k_is); (case k8 => ktr_room); (case k9 => first | exact BindsTo.of_eq rfl | exact binds_K (by k_in) rfl (by k_is) rfl rfl rfl); (case kB => exact rfl); (case kD => decide +kernel); (case c2 => exact rfl); (case c3 => exact rfl); (case c4 => exact rfl)); intro g' L' h' tk' cells' FG' F' N' Y' B' X' T' hg' lL'; (try k_lt lL'); k_cells Y'; (try simp only [List.cons_append, List.nil_append] at N'); (try dsimp only); (try k_fold)))
  (k_with "MineWalkC" => (k_extra "MineEnterC"; k_steps; all_goals (try dsimp only); all_goals (try (k_unfold; dsimp only))))
  (k_with "MineWalk" => (k_extra "MineEnter"; k_steps; all_goals (try dsimp only); all_goals (try (k_unfold; dsimp only))))
  (k_with "MineFresh" => first | exact List.forall_mem_nil _ | (refine' List.forall_mem_cons.mpr ⟨?fa, ?fb⟩; (case fa => (repeat (first | exact List.not_mem_nil | (refine' List.not_mem_cons_of_ne_of_not_mem ?fn ?_; (case fn => k_ne)))))); (case fb => k_extra "MineFresh"))
  (k_with "MineMem" => first | exact List.forall_mem_nil _ | (refine' List.forall_mem_cons.mpr ⟨?fa, ?fb⟩; (case fa => k_mem); (case fb => k_extra "MineMem")))
  (k_with "MineSide" => ((case kA => exact rfl); (case kh => exact rfl); (case kd => exact Nat.le_of_ble_eq_true rfl); (case ku => exact Nat.le_of_ble_eq_true rfl); (case kB => k_asm); (case kF => k_asm); (case kX => k_asm); (case kN => k_asm); (case kT => k_asm); (case kk => exact rfl)))
  (k_with "MineLed" => ((try simp only [List.nil_append, List.cons_append] at N'); (try (replace D' := allNe2_of D'; simp only [AllNe2, AllNe, and_true] at D'))))
  (k_with "MineLeaveW" => ((case F => k_asm); (case N => k_asm); (case h1 => k_mem); (case h2 => k_extra "MineMem"); (case h3 => k_extra "MineMem"); intro F9 N9 K9 Z9))
  (k_with "MineLeaveR" => ((case F => k_asm); (case N => k_asm); (case h2 => k_extra "MineMem"); (case h3 => k_extra "MineMem"); intro F9 N9 K9 Z9))
  (k_with "MineGetLen" => (exfalso; omega))
  (k_with "MinePut" => (first | exact Int.lt_of_lt_of_le (b := 256) (by omega) (by decide) | exact Int.lt_of_lt_of_le (b := 65536) (by omega) (by decide) | exact Int.lt_of_lt_of_le (b := 16777216) (by omega) (by decide) | exact Int.lt_of_lt_of_le (b := 281474976710656) (by omega) (by decide)))
  (k_with "MineBytes" => first | assumption | exact bI1 ⟨by omega, by omega⟩ | exact bI2 ⟨by omega, by omega⟩ ⟨by omega, by omega⟩ | exact zeros_ints _ | exact KBw.ints_list _)
  (k_with "MineAdd" => (k_here; (with_reducible show wpAny _ _ (binaryOp Operator.Add (Value.bytes _ _) (Value.bytes _ _)) _ _ _); (refine KBa.add_K (by k_extra "MineBytes") (by k_extra "MineBytes") (by first | (simp only [List.length_cons, List.length_nil, List.length_append, List.length_map, List.length_replicate, rangeInts_length]; omega) | omega | (simp only [List.length_cons, List.length_nil, List.length_append, List.length_map, List.length_replicate, sum_len]; omega)) ?_); intro t' k' hb'))
  (k_with "MinePutBad" => (intro h9; first | (have h8 := Int.lt_of_lt_of_le h9 (show (1 * 2 ^ ((8:Int) * 1).toNat : Int) ≤ 256 by decide); omega) | (have h8 := Int.lt_of_lt_of_le h9 (show (1 * 2 ^ ((8:Int) * 3).toNat : Int) ≤ 16777216 by decide); omega)))
  (k_with "MinePass" => ((rename RaisedS _ _ _ _ _ _ _ _ _ => rsX); k_dflt (refine' leave_onX (news := ?sub) ?K ?F ?hf rsX ?U ?hs ?_; (case sub => first | k_extra "MineSub" | exact []); (case K => k_asm); (case F => k_asm); (case hf => exact rfl); (case U => k_asm); (case hs => k_extra "MineMem"); intro h9 R9 U9)))
  (k_with "MineEnterS" => (refine wpAny_call ?_; k_dflt (refine' enterQS ?k1 ?k2 ?k3 ?k4 ?k5 ?k0 ?kA ?kF ?kK ?k6 ?k7 ?k8 ?k9 ?kB ?_ ?c2 ?c3 ?c4 ?c5; (case kA => exact rfl); (case kF => exact rfl); (case kK => assumption); (case k1 => k_asm); (case k2 => k_asm); (case k3 => k_asm); (case k4 => k_asm); (case k5 => k_asm); (case k0 => k_asm); (case k6 => k_is); (case k7 => k_is); (case k8 => ktr_room); (case k9 => first | exact BindsTo.of_eq rfl | exact binds_K (by k_in) rfl (by k_is) rfl rfl rfl); (case c5 => decide); (case kB => exact locs rfl); (case c2 => exact rfl); (case c3 => exact rfl); (case c4 => exact rfl)); intro g' L' h' tk' FG' F' N' B' X' T' D' hg' lL'; (try k_lt lL'); (try dsimp only); (try k_fold)))
  (k_with "MineEnterSC" => (refine wpAny_call ?_; k_dflt (refine' enterQSC ?k1 ?k2 ?k3 ?k4 ?k5 ?k0 ?kA ?kF ?kK ?k6 ?k7 ?k8 ?k9 ?kB ?kD ?_ ?c2 ?c3 ?c4; (case kA => exact rfl); (case kF => exact rfl); (case kK => assumption); (case k1 => k_asm); (case k2 => k_asm); (case k3 => k_asm); (case k4 => k_asm); (case k5 => k_asm); (case k0 => k_asm); (case k6 => k_is); (case k7 => k_is); (case k8 => ktr_room); (case k9 => first | exact BindsTo.of_eq rfl | exact binds_K (by k_in) rfl (by k_is) rfl rfl rfl); (case kB => exact rfl); (case kD => decide +kernel); (case c2 => exact rfl); (case c3 => exact rfl); (case c4 => exact rfl)); intro g' L' h' tk' cells' FG' F' N' Y' B' X' T' D' hg' lL'; (try k_lt lL'); k_cells Y'; (try simp only [List.cons_append, List.nil_append] at N'); (try dsimp only); (try k_fold)))
  (k_with "MineEnterL" => (refine wpAny_call ?_; k_dflt (refine' enterQL ?k1 ?k2 ?k3 ?k4 ?k5 ?kA ?kF ?kK ?ho ?hc ?hd ?hv ?k8 ?k9 ?kB ?_ ?c2 ?c3 ?c4 ?c5; (case kA => exact rfl); (case kF => exact rfl); (case kK => assumption); (case k1 => k_asm); (case k2 => k_asm); (case k3 => k_asm); (case k4 => k_asm); (case k5 => k_asm); (case ho => k_mem); (case hc => k_mem); (case hd => assumption); (case hv => assumption); (case k8 => ktr_room); (case k9 => exact rfl); (case c5 => decide); (case kB => exact locs rfl); (case c2 => exact rfl); (case c3 => exact rfl); (case c4 => exact rfl)); intro g' L' h' tk' FG' F' N' B' X' T' hg' lL'; (try k_lt lL'); (try dsimp only); (try k_fold)))
  (k_with "MineWalkL" => (k_extra "MineEnterL"; k_dflt (show wpAny _ _ (eval (Expr.Call _ _ _ _) _) _ _ _); k_steps; all_goals (try dsimp only); all_goals (try (k_unfold; dsimp only))))
  (k_with "MineWalkS" => (k_extra "MineEnterS"; k_steps; all_goals (try dsimp only); all_goals (try (k_unfold; dsimp only))))
  (k_with "MineSame" => first | exact SameL.nil | (refine' SameL.cons ?sa ?sb; (case sa => first | exact same_int _ _ _ | exact same_bytes _ _ _ | exact PySem.SeqAt.EqAt.same _); (case sb => k_extra "MineSame")))
  (k_with "MineNeT" => (k_here; (with_reducible show wpAny _ _ (compareOp CmpOp.NotEq (Value.ref _) (Value.ref _)) _ _ _); k_dflt (refine' ne_tups ?N ?ml ?mb ?cl ?dl ?cb ?db ?hu ?hs ?_; (case N => k_asm); (case ml => k_mem); (case mb => k_mem); (case cl => rfl); (case dl => rfl); (case cb => rfl); (case db => rfl); (case hu => ke_room); (case hs => k_extra "MineSame"))))
  (k_with "MineEqT" => (k_here; (with_reducible show wpAny _ _ (compareOp CmpOp.Eq (Value.ref _) (Value.ref _)) _ _ _); k_dflt (refine' eq_tups ?N ?ml ?mb ?cl ?dl ?cb ?db ?hu ?hs ?_; (case N => k_asm); (case ml => k_mem); (case mb => k_mem); (case cl => rfl); (case dl => rfl); (case cb => rfl); (case db => rfl); (case hu => ke_room); (case hs => k_extra "MineSame"))))
  (k_with "MineNew" => ((try dsimp only [AllNe] at D1'); (try dsimp only [AllNe] at D2'); (try dsimp only [AllNe] at D3')))
  (k_with "MineNe1" => (refine neN ?_; (try dsimp only); with_reducible first | assumption | (refine Ne.symm ?_; assumption) | exact Nat.ne_of_lt (by assumption) | exact Nat.ne_of_gt (by assumption) | exact Nat.ne_of_lt (by k_extra "MineLtS") | exact Nat.ne_of_gt (by k_extra "MineLtS") | k_extra "MineNe2"))
  (k_with "MineLtS" => first | assumption | exact Nat.lt_succ_self _ | (refine Nat.lt_succ_of_lt ?_; k_extra "MineLtS"))
  (k_with "MineNe2" => (rename _ ∧ _ => hc9; first | k_extra "MinePrj" | (clear hc9; k_extra "MineNe2")))
  (k_with "MinePrj" => first | exact hc9.1 | exact Ne.symm hc9.1 | exact Nat.ne_of_lt hc9.1 | exact Nat.ne_of_gt hc9.1 | exact hc9.2.1 | exact Ne.symm hc9.2.1 | exact Nat.ne_of_lt hc9.2.1 | exact Nat.ne_of_gt hc9.2.1 | exact hc9.2.2.1 | exact Ne.symm hc9.2.2.1 | exact Nat.ne_of_lt hc9.2.2.1 | exact Nat.ne_of_gt hc9.2.2.1 | exact hc9.2.2.2.1 | exact Ne.symm hc9.2.2.2.1 | exact Nat.ne_of_lt hc9.2.2.2.1 | exact Nat.ne_of_gt hc9.2.2.2.1 | exact hc9.2.2.2.2.1 | exact Ne.symm hc9.2.2.2.2.1 | exact Nat.ne_of_lt hc9.2.2.2.2.1 | exact Nat.ne_of_gt hc9.2.2.2.2.1 | exact hc9.2.2.2.2.2.1 | exact Ne.symm hc9.2.2.2.2.2.1 | exact Nat.ne_of_lt hc9.2.2.2.2.2.1 | exact Nat.ne_of_gt hc9.2.2.2.2.2.1 | exact hc9.2.2.2.2.2.2.1 | exact Ne.symm hc9.2.2.2.2.2.2.1 | exact Nat.ne_of_lt hc9.2.2.2.2.2.2.1 | exact Nat.ne_of_gt hc9.2.2.2.2.2.2.1 | exact hc9.2.2.2.2.2.2.2.1 | exact Ne.symm hc9.2.2.2.2.2.2.2.1 | exact Nat.ne_of_lt hc9.2.2.2.2.2.2.2.1 | exact Nat.ne_of_gt hc9.2.2.2.2.2.2.2.1 | exact hc9.2.2.2.2.2.2.2.2.1 | exact Ne.symm hc9.2.2.2.2.2.2.2.2.1 | exact Nat.ne_of_lt hc9.2.2.2.2.2.2.2.2.1 | exact Nat.ne_of_gt hc9.2.2.2.2.2.2.2.2.1 | exact hc9.2.2.2.2.2.2.2.2.2.1 | exact Ne.symm hc9.2.2.2.2.2.2.2.2.2.1 | exact Nat.ne_of_lt hc9.2.2.2.2.2.2.2.2.2.1 | exact Nat.ne_of_gt hc9.2.2.2.2.2.2.2.2.2.1 | exact hc9.2.2.2.2.2.2.2.2.2.2.1 | exact Ne.symm hc9.2.2.2.2.2.2.2.2.2.2.1 | exact Nat.ne_of_lt hc9.2.2.2.2.2.2.2.2.2.2.1 | exact Nat.ne_of_gt hc9.2.2.2.2.2.2.2.2.2.2.1 | exact hc9.2.2.2.2.2.2.2.2.2.2.2.1 | exact Ne.symm hc9.2.2.2.2.2.2.2.2.2.2.2.1 | exact Nat.ne_of_lt hc9.2.2.2.2.2.2.2.2.2.2.2.1 | exact Nat.ne_of_gt hc9.2.2.2.2.2.2.2.2.2.2.2.1 | exact hc9.2.2.2.2.2.2.2.2.2.2.2.2.1 | exact Ne.symm hc9.2.2.2.2.2.2.2.2.2.2.2.2.1 | exact Nat.ne_of_lt hc9.2.2.2.2.2.2.2.2.2.2.2.2.1 | exact Nat.ne_of_gt hc9.2.2.2.2.2.2.2.2.2.2.2.2.1 | exact hc9.2.2.2.2.2.2.2.2.2.2.2.2.2.1 | exact Ne.symm hc9.2.2.2.2.2.2.2.2.2.2.2.2.2.1 | exact Nat.ne_of_lt hc9.2.2.2.2.2.2.2.2.2.2.2.2.2.1 | exact Nat.ne_of_gt hc9.2.2.2.2.2.2.2.2.2.2.2.2.2.1 | exact hc9.2.2.2.2.2.2.2.2.2.2.2.2.2.2.1 | exact Ne.symm hc9.2.2.2.2.2.2.2.2.2.2.2.2.2.2.1 | exact Nat.ne_of_lt hc9.2.2.2.2.2.2.2.2.2.2.2.2.2.2.1 | exact Nat.ne_of_gt hc9.2.2.2.2.2.2.2.2.2.2.2.2.2.2.1 | exact hc9.2.2.2.2.2.2.2.2.2.2.2.2.2.2.2.1 | exact Ne.symm hc9.2.2.2.2.2.2.2.2.2.2.2.2.2.2.2.1 | exact Nat.ne_of_lt hc9.2.2.2.2.2.2.2.2.2.2.2.2.2.2.2.1 | exact Nat.ne_of_gt hc9.2.2.2.2.2.2.2.2.2.2.2.2.2.2.2.1)
  trivial
def tabV : List Value := [.int 0 303, .int 498536548 342, .int 997073096 381, .int 651767980 421, .int 1994146192 460, .int 1802195444 500, .int 1303535960 540, .int 1342533948 581, .int 3988292384 620, .int 4027552580 660, .int 3604390888 700, .int 3412177804 741, .int 2607071920 781, .int 2262029012 822, .int 2685067896 863, .int 3183342108 905]
def tabN : List Int := intsOf tabV
def half (i : Int) : Int := tabN.getD i.toNat 0
theorem tab_ints : IntsAre tabV tabN := ints_of rfl
theorem half_in (i : Int) : 0 ≤ half i ∧ half i < 4294967296 := by
  have h := kmn_any (l := tabN) (i := i.toNat) (d := 0) (lo := 0) (hi := 4294967295) (by decide)
  unfold half
  omega
theorem xor_in {x y : Int} (h : 0 ≤ x ∧ x < 4294967296) (k : 0 ≤ y ∧ y < 4294967296) : 0 ≤ Builtin.bitXor x y ∧ Builtin.bitXor x y < 4294967296 := by
  rw [bitXor_and, bitAnd_pp h.1 k.1]
  obtain ⟨n, rfl⟩ := Int.eq_ofNat_of_zero_le h.1
  obtain ⟨j, rfl⟩ := Int.eq_ofNat_of_zero_le k.1
  have h1 := nat_or_add_and n j
  have h2 : n ||| j < 2 ^ 32 := Nat.or_lt_two_pow (by omega) (by omega)
  have h3 : n &&& j ≤ n := Nat.and_le_left
  have h4 : n &&& j ≤ j := Nat.and_le_right
  have e1 : ((n : Nat) : Int).toNat = n := by omega
  have e2 : ((j : Nat) : Int).toNat = j := by omega
  rw [e1, e2]
  omega
def crcHalf (a z : Int) : Int := Builtin.bitXor (a.fdiv (2 ^ (4 : Int).toNat)) (half (Builtin.bitAnd z 15))
def crcStep (a k : Int) : Int := crcHalf (crcHalf a (Builtin.bitXor a k)) (Builtin.bitXor (crcHalf a (Builtin.bitXor a k)) (k.fdiv (2 ^ (4 : Int).toNat)))
theorem crcHalf_in {a : Int} (h : 0 ≤ a ∧ a < 4294967296) (z : Int) : 0 ≤ crcHalf a z ∧ crcHalf a z < 4294967296 := by
  refine xor_in ?_ (half_in _)
  have e : a.fdiv (2 ^ (4 : Int).toNat) = a / 16 := fd a (by decide)
  rw [e]; omega
theorem crcStep_in {a : Int} (h : 0 ≤ a ∧ a < 4294967296) (k : Int) : 0 ≤ crcStep a k ∧ crcStep a k < 4294967296 := crcHalf_in (crcHalf_in h _) _
theorem crcFold_in : ∀ (l : List Int) {a : Int}, 0 ≤ a ∧ a < 4294967296 → 0 ≤ l.foldl crcStep a ∧ l.foldl crcStep a < 4294967296
  | [], _, h => h
  | k :: r, _, h => crcFold_in r (crcStep_in h k)
def crcOf (ks : List Int) : Int := Builtin.bitXor (ks.foldl crcStep 4294967295) 4294967295
theorem crc_turns (ks : List Int) : ∀ i, i < ks.length → (fun a : Int => 0 ≤ a ∧ a < 4294967296) ((ks.take i).foldl crcStep 4294967295) := fun i _ => crcFold_in (ks.take i) (by decide)
theorem and15 (z : Int) : 0 ≤ Builtin.bitAnd z 15 ∧ Builtin.bitAnd z 15 < 16 := by rw [bitAnd_m4]; omega
theorem wordsCS : True := by
  (k_with "exec For Name Name cons nil" => (k_dflt (refine' For_invVF ?F ?k1 ?k2 ?_; (case F => k_asm); (case k1 => exact rfl); (case k2 => exact rfl))))
  (k_with "pyIter bytes" => (k_dflt (refine' bytes_loop (y := Str.ofString "word") crcStep (fun a : Int => 0 ≤ a ∧ a < 4294967296) ?hB ?hk ?hh ?F ?N ?hy ?turn ?done; (case hk => exact hb); (case hB => exact crc_turns _); (case hh => rfl); (case F => k_asm); (case N => k_asm); (case hy => exact rfl); (case' turn => intro k' t' a' ta' h' tk' own' hBd' k0' k1' off' F' N'; obtain ⟨hBd0', hBd1'⟩ := hBd'); (case' done => intro u' t' h' tk' F' N'))))
  (k_with "InvEndN" => (k_dflt (refine InvEndN.intro (by assumption) (by assumption) ⟨rfl, ⟨_, rfl⟩, ?_⟩ (by rfl) ?_)))
  (k_with "subscriptTail" => (k_here; (with_reducible show wpAny _ _ (subscriptTail _ _ (Value.ref 153) (Value.int _ _)) _ _ _); k_dflt (refine' topTupAny_K (l := tabV) (ns := tabN) ?F ?X ?l ?i ?k3 ?k4 ?k5 ?_ ?hs; (case F => k_asm); (case X => k_asm); (case l => exact rfl); (case i => exact tab_ints); (case k3 => exact (and15 _).1); (case k4 => exact (and15 _).2); (case k5 => exact Int.lt_trans (and15 _).2 (by decide)); (case hs => with_unfolding_all rfl); intro _)))
  trivial
section
variable {loose : List Str} {mean : ExcName → Option Value} {mg mb : Str → Option Value}
theorem crc_ok : ∀ (w : World) (b : Array UInt8) (tb : Tok) (ks : List Int), KBw.bInts b = ks → ks.length ≤ 2000 →
    Ok w loose mean mg mb 350 2800 (.ref 160) [.bytes b tb] [] (RPost [] (IntIs (crcOf ks))) := by
  intro w b tb ks hb hl
  unfold Ok
  k_fill
  intro cn cs a ccd cl outer A₀ base h₀ L m s Q E B F X N T hk hret
  k_extra "MineWalk"
  · refine' leaveR (nw := []) ?F ?N ?_ ?h2 ?h3
    k_extra "MineLeaveR"
    exact hret _ _ _ _ ⟨[], rfl, List.forall_mem_nil _, rfl, _, rfl⟩ F9 N9 K9 Z9
end

-- part CT
theorem words0_CT : True := by
  k_with_none
  (k_with "MineEnter" => (refine wpAny_call ?_; k_dflt (refine' enterQ ?k1 ?k2 ?k3 ?k4 ?k5 ?kA ?kF ?kK ?k6 ?k7 ?k8 ?k9 ?kB ?_ ?c2 ?c3 ?c4 ?c5; (case kA => exact rfl); (case kF => exact rfl); (case kK => assumption); (case k1 => k_asm); (case k2 => k_asm); (case k3 => k_asm); (case k4 => k_asm); (case k5 => k_asm); (case k6 => k_is); (case k7 => k_is); (case k8 => ktr_room); (case k9 => first | exact BindsTo.of_eq rfl | exact binds_K (by k_in) rfl (by k_is) rfl rfl rfl); (case c5 => decide); (case kB => exact locs rfl); (case c2 => exact rfl); (case c3 => exact rfl); (case c4 => exact rfl)); intro g' L' h' tk' FG' F' N' B' X' T' hg' lL'; (try k_lt lL'); (try dsimp only); (try k_fold)))
  (k_with "MineEnterC" => (refine wpAny_call ?_; k_dflt (refine' enterQC ?k1 ?k2 ?k3 ?k4 ?k5 ?kA ?kF ?kK ?k6 ?k7 ?k8 ?k9 ?kB ?kD ?_ ?c2 ?c3 ?c4; (case kA => exact rfl); (case kF => exact rfl); (case kK => assumption); (case k1 => k_asm); (case k2 => k_asm); (case k3 => k_asm); (case k4 => k_asm); (case k5 => k_asm); (case k6 => k_is); (case k7 => k_is); (case k8 => ktr_room); (case k9 => first | exact BindsTo.of_eq rfl | exact binds_K (by k_in) rfl (by k_is) rfl rfl rfl); (case kB => exact rfl); (case kD => decide +kernel); (case c2 => exact rfl); (case c3 => exact rfl); (case c4 => exact rfl)); intro g' L' h' tk' cells' FG' F' N' Y' B' X' T' hg' lL'; (try k_lt lL'); k_cells Y'; (try simp only [List.cons_append, List.nil_append] at N'); (try dsimp only); (try k_fold)))
  (k_with "MineWalkC" => (k_extra "MineEnterC"; k_steps; all_goals (try dsimp only); all_goals (try (k_unfold; dsimp only))))
  (k_with "MineWalk" => (k_extra "MineEnter"; k_steps; all_goals (try dsimp only); all_goals (try (k_unfold; dsimp only))))
  (k_with "MineFresh" => first | exact List.forall_mem_nil _ | (refine' List.forall_mem_cons.mpr ⟨?fa, ?fb⟩; (case fa => (repeat (first | exact List.not_mem_nil | (refine' List.not_mem_cons_of_ne_of_not_mem ?fn ?_; (case fn => k_ne)))))); (case fb => k_extra "MineFresh"))
  (k_with "MineMem" => first | exact List.forall_mem_nil _ | (refine' List.forall_mem_cons.mpr ⟨?fa, ?fb⟩; (case fa => k_mem); (case fb => k_extra "MineMem")))
  (k_with "MineSide" => ((case kA => exact rfl); (case kh => exact rfl); (case kd => exact Nat.le_of_ble_eq_true rfl); (case ku => exact Nat.le_of_ble_eq_true rfl); (case kB => k_asm); (case kF => k_asm); (case kX => k_asm); (case kN => k_asm); (case kT => k_asm); (case kk => exact rfl)))
  (k_with "MineLed" => ((try simp only [List.nil_append, List.cons_append] at N'); (try (replace D' := allNe2_of D'; simp only [AllNe2, AllNe, and_true] at D'))))
  (k_with "MineLeaveW" => ((case F => k_asm); (case N => k_asm); (case h1 => k_mem); (case h2 => k_extra "MineMem"); (case h3 => k_extra "MineMem"); intro F9 N9 K9 Z9))
  (k_with "MineLeaveR" => ((case F => k_asm); (case N => k_asm); (case h2 => k_extra "MineMem"); (case h3 => k_extra "MineMem"); intro F9 N9 K9 Z9))
  (k_with "MineGetLen" => (exfalso; omega))
  (k_with "MinePut" => (first | exact Int.lt_of_lt_of_le (b := 256) (by omega) (by decide) | exact Int.lt_of_lt_of_le (b := 65536) (by omega) (by decide) | exact Int.lt_of_lt_of_le (b := 16777216) (by omega) (by decide) | exact Int.lt_of_lt_of_le (b := 281474976710656) (by omega) (by decide)))
  (k_with "MineBytes" => first | assumption | exact bI1 ⟨by omega, by omega⟩ | exact bI2 ⟨by omega, by omega⟩ ⟨by omega, by omega⟩ | exact zeros_ints _ | exact KBw.ints_list _)
  (k_with "MineAdd" => (k_here; (with_reducible show wpAny _ _ (binaryOp Operator.Add (Value.bytes _ _) (Value.bytes _ _)) _ _ _); (refine KBa.add_K (by k_extra "MineBytes") (by k_extra "MineBytes") (by first | (simp only [List.length_cons, List.length_nil, List.length_append, List.length_map, List.length_replicate, rangeInts_length]; omega) | omega | (simp only [List.length_cons, List.length_nil, List.length_append, List.length_map, List.length_replicate, sum_len]; omega)) ?_); intro t' k' hb'))
  (k_with "MinePutBad" => (intro h9; first | (have h8 := Int.lt_of_lt_of_le h9 (show (1 * 2 ^ ((8:Int) * 1).toNat : Int) ≤ 256 by decide); omega) | (have h8 := Int.lt_of_lt_of_le h9 (show (1 * 2 ^ ((8:Int) * 3).toNat : Int) ≤ 16777216 by decide); omega)))
  (k_with "MinePass" => ((rename RaisedS _ _ _ _ _ _ _ _ _ => rsX); k_dflt (refine' leave_onX (news := ?sub) ?K ?F ?hf rsX ?U ?hs ?_; (case sub => first | k_extra "MineSub" | exact []); (case K => k_asm); (case F => k_asm); (case hf => exact rfl); (case U => k_asm); (case hs => k_extra "MineMem"); intro h9 R9 U9)))
  (k_with "MineEnterS" => (refine wpAny_call ?_; k_dflt (refine' enterQS ?k1 ?k2 ?k3 ?k4 ?k5 ?k0 ?kA ?kF ?kK ?k6 ?k7 ?k8 ?k9 ?kB ?_ ?c2 ?c3 ?c4 ?c5; (case kA => exact rfl); (case kF => exact rfl); (case kK => assumption); (case k1 => k_asm); (case k2 => k_asm); (case k3 => k_asm); (case k4 => k_asm); (case k5 => k_asm); (case k0 => k_asm); (case k6 => k_is); (case k7 => k_is); (case k8 => ktr_room); (case k9 => first | exact BindsTo.of_eq rfl | exact binds_K (by k_in) rfl (by k_is) rfl rfl rfl); (case c5 => decide); (case kB => exact locs rfl); (case c2 => exact rfl); (case c3 => exact rfl); (case c4 => exact rfl)); intro g' L' h' tk' FG' F' N' B' X' T' D' hg' lL'; (try k_lt lL'); (try dsimp only); (try k_fold)))
  (k_with "MineEnterSC" => (refine wpAny_call ?_; k_dflt (refine' enterQSC ?k1 ?k2 ?k3 ?k4 ?k5 ?k0 ?kA ?kF ?kK ?k6 ?k7 ?k8 ?k9 ?kB ?kD ?_ ?c2 ?c3 ?c4; (case kA => exact rfl); (case kF => exact rfl); (case kK => assumption); (case k1 => k_asm); (case k2 => k_asm); (case k3 => k_asm); (case k4 => k_asm); (case k5 => k_asm); (case k0 => k_asm); (case k6 => k_is); (case k7 => k_is); (case k8 => ktr_room); (case k9 => first | exact BindsTo.of_eq rfl | exact binds_K (by k_in) rfl (by k_is) rfl rfl rfl); (case kB => exact rfl); (case kD => decide +kernel); (case c2 => exact rfl); (case c3 => exact rfl); (case c4 => exact rfl)); intro g' L' h' tk' cells' FG' F' N' Y' B' X' T' D' hg' lL'; (try k_lt lL'); k_cells Y'; (try simp only [List.cons_append, List.nil_append] at N'); (try dsimp only); (try k_fold)))
  (k_with "MineEnterL" => (refine wpAny_call ?_; k_dflt (refine' enterQL ?k1 ?k2 ?k3 ?k4 ?k5 ?kA ?kF ?kK ?ho ?hc ?hd ?hv ?k8 ?k9 ?kB ?_ ?c2 ?c3 ?c4 ?c5; (case kA => exact rfl); (case kF => exact rfl); (case kK => assumption); (case k1 => k_asm); (case k2 => k_asm); (case k3 => k_asm); (case k4 => k_asm); (case k5 => k_asm); (case ho => k_mem); (case hc => k_mem); (case hd => assumption); (case hv => assumption); (case k8 => ktr_room); (case k9 => exact rfl); (case c5 => decide); (case kB => exact locs rfl); (case c2 => exact rfl); (case c3 => exact rfl); (case c4 => exact rfl)); intro g' L' h' tk' FG' F' N' B' X' T' hg' lL'; (try k_lt lL'); (try dsimp only); (try k_fold)))
  (k_with "MineWalkL" => (k_extra "MineEnterL"; k_dflt (show wpAny _ _ (eval (Expr.Call _ _ _ _) _) _ _ _); k_steps; all_goals (try dsimp only); all_goals (try (k_unfold; dsimp only))))
  (k_with "MineWalkS" => (k_extra "MineEnterS"; k_steps; all_goals (try dsimp only); all_goals (try (k_unfold; dsimp only))))
  (k_with "MineSame" => first | exact SameL.nil | (refine' SameL.cons ?sa ?sb; (case sa => first | exact same_int _ _ _ | exact same_bytes _ _ _ | exact PySem.SeqAt.EqAt.same _); (case sb => k_extra "MineSame")))
  (k_with "MineNeT" => (k_here; (with_reducible show wpAny _ _ (compareOp CmpOp.NotEq (Value.ref _) (Value.ref _)) _ _ _); k_dflt (refine' ne_tups ?N ?ml ?mb ?cl ?dl ?cb ?db ?hu ?hs ?_; (case N => k_asm); (case ml => k_mem); (case mb => k_mem); (case cl => rfl); (case dl => rfl); (case cb => rfl); (case db => rfl); (case hu => ke_room); (case hs => k_extra "MineSame"))))
  (k_with "MineEqT" => (k_here; (with_reducible show wpAny _ _ (compareOp CmpOp.Eq (Value.ref _) (Value.ref _)) _ _ _); k_dflt (refine' eq_tups ?N ?ml ?mb ?cl ?dl ?cb ?db ?hu ?hs ?_; (case N => k_asm); (case ml => k_mem); (case mb => k_mem); (case cl => rfl); (case dl => rfl); (case cb => rfl); (case db => rfl); (case hu => ke_room); (case hs => k_extra "MineSame"))))
  (k_with "MineNew" => ((try dsimp only [AllNe] at D1'); (try dsimp only [AllNe] at D2'); (try dsimp only [AllNe] at D3')))
  (k_with "MineNe1" => (refine neN ?_; (try dsimp only); with_reducible first | assumption | (refine Ne.symm ?_; assumption) | exact Nat.ne_of_lt (by assumption) | exact Nat.ne_of_gt (by assumption) | exact Nat.ne_of_lt (by k_extra "MineLtS") | exact Nat.ne_of_gt (by k_extra "MineLtS") | k_extra "MineNe2"))
  (k_with "MineLtS" => first | assumption | exact Nat.lt_succ_self _ | (refine Nat.lt_succ_of_lt ?_; k_extra "MineLtS"))
  (k_with "MineNe2" => (rename _ ∧ _ => hc9; first | k_extra "MinePrj" | (clear hc9; k_extra "MineNe2")))
  (k_with "MinePrj" => first | exact hc9.1 | exact Ne.symm hc9.1 | exact Nat.ne_of_lt hc9.1 | exact Nat.ne_of_gt hc9.1 | exact hc9.2.1 | exact Ne.symm hc9.2.1 | exact Nat.ne_of_lt hc9.2.1 | exact Nat.ne_of_gt hc9.2.1 | exact hc9.2.2.1 | exact Ne.symm hc9.2.2.1 | exact Nat.ne_of_lt hc9.2.2.1 | exact Nat.ne_of_gt hc9.2.2.1 | exact hc9.2.2.2.1 | exact Ne.symm hc9.2.2.2.1 | exact Nat.ne_of_lt hc9.2.2.2.1 | exact Nat.ne_of_gt hc9.2.2.2.1 | exact hc9.2.2.2.2.1 | exact Ne.symm hc9.2.2.2.2.1 | exact Nat.ne_of_lt hc9.2.2.2.2.1 | exact Nat.ne_of_gt hc9.2.2.2.2.1 | exact hc9.2.2.2.2.2.1 | exact Ne.symm hc9.2.2.2.2.2.1 | exact Nat.ne_of_lt hc9.2.2.2.2.2.1 | exact Nat.ne_of_gt hc9.2.2.2.2.2.1 | exact hc9.2.2.2.2.2.2.1 | exact Ne.symm hc9.2.2.2.2.2.2.1 | exact Nat.ne_of_lt hc9.2.2.2.2.2.2.1 | exact Nat.ne_of_gt hc9.2.2.2.2.2.2.1 | exact hc9.2.2.2.2.2.2.2.1 | exact Ne.symm hc9.2.2.2.2.2.2.2.1 | exact Nat.ne_of_lt hc9.2.2.2.2.2.2.2.1 | exact Nat.ne_of_gt hc9.2.2.2.2.2.2.2.1 | exact hc9.2.2.2.2.2.2.2.2.1 | exact Ne.symm hc9.2.2.2.2.2.2.2.2.1 | exact Nat.ne_of_lt hc9.2.2.2.2.2.2.2.2.1 | exact Nat.ne_of_gt hc9.2.2.2.2.2.2.2.2.1 | exact hc9.2.2.2.2.2.2.2.2.2.1 | exact Ne.symm hc9.2.2.2.2.2.2.2.2.2.1 | exact Nat.ne_of_lt hc9.2.2.2.2.2.2.2.2.2.1 | exact Nat.ne_of_gt hc9.2.2.2.2.2.2.2.2.2.1 | exact hc9.2.2.2.2.2.2.2.2.2.2.1 | exact Ne.symm hc9.2.2.2.2.2.2.2.2.2.2.1 | exact Nat.ne_of_lt hc9.2.2.2.2.2.2.2.2.2.2.1 | exact Nat.ne_of_gt hc9.2.2.2.2.2.2.2.2.2.2.1 | exact hc9.2.2.2.2.2.2.2.2.2.2.2.1 | exact Ne.symm hc9.2.2.2.2.2.2.2.2.2.2.2.1 | exact Nat.ne_of_lt hc9.2.2.2.2.2.2.2.2.2.2.2.1 | exact Nat.ne_of_gt hc9.2.2.2.2.2.2.2.2.2.2.2.1 | exact hc9.2.2.2.2.2.2.2.2.2.2.2.2.1 | exact Ne.symm hc9.2.2.2.2.2.2.2.2.2.2.2.2.1 | exact Nat.ne_of_lt hc9.2.2.2.2.2.2.2.2.2.2.2.2.1 | exact Nat.ne_of_gt hc9.2.2.2.2.2.2.2.2.2.2.2.2.1 | exact hc9.2.2.2.2.2.2.2.2.2.2.2.2.2.1 | exact Ne.symm hc9.2.2.2.2.2.2.2.2.2.2.2.2.2.1 | exact Nat.ne_of_lt hc9.2.2.2.2.2.2.2.2.2.2.2.2.2.1 | exact Nat.ne_of_gt hc9.2.2.2.2.2.2.2.2.2.2.2.2.2.1 | exact hc9.2.2.2.2.2.2.2.2.2.2.2.2.2.2.1 | exact Ne.symm hc9.2.2.2.2.2.2.2.2.2.2.2.2.2.2.1 | exact Nat.ne_of_lt hc9.2.2.2.2.2.2.2.2.2.2.2.2.2.2.1 | exact Nat.ne_of_gt hc9.2.2.2.2.2.2.2.2.2.2.2.2.2.2.1 | exact hc9.2.2.2.2.2.2.2.2.2.2.2.2.2.2.2.1 | exact Ne.symm hc9.2.2.2.2.2.2.2.2.2.2.2.2.2.2.2.1 | exact Nat.ne_of_lt hc9.2.2.2.2.2.2.2.2.2.2.2.2.2.2.2.1 | exact Nat.ne_of_gt hc9.2.2.2.2.2.2.2.2.2.2.2.2.2.2.2.1)
  trivial
theorem wordsK_CT : True := by
  (k_with "call ref" => (k_here; (with_reducible show wpAny _ _ (call (Value.ref 160) _) _ _ _); (try k_fold); k_dflt (refine' Ok.useIn (crc_ok _ _ _ _ ?p0 ?p1) ?kA ?kh ?kd ?ku ?kB ?kF ?kX ?kN ?kT ?kk ?ks ?_; k_extra "MineSide"; (case ks => k_extra "MineMem"); (case p0 => assumption); (case p1 => omega); intro t' h' tk' F' N')))
  trivial
def sumOf (ks : List Int) : List Int := (rangeInts 0 1 4).map (byteOf (crcOf ks))
theorem sum_len (ks : List Int) : (sumOf ks).length = 4 := by unfold sumOf; rw [List.length_map, rangeInts_length]
theorem wordsCT : True := by
  (k_with "eval ListComp" => (k_dflt (refine' comp_bytes ?F ?N0 ?c0 ?m0 ?d0 ?hh ?hclos ?hcell ?hkind ?hnames ?hy ?hxk ?hyk ?hdx ?hcx ?hdy ?_ ?hs; (case F => k_asm); (case hh => rfl); (case hclos => with_unfolding_all rfl); (case N0 => k_asm); (case c0 => rfl); (case m0 => k_mem); (case d0 => first | assumption | (with_unfolding_all assumption)); (case hcell => decide); (case hkind => with_unfolding_all rfl); (case hnames => decide); (case hy => with_unfolding_all rfl); (case hxk => intro _; with_unfolding_all rfl); (case hyk => intro _; with_unfolding_all rfl); (case hdx => decide); (case hcx => decide); (case hdy => decide); (case hs => intro _; with_unfolding_all rfl))))
  (k_with "ByteSrc" => (k_dflt (refine' ⟨_, _, _, _, _, _, _, _, _, rfl, (by assumption), ?sm, ?rs, ?sl, (by k_asm), (by k_asm), ⟨_, _, _, rfl, (by k_mem), (by assumption)⟩, ?rg, ?_⟩; (case sm => decide); (case rs => exact rangeSize_nat 0 4); (case sl => (rw [PySem.sizeLine_eq]; omega)); (case rg => decide); intro D' ys' h' tk' F' N' l1 hi')))
  (k_with "call type:bytes" => (k_here; (with_reducible show wpAny _ _ (call (Value.type "bytes") [Value.ref _]) _ _ _); k_dflt (refine' bytes_ints ?kbaF ?kbaN ?kbah ?kbal ?kbai ?kbar ?kban ?_; (case kbaF => k_asm); (case kbaN => k_asm); (case kbah => rfl); (case kbal => assumption); (case kbai => assumption); (case kbar => exact mapByte_in _ _); (case kban => (rw [List.length_map, rangeInts_length]; omega)); intro h' b' t' k' F' N' hb')))
  trivial
section
variable {loose : List Str} {mean : ExcName → Option Value} {mg mb : Str → Option Value}
theorem sum_ok : ∀ (w : World) (b : Array UInt8) (tb : Tok) (ks : List Int), KBw.bInts b = ks → ks.length ≤ 2000 →
    Ok w loose mean mg mb 340 2720 (.ref 165) [.bytes b tb] [] (RPost [] (BytesAre (sumOf ks))) := by
  intro w b tb ks hb hl
  unfold Ok
  k_fill
  intro cn cs a ccd cl outer A₀ base h₀ L m s Q E B F X N T hk hret
  k_extra "MineWalkC"
  · refine' leaveR (nw := []) ?F ?N ?_ ?h2 ?h3
    k_extra "MineLeaveR"
    exact hret _ _ _ _ ⟨[], rfl, List.forall_mem_nil _, rfl, _, _, rfl, hb'⟩ F9 N9 K9 Z9
end

-- part FA
theorem words0_FA : True := by
  k_with_none
  (k_with "MineEnter" => (refine wpAny_call ?_; k_dflt (refine' enterQ ?k1 ?k2 ?k3 ?k4 ?k5 ?kA ?kF ?kK ?k6 ?k7 ?k8 ?k9 ?kB ?_ ?c2 ?c3 ?c4 ?c5; (case kA => exact rfl); (case kF => exact rfl); (case kK => assumption); (case k1 => k_asm); (case k2 => k_asm); (case k3 => k_asm); (case k4 => k_asm); (case k5 => k_asm); (case k6 => k_is); (case k7 => k_is); (case k8 => ktr_room); (case k9 => first | exact BindsTo.of_eq rfl | exact binds_K (by k_in) rfl (by k_is) rfl rfl rfl); (case c5 => decide); (case kB => exact locs rfl); (case c2 => exact rfl); (case c3 => exact rfl); (case c4 => exact rfl)); intro g' L' h' tk' FG' F' N' B' X' T' hg' lL'; (try k_lt lL'); (try dsimp only); (try k_fold)))
  (k_with "MineEnterC" => (refine wpAny_call ?_; k_dflt (refine' enterQC ?k1 ?k2 ?k3 ?k4 ?k5 ?kA ?kF ?kK ?k6 ?k7 ?k8 ?k9 ?kB ?kD ?_ ?c2 ?c3 ?c4; (case kA => exact rfl); (case kF => exact rfl); (case kK => assumption); (case k1 => k_asm); (case k2 => k_asm); (case k3 => k_asm); (case k4 => k_asm); (case k5 => k_asm); (case k6 => k_is); (case k7 => k_is); (case k8 => ktr_room); (case k9 => first | exact BindsTo.of_eq rfl | exact binds_K (by k_in) rfl (by k_is) rfl rfl rfl); (case kB => exact rfl); (case kD => decide +kernel); (case c2 => exact rfl); (case c3 => exact rfl); (case c4 => exact rfl)); intro g' L' h' tk' cells' FG' F' N' Y' B' X' T' hg' lL'; (try k_lt lL'); k_cells Y'; (try simp only [List.cons_append, List.nil_append] at N'); (try dsimp only); (try k_fold)))
  (k_with "MineWalkC" => (k_extra "MineEnterC"; k_steps; all_goals (try dsimp only); all_goals (try (k_unfold; dsimp only))))
  (k_with "MineWalk" => (k_extra "MineEnter"; k_steps; all_goals (try dsimp only); all_goals (try (k_unfold; dsimp only))))
  (k_with "MineFresh" => first | exact List.forall_mem_nil _ | (refine' List.forall_mem_cons.mpr ⟨?fa, ?fb⟩; (case fa => (repeat (first | exact List.not_mem_nil | (refine' List.not_mem_cons_of_ne_of_not_mem ?fn ?_; (case fn => k_ne)))))); (case fb => k_extra "MineFresh"))
  (k_with "MineMem" => first | exact List.forall_mem_nil _ | (refine' List.forall_mem_cons.mpr ⟨?fa, ?fb⟩; (case fa => k_mem); (case fb => k_extra "MineMem")))
  (k_with "MineSide" => ((case kA => exact rfl); (case kh => exact rfl); (case kd => exact Nat.le_of_ble_eq_true rfl); (case ku => exact Nat.le_of_ble_eq_true rfl); (case kB => k_asm); (case kF => k_asm); (case kX => k_asm); (case kN => k_asm); (case kT => k_asm); (case kk => exact rfl)))
  (k_with "MineLed" => ((try simp only [List.nil_append, List.cons_append] at N'); (try (replace D' := allNe2_of D'; simp only [AllNe2, AllNe, and_true] at D'))))
  (k_with "MineLeaveW" => ((case F => k_asm); (case N => k_asm); (case h1 => k_mem); (case h2 => k_extra "MineMem"); (case h3 => k_extra "MineMem"); intro F9 N9 K9 Z9))
  (k_with "MineLeaveR" => ((case F => k_asm); (case N => k_asm); (case h2 => k_extra "MineMem"); (case h3 => k_extra "MineMem"); intro F9 N9 K9 Z9))
  (k_with "MineGetLen" => (exfalso; omega))
  (k_with "MinePut" => (first | exact Int.lt_of_lt_of_le (b := 256) (by omega) (by decide) | exact Int.lt_of_lt_of_le (b := 65536) (by omega) (by decide) | exact Int.lt_of_lt_of_le (b := 16777216) (by omega) (by decide) | exact Int.lt_of_lt_of_le (b := 281474976710656) (by omega) (by decide)))
  (k_with "MineBytes" => first | assumption | exact bI1 ⟨by omega, by omega⟩ | exact bI2 ⟨by omega, by omega⟩ ⟨by omega, by omega⟩ | exact zeros_ints _ | exact KBw.ints_list _)
  (k_with "MineAdd" => (k_here; (with_reducible show wpAny _ _ (binaryOp Operator.Add (Value.bytes _ _) (Value.bytes _ _)) _ _ _); (refine KBa.add_K (by k_extra "MineBytes") (by k_extra "MineBytes") (by first | (simp only [List.length_cons, List.length_nil, List.length_append, List.length_map, List.length_replicate, rangeInts_length]; omega) | omega | (simp only [List.length_cons, List.length_nil, List.length_append, List.length_map, List.length_replicate, sum_len]; omega)) ?_); intro t' k' hb'))
  (k_with "MinePutBad" => (intro h9; first | (have h8 := Int.lt_of_lt_of_le h9 (show (1 * 2 ^ ((8:Int) * 1).toNat : Int) ≤ 256 by decide); omega) | (have h8 := Int.lt_of_lt_of_le h9 (show (1 * 2 ^ ((8:Int) * 3).toNat : Int) ≤ 16777216 by decide); omega)))
  (k_with "MinePass" => ((rename RaisedS _ _ _ _ _ _ _ _ _ => rsX); k_dflt (refine' leave_onX (news := ?sub) ?K ?F ?hf rsX ?U ?hs ?_; (case sub => first | k_extra "MineSub" | exact []); (case K => k_asm); (case F => k_asm); (case hf => exact rfl); (case U => k_asm); (case hs => k_extra "MineMem"); intro h9 R9 U9)))
  (k_with "MineEnterS" => (refine wpAny_call ?_; k_dflt (refine' enterQS ?k1 ?k2 ?k3 ?k4 ?k5 ?k0 ?kA ?kF ?kK ?k6 ?k7 ?k8 ?k9 ?kB ?_ ?c2 ?c3 ?c4 ?c5; (case kA => exact rfl); (case kF => exact rfl); (case kK => assumption); (case k1 => k_asm); (case k2 => k_asm); (case k3 => k_asm); (case k4 => k_asm); (case k5 => k_asm); (case k0 => k_asm); (case k6 => k_is); (case k7 => k_is); (case k8 => ktr_room); (case k9 => first | exact BindsTo.of_eq rfl | exact binds_K (by k_in) rfl (by k_is) rfl rfl rfl); (case c5 => decide); (case kB => exact locs rfl); (case c2 => exact rfl); (case c3 => exact rfl); (case c4 => exact rfl)); intro g' L' h' tk' FG' F' N' B' X' T' D' hg' lL'; (try k_lt lL'); (try dsimp only); (try k_fold)))
  (k_with "MineEnterSC" => (refine wpAny_call ?_; k_dflt (refine' enterQSC ?k1 ?k2 ?k3 ?k4 ?k5 ?k0 ?kA ?kF ?kK ?k6 ?k7 ?k8 ?k9 ?kB ?kD ?_ ?c2 ?c3 ?c4; (case kA => exact rfl); (case kF => exact rfl); (case kK => assumption); (case k1 => k_asm); (case k2 => k_asm); (case k3 => k_asm); (case k4 => k_asm); (case k5 => k_asm); (case k0 => k_asm); (case k6 => k_is); (case k7 => k_is); (case k8 => ktr_room); (case k9 => first | exact BindsTo.of_eq rfl | exact binds_K (by k_in) rfl (by k_is) rfl rfl rfl); (case kB => exact rfl); (case kD => decide +kernel); (case c2 => exact rfl); (case c3 => exact rfl); (case c4 => exact rfl)); intro g' L' h' tk' cells' FG' F' N' Y' B' X' T' D' hg' lL'; (try k_lt lL'); k_cells Y'; (try simp only [List.cons_append, List.nil_append] at N'); (try dsimp only); (try k_fold)))
  (k_with "MineEnterL" => (refine wpAny_call ?_; k_dflt (refine' enterQL ?k1 ?k2 ?k3 ?k4 ?k5 ?kA ?kF ?kK ?ho ?hc ?hd ?hv ?k8 ?k9 ?kB ?_ ?c2 ?c3 ?c4 ?c5; (case kA => exact rfl); (case kF => exact rfl); (case kK => assumption); (case k1 => k_asm); (case k2 => k_asm); (case k3 => k_asm); (case k4 => k_asm); (case k5 => k_asm); (case ho => k_mem); (case hc => k_mem); (case hd => assumption); (case hv => assumption); (case k8 => ktr_room); (case k9 => exact rfl); (case c5 => decide); (case kB => exact locs rfl); (case c2 => exact rfl); (case c3 => exact rfl); (case c4 => exact rfl)); intro g' L' h' tk' FG' F' N' B' X' T' hg' lL'; (try k_lt lL'); (try dsimp only); (try k_fold)))
  (k_with "MineWalkL" => (k_extra "MineEnterL"; k_dflt (show wpAny _ _ (eval (Expr.Call _ _ _ _) _) _ _ _); k_steps; all_goals (try dsimp only); all_goals (try (k_unfold; dsimp only))))
  (k_with "MineWalkS" => (k_extra "MineEnterS"; k_steps; all_goals (try dsimp only); all_goals (try (k_unfold; dsimp only))))
  (k_with "MineSame" => first | exact SameL.nil | (refine' SameL.cons ?sa ?sb; (case sa => first | exact same_int _ _ _ | exact same_bytes _ _ _ | exact PySem.SeqAt.EqAt.same _); (case sb => k_extra "MineSame")))
  (k_with "MineNeT" => (k_here; (with_reducible show wpAny _ _ (compareOp CmpOp.NotEq (Value.ref _) (Value.ref _)) _ _ _); k_dflt (refine' ne_tups ?N ?ml ?mb ?cl ?dl ?cb ?db ?hu ?hs ?_; (case N => k_asm); (case ml => k_mem); (case mb => k_mem); (case cl => rfl); (case dl => rfl); (case cb => rfl); (case db => rfl); (case hu => ke_room); (case hs => k_extra "MineSame"))))
  (k_with "MineEqT" => (k_here; (with_reducible show wpAny _ _ (compareOp CmpOp.Eq (Value.ref _) (Value.ref _)) _ _ _); k_dflt (refine' eq_tups ?N ?ml ?mb ?cl ?dl ?cb ?db ?hu ?hs ?_; (case N => k_asm); (case ml => k_mem); (case mb => k_mem); (case cl => rfl); (case dl => rfl); (case cb => rfl); (case db => rfl); (case hu => ke_room); (case hs => k_extra "MineSame"))))
  (k_with "MineNew" => ((try dsimp only [AllNe] at D1'); (try dsimp only [AllNe] at D2'); (try dsimp only [AllNe] at D3')))
  (k_with "MineNe1" => (refine neN ?_; (try dsimp only); with_reducible first | assumption | (refine Ne.symm ?_; assumption) | exact Nat.ne_of_lt (by assumption) | exact Nat.ne_of_gt (by assumption) | exact Nat.ne_of_lt (by k_extra "MineLtS") | exact Nat.ne_of_gt (by k_extra "MineLtS") | k_extra "MineNe2"))
  (k_with "MineLtS" => first | assumption | exact Nat.lt_succ_self _ | (refine Nat.lt_succ_of_lt ?_; k_extra "MineLtS"))
  (k_with "MineNe2" => (rename _ ∧ _ => hc9; first | k_extra "MinePrj" | (clear hc9; k_extra "MineNe2")))
  (k_with "MinePrj" => first | exact hc9.1 | exact Ne.symm hc9.1 | exact Nat.ne_of_lt hc9.1 | exact Nat.ne_of_gt hc9.1 | exact hc9.2.1 | exact Ne.symm hc9.2.1 | exact Nat.ne_of_lt hc9.2.1 | exact Nat.ne_of_gt hc9.2.1 | exact hc9.2.2.1 | exact Ne.symm hc9.2.2.1 | exact Nat.ne_of_lt hc9.2.2.1 | exact Nat.ne_of_gt hc9.2.2.1 | exact hc9.2.2.2.1 | exact Ne.symm hc9.2.2.2.1 | exact Nat.ne_of_lt hc9.2.2.2.1 | exact Nat.ne_of_gt hc9.2.2.2.1 | exact hc9.2.2.2.2.1 | exact Ne.symm hc9.2.2.2.2.1 | exact Nat.ne_of_lt hc9.2.2.2.2.1 | exact Nat.ne_of_gt hc9.2.2.2.2.1 | exact hc9.2.2.2.2.2.1 | exact Ne.symm hc9.2.2.2.2.2.1 | exact Nat.ne_of_lt hc9.2.2.2.2.2.1 | exact Nat.ne_of_gt hc9.2.2.2.2.2.1 | exact hc9.2.2.2.2.2.2.1 | exact Ne.symm hc9.2.2.2.2.2.2.1 | exact Nat.ne_of_lt hc9.2.2.2.2.2.2.1 | exact Nat.ne_of_gt hc9.2.2.2.2.2.2.1 | exact hc9.2.2.2.2.2.2.2.1 | exact Ne.symm hc9.2.2.2.2.2.2.2.1 | exact Nat.ne_of_lt hc9.2.2.2.2.2.2.2.1 | exact Nat.ne_of_gt hc9.2.2.2.2.2.2.2.1 | exact hc9.2.2.2.2.2.2.2.2.1 | exact Ne.symm hc9.2.2.2.2.2.2.2.2.1 | exact Nat.ne_of_lt hc9.2.2.2.2.2.2.2.2.1 | exact Nat.ne_of_gt hc9.2.2.2.2.2.2.2.2.1 | exact hc9.2.2.2.2.2.2.2.2.2.1 | exact Ne.symm hc9.2.2.2.2.2.2.2.2.2.1 | exact Nat.ne_of_lt hc9.2.2.2.2.2.2.2.2.2.1 | exact Nat.ne_of_gt hc9.2.2.2.2.2.2.2.2.2.1 | exact hc9.2.2.2.2.2.2.2.2.2.2.1 | exact Ne.symm hc9.2.2.2.2.2.2.2.2.2.2.1 | exact Nat.ne_of_lt hc9.2.2.2.2.2.2.2.2.2.2.1 | exact Nat.ne_of_gt hc9.2.2.2.2.2.2.2.2.2.2.1 | exact hc9.2.2.2.2.2.2.2.2.2.2.2.1 | exact Ne.symm hc9.2.2.2.2.2.2.2.2.2.2.2.1 | exact Nat.ne_of_lt hc9.2.2.2.2.2.2.2.2.2.2.2.1 | exact Nat.ne_of_gt hc9.2.2.2.2.2.2.2.2.2.2.2.1 | exact hc9.2.2.2.2.2.2.2.2.2.2.2.2.1 | exact Ne.symm hc9.2.2.2.2.2.2.2.2.2.2.2.2.1 | exact Nat.ne_of_lt hc9.2.2.2.2.2.2.2.2.2.2.2.2.1 | exact Nat.ne_of_gt hc9.2.2.2.2.2.2.2.2.2.2.2.2.1 | exact hc9.2.2.2.2.2.2.2.2.2.2.2.2.2.1 | exact Ne.symm hc9.2.2.2.2.2.2.2.2.2.2.2.2.2.1 | exact Nat.ne_of_lt hc9.2.2.2.2.2.2.2.2.2.2.2.2.2.1 | exact Nat.ne_of_gt hc9.2.2.2.2.2.2.2.2.2.2.2.2.2.1 | exact hc9.2.2.2.2.2.2.2.2.2.2.2.2.2.2.1 | exact Ne.symm hc9.2.2.2.2.2.2.2.2.2.2.2.2.2.2.1 | exact Nat.ne_of_lt hc9.2.2.2.2.2.2.2.2.2.2.2.2.2.2.1 | exact Nat.ne_of_gt hc9.2.2.2.2.2.2.2.2.2.2.2.2.2.2.1 | exact hc9.2.2.2.2.2.2.2.2.2.2.2.2.2.2.2.1 | exact Ne.symm hc9.2.2.2.2.2.2.2.2.2.2.2.2.2.2.2.1 | exact Nat.ne_of_lt hc9.2.2.2.2.2.2.2.2.2.2.2.2.2.2.2.1 | exact Nat.ne_of_gt hc9.2.2.2.2.2.2.2.2.2.2.2.2.2.2.2.1)
  trivial
abbrev tup0 : Obj := { cls := .type "tuple", data := .seq #[] }
abbrev frameD (P : Params) (k1 k2 k3 k4 k5 : Tok) (v1 v2 v3 v4 v5 : Value) : Obj := dictOf [en P (Str.ofString "target") k1 v1, en P (Str.ofString "source") k2 v2, en P (Str.ofString "tags") k3 v3, en P (Str.ofString "kind") k4 v4, en P (Str.ofString "payload") k5 v5] 5
section
variable (w : World) (loose : List Str) (mean : ExcName → Option Value) (mg mb : Str → Option Value)
def OkM (D U : Nat) (f : Value) (vs : List Value) (need : Led) (P : Value → Led → Prop) : Prop :=
  ∀ (cn : Str) (cs : Scope) (a : Addr) (ccd : Value) (cl : List (Str × Addr)) (outer : List Env) (A₀ : Around) (base h₀ : Heap) (L : Addr) (m : Str → Option Value) (news : Led) (s : Shared) (Q E : Value → Shared → Prop),
    Below A₀ base outer h₀ → Fr h₀ L s.heap m → (KH w.params).In h₀ → News h₀ L s.heap (need ++ news) → Top topProg loose mean mg mb h₀ → cs.kind = .function →
    (∀ v nw h' tk', P v nw → Fr h₀ L h' m → News h₀ L h' (nw ++ (need ++ news)) → (∀ q ∈ nw, ∀ r ∈ need ++ news, r.1 ≠ q.1) → Q v { s with heap := h', toks := tk' }) →
    wpAny (model rw0.prog w) (ktrTop D U none cn cs L a ccd cl outer) (call f vs) Q E s
end
section
variable {w : World} {loose : List Str} {mean : ExcName → Option Value} {mg mb : Str → Option Value} {D U : Nat} {f : Value} {vs : List Value} {P : Value → Led → Prop}
  {A : Around} {cn : Str} {cs : Scope} {a : Addr} {ccd : Value} {cl : List (Str × Addr)} {outer : List Env} {A₀ : Around} {base h₀ : Heap} {L : Addr} {m : Str → Option Value} {s : Shared} {Q E : Value → Shared → Prop} {need news : Led}
theorem OkM.use (H : OkM w loose mean mg mb D U f vs need P) (hA : A.frames = some (envX cn cs L a ccd cl :: outer)) (hh : A.handled = none) (hd : A.depth ≤ D) (hu : A.units ≤ U)
    (B : Below A₀ base outer h₀) (F : Fr h₀ L s.heap m) (X : (KH w.params).In h₀) (N : News h₀ L s.heap news) (T : Top topProg loose mean mg mb h₀) (hk : cs.kind = .function) (hs : ∀ q ∈ need, q ∈ news)
    (k : ∀ v nw h' tk', P v nw → Fr h₀ L h' m → News h₀ L h' (nw ++ news) → (∀ q ∈ nw, ∀ r ∈ news, r.1 ≠ q.1) → Q v { s with heap := h', toks := tk' }) :
    wpAny (model rw0.prog w) A (call f vs) Q E s :=
  wpAny_wider (A' := ktrTop D U none cn cs L a ccd cl outer) (H cn cs a ccd cl outer A₀ base h₀ L m news s Q E B F X (fun q hq => (List.mem_append.mp hq).elim (fun h => N q (hs q h)) (N q)) T hk fun v nw h' tk' Pv F' N' D' =>
    k v nw h' tk' Pv F' (fun q hq => N' q ((List.mem_append.mp hq).elim (List.mem_append_left _) fun h => List.mem_append_right _ (List.mem_append_right _ h))) fun q hq r hr => D' q hq r (List.mem_append_right _ hr)) hh.symm hd hA.symm rfl hu
end
theorem wordsFA : True := by
  (k_with "call type:bytes" => (k_here; (with_reducible show wpAny _ _ (call (Value.type "bytes") [Value.bytes _ _]) _ _ _); (refine bytes_same ?_)))
  (k_with "MineEnterI" => (k_dflt (refine' enterQ ?k1 ?k2 ?k3 ?k4 ?k5 ?kA ?kF ?kK ?k6 ?k7 ?k8 ?k9 ?kB ?_ ?c2 ?c3 ?c4 ?c5; (case kA => exact rfl); (case kF => exact rfl); (case kK => assumption); (case k1 => k_asm); (case k2 => k_asm); (case k3 => k_asm); (case k4 => k_asm); (case k5 => k_asm); (case k6 => k_is); (case k7 => k_is); (case k8 => ktr_room); (case k9 => exact BindsTo.of_eq rfl); (case c5 => decide); (case kB => exact locs rfl); (case c2 => exact rfl); (case c3 => exact rfl); (case c4 => exact rfl)); intro g' L' h' tk' FG' F' N' B' X' T' hg' lL'; (try dsimp only); (try k_fold)))
  trivial
section
variable {loose : List Str} {mean : ExcName → Option Value} {mg mb : Str → Option Value}
def FrameMade (P : Params) (a b c d e : Value) (v : Value) (nw : Led) : Prop := ∃ x dx k1 k2 k3 k4 k5, @Ne Nat x dx ∧ v = .ref x ∧ nw = [(x, instObj 264 dx), (dx, frameD P k1 k2 k3 k4 k5 a b c d e)]
theorem frame_made : ∀ (w : World) (a b d : Value) (tg : Addr) (p : Array UInt8) (tp : Tok),
    OkM w loose mean mg mb 350 2800 (.ref 264) [a, b, .ref tg, d, .bytes p tp] [(tg, tup0)] (FrameMade w.params a b (.ref tg) d (.bytes p tp)) := by
  intro w va vb vd tg p tp
  unfold OkM
  k_fill
  intro cn cs a ccd cl outer A₀ base h₀ L m news s Q E B F X N T hk hret
  simp only [List.cons_append, List.nil_append] at N
  k_dflt (refine' call_cls ?k1 ?k2 ?k3 ?k4 ?k5 ?k6 ?_; (case k1 => k_asm); (case k2 => k_asm); (case k3 => k_asm); (case k4 => k_is); (case k5 => k_is); (case k6 => k_is); intro x1 d1 h1 F1 N1 l1 l2)
  have ne1 := lt_ne l1
  have ne2 : ∀ p ∈ (tg, tup0) :: news, p.1 ≠ x1 := lt_ne fun p hp => Nat.lt_trans (l1 p hp) l2
  have ne3 : ∀ p ∈ news, p.1 ≠ d1 := fun p hp => ne1 p (.tail _ hp)
  have ne4 : @Ne Nat tg d1 := ne1 (tg, tup0) (.head _)
  replace l2 := ltN l2
  k_extra "MineEnterI"
  k_steps
  all_goals (try dsimp only)
  refine leave_all (by k_asm) (by k_asm) ?_
  intro F9 N9 K9 Z9
  refine ⟨rfl, hret _ [(x1, _), (d1, _)] _ _ ⟨_, _, _, _, _, _, _, neN (by omega), rfl, rfl⟩ F9 N9 ?_⟩
  intro q hq r hr
  rcases List.mem_cons.mp hq with rfl | hq
  · exact ne2 r hr
  · rw [List.mem_singleton.mp hq]; exact ne1 r hr
end
-- calls taken apart
section
variable {w : World} {loose : List Str} {mean : ExcName → Option Value} {mg mb : Str → Option Value} {D U : Nat} {f : Value} {vs : List Value} {sub : Led}
  {A : Around} {cn : Str} {cs : Scope} {a : Addr} {ccd : Value} {cl : List (Str × Addr)} {outer : List Env} {A₀ : Around} {base h₀ : Heap} {L : Addr} {m : Str → Option Value} {s : Shared} {Q E : Value → Shared → Prop} {news : Led}
theorem OkM.useFrame {v1 v2 v3 v4 v5 : Value} {need : Led} (C : OkM w loose mean mg mb D U f vs need (FrameMade w.params v1 v2 v3 v4 v5)) (hA : A.frames = some (envX cn cs L a ccd cl :: outer)) (hh : A.handled = none) (hd : A.depth ≤ D) (hu : A.units ≤ U)
    (B : Below A₀ base outer h₀) (F : Fr h₀ L s.heap m) (X : (KH w.params).In h₀) (N : News h₀ L s.heap news) (T : Top topProg loose mean mg mb h₀) (hk : cs.kind = .function) (hs : ∀ q ∈ need, q ∈ news)
    (k : ∀ x dx k1 k2 k3 k4 k5 h' tk', @Ne Nat x dx → AllNe x news → AllNe dx news → Fr h₀ L h' m → News h₀ L h' ((x, instObj 264 dx) :: (dx, frameD w.params k1 k2 k3 k4 k5 v1 v2 v3 v4 v5) :: news) → Q (.ref x) { s with heap := h', toks := tk' }) : wpAny (model rw0.prog w) A (call f vs) Q E s :=
  OkM.use C hA hh hd hu B F X N T hk hs fun v nw h' tk' P F' N' D' => (by obtain ⟨x, dx, k1, k2, k3, k4, k5, ne, rfl, rfl⟩ := P; exact k x dx k1 k2 k3 k4 k5 h' tk' ne (allNe_of (D' _ (.head _))) (allNe_of (D' _ (.tail _ (.head _)))) F' N')
end

-- part HB
theorem words0_HB : True := by
  k_with_none
  (k_with "MineEnter" => (refine wpAny_call ?_; k_dflt (refine' enterQ ?k1 ?k2 ?k3 ?k4 ?k5 ?kA ?kF ?kK ?k6 ?k7 ?k8 ?k9 ?kB ?_ ?c2 ?c3 ?c4 ?c5; (case kA => exact rfl); (case kF => exact rfl); (case kK => assumption); (case k1 => k_asm); (case k2 => k_asm); (case k3 => k_asm); (case k4 => k_asm); (case k5 => k_asm); (case k6 => k_is); (case k7 => k_is); (case k8 => ktr_room); (case k9 => first | exact BindsTo.of_eq rfl | exact binds_K (by k_in) rfl (by k_is) rfl rfl rfl); (case c5 => decide); (case kB => exact locs rfl); (case c2 => exact rfl); (case c3 => exact rfl); (case c4 => exact rfl)); intro g' L' h' tk' FG' F' N' B' X' T' hg' lL'; (try k_lt lL'); (try dsimp only); (try k_fold)))
  (k_with "MineEnterC" => (refine wpAny_call ?_; k_dflt (refine' enterQC ?k1 ?k2 ?k3 ?k4 ?k5 ?kA ?kF ?kK ?k6 ?k7 ?k8 ?k9 ?kB ?kD ?_ ?c2 ?c3 ?c4; (case kA => exact rfl); (case kF => exact rfl); (case kK => assumption); (case k1 => k_asm); (case k2 => k_asm); (case k3 => k_asm); (case k4 => k_asm); (case k5 => k_asm); (case k6 => k_is); (case k7 => k_is); (case k8 => ktr_room); (case k9 => first | exact BindsTo.of_eq rfl | exact binds_K (by k_in) rfl (by k_is) rfl rfl rfl); (case kB => exact rfl); (case kD => decide +kernel); (case c2 => exact rfl); (case c3 => exact rfl); (case c4 => exact rfl)); intro g' L' h' tk' cells' FG' F' N' Y' B' X' T' hg' lL'; (try k_lt lL'); k_cells Y'; (try simp only [List.cons_append, List.nil_append] at N'); (try dsimp only); (try k_fold)))
  (k_with "MineWalkC" => (k_extra "MineEnterC"; k_steps; all_goals (try dsimp only); all_goals (try (k_unfold; dsimp only))))
  (k_with "MineWalk" => (k_extra "MineEnter"; k_steps; all_goals (try dsimp only); all_goals (try (k_unfold; dsimp only))))
  (k_with "MineFresh" => first | exact List.forall_mem_nil _ | (refine' List.forall_mem_cons.mpr ⟨?fa, ?fb⟩; (case fa => (repeat (first | exact List.not_mem_nil | (refine' List.not_mem_cons_of_ne_of_not_mem ?fn ?_; (case fn => k_ne)))))); (case fb => k_extra "MineFresh"))
  (k_with "MineMem" => first | exact List.forall_mem_nil _ | (refine' List.forall_mem_cons.mpr ⟨?fa, ?fb⟩; (case fa => k_mem); (case fb => k_extra "MineMem")))
  (k_with "MineSide" => ((case kA => exact rfl); (case kh => exact rfl); (case kd => exact Nat.le_of_ble_eq_true rfl); (case ku => exact Nat.le_of_ble_eq_true rfl); (case kB => k_asm); (case kF => k_asm); (case kX => k_asm); (case kN => k_asm); (case kT => k_asm); (case kk => exact rfl)))
  (k_with "MineLed" => ((try simp only [List.nil_append, List.cons_append] at N'); (try (replace D' := allNe2_of D'; simp only [AllNe2, AllNe, and_true] at D'))))
  (k_with "MineLeaveW" => ((case F => k_asm); (case N => k_asm); (case h1 => k_mem); (case h2 => k_extra "MineMem"); (case h3 => k_extra "MineMem"); intro F9 N9 K9 Z9))
  (k_with "MineLeaveR" => ((case F => k_asm); (case N => k_asm); (case h2 => k_extra "MineMem"); (case h3 => k_extra "MineMem"); intro F9 N9 K9 Z9))
  (k_with "MineGetLen" => (exfalso; omega))
  (k_with "MinePut" => (first | exact Int.lt_of_lt_of_le (b := 256) (by omega) (by decide) | exact Int.lt_of_lt_of_le (b := 65536) (by omega) (by decide) | exact Int.lt_of_lt_of_le (b := 16777216) (by omega) (by decide) | exact Int.lt_of_lt_of_le (b := 281474976710656) (by omega) (by decide)))
  (k_with "MineBytes" => first | assumption | exact bI1 ⟨by omega, by omega⟩ | exact bI2 ⟨by omega, by omega⟩ ⟨by omega, by omega⟩ | exact zeros_ints _ | exact KBw.ints_list _)
  (k_with "MineAdd" => (k_here; (with_reducible show wpAny _ _ (binaryOp Operator.Add (Value.bytes _ _) (Value.bytes _ _)) _ _ _); (refine KBa.add_K (by k_extra "MineBytes") (by k_extra "MineBytes") (by first | (simp only [List.length_cons, List.length_nil, List.length_append, List.length_map, List.length_replicate, rangeInts_length]; omega) | omega | (simp only [List.length_cons, List.length_nil, List.length_append, List.length_map, List.length_replicate, sum_len]; omega)) ?_); intro t' k' hb'))
  (k_with "MinePutBad" => (intro h9; first | (have h8 := Int.lt_of_lt_of_le h9 (show (1 * 2 ^ ((8:Int) * 1).toNat : Int) ≤ 256 by decide); omega) | (have h8 := Int.lt_of_lt_of_le h9 (show (1 * 2 ^ ((8:Int) * 3).toNat : Int) ≤ 16777216 by decide); omega)))
  (k_with "MinePass" => ((rename RaisedS _ _ _ _ _ _ _ _ _ => rsX); k_dflt (refine' leave_onX (news := ?sub) ?K ?F ?hf rsX ?U ?hs ?_; (case sub => first | k_extra "MineSub" | exact []); (case K => k_asm); (case F => k_asm); (case hf => exact rfl); (case U => k_asm); (case hs => k_extra "MineMem"); intro h9 R9 U9)))
  (k_with "MineEnterS" => (refine wpAny_call ?_; k_dflt (refine' enterQS ?k1 ?k2 ?k3 ?k4 ?k5 ?k0 ?kA ?kF ?kK ?k6 ?k7 ?k8 ?k9 ?kB ?_ ?c2 ?c3 ?c4 ?c5; (case kA => exact rfl); (case kF => exact rfl); (case kK => assumption); (case k1 => k_asm); (case k2 => k_asm); (case k3 => k_asm); (case k4 => k_asm); (case k5 => k_asm); (case k0 => k_asm); (case k6 => k_is); (case k7 => k_is); (case k8 => ktr_room); (case k9 => first | exact BindsTo.of_eq rfl | exact binds_K (by k_in) rfl (by k_is) rfl rfl rfl); (case c5 => decide); (case kB => exact locs rfl); (case c2 => exact rfl); (case c3 => exact rfl); (case c4 => exact rfl)); intro g' L' h' tk' FG' F' N' B' X' T' D' hg' lL'; (try k_lt lL'); (try dsimp only); (try k_fold)))
  (k_with "MineEnterSC" => (refine wpAny_call ?_; k_dflt (refine' enterQSC ?k1 ?k2 ?k3 ?k4 ?k5 ?k0 ?kA ?kF ?kK ?k6 ?k7 ?k8 ?k9 ?kB ?kD ?_ ?c2 ?c3 ?c4; (case kA => exact rfl); (case kF => exact rfl); (case kK => assumption); (case k1 => k_asm); (case k2 => k_asm); (case k3 => k_asm); (case k4 => k_asm); (case k5 => k_asm); (case k0 => k_asm); (case k6 => k_is); (case k7 => k_is); (case k8 => ktr_room); (case k9 => first | exact BindsTo.of_eq rfl | exact binds_K (by k_in) rfl (by k_is) rfl rfl rfl); (case kB => exact rfl); (case kD => decide +kernel); (case c2 => exact rfl); (case c3 => exact rfl); (case c4 => exact rfl)); intro g' L' h' tk' cells' FG' F' N' Y' B' X' T' D' hg' lL'; (try k_lt lL'); k_cells Y'; (try simp only [List.cons_append, List.nil_append] at N'); (try dsimp only); (try k_fold)))
  (k_with "MineEnterL" => (refine wpAny_call ?_; k_dflt (refine' enterQL ?k1 ?k2 ?k3 ?k4 ?k5 ?kA ?kF ?kK ?ho ?hc ?hd ?hv ?k8 ?k9 ?kB ?_ ?c2 ?c3 ?c4 ?c5; (case kA => exact rfl); (case kF => exact rfl); (case kK => assumption); (case k1 => k_asm); (case k2 => k_asm); (case k3 => k_asm); (case k4 => k_asm); (case k5 => k_asm); (case ho => k_mem); (case hc => k_mem); (case hd => assumption); (case hv => assumption); (case k8 => ktr_room); (case k9 => exact rfl); (case c5 => decide); (case kB => exact locs rfl); (case c2 => exact rfl); (case c3 => exact rfl); (case c4 => exact rfl)); intro g' L' h' tk' FG' F' N' B' X' T' hg' lL'; (try k_lt lL'); (try dsimp only); (try k_fold)))
  (k_with "MineWalkL" => (k_extra "MineEnterL"; k_dflt (show wpAny _ _ (eval (Expr.Call _ _ _ _) _) _ _ _); k_steps; all_goals (try dsimp only); all_goals (try (k_unfold; dsimp only))))
  (k_with "MineWalkS" => (k_extra "MineEnterS"; k_steps; all_goals (try dsimp only); all_goals (try (k_unfold; dsimp only))))
  (k_with "MineSame" => first | exact SameL.nil | (refine' SameL.cons ?sa ?sb; (case sa => first | exact same_int _ _ _ | exact same_bytes _ _ _ | exact PySem.SeqAt.EqAt.same _); (case sb => k_extra "MineSame")))
  (k_with "MineNeT" => (k_here; (with_reducible show wpAny _ _ (compareOp CmpOp.NotEq (Value.ref _) (Value.ref _)) _ _ _); k_dflt (refine' ne_tups ?N ?ml ?mb ?cl ?dl ?cb ?db ?hu ?hs ?_; (case N => k_asm); (case ml => k_mem); (case mb => k_mem); (case cl => rfl); (case dl => rfl); (case cb => rfl); (case db => rfl); (case hu => ke_room); (case hs => k_extra "MineSame"))))
  (k_with "MineEqT" => (k_here; (with_reducible show wpAny _ _ (compareOp CmpOp.Eq (Value.ref _) (Value.ref _)) _ _ _); k_dflt (refine' eq_tups ?N ?ml ?mb ?cl ?dl ?cb ?db ?hu ?hs ?_; (case N => k_asm); (case ml => k_mem); (case mb => k_mem); (case cl => rfl); (case dl => rfl); (case cb => rfl); (case db => rfl); (case hu => ke_room); (case hs => k_extra "MineSame"))))
  (k_with "MineNew" => ((try dsimp only [AllNe] at D1'); (try dsimp only [AllNe] at D2'); (try dsimp only [AllNe] at D3')))
  (k_with "MineNe1" => (refine neN ?_; (try dsimp only); with_reducible first | assumption | (refine Ne.symm ?_; assumption) | exact Nat.ne_of_lt (by assumption) | exact Nat.ne_of_gt (by assumption) | exact Nat.ne_of_lt (by k_extra "MineLtS") | exact Nat.ne_of_gt (by k_extra "MineLtS") | k_extra "MineNe2"))
  (k_with "MineLtS" => first | assumption | exact Nat.lt_succ_self _ | (refine Nat.lt_succ_of_lt ?_; k_extra "MineLtS"))
  (k_with "MineNe2" => (rename _ ∧ _ => hc9; first | k_extra "MinePrj" | (clear hc9; k_extra "MineNe2")))
  (k_with "MinePrj" => first | exact hc9.1 | exact Ne.symm hc9.1 | exact Nat.ne_of_lt hc9.1 | exact Nat.ne_of_gt hc9.1 | exact hc9.2.1 | exact Ne.symm hc9.2.1 | exact Nat.ne_of_lt hc9.2.1 | exact Nat.ne_of_gt hc9.2.1 | exact hc9.2.2.1 | exact Ne.symm hc9.2.2.1 | exact Nat.ne_of_lt hc9.2.2.1 | exact Nat.ne_of_gt hc9.2.2.1 | exact hc9.2.2.2.1 | exact Ne.symm hc9.2.2.2.1 | exact Nat.ne_of_lt hc9.2.2.2.1 | exact Nat.ne_of_gt hc9.2.2.2.1 | exact hc9.2.2.2.2.1 | exact Ne.symm hc9.2.2.2.2.1 | exact Nat.ne_of_lt hc9.2.2.2.2.1 | exact Nat.ne_of_gt hc9.2.2.2.2.1 | exact hc9.2.2.2.2.2.1 | exact Ne.symm hc9.2.2.2.2.2.1 | exact Nat.ne_of_lt hc9.2.2.2.2.2.1 | exact Nat.ne_of_gt hc9.2.2.2.2.2.1 | exact hc9.2.2.2.2.2.2.1 | exact Ne.symm hc9.2.2.2.2.2.2.1 | exact Nat.ne_of_lt hc9.2.2.2.2.2.2.1 | exact Nat.ne_of_gt hc9.2.2.2.2.2.2.1 | exact hc9.2.2.2.2.2.2.2.1 | exact Ne.symm hc9.2.2.2.2.2.2.2.1 | exact Nat.ne_of_lt hc9.2.2.2.2.2.2.2.1 | exact Nat.ne_of_gt hc9.2.2.2.2.2.2.2.1 | exact hc9.2.2.2.2.2.2.2.2.1 | exact Ne.symm hc9.2.2.2.2.2.2.2.2.1 | exact Nat.ne_of_lt hc9.2.2.2.2.2.2.2.2.1 | exact Nat.ne_of_gt hc9.2.2.2.2.2.2.2.2.1 | exact hc9.2.2.2.2.2.2.2.2.2.1 | exact Ne.symm hc9.2.2.2.2.2.2.2.2.2.1 | exact Nat.ne_of_lt hc9.2.2.2.2.2.2.2.2.2.1 | exact Nat.ne_of_gt hc9.2.2.2.2.2.2.2.2.2.1 | exact hc9.2.2.2.2.2.2.2.2.2.2.1 | exact Ne.symm hc9.2.2.2.2.2.2.2.2.2.2.1 | exact Nat.ne_of_lt hc9.2.2.2.2.2.2.2.2.2.2.1 | exact Nat.ne_of_gt hc9.2.2.2.2.2.2.2.2.2.2.1 | exact hc9.2.2.2.2.2.2.2.2.2.2.2.1 | exact Ne.symm hc9.2.2.2.2.2.2.2.2.2.2.2.1 | exact Nat.ne_of_lt hc9.2.2.2.2.2.2.2.2.2.2.2.1 | exact Nat.ne_of_gt hc9.2.2.2.2.2.2.2.2.2.2.2.1 | exact hc9.2.2.2.2.2.2.2.2.2.2.2.2.1 | exact Ne.symm hc9.2.2.2.2.2.2.2.2.2.2.2.2.1 | exact Nat.ne_of_lt hc9.2.2.2.2.2.2.2.2.2.2.2.2.1 | exact Nat.ne_of_gt hc9.2.2.2.2.2.2.2.2.2.2.2.2.1 | exact hc9.2.2.2.2.2.2.2.2.2.2.2.2.2.1 | exact Ne.symm hc9.2.2.2.2.2.2.2.2.2.2.2.2.2.1 | exact Nat.ne_of_lt hc9.2.2.2.2.2.2.2.2.2.2.2.2.2.1 | exact Nat.ne_of_gt hc9.2.2.2.2.2.2.2.2.2.2.2.2.2.1 | exact hc9.2.2.2.2.2.2.2.2.2.2.2.2.2.2.1 | exact Ne.symm hc9.2.2.2.2.2.2.2.2.2.2.2.2.2.2.1 | exact Nat.ne_of_lt hc9.2.2.2.2.2.2.2.2.2.2.2.2.2.2.1 | exact Nat.ne_of_gt hc9.2.2.2.2.2.2.2.2.2.2.2.2.2.2.1 | exact hc9.2.2.2.2.2.2.2.2.2.2.2.2.2.2.2.1 | exact Ne.symm hc9.2.2.2.2.2.2.2.2.2.2.2.2.2.2.2.1 | exact Nat.ne_of_lt hc9.2.2.2.2.2.2.2.2.2.2.2.2.2.2.2.1 | exact Nat.ne_of_gt hc9.2.2.2.2.2.2.2.2.2.2.2.2.2.2.2.1)
  trivial
local macro_rules | `(tactic| walk_at "callWith ref") => `(tactic| k_extra "callWith ref")
theorem wordsHB : True := by
  (k_with "call ref" => (k_here; k_dflt (refine' Ok.useAll (by assumption : Ok _ _ _ _ _ _ _ _ _ _ _) ?kA ?kh ?kd ?ku ?kB ?kF ?kX ?kN ?kT ?kk ?_; k_extra "MineSide"; intro v' sub' h' tk' hP' F' N')))
  (k_with "call ref" => (k_here; k_dflt (refine' BadP.useAll (by assumption : BadP _ _ _ _ _ _ _ _ _ _ _ _) ?kA ?kh ?kd ?ku ?kB ?kF ?kX ?kN ?kT ?kk ?_; k_extra "MineSide"; intro e' t' x' sub' h' tk' G' hP' FG' R' U')))
  (k_with "callWith ref" => (k_here; k_dflt (refine' callWith_F0 ?k1 ?_; (case k1 => exact FnAt.of (by k_asm) (by k_mem)); k_whole; try dsimp only [List.nil_append, List.cons_append])))
  trivial
section
variable {loose : List Str} {mean : ExcName → Option Value} {mg mb : Str → Option Value}
theorem heard_ok : ∀ (w : World) (lam : Addr) (oc : Value) (od : Option Addr) (fd : FuncData) (sl : Array (Option Value)) (sub : Led) (P : Value → Led → Prop), Ok w loose mean mg mb 320 2560 (.ref lam) [] ((lam, ⟨oc, od, .func fd, sl⟩) :: sub) P →
    OkS w loose mean mg mb 310 2480 (.ref 408) [.ref lam] ((lam, ⟨oc, od, .func fd, sl⟩) :: sub) P := by
  intro w lam oc od fd sl sub P H
  unfold OkS
  k_fill
  intro cn cs a ccd cl outer A₀ base h₀ L m s Q E B F X N T XB TB D hk hret
  k_extra "MineWalkS"
  · refine' leaveS KtsTurn.refl ?F ?N ?_ (fun _ h => h)
    (case F => k_asm)
    (case N => k_asm)
    intro h9 T9 F9 N9 B9 K9 Z9
    exact hret _ _ _ _ _ hP' T9 F9 N9 B9 K9 Z9
theorem heard_bad44 : ∀ (w : World) (lam : Addr) (oc : Value) (od : Option Addr) (fd : FuncData) (sl : Array (Option Value)) (sub : Led) (PB : Led → Prop), BadP w loose mean mg mb 320 2560 (.ref lam) [] ((lam, ⟨oc, od, .func fd, sl⟩) :: sub) 44 PB →
    OkS w loose mean mg mb 310 2480 (.ref 408) [.ref lam] ((lam, ⟨oc, od, .func fd, sl⟩) :: sub) (fun v l => (∃ t, v = .str (Str.ofString "refused") t) ∧ PB l) := by
  intro w lam oc od fd sl sub PB H
  unfold OkS
  k_fill
  intro cn cs a ccd cl outer A₀ base h₀ L m s Q E B F X N T XB TB D hk hret
  k_extra "MineWalkS"
  · refine' leaveS ?T ?F ?N ?_ (fun _ h => h)
    (case T => k_asm)
    (case F => k_asm)
    (case N => k_asm)
    intro h9 T9 F9 N9 B9 K9 Z9
    exact hret _ _ _ _ _ ⟨⟨_, rfl⟩, hP'⟩ T9 F9 N9 B9 K9 Z9
theorem heard_bad56 : ∀ (w : World) (lam : Addr) (oc : Value) (od : Option Addr) (fd : FuncData) (sl : Array (Option Value)) (sub : Led) (PB : Led → Prop), BadP w loose mean mg mb 320 2560 (.ref lam) [] ((lam, ⟨oc, od, .func fd, sl⟩) :: sub) 56 PB →
    OkS w loose mean mg mb 310 2480 (.ref 408) [.ref lam] ((lam, ⟨oc, od, .func fd, sl⟩) :: sub) (fun v l => (∃ t, v = .str (Str.ofString "refused") t) ∧ PB l) := by
  intro w lam oc od fd sl sub PB H
  unfold OkS
  k_fill
  intro cn cs a ccd cl outer A₀ base h₀ L m s Q E B F X N T XB TB D hk hret
  k_extra "MineWalkS"
  · refine' leaveS ?T ?F ?N ?_ (fun _ h => h)
    (case T => k_asm)
    (case F => k_asm)
    (case N => k_asm)
    intro h9 T9 F9 N9 B9 K9 Z9
    exact hret _ _ _ _ _ ⟨⟨_, rfl⟩, hP'⟩ T9 F9 N9 B9 K9 Z9
end

-- part LP
noncomputable def stm (i j : Nat) : Stmt := match (bdy (fdef i))[j]? with
  | some s => s
  | none => .Pass ⟨0, 0, 0, 0⟩
noncomputable def lamE : Stmt → Expr
  | .Assign _ (.Call _ (l :: _) _ _) _ => l
  | .Return (some (.Compare (.Call _ (l :: _) _ _) _ _ _)) _ => l
  | .If (.Compare (.Call _ (l :: _) _ _) _ _ _) _ _ _ => l
  | _ => .Constant .none 0 ⟨0, 0, 0, 0⟩
noncomputable def lamP : Expr → Arguments
  | .Lambda a _ _ _ => a
  | _ => ⟨[], [], none, [], [], none, []⟩
noncomputable def lamB : Expr → Expr
  | .Lambda _ b _ _ => b
  | e => e
noncomputable def lamS : Expr → Scope
  | .Lambda _ _ s _ => s
  | _ => { kind := .function, names := [], isGenerator := false, isCoroutine := false, more := [] }
noncomputable def lamAt (i j : Nat) : Expr := lamE (stm i j)
abbrev qualH : Str := Str.ofString "_law_head_right" ++ ".<locals>." ++ "<lambda>"
abbrev qualK : Str := Str.ofString "_law_kind_right" ++ ".<locals>." ++ "<lambda>"
noncomputable abbrev lamO (q : Str) (e : Expr) (cl : List (Str × Addr)) (pm : Value) (c' : Addr) (ctv : Value) : Obj := kla_obj "<lambda>" q (lamP e) (lamB e) (lamS e) cl pm c' ctv
-- a code record in the ledger
def IsCd (q : Str) (oc : Obj) : Prop := ∃ vs t, oc.data = .fields vs ∧ vs[1]? = some (.str q t)
def CellIs (v : Value) (oc : Obj) : Prop := oc.data = .cell (some v)

-- part LA
theorem words0_LA : True := by
  k_with_none
  (k_with "MineEnter" => (refine wpAny_call ?_; k_dflt (refine' enterQ ?k1 ?k2 ?k3 ?k4 ?k5 ?kA ?kF ?kK ?k6 ?k7 ?k8 ?k9 ?kB ?_ ?c2 ?c3 ?c4 ?c5; (case kA => exact rfl); (case kF => exact rfl); (case kK => assumption); (case k1 => k_asm); (case k2 => k_asm); (case k3 => k_asm); (case k4 => k_asm); (case k5 => k_asm); (case k6 => k_is); (case k7 => k_is); (case k8 => ktr_room); (case k9 => first | exact BindsTo.of_eq rfl | exact binds_K (by k_in) rfl (by k_is) rfl rfl rfl); (case c5 => decide); (case kB => exact locs rfl); (case c2 => exact rfl); (case c3 => exact rfl); (case c4 => exact rfl)); intro g' L' h' tk' FG' F' N' B' X' T' hg' lL'; (try k_lt lL'); (try dsimp only); (try k_fold)))
  (k_with "MineEnterC" => (refine wpAny_call ?_; k_dflt (refine' enterQC ?k1 ?k2 ?k3 ?k4 ?k5 ?kA ?kF ?kK ?k6 ?k7 ?k8 ?k9 ?kB ?kD ?_ ?c2 ?c3 ?c4; (case kA => exact rfl); (case kF => exact rfl); (case kK => assumption); (case k1 => k_asm); (case k2 => k_asm); (case k3 => k_asm); (case k4 => k_asm); (case k5 => k_asm); (case k6 => k_is); (case k7 => k_is); (case k8 => ktr_room); (case k9 => first | exact BindsTo.of_eq rfl | exact binds_K (by k_in) rfl (by k_is) rfl rfl rfl); (case kB => exact rfl); (case kD => decide +kernel); (case c2 => exact rfl); (case c3 => exact rfl); (case c4 => exact rfl)); intro g' L' h' tk' cells' FG' F' N' Y' B' X' T' hg' lL'; (try k_lt lL'); k_cells Y'; (try simp only [List.cons_append, List.nil_append] at N'); (try dsimp only); (try k_fold)))
  (k_with "MineWalkC" => (k_extra "MineEnterC"; k_steps; all_goals (try dsimp only); all_goals (try (k_unfold; dsimp only))))
  (k_with "MineWalk" => (k_extra "MineEnter"; k_steps; all_goals (try dsimp only); all_goals (try (k_unfold; dsimp only))))
  (k_with "MineFresh" => first | exact List.forall_mem_nil _ | (refine' List.forall_mem_cons.mpr ⟨?fa, ?fb⟩; (case fa => (repeat (first | exact List.not_mem_nil | (refine' List.not_mem_cons_of_ne_of_not_mem ?fn ?_; (case fn => k_ne)))))); (case fb => k_extra "MineFresh"))
  (k_with "MineMem" => first | exact List.forall_mem_nil _ | (refine' List.forall_mem_cons.mpr ⟨?fa, ?fb⟩; (case fa => k_mem); (case fb => k_extra "MineMem")))
  (k_with "MineSide" => ((case kA => exact rfl); (case kh => exact rfl); (case kd => exact Nat.le_of_ble_eq_true rfl); (case ku => exact Nat.le_of_ble_eq_true rfl); (case kB => k_asm); (case kF => k_asm); (case kX => k_asm); (case kN => k_asm); (case kT => k_asm); (case kk => exact rfl)))
  (k_with "MineLed" => ((try simp only [List.nil_append, List.cons_append] at N'); (try (replace D' := allNe2_of D'; simp only [AllNe2, AllNe, and_true] at D'))))
  (k_with "MineLeaveW" => ((case F => k_asm); (case N => k_asm); (case h1 => k_mem); (case h2 => k_extra "MineMem"); (case h3 => k_extra "MineMem"); intro F9 N9 K9 Z9))
  (k_with "MineLeaveR" => ((case F => k_asm); (case N => k_asm); (case h2 => k_extra "MineMem"); (case h3 => k_extra "MineMem"); intro F9 N9 K9 Z9))
  (k_with "MineGetLen" => (exfalso; omega))
  (k_with "MinePut" => (first | exact Int.lt_of_lt_of_le (b := 256) (by omega) (by decide) | exact Int.lt_of_lt_of_le (b := 65536) (by omega) (by decide) | exact Int.lt_of_lt_of_le (b := 16777216) (by omega) (by decide) | exact Int.lt_of_lt_of_le (b := 281474976710656) (by omega) (by decide)))
  (k_with "MineBytes" => first | assumption | exact bI1 ⟨by omega, by omega⟩ | exact bI2 ⟨by omega, by omega⟩ ⟨by omega, by omega⟩ | exact zeros_ints _ | exact KBw.ints_list _)
  (k_with "MineAdd" => (k_here; (with_reducible show wpAny _ _ (binaryOp Operator.Add (Value.bytes _ _) (Value.bytes _ _)) _ _ _); (refine KBa.add_K (by k_extra "MineBytes") (by k_extra "MineBytes") (by first | (simp only [List.length_cons, List.length_nil, List.length_append, List.length_map, List.length_replicate, rangeInts_length]; omega) | omega | (simp only [List.length_cons, List.length_nil, List.length_append, List.length_map, List.length_replicate, sum_len]; omega)) ?_); intro t' k' hb'))
  (k_with "MinePutBad" => (intro h9; first | (have h8 := Int.lt_of_lt_of_le h9 (show (1 * 2 ^ ((8:Int) * 1).toNat : Int) ≤ 256 by decide); omega) | (have h8 := Int.lt_of_lt_of_le h9 (show (1 * 2 ^ ((8:Int) * 3).toNat : Int) ≤ 16777216 by decide); omega)))
  (k_with "MinePass" => ((rename RaisedS _ _ _ _ _ _ _ _ _ => rsX); k_dflt (refine' leave_onX (news := ?sub) ?K ?F ?hf rsX ?U ?hs ?_; (case sub => first | k_extra "MineSub" | exact []); (case K => k_asm); (case F => k_asm); (case hf => exact rfl); (case U => k_asm); (case hs => k_extra "MineMem"); intro h9 R9 U9)))
  (k_with "MineEnterS" => (refine wpAny_call ?_; k_dflt (refine' enterQS ?k1 ?k2 ?k3 ?k4 ?k5 ?k0 ?kA ?kF ?kK ?k6 ?k7 ?k8 ?k9 ?kB ?_ ?c2 ?c3 ?c4 ?c5; (case kA => exact rfl); (case kF => exact rfl); (case kK => assumption); (case k1 => k_asm); (case k2 => k_asm); (case k3 => k_asm); (case k4 => k_asm); (case k5 => k_asm); (case k0 => k_asm); (case k6 => k_is); (case k7 => k_is); (case k8 => ktr_room); (case k9 => first | exact BindsTo.of_eq rfl | exact binds_K (by k_in) rfl (by k_is) rfl rfl rfl); (case c5 => decide); (case kB => exact locs rfl); (case c2 => exact rfl); (case c3 => exact rfl); (case c4 => exact rfl)); intro g' L' h' tk' FG' F' N' B' X' T' D' hg' lL'; (try k_lt lL'); (try dsimp only); (try k_fold)))
  (k_with "MineEnterSC" => (refine wpAny_call ?_; k_dflt (refine' enterQSC ?k1 ?k2 ?k3 ?k4 ?k5 ?k0 ?kA ?kF ?kK ?k6 ?k7 ?k8 ?k9 ?kB ?kD ?_ ?c2 ?c3 ?c4; (case kA => exact rfl); (case kF => exact rfl); (case kK => assumption); (case k1 => k_asm); (case k2 => k_asm); (case k3 => k_asm); (case k4 => k_asm); (case k5 => k_asm); (case k0 => k_asm); (case k6 => k_is); (case k7 => k_is); (case k8 => ktr_room); (case k9 => first | exact BindsTo.of_eq rfl | exact binds_K (by k_in) rfl (by k_is) rfl rfl rfl); (case kB => exact rfl); (case kD => decide +kernel); (case c2 => exact rfl); (case c3 => exact rfl); (case c4 => exact rfl)); intro g' L' h' tk' cells' FG' F' N' Y' B' X' T' D' hg' lL'; (try k_lt lL'); k_cells Y'; (try simp only [List.cons_append, List.nil_append] at N'); (try dsimp only); (try k_fold)))
  (k_with "MineEnterL" => (refine wpAny_call ?_; k_dflt (refine' enterQL ?k1 ?k2 ?k3 ?k4 ?k5 ?kA ?kF ?kK ?ho ?hc ?hd ?hv ?k8 ?k9 ?kB ?_ ?c2 ?c3 ?c4 ?c5; (case kA => exact rfl); (case kF => exact rfl); (case kK => assumption); (case k1 => k_asm); (case k2 => k_asm); (case k3 => k_asm); (case k4 => k_asm); (case k5 => k_asm); (case ho => k_mem); (case hc => k_mem); (case hd => assumption); (case hv => assumption); (case k8 => ktr_room); (case k9 => exact rfl); (case c5 => decide); (case kB => exact locs rfl); (case c2 => exact rfl); (case c3 => exact rfl); (case c4 => exact rfl)); intro g' L' h' tk' FG' F' N' B' X' T' hg' lL'; (try k_lt lL'); (try dsimp only); (try k_fold)))
  (k_with "MineWalkL" => (k_extra "MineEnterL"; k_dflt (show wpAny _ _ (eval (Expr.Call _ _ _ _) _) _ _ _); k_steps; all_goals (try dsimp only); all_goals (try (k_unfold; dsimp only))))
  (k_with "MineWalkS" => (k_extra "MineEnterS"; k_steps; all_goals (try dsimp only); all_goals (try (k_unfold; dsimp only))))
  (k_with "MineSame" => first | exact SameL.nil | (refine' SameL.cons ?sa ?sb; (case sa => first | exact same_int _ _ _ | exact same_bytes _ _ _ | exact PySem.SeqAt.EqAt.same _); (case sb => k_extra "MineSame")))
  (k_with "MineNeT" => (k_here; (with_reducible show wpAny _ _ (compareOp CmpOp.NotEq (Value.ref _) (Value.ref _)) _ _ _); k_dflt (refine' ne_tups ?N ?ml ?mb ?cl ?dl ?cb ?db ?hu ?hs ?_; (case N => k_asm); (case ml => k_mem); (case mb => k_mem); (case cl => rfl); (case dl => rfl); (case cb => rfl); (case db => rfl); (case hu => ke_room); (case hs => k_extra "MineSame"))))
  (k_with "MineEqT" => (k_here; (with_reducible show wpAny _ _ (compareOp CmpOp.Eq (Value.ref _) (Value.ref _)) _ _ _); k_dflt (refine' eq_tups ?N ?ml ?mb ?cl ?dl ?cb ?db ?hu ?hs ?_; (case N => k_asm); (case ml => k_mem); (case mb => k_mem); (case cl => rfl); (case dl => rfl); (case cb => rfl); (case db => rfl); (case hu => ke_room); (case hs => k_extra "MineSame"))))
  (k_with "MineNew" => ((try dsimp only [AllNe] at D1'); (try dsimp only [AllNe] at D2'); (try dsimp only [AllNe] at D3')))
  (k_with "MineNe1" => (refine neN ?_; (try dsimp only); with_reducible first | assumption | (refine Ne.symm ?_; assumption) | exact Nat.ne_of_lt (by assumption) | exact Nat.ne_of_gt (by assumption) | exact Nat.ne_of_lt (by k_extra "MineLtS") | exact Nat.ne_of_gt (by k_extra "MineLtS") | k_extra "MineNe2"))
  (k_with "MineLtS" => first | assumption | exact Nat.lt_succ_self _ | (refine Nat.lt_succ_of_lt ?_; k_extra "MineLtS"))
  (k_with "MineNe2" => (rename _ ∧ _ => hc9; first | k_extra "MinePrj" | (clear hc9; k_extra "MineNe2")))
  (k_with "MinePrj" => first | exact hc9.1 | exact Ne.symm hc9.1 | exact Nat.ne_of_lt hc9.1 | exact Nat.ne_of_gt hc9.1 | exact hc9.2.1 | exact Ne.symm hc9.2.1 | exact Nat.ne_of_lt hc9.2.1 | exact Nat.ne_of_gt hc9.2.1 | exact hc9.2.2.1 | exact Ne.symm hc9.2.2.1 | exact Nat.ne_of_lt hc9.2.2.1 | exact Nat.ne_of_gt hc9.2.2.1 | exact hc9.2.2.2.1 | exact Ne.symm hc9.2.2.2.1 | exact Nat.ne_of_lt hc9.2.2.2.1 | exact Nat.ne_of_gt hc9.2.2.2.1 | exact hc9.2.2.2.2.1 | exact Ne.symm hc9.2.2.2.2.1 | exact Nat.ne_of_lt hc9.2.2.2.2.1 | exact Nat.ne_of_gt hc9.2.2.2.2.1 | exact hc9.2.2.2.2.2.1 | exact Ne.symm hc9.2.2.2.2.2.1 | exact Nat.ne_of_lt hc9.2.2.2.2.2.1 | exact Nat.ne_of_gt hc9.2.2.2.2.2.1 | exact hc9.2.2.2.2.2.2.1 | exact Ne.symm hc9.2.2.2.2.2.2.1 | exact Nat.ne_of_lt hc9.2.2.2.2.2.2.1 | exact Nat.ne_of_gt hc9.2.2.2.2.2.2.1 | exact hc9.2.2.2.2.2.2.2.1 | exact Ne.symm hc9.2.2.2.2.2.2.2.1 | exact Nat.ne_of_lt hc9.2.2.2.2.2.2.2.1 | exact Nat.ne_of_gt hc9.2.2.2.2.2.2.2.1 | exact hc9.2.2.2.2.2.2.2.2.1 | exact Ne.symm hc9.2.2.2.2.2.2.2.2.1 | exact Nat.ne_of_lt hc9.2.2.2.2.2.2.2.2.1 | exact Nat.ne_of_gt hc9.2.2.2.2.2.2.2.2.1 | exact hc9.2.2.2.2.2.2.2.2.2.1 | exact Ne.symm hc9.2.2.2.2.2.2.2.2.2.1 | exact Nat.ne_of_lt hc9.2.2.2.2.2.2.2.2.2.1 | exact Nat.ne_of_gt hc9.2.2.2.2.2.2.2.2.2.1 | exact hc9.2.2.2.2.2.2.2.2.2.2.1 | exact Ne.symm hc9.2.2.2.2.2.2.2.2.2.2.1 | exact Nat.ne_of_lt hc9.2.2.2.2.2.2.2.2.2.2.1 | exact Nat.ne_of_gt hc9.2.2.2.2.2.2.2.2.2.2.1 | exact hc9.2.2.2.2.2.2.2.2.2.2.2.1 | exact Ne.symm hc9.2.2.2.2.2.2.2.2.2.2.2.1 | exact Nat.ne_of_lt hc9.2.2.2.2.2.2.2.2.2.2.2.1 | exact Nat.ne_of_gt hc9.2.2.2.2.2.2.2.2.2.2.2.1 | exact hc9.2.2.2.2.2.2.2.2.2.2.2.2.1 | exact Ne.symm hc9.2.2.2.2.2.2.2.2.2.2.2.2.1 | exact Nat.ne_of_lt hc9.2.2.2.2.2.2.2.2.2.2.2.2.1 | exact Nat.ne_of_gt hc9.2.2.2.2.2.2.2.2.2.2.2.2.1 | exact hc9.2.2.2.2.2.2.2.2.2.2.2.2.2.1 | exact Ne.symm hc9.2.2.2.2.2.2.2.2.2.2.2.2.2.1 | exact Nat.ne_of_lt hc9.2.2.2.2.2.2.2.2.2.2.2.2.2.1 | exact Nat.ne_of_gt hc9.2.2.2.2.2.2.2.2.2.2.2.2.2.1 | exact hc9.2.2.2.2.2.2.2.2.2.2.2.2.2.2.1 | exact Ne.symm hc9.2.2.2.2.2.2.2.2.2.2.2.2.2.2.1 | exact Nat.ne_of_lt hc9.2.2.2.2.2.2.2.2.2.2.2.2.2.2.1 | exact Nat.ne_of_gt hc9.2.2.2.2.2.2.2.2.2.2.2.2.2.2.1 | exact hc9.2.2.2.2.2.2.2.2.2.2.2.2.2.2.2.1 | exact Ne.symm hc9.2.2.2.2.2.2.2.2.2.2.2.2.2.2.2.1 | exact Nat.ne_of_lt hc9.2.2.2.2.2.2.2.2.2.2.2.2.2.2.2.1 | exact Nat.ne_of_gt hc9.2.2.2.2.2.2.2.2.2.2.2.2.2.2.2.1)
  trivial
theorem wordsK_LA : True := by
  (k_with "call ref" => (k_here; (with_reducible show wpAny _ _ (call (Value.ref 352) _) _ _ _); (try k_fold); k_dflt (refine' Ok.useBy (pack_llc_ok _ _ _ _ _ _ _ _ _ _ _ _ _ _ _ _ _ ?p0 ?p1 ?p2 ?p3 ?p4 ?p5) ?kA ?kh ?kd ?ku ?kB ?kF ?kX ?kN ?kT ?kk ?ks ?_; k_extra "MineSide"; (case ks => k_extra "MineMem"); (case p0 => assumption); (case p1 => assumption); (case p2 => first | omega | k_extra "MineLen"); (case p3 => first | assumption | k_extra "MineLaid"); (case p4 => first | assumption | decide); (case p5 => first | assumption | decide); intro b' t' h' tk' hb' F' N')))
  (k_with "call ref" => (k_here; (with_reducible show wpAny _ _ (call (Value.ref 352) _) _ _ _); k_dflt (refine' Bad.use (pack_llc_bad _ _ _ _ _ _ _ _ _ _ _ _ _ _ _ ?p0 ?p1 ?p2 ?p3) ?kA ?kh ?kd ?ku ?kB ?kF ?kX ?kN ?kT ?kk ?ks ?_; k_extra "MineSide"; (case ks => k_extra "MineMem"); (case p0 => assumption); (case p1 => first | omega | k_extra "MineP1"); (case p2 => first | omega | k_extra "MineP1"); (case p3 => first | omega | k_extra "MineP1"); intro e' t' x' h' tk' G' FG' R' U')))
  (k_with "call ref" => (k_here; (with_reducible show wpAny _ _ (call (Value.ref 352) _) _ _ _); k_dflt (refine' Bad.use (pack_llc_far _ _ _ _ _ _ _ _ _ _ _ _ _ _ _ _ _ ?p0 ?p1 ?p2) ?kA ?kh ?kd ?ku ?kB ?kF ?kX ?kN ?kT ?kk ?ks ?_; k_extra "MineSide"; (case ks => k_extra "MineMem"); (case p0 => assumption); (case p1 => assumption); (case p2 => omega); intro e' t' x' h' tk' G' FG' R' U')))
  trivial
local macro_rules | `(tactic| walk_at "eval Name") => `(tactic| k_extra "eval Name")
theorem wordsLA : True := by
  (k_with "eval Name" => (k_here; k_dflt (refine' nameX_F ?N ?c ?m ?d ?_ ?a ?b; (case a => rfl); (case b => rfl); (case N => k_asm); (case c => rfl); (case m => k_mem); (case d => k_asm); k_whole)))
  (k_with "leaving ref" => k_extra "MinePass")
  (k_with "MineSub" => exact ((f, lamO qualH (lamAt 56 4) [("head", cH)] pm c' ctv) :: (c', oc) :: (cH, och) :: linkL w.params x dx k1 k2 k3 k4 p0 p1 c t0 t1 tc pb tp))
  trivial
section
variable {loose : List Str} {mean : ExcName → Option Value} {mg mb : Str → Option Value}
theorem lamA_ok : ∀ (w : World) (f c' cH : Addr) (pm ctv : Value) (oc och : Obj) (x dx : Addr) (k1 k2 k3 k4 : Tok) (p0 p1 c : Int) (t0 t1 tc : Tok) (pb : Array UInt8) (tp : Tok) (pl ks : List Int), IsCd qualH oc → CellIs (.ref x) och → @Ne Nat x dx → KBw.bInts pb = pl → pl.length ≤ 50 → LaidIs ks p0 p1 c pl → (0 ≤ p0 ∧ p0 < 256) → (0 ≤ p1 ∧ p1 < 256) →
    Ok w loose mean mg mb 320 2560 (.ref f) [] ((f, lamO qualH (lamAt 56 4) [("head", cH)] pm c' ctv) :: (c', oc) :: (cH, och) :: linkL w.params x dx k1 k2 k3 k4 p0 p1 c t0 t1 tc pb tp)
      (RPost ((f, lamO qualH (lamAt 56 4) [("head", cH)] pm c' ctv) :: (c', oc) :: (cH, och) :: linkL w.params x dx k1 k2 k3 k4 p0 p1 c t0 t1 tc pb tp) (BytesAre ks)) := by
  rintro w f c' cH pm ctv oc och x dx k1 k2 k3 k4 p0 p1 c t0 t1 tc pb tp pl ks ⟨vs, t, hv, hv1⟩ hcell hne hb hl hL h0 h1
  unfold CellIs at hcell
  unfold Ok
  k_fill
  intro cn cs a ccd cl outer A₀ base h₀ L m s Q E B F X N T hk hret
  k_extra "MineWalkL"
  · refine' leaveR (nw := []) ?F ?N ?_ ?h2 ?h3
    k_extra "MineLeaveR"
    exact hret _ _ _ _ ⟨[], rfl, List.forall_mem_nil _, rfl, _, _, rfl, hb'⟩ F9 N9 K9 Z9
theorem lamA_bad : ∀ (w : World) (f c' cH : Addr) (pm ctv : Value) (oc och : Obj) (x dx : Addr) (k1 k2 k3 k4 : Tok) (p0 p1 c : Int) (t0 t1 tc : Tok) (pb : Array UInt8) (tp : Tok), IsCd qualH oc → CellIs (.ref x) och → @Ne Nat x dx → 256 ≤ c → c < 65536 → (c / 256) % 4 = 3 →
    Bad w loose mean mg mb 320 2560 (.ref f) [] ((f, lamO qualH (lamAt 56 4) [("head", cH)] pm c' ctv) :: (c', oc) :: (cH, och) :: linkL w.params x dx k1 k2 k3 k4 p0 p1 c t0 t1 tc pb tp) 56 := by
  rintro w f c' cH pm ctv oc och x dx k1 k2 k3 k4 p0 p1 c t0 t1 tc pb tp ⟨vs, t, hv, hv1⟩ hcell hne h0 h1 h2
  unfold CellIs at hcell
  unfold Bad
  k_fill
  intro cn cs a ccd cl outer A₀ base h₀ L m s Q E B F X N T hk hret
  k_extra "MineWalkL"
  all_goals (subst hg'; exact hret _ _ _ _ _ R9 U9)
theorem lamA_far : ∀ (w : World) (f c' cH : Addr) (pm ctv : Value) (oc och : Obj) (x dx : Addr) (k1 k2 k3 k4 : Tok) (p0 p1 c : Int) (t0 t1 tc : Tok) (pb : Array UInt8) (tp : Tok) (pl ks : List Int), IsCd qualH oc → CellIs (.ref x) och → @Ne Nat x dx → LaidIs ks p0 p1 c pl → 256 ≤ p0 →
    Bad w loose mean mg mb 320 2560 (.ref f) [] ((f, lamO qualH (lamAt 56 4) [("head", cH)] pm c' ctv) :: (c', oc) :: (cH, och) :: linkL w.params x dx k1 k2 k3 k4 p0 p1 c t0 t1 tc pb tp) 56 := by
  rintro w f c' cH pm ctv oc och x dx k1 k2 k3 k4 p0 p1 c t0 t1 tc pb tp pl ks ⟨vs, t, hv, hv1⟩ hcell hne hL h0
  unfold CellIs at hcell
  unfold Bad
  k_fill
  intro cn cs a ccd cl outer A₀ base h₀ L m s Q E B F X N T hk hret
  k_extra "MineWalkL"
  all_goals (subst hg'; exact hret _ _ _ _ _ R9 U9)
end

-- part LB
theorem words0_LB : True := by
  k_with_none
  (k_with "MineEnter" => (refine wpAny_call ?_; k_dflt (refine' enterQ ?k1 ?k2 ?k3 ?k4 ?k5 ?kA ?kF ?kK ?k6 ?k7 ?k8 ?k9 ?kB ?_ ?c2 ?c3 ?c4 ?c5; (case kA => exact rfl); (case kF => exact rfl); (case kK => assumption); (case k1 => k_asm); (case k2 => k_asm); (case k3 => k_asm); (case k4 => k_asm); (case k5 => k_asm); (case k6 => k_is); (case k7 => k_is); (case k8 => ktr_room); (case k9 => first | exact BindsTo.of_eq rfl | exact binds_K (by k_in) rfl (by k_is) rfl rfl rfl); (case c5 => decide); (case kB => exact locs rfl); (case c2 => exact rfl); (case c3 => exact rfl); (case c4 => exact rfl)); intro g' L' h' tk' FG' F' N' B' X' T' hg' lL'; (try k_lt lL'); (try dsimp only); (try k_fold)))
  (k_with "MineEnterC" => (refine wpAny_call ?_; k_dflt (refine' enterQC ?k1 ?k2 ?k3 ?k4 ?k5 ?kA ?kF ?kK ?k6 ?k7 ?k8 ?k9 ?kB ?kD ?_ ?c2 ?c3 ?c4; (case kA => exact rfl); (case kF => exact rfl); (case kK => assumption); (case k1 => k_asm); (case k2 => k_asm); (case k3 => k_asm); (case k4 => k_asm); (case k5 => k_asm); (case k6 => k_is); (case k7 => k_is); (case k8 => ktr_room); (case k9 => first | exact BindsTo.of_eq rfl | exact binds_K (by k_in) rfl (by k_is) rfl rfl rfl); (case kB => exact rfl); (case kD => decide +kernel); (case c2 => exact rfl); (case c3 => exact rfl); (case c4 => exact rfl)); intro g' L' h' tk' cells' FG' F' N' Y' B' X' T' hg' lL'; (try k_lt lL'); k_cells Y'; (try simp only [List.cons_append, List.nil_append] at N'); (try dsimp only); (try k_fold)))
  (k_with "MineWalkC" => (k_extra "MineEnterC"; k_steps; all_goals (try dsimp only); all_goals (try (k_unfold; dsimp only))))
  (k_with "MineWalk" => (k_extra "MineEnter"; k_steps; all_goals (try dsimp only); all_goals (try (k_unfold; dsimp only))))
  (k_with "MineFresh" => first | exact List.forall_mem_nil _ | (refine' List.forall_mem_cons.mpr ⟨?fa, ?fb⟩; (case fa => (repeat (first | exact List.not_mem_nil | (refine' List.not_mem_cons_of_ne_of_not_mem ?fn ?_; (case fn => k_ne)))))); (case fb => k_extra "MineFresh"))
  (k_with "MineMem" => first | exact List.forall_mem_nil _ | (refine' List.forall_mem_cons.mpr ⟨?fa, ?fb⟩; (case fa => k_mem); (case fb => k_extra "MineMem")))
  (k_with "MineSide" => ((case kA => exact rfl); (case kh => exact rfl); (case kd => exact Nat.le_of_ble_eq_true rfl); (case ku => exact Nat.le_of_ble_eq_true rfl); (case kB => k_asm); (case kF => k_asm); (case kX => k_asm); (case kN => k_asm); (case kT => k_asm); (case kk => exact rfl)))
  (k_with "MineLed" => ((try simp only [List.nil_append, List.cons_append] at N'); (try (replace D' := allNe2_of D'; simp only [AllNe2, AllNe, and_true] at D'))))
  (k_with "MineLeaveW" => ((case F => k_asm); (case N => k_asm); (case h1 => k_mem); (case h2 => k_extra "MineMem"); (case h3 => k_extra "MineMem"); intro F9 N9 K9 Z9))
  (k_with "MineLeaveR" => ((case F => k_asm); (case N => k_asm); (case h2 => k_extra "MineMem"); (case h3 => k_extra "MineMem"); intro F9 N9 K9 Z9))
  (k_with "MineGetLen" => (exfalso; omega))
  (k_with "MinePut" => (first | exact Int.lt_of_lt_of_le (b := 256) (by omega) (by decide) | exact Int.lt_of_lt_of_le (b := 65536) (by omega) (by decide) | exact Int.lt_of_lt_of_le (b := 16777216) (by omega) (by decide) | exact Int.lt_of_lt_of_le (b := 281474976710656) (by omega) (by decide)))
  (k_with "MineBytes" => first | assumption | exact bI1 ⟨by omega, by omega⟩ | exact bI2 ⟨by omega, by omega⟩ ⟨by omega, by omega⟩ | exact zeros_ints _ | exact KBw.ints_list _)
  (k_with "MineAdd" => (k_here; (with_reducible show wpAny _ _ (binaryOp Operator.Add (Value.bytes _ _) (Value.bytes _ _)) _ _ _); (refine KBa.add_K (by k_extra "MineBytes") (by k_extra "MineBytes") (by first | (simp only [List.length_cons, List.length_nil, List.length_append, List.length_map, List.length_replicate, rangeInts_length]; omega) | omega | (simp only [List.length_cons, List.length_nil, List.length_append, List.length_map, List.length_replicate, sum_len]; omega)) ?_); intro t' k' hb'))
  (k_with "MinePutBad" => (intro h9; first | (have h8 := Int.lt_of_lt_of_le h9 (show (1 * 2 ^ ((8:Int) * 1).toNat : Int) ≤ 256 by decide); omega) | (have h8 := Int.lt_of_lt_of_le h9 (show (1 * 2 ^ ((8:Int) * 3).toNat : Int) ≤ 16777216 by decide); omega)))
  (k_with "MinePass" => ((rename RaisedS _ _ _ _ _ _ _ _ _ => rsX); k_dflt (refine' leave_onX (news := ?sub) ?K ?F ?hf rsX ?U ?hs ?_; (case sub => first | k_extra "MineSub" | exact []); (case K => k_asm); (case F => k_asm); (case hf => exact rfl); (case U => k_asm); (case hs => k_extra "MineMem"); intro h9 R9 U9)))
  (k_with "MineEnterS" => (refine wpAny_call ?_; k_dflt (refine' enterQS ?k1 ?k2 ?k3 ?k4 ?k5 ?k0 ?kA ?kF ?kK ?k6 ?k7 ?k8 ?k9 ?kB ?_ ?c2 ?c3 ?c4 ?c5; (case kA => exact rfl); (case kF => exact rfl); (case kK => assumption); (case k1 => k_asm); (case k2 => k_asm); (case k3 => k_asm); (case k4 => k_asm); (case k5 => k_asm); (case k0 => k_asm); (case k6 => k_is); (case k7 => k_is); (case k8 => ktr_room); (case k9 => first | exact BindsTo.of_eq rfl | exact binds_K (by k_in) rfl (by k_is) rfl rfl rfl); (case c5 => decide); (case kB => exact locs rfl); (case c2 => exact rfl); (case c3 => exact rfl); (case c4 => exact rfl)); intro g' L' h' tk' FG' F' N' B' X' T' D' hg' lL'; (try k_lt lL'); (try dsimp only); (try k_fold)))
  (k_with "MineEnterSC" => (refine wpAny_call ?_; k_dflt (refine' enterQSC ?k1 ?k2 ?k3 ?k4 ?k5 ?k0 ?kA ?kF ?kK ?k6 ?k7 ?k8 ?k9 ?kB ?kD ?_ ?c2 ?c3 ?c4; (case kA => exact rfl); (case kF => exact rfl); (case kK => assumption); (case k1 => k_asm); (case k2 => k_asm); (case k3 => k_asm); (case k4 => k_asm); (case k5 => k_asm); (case k0 => k_asm); (case k6 => k_is); (case k7 => k_is); (case k8 => ktr_room); (case k9 => first | exact BindsTo.of_eq rfl | exact binds_K (by k_in) rfl (by k_is) rfl rfl rfl); (case kB => exact rfl); (case kD => decide +kernel); (case c2 => exact rfl); (case c3 => exact rfl); (case c4 => exact rfl)); intro g' L' h' tk' cells' FG' F' N' Y' B' X' T' D' hg' lL'; (try k_lt lL'); k_cells Y'; (try simp only [List.cons_append, List.nil_append] at N'); (try dsimp only); (try k_fold)))
  (k_with "MineEnterL" => (refine wpAny_call ?_; k_dflt (refine' enterQL ?k1 ?k2 ?k3 ?k4 ?k5 ?kA ?kF ?kK ?ho ?hc ?hd ?hv ?k8 ?k9 ?kB ?_ ?c2 ?c3 ?c4 ?c5; (case kA => exact rfl); (case kF => exact rfl); (case kK => assumption); (case k1 => k_asm); (case k2 => k_asm); (case k3 => k_asm); (case k4 => k_asm); (case k5 => k_asm); (case ho => k_mem); (case hc => k_mem); (case hd => assumption); (case hv => assumption); (case k8 => ktr_room); (case k9 => exact rfl); (case c5 => decide); (case kB => exact locs rfl); (case c2 => exact rfl); (case c3 => exact rfl); (case c4 => exact rfl)); intro g' L' h' tk' FG' F' N' B' X' T' hg' lL'; (try k_lt lL'); (try dsimp only); (try k_fold)))
  (k_with "MineWalkL" => (k_extra "MineEnterL"; k_dflt (show wpAny _ _ (eval (Expr.Call _ _ _ _) _) _ _ _); k_steps; all_goals (try dsimp only); all_goals (try (k_unfold; dsimp only))))
  (k_with "MineWalkS" => (k_extra "MineEnterS"; k_steps; all_goals (try dsimp only); all_goals (try (k_unfold; dsimp only))))
  (k_with "MineSame" => first | exact SameL.nil | (refine' SameL.cons ?sa ?sb; (case sa => first | exact same_int _ _ _ | exact same_bytes _ _ _ | exact PySem.SeqAt.EqAt.same _); (case sb => k_extra "MineSame")))
  (k_with "MineNeT" => (k_here; (with_reducible show wpAny _ _ (compareOp CmpOp.NotEq (Value.ref _) (Value.ref _)) _ _ _); k_dflt (refine' ne_tups ?N ?ml ?mb ?cl ?dl ?cb ?db ?hu ?hs ?_; (case N => k_asm); (case ml => k_mem); (case mb => k_mem); (case cl => rfl); (case dl => rfl); (case cb => rfl); (case db => rfl); (case hu => ke_room); (case hs => k_extra "MineSame"))))
  (k_with "MineEqT" => (k_here; (with_reducible show wpAny _ _ (compareOp CmpOp.Eq (Value.ref _) (Value.ref _)) _ _ _); k_dflt (refine' eq_tups ?N ?ml ?mb ?cl ?dl ?cb ?db ?hu ?hs ?_; (case N => k_asm); (case ml => k_mem); (case mb => k_mem); (case cl => rfl); (case dl => rfl); (case cb => rfl); (case db => rfl); (case hu => ke_room); (case hs => k_extra "MineSame"))))
  (k_with "MineNew" => ((try dsimp only [AllNe] at D1'); (try dsimp only [AllNe] at D2'); (try dsimp only [AllNe] at D3')))
  (k_with "MineNe1" => (refine neN ?_; (try dsimp only); with_reducible first | assumption | (refine Ne.symm ?_; assumption) | exact Nat.ne_of_lt (by assumption) | exact Nat.ne_of_gt (by assumption) | exact Nat.ne_of_lt (by k_extra "MineLtS") | exact Nat.ne_of_gt (by k_extra "MineLtS") | k_extra "MineNe2"))
  (k_with "MineLtS" => first | assumption | exact Nat.lt_succ_self _ | (refine Nat.lt_succ_of_lt ?_; k_extra "MineLtS"))
  (k_with "MineNe2" => (rename _ ∧ _ => hc9; first | k_extra "MinePrj" | (clear hc9; k_extra "MineNe2")))
  (k_with "MinePrj" => first | exact hc9.1 | exact Ne.symm hc9.1 | exact Nat.ne_of_lt hc9.1 | exact Nat.ne_of_gt hc9.1 | exact hc9.2.1 | exact Ne.symm hc9.2.1 | exact Nat.ne_of_lt hc9.2.1 | exact Nat.ne_of_gt hc9.2.1 | exact hc9.2.2.1 | exact Ne.symm hc9.2.2.1 | exact Nat.ne_of_lt hc9.2.2.1 | exact Nat.ne_of_gt hc9.2.2.1 | exact hc9.2.2.2.1 | exact Ne.symm hc9.2.2.2.1 | exact Nat.ne_of_lt hc9.2.2.2.1 | exact Nat.ne_of_gt hc9.2.2.2.1 | exact hc9.2.2.2.2.1 | exact Ne.symm hc9.2.2.2.2.1 | exact Nat.ne_of_lt hc9.2.2.2.2.1 | exact Nat.ne_of_gt hc9.2.2.2.2.1 | exact hc9.2.2.2.2.2.1 | exact Ne.symm hc9.2.2.2.2.2.1 | exact Nat.ne_of_lt hc9.2.2.2.2.2.1 | exact Nat.ne_of_gt hc9.2.2.2.2.2.1 | exact hc9.2.2.2.2.2.2.1 | exact Ne.symm hc9.2.2.2.2.2.2.1 | exact Nat.ne_of_lt hc9.2.2.2.2.2.2.1 | exact Nat.ne_of_gt hc9.2.2.2.2.2.2.1 | exact hc9.2.2.2.2.2.2.2.1 | exact Ne.symm hc9.2.2.2.2.2.2.2.1 | exact Nat.ne_of_lt hc9.2.2.2.2.2.2.2.1 | exact Nat.ne_of_gt hc9.2.2.2.2.2.2.2.1 | exact hc9.2.2.2.2.2.2.2.2.1 | exact Ne.symm hc9.2.2.2.2.2.2.2.2.1 | exact Nat.ne_of_lt hc9.2.2.2.2.2.2.2.2.1 | exact Nat.ne_of_gt hc9.2.2.2.2.2.2.2.2.1 | exact hc9.2.2.2.2.2.2.2.2.2.1 | exact Ne.symm hc9.2.2.2.2.2.2.2.2.2.1 | exact Nat.ne_of_lt hc9.2.2.2.2.2.2.2.2.2.1 | exact Nat.ne_of_gt hc9.2.2.2.2.2.2.2.2.2.1 | exact hc9.2.2.2.2.2.2.2.2.2.2.1 | exact Ne.symm hc9.2.2.2.2.2.2.2.2.2.2.1 | exact Nat.ne_of_lt hc9.2.2.2.2.2.2.2.2.2.2.1 | exact Nat.ne_of_gt hc9.2.2.2.2.2.2.2.2.2.2.1 | exact hc9.2.2.2.2.2.2.2.2.2.2.2.1 | exact Ne.symm hc9.2.2.2.2.2.2.2.2.2.2.2.1 | exact Nat.ne_of_lt hc9.2.2.2.2.2.2.2.2.2.2.2.1 | exact Nat.ne_of_gt hc9.2.2.2.2.2.2.2.2.2.2.2.1 | exact hc9.2.2.2.2.2.2.2.2.2.2.2.2.1 | exact Ne.symm hc9.2.2.2.2.2.2.2.2.2.2.2.2.1 | exact Nat.ne_of_lt hc9.2.2.2.2.2.2.2.2.2.2.2.2.1 | exact Nat.ne_of_gt hc9.2.2.2.2.2.2.2.2.2.2.2.2.1 | exact hc9.2.2.2.2.2.2.2.2.2.2.2.2.2.1 | exact Ne.symm hc9.2.2.2.2.2.2.2.2.2.2.2.2.2.1 | exact Nat.ne_of_lt hc9.2.2.2.2.2.2.2.2.2.2.2.2.2.1 | exact Nat.ne_of_gt hc9.2.2.2.2.2.2.2.2.2.2.2.2.2.1 | exact hc9.2.2.2.2.2.2.2.2.2.2.2.2.2.2.1 | exact Ne.symm hc9.2.2.2.2.2.2.2.2.2.2.2.2.2.2.1 | exact Nat.ne_of_lt hc9.2.2.2.2.2.2.2.2.2.2.2.2.2.2.1 | exact Nat.ne_of_gt hc9.2.2.2.2.2.2.2.2.2.2.2.2.2.2.1 | exact hc9.2.2.2.2.2.2.2.2.2.2.2.2.2.2.2.1 | exact Ne.symm hc9.2.2.2.2.2.2.2.2.2.2.2.2.2.2.2.1 | exact Nat.ne_of_lt hc9.2.2.2.2.2.2.2.2.2.2.2.2.2.2.2.1 | exact Nat.ne_of_gt hc9.2.2.2.2.2.2.2.2.2.2.2.2.2.2.2.1)
  trivial
theorem wordsK_LB : True := by
  (k_with "call ref" => (k_here; (with_reducible show wpAny _ _ (call (Value.ref 359) _) _ _ _); k_dflt (refine' Bad.use (unpack_bad1 _ _ _ _ ?p0 ?p1) ?kA ?kh ?kd ?ku ?kB ?kF ?kX ?kN ?kT ?kk ?ks ?_; k_extra "MineSide"; (case ks => k_extra "MineMem"); (case p0 => assumption); (case p1 => first | omega | k_extra "MineLen"); intro e' t' x' h' tk' G' FG' R' U')))
  (k_with "call ref" => (k_here; (with_reducible show wpAny _ _ (call (Value.ref 359) _) _ _ _); k_dflt (refine' Bad.use (unpack_bad2 _ _ _ _ ?p0 ?p1 ?p2) ?kA ?kh ?kd ?ku ?kB ?kF ?kX ?kN ?kT ?kk ?ks ?_; k_extra "MineSide"; (case ks => k_extra "MineMem"); (case p0 => assumption); (case p1 => first | omega | k_extra "MineLen"); (case p2 => assumption); intro e' t' x' h' tk' G' FG' R' U')))
  trivial
theorem wordsLB : True := by
  (k_with "eval Name" => (k_here; k_dflt (refine' nameX_F ?N ?c ?m ?d ?_ ?a ?b; (case a => rfl); (case b => rfl); (case N => k_asm); (case c => rfl); (case m => k_mem); (case d => k_asm); k_whole)))
  (k_with "leaving ref" => k_extra "MinePass")
  (k_with "MineSub" => exact [(f, lamO qualH (lamAt 56 10) [("short", cS)] pm c' ctv), (c', oc), (cS, ocs)])
  trivial
section
variable {loose : List Str} {mean : ExcName → Option Value} {mg mb : Str → Option Value}
theorem lamB_bad1 : ∀ (w : World) (f c' cS : Addr) (pm ctv : Value) (oc ocs : Obj) (b : Array UInt8) (tb : Tok) (ks : List Int), IsCd qualH oc → CellIs (.bytes b tb) ocs → KBw.bInts b = ks → ks.length ≤ 2 →
    Bad w loose mean mg mb 320 2560 (.ref f) [] [(f, lamO qualH (lamAt 56 10) [("short", cS)] pm c' ctv), (c', oc), (cS, ocs)] 44 := by
  rintro w f c' cS pm ctv oc ocs b tb ks ⟨vs, t, hv, hv1⟩ hcell hb hl
  unfold CellIs at hcell
  unfold Bad
  k_fill
  intro cn cs a ccd cl outer A₀ base h₀ L m s Q E B F X N T hk hret
  k_extra "MineWalkL"
  all_goals (subst hg'; exact hret _ _ _ _ _ R9 U9)
theorem lamB_bad2 : ∀ (w : World) (f c' cS : Addr) (pm ctv : Value) (oc ocs : Obj) (b : Array UInt8) (tb : Tok) (ks : List Int), IsCd qualH oc → CellIs (.bytes b tb) ocs → KBw.bInts b = ks → ks.length = 3 → ¬ Builtin.bitAnd (beVal (sliceAt ks 2 1)) 3 = 3 →
    Bad w loose mean mg mb 320 2560 (.ref f) [] [(f, lamO qualH (lamAt 56 10) [("short", cS)] pm c' ctv), (c', oc), (cS, ocs)] 44 := by
  rintro w f c' cS pm ctv oc ocs b tb ks ⟨vs, t, hv, hv1⟩ hcell hb hl hs
  unfold CellIs at hcell
  unfold Bad
  k_fill
  intro cn cs a ccd cl outer A₀ base h₀ L m s Q E B F X N T hk hret
  k_extra "MineWalkL"
  all_goals (subst hg'; exact hret _ _ _ _ _ R9 U9)
theorem lamB_bad : ∀ (w : World) (f c' cS : Addr) (pm ctv : Value) (oc ocs : Obj) (b : Array UInt8) (tb : Tok) (ks : List Int), IsCd qualH oc → CellIs (.bytes b tb) ocs → KBw.bInts b = ks → (ks.length ≤ 2 ∨ (ks.length = 3 ∧ ¬ Builtin.bitAnd (beVal (sliceAt ks 2 1)) 3 = 3)) →
    Bad w loose mean mg mb 320 2560 (.ref f) [] [(f, lamO qualH (lamAt 56 10) [("short", cS)] pm c' ctv), (c', oc), (cS, ocs)] 44 := by
  intro w f c' cS pm ctv oc ocs b tb ks h1 h2 h3 h4
  rcases h4 with h4 | ⟨h4, h5⟩
  · exact lamB_bad1 w f c' cS pm ctv oc ocs b tb ks h1 h2 h3 h4
  · exact lamB_bad2 w f c' cS pm ctv oc ocs b tb ks h1 h2 h3 h4 h5
end

-- part LC
theorem words0_LC : True := by
  k_with_none
  (k_with "MineEnter" => (refine wpAny_call ?_; k_dflt (refine' enterQ ?k1 ?k2 ?k3 ?k4 ?k5 ?kA ?kF ?kK ?k6 ?k7 ?k8 ?k9 ?kB ?_ ?c2 ?c3 ?c4 ?c5; (case kA => exact rfl); (case kF => exact rfl); (case kK => assumption); (case k1 => k_asm); (case k2 => k_asm); (case k3 => k_asm); (case k4 => k_asm); (case k5 => k_asm); (case k6 => k_is); (case k7 => k_is); (case k8 => ktr_room); (case k9 => first | exact BindsTo.of_eq rfl | exact binds_K (by k_in) rfl (by k_is) rfl rfl rfl); (case c5 => decide); (case kB => exact locs rfl); (case c2 => exact rfl); (case c3 => exact rfl); (case c4 => exact rfl)); intro g' L' h' tk' FG' F' N' B' X' T' hg' lL'; (try k_lt lL'); (try dsimp only); (try k_fold)))
  (k_with "MineEnterC" => (refine wpAny_call ?_; k_dflt (refine' enterQC ?k1 ?k2 ?k3 ?k4 ?k5 ?kA ?kF ?kK ?k6 ?k7 ?k8 ?k9 ?kB ?kD ?_ ?c2 ?c3 ?c4; (case kA => exact rfl); (case kF => exact rfl); (case kK => assumption); (case k1 => k_asm); (case k2 => k_asm); (case k3 => k_asm); (case k4 => k_asm); (case k5 => k_asm); (case k6 => k_is); (case k7 => k_is); (case k8 => ktr_room); (case k9 => first | exact BindsTo.of_eq rfl | exact binds_K (by k_in) rfl (by k_is) rfl rfl rfl); (case kB => exact rfl); (case kD => decide +kernel); (case c2 => exact rfl); (case c3 => exact rfl); (case c4 => exact rfl)); intro g' L' h' tk' cells' FG' F' N' Y' B' X' T' hg' lL'; (try k_lt lL'); k_cells Y'; (try simp only [List.cons_append, List.nil_append] at N'); (try dsimp only); (try k_fold)))
  (k_with "MineWalkC" => (k_extra "MineEnterC"; k_steps; all_goals (try dsimp only); all_goals (try (k_unfold; dsimp only))))
  (k_with "MineWalk" => (k_extra "MineEnter"; k_steps; all_goals (try dsimp only); all_goals (try (k_unfold; dsimp only))))
  (k_with "MineFresh" => first | exact List.forall_mem_nil _ | (refine' List.forall_mem_cons.mpr ⟨?fa, ?fb⟩; (case fa => (repeat (first | exact List.not_mem_nil | (refine' List.not_mem_cons_of_ne_of_not_mem ?fn ?_; (case fn => k_ne)))))); (case fb => k_extra "MineFresh"))
  (k_with "MineMem" => first | exact List.forall_mem_nil _ | (refine' List.forall_mem_cons.mpr ⟨?fa, ?fb⟩; (case fa => k_mem); (case fb => k_extra "MineMem")))
  (k_with "MineSide" => ((case kA => exact rfl); (case kh => exact rfl); (case kd => exact Nat.le_of_ble_eq_true rfl); (case ku => exact Nat.le_of_ble_eq_true rfl); (case kB => k_asm); (case kF => k_asm); (case kX => k_asm); (case kN => k_asm); (case kT => k_asm); (case kk => exact rfl)))
  (k_with "MineLed" => ((try simp only [List.nil_append, List.cons_append] at N'); (try (replace D' := allNe2_of D'; simp only [AllNe2, AllNe, and_true] at D'))))
  (k_with "MineLeaveW" => ((case F => k_asm); (case N => k_asm); (case h1 => k_mem); (case h2 => k_extra "MineMem"); (case h3 => k_extra "MineMem"); intro F9 N9 K9 Z9))
  (k_with "MineLeaveR" => ((case F => k_asm); (case N => k_asm); (case h2 => k_extra "MineMem"); (case h3 => k_extra "MineMem"); intro F9 N9 K9 Z9))
  (k_with "MineGetLen" => (exfalso; omega))
  (k_with "MinePut" => (first | exact Int.lt_of_lt_of_le (b := 256) (by omega) (by decide) | exact Int.lt_of_lt_of_le (b := 65536) (by omega) (by decide) | exact Int.lt_of_lt_of_le (b := 16777216) (by omega) (by decide) | exact Int.lt_of_lt_of_le (b := 281474976710656) (by omega) (by decide)))
  (k_with "MineBytes" => first | assumption | exact bI1 ⟨by omega, by omega⟩ | exact bI2 ⟨by omega, by omega⟩ ⟨by omega, by omega⟩ | exact zeros_ints _ | exact KBw.ints_list _)
  (k_with "MineAdd" => (k_here; (with_reducible show wpAny _ _ (binaryOp Operator.Add (Value.bytes _ _) (Value.bytes _ _)) _ _ _); (refine KBa.add_K (by k_extra "MineBytes") (by k_extra "MineBytes") (by first | (simp only [List.length_cons, List.length_nil, List.length_append, List.length_map, List.length_replicate, rangeInts_length]; omega) | omega | (simp only [List.length_cons, List.length_nil, List.length_append, List.length_map, List.length_replicate, sum_len]; omega)) ?_); intro t' k' hb'))
  (k_with "MinePutBad" => (intro h9; first | (have h8 := Int.lt_of_lt_of_le h9 (show (1 * 2 ^ ((8:Int) * 1).toNat : Int) ≤ 256 by decide); omega) | (have h8 := Int.lt_of_lt_of_le h9 (show (1 * 2 ^ ((8:Int) * 3).toNat : Int) ≤ 16777216 by decide); omega)))
  (k_with "MinePass" => ((rename RaisedS _ _ _ _ _ _ _ _ _ => rsX); k_dflt (refine' leave_onX (news := ?sub) ?K ?F ?hf rsX ?U ?hs ?_; (case sub => first | k_extra "MineSub" | exact []); (case K => k_asm); (case F => k_asm); (case hf => exact rfl); (case U => k_asm); (case hs => k_extra "MineMem"); intro h9 R9 U9)))
  (k_with "MineEnterS" => (refine wpAny_call ?_; k_dflt (refine' enterQS ?k1 ?k2 ?k3 ?k4 ?k5 ?k0 ?kA ?kF ?kK ?k6 ?k7 ?k8 ?k9 ?kB ?_ ?c2 ?c3 ?c4 ?c5; (case kA => exact rfl); (case kF => exact rfl); (case kK => assumption); (case k1 => k_asm); (case k2 => k_asm); (case k3 => k_asm); (case k4 => k_asm); (case k5 => k_asm); (case k0 => k_asm); (case k6 => k_is); (case k7 => k_is); (case k8 => ktr_room); (case k9 => first | exact BindsTo.of_eq rfl | exact binds_K (by k_in) rfl (by k_is) rfl rfl rfl); (case c5 => decide); (case kB => exact locs rfl); (case c2 => exact rfl); (case c3 => exact rfl); (case c4 => exact rfl)); intro g' L' h' tk' FG' F' N' B' X' T' D' hg' lL'; (try k_lt lL'); (try dsimp only); (try k_fold)))
  (k_with "MineEnterSC" => (refine wpAny_call ?_; k_dflt (refine' enterQSC ?k1 ?k2 ?k3 ?k4 ?k5 ?k0 ?kA ?kF ?kK ?k6 ?k7 ?k8 ?k9 ?kB ?kD ?_ ?c2 ?c3 ?c4; (case kA => exact rfl); (case kF => exact rfl); (case kK => assumption); (case k1 => k_asm); (case k2 => k_asm); (case k3 => k_asm); (case k4 => k_asm); (case k5 => k_asm); (case k0 => k_asm); (case k6 => k_is); (case k7 => k_is); (case k8 => ktr_room); (case k9 => first | exact BindsTo.of_eq rfl | exact binds_K (by k_in) rfl (by k_is) rfl rfl rfl); (case kB => exact rfl); (case kD => decide +kernel); (case c2 => exact rfl); (case c3 => exact rfl); (case c4 => exact rfl)); intro g' L' h' tk' cells' FG' F' N' Y' B' X' T' D' hg' lL'; (try k_lt lL'); k_cells Y'; (try simp only [List.cons_append, List.nil_append] at N'); (try dsimp only); (try k_fold)))
  (k_with "MineEnterL" => (refine wpAny_call ?_; k_dflt (refine' enterQL ?k1 ?k2 ?k3 ?k4 ?k5 ?kA ?kF ?kK ?ho ?hc ?hd ?hv ?k8 ?k9 ?kB ?_ ?c2 ?c3 ?c4 ?c5; (case kA => exact rfl); (case kF => exact rfl); (case kK => assumption); (case k1 => k_asm); (case k2 => k_asm); (case k3 => k_asm); (case k4 => k_asm); (case k5 => k_asm); (case ho => k_mem); (case hc => k_mem); (case hd => assumption); (case hv => assumption); (case k8 => ktr_room); (case k9 => exact rfl); (case c5 => decide); (case kB => exact locs rfl); (case c2 => exact rfl); (case c3 => exact rfl); (case c4 => exact rfl)); intro g' L' h' tk' FG' F' N' B' X' T' hg' lL'; (try k_lt lL'); (try dsimp only); (try k_fold)))
  (k_with "MineWalkL" => (k_extra "MineEnterL"; k_dflt (show wpAny _ _ (eval (Expr.Call _ _ _ _) _) _ _ _); k_steps; all_goals (try dsimp only); all_goals (try (k_unfold; dsimp only))))
  (k_with "MineWalkS" => (k_extra "MineEnterS"; k_steps; all_goals (try dsimp only); all_goals (try (k_unfold; dsimp only))))
  (k_with "MineSame" => first | exact SameL.nil | (refine' SameL.cons ?sa ?sb; (case sa => first | exact same_int _ _ _ | exact same_bytes _ _ _ | exact PySem.SeqAt.EqAt.same _); (case sb => k_extra "MineSame")))
  (k_with "MineNeT" => (k_here; (with_reducible show wpAny _ _ (compareOp CmpOp.NotEq (Value.ref _) (Value.ref _)) _ _ _); k_dflt (refine' ne_tups ?N ?ml ?mb ?cl ?dl ?cb ?db ?hu ?hs ?_; (case N => k_asm); (case ml => k_mem); (case mb => k_mem); (case cl => rfl); (case dl => rfl); (case cb => rfl); (case db => rfl); (case hu => ke_room); (case hs => k_extra "MineSame"))))
  (k_with "MineEqT" => (k_here; (with_reducible show wpAny _ _ (compareOp CmpOp.Eq (Value.ref _) (Value.ref _)) _ _ _); k_dflt (refine' eq_tups ?N ?ml ?mb ?cl ?dl ?cb ?db ?hu ?hs ?_; (case N => k_asm); (case ml => k_mem); (case mb => k_mem); (case cl => rfl); (case dl => rfl); (case cb => rfl); (case db => rfl); (case hu => ke_room); (case hs => k_extra "MineSame"))))
  (k_with "MineNew" => ((try dsimp only [AllNe] at D1'); (try dsimp only [AllNe] at D2'); (try dsimp only [AllNe] at D3')))
  (k_with "MineNe1" => (refine neN ?_; (try dsimp only); with_reducible first | assumption | (refine Ne.symm ?_; assumption) | exact Nat.ne_of_lt (by assumption) | exact Nat.ne_of_gt (by assumption) | exact Nat.ne_of_lt (by k_extra "MineLtS") | exact Nat.ne_of_gt (by k_extra "MineLtS") | k_extra "MineNe2"))
  (k_with "MineLtS" => first | assumption | exact Nat.lt_succ_self _ | (refine Nat.lt_succ_of_lt ?_; k_extra "MineLtS"))
  (k_with "MineNe2" => (rename _ ∧ _ => hc9; first | k_extra "MinePrj" | (clear hc9; k_extra "MineNe2")))
  (k_with "MinePrj" => first | exact hc9.1 | exact Ne.symm hc9.1 | exact Nat.ne_of_lt hc9.1 | exact Nat.ne_of_gt hc9.1 | exact hc9.2.1 | exact Ne.symm hc9.2.1 | exact Nat.ne_of_lt hc9.2.1 | exact Nat.ne_of_gt hc9.2.1 | exact hc9.2.2.1 | exact Ne.symm hc9.2.2.1 | exact Nat.ne_of_lt hc9.2.2.1 | exact Nat.ne_of_gt hc9.2.2.1 | exact hc9.2.2.2.1 | exact Ne.symm hc9.2.2.2.1 | exact Nat.ne_of_lt hc9.2.2.2.1 | exact Nat.ne_of_gt hc9.2.2.2.1 | exact hc9.2.2.2.2.1 | exact Ne.symm hc9.2.2.2.2.1 | exact Nat.ne_of_lt hc9.2.2.2.2.1 | exact Nat.ne_of_gt hc9.2.2.2.2.1 | exact hc9.2.2.2.2.2.1 | exact Ne.symm hc9.2.2.2.2.2.1 | exact Nat.ne_of_lt hc9.2.2.2.2.2.1 | exact Nat.ne_of_gt hc9.2.2.2.2.2.1 | exact hc9.2.2.2.2.2.2.1 | exact Ne.symm hc9.2.2.2.2.2.2.1 | exact Nat.ne_of_lt hc9.2.2.2.2.2.2.1 | exact Nat.ne_of_gt hc9.2.2.2.2.2.2.1 | exact hc9.2.2.2.2.2.2.2.1 | exact Ne.symm hc9.2.2.2.2.2.2.2.1 | exact Nat.ne_of_lt hc9.2.2.2.2.2.2.2.1 | exact Nat.ne_of_gt hc9.2.2.2.2.2.2.2.1 | exact hc9.2.2.2.2.2.2.2.2.1 | exact Ne.symm hc9.2.2.2.2.2.2.2.2.1 | exact Nat.ne_of_lt hc9.2.2.2.2.2.2.2.2.1 | exact Nat.ne_of_gt hc9.2.2.2.2.2.2.2.2.1 | exact hc9.2.2.2.2.2.2.2.2.2.1 | exact Ne.symm hc9.2.2.2.2.2.2.2.2.2.1 | exact Nat.ne_of_lt hc9.2.2.2.2.2.2.2.2.2.1 | exact Nat.ne_of_gt hc9.2.2.2.2.2.2.2.2.2.1 | exact hc9.2.2.2.2.2.2.2.2.2.2.1 | exact Ne.symm hc9.2.2.2.2.2.2.2.2.2.2.1 | exact Nat.ne_of_lt hc9.2.2.2.2.2.2.2.2.2.2.1 | exact Nat.ne_of_gt hc9.2.2.2.2.2.2.2.2.2.2.1 | exact hc9.2.2.2.2.2.2.2.2.2.2.2.1 | exact Ne.symm hc9.2.2.2.2.2.2.2.2.2.2.2.1 | exact Nat.ne_of_lt hc9.2.2.2.2.2.2.2.2.2.2.2.1 | exact Nat.ne_of_gt hc9.2.2.2.2.2.2.2.2.2.2.2.1 | exact hc9.2.2.2.2.2.2.2.2.2.2.2.2.1 | exact Ne.symm hc9.2.2.2.2.2.2.2.2.2.2.2.2.1 | exact Nat.ne_of_lt hc9.2.2.2.2.2.2.2.2.2.2.2.2.1 | exact Nat.ne_of_gt hc9.2.2.2.2.2.2.2.2.2.2.2.2.1 | exact hc9.2.2.2.2.2.2.2.2.2.2.2.2.2.1 | exact Ne.symm hc9.2.2.2.2.2.2.2.2.2.2.2.2.2.1 | exact Nat.ne_of_lt hc9.2.2.2.2.2.2.2.2.2.2.2.2.2.1 | exact Nat.ne_of_gt hc9.2.2.2.2.2.2.2.2.2.2.2.2.2.1 | exact hc9.2.2.2.2.2.2.2.2.2.2.2.2.2.2.1 | exact Ne.symm hc9.2.2.2.2.2.2.2.2.2.2.2.2.2.2.1 | exact Nat.ne_of_lt hc9.2.2.2.2.2.2.2.2.2.2.2.2.2.2.1 | exact Nat.ne_of_gt hc9.2.2.2.2.2.2.2.2.2.2.2.2.2.2.1 | exact hc9.2.2.2.2.2.2.2.2.2.2.2.2.2.2.2.1 | exact Ne.symm hc9.2.2.2.2.2.2.2.2.2.2.2.2.2.2.2.1 | exact Nat.ne_of_lt hc9.2.2.2.2.2.2.2.2.2.2.2.2.2.2.2.1 | exact Nat.ne_of_gt hc9.2.2.2.2.2.2.2.2.2.2.2.2.2.2.2.1)
  trivial
theorem wordsK_LC : True := by
  (k_with "call ref" => (k_here; (with_reducible show wpAny _ _ (call (Value.ref 394) _) _ _ _); (try k_fold); k_dflt (refine' Ok.useTake (take_ok _ _ _ _ _ ?p0 ?p1 ?p2) ?kA ?kh ?kd ?ku ?kB ?kF ?kX ?kN ?kT ?kk ?kU ?ks ?_; k_extra "MineSide"; (case kU => (intro; k_upd)); (case ks => k_extra "MineMem"); (case p0 => assumption); (case p1 => first | assumption | decide | omega); (case p2 => first | assumption | decide | omega); intro o' d' td' h' tk' hP' hd0' hd1' F' N')))
  (k_with "call ref" => (k_here; (with_reducible show wpAny _ _ (call (Value.ref 359) _) _ _ _); (try k_fold); k_dflt (refine' Ok.useUnp (unpack_llc_ok _ _ _ _ _ _ _ _ ?p0 ?p1 ?p2) ?kA ?kh ?kd ?ku ?kB ?kF ?kX ?kN ?kT ?kk ?ks ?_; k_extra "MineSide"; (case ks => k_extra "MineMem"); (case p0 => first | assumption | k_extra "MineCut"); (case p1 => first | omega | k_extra "MineLen"); (case p2 => first | assumption | k_extra "MineLaid"); intro x' dx' k1' k2' k3' k4' t0' t1' tc' pb' tp' h' tk' hb' ne' D1' D2' F' N'; replace ne' := neN ne'; k_extra "MineNew"; (try (have hpq' := bInts_inj (hb'.trans hbp'.symm); subst hpq')))))
  (k_with "call ref" => (k_here; (with_reducible show wpAny _ _ (call (Value.ref 373) _) _ _ _); k_dflt (refine' Bad.use (unpack_snap_bad _ _ _ _ _ _ _ _ _ _ _ _ _ ?p0 ?p1 ?p2) ?kA ?kh ?kd ?ku ?kB ?kF ?kX ?kN ?kT ?kk ?ks ?_; k_extra "MineSide"; (case ks => k_extra "MineMem"); (case p0 => assumption); (case p1 => assumption); (case p2 => first | omega | k_extra "MineLen"); intro e' t' x' h' tk' G' FG' R' U')))
  trivial
theorem cut_laid {r : List Int} {d : Int} (h0 : 0 ≤ d) : LaidIs (((170 : Int) :: 170 :: 3 :: r).take (3 + d).toNat) 170 170 3 (r.take d.toNat) := by
  refine .one (by decide) (by decide) ?_
  obtain ⟨i, rfl⟩ := Int.eq_ofNat_of_zero_le h0
  have e : (3 + (i : Int)).toNat = i + 3 := by omega
  rw [e]; rfl
theorem take_clip {ks : List Int} {z : Int} (h0 : 0 ≤ z) : ks.take (clipAt ks.length z) = ks.take z.toNat := by
  obtain ⟨i, rfl⟩ := Int.eq_ofNat_of_zero_le h0
  rw [clipAt_nat]
  show ks.take (min i ks.length) = ks.take i
  rw [List.take_eq_take_iff]; omega
theorem cut_laid' {r : List Int} {d : Int} (h0 : 0 ≤ d) : LaidIs (((170 : Int) :: 170 :: 3 :: r).take (clipAt ((170 : Int) :: 170 :: 3 :: r).length (3 + d))) 170 170 3 (r.take d.toNat) := by
  rw [take_clip (by omega)]; exact cut_laid h0
theorem wordsLC : True := by
  (k_with "eval Name" => (k_here; k_dflt (refine' nameX_F ?N ?c ?m ?d ?_ ?a ?b; (case a => rfl); (case b => rfl); (case N => k_asm); (case c => rfl); (case m => k_mem); (case d => k_asm); k_whole)))
  (k_with "leaving ref" => k_extra "MinePass")
  (k_with "MineCut" => exact picked_upto (z := 3 + d') hb (by omega))
  (k_with "MineLaid" => first | exact cut_laid (d := d') hd0' | exact cut_laid' (d := d') hd0')
  (k_with "MineLen" => (first | (simp only [List.length_take, List.length_cons]; omega) | (rw [List.length_take]; omega)))
  (k_with "MineSub" => exact [(f, lamO qualK (lamAt 57 7) [("source", cSr), ("laid", cL)] pm c' ctv), (c', oc), (cL, ocL), (cSr, ocS), (src, o')])
  trivial
section
variable {loose : List Str} {mean : ExcName → Option Value} {mg mb : Str → Option Value}
theorem lamC_bad : ∀ (w : World) (f c' cL cSr src : Addr) (pm ctv : Value) (oc ocL ocS o : Obj) (b : Array UInt8) (tb : Tok) (r : List Int), IsCd qualK oc → CellIs (.bytes b tb) ocL → CellIs (.ref src) ocS → IsPool o → KBw.bInts b = (170 : Int) :: 170 :: 3 :: r → r.length ≤ 50 →
    @Ne Nat f src → @Ne Nat c' src → @Ne Nat cL src → @Ne Nat cSr src →
    BadP w loose mean mg mb 320 2560 (.ref f) [] [(f, lamO qualK (lamAt 57 7) [("source", cSr), ("laid", cL)] pm c' ctv), (c', oc), (cL, ocL), (cSr, ocS), (src, o)] 44
      (fun l => ∃ o', IsPool o' ∧ l = [(f, lamO qualK (lamAt 57 7) [("source", cSr), ("laid", cL)] pm c' ctv), (c', oc), (cL, ocL), (cSr, ocS), (src, o')]) := by
  rintro w f c' cL cSr src pm ctv oc ocL ocS o b tb r ⟨vs, t, hv, hv1⟩ hcell1 hcell2 hP hb hl ne1 ne2 ne3 ne4
  unfold CellIs at hcell1 hcell2
  unfold BadP
  k_fill
  intro cn cs a ccd cl outer A₀ base h₀ L m s Q E B F X N T hk hret
  k_extra "MineWalkL"
  all_goals (subst hg'; exact hret _ _ _ _ _ _ ⟨_, by assumption, rfl⟩ R9 U9)
end

-- part LD
theorem words0_LD : True := by
  k_with_none
  (k_with "MineEnter" => (refine wpAny_call ?_; k_dflt (refine' enterQ ?k1 ?k2 ?k3 ?k4 ?k5 ?kA ?kF ?kK ?k6 ?k7 ?k8 ?k9 ?kB ?_ ?c2 ?c3 ?c4 ?c5; (case kA => exact rfl); (case kF => exact rfl); (case kK => assumption); (case k1 => k_asm); (case k2 => k_asm); (case k3 => k_asm); (case k4 => k_asm); (case k5 => k_asm); (case k6 => k_is); (case k7 => k_is); (case k8 => ktr_room); (case k9 => first | exact BindsTo.of_eq rfl | exact binds_K (by k_in) rfl (by k_is) rfl rfl rfl); (case c5 => decide); (case kB => exact locs rfl); (case c2 => exact rfl); (case c3 => exact rfl); (case c4 => exact rfl)); intro g' L' h' tk' FG' F' N' B' X' T' hg' lL'; (try k_lt lL'); (try dsimp only); (try k_fold)))
  (k_with "MineEnterC" => (refine wpAny_call ?_; k_dflt (refine' enterQC ?k1 ?k2 ?k3 ?k4 ?k5 ?kA ?kF ?kK ?k6 ?k7 ?k8 ?k9 ?kB ?kD ?_ ?c2 ?c3 ?c4; (case kA => exact rfl); (case kF => exact rfl); (case kK => assumption); (case k1 => k_asm); (case k2 => k_asm); (case k3 => k_asm); (case k4 => k_asm); (case k5 => k_asm); (case k6 => k_is); (case k7 => k_is); (case k8 => ktr_room); (case k9 => first | exact BindsTo.of_eq rfl | exact binds_K (by k_in) rfl (by k_is) rfl rfl rfl); (case kB => exact rfl); (case kD => decide +kernel); (case c2 => exact rfl); (case c3 => exact rfl); (case c4 => exact rfl)); intro g' L' h' tk' cells' FG' F' N' Y' B' X' T' hg' lL'; (try k_lt lL'); k_cells Y'; (try simp only [List.cons_append, List.nil_append] at N'); (try dsimp only); (try k_fold)))
  (k_with "MineWalkC" => (k_extra "MineEnterC"; k_steps; all_goals (try dsimp only); all_goals (try (k_unfold; dsimp only))))
  (k_with "MineWalk" => (k_extra "MineEnter"; k_steps; all_goals (try dsimp only); all_goals (try (k_unfold; dsimp only))))
  (k_with "MineFresh" => first | exact List.forall_mem_nil _ | (refine' List.forall_mem_cons.mpr ⟨?fa, ?fb⟩; (case fa => (repeat (first | exact List.not_mem_nil | (refine' List.not_mem_cons_of_ne_of_not_mem ?fn ?_; (case fn => k_ne)))))); (case fb => k_extra "MineFresh"))
  (k_with "MineMem" => first | exact List.forall_mem_nil _ | (refine' List.forall_mem_cons.mpr ⟨?fa, ?fb⟩; (case fa => k_mem); (case fb => k_extra "MineMem")))
  (k_with "MineSide" => ((case kA => exact rfl); (case kh => exact rfl); (case kd => exact Nat.le_of_ble_eq_true rfl); (case ku => exact Nat.le_of_ble_eq_true rfl); (case kB => k_asm); (case kF => k_asm); (case kX => k_asm); (case kN => k_asm); (case kT => k_asm); (case kk => exact rfl)))
  (k_with "MineLed" => ((try simp only [List.nil_append, List.cons_append] at N'); (try (replace D' := allNe2_of D'; simp only [AllNe2, AllNe, and_true] at D'))))
  (k_with "MineLeaveW" => ((case F => k_asm); (case N => k_asm); (case h1 => k_mem); (case h2 => k_extra "MineMem"); (case h3 => k_extra "MineMem"); intro F9 N9 K9 Z9))
  (k_with "MineLeaveR" => ((case F => k_asm); (case N => k_asm); (case h2 => k_extra "MineMem"); (case h3 => k_extra "MineMem"); intro F9 N9 K9 Z9))
  (k_with "MineGetLen" => (exfalso; omega))
  (k_with "MinePut" => (first | exact Int.lt_of_lt_of_le (b := 256) (by omega) (by decide) | exact Int.lt_of_lt_of_le (b := 65536) (by omega) (by decide) | exact Int.lt_of_lt_of_le (b := 16777216) (by omega) (by decide) | exact Int.lt_of_lt_of_le (b := 281474976710656) (by omega) (by decide)))
  (k_with "MineBytes" => first | assumption | exact bI1 ⟨by omega, by omega⟩ | exact bI2 ⟨by omega, by omega⟩ ⟨by omega, by omega⟩ | exact zeros_ints _ | exact KBw.ints_list _)
  (k_with "MineAdd" => (k_here; (with_reducible show wpAny _ _ (binaryOp Operator.Add (Value.bytes _ _) (Value.bytes _ _)) _ _ _); (refine KBa.add_K (by k_extra "MineBytes") (by k_extra "MineBytes") (by first | (simp only [List.length_cons, List.length_nil, List.length_append, List.length_map, List.length_replicate, rangeInts_length]; omega) | omega | (simp only [List.length_cons, List.length_nil, List.length_append, List.length_map, List.length_replicate, sum_len]; omega)) ?_); intro t' k' hb'))
  (k_with "MinePutBad" => (intro h9; first | (have h8 := Int.lt_of_lt_of_le h9 (show (1 * 2 ^ ((8:Int) * 1).toNat : Int) ≤ 256 by decide); omega) | (have h8 := Int.lt_of_lt_of_le h9 (show (1 * 2 ^ ((8:Int) * 3).toNat : Int) ≤ 16777216 by decide); omega)))
  (k_with "MinePass" => ((rename RaisedS _ _ _ _ _ _ _ _ _ => rsX); k_dflt (refine' leave_onX (news := ?sub) ?K ?F ?hf rsX ?U ?hs ?_; (case sub => first | k_extra "MineSub" | exact []); (case K => k_asm); (case F => k_asm); (case hf => exact rfl); (case U => k_asm); (case hs => k_extra "MineMem"); intro h9 R9 U9)))
  (k_with "MineEnterS" => (refine wpAny_call ?_; k_dflt (refine' enterQS ?k1 ?k2 ?k3 ?k4 ?k5 ?k0 ?kA ?kF ?kK ?k6 ?k7 ?k8 ?k9 ?kB ?_ ?c2 ?c3 ?c4 ?c5; (case kA => exact rfl); (case kF => exact rfl); (case kK => assumption); (case k1 => k_asm); (case k2 => k_asm); (case k3 => k_asm); (case k4 => k_asm); (case k5 => k_asm); (case k0 => k_asm); (case k6 => k_is); (case k7 => k_is); (case k8 => ktr_room); (case k9 => first | exact BindsTo.of_eq rfl | exact binds_K (by k_in) rfl (by k_is) rfl rfl rfl); (case c5 => decide); (case kB => exact locs rfl); (case c2 => exact rfl); (case c3 => exact rfl); (case c4 => exact rfl)); intro g' L' h' tk' FG' F' N' B' X' T' D' hg' lL'; (try k_lt lL'); (try dsimp only); (try k_fold)))
  (k_with "MineEnterSC" => (refine wpAny_call ?_; k_dflt (refine' enterQSC ?k1 ?k2 ?k3 ?k4 ?k5 ?k0 ?kA ?kF ?kK ?k6 ?k7 ?k8 ?k9 ?kB ?kD ?_ ?c2 ?c3 ?c4; (case kA => exact rfl); (case kF => exact rfl); (case kK => assumption); (case k1 => k_asm); (case k2 => k_asm); (case k3 => k_asm); (case k4 => k_asm); (case k5 => k_asm); (case k0 => k_asm); (case k6 => k_is); (case k7 => k_is); (case k8 => ktr_room); (case k9 => first | exact BindsTo.of_eq rfl | exact binds_K (by k_in) rfl (by k_is) rfl rfl rfl); (case kB => exact rfl); (case kD => decide +kernel); (case c2 => exact rfl); (case c3 => exact rfl); (case c4 => exact rfl)); intro g' L' h' tk' cells' FG' F' N' Y' B' X' T' D' hg' lL'; (try k_lt lL'); k_cells Y'; (try simp only [List.cons_append, List.nil_append] at N'); (try dsimp only); (try k_fold)))
  (k_with "MineEnterL" => (refine wpAny_call ?_; k_dflt (refine' enterQL ?k1 ?k2 ?k3 ?k4 ?k5 ?kA ?kF ?kK ?ho ?hc ?hd ?hv ?k8 ?k9 ?kB ?_ ?c2 ?c3 ?c4 ?c5; (case kA => exact rfl); (case kF => exact rfl); (case kK => assumption); (case k1 => k_asm); (case k2 => k_asm); (case k3 => k_asm); (case k4 => k_asm); (case k5 => k_asm); (case ho => k_mem); (case hc => k_mem); (case hd => assumption); (case hv => assumption); (case k8 => ktr_room); (case k9 => exact rfl); (case c5 => decide); (case kB => exact locs rfl); (case c2 => exact rfl); (case c3 => exact rfl); (case c4 => exact rfl)); intro g' L' h' tk' FG' F' N' B' X' T' hg' lL'; (try k_lt lL'); (try dsimp only); (try k_fold)))
  (k_with "MineWalkL" => (k_extra "MineEnterL"; k_dflt (show wpAny _ _ (eval (Expr.Call _ _ _ _) _) _ _ _); k_steps; all_goals (try dsimp only); all_goals (try (k_unfold; dsimp only))))
  (k_with "MineWalkS" => (k_extra "MineEnterS"; k_steps; all_goals (try dsimp only); all_goals (try (k_unfold; dsimp only))))
  (k_with "MineSame" => first | exact SameL.nil | (refine' SameL.cons ?sa ?sb; (case sa => first | exact same_int _ _ _ | exact same_bytes _ _ _ | exact PySem.SeqAt.EqAt.same _); (case sb => k_extra "MineSame")))
  (k_with "MineNeT" => (k_here; (with_reducible show wpAny _ _ (compareOp CmpOp.NotEq (Value.ref _) (Value.ref _)) _ _ _); k_dflt (refine' ne_tups ?N ?ml ?mb ?cl ?dl ?cb ?db ?hu ?hs ?_; (case N => k_asm); (case ml => k_mem); (case mb => k_mem); (case cl => rfl); (case dl => rfl); (case cb => rfl); (case db => rfl); (case hu => ke_room); (case hs => k_extra "MineSame"))))
  (k_with "MineEqT" => (k_here; (with_reducible show wpAny _ _ (compareOp CmpOp.Eq (Value.ref _) (Value.ref _)) _ _ _); k_dflt (refine' eq_tups ?N ?ml ?mb ?cl ?dl ?cb ?db ?hu ?hs ?_; (case N => k_asm); (case ml => k_mem); (case mb => k_mem); (case cl => rfl); (case dl => rfl); (case cb => rfl); (case db => rfl); (case hu => ke_room); (case hs => k_extra "MineSame"))))
  (k_with "MineNew" => ((try dsimp only [AllNe] at D1'); (try dsimp only [AllNe] at D2'); (try dsimp only [AllNe] at D3')))
  (k_with "MineNe1" => (refine neN ?_; (try dsimp only); with_reducible first | assumption | (refine Ne.symm ?_; assumption) | exact Nat.ne_of_lt (by assumption) | exact Nat.ne_of_gt (by assumption) | exact Nat.ne_of_lt (by k_extra "MineLtS") | exact Nat.ne_of_gt (by k_extra "MineLtS") | k_extra "MineNe2"))
  (k_with "MineLtS" => first | assumption | exact Nat.lt_succ_self _ | (refine Nat.lt_succ_of_lt ?_; k_extra "MineLtS"))
  (k_with "MineNe2" => (rename _ ∧ _ => hc9; first | k_extra "MinePrj" | (clear hc9; k_extra "MineNe2")))
  (k_with "MinePrj" => first | exact hc9.1 | exact Ne.symm hc9.1 | exact Nat.ne_of_lt hc9.1 | exact Nat.ne_of_gt hc9.1 | exact hc9.2.1 | exact Ne.symm hc9.2.1 | exact Nat.ne_of_lt hc9.2.1 | exact Nat.ne_of_gt hc9.2.1 | exact hc9.2.2.1 | exact Ne.symm hc9.2.2.1 | exact Nat.ne_of_lt hc9.2.2.1 | exact Nat.ne_of_gt hc9.2.2.1 | exact hc9.2.2.2.1 | exact Ne.symm hc9.2.2.2.1 | exact Nat.ne_of_lt hc9.2.2.2.1 | exact Nat.ne_of_gt hc9.2.2.2.1 | exact hc9.2.2.2.2.1 | exact Ne.symm hc9.2.2.2.2.1 | exact Nat.ne_of_lt hc9.2.2.2.2.1 | exact Nat.ne_of_gt hc9.2.2.2.2.1 | exact hc9.2.2.2.2.2.1 | exact Ne.symm hc9.2.2.2.2.2.1 | exact Nat.ne_of_lt hc9.2.2.2.2.2.1 | exact Nat.ne_of_gt hc9.2.2.2.2.2.1 | exact hc9.2.2.2.2.2.2.1 | exact Ne.symm hc9.2.2.2.2.2.2.1 | exact Nat.ne_of_lt hc9.2.2.2.2.2.2.1 | exact Nat.ne_of_gt hc9.2.2.2.2.2.2.1 | exact hc9.2.2.2.2.2.2.2.1 | exact Ne.symm hc9.2.2.2.2.2.2.2.1 | exact Nat.ne_of_lt hc9.2.2.2.2.2.2.2.1 | exact Nat.ne_of_gt hc9.2.2.2.2.2.2.2.1 | exact hc9.2.2.2.2.2.2.2.2.1 | exact Ne.symm hc9.2.2.2.2.2.2.2.2.1 | exact Nat.ne_of_lt hc9.2.2.2.2.2.2.2.2.1 | exact Nat.ne_of_gt hc9.2.2.2.2.2.2.2.2.1 | exact hc9.2.2.2.2.2.2.2.2.2.1 | exact Ne.symm hc9.2.2.2.2.2.2.2.2.2.1 | exact Nat.ne_of_lt hc9.2.2.2.2.2.2.2.2.2.1 | exact Nat.ne_of_gt hc9.2.2.2.2.2.2.2.2.2.1 | exact hc9.2.2.2.2.2.2.2.2.2.2.1 | exact Ne.symm hc9.2.2.2.2.2.2.2.2.2.2.1 | exact Nat.ne_of_lt hc9.2.2.2.2.2.2.2.2.2.2.1 | exact Nat.ne_of_gt hc9.2.2.2.2.2.2.2.2.2.2.1 | exact hc9.2.2.2.2.2.2.2.2.2.2.2.1 | exact Ne.symm hc9.2.2.2.2.2.2.2.2.2.2.2.1 | exact Nat.ne_of_lt hc9.2.2.2.2.2.2.2.2.2.2.2.1 | exact Nat.ne_of_gt hc9.2.2.2.2.2.2.2.2.2.2.2.1 | exact hc9.2.2.2.2.2.2.2.2.2.2.2.2.1 | exact Ne.symm hc9.2.2.2.2.2.2.2.2.2.2.2.2.1 | exact Nat.ne_of_lt hc9.2.2.2.2.2.2.2.2.2.2.2.2.1 | exact Nat.ne_of_gt hc9.2.2.2.2.2.2.2.2.2.2.2.2.1 | exact hc9.2.2.2.2.2.2.2.2.2.2.2.2.2.1 | exact Ne.symm hc9.2.2.2.2.2.2.2.2.2.2.2.2.2.1 | exact Nat.ne_of_lt hc9.2.2.2.2.2.2.2.2.2.2.2.2.2.1 | exact Nat.ne_of_gt hc9.2.2.2.2.2.2.2.2.2.2.2.2.2.1 | exact hc9.2.2.2.2.2.2.2.2.2.2.2.2.2.2.1 | exact Ne.symm hc9.2.2.2.2.2.2.2.2.2.2.2.2.2.2.1 | exact Nat.ne_of_lt hc9.2.2.2.2.2.2.2.2.2.2.2.2.2.2.1 | exact Nat.ne_of_gt hc9.2.2.2.2.2.2.2.2.2.2.2.2.2.2.1 | exact hc9.2.2.2.2.2.2.2.2.2.2.2.2.2.2.2.1 | exact Ne.symm hc9.2.2.2.2.2.2.2.2.2.2.2.2.2.2.2.1 | exact Nat.ne_of_lt hc9.2.2.2.2.2.2.2.2.2.2.2.2.2.2.2.1 | exact Nat.ne_of_gt hc9.2.2.2.2.2.2.2.2.2.2.2.2.2.2.2.1)
  trivial
theorem wordsK_LD : True := by
  (k_with "call ref" => (k_here; (with_reducible show wpAny _ _ (call (Value.ref 366) _) _ _ _); k_dflt (refine' Bad.use (pack_snap_bad _ _ _ _ _ _ _ ?p0) ?kA ?kh ?kd ?ku ?kB ?kF ?kX ?kN ?kT ?kk ?ks ?_; k_extra "MineSide"; (case ks => k_extra "MineMem"); (case p0 => first | omega | k_extra "MineP1"); intro e' t' x' h' tk' G' FG' R' U')))
  trivial
theorem wordsLD : True := by
  (k_with "eval Name" => (k_here; k_dflt (refine' nameX_F ?N ?c ?m ?d ?_ ?a ?b; (case a => rfl); (case b => rfl); (case N => k_asm); (case c => rfl); (case m => k_mem); (case d => k_asm); k_whole)))
  (k_with "leaving ref" => k_extra "MinePass")
  (k_with "MineP1" => (have e9 : (2 : Int) ^ Int.toNat 24 = 16777216 := (by decide); omega))
  (k_with "MineSub" => exact [(f, lamO qualK (lamAt 57 8) [("payload", cp), ("owner", co), ("kind", ck)] pm c' ctv), (c', oc), (ck, ock), (co, oco), (cp, ocp)])
  trivial
section
variable {loose : List Str} {mean : ExcName → Option Value} {mg mb : Str → Option Value}
theorem lamD_bad : ∀ (w : World) (f c' ck co cp : Addr) (pm ctv : Value) (oc ock oco ocp : Obj) (o kd : Int) (to tk : Tok) (pb : Array UInt8) (tp : Tok), IsCd qualK oc → CellIs (.int kd tk) ock → CellIs (.int o to) oco → CellIs (.bytes pb tp) ocp → 0 ≤ o → o < 16777216 →
    Bad w loose mean mg mb 320 2560 (.ref f) [] [(f, lamO qualK (lamAt 57 8) [("payload", cp), ("owner", co), ("kind", ck)] pm c' ctv), (c', oc), (ck, ock), (co, oco), (cp, ocp)] 56 := by
  rintro w f c' ck co cp pm ctv oc ock oco ocp o kd to tk pb tp ⟨vs, t, hv, hv1⟩ hcell1 hcell2 hcell3 h0 h1
  unfold CellIs at hcell1 hcell2 hcell3
  unfold Bad
  k_fill
  intro cn cs a ccd cl outer A₀ base h₀ L m s Q E B F X N T hk hret
  k_extra "MineWalkL"
  all_goals (subst hg'; exact hret _ _ _ _ _ R9 U9)
end

-- part TB
theorem bInts_inj {a b : Array UInt8} (h : KBw.bInts a = KBw.bInts b) : a = b := by
  have e : a.toList.map (fun c => (c.toNat : Int)) = b.toList.map (fun c => (c.toNat : Int)) := h
  have inj : ∀ (x y : UInt8), ((x.toNat : Nat) : Int) = (y.toNat : Nat) → x = y := fun x y e => UInt8.toNat_inj.mp (by omega)
  have key : ∀ (l r : List UInt8), l.map (fun c => (c.toNat : Int)) = r.map (fun c => (c.toNat : Int)) → l = r := by
    intro l
    induction l with
    | nil => intro r h; cases r with
      | nil => rfl
      | cons _ _ => cases h
    | cons x l ih => intro r h; cases r with
      | nil => cases h
      | cons y r =>
        rw [List.map_cons, List.map_cons] at h
        injection h with h1 h2
        rw [inj x y h1, ih r h2]
  exact Array.toList_inj.mp (key _ _ e)
theorem triples_snoc {a b : Int} {c : Value} : ∀ (l : List Value), TriplesOk l → TriplesOk (l ++ [rawInt a, rawInt b, c])
  | [], _ => trivial
  | .int _ _ :: .int _ _ :: _ :: rest, h => triples_snoc rest h
theorem among_snoc {a b : Int} {c v : Value} {pos : Pos} : ∀ (l : List Value), TriplesOk l → codeAmong pos (l ++ [rawInt a, rawInt b, c]) = some v → codeAmong pos l = some v ∨ v = c
  | [], _, h => by
    simp only [List.nil_append, codeAmong, rawInt] at h
    split at h
    · exact .inr (Option.some.inj h).symm
    · cases h
  | .int _ _ :: .int _ _ :: _ :: rest, hl, h => by
    simp only [List.cons_append, codeAmong] at h ⊢
    split
    · rename_i hc; rw [if_pos hc] at h; exact .inl h
    · rename_i hc; rw [if_neg hc] at h; exact among_snoc rest hl h
-- the table of a def's codes: each code that it tells stands in 'codes'
def TabOk (q : Str) (ps : Array Value) (codes : Led) : Prop := TriplesOk ps.toList ∧ ∀ pos v, codeAmong pos ps.toList = some v → ∃ c' oc, v = .ref c' ∧ (c', oc) ∈ codes ∧ IsCd q oc
theorem tab_nil (q : Str) : TabOk q #[] [] := ⟨trivial, fun _ _ h => by cases h⟩
theorem tab_snoc {q : Str} {ps : Array Value} {codes : Led} {a b : Int} {c' : Addr} {oc : Obj} (H : TabOk q ps codes) (hc : IsCd q oc) : TabOk q (ps ++ #[rawInt a, rawInt b, .ref c']) ((c', oc) :: codes) := by
  refine ⟨?_, fun pos v h => ?_⟩
  · rw [Array.toList_append]; exact triples_snoc _ H.1
  · rw [Array.toList_append] at h
    rcases among_snoc _ H.1 h with h | h
    · obtain ⟨c, o, e, hm, hi⟩ := H.2 pos v h
      exact ⟨c, o, e, .tail _ hm, hi⟩
    · exact ⟨c', oc, h, .head _, hc⟩
theorem code422 {P : Params} {h : Heap} (X : (KH P).In h) : CodeHd h 426 422 := ⟨_, _, _, _, _, _, _, _, _, X 426 _ rfl, rfl, rfl, rfl, rfl, rfl, rfl, rfl, rfl, by decide⟩
theorem code429 {P : Params} {h : Heap} (X : (KH P).In h) : CodeHd h 433 429 := ⟨_, _, _, _, _, _, _, _, _, X 433 _ rfl, rfl, rfl, rfl, rfl, rfl, rfl, rfl, rfl, by decide⟩
section
variable {M : Model} {A : Around} {E : Value → Shared → Prop} {s : Shared} {h₀ : Heap} {L a c P : Addr} {m mg mb : Str → Option Value} {cn : Str} {cs : Scope} {ccd : Value} {cl : List (Str × Addr)} {news pre codes : Led}
  {p : Program} {loose : List Str} {mean : ExcName → Option Value} {name qual : Str} {params : Arguments} {body : Expr} {scope : Scope} {ps : Array Value} {pos : Pos} {firstLine : Nat} {clos : List (Str × Addr)}
theorem kla_any {Q : Value → Shared → Prop} (F : Fr h₀ L s.heap m) (N : News h₀ L s.heap news) (T : Top p loose mean mg mb h₀) (C : CodeHd h₀ c P) (hcd : ccd = .ref c) (hm : (P, tabObj ps) ∈ news) (hs : ∀ q ∈ pre, q ∈ news) (hcs : ∀ q ∈ codes, q ∈ news) (hne : ∀ q ∈ pre, q.1 ≠ P) (hnc : ∀ q ∈ codes, q.1 ≠ P) (TO : TabOk qual ps codes)
    (hcl : closureFor scope (envX cn cs L a ccd cl) = pure clos)
    (h : ∀ f c' oc ctv codes' ps' h' tk, Fr h₀ L h' m → News h₀ L h' ((f, kla_obj name qual params body scope clos ((mg "__name__").getD .none) c' ctv) :: (pre ++ (P, tabObj ps') :: codes')) →
      IsCd qual oc → (c', oc) ∈ codes' → TabOk qual ps' codes' → (∃ nw, codes' = nw ++ codes ∧ ∀ q ∈ nw, q.1 ≠ P ∧ ∀ r ∈ pre, r.1 ≠ q.1) → (∀ q ∈ pre ++ (P, tabObj ps') :: codes', q.1 < f) → Q (.ref f) { s with heap := h', toks := tk }) :
    wpAny M A (makeFunction name qual params (.expr body) scope (envX cn cs L a ccd cl) [] [] [] pos firstLine) Q E s := by
  have N₀ : News h₀ L s.heap ((P, tabObj ps) :: (pre ++ codes)) := fun q hq => by
    rcases List.mem_cons.mp hq with rfl | hq
    · exact N _ hm
    · rcases List.mem_append.mp hq with hq | hq
      · exact N _ (hs q hq)
      · exact N _ (hcs q hq)
  have hall : ∀ q ∈ pre ++ codes, q.1 ≠ P := fun q hq => (List.mem_append.mp hq).elim (hne q) (hnc q)
  cases e : codeAmong pos ps.toList with
  | none =>
    refine kla_nest F N₀ T C hcd (UpdF.head hall) TO.1 e hcl fun f c' oc vs t ctv h' tk F' N' d1 d2 l1 l2 => ?_
    refine h f c' oc ctv ((c', oc) :: codes) (ps ++ #[rawInt pos.line, rawInt pos.col, .ref c']) h' tk F' (fun q hq => ?_) ⟨vs, t, d1, d2⟩ (.head _) (tab_snoc TO ⟨vs, t, d1, d2⟩) ⟨[(c', oc)], rfl, fun q hq => ?_⟩ fun q hq => ?_
    · rcases List.mem_cons.mp hq with rfl | hq
      · exact N' _ (.head _)
      · rcases List.mem_append.mp hq with hq | hq
        · exact N' q (.tail _ (.tail _ (.tail _ (List.mem_append_left _ hq))))
        · rcases List.mem_cons.mp hq with rfl | hq
          · exact N' _ (.tail _ (.tail _ (.head _)))
          · rcases List.mem_cons.mp hq with rfl | hq
            · exact N' _ (.tail _ (.head _))
            · exact N' q (.tail _ (.tail _ (.tail _ (List.mem_append_right _ hq))))
    · rw [List.mem_singleton.mp hq]
      refine ⟨Nat.ne_of_gt (l1 _ (.head _)), fun r hr => Nat.ne_of_lt (l1 r (.tail _ (List.mem_append_left _ hr)))⟩
    · rcases List.mem_append.mp hq with hq | hq
      · exact Nat.lt_trans (l1 q (.tail _ (List.mem_append_left _ hq))) l2
      · rcases List.mem_cons.mp hq with rfl | hq
        · exact Nat.lt_trans (l1 (P, tabObj ps) (.head _)) l2
        · rcases List.mem_cons.mp hq with rfl | hq
          · exact l2
          · exact Nat.lt_trans (l1 q (.tail _ (List.mem_append_right _ hq))) l2
  | some v =>
    obtain ⟨c', oc, rfl, hmem, hi⟩ := TO.2 pos v e
    refine kla_hit F N₀ T C hcd (.head _) TO.1 e hcl fun f ctv h' tk F' N' l1 => ?_
    refine h f c' oc ctv codes ps h' tk F' (fun q hq => ?_) hi hmem TO ⟨[], rfl, fun q hq => by cases hq⟩ fun q hq => ?_
    · rcases List.mem_cons.mp hq with rfl | hq
      · exact N' _ (.head _)
      · rcases List.mem_append.mp hq with hq | hq
        · exact N' q (.tail _ (.tail _ (List.mem_append_left _ hq)))
        · rcases List.mem_cons.mp hq with rfl | hq
          · exact N' _ (.tail _ (.head _))
          · exact N' q (.tail _ (.tail _ (List.mem_append_right _ hq)))
    · rcases List.mem_append.mp hq with hq | hq
      · exact l1 q (.tail _ (List.mem_append_left _ hq))
      · rcases List.mem_cons.mp hq with rfl | hq
        · exact l1 _ (.head _)
        · exact l1 q (.tail _ (List.mem_append_right _ hq))
theorem off_more {codes codes' : Led} {l : List Addr} (h : OwnOff codes l) (H : ∃ nw, codes' = nw ++ codes ∧ ∀ q ∈ nw, q.1 ≠ P ∧ ∀ r ∈ pre, r.1 ≠ q.1) (hl : ∀ b ∈ l, b = P ∨ b ∈ pre.map (·.1)) : OwnOff codes' l := by
  obtain ⟨nw, rfl, hn⟩ := H
  intro q hq b hb
  rcases List.mem_append.mp hq with hq | hq
  · rcases hl b hb with rfl | hm
    · exact (hn q hq).1
    · obtain ⟨r, hr, rfl⟩ := List.mem_map.mp hm
      exact fun e => (hn q hq).2 r hr e.symm
  · exact h q hq b hb
theorem off_take {codes codes' : Led} {l : List Addr} (k : Nat) (h : OwnOff codes l) (H : ∃ nw, codes' = nw ++ codes ∧ ∀ q ∈ nw, q.1 ≠ P ∧ ∀ r ∈ pre, r.1 ≠ q.1) (hl : l = P :: (pre.take k).map (·.1)) : OwnOff codes' l := by
  subst hl
  refine off_more h H fun b hb => ?_
  rcases List.mem_cons.mp hb with e | hb
  · exact .inl e
  · obtain ⟨r, hr, rfl⟩ := List.mem_map.mp hb
    exact .inr (List.mem_map_of_mem (List.mem_of_mem_take hr))
end
-- what control and laid are where the control can be laid
def CtlGood (n : Int) (cl : List Int) : Prop := (0 ≤ n ∧ n < 256 ∧ n % 4 = 3 ∧ cl = [n]) ∨ (0 ≤ n ∧ n < 65536 ∧ ¬ (n < 256 ∧ n % 4 = 3) ∧ (n / 256) % 4 ≠ 3 ∧ cl = [n / 256, n % 256])
theorem CtlGood.laid {n p0 p1 : Int} {cl pl : List Int} (h : CtlGood n cl) : LaidIs (p0 :: p1 :: (cl ++ pl)) p0 p1 n pl := by
  rcases h with ⟨a, b, c, rfl⟩ | ⟨a, b, c, d, rfl⟩
  · exact .one ⟨a, b⟩ c rfl
  · exact .two ⟨a, b⟩ c d rfl
theorem CtlGood.len {n : Int} {cl : List Int} (h : CtlGood n cl) : 1 ≤ cl.length ∧ cl.length ≤ 2 := by
  rcases h with ⟨a, b, c, rfl⟩ | ⟨a, b, c, d, rfl⟩
  · exact ⟨Nat.le_refl 1, Nat.le_succ 1⟩
  · exact ⟨Nat.le_succ 1, Nat.le_refl 2⟩
theorem ctl_cases {n : Int} {v : Value} (h : CtlIs n v) : (v = .none ∧ 256 ≤ n ∧ n < 65536 ∧ (n / 256) % 4 = 3) ∨ ∃ b t cl, v = .bytes b t ∧ KBw.bInts b = cl ∧ CtlGood n cl := by
  cases h with
  | one h h4 b t hb => exact .inr ⟨b, t, _, rfl, hb, .inl ⟨h.1, h.2, h4, rfl⟩⟩
  | two h h4 h5 b t hb => exact .inr ⟨b, t, _, rfl, hb, .inr ⟨h.1, h.2, h4, h5, rfl⟩⟩
  | bad h h5 => exact .inl ⟨rfl, h.1, h.2, h5⟩
theorem short_bits {n p0 p1 : Int} {cl pl : List Int} {z : Int} (h : CtlGood n cl) (h2 : ((p0 :: p1 :: (cl ++ pl)).take z.toNat).length = 3) (h3 : z < 2 + (cl.length : Int)) : ¬ Builtin.bitAnd (beVal (sliceAt ((p0 :: p1 :: (cl ++ pl)).take z.toNat) 2 1)) 3 = 3 := by
  have hz : z.toNat ≥ 3 := by rw [List.length_take] at h2; omega
  rcases h with ⟨a, b, c, rfl⟩ | ⟨a, b, c, d, rfl⟩
  · simp only [List.length_cons, List.length_nil] at h3; omega
  · have e : z.toNat = 3 := by simp only [List.length_cons, List.length_nil] at h3; omega
    rw [e, bitAnd_m2]
    show ¬ beVal [n / 256] % 4 = 3
    rw [be1 (by omega)]; exact d

-- part TC
section
variable {w : World} {loose : List Str} {mean : ExcName → Option Value} {mg mb : Str → Option Value} {D U : Nat} {f : Value} {vs : List Value} {sub : Led} {C : Addr} {Post Post' : Value → Led → Prop} {PB : Led → Prop}
  {A : Around} {cn : Str} {cs : Scope} {a : Addr} {ccd : Value} {cl : List (Str × Addr)} {outer : List Env} {A₀ : Around} {base h₀ g₀ : Heap} {L : Addr} {m : Str → Option Value} {s : Shared} {Q E : Value → Shared → Prop} {news : Led}
theorem OkS.mono (H : OkS w loose mean mg mb D U f vs sub Post) (h : ∀ v l, Post v l → Post' v l) : OkS w loose mean mg mb D U f vs sub Post' :=
  fun cn cs a ccd cl outer A₀ base h₀ L m s Q E B F X N T XB TB Dx hk k => H cn cs a ccd cl outer A₀ base h₀ L m s Q E B F X N T XB TB Dx hk fun v sub' h' tk' g' P => k v sub' h' tk' g' (h v sub' P)
theorem kept_of {fs : List Addr} (N : News h₀ L s.heap news) (B : Below A₀ base outer h₀) {h' : Heap} (Kp : KeptF s.heap h' sub (frs (envX cn cs L a ccd cl :: outer))) {q : Addr × Obj} (h1 : q ∈ news) (h2 : q.1 ∉ sub.map (·.1)) : h'.get? q.1 = some q.2 := by
  refine Kp q.1 q.2 (N q h1).1 h2 fun hm => ?_
  rcases kts_memX (L := L) rfl hm with z | z
  · exact (N q h1).2.1 z
  · obtain ⟨_, o, ho, _⟩ := B.frames.mem z
    rw [(N q h1).2.2] at ho; cases ho
theorem OkS.useR {P : Value → Led → Prop} (H : OkS w loose mean mg mb D U f vs sub (RPost sub P)) (hA : A.frames = some (envX cn cs L a ccd cl :: outer)) (hh : A.handled = none) (hd : A.depth ≤ D) (hu : A.units ≤ U)
    (B : Below A₀ base outer h₀) (F : Fr h₀ L s.heap m) (X : (KH w.params).In h₀) (N : News h₀ L s.heap news) (T : Top topProg loose mean mg mb h₀) (hk : cs.kind = .function) (hs : ∀ q ∈ sub, q ∈ news)
    (XB : (KH w.params).In base) (TB : Top topProg loose mean mg mb base) (Dx : KtsDicts (frs outer) h₀) (T0 : KtsTurn (frs outer) g₀ h₀)
    (k : ∀ v nw h' tk' g', P v nw → KtsTurn (frs outer) g₀ g' → Fr g' L h' m → News g' L h' (nw ++ news) → Below A₀ base outer g' → (KH w.params).In g' → Top topProg loose mean mg mb g' → KtsDicts (frs outer) g' →
      (∀ q ∈ nw, ∀ r ∈ news, r.1 ≠ q.1) → Q v { s with heap := h', toks := tk' }) :
    wpAny (model rw0.prog w) A (call f vs) Q E s := by
  refine wpAny_wider (A' := ktrTop D U none cn cs L a ccd cl outer) (H cn cs a ccd cl outer A₀ base h₀ L m s Q E B F X (fun q hq => N q (hs q hq)) T XB TB Dx hk fun v sub' h' tk' g' Pv T' F' N' B' Kp Fh => ?_) hh.symm hd hA.symm rfl hu
  obtain ⟨nw, rfl, hf, Pn⟩ := Pv
  refine k v nw h' tk' g' Pn (T0.trans T') F' (fun q hq => ?_) B' (XB.keeps B'.stays) (TB.keeps B'.stays) (Dx.turn T') fun q hq r hr e => ?_
  · rcases List.mem_append.mp hq with hq | hq
    · exact N' q (List.mem_append_left _ hq)
    · refine ⟨?_, (N q hq).2.1, T'.none_ _ (N q hq).2.2⟩
      by_cases hm : q.1 ∈ sub.map (·.1)
      · obtain ⟨r, hr, e⟩ := List.mem_map.mp hm
        have h1 := (N r (hs r hr)).1
        have h2 := (N' r (List.mem_append_right _ hr)).1
        rw [e] at h1 h2
        rw [h2, ← h1]
        exact (N q hq).1
      · exact kept_of (fs := []) N B Kp hq hm
  · rcases Fh q (List.mem_append_left _ hq) with h | h
    · exact hf q hq h
    · have := (N r hr).1
      rw [e, h] at this
      cases this
theorem OkS.useW {src : Addr} {o : Obj} {ro : Led} {fN : Obj → Led} {P : Value → Obj → Led → Prop} (H : OkS w loose mean mg mb D U f vs ((src, o) :: ro) (WPost src ro P)) (hA : A.frames = some (envX cn cs L a ccd cl :: outer)) (hh : A.handled = none) (hd : A.depth ≤ D) (hu : A.units ≤ U)
    (B : Below A₀ base outer h₀) (F : Fr h₀ L s.heap m) (X : (KH w.params).In h₀) (N : News h₀ L s.heap news) (T : Top topProg loose mean mg mb h₀) (hk : cs.kind = .function) (hU : ∀ o', Upd src o o' news (fN o')) (hs : ∀ q ∈ ro, q ∈ news)
    (XB : (KH w.params).In base) (TB : Top topProg loose mean mg mb base) (Dx : KtsDicts (frs outer) h₀) (T0 : KtsTurn (frs outer) g₀ h₀)
    (k : ∀ v o' nw h' tk' g', P v o' nw → KtsTurn (frs outer) g₀ g' → Fr g' L h' m → News g' L h' (nw ++ fN o') → Below A₀ base outer g' → (KH w.params).In g' → Top topProg loose mean mg mb g' → KtsDicts (frs outer) g' →
      (∀ q ∈ nw, ∀ r ∈ fN o', r.1 ≠ q.1) → Q v { s with heap := h', toks := tk' }) :
    wpAny (model rw0.prog w) A (call f vs) Q E s := by
  have hsrc : (src, o) ∈ news := by
    obtain ⟨pre, post, e, _, _, _⟩ := (hU o).split
    rw [e]
    exact List.mem_append_right _ (.head _)
  refine wpAny_wider (A' := ktrTop D U none cn cs L a ccd cl outer) (H cn cs a ccd cl outer A₀ base h₀ L m s Q E B F X (fun q hq => (by
    rcases List.mem_cons.mp hq with rfl | hq
    · exact N _ hsrc
    · exact N q (hs q hq))) T XB TB Dx hk fun v sub' h' tk' g' Pv T' F' N' B' Kp Fh => ?_) hh.symm hd hA.symm rfl hu
  obtain ⟨o', nw, rfl, hf, Pn⟩ := Pv
  obtain ⟨pre, post, e1, e2, n1, n2⟩ := (hU o').split
  have hm : ∀ r ∈ fN o', r = (src, o') ∨ (r ∈ news ∧ r.1 ≠ src) := fun r hr => by
    rw [e2] at hr
    rw [e1]
    rcases List.mem_append.mp hr with hr | hr
    · exact .inr ⟨List.mem_append_left _ hr, n1 r hr⟩
    · rcases List.mem_cons.mp hr with hr | hr
      · exact .inl hr
      · exact .inr ⟨List.mem_append_right _ (.tail _ hr), n2 r hr⟩
  refine k v o' nw h' tk' g' Pn (T0.trans T') F' (fun q hq => ?_) B' (XB.keeps B'.stays) (TB.keeps B'.stays) (Dx.turn T') fun q hq r hr e => ?_
  · rcases List.mem_append.mp hq with hq | hq
    · exact N' q (.tail _ (List.mem_append_left _ hq))
    · rcases hm q hq with rfl | ⟨hq, hne⟩
      · exact N' _ (.head _)
      · refine ⟨?_, (N q hq).2.1, T'.none_ _ (N q hq).2.2⟩
        by_cases hr : q.1 ∈ ro.map (·.1)
        · obtain ⟨r, hr, e⟩ := List.mem_map.mp hr
          have h1 := (N r (hs r hr)).1
          have h2 := (N' r (.tail _ (List.mem_append_right _ hr))).1
          rw [e] at h1 h2
          rw [h2, ← h1]
          exact (N q hq).1
        · exact kept_of (fs := []) N B Kp hq (fun z => by
            rcases List.mem_cons.mp z with z | z
            · exact hne z
            · exact hr z)
  · rcases Fh q (.tail _ (List.mem_append_left _ hq)) with h | h
    · exact hf q hq h
    · rcases hm r hr with rfl | ⟨hr, _⟩
      · have := (N _ hsrc).1
        rw [e, h] at this
        cases this
      · have := (N r hr).1
        rw [e, h] at this
        cases this
end
def Refused (v : Value) (nw : Led) : Prop := nw = [] ∧ ∃ t, v = .str (Str.ofString "refused") t
theorem refused_of {sub : Led} (v : Value) (l : Led) (h : (∃ t, v = .str (Str.ofString "refused") t) ∧ l = sub) : RPost sub Refused v l := by
  obtain ⟨h1, rfl⟩ := h
  exact ⟨[], rfl, fun q hq => (by cases hq), rfl, h1⟩
def RefusedW (src : Addr) (v : Value) (o' : Obj) (nw : Led) : Prop := nw = [] ∧ IsPool o' ∧ ∃ t, v = .str (Str.ofString "refused") t
theorem allLt_mem {d : Addr} {l : Led} (h : AllLt d l) : ∀ p ∈ l, p.1 < d := by
  induction l with
  | nil => intro p hp; cases hp
  | cons q r ih =>
    intro p hp
    rcases List.mem_cons.mp hp with e | hp
    · rw [e]; exact h.1
    · exact ih h.2 p hp
theorem p256 {d : Int} (h : d = 0 ∨ d = 66 ∨ d = 170 ∨ d = 255 ∨ d = 256) : (0 ≤ d ∧ d < 256) ∨ 256 ≤ d := by
  rcases h with h | h | h | h | h <;> subst h <;> decide
theorem picked_upto {b : Array UInt8} {ks : List Int} (hk : KBw.bInts b = ks) {z : Int} (h0 : 0 ≤ z) : KBw.bInts (KBy.picked b none (some z)) = ks.take z.toNat := by
  rw [KBc.ints_picked hk]
  show (ks.drop 0).take (clipAt ks.length z - 0) = _
  obtain ⟨i, rfl⟩ := Int.eq_ofNat_of_zero_le h0
  rw [clipAt_nat, List.drop_zero, Nat.sub_zero]
  show ks.take (min i ks.length) = ks.take i
  rw [List.take_eq_take_iff]; omega
theorem short_dis {n p0 p1 : Int} {cl pl : List Int} {z : Int} (h : CtlGood n cl) (h3 : z < 2 + (cl.length : Int)) : ((p0 :: p1 :: (cl ++ pl)).take z.toNat).length ≤ 2 ∨ (((p0 :: p1 :: (cl ++ pl)).take z.toNat).length = 3 ∧ ¬ Builtin.bitAnd (beVal (sliceAt ((p0 :: p1 :: (cl ++ pl)).take z.toNat) 2 1)) 3 = 3) := by
  have hl := h.len
  by_cases h2 : ((p0 :: p1 :: (cl ++ pl)).take z.toNat).length ≤ 2
  · exact .inl h2
  · have h4 : ((p0 :: p1 :: (cl ++ pl)).take z.toNat).length = 3 := by
      rw [List.length_take] at h2 ⊢
      omega
    exact .inr ⟨h4, short_bits h h4 h3⟩
theorem gd_no {a b : Int} (h : 0 ≤ a ∧ a < 256) : ¬ 255 < [a, b].getD (Int.toNat 0) 0 := by
  show ¬ 255 < a
  omega
theorem gd_yes {a b : Int} (h : 256 ≤ a) : 255 < [a, b].getD (Int.toNat 0) 0 := by
  show 255 < a
  omega
theorem ne_same {prog : Program} {w : World} {A : Around} {E : Value → Shared → Prop} {s : Shared} {b c : Array UInt8} {t u : Tok} {Q : Value → Shared → Prop} (e : b = c) (h : Q (.bool false) s) : wpAny (model prog w) A (compareOp .NotEq (.bytes b t) (.bytes c u)) Q E s :=
  ne_bytes (by subst e; simpa using h)
theorem news_sub {h₀ h : Heap} {L : Addr} {news sub : Led} (N : News h₀ L h news) (hs : ∀ q ∈ sub, q ∈ news) : News h₀ L h sub := fun q hq => N q (hs q hq)
-- calls taken apart
section
variable {w : World} {loose : List Str} {mean : ExcName → Option Value} {mg mb : Str → Option Value} {D U : Nat} {f : Value} {vs : List Value} {sub : Led}
  {A : Around} {cn : Str} {cs : Scope} {a : Addr} {ccd : Value} {cl : List (Str × Addr)} {outer : List Env} {A₀ : Around} {base h₀ g₀ : Heap} {L : Addr} {m : Str → Option Value} {s : Shared} {Q E : Value → Shared → Prop} {news : Led}
theorem OkS.useBy {ks : List Int} (C : OkS w loose mean mg mb D U f vs sub (RPost sub (BytesAre ks))) (hA : A.frames = some (envX cn cs L a ccd cl :: outer)) (hh : A.handled = none) (hd : A.depth ≤ D) (hu : A.units ≤ U)
    (B : Below A₀ base outer h₀) (F : Fr h₀ L s.heap m) (X : (KH w.params).In h₀) (N : News h₀ L s.heap news) (T : Top topProg loose mean mg mb h₀) (hk : cs.kind = .function) (hs : ∀ q ∈ sub, q ∈ news) (XB : (KH w.params).In base) (TB : Top topProg loose mean mg mb base) (Dx : KtsDicts (frs outer) h₀) (T0 : KtsTurn (frs outer) g₀ h₀)
    (k : ∀ b t h' tk' g', KBw.bInts b = ks → KtsTurn (frs outer) g₀ g' → Fr g' L h' m → News g' L h' news → Below A₀ base outer g' → (KH w.params).In g' → Top topProg loose mean mg mb g' → KtsDicts (frs outer) g' → Q (.bytes b t) { s with heap := h', toks := tk' }) : wpAny (model rw0.prog w) A (call f vs) Q E s :=
  OkS.useR C hA hh hd hu B F X N T hk hs XB TB Dx T0 fun v nw h' tk' g' P T' F' N' B' X' TT D' _ => (by obtain ⟨rfl, b, t, rfl, hb⟩ := P; exact k b t h' tk' g' hb T' F' N' B' X' TT D')
theorem OkS.useRef (C : OkS w loose mean mg mb D U f vs sub (RPost sub Refused)) (hA : A.frames = some (envX cn cs L a ccd cl :: outer)) (hh : A.handled = none) (hd : A.depth ≤ D) (hu : A.units ≤ U)
    (B : Below A₀ base outer h₀) (F : Fr h₀ L s.heap m) (X : (KH w.params).In h₀) (N : News h₀ L s.heap news) (T : Top topProg loose mean mg mb h₀) (hk : cs.kind = .function) (hs : ∀ q ∈ sub, q ∈ news) (XB : (KH w.params).In base) (TB : Top topProg loose mean mg mb base) (Dx : KtsDicts (frs outer) h₀) (T0 : KtsTurn (frs outer) g₀ h₀)
    (k : ∀ t h' tk' g', KtsTurn (frs outer) g₀ g' → Fr g' L h' m → News g' L h' news → Below A₀ base outer g' → (KH w.params).In g' → Top topProg loose mean mg mb g' → KtsDicts (frs outer) g' → Q (.str (Str.ofString "refused") t) { s with heap := h', toks := tk' }) : wpAny (model rw0.prog w) A (call f vs) Q E s :=
  OkS.useR C hA hh hd hu B F X N T hk hs XB TB Dx T0 fun v nw h' tk' g' P T' F' N' B' X' TT D' _ => (by obtain ⟨rfl, t, rfl⟩ := P; exact k t h' tk' g' T' F' N' B' X' TT D')
theorem OkS.useRefW {src : Addr} {o : Obj} {ro : Led} {fN : Obj → Led} (C : OkS w loose mean mg mb D U f vs ((src, o) :: ro) (WPost src ro (RefusedW src))) (hA : A.frames = some (envX cn cs L a ccd cl :: outer)) (hh : A.handled = none) (hd : A.depth ≤ D) (hu : A.units ≤ U)
    (B : Below A₀ base outer h₀) (F : Fr h₀ L s.heap m) (X : (KH w.params).In h₀) (N : News h₀ L s.heap news) (T : Top topProg loose mean mg mb h₀) (hk : cs.kind = .function) (hU : ∀ o', Upd src o o' news (fN o')) (hs : ∀ q ∈ ro, q ∈ news) (XB : (KH w.params).In base) (TB : Top topProg loose mean mg mb base) (Dx : KtsDicts (frs outer) h₀) (T0 : KtsTurn (frs outer) g₀ h₀)
    (k : ∀ o' t h' tk' g', IsPool o' → KtsTurn (frs outer) g₀ g' → Fr g' L h' m → News g' L h' (fN o') → Below A₀ base outer g' → (KH w.params).In g' → Top topProg loose mean mg mb g' → KtsDicts (frs outer) g' → Q (.str (Str.ofString "refused") t) { s with heap := h', toks := tk' }) : wpAny (model rw0.prog w) A (call f vs) Q E s :=
  OkS.useW C hA hh hd hu B F X N T hk hU hs XB TB Dx T0 fun v o' nw h' tk' g' P T' F' N' B' X' TT D' _ => (by obtain ⟨rfl, hP, t, rfl⟩ := P; exact k o' t h' tk' g' hP T' F' N' B' X' TT D')
end

-- part TD
section
open PySem.SeqAt
variable {prog : Program} {w : World} {A : Around} {E : Value → Shared → Prop} {s : Shared}
theorem same_int (a : Int) (t u : Tok) : EqAt A s (.int a t) (.int a u) true := fun prog w E Q hq => by
  unfold eqBool
  refine wpAny_holding ?_
  refine wpAny_ite_split (fun _ => wpAny_bind (wpAny_rule (wpAny_pure hq))) (fun _ => ?_)
  have h2 : Q (a == a) s := by simpa using hq
  exact wpAny_bind (richCompare_gives (typeIs_int s a t) (typeIs_int s a u) F.slot_int_eq F.entry_int_eq (F.args_int_eq_2 _ _) (gives_int_eq a a t u) (fun x => nomatch x) (wpAny_truthy_bool h2))
theorem same_bytes (b : Array UInt8) (t u : Tok) : EqAt A s (.bytes b t) (.bytes b u) true := fun prog w E Q hq => by
  unfold eqBool
  refine wpAny_holding ?_
  refine wpAny_ite_split (fun _ => wpAny_bind (wpAny_rule (wpAny_pure hq))) (fun _ => ?_)
  have h2 : Q (b.toList == b.toList) s := by simpa using hq
  exact wpAny_bind (eq_bytes (wpAny_truthy_bool h2))
inductive SameL (A : Around) (s : Shared) : List Value → List Value → Prop
  | nil : SameL A s [] []
  | cons {x y : Value} {r r' : List Value} : EqAt A.in1 s x y true → SameL A s r r' → SameL A s (x :: r) (y :: r')
theorem SameL.len {xs ys : List Value} (h : SameL A s xs ys) : xs.length = ys.length := by
  induction h with
  | nil => rfl
  | cons _ _ ih => rw [List.length_cons, List.length_cons, ih]
theorem SameL.at {xs ys : List Value} (h : SameL A s xs ys) : ∀ j (h1 : j < xs.length) (h2 : j < ys.length), EqAt A.in1 s xs[j] ys[j] true := by
  induction h with
  | nil => intro j h1; cases h1
  | cons h _ ih =>
    intro j h1 h2
    cases j with
    | zero => exact h
    | succ j => exact ih j (Nat.lt_of_succ_lt_succ h1) (Nat.lt_of_succ_lt_succ h2)
theorem all_true (n : Nat) : ((List.range n).all fun _ => true) = true := by
  rw [List.all_eq_true]; intro _ _; rfl
theorem ne_tups {h₀ : Heap} {L l b : Addr} {news : Led} {xs ys : List Value} {ol ob : Obj} {nl nb : Nat} {Q : Value → Shared → Prop} (N : News h₀ L s.heap news) (ml : (l, ol) ∈ news) (mb : (b, ob) ∈ news) (cl : ol.cls = .type "tuple") (dl : ol.data = .seq xs.toArray nl) (cb : ob.cls = .type "tuple") (db : ob.data = .seq ys.toArray nb)
    (hu : A.units + 64 < cLine) (hs : SameL A s xs ys) (h : Q (.bool false) s) : wpAny (model prog w) A (compareOp .NotEq (.ref l) (.ref b)) Q E s := by
  refine RcNeAt.tuples (e := fun _ => true) ⟨_, (N _ ml).1, cl, _, dl⟩ ⟨_, (N _ mb).1, cb, _, db⟩ (by omega) (fun j h1 h2 => ?_) prog w E Q ?_
  · have := hs.at j (by simpa using h1) (by simpa using h2)
    simpa using this
  · have e := hs.len
    rw [all_true]
    simpa [e] using h
theorem eq_tups {h₀ : Heap} {L l b : Addr} {news : Led} {xs ys : List Value} {ol ob : Obj} {nl nb : Nat} {Q : Value → Shared → Prop} (N : News h₀ L s.heap news) (ml : (l, ol) ∈ news) (mb : (b, ob) ∈ news) (cl : ol.cls = .type "tuple") (dl : ol.data = .seq xs.toArray nl) (cb : ob.cls = .type "tuple") (db : ob.data = .seq ys.toArray nb)
    (hu : A.units + 64 < cLine) (hs : SameL A s xs ys) (h : Q (.bool true) s) : wpAny (model prog w) A (compareOp .Eq (.ref l) (.ref b)) Q E s := by
  refine RcAt.tuples (e := fun _ => true) ⟨_, (N _ ml).1, cl, _, dl⟩ ⟨_, (N _ mb).1, cb, _, db⟩ (by omega) (fun j h1 h2 => ?_) prog w E Q ?_
  · have := hs.at j (by simpa using h1) (by simpa using h2)
    simpa using this
  · have e := hs.len
    rw [all_true]
    simpa [e] using h
end
section
open PySem.SeqAt
variable {prog : Program} {w : World} {A : Around} {E : Value → Shared → Prop} {s : Shared}
theorem eqs_int (a b : Int) (t u : Tok) : EqAt A s (.int a t) (.int b u) (a == b) := fun prog w E Q hq => by
  unfold eqBool
  refine wpAny_holding ?_
  refine wpAny_ite_split (fun h => wpAny_bind (wpAny_rule (wpAny_pure ?_))) (fun _ => ?_)
  · have h2 := eq_of_beq h
    injection h2 with h3 h4
    subst h3
    simpa using hq
  · exact wpAny_bind (richCompare_gives (typeIs_int s a t) (typeIs_int s b u) F.slot_int_eq F.entry_int_eq (F.args_int_eq_2 _ _) (gives_int_eq a b t u) (fun x => nomatch x) (wpAny_truthy_bool hq))
end

-- part HR
theorem words0_HR : True := by
  k_with_none
  (k_with "MineEnter" => (refine wpAny_call ?_; k_dflt (refine' enterQ ?k1 ?k2 ?k3 ?k4 ?k5 ?kA ?kF ?kK ?k6 ?k7 ?k8 ?k9 ?kB ?_ ?c2 ?c3 ?c4 ?c5; (case kA => exact rfl); (case kF => exact rfl); (case kK => assumption); (case k1 => k_asm); (case k2 => k_asm); (case k3 => k_asm); (case k4 => k_asm); (case k5 => k_asm); (case k6 => k_is); (case k7 => k_is); (case k8 => ktr_room); (case k9 => first | exact BindsTo.of_eq rfl | exact binds_K (by k_in) rfl (by k_is) rfl rfl rfl); (case c5 => decide); (case kB => exact locs rfl); (case c2 => exact rfl); (case c3 => exact rfl); (case c4 => exact rfl)); intro g' L' h' tk' FG' F' N' B' X' T' hg' lL'; (try k_lt lL'); (try dsimp only); (try k_fold)))
  (k_with "MineEnterC" => (refine wpAny_call ?_; k_dflt (refine' enterQC ?k1 ?k2 ?k3 ?k4 ?k5 ?kA ?kF ?kK ?k6 ?k7 ?k8 ?k9 ?kB ?kD ?_ ?c2 ?c3 ?c4; (case kA => exact rfl); (case kF => exact rfl); (case kK => assumption); (case k1 => k_asm); (case k2 => k_asm); (case k3 => k_asm); (case k4 => k_asm); (case k5 => k_asm); (case k6 => k_is); (case k7 => k_is); (case k8 => ktr_room); (case k9 => first | exact BindsTo.of_eq rfl | exact binds_K (by k_in) rfl (by k_is) rfl rfl rfl); (case kB => exact rfl); (case kD => decide +kernel); (case c2 => exact rfl); (case c3 => exact rfl); (case c4 => exact rfl)); intro g' L' h' tk' cells' FG' F' N' Y' B' X' T' hg' lL'; (try k_lt lL'); k_cells Y'; (try simp only [List.cons_append, List.nil_append] at N'); (try dsimp only); (try k_fold)))
  (k_with "MineWalkC" => (k_extra "MineEnterC"; k_steps; all_goals (try dsimp only); all_goals (try (k_unfold; dsimp only))))
  (k_with "MineWalk" => (k_extra "MineEnter"; k_steps; all_goals (try dsimp only); all_goals (try (k_unfold; dsimp only))))
  (k_with "MineFresh" => first | exact List.forall_mem_nil _ | (refine' List.forall_mem_cons.mpr ⟨?fa, ?fb⟩; (case fa => (repeat (first | exact List.not_mem_nil | (refine' List.not_mem_cons_of_ne_of_not_mem ?fn ?_; (case fn => k_ne)))))); (case fb => k_extra "MineFresh"))
  (k_with "MineMem" => first | exact List.forall_mem_nil _ | (refine' List.forall_mem_cons.mpr ⟨?fa, ?fb⟩; (case fa => k_mem); (case fb => k_extra "MineMem")))
  (k_with "MineSide" => ((case kA => exact rfl); (case kh => exact rfl); (case kd => exact Nat.le_of_ble_eq_true rfl); (case ku => exact Nat.le_of_ble_eq_true rfl); (case kB => k_asm); (case kF => k_asm); (case kX => k_asm); (case kN => k_asm); (case kT => k_asm); (case kk => exact rfl)))
  (k_with "MineLed" => ((try simp only [List.nil_append, List.cons_append] at N'); (try (replace D' := allNe2_of D'; simp only [AllNe2, AllNe, and_true] at D'))))
  (k_with "MineLeaveW" => ((case F => k_asm); (case N => k_asm); (case h1 => k_mem); (case h2 => k_extra "MineMem"); (case h3 => k_extra "MineMem"); intro F9 N9 K9 Z9))
  (k_with "MineLeaveR" => ((case F => k_asm); (case N => k_asm); (case h2 => k_extra "MineMem"); (case h3 => k_extra "MineMem"); intro F9 N9 K9 Z9))
  (k_with "MineGetLen" => (exfalso; omega))
  (k_with "MinePut" => (first | exact Int.lt_of_lt_of_le (b := 256) (by omega) (by decide) | exact Int.lt_of_lt_of_le (b := 65536) (by omega) (by decide) | exact Int.lt_of_lt_of_le (b := 16777216) (by omega) (by decide) | exact Int.lt_of_lt_of_le (b := 281474976710656) (by omega) (by decide)))
  (k_with "MineBytes" => first | assumption | exact bI1 ⟨by omega, by omega⟩ | exact bI2 ⟨by omega, by omega⟩ ⟨by omega, by omega⟩ | exact zeros_ints _ | exact KBw.ints_list _)
  (k_with "MineAdd" => (k_here; (with_reducible show wpAny _ _ (binaryOp Operator.Add (Value.bytes _ _) (Value.bytes _ _)) _ _ _); (refine KBa.add_K (by k_extra "MineBytes") (by k_extra "MineBytes") (by first | (simp only [List.length_cons, List.length_nil, List.length_append, List.length_map, List.length_replicate, rangeInts_length]; omega) | omega | (simp only [List.length_cons, List.length_nil, List.length_append, List.length_map, List.length_replicate, sum_len]; omega)) ?_); intro t' k' hb'))
  (k_with "MinePutBad" => (intro h9; first | (have h8 := Int.lt_of_lt_of_le h9 (show (1 * 2 ^ ((8:Int) * 1).toNat : Int) ≤ 256 by decide); omega) | (have h8 := Int.lt_of_lt_of_le h9 (show (1 * 2 ^ ((8:Int) * 3).toNat : Int) ≤ 16777216 by decide); omega)))
  (k_with "MinePass" => ((rename RaisedS _ _ _ _ _ _ _ _ _ => rsX); k_dflt (refine' leave_onX (news := ?sub) ?K ?F ?hf rsX ?U ?hs ?_; (case sub => first | k_extra "MineSub" | exact []); (case K => k_asm); (case F => k_asm); (case hf => exact rfl); (case U => k_asm); (case hs => k_extra "MineMem"); intro h9 R9 U9)))
  (k_with "MineEnterS" => (refine wpAny_call ?_; k_dflt (refine' enterQS ?k1 ?k2 ?k3 ?k4 ?k5 ?k0 ?kA ?kF ?kK ?k6 ?k7 ?k8 ?k9 ?kB ?_ ?c2 ?c3 ?c4 ?c5; (case kA => exact rfl); (case kF => exact rfl); (case kK => assumption); (case k1 => k_asm); (case k2 => k_asm); (case k3 => k_asm); (case k4 => k_asm); (case k5 => k_asm); (case k0 => k_asm); (case k6 => k_is); (case k7 => k_is); (case k8 => ktr_room); (case k9 => first | exact BindsTo.of_eq rfl | exact binds_K (by k_in) rfl (by k_is) rfl rfl rfl); (case c5 => decide); (case kB => exact locs rfl); (case c2 => exact rfl); (case c3 => exact rfl); (case c4 => exact rfl)); intro g' L' h' tk' FG' F' N' B' X' T' D' hg' lL'; (try k_lt lL'); (try dsimp only); (try k_fold)))
  (k_with "MineEnterSC" => (refine wpAny_call ?_; k_dflt (refine' enterQSC ?k1 ?k2 ?k3 ?k4 ?k5 ?k0 ?kA ?kF ?kK ?k6 ?k7 ?k8 ?k9 ?kB ?kD ?_ ?c2 ?c3 ?c4; (case kA => exact rfl); (case kF => exact rfl); (case kK => assumption); (case k1 => k_asm); (case k2 => k_asm); (case k3 => k_asm); (case k4 => k_asm); (case k5 => k_asm); (case k0 => k_asm); (case k6 => k_is); (case k7 => k_is); (case k8 => ktr_room); (case k9 => first | exact BindsTo.of_eq rfl | exact binds_K (by k_in) rfl (by k_is) rfl rfl rfl); (case kB => exact rfl); (case kD => decide +kernel); (case c2 => exact rfl); (case c3 => exact rfl); (case c4 => exact rfl)); intro g' L' h' tk' cells' FG' F' N' Y' B' X' T' D' hg' lL'; (try k_lt lL'); k_cells Y'; (try simp only [List.cons_append, List.nil_append] at N'); (try dsimp only); (try k_fold)))
  (k_with "MineEnterL" => (refine wpAny_call ?_; k_dflt (refine' enterQL ?k1 ?k2 ?k3 ?k4 ?k5 ?kA ?kF ?kK ?ho ?hc ?hd ?hv ?k8 ?k9 ?kB ?_ ?c2 ?c3 ?c4 ?c5; (case kA => exact rfl); (case kF => exact rfl); (case kK => assumption); (case k1 => k_asm); (case k2 => k_asm); (case k3 => k_asm); (case k4 => k_asm); (case k5 => k_asm); (case ho => k_mem); (case hc => k_mem); (case hd => assumption); (case hv => assumption); (case k8 => ktr_room); (case k9 => exact rfl); (case c5 => decide); (case kB => exact locs rfl); (case c2 => exact rfl); (case c3 => exact rfl); (case c4 => exact rfl)); intro g' L' h' tk' FG' F' N' B' X' T' hg' lL'; (try k_lt lL'); (try dsimp only); (try k_fold)))
  (k_with "MineWalkL" => (k_extra "MineEnterL"; k_dflt (show wpAny _ _ (eval (Expr.Call _ _ _ _) _) _ _ _); k_steps; all_goals (try dsimp only); all_goals (try (k_unfold; dsimp only))))
  (k_with "MineWalkS" => (k_extra "MineEnterS"; k_steps; all_goals (try dsimp only); all_goals (try (k_unfold; dsimp only))))
  (k_with "MineSame" => first | exact SameL.nil | (refine' SameL.cons ?sa ?sb; (case sa => first | exact same_int _ _ _ | exact same_bytes _ _ _ | exact PySem.SeqAt.EqAt.same _); (case sb => k_extra "MineSame")))
  (k_with "MineNeT" => (k_here; (with_reducible show wpAny _ _ (compareOp CmpOp.NotEq (Value.ref _) (Value.ref _)) _ _ _); k_dflt (refine' ne_tups ?N ?ml ?mb ?cl ?dl ?cb ?db ?hu ?hs ?_; (case N => k_asm); (case ml => k_mem); (case mb => k_mem); (case cl => rfl); (case dl => rfl); (case cb => rfl); (case db => rfl); (case hu => ke_room); (case hs => k_extra "MineSame"))))
  (k_with "MineEqT" => (k_here; (with_reducible show wpAny _ _ (compareOp CmpOp.Eq (Value.ref _) (Value.ref _)) _ _ _); k_dflt (refine' eq_tups ?N ?ml ?mb ?cl ?dl ?cb ?db ?hu ?hs ?_; (case N => k_asm); (case ml => k_mem); (case mb => k_mem); (case cl => rfl); (case dl => rfl); (case cb => rfl); (case db => rfl); (case hu => ke_room); (case hs => k_extra "MineSame"))))
  (k_with "MineNew" => ((try dsimp only [AllNe] at D1'); (try dsimp only [AllNe] at D2'); (try dsimp only [AllNe] at D3')))
  (k_with "MineNe1" => (refine neN ?_; (try dsimp only); with_reducible first | assumption | (refine Ne.symm ?_; assumption) | exact Nat.ne_of_lt (by assumption) | exact Nat.ne_of_gt (by assumption) | exact Nat.ne_of_lt (by k_extra "MineLtS") | exact Nat.ne_of_gt (by k_extra "MineLtS") | k_extra "MineNe2"))
  (k_with "MineLtS" => first | assumption | exact Nat.lt_succ_self _ | (refine Nat.lt_succ_of_lt ?_; k_extra "MineLtS"))
  (k_with "MineNe2" => (rename _ ∧ _ => hc9; first | k_extra "MinePrj" | (clear hc9; k_extra "MineNe2")))
  (k_with "MinePrj" => first | exact hc9.1 | exact Ne.symm hc9.1 | exact Nat.ne_of_lt hc9.1 | exact Nat.ne_of_gt hc9.1 | exact hc9.2.1 | exact Ne.symm hc9.2.1 | exact Nat.ne_of_lt hc9.2.1 | exact Nat.ne_of_gt hc9.2.1 | exact hc9.2.2.1 | exact Ne.symm hc9.2.2.1 | exact Nat.ne_of_lt hc9.2.2.1 | exact Nat.ne_of_gt hc9.2.2.1 | exact hc9.2.2.2.1 | exact Ne.symm hc9.2.2.2.1 | exact Nat.ne_of_lt hc9.2.2.2.1 | exact Nat.ne_of_gt hc9.2.2.2.1 | exact hc9.2.2.2.2.1 | exact Ne.symm hc9.2.2.2.2.1 | exact Nat.ne_of_lt hc9.2.2.2.2.1 | exact Nat.ne_of_gt hc9.2.2.2.2.1 | exact hc9.2.2.2.2.2.1 | exact Ne.symm hc9.2.2.2.2.2.1 | exact Nat.ne_of_lt hc9.2.2.2.2.2.1 | exact Nat.ne_of_gt hc9.2.2.2.2.2.1 | exact hc9.2.2.2.2.2.2.1 | exact Ne.symm hc9.2.2.2.2.2.2.1 | exact Nat.ne_of_lt hc9.2.2.2.2.2.2.1 | exact Nat.ne_of_gt hc9.2.2.2.2.2.2.1 | exact hc9.2.2.2.2.2.2.2.1 | exact Ne.symm hc9.2.2.2.2.2.2.2.1 | exact Nat.ne_of_lt hc9.2.2.2.2.2.2.2.1 | exact Nat.ne_of_gt hc9.2.2.2.2.2.2.2.1 | exact hc9.2.2.2.2.2.2.2.2.1 | exact Ne.symm hc9.2.2.2.2.2.2.2.2.1 | exact Nat.ne_of_lt hc9.2.2.2.2.2.2.2.2.1 | exact Nat.ne_of_gt hc9.2.2.2.2.2.2.2.2.1 | exact hc9.2.2.2.2.2.2.2.2.2.1 | exact Ne.symm hc9.2.2.2.2.2.2.2.2.2.1 | exact Nat.ne_of_lt hc9.2.2.2.2.2.2.2.2.2.1 | exact Nat.ne_of_gt hc9.2.2.2.2.2.2.2.2.2.1 | exact hc9.2.2.2.2.2.2.2.2.2.2.1 | exact Ne.symm hc9.2.2.2.2.2.2.2.2.2.2.1 | exact Nat.ne_of_lt hc9.2.2.2.2.2.2.2.2.2.2.1 | exact Nat.ne_of_gt hc9.2.2.2.2.2.2.2.2.2.2.1 | exact hc9.2.2.2.2.2.2.2.2.2.2.2.1 | exact Ne.symm hc9.2.2.2.2.2.2.2.2.2.2.2.1 | exact Nat.ne_of_lt hc9.2.2.2.2.2.2.2.2.2.2.2.1 | exact Nat.ne_of_gt hc9.2.2.2.2.2.2.2.2.2.2.2.1 | exact hc9.2.2.2.2.2.2.2.2.2.2.2.2.1 | exact Ne.symm hc9.2.2.2.2.2.2.2.2.2.2.2.2.1 | exact Nat.ne_of_lt hc9.2.2.2.2.2.2.2.2.2.2.2.2.1 | exact Nat.ne_of_gt hc9.2.2.2.2.2.2.2.2.2.2.2.2.1 | exact hc9.2.2.2.2.2.2.2.2.2.2.2.2.2.1 | exact Ne.symm hc9.2.2.2.2.2.2.2.2.2.2.2.2.2.1 | exact Nat.ne_of_lt hc9.2.2.2.2.2.2.2.2.2.2.2.2.2.1 | exact Nat.ne_of_gt hc9.2.2.2.2.2.2.2.2.2.2.2.2.2.1 | exact hc9.2.2.2.2.2.2.2.2.2.2.2.2.2.2.1 | exact Ne.symm hc9.2.2.2.2.2.2.2.2.2.2.2.2.2.2.1 | exact Nat.ne_of_lt hc9.2.2.2.2.2.2.2.2.2.2.2.2.2.2.1 | exact Nat.ne_of_gt hc9.2.2.2.2.2.2.2.2.2.2.2.2.2.2.1 | exact hc9.2.2.2.2.2.2.2.2.2.2.2.2.2.2.2.1 | exact Ne.symm hc9.2.2.2.2.2.2.2.2.2.2.2.2.2.2.2.1 | exact Nat.ne_of_lt hc9.2.2.2.2.2.2.2.2.2.2.2.2.2.2.2.1 | exact Nat.ne_of_gt hc9.2.2.2.2.2.2.2.2.2.2.2.2.2.2.2.1)
  trivial
theorem wordsK_HR : True := by
  (k_with "call ref" => (k_here; (with_reducible show wpAny _ _ (call (Value.ref 415) _) _ _ _); (try k_fold); k_dflt (refine' Ok.useCtl (control_ok _ _ _ ?p0) ?kA ?kh ?kd ?ku ?kB ?kF ?kX ?kN ?kT ?kk ?kU ?ks ?_; k_extra "MineSide"; (case kU => (intro; k_upd)); (case ks => k_extra "MineMem"); (case p0 => assumption); intro o' t' n' tn' lv' h' tk' hP' hC' D1' F' N'; replace D1' := allNe_of D1'; k_extra "MineNew")))
  (k_with "call ref" => (k_here; (with_reducible show wpAny _ _ (call (Value.ref 420) _) _ _ _); (try k_fold); k_dflt (refine' Ok.useOct (octets_ok _ _ _ ?p0) ?kA ?kh ?kd ?ku ?kB ?kF ?kX ?kN ?kT ?kk ?kU ?ks ?_; k_extra "MineSide"; (case kU => (intro; k_upd)); (case ks => k_extra "MineMem"); (case p0 => assumption); intro o' b' t' pl' h' tk' hP' hbp' hl' F' N')))
  (k_with "call ref" => (k_here; (with_reducible show wpAny _ _ (call (Value.ref 401) _) _ _ _); (try k_fold); k_dflt (refine' Ok.useOne (one_ok _ _ _ _ _ _ ?p0 ?p1 ?p2 ?p3 ?p4) ?kA ?kh ?kd ?ku ?kB ?kF ?kX ?kN ?kT ?kk ?kU ?ks ?_; k_extra "MineSide"; (case kU => (intro; k_upd)); (case ks => k_extra "MineMem"); (case p0 => k_ne); (case p1 => assumption); (case p2 => exact rfl); (case p3 => exact Nat.le_of_ble_eq_true rfl); (case p4 => exact Nat.le_of_ble_eq_true rfl); intro o' d' td' h' tk' hP' hd' F' N'; (first | (have hb' : 0 ≤ d' ∧ d' < 256 := in_bound hd' (by rfl)); (clear hd') | (have hb' : 0 ≤ d' ∧ d' < 65536 := in_bound hd' (by rfl)) | (have hb' : 0 ≤ d' ∧ d' < 16777216 := in_bound hd' (by rfl)) | ((simp only [intsOf, List.mem_cons, List.not_mem_nil, or_false] at hd'); (first | ((have hb' : 0 ≤ d' ∧ d' < 256 := (by omega)); clear hd') | (have hb' : 0 ≤ d' ∧ d' < 65536 := (by omega)) | skip))); (try simp only [intsOf, List.mem_cons, List.not_mem_nil, or_false] at hd'))))
  (k_with "call ref" => (k_here; (with_reducible show wpAny _ _ (call (Value.ref 334) _) _ _ _); (try k_fold); k_dflt (refine' OkN.useLlc (llc_ok _ _ _ _ _ _ ) ?kA ?kh ?kd ?ku ?kB ?kF ?kX ?kN ?kT ?kk ?_; k_extra "MineSide"; intro x' dx' k1' k2' k3' k4' h' tk' ne' D1' D2' F' N'; replace ne' := neN ne'; k_extra "MineNew")))
  (k_with "call ref" => (k_here; (with_reducible show wpAny _ _ (call (Value.ref 359) _) _ _ _); (try k_fold); k_dflt (refine' Ok.useUnp (unpack_llc_ok _ _ _ _ _ _ _ _ ?p0 ?p1 ?p2) ?kA ?kh ?kd ?ku ?kB ?kF ?kX ?kN ?kT ?kk ?ks ?_; k_extra "MineSide"; (case ks => k_extra "MineMem"); (case p0 => first | assumption | k_extra "MineCut"); (case p1 => first | omega | k_extra "MineLen"); (case p2 => first | assumption | k_extra "MineLaid"); intro x' dx' k1' k2' k3' k4' t0' t1' tc' pb' tp' h' tk' hb' ne' D1' D2' F' N'; replace ne' := neN ne'; k_extra "MineNew"; (try (have hpq' := bInts_inj (hb'.trans hbp'.symm); subst hpq')))))
  (k_with "call ref" => (k_here; (with_reducible show wpAny _ _ (call (Value.ref 394) _) _ _ _); (try k_fold); k_dflt (refine' Ok.useTake (take_ok _ _ _ _ _ ?p0 ?p1 ?p2) ?kA ?kh ?kd ?ku ?kB ?kF ?kX ?kN ?kT ?kk ?kU ?ks ?_; k_extra "MineSide"; (case kU => (intro; k_upd)); (case ks => k_extra "MineMem"); (case p0 => assumption); (case p1 => first | assumption | decide | omega); (case p2 => first | assumption | decide | omega); intro o' d' td' h' tk' hP' hd0' hd1' F' N')))
  trivial
local macro_rules | `(tactic| k_all) => `(tactic| with_reducible exact OwnOff.ne (by assumption) (by k_mem))
local macro_rules | `(tactic| k_mem) => `(tactic| with_reducible assumption)
local macro_rules | `(tactic| walk_at "eval Lambda") => `(tactic| k_extra "eval Lambda")
theorem off_part {codes : Led} {l r : List Addr} (h : OwnOff codes l) (hr : ∀ b ∈ r, b ∈ l) : OwnOff codes r := fun p hp b hb => h p hp b (hr b hb)
def HeadPost (src : Addr) (v : Value) (l : Led) : Prop := v = .bool true ∧ ∃ o' ps' codes', IsPool o' ∧ TabOk qualH ps' codes' ∧ OwnOff codes' [422, src] ∧ l = (src, o') :: (422, tabObj ps') :: codes'
local macro_rules | `(tactic| walk_at "compareOp Eq bytes str") => `(tactic| k_extra "compareOp Eq")
local macro_rules | `(tactic| walk_at "compareOp NotEq bytes bytes") => `(tactic| k_extra "MineNe")
local macro_rules | `(tactic| walk_at "compareOp NotEq ref ref") => `(tactic| k_extra "MineNeT")
theorem wordsHR : True := by
  (k_with "MineTail" => (repeat (first | assumption | refine List.Mem.tail _ ?_)))
  (k_with "MineNes" => first | exact List.forall_mem_nil _ | (refine' List.forall_mem_cons.mpr ⟨?fa, ?fb⟩; (case fa => k_ne); (case fb => k_extra "MineNes")))
  (k_with "MineOff" => (intro b hb; simp only [List.mem_cons, List.not_mem_nil, or_false] at hb; rcases hb with rfl | rfl | rfl | rfl <;> simp))
  (k_with "eval Lambda" => (k_here; k_dflt (refine' kla_eval ?d0 ?_; (case d0 => exact rfl)); k_dflt (refine' kla_any (pre := [(src, _), (L' + 1, _), (L' + 1 + 1, _), (_, PySem.W.listOf _ _), (_, instObj 334 _), (_, llcD _ _ _ _ _ _ _ _ _)]) (codes := codes) ?F ?N ?T ?C ?cd ?hm ?hs ?hcs ?hne ?hnc ?TO ?cl ?_; (case F => k_asm); (case N => k_asm); (case T => k_asm); (case C => exact code422 (by k_asm)); (case cd => exact rfl); (case hm => k_mem); (case hs => k_extra "MineMem"); (case hcs => (intro q hq; k_extra "MineTail")); (case hne => k_extra "MineNes"); (case hnc => k_all); (case TO => assumption); (case cl => exact rfl)); intro f' c' oc' ctv' codes ps' h' tk' F' N' hi' hmem' hTO' hnw' lf'; simp only [List.cons_append, List.nil_append] at N' lf'; (have hmem9 : List.Mem (c', oc') codes := hmem'); (have hoff := off_take (l := [422, src, L' + 1, L' + 1 + 1]) 3 hoff hnw' rfl); k_lt lf'))
  (k_with "MineSideS" => (k_extra "MineSide"; (case ks => k_extra "MineMem"); (case XB => k_asm); (case TB => k_asm); (case Dx => k_asm); (case T0 => first | assumption | exact KtsTurn.refl)))
  (k_with "call ref" => (k_here; (with_reducible show wpAny _ _ (call (Value.ref 408) _) _ _ _); (try k_fold); k_dflt (refine' OkS.useBy (heard_ok _ _ _ _ _ _ _ _ (lamA_ok _ _ _ _ _ _ _ _ _ _ _ _ _ _ _ _ _ _ _ _ _ _ _ _ ?p0 ?p1 ?p2 ?p3 ?p4 ?p5 ?p6 ?p7)) ?kA ?kh ?kd ?ku ?kB ?kF ?kX ?kN ?kT ?kk ?ks ?XB ?TB ?Dx ?T0 ?_; k_extra "MineSideS"; (case p0 => assumption); (case p1 => assumption); (case p2 => k_asm); (case p3 => assumption); (case p4 => omega); (case p5 => exact hG'.laid); (case p6 => assumption); (case p7 => assumption); have hGl' := hG'.len; obtain ⟨hGl0', hGl1'⟩ := hGl'; intro tb' tt' h' tk' g' htold' T9' F' N' B' X' TT' D')))
  (k_with "call ref" => (k_here; (with_reducible show wpAny _ _ (call (Value.ref 408) _) _ _ _); (try k_fold); k_dflt (refine' OkS.useRef (OkS.mono (heard_bad56 _ _ _ _ _ _ _ _ (Bad.toP (lamA_far _ _ _ _ _ _ _ _ _ _ _ _ _ _ _ _ _ _ _ _ _ _ _ _ ?p0 ?p1 ?p2 ?p3 ?p4))) refused_of) ?kA ?kh ?kd ?ku ?kB ?kF ?kX ?kN ?kT ?kk ?ks ?XB ?TB ?Dx ?T0 ?_; k_extra "MineSideS"; (case p0 => assumption); (case p1 => assumption); (case p2 => k_asm); (case p3 => exact hG'.laid (pl := [])); (case p4 => assumption); intro t' h' tk' g' T9' F' N' B' X' TT' D')))
  (k_with "call ref" => (k_here; (with_reducible show wpAny _ _ (call (Value.ref 408) _) _ _ _); (try k_fold); k_dflt (refine' OkS.useRef (OkS.mono (heard_bad56 _ _ _ _ _ _ _ _ (Bad.toP (lamA_bad _ _ _ _ _ _ _ _ _ _ _ _ _ _ _ _ _ _ _ _ _ _ ?p0 ?p1 ?p2 ?p3 ?p4 ?p5))) refused_of) ?kA ?kh ?kd ?ku ?kB ?kF ?kX ?kN ?kT ?kk ?ks ?XB ?TB ?Dx ?T0 ?_; k_extra "MineSideS"; (case p0 => assumption); (case p1 => assumption); (case p2 => k_asm); (case p3 => assumption); (case p4 => assumption); (case p5 => assumption); intro t' h' tk' g' T9' F' N' B' X' TT' D')))
  (k_with "call ref" => (k_here; (with_reducible show wpAny _ _ (call (Value.ref 408) _) _ _ _); (try k_fold); (rcases ctl_cases hC' with ⟨rfl, hb1', hb2', hb3'⟩ | ⟨lb', lt', cl', rfl, hlb', hG'⟩); (rotate_left; rcases p256 (by assumption) with hp' | hp'; rotate_left; rotate_left); all_goals clear hC'))
  (k_with "call ref" => (k_here; (with_reducible show wpAny _ _ (call (Value.ref 408) _) _ _ _); (try k_fold); k_dflt (refine' OkS.useRef (OkS.mono (heard_bad44 _ _ _ _ _ _ _ _ (Bad.toP (lamB_bad _ _ _ _ _ _ _ _ _ _ _ ?p0 ?p1 ?p2 ?p3))) refused_of) ?kA ?kh ?kd ?ku ?kB ?kF ?kX ?kN ?kT ?kk ?ks ?XB ?TB ?Dx ?T0 ?_; k_extra "MineSideS"; (case p0 => assumption); (case p1 => assumption); (case p2 => exact picked_upto htold' hd0'); (case p3 => exact short_dis hG' hd1'); intro t' h' tk' g' T9' F' N' B' X' TT' D')))
  (k_with "MineLen" => ((try simp only [List.length_cons, List.length_append]); omega))
  (k_with "MineLaid" => exact hG'.laid)
  (k_with "compareOp Eq" => (exact absurd (by assumption : (255 : Int) < _) (gd_no hp')))
  (k_with "MineNe" => (k_dflt (refine ne_same (bInts_inj (htold'.trans hb'.symm)) ?_)))
  (k_with "call type:bytes" => (exact absurd (gd_yes hp') (by assumption)))
  (k_with "MineEndH" => ((try dsimp only); (try (k_unfold; dsimp only)); refine' leaveS (sub' := (src, _) :: (422, tabObj _) :: codes) ?T ?F ?N ?_ ?hs; (case T => first | assumption | exact KtsTurn.refl); (case F => k_asm); (case N => k_asm); (case hs => (refine' List.forall_mem_cons.mpr ⟨?ha, List.forall_mem_cons.mpr ⟨?hb, ?hc⟩⟩; (case ha => k_mem); (case hb => k_mem); (case hc => (intro q hq; k_extra "MineTail")))); intro h9 T9 F9 N9 B9 K9 Z9; exact hret _ _ _ _ _ ⟨by first | rfl | simp, _, _, _, by assumption, by assumption, off_part hoff (by intro b hb; rcases List.mem_cons.mp hb with rfl | hb; exact .head _; exact .tail _ (List.mem_cons.mpr (.inl (List.mem_singleton.mp hb)))), rfl⟩ T9 F9 N9 B9 K9 Z9))
  (k_with "MineSub3" => (refine' List.forall_mem_cons.mpr ⟨?ga, List.forall_mem_cons.mpr ⟨?gb, List.forall_mem_cons.mpr ⟨?gc, ?gd⟩⟩⟩; (case ga => k_mem); (case gb => k_mem); (case gc => k_mem); (case gd => (intro q hq; k_extra "MineTail"))))
  (k_with "call ref" => (k_here; (with_reducible show wpAny _ _ (call (Value.ref 394) _) _ _ _); (repeat ((with_reducible rename _ ∧ _ => hzz); clear hzz)); (try k_fold); k_dflt ((have N9 := news_sub (sub := (src, _) :: (L' + 1 + 1, _) :: (422, tabObj _) :: codes) (by k_asm) (by k_extra "MineSub3")); refine' Ok.useTake (take_ok _ _ _ _ _ ?p0 ?p1 ?p2) ?kA ?kh ?kd ?ku ?kB ?kF ?kX ?kN ?kT ?kk ?kU ?ks ?_; k_extra "MineSide"; (case kU => (intro; k_upd)); (case ks => k_extra "MineMem"); (case p0 => assumption); (case p1 => omega); (case p2 => omega); intro o' d' td' h' tk' hP' hd0' hd1' F' N'; clear N9)))
  (k_with "MineOff2" => (intro b hb; simp only [List.mem_cons, List.not_mem_nil, or_false] at hb; rcases hb with rfl | rfl <;> simp))
  (k_with "eval Lambda" => (k_here; (fail_if_success (have := hC')); k_dflt (refine' kla_eval ?d0 ?_; (case d0 => exact rfl)); k_dflt (refine' kla_any (pre := [(src, _), (L' + 1 + 1, _)]) (codes := codes) ?F ?N ?T ?C ?cd ?hm ?hs ?hcs ?hne ?hnc ?TO ?cl ?_; (case F => k_asm); (case N => k_asm); (case T => k_asm); (case C => exact code422 (by k_asm)); (case cd => exact rfl); (case hm => k_mem); (case hs => k_extra "MineMem"); (case hcs => (intro q hq; k_extra "MineTail")); (case hne => k_extra "MineNes"); (case hnc => k_all); (case TO => assumption); (case cl => exact rfl)); intro f' c' oc' ctv' codes ps' h' tk' F' N' hi' hmem' hTO' hnw' lf'; simp only [List.cons_append, List.nil_append] at N' lf'; (have hmem9 : List.Mem (c', oc') codes := hmem'); (have hoff := off_take (l := [422, src]) 1 (off_part hoff (by k_extra "MineOff3")) hnw' rfl); k_lt lf'))
  (k_with "MineOff3" => (intro b hb; rcases List.mem_cons.mp hb with rfl | hb; exact .head _; exact .tail _ (List.mem_cons.mpr (.inl (List.mem_singleton.mp hb)))))
  trivial
section
variable {loose : List Str} {mean : ExcName → Option Value} {mg mb : Str → Option Value}
theorem head_ok : ∀ (w : World) (src : Addr) (o : Obj) (ps : Array Value) (codes : Led), IsPool o → TabOk qualH ps codes → OwnOff codes [422, src] → @Ne Nat src 422 →
    OkS w loose mean mg mb 305 2440 (.ref 427) [.ref src] ((src, o) :: (422, tabObj ps) :: codes) (HeadPost src) := by
  intro w src o ps codes hP hTO hoff hne
  unfold OkS
  k_fill
  intro cn cs a ccd cl outer A₀ base h₀ L m s Q E B F X N T XB TB D hk hret
  k_extra "MineEnterSC"
  obtain ⟨hlt1, hlt2, hlt3⟩ := lL'
  have hlt3' := allLt_mem hlt3
  have hoff : OwnOff codes [422, src, L' + 1, L' + 1 + 1] := by
    intro p hp b hb
    simp only [List.mem_cons, List.not_mem_nil, or_false] at hb
    have h1 := hlt3' p hp
    rcases hb with rfl | rfl | rfl | rfl
    · exact hoff p hp _ (.head _)
    · exact hoff p hp _ (.tail _ (.head _))
    · exact Nat.ne_of_lt (Nat.lt_succ_of_lt h1)
    · exact Nat.ne_of_lt (Nat.lt_succ_of_lt (Nat.lt_succ_of_lt h1))
  clear hlt3
  k_steps
  all_goals (k_extra "MineEndH"; done)
end

-- part FJ
theorem bi_bytes : typeLookup (.type "int") "__bytes__" = pure none := by rw [typeLookup_type, builtinLookup_eq_fast]; kernel_rfl
theorem bi_index : typeLookup (.type "int") "__index__" = pure (some (.builtin "int.__index__")) := by rw [typeLookup_type, builtinLookup_eq_fast]; kernel_rfl
section
open PySem.F
variable {prog : Program} {w : World} {A : Around} {E : Value → Shared → Prop} {s : Shared}
theorem bytes_zeros_new {n : Int} {t : Tok} {Q : Value → Shared → Prop} (h0 : 0 ≤ n) (h1 : n ≤ 1000) (hQ : ∀ t' k, Q (.bytes (Array.replicate n.toNat 0) t') { s with toks := k }) :
    codeAny (model prog w) A (.call (.builtin "bytes.__new__") ⟨[.type "bytes", .int n t], []⟩) (wants Q E) s := by
  refine codeAny_of_tree ?_
  show wpAny _ A.in1 (do checkBuiltinCall "bytes.__new__" ⟨[.type "bytes", .int n t], []⟩; again (.builtin "bytes.__new__" ⟨[.type "bytes", .int n t], []⟩)) _ _ s
  refine wpAny_bind (wpAny_of_eq (bm_newCall _) (wpAny_pure ⟨plainId_quiet bm_plain _, codeAny_builtin bm_entry ?_⟩))
  rw [Around.under_plainId bm_plain _]
  have hT : s.TypeIs (.int n t) "int" := typeIs_int _ _ _
  unfold Builtin.«bytes.__new__»
  refine wpAny_bind (wpAny_of_eq (a := true) rfl ?_)
  refine bm_if_false rfl ?_
  refine wpAny_bind (wpAny_of_eq bm_sub ?_)
  refine bm_if_false rfl ?_
  refine wpAny_bind (wpAny_of_eq (bm_bind _) ?_)
  refine wpAny_bind (wpAny_of_eq (a := ()) rfl ?_)
  refine wpAny_bind (wpAny_of_eq (a := ()) rfl ?_)
  refine bm_if_false rfl ?_
  refine wpAny_bind (wpAny_specialOf hT bi_bytes ?_)
  refine wpAny_bind (wpAny_of_eq (a := false) rfl ?_)
  refine bm_if_false rfl ?_
  refine wpAny_bind (wpAny_specialOf hT bi_index ?_)
  refine bm_if_false rfl ?_
  refine wpAny_bind (wpAny_attempt (wpAny_of_eq (a := n) rfl ?_))
  dsimp only
  refine bm_if_false (by simp [Builtin.Bytes.fitsIndex]; omega) ?_
  rw [if_neg (by omega)]
  rw [if_neg (by omega)]
  refine bm_if_false (by show decide _ = false; rw [decide_eq_false_iff_not, sizeLine_eq]; omega) ?_
  refine wpAny_bind (wpAny_rule ?_)
  refine wpAny_bind (wpAny_mkBytes ?_ (by rw [Array.size_replicate, sizeLine_eq]; omega))
  exact wpAny_pure (hQ _ _)
theorem bytes_zeros {n : Int} {t : Tok} {Q : Value → Shared → Prop} (h0 : 0 ≤ n) (h1 : n ≤ 1000) (hQ : ∀ t' k, Q (.bytes (Array.replicate n.toNat 0) t') { s with toks := k }) : wpAny (model prog w) A (call (.type "bytes") [.int n t]) Q E s := by
  refine callType_codes (Q₁ := fun obj s₁ => s₁.TypeIs obj "bytes" ∧ Q obj s₁) bm_called (bm_typeCall _) entry_object_init (bytes_zeros_new h0 h1 fun t' k => ⟨PySem.W.typeIs_bytes _ _ _, hQ t' k⟩) fun obj s₁ h₁ => ?_
  exact ⟨h₁.1, args_object_init_2 obj _, object_init_meets bm_called.init.lookup bm_called.made (by decide) prog w A.in1 _ s₁ ⟨h₁.1, rfl, h₁.2⟩⟩
end
theorem zeros_ints (n : Nat) : KBw.bInts (Array.replicate n (0 : UInt8)) = List.replicate n 0 := by
  show (Array.replicate n (0 : UInt8)).toList.map _ = _
  rw [Array.toList_replicate, List.map_replicate]; rfl

-- part FK
theorem slot_bjoin : Slot "bytes" "join" "bytes.join" :=
  .of (owner := "bytes") (n := "join") (by rw [typeLookup_type, builtinLookup_eq_fast]; kernel_rfl) (by decide +kernel) (by decide +kernel) (by decide +kernel)
    (by first | exact .inl (by decide +kernel) | exact .inr (by decide +kernel)) (by rw [isSubtype_type]; kernel_rfl)
theorem type_bjoin : typeOf (.builtin "bytes.join") = pure (.type "method_descriptor") := by show builtinType _ = _; rw [builtinType_eq_fast]; kernel_rfl
theorem entry_bjoin : entryFor table "bytes.join" = some Builtin.«bytes.join» := entryFor_of_tree (by kernel_rfl)
theorem args_bjoin (a b : Value) : argsOk "bytes.join" ⟨[a, b], []⟩ := by
  unfold argsOk; rw [signature?_of (id := "bytes.join") (n := ['n', 'i', 'o', 'j']) (o := ['s', 'e', 't', 'y', 'b']) (by kernel_rfl) PySem.W.FB.owner_bytes]; kernel_rfl
section
variable {prog : Program} {w : World} {A : Around} {E : Value → Shared → Prop} {s : Shared} {b : Array UInt8} {t : Tok}
theorem bjoin_method {M : Model} {pl : Sem Bool} {Q : Value × List Value → Shared → Prop} (h : Q (.builtin "bytes.join", [.bytes b t]) s) : wpAny M A (getMethod (.bytes b t) "join" pl) Q E s := by
  with_reducible exact KBd.method_of (.bytes b t) (typeIs_bytes _ _ _) slot_bjoin type_bjoin KBd.noRef h
theorem bjoin_meets {l : Addr} : Meets (Builtin.«bytes.join» ⟨[.bytes b t, .ref l], []⟩) (fun _ R s => s.heap.IsList l #[] ∧ b.size ≤ 100 ∧ ∀ t' k, R (.ok (.ret (.bytes #[] t'))) { s with toks := k }) := by
  refine .of_wp fun prog w A R s hS => ?_
  obtain ⟨hl, hb, h⟩ := hS
  obtain ⟨ol, hol, hoc, nl, hod⟩ := id hl
  have hT : s.TypeIs (.ref l) "list" := hl.typeIs
  unfold Builtin.«bytes.join» Builtin.Bytes.joinM
  refine wpAny_bind (wpAny_of_eq (a := (.bytes b t, .ref l)) rfl ?_)
  dsimp only
  refine bm_if_true rfl ?_
  refine wpAny_bind ?_
  unfold Builtin.Bytes.joinItems
  refine wpAny_bind (wpAny_typeOf hT ?_)
  refine bm_if_true rfl ?_
  refine wpAny_pure ?_
  obtain ⟨oc, od, oda, osl⟩ := ol
  dsimp only at hoc hod
  subst hoc hod
  refine wpAny_bind (wpAny_seqItems hol rfl ?_)
  dsimp only
  refine bm_if_true rfl ?_
  with_unfolding_all refine wpAny_bind (wpAny_of_eq (a := ((#[], []) : Array (Array UInt8) × List (Value × Option Value))) rfl ?_)
  dsimp only
  refine wpAny_bind (wpAny_of_eq (a := b) rfl ?_)
  refine bm_if_false (by show decide _ = false; rw [decide_eq_false_iff_not, sizeLine_eq]; simp) ?_
  refine wpAny_bind (wpAny_mkBytes ?_ (Nat.zero_le _))
  refine wpAny_bind (wpAny_holding (wpAny_point ?_))
  refine wpAny_bind (wpAny_of_eq (a := ()) rfl ?_)
  exact wpAny_pure ⟨_, rfl, h _ _⟩
theorem bjoin {l : Addr} {Q : Value → Shared → Prop} (hl : s.heap.IsList l #[]) (hb : b.size ≤ 100) (h : ∀ t' k, Q (.bytes #[] t') { s with toks := k }) :
    wpAny (model prog w) A (call (.builtin "bytes.join") [.bytes b t, .ref l]) Q E s :=
  call_meets slot_bjoin (typeIs_bytes _ _ _) entry_bjoin (args_bjoin _ _) bjoin_meets ⟨hl, hb, h⟩
end

-- part FE
section
variable {prog : Program} {w : World} {A : Around} {E : Value → Shared → Prop} {s : Shared} {h₀ : Heap} {L : Addr} {m : Str → Option Value} {env : Env}
def EmptySrc (A : Around) (h₀ : Heap) (L : Addr) (m : Str → Option Value) (Q : Value → Shared → Prop) (xv : Value) (s₁ : Shared) : Prop :=
  ∃ (ax : Addr) (ot : Obj) (news : Led) (n : Nat), xv = .ref ax ∧ A.handled = none ∧ Fr h₀ L s₁.heap m ∧ News h₀ L s₁.heap news ∧ (ax, ot) ∈ news ∧ ot.cls = .type "tuple" ∧ ot.data = .seq #[] n ∧
    (∀ D h tk, Fr h₀ L h m → News h₀ L h ((D, LCg.lst []) :: news) → LCg.Off1 D news → Q (.ref D) { s₁ with heap := h, toks := tk })
theorem comp_empty {elt iter : Expr} {x : Str} {px : Pos} {scope : Scope} {cl : List (Str × Addr)} {pos : Pos} {Q : Value → Shared → Prop} (F₀ : Fr h₀ L s.heap m)
    (hclos : closureFor scope env = pure cl) (hcell : ∀ y ∈ scope.names, y.2 ≠ .cell) (hkind : scope.kind = .function)
    (hnames : ∀ y ∈ scope.names, y.2 = .local → scope.names.lookup y.1 = some .local) (hx : scope.names.lookup x = some .local)
    (h : wpAny (model prog w) A (eval iter env) (EmptySrc A h₀ L m Q) E s)
    (hs : ∀ x, foldedSetIterable iter env x = pure x) :
    wpAny (model prog w) A (eval (.ListComp elt [⟨.Name x px, iter, [], 0⟩] scope pos) env) Q E s := by
  rw [eval_ListComp]
  refine wpAny_comprehension_free (use := none) rfl hs hclos hkind hnames (wpAny_mono h (fun xv s₁ h₁ => ?_) fun _ _ e => e)
  obtain ⟨ax, ot, news, n, rfl, hh, F, N, hm, hc, hd, fin⟩ := h₁
  have hl : s₁.heap.IsTuple ax #[] := ⟨ot, (N _ hm).1, hc, n, hd⟩
  have hlt : ax < s₁.heap.objs.size := Heap.lt_size (N _ hm).1
  refine wpAny_pyIter_tuple hl ?_
  have up : ∀ b o, s₁.heap.get? b = some o → (s₁.heap.push { cls := .type "tuple_iterator", data := .fields #[.ref ax, .int 0 0] }).get? b = some o := fun b o e => Heap.get?_push_of_some _ e
  refine LCg.block_U (Walks.tuple hh s₁.heap.objs.size ax (Nat.ne_of_lt hlt) #[]) (S := fun nw => (ax, ot) ∈ nw) (Fin := fun ys nw => ys = [] ∧ nw = news) (Nat.zero_le _) (fun i h st => by obtain ⟨o, e, _⟩ := st.1; exact ⟨o, e⟩)
    (fun i h h' o nw st e e' k N' S' => ⟨by obtain ⟨o', q, r⟩ := st.1; rw [e] at q; cases q; exact ⟨o, e', r⟩, ⟨ot, (N' _ S').1, hc, n, hd⟩⟩) hcell hkind hx
    ⟨⟨_, Heap.get?_push_size _ rfl, rfl, rfl⟩, ⟨ot, up _ _ (N _ hm).1, hc, n, hd⟩⟩ (fun b hb => ?_)
    (F.keeps up) (N.grown up) (Nat.ne_of_lt F.ns.lt) (next_is_new F) (fun p hp => Nat.ne_of_lt (Heap.lt_size (N p hp).1)) hm (LCg.CompRest.zero ⟨rfl, rfl⟩) ?_
  · show b < (s₁.heap.push _).objs.size
    rw [Heap.size_push]
    rcases List.mem_cons.mp hb with rfl | hb
    · exact Nat.lt_succ_self _
    · rw [List.mem_singleton.mp hb]; exact Nat.lt_succ_of_lt hlt
  · rintro D C h tk m' ys news' F' N' o1 hn hC₀ hD₀ hCL hDL hCD offC ⟨rfl, rfl⟩
    refine ⟨m', hn, fun h'' hs'' => fin D h'' tk (F'.change hs'' hCL hC₀) (fun p hp => ?_) o1⟩
    refine ⟨hs''.extBut _ _ ?_ (N' p hp).1, (N' p hp).2⟩
    rcases List.mem_cons.mp hp with rfl | hp
    · exact Ne.symm hCD
    · exact offC p hp
end
theorem put65 : List.map (byteOf 5) (rangeInts (6 - 1) (-1) (Int.toNat 6)) = [0, 0, 0, 0, 0, 5] := by decide
theorem put66 : List.map (byteOf 6) (rangeInts (6 - 1) (-1) (Int.toNat 6)) = [0, 0, 0, 0, 0, 6] := by decide
theorem len_bytes {prog : Program} {w : World} {A : Around} {E : Value → Shared → Prop} {s : Shared} {b : Array UInt8} {t : Tok} {ks : List Int} {n : Nat} {Q : Value → Shared → Prop} (hk : KBw.bInts b = ks) (hl : ks.length = n) (hf : n ≤ 100000)
    (h : ∀ t' k, Q (.int (n : Int) t') { s with toks := k }) : wpAny (model prog w) A (call (.builtin "len") [.bytes b t]) Q E s := by
  subst hl
  exact KBw.len_K hk (by omega) (h _ _)
theorem pad_lo {x : Int} : 0 ≤ (if 60 - x > 0 then 60 - x else 0) := by split <;> omega
theorem pad_hi {x : Int} (h : 0 ≤ x) : (if 60 - x > 0 then 60 - x else 0) ≤ 1000 := by split <;> omega
theorem pad_is {n : Nat} : (if 60 - (n : Int) > 0 then 60 - (n : Int) else 0).toNat = 60 - n := by split <;> omega

-- part FB
theorem words0_FB : True := by
  k_with_none
  (k_with "MineEnter" => (refine wpAny_call ?_; k_dflt (refine' enterQ ?k1 ?k2 ?k3 ?k4 ?k5 ?kA ?kF ?kK ?k6 ?k7 ?k8 ?k9 ?kB ?_ ?c2 ?c3 ?c4 ?c5; (case kA => exact rfl); (case kF => exact rfl); (case kK => assumption); (case k1 => k_asm); (case k2 => k_asm); (case k3 => k_asm); (case k4 => k_asm); (case k5 => k_asm); (case k6 => k_is); (case k7 => k_is); (case k8 => ktr_room); (case k9 => first | exact BindsTo.of_eq rfl | exact binds_K (by k_in) rfl (by k_is) rfl rfl rfl); (case c5 => decide); (case kB => exact locs rfl); (case c2 => exact rfl); (case c3 => exact rfl); (case c4 => exact rfl)); intro g' L' h' tk' FG' F' N' B' X' T' hg' lL'; (try k_lt lL'); (try dsimp only); (try k_fold)))
  (k_with "MineEnterC" => (refine wpAny_call ?_; k_dflt (refine' enterQC ?k1 ?k2 ?k3 ?k4 ?k5 ?kA ?kF ?kK ?k6 ?k7 ?k8 ?k9 ?kB ?kD ?_ ?c2 ?c3 ?c4; (case kA => exact rfl); (case kF => exact rfl); (case kK => assumption); (case k1 => k_asm); (case k2 => k_asm); (case k3 => k_asm); (case k4 => k_asm); (case k5 => k_asm); (case k6 => k_is); (case k7 => k_is); (case k8 => ktr_room); (case k9 => first | exact BindsTo.of_eq rfl | exact binds_K (by k_in) rfl (by k_is) rfl rfl rfl); (case kB => exact rfl); (case kD => decide +kernel); (case c2 => exact rfl); (case c3 => exact rfl); (case c4 => exact rfl)); intro g' L' h' tk' cells' FG' F' N' Y' B' X' T' hg' lL'; (try k_lt lL'); k_cells Y'; (try simp only [List.cons_append, List.nil_append] at N'); (try dsimp only); (try k_fold)))
  (k_with "MineWalkC" => (k_extra "MineEnterC"; k_steps; all_goals (try dsimp only); all_goals (try (k_unfold; dsimp only))))
  (k_with "MineWalk" => (k_extra "MineEnter"; k_steps; all_goals (try dsimp only); all_goals (try (k_unfold; dsimp only))))
  (k_with "MineFresh" => first | exact List.forall_mem_nil _ | (refine' List.forall_mem_cons.mpr ⟨?fa, ?fb⟩; (case fa => (repeat (first | exact List.not_mem_nil | (refine' List.not_mem_cons_of_ne_of_not_mem ?fn ?_; (case fn => k_ne)))))); (case fb => k_extra "MineFresh"))
  (k_with "MineMem" => first | exact List.forall_mem_nil _ | (refine' List.forall_mem_cons.mpr ⟨?fa, ?fb⟩; (case fa => k_mem); (case fb => k_extra "MineMem")))
  (k_with "MineSide" => ((case kA => exact rfl); (case kh => exact rfl); (case kd => exact Nat.le_of_ble_eq_true rfl); (case ku => exact Nat.le_of_ble_eq_true rfl); (case kB => k_asm); (case kF => k_asm); (case kX => k_asm); (case kN => k_asm); (case kT => k_asm); (case kk => exact rfl)))
  (k_with "MineLed" => ((try simp only [List.nil_append, List.cons_append] at N'); (try (replace D' := allNe2_of D'; simp only [AllNe2, AllNe, and_true] at D'))))
  (k_with "MineLeaveW" => ((case F => k_asm); (case N => k_asm); (case h1 => k_mem); (case h2 => k_extra "MineMem"); (case h3 => k_extra "MineMem"); intro F9 N9 K9 Z9))
  (k_with "MineLeaveR" => ((case F => k_asm); (case N => k_asm); (case h2 => k_extra "MineMem"); (case h3 => k_extra "MineMem"); intro F9 N9 K9 Z9))
  (k_with "MineGetLen" => (exfalso; omega))
  (k_with "MinePut" => (first | exact Int.lt_of_lt_of_le (b := 256) (by omega) (by decide) | exact Int.lt_of_lt_of_le (b := 65536) (by omega) (by decide) | exact Int.lt_of_lt_of_le (b := 16777216) (by omega) (by decide) | exact Int.lt_of_lt_of_le (b := 281474976710656) (by omega) (by decide)))
  (k_with "MineBytes" => first | assumption | exact bI1 ⟨by omega, by omega⟩ | exact bI2 ⟨by omega, by omega⟩ ⟨by omega, by omega⟩ | exact zeros_ints _ | exact KBw.ints_list _)
  (k_with "MineAdd" => (k_here; (with_reducible show wpAny _ _ (binaryOp Operator.Add (Value.bytes _ _) (Value.bytes _ _)) _ _ _); (refine KBa.add_K (by k_extra "MineBytes") (by k_extra "MineBytes") (by first | (simp only [List.length_cons, List.length_nil, List.length_append, List.length_map, List.length_replicate, rangeInts_length]; omega) | omega | (simp only [List.length_cons, List.length_nil, List.length_append, List.length_map, List.length_replicate, sum_len]; omega)) ?_); intro t' k' hb'))
  (k_with "MinePutBad" => (intro h9; first | (have h8 := Int.lt_of_lt_of_le h9 (show (1 * 2 ^ ((8:Int) * 1).toNat : Int) ≤ 256 by decide); omega) | (have h8 := Int.lt_of_lt_of_le h9 (show (1 * 2 ^ ((8:Int) * 3).toNat : Int) ≤ 16777216 by decide); omega)))
  (k_with "MinePass" => ((rename RaisedS _ _ _ _ _ _ _ _ _ => rsX); k_dflt (refine' leave_onX (news := ?sub) ?K ?F ?hf rsX ?U ?hs ?_; (case sub => first | k_extra "MineSub" | exact []); (case K => k_asm); (case F => k_asm); (case hf => exact rfl); (case U => k_asm); (case hs => k_extra "MineMem"); intro h9 R9 U9)))
  (k_with "MineEnterS" => (refine wpAny_call ?_; k_dflt (refine' enterQS ?k1 ?k2 ?k3 ?k4 ?k5 ?k0 ?kA ?kF ?kK ?k6 ?k7 ?k8 ?k9 ?kB ?_ ?c2 ?c3 ?c4 ?c5; (case kA => exact rfl); (case kF => exact rfl); (case kK => assumption); (case k1 => k_asm); (case k2 => k_asm); (case k3 => k_asm); (case k4 => k_asm); (case k5 => k_asm); (case k0 => k_asm); (case k6 => k_is); (case k7 => k_is); (case k8 => ktr_room); (case k9 => first | exact BindsTo.of_eq rfl | exact binds_K (by k_in) rfl (by k_is) rfl rfl rfl); (case c5 => decide); (case kB => exact locs rfl); (case c2 => exact rfl); (case c3 => exact rfl); (case c4 => exact rfl)); intro g' L' h' tk' FG' F' N' B' X' T' D' hg' lL'; (try k_lt lL'); (try dsimp only); (try k_fold)))
  (k_with "MineEnterSC" => (refine wpAny_call ?_; k_dflt (refine' enterQSC ?k1 ?k2 ?k3 ?k4 ?k5 ?k0 ?kA ?kF ?kK ?k6 ?k7 ?k8 ?k9 ?kB ?kD ?_ ?c2 ?c3 ?c4; (case kA => exact rfl); (case kF => exact rfl); (case kK => assumption); (case k1 => k_asm); (case k2 => k_asm); (case k3 => k_asm); (case k4 => k_asm); (case k5 => k_asm); (case k0 => k_asm); (case k6 => k_is); (case k7 => k_is); (case k8 => ktr_room); (case k9 => first | exact BindsTo.of_eq rfl | exact binds_K (by k_in) rfl (by k_is) rfl rfl rfl); (case kB => exact rfl); (case kD => decide +kernel); (case c2 => exact rfl); (case c3 => exact rfl); (case c4 => exact rfl)); intro g' L' h' tk' cells' FG' F' N' Y' B' X' T' D' hg' lL'; (try k_lt lL'); k_cells Y'; (try simp only [List.cons_append, List.nil_append] at N'); (try dsimp only); (try k_fold)))
  (k_with "MineEnterL" => (refine wpAny_call ?_; k_dflt (refine' enterQL ?k1 ?k2 ?k3 ?k4 ?k5 ?kA ?kF ?kK ?ho ?hc ?hd ?hv ?k8 ?k9 ?kB ?_ ?c2 ?c3 ?c4 ?c5; (case kA => exact rfl); (case kF => exact rfl); (case kK => assumption); (case k1 => k_asm); (case k2 => k_asm); (case k3 => k_asm); (case k4 => k_asm); (case k5 => k_asm); (case ho => k_mem); (case hc => k_mem); (case hd => assumption); (case hv => assumption); (case k8 => ktr_room); (case k9 => exact rfl); (case c5 => decide); (case kB => exact locs rfl); (case c2 => exact rfl); (case c3 => exact rfl); (case c4 => exact rfl)); intro g' L' h' tk' FG' F' N' B' X' T' hg' lL'; (try k_lt lL'); (try dsimp only); (try k_fold)))
  (k_with "MineWalkL" => (k_extra "MineEnterL"; k_dflt (show wpAny _ _ (eval (Expr.Call _ _ _ _) _) _ _ _); k_steps; all_goals (try dsimp only); all_goals (try (k_unfold; dsimp only))))
  (k_with "MineWalkS" => (k_extra "MineEnterS"; k_steps; all_goals (try dsimp only); all_goals (try (k_unfold; dsimp only))))
  (k_with "MineSame" => first | exact SameL.nil | (refine' SameL.cons ?sa ?sb; (case sa => first | exact same_int _ _ _ | exact same_bytes _ _ _ | exact PySem.SeqAt.EqAt.same _); (case sb => k_extra "MineSame")))
  (k_with "MineNeT" => (k_here; (with_reducible show wpAny _ _ (compareOp CmpOp.NotEq (Value.ref _) (Value.ref _)) _ _ _); k_dflt (refine' ne_tups ?N ?ml ?mb ?cl ?dl ?cb ?db ?hu ?hs ?_; (case N => k_asm); (case ml => k_mem); (case mb => k_mem); (case cl => rfl); (case dl => rfl); (case cb => rfl); (case db => rfl); (case hu => ke_room); (case hs => k_extra "MineSame"))))
  (k_with "MineEqT" => (k_here; (with_reducible show wpAny _ _ (compareOp CmpOp.Eq (Value.ref _) (Value.ref _)) _ _ _); k_dflt (refine' eq_tups ?N ?ml ?mb ?cl ?dl ?cb ?db ?hu ?hs ?_; (case N => k_asm); (case ml => k_mem); (case mb => k_mem); (case cl => rfl); (case dl => rfl); (case cb => rfl); (case db => rfl); (case hu => ke_room); (case hs => k_extra "MineSame"))))
  (k_with "MineNew" => ((try dsimp only [AllNe] at D1'); (try dsimp only [AllNe] at D2'); (try dsimp only [AllNe] at D3')))
  (k_with "MineNe1" => (refine neN ?_; (try dsimp only); with_reducible first | assumption | (refine Ne.symm ?_; assumption) | exact Nat.ne_of_lt (by assumption) | exact Nat.ne_of_gt (by assumption) | exact Nat.ne_of_lt (by k_extra "MineLtS") | exact Nat.ne_of_gt (by k_extra "MineLtS") | k_extra "MineNe2"))
  (k_with "MineLtS" => first | assumption | exact Nat.lt_succ_self _ | (refine Nat.lt_succ_of_lt ?_; k_extra "MineLtS"))
  (k_with "MineNe2" => (rename _ ∧ _ => hc9; first | k_extra "MinePrj" | (clear hc9; k_extra "MineNe2")))
  (k_with "MinePrj" => first | exact hc9.1 | exact Ne.symm hc9.1 | exact Nat.ne_of_lt hc9.1 | exact Nat.ne_of_gt hc9.1 | exact hc9.2.1 | exact Ne.symm hc9.2.1 | exact Nat.ne_of_lt hc9.2.1 | exact Nat.ne_of_gt hc9.2.1 | exact hc9.2.2.1 | exact Ne.symm hc9.2.2.1 | exact Nat.ne_of_lt hc9.2.2.1 | exact Nat.ne_of_gt hc9.2.2.1 | exact hc9.2.2.2.1 | exact Ne.symm hc9.2.2.2.1 | exact Nat.ne_of_lt hc9.2.2.2.1 | exact Nat.ne_of_gt hc9.2.2.2.1 | exact hc9.2.2.2.2.1 | exact Ne.symm hc9.2.2.2.2.1 | exact Nat.ne_of_lt hc9.2.2.2.2.1 | exact Nat.ne_of_gt hc9.2.2.2.2.1 | exact hc9.2.2.2.2.2.1 | exact Ne.symm hc9.2.2.2.2.2.1 | exact Nat.ne_of_lt hc9.2.2.2.2.2.1 | exact Nat.ne_of_gt hc9.2.2.2.2.2.1 | exact hc9.2.2.2.2.2.2.1 | exact Ne.symm hc9.2.2.2.2.2.2.1 | exact Nat.ne_of_lt hc9.2.2.2.2.2.2.1 | exact Nat.ne_of_gt hc9.2.2.2.2.2.2.1 | exact hc9.2.2.2.2.2.2.2.1 | exact Ne.symm hc9.2.2.2.2.2.2.2.1 | exact Nat.ne_of_lt hc9.2.2.2.2.2.2.2.1 | exact Nat.ne_of_gt hc9.2.2.2.2.2.2.2.1 | exact hc9.2.2.2.2.2.2.2.2.1 | exact Ne.symm hc9.2.2.2.2.2.2.2.2.1 | exact Nat.ne_of_lt hc9.2.2.2.2.2.2.2.2.1 | exact Nat.ne_of_gt hc9.2.2.2.2.2.2.2.2.1 | exact hc9.2.2.2.2.2.2.2.2.2.1 | exact Ne.symm hc9.2.2.2.2.2.2.2.2.2.1 | exact Nat.ne_of_lt hc9.2.2.2.2.2.2.2.2.2.1 | exact Nat.ne_of_gt hc9.2.2.2.2.2.2.2.2.2.1 | exact hc9.2.2.2.2.2.2.2.2.2.2.1 | exact Ne.symm hc9.2.2.2.2.2.2.2.2.2.2.1 | exact Nat.ne_of_lt hc9.2.2.2.2.2.2.2.2.2.2.1 | exact Nat.ne_of_gt hc9.2.2.2.2.2.2.2.2.2.2.1 | exact hc9.2.2.2.2.2.2.2.2.2.2.2.1 | exact Ne.symm hc9.2.2.2.2.2.2.2.2.2.2.2.1 | exact Nat.ne_of_lt hc9.2.2.2.2.2.2.2.2.2.2.2.1 | exact Nat.ne_of_gt hc9.2.2.2.2.2.2.2.2.2.2.2.1 | exact hc9.2.2.2.2.2.2.2.2.2.2.2.2.1 | exact Ne.symm hc9.2.2.2.2.2.2.2.2.2.2.2.2.1 | exact Nat.ne_of_lt hc9.2.2.2.2.2.2.2.2.2.2.2.2.1 | exact Nat.ne_of_gt hc9.2.2.2.2.2.2.2.2.2.2.2.2.1 | exact hc9.2.2.2.2.2.2.2.2.2.2.2.2.2.1 | exact Ne.symm hc9.2.2.2.2.2.2.2.2.2.2.2.2.2.1 | exact Nat.ne_of_lt hc9.2.2.2.2.2.2.2.2.2.2.2.2.2.1 | exact Nat.ne_of_gt hc9.2.2.2.2.2.2.2.2.2.2.2.2.2.1 | exact hc9.2.2.2.2.2.2.2.2.2.2.2.2.2.2.1 | exact Ne.symm hc9.2.2.2.2.2.2.2.2.2.2.2.2.2.2.1 | exact Nat.ne_of_lt hc9.2.2.2.2.2.2.2.2.2.2.2.2.2.2.1 | exact Nat.ne_of_gt hc9.2.2.2.2.2.2.2.2.2.2.2.2.2.2.1 | exact hc9.2.2.2.2.2.2.2.2.2.2.2.2.2.2.2.1 | exact Ne.symm hc9.2.2.2.2.2.2.2.2.2.2.2.2.2.2.2.1 | exact Nat.ne_of_lt hc9.2.2.2.2.2.2.2.2.2.2.2.2.2.2.2.1 | exact Nat.ne_of_gt hc9.2.2.2.2.2.2.2.2.2.2.2.2.2.2.2.1)
  trivial
theorem wordsK_FB : True := by
  (k_with "call ref" => (k_here; (with_reducible show wpAny _ _ (call (Value.ref 170) _) _ _ _); (try k_fold); k_dflt (refine' Ok.useBy (put_ok _ _ _ _ _ ?p0 ?p1 ?p2 ?p3) ?kA ?kh ?kd ?ku ?kB ?kF ?kX ?kN ?kT ?kk ?ks ?_; k_extra "MineSide"; (case ks => k_extra "MineMem"); (case p0 => first | assumption | decide | omega); (case p1 => first | assumption | decide | omega); (case p2 => first | assumption | decide | omega); (case p3 => first | assumption | k_extra "MinePut"); intro b' t' h' tk' hb' F' N'; (first | rw [put1 (by omega) (by omega)] at hb' | rw [put2 (by omega) (by omega)] at hb' | rw [put3 (by omega) (by omega)] at hb' | rw [put65] at hb' | rw [put66] at hb' | skip))))
  (k_with "call ref" => (k_here; (with_reducible show wpAny _ _ (call (Value.ref 165) _) _ _ _); (try k_fold); k_dflt (refine' Ok.useBy (sum_ok _ _ _ _ ?p0 ?p1) ?kA ?kh ?kd ?ku ?kB ?kF ?kX ?kN ?kT ?kk ?ks ?_; k_extra "MineSide"; (case ks => k_extra "MineMem"); (case p0 => assumption); (case p1 => first | omega | k_extra "MineLen"); intro b' t' h' tk' hb' F' N')))
  trivial
def rawOf (pl : List Int) : List Int := [0, 0, 0, 0, 0, 5] ++ [0, 0, 0, 0, 0, 6] ++ List.map (fun c : UInt8 => (c.toNat : Int)) [] ++ [(pl.length : Int) / 256, (pl.length : Int) % 256] ++ pl ++ List.replicate (60 - (14 + pl.length)) 0
def packOf (pl : List Int) : List Int := rawOf pl ++ sumOf (rawOf pl)
abbrev frameL (P : Params) (x dx tg : Addr) (k1 k2 k3 k4 k5 t5 t6 : Tok) (pb : Array UInt8) (tp : Tok) : Led := [(x, instObj 264 dx), (dx, frameD P k1 k2 k3 k4 k5 (.int 5 t5) (.int 6 t6) (.ref tg) .none (.bytes pb tp)), (tg, tup0)]
local macro_rules | `(tactic| walk_at "getMethod bytes") => `(tactic| k_extra "getMethod bytes")
local macro_rules | `(tactic| walk_at "call builtin:bytes.join") => `(tactic| k_extra "call builtin:bytes.join")
local macro_rules | `(tactic| walk_at "EmptySrc") => `(tactic| k_extra "EmptySrc")
theorem wordsFB : True := by
  (k_with "call builtin:len" => (k_here; (with_reducible show wpAny _ _ (call (Value.builtin "len") [Value.bytes _ _]) _ _ _); k_dflt (refine' len_bytes (n := 14 + pl.length) hb' ?hl ?hf ?_; (case hl => (simp only [List.length_cons, List.length_nil, List.length_append, List.length_map] <;> omega)); (case hf => omega); intro t' k')))
  (k_with "MineLen" => ((try simp only [List.length_cons, List.length_nil, List.length_append, List.length_map, List.length_replicate]); omega))
  (k_with "eval ListComp" => (k_dflt (refine' comp_empty ?F0 ?hclos ?hcell ?hkind ?hnames ?hx ?_ ?hs; (case F0 => k_asm); (case hclos => with_unfolding_all rfl); (case hcell => decide); (case hkind => with_unfolding_all rfl); (case hnames => decide); (case hx => with_unfolding_all rfl); (case hs => intro _; with_unfolding_all rfl))))
  (k_with "EmptySrc" => (k_dflt (refine' ⟨_, _, _, _, rfl, rfl, ?F, ?N, ?hm, ?hc, ?hd, ?_⟩; (case F => k_asm); (case N => k_asm); (case hm => k_mem); (case hc => rfl); (case hd => rfl); intro D' h' tk' F' N' o1'; simp only [LCg.Off1, and_true] at o1')))
  (k_with "getMethod bytes" => (refine bjoin_method ?_))
  (k_with "call builtin:bytes.join" => (k_dflt (refine' bjoin ?l ?b ?_; (case l => is_list); (case b => decide); intro t' k')))
  (k_with "call type:bytes" => (k_here; (with_reducible show wpAny _ _ (call (Value.type "bytes") [Value.int _ _]) _ _ _); k_dflt (refine' bytes_zeros ?za ?zb ?_; (case za => exact pad_lo); (case zb => exact pad_hi (by omega)); rw [pad_is]; intro t' k')))
  trivial
section
variable {loose : List Str} {mean : ExcName → Option Value} {mg mb : Str → Option Value}
theorem pack_frame_ok : ∀ (w : World) (x dx tg : Addr) (k1 k2 k3 k4 k5 t5 t6 : Tok) (pb : Array UInt8) (tp : Tok) (pl : List Int), @Ne Nat x dx → @Ne Nat x tg → @Ne Nat dx tg → KBw.bInts pb = pl → pl.length ≤ 40 →
    Ok w loose mean mg mb 320 2560 (.ref 288) [.ref x] (frameL w.params x dx tg k1 k2 k3 k4 k5 t5 t6 pb tp) (RPost (frameL w.params x dx tg k1 k2 k3 k4 k5 t5 t6 pb tp) (BytesAre (packOf pl))) := by
  intro w x dx tg k1 k2 k3 k4 k5 t5 t6 pb tp pl hne1 hne2 hne3 hb hl
  unfold Ok
  k_fill
  intro cn cs a ccd cl outer A₀ base h₀ L m s Q E B F X N T hk hret
  k_extra "MineWalk"
  · refine' leaveR (nw := []) ?F ?N ?_ ?h2 ?h3
    k_extra "MineLeaveR"
    exact hret _ _ _ _ ⟨[], rfl, List.forall_mem_nil _, rfl, _, _, rfl, hb'⟩ F9 N9 K9 Z9
end

-- part UT
section
variable {loose : List Str} {mean : ExcName → Option Value} {mg mb : Str → Option Value}
theorem get_is (w : World) (b : Array UInt8) (tb : Tok) (ks : List Int) (at' many : Int) (ta tm : Tok) (r : Int) (h1 : KBw.bInts b = ks) (h2 : ks.length ≤ 2000) (h3 : 0 ≤ at') (h4 : 1 ≤ many) (h5 : many ≤ 6) (h6 : at' + many ≤ (ks.length : Int)) (hr : beVal (sliceAt ks at' many) = r) :
    Ok w loose mean mg mb 360 2880 (.ref 177) [.bytes b tb, .int at' ta, .int many tm] [] (RPost [] (IntIs r)) := by
  subst hr
  exact get_ok w b tb ks at' many ta tm h1 h2 h3 h4 h5 h6
end
theorem no_kind {prog : Program} {w : World} {A : Around} {E : Value → Shared → Prop} {s : Shared} {P : Params} {n : Int} {t : Tok} {h₀ : Heap} {L : Addr} {m : Str → Option Value} {Q : Value → Shared → Prop} (F : Fr h₀ L s.heap m) (X : (KH P).In h₀) (h : n < 1500) (hq : Q (.bool false) s) :
    wpAny (model prog w) A (compareOp .In (.int n t) (.ref 206)) Q E s := by
  refine PySem.SeqAt.in_tupleAt (items := #[(.int 33024 974), (.int 34984 976)]) (fun _ => false) ⟨o206S3 P, X.keeps F.keep 206 _ rfl, rfl, 0, rfl⟩ (fun y hy => ?_) ?_
  · have : y = .int 33024 974 ∨ y = .int 34984 976 := by simpa using hy
    rcases this with rfl | rfl
    · have z := eqs_int (A := A.in1) (s := s) 33024 n 974 t
      rwa [show ((33024 : Int) == n) = false from by simp; omega] at z
    · have z := eqs_int (A := A.in1) (s := s) 34984 n 976 t
      rwa [show ((34984 : Int) == n) = false from by simp; omega] at z
  · simpa using hq

-- part UV
theorem words0_UV : True := by
  k_with_none
  (k_with "MineEnter" => (refine wpAny_call ?_; k_dflt (refine' enterQ ?k1 ?k2 ?k3 ?k4 ?k5 ?kA ?kF ?kK ?k6 ?k7 ?k8 ?k9 ?kB ?_ ?c2 ?c3 ?c4 ?c5; (case kA => exact rfl); (case kF => exact rfl); (case kK => assumption); (case k1 => k_asm); (case k2 => k_asm); (case k3 => k_asm); (case k4 => k_asm); (case k5 => k_asm); (case k6 => k_is); (case k7 => k_is); (case k8 => ktr_room); (case k9 => first | exact BindsTo.of_eq rfl | exact binds_K (by k_in) rfl (by k_is) rfl rfl rfl); (case c5 => decide); (case kB => exact locs rfl); (case c2 => exact rfl); (case c3 => exact rfl); (case c4 => exact rfl)); intro g' L' h' tk' FG' F' N' B' X' T' hg' lL'; (try k_lt lL'); (try dsimp only); (try k_fold)))
  (k_with "MineEnterC" => (refine wpAny_call ?_; k_dflt (refine' enterQC ?k1 ?k2 ?k3 ?k4 ?k5 ?kA ?kF ?kK ?k6 ?k7 ?k8 ?k9 ?kB ?kD ?_ ?c2 ?c3 ?c4; (case kA => exact rfl); (case kF => exact rfl); (case kK => assumption); (case k1 => k_asm); (case k2 => k_asm); (case k3 => k_asm); (case k4 => k_asm); (case k5 => k_asm); (case k6 => k_is); (case k7 => k_is); (case k8 => ktr_room); (case k9 => first | exact BindsTo.of_eq rfl | exact binds_K (by k_in) rfl (by k_is) rfl rfl rfl); (case kB => exact rfl); (case kD => decide +kernel); (case c2 => exact rfl); (case c3 => exact rfl); (case c4 => exact rfl)); intro g' L' h' tk' cells' FG' F' N' Y' B' X' T' hg' lL'; (try k_lt lL'); k_cells Y'; (try simp only [List.cons_append, List.nil_append] at N'); (try dsimp only); (try k_fold)))
  (k_with "MineWalkC" => (k_extra "MineEnterC"; k_steps; all_goals (try dsimp only); all_goals (try (k_unfold; dsimp only))))
  (k_with "MineWalk" => (k_extra "MineEnter"; k_steps; all_goals (try dsimp only); all_goals (try (k_unfold; dsimp only))))
  (k_with "MineFresh" => first | exact List.forall_mem_nil _ | (refine' List.forall_mem_cons.mpr ⟨?fa, ?fb⟩; (case fa => (repeat (first | exact List.not_mem_nil | (refine' List.not_mem_cons_of_ne_of_not_mem ?fn ?_; (case fn => k_ne)))))); (case fb => k_extra "MineFresh"))
  (k_with "MineMem" => first | exact List.forall_mem_nil _ | (refine' List.forall_mem_cons.mpr ⟨?fa, ?fb⟩; (case fa => k_mem); (case fb => k_extra "MineMem")))
  (k_with "MineSide" => ((case kA => exact rfl); (case kh => exact rfl); (case kd => exact Nat.le_of_ble_eq_true rfl); (case ku => exact Nat.le_of_ble_eq_true rfl); (case kB => k_asm); (case kF => k_asm); (case kX => k_asm); (case kN => k_asm); (case kT => k_asm); (case kk => exact rfl)))
  (k_with "MineLed" => ((try simp only [List.nil_append, List.cons_append] at N'); (try (replace D' := allNe2_of D'; simp only [AllNe2, AllNe, and_true] at D'))))
  (k_with "MineLeaveW" => ((case F => k_asm); (case N => k_asm); (case h1 => k_mem); (case h2 => k_extra "MineMem"); (case h3 => k_extra "MineMem"); intro F9 N9 K9 Z9))
  (k_with "MineLeaveR" => ((case F => k_asm); (case N => k_asm); (case h2 => k_extra "MineMem"); (case h3 => k_extra "MineMem"); intro F9 N9 K9 Z9))
  (k_with "MineGetLen" => (exfalso; omega))
  (k_with "MinePut" => (first | exact Int.lt_of_lt_of_le (b := 256) (by omega) (by decide) | exact Int.lt_of_lt_of_le (b := 65536) (by omega) (by decide) | exact Int.lt_of_lt_of_le (b := 16777216) (by omega) (by decide) | exact Int.lt_of_lt_of_le (b := 281474976710656) (by omega) (by decide)))
  (k_with "MineBytes" => first | assumption | exact bI1 ⟨by omega, by omega⟩ | exact bI2 ⟨by omega, by omega⟩ ⟨by omega, by omega⟩ | exact zeros_ints _ | exact KBw.ints_list _)
  (k_with "MineAdd" => (k_here; (with_reducible show wpAny _ _ (binaryOp Operator.Add (Value.bytes _ _) (Value.bytes _ _)) _ _ _); (refine KBa.add_K (by k_extra "MineBytes") (by k_extra "MineBytes") (by first | (simp only [List.length_cons, List.length_nil, List.length_append, List.length_map, List.length_replicate, rangeInts_length]; omega) | omega | (simp only [List.length_cons, List.length_nil, List.length_append, List.length_map, List.length_replicate, sum_len]; omega)) ?_); intro t' k' hb'))
  (k_with "MinePutBad" => (intro h9; first | (have h8 := Int.lt_of_lt_of_le h9 (show (1 * 2 ^ ((8:Int) * 1).toNat : Int) ≤ 256 by decide); omega) | (have h8 := Int.lt_of_lt_of_le h9 (show (1 * 2 ^ ((8:Int) * 3).toNat : Int) ≤ 16777216 by decide); omega)))
  (k_with "MinePass" => ((rename RaisedS _ _ _ _ _ _ _ _ _ => rsX); k_dflt (refine' leave_onX (news := ?sub) ?K ?F ?hf rsX ?U ?hs ?_; (case sub => first | k_extra "MineSub" | exact []); (case K => k_asm); (case F => k_asm); (case hf => exact rfl); (case U => k_asm); (case hs => k_extra "MineMem"); intro h9 R9 U9)))
  (k_with "MineEnterS" => (refine wpAny_call ?_; k_dflt (refine' enterQS ?k1 ?k2 ?k3 ?k4 ?k5 ?k0 ?kA ?kF ?kK ?k6 ?k7 ?k8 ?k9 ?kB ?_ ?c2 ?c3 ?c4 ?c5; (case kA => exact rfl); (case kF => exact rfl); (case kK => assumption); (case k1 => k_asm); (case k2 => k_asm); (case k3 => k_asm); (case k4 => k_asm); (case k5 => k_asm); (case k0 => k_asm); (case k6 => k_is); (case k7 => k_is); (case k8 => ktr_room); (case k9 => first | exact BindsTo.of_eq rfl | exact binds_K (by k_in) rfl (by k_is) rfl rfl rfl); (case c5 => decide); (case kB => exact locs rfl); (case c2 => exact rfl); (case c3 => exact rfl); (case c4 => exact rfl)); intro g' L' h' tk' FG' F' N' B' X' T' D' hg' lL'; (try k_lt lL'); (try dsimp only); (try k_fold)))
  (k_with "MineEnterSC" => (refine wpAny_call ?_; k_dflt (refine' enterQSC ?k1 ?k2 ?k3 ?k4 ?k5 ?k0 ?kA ?kF ?kK ?k6 ?k7 ?k8 ?k9 ?kB ?kD ?_ ?c2 ?c3 ?c4; (case kA => exact rfl); (case kF => exact rfl); (case kK => assumption); (case k1 => k_asm); (case k2 => k_asm); (case k3 => k_asm); (case k4 => k_asm); (case k5 => k_asm); (case k0 => k_asm); (case k6 => k_is); (case k7 => k_is); (case k8 => ktr_room); (case k9 => first | exact BindsTo.of_eq rfl | exact binds_K (by k_in) rfl (by k_is) rfl rfl rfl); (case kB => exact rfl); (case kD => decide +kernel); (case c2 => exact rfl); (case c3 => exact rfl); (case c4 => exact rfl)); intro g' L' h' tk' cells' FG' F' N' Y' B' X' T' D' hg' lL'; (try k_lt lL'); k_cells Y'; (try simp only [List.cons_append, List.nil_append] at N'); (try dsimp only); (try k_fold)))
  (k_with "MineEnterL" => (refine wpAny_call ?_; k_dflt (refine' enterQL ?k1 ?k2 ?k3 ?k4 ?k5 ?kA ?kF ?kK ?ho ?hc ?hd ?hv ?k8 ?k9 ?kB ?_ ?c2 ?c3 ?c4 ?c5; (case kA => exact rfl); (case kF => exact rfl); (case kK => assumption); (case k1 => k_asm); (case k2 => k_asm); (case k3 => k_asm); (case k4 => k_asm); (case k5 => k_asm); (case ho => k_mem); (case hc => k_mem); (case hd => assumption); (case hv => assumption); (case k8 => ktr_room); (case k9 => exact rfl); (case c5 => decide); (case kB => exact locs rfl); (case c2 => exact rfl); (case c3 => exact rfl); (case c4 => exact rfl)); intro g' L' h' tk' FG' F' N' B' X' T' hg' lL'; (try k_lt lL'); (try dsimp only); (try k_fold)))
  (k_with "MineWalkL" => (k_extra "MineEnterL"; k_dflt (show wpAny _ _ (eval (Expr.Call _ _ _ _) _) _ _ _); k_steps; all_goals (try dsimp only); all_goals (try (k_unfold; dsimp only))))
  (k_with "MineWalkS" => (k_extra "MineEnterS"; k_steps; all_goals (try dsimp only); all_goals (try (k_unfold; dsimp only))))
  (k_with "MineSame" => first | exact SameL.nil | (refine' SameL.cons ?sa ?sb; (case sa => first | exact same_int _ _ _ | exact same_bytes _ _ _ | exact PySem.SeqAt.EqAt.same _); (case sb => k_extra "MineSame")))
  (k_with "MineNeT" => (k_here; (with_reducible show wpAny _ _ (compareOp CmpOp.NotEq (Value.ref _) (Value.ref _)) _ _ _); k_dflt (refine' ne_tups ?N ?ml ?mb ?cl ?dl ?cb ?db ?hu ?hs ?_; (case N => k_asm); (case ml => k_mem); (case mb => k_mem); (case cl => rfl); (case dl => rfl); (case cb => rfl); (case db => rfl); (case hu => ke_room); (case hs => k_extra "MineSame"))))
  (k_with "MineEqT" => (k_here; (with_reducible show wpAny _ _ (compareOp CmpOp.Eq (Value.ref _) (Value.ref _)) _ _ _); k_dflt (refine' eq_tups ?N ?ml ?mb ?cl ?dl ?cb ?db ?hu ?hs ?_; (case N => k_asm); (case ml => k_mem); (case mb => k_mem); (case cl => rfl); (case dl => rfl); (case cb => rfl); (case db => rfl); (case hu => ke_room); (case hs => k_extra "MineSame"))))
  (k_with "MineNew" => ((try dsimp only [AllNe] at D1'); (try dsimp only [AllNe] at D2'); (try dsimp only [AllNe] at D3')))
  (k_with "MineNe1" => (refine neN ?_; (try dsimp only); with_reducible first | assumption | (refine Ne.symm ?_; assumption) | exact Nat.ne_of_lt (by assumption) | exact Nat.ne_of_gt (by assumption) | exact Nat.ne_of_lt (by k_extra "MineLtS") | exact Nat.ne_of_gt (by k_extra "MineLtS") | k_extra "MineNe2"))
  (k_with "MineLtS" => first | assumption | exact Nat.lt_succ_self _ | (refine Nat.lt_succ_of_lt ?_; k_extra "MineLtS"))
  (k_with "MineNe2" => (rename _ ∧ _ => hc9; first | k_extra "MinePrj" | (clear hc9; k_extra "MineNe2")))
  (k_with "MinePrj" => first | exact hc9.1 | exact Ne.symm hc9.1 | exact Nat.ne_of_lt hc9.1 | exact Nat.ne_of_gt hc9.1 | exact hc9.2.1 | exact Ne.symm hc9.2.1 | exact Nat.ne_of_lt hc9.2.1 | exact Nat.ne_of_gt hc9.2.1 | exact hc9.2.2.1 | exact Ne.symm hc9.2.2.1 | exact Nat.ne_of_lt hc9.2.2.1 | exact Nat.ne_of_gt hc9.2.2.1 | exact hc9.2.2.2.1 | exact Ne.symm hc9.2.2.2.1 | exact Nat.ne_of_lt hc9.2.2.2.1 | exact Nat.ne_of_gt hc9.2.2.2.1 | exact hc9.2.2.2.2.1 | exact Ne.symm hc9.2.2.2.2.1 | exact Nat.ne_of_lt hc9.2.2.2.2.1 | exact Nat.ne_of_gt hc9.2.2.2.2.1 | exact hc9.2.2.2.2.2.1 | exact Ne.symm hc9.2.2.2.2.2.1 | exact Nat.ne_of_lt hc9.2.2.2.2.2.1 | exact Nat.ne_of_gt hc9.2.2.2.2.2.1 | exact hc9.2.2.2.2.2.2.1 | exact Ne.symm hc9.2.2.2.2.2.2.1 | exact Nat.ne_of_lt hc9.2.2.2.2.2.2.1 | exact Nat.ne_of_gt hc9.2.2.2.2.2.2.1 | exact hc9.2.2.2.2.2.2.2.1 | exact Ne.symm hc9.2.2.2.2.2.2.2.1 | exact Nat.ne_of_lt hc9.2.2.2.2.2.2.2.1 | exact Nat.ne_of_gt hc9.2.2.2.2.2.2.2.1 | exact hc9.2.2.2.2.2.2.2.2.1 | exact Ne.symm hc9.2.2.2.2.2.2.2.2.1 | exact Nat.ne_of_lt hc9.2.2.2.2.2.2.2.2.1 | exact Nat.ne_of_gt hc9.2.2.2.2.2.2.2.2.1 | exact hc9.2.2.2.2.2.2.2.2.2.1 | exact Ne.symm hc9.2.2.2.2.2.2.2.2.2.1 | exact Nat.ne_of_lt hc9.2.2.2.2.2.2.2.2.2.1 | exact Nat.ne_of_gt hc9.2.2.2.2.2.2.2.2.2.1 | exact hc9.2.2.2.2.2.2.2.2.2.2.1 | exact Ne.symm hc9.2.2.2.2.2.2.2.2.2.2.1 | exact Nat.ne_of_lt hc9.2.2.2.2.2.2.2.2.2.2.1 | exact Nat.ne_of_gt hc9.2.2.2.2.2.2.2.2.2.2.1 | exact hc9.2.2.2.2.2.2.2.2.2.2.2.1 | exact Ne.symm hc9.2.2.2.2.2.2.2.2.2.2.2.1 | exact Nat.ne_of_lt hc9.2.2.2.2.2.2.2.2.2.2.2.1 | exact Nat.ne_of_gt hc9.2.2.2.2.2.2.2.2.2.2.2.1 | exact hc9.2.2.2.2.2.2.2.2.2.2.2.2.1 | exact Ne.symm hc9.2.2.2.2.2.2.2.2.2.2.2.2.1 | exact Nat.ne_of_lt hc9.2.2.2.2.2.2.2.2.2.2.2.2.1 | exact Nat.ne_of_gt hc9.2.2.2.2.2.2.2.2.2.2.2.2.1 | exact hc9.2.2.2.2.2.2.2.2.2.2.2.2.2.1 | exact Ne.symm hc9.2.2.2.2.2.2.2.2.2.2.2.2.2.1 | exact Nat.ne_of_lt hc9.2.2.2.2.2.2.2.2.2.2.2.2.2.1 | exact Nat.ne_of_gt hc9.2.2.2.2.2.2.2.2.2.2.2.2.2.1 | exact hc9.2.2.2.2.2.2.2.2.2.2.2.2.2.2.1 | exact Ne.symm hc9.2.2.2.2.2.2.2.2.2.2.2.2.2.2.1 | exact Nat.ne_of_lt hc9.2.2.2.2.2.2.2.2.2.2.2.2.2.2.1 | exact Nat.ne_of_gt hc9.2.2.2.2.2.2.2.2.2.2.2.2.2.2.1 | exact hc9.2.2.2.2.2.2.2.2.2.2.2.2.2.2.2.1 | exact Ne.symm hc9.2.2.2.2.2.2.2.2.2.2.2.2.2.2.2.1 | exact Nat.ne_of_lt hc9.2.2.2.2.2.2.2.2.2.2.2.2.2.2.2.1 | exact Nat.ne_of_gt hc9.2.2.2.2.2.2.2.2.2.2.2.2.2.2.2.1)
  trivial
theorem wordsK_UV : True := by
  (k_with "call ref" => (k_here; (with_reducible show wpAny _ _ (call (Value.ref 177) _) _ _ _); (try k_fold); k_dflt (refine' Ok.useIn (get_is _ _ _ _ _ _ _ _ _ ?p0 ?p1 ?p2 ?p3 ?p4 ?p5 ?p6) ?kA ?kh ?kd ?ku ?kB ?kF ?kX ?kN ?kT ?kk ?ks ?_; k_extra "MineSide"; (case ks => k_extra "MineMem"); (case p0 => assumption); (case p1 => first | omega | k_extra "MineLen"); (case p2 => first | decide | omega); (case p3 => first | decide | omega); (case p4 => first | decide | omega); (case p5 => first | omega | k_extra "MineLen"); (case p6 => first | assumption | k_extra "MineBe"); intro t' h' tk' F' N')))
  trivial
local macro_rules | `(tactic| walk_at "compareOp In") => `(tactic| k_extra "compareOp In")
theorem wordsUV : True := by
  (k_with "compareOp In" => (k_here; (with_reducible show wpAny _ _ (compareOp CmpOp.In (Value.int _ _) (Value.ref 206)) _ _ _); k_dflt (refine' no_kind ?F ?X ?h ?_; (case F => k_asm); (case X => k_asm); (case h => assumption))))
  trivial
def TagsPost (v : Value) (nw : Led) : Prop := ∃ t tg ta, @Ne Nat tg t ∧ v = .ref t ∧ nw = [(t, tup2 (.ref tg) (.int 12 ta)), (tg, tup0)]
section
variable {loose : List Str} {mean : ExcName → Option Value} {mg mb : Str → Option Value}
theorem tags_ok : ∀ (w : World) (b : Array UInt8) (tb ta : Tok) (ks : List Int) (n : Int), KBw.bInts b = ks → ks.length = 60 → beVal (sliceAt ks 12 2) = n → 0 ≤ n → n < 1500 →
    Ok w loose mean mg mb 335 2680 (.ref 302) [.bytes b tb, .int 12 ta] [] (RPost [] TagsPost) := by
  intro w b tb ta ks n hb hl hn h0 h1
  unfold Ok
  k_fill
  intro cn cs a ccd cl outer A₀ base h₀ L m s Q E B F X N T hk hret
  k_extra "MineWalk"
  · refine' leaveR (nw := [(_, tup2 _ _), (_, tup0)]) ?F ?N ?_ ?h2 ?h3
    k_extra "MineLeaveR"
    exact hret _ _ _ _ ⟨_, rfl, (fun q hq h => by cases h), _, _, _, neN (by omega), rfl, rfl⟩ F9 N9 K9 Z9
end
-- calls taken apart
section
variable {w : World} {loose : List Str} {mean : ExcName → Option Value} {mg mb : Str → Option Value} {D U : Nat} {f : Value} {vs : List Value} {sub : Led}
  {A : Around} {cn : Str} {cs : Scope} {a : Addr} {ccd : Value} {cl : List (Str × Addr)} {outer : List Env} {A₀ : Around} {base h₀ : Heap} {L : Addr} {m : Str → Option Value} {s : Shared} {Q E : Value → Shared → Prop} {news : Led}
theorem Ok.useTags (C : Ok w loose mean mg mb D U f vs sub (RPost sub (TagsPost))) (hA : A.frames = some (envX cn cs L a ccd cl :: outer)) (hh : A.handled = none) (hd : A.depth ≤ D) (hu : A.units ≤ U)
    (B : Below A₀ base outer h₀) (F : Fr h₀ L s.heap m) (X : (KH w.params).In h₀) (N : News h₀ L s.heap news) (T : Top topProg loose mean mg mb h₀) (hk : cs.kind = .function) (hs : ∀ q ∈ sub, q ∈ news)
    (k : ∀ t tg ta h' tk', @Ne Nat tg t → AllNe t news → AllNe tg news → Fr h₀ L h' m → News h₀ L h' ((t, tup2 (.ref tg) (.int 12 ta)) :: (tg, tup0) :: news) → Q (.ref t) { s with heap := h', toks := tk' }) : wpAny (model rw0.prog w) A (call f vs) Q E s :=
  Ok.useR C hA hh hd hu B F X N T hk hs fun v nw h' tk' P F' N' D' => (by obtain ⟨t, tg, ta, ne, rfl, rfl⟩ := P; exact k t tg ta h' tk' ne (allNe_of (D' _ (.head _))) (allNe_of (D' _ (.tail _ (.head _)))) F' N')
end

-- part UF
theorem words0_UF : True := by
  k_with_none
  (k_with "MineEnter" => (refine wpAny_call ?_; k_dflt (refine' enterQ ?k1 ?k2 ?k3 ?k4 ?k5 ?kA ?kF ?kK ?k6 ?k7 ?k8 ?k9 ?kB ?_ ?c2 ?c3 ?c4 ?c5; (case kA => exact rfl); (case kF => exact rfl); (case kK => assumption); (case k1 => k_asm); (case k2 => k_asm); (case k3 => k_asm); (case k4 => k_asm); (case k5 => k_asm); (case k6 => k_is); (case k7 => k_is); (case k8 => ktr_room); (case k9 => first | exact BindsTo.of_eq rfl | exact binds_K (by k_in) rfl (by k_is) rfl rfl rfl); (case c5 => decide); (case kB => exact locs rfl); (case c2 => exact rfl); (case c3 => exact rfl); (case c4 => exact rfl)); intro g' L' h' tk' FG' F' N' B' X' T' hg' lL'; (try k_lt lL'); (try dsimp only); (try k_fold)))
  (k_with "MineEnterC" => (refine wpAny_call ?_; k_dflt (refine' enterQC ?k1 ?k2 ?k3 ?k4 ?k5 ?kA ?kF ?kK ?k6 ?k7 ?k8 ?k9 ?kB ?kD ?_ ?c2 ?c3 ?c4; (case kA => exact rfl); (case kF => exact rfl); (case kK => assumption); (case k1 => k_asm); (case k2 => k_asm); (case k3 => k_asm); (case k4 => k_asm); (case k5 => k_asm); (case k6 => k_is); (case k7 => k_is); (case k8 => ktr_room); (case k9 => first | exact BindsTo.of_eq rfl | exact binds_K (by k_in) rfl (by k_is) rfl rfl rfl); (case kB => exact rfl); (case kD => decide +kernel); (case c2 => exact rfl); (case c3 => exact rfl); (case c4 => exact rfl)); intro g' L' h' tk' cells' FG' F' N' Y' B' X' T' hg' lL'; (try k_lt lL'); k_cells Y'; (try simp only [List.cons_append, List.nil_append] at N'); (try dsimp only); (try k_fold)))
  (k_with "MineWalkC" => (k_extra "MineEnterC"; k_steps; all_goals (try dsimp only); all_goals (try (k_unfold; dsimp only))))
  (k_with "MineWalk" => (k_extra "MineEnter"; k_steps; all_goals (try dsimp only); all_goals (try (k_unfold; dsimp only))))
  (k_with "MineFresh" => first | exact List.forall_mem_nil _ | (refine' List.forall_mem_cons.mpr ⟨?fa, ?fb⟩; (case fa => (repeat (first | exact List.not_mem_nil | (refine' List.not_mem_cons_of_ne_of_not_mem ?fn ?_; (case fn => k_ne)))))); (case fb => k_extra "MineFresh"))
  (k_with "MineMem" => first | exact List.forall_mem_nil _ | (refine' List.forall_mem_cons.mpr ⟨?fa, ?fb⟩; (case fa => k_mem); (case fb => k_extra "MineMem")))
  (k_with "MineSide" => ((case kA => exact rfl); (case kh => exact rfl); (case kd => exact Nat.le_of_ble_eq_true rfl); (case ku => exact Nat.le_of_ble_eq_true rfl); (case kB => k_asm); (case kF => k_asm); (case kX => k_asm); (case kN => k_asm); (case kT => k_asm); (case kk => exact rfl)))
  (k_with "MineLed" => ((try simp only [List.nil_append, List.cons_append] at N'); (try (replace D' := allNe2_of D'; simp only [AllNe2, AllNe, and_true] at D'))))
  (k_with "MineLeaveW" => ((case F => k_asm); (case N => k_asm); (case h1 => k_mem); (case h2 => k_extra "MineMem"); (case h3 => k_extra "MineMem"); intro F9 N9 K9 Z9))
  (k_with "MineLeaveR" => ((case F => k_asm); (case N => k_asm); (case h2 => k_extra "MineMem"); (case h3 => k_extra "MineMem"); intro F9 N9 K9 Z9))
  (k_with "MineGetLen" => (exfalso; omega))
  (k_with "MinePut" => (first | exact Int.lt_of_lt_of_le (b := 256) (by omega) (by decide) | exact Int.lt_of_lt_of_le (b := 65536) (by omega) (by decide) | exact Int.lt_of_lt_of_le (b := 16777216) (by omega) (by decide) | exact Int.lt_of_lt_of_le (b := 281474976710656) (by omega) (by decide)))
  (k_with "MineBytes" => first | assumption | exact bI1 ⟨by omega, by omega⟩ | exact bI2 ⟨by omega, by omega⟩ ⟨by omega, by omega⟩ | exact zeros_ints _ | exact KBw.ints_list _)
  (k_with "MineAdd" => (k_here; (with_reducible show wpAny _ _ (binaryOp Operator.Add (Value.bytes _ _) (Value.bytes _ _)) _ _ _); (refine KBa.add_K (by k_extra "MineBytes") (by k_extra "MineBytes") (by first | (simp only [List.length_cons, List.length_nil, List.length_append, List.length_map, List.length_replicate, rangeInts_length]; omega) | omega | (simp only [List.length_cons, List.length_nil, List.length_append, List.length_map, List.length_replicate, sum_len]; omega)) ?_); intro t' k' hb'))
  (k_with "MinePutBad" => (intro h9; first | (have h8 := Int.lt_of_lt_of_le h9 (show (1 * 2 ^ ((8:Int) * 1).toNat : Int) ≤ 256 by decide); omega) | (have h8 := Int.lt_of_lt_of_le h9 (show (1 * 2 ^ ((8:Int) * 3).toNat : Int) ≤ 16777216 by decide); omega)))
  (k_with "MinePass" => ((rename RaisedS _ _ _ _ _ _ _ _ _ => rsX); k_dflt (refine' leave_onX (news := ?sub) ?K ?F ?hf rsX ?U ?hs ?_; (case sub => first | k_extra "MineSub" | exact []); (case K => k_asm); (case F => k_asm); (case hf => exact rfl); (case U => k_asm); (case hs => k_extra "MineMem"); intro h9 R9 U9)))
  (k_with "MineEnterS" => (refine wpAny_call ?_; k_dflt (refine' enterQS ?k1 ?k2 ?k3 ?k4 ?k5 ?k0 ?kA ?kF ?kK ?k6 ?k7 ?k8 ?k9 ?kB ?_ ?c2 ?c3 ?c4 ?c5; (case kA => exact rfl); (case kF => exact rfl); (case kK => assumption); (case k1 => k_asm); (case k2 => k_asm); (case k3 => k_asm); (case k4 => k_asm); (case k5 => k_asm); (case k0 => k_asm); (case k6 => k_is); (case k7 => k_is); (case k8 => ktr_room); (case k9 => first | exact BindsTo.of_eq rfl | exact binds_K (by k_in) rfl (by k_is) rfl rfl rfl); (case c5 => decide); (case kB => exact locs rfl); (case c2 => exact rfl); (case c3 => exact rfl); (case c4 => exact rfl)); intro g' L' h' tk' FG' F' N' B' X' T' D' hg' lL'; (try k_lt lL'); (try dsimp only); (try k_fold)))
  (k_with "MineEnterSC" => (refine wpAny_call ?_; k_dflt (refine' enterQSC ?k1 ?k2 ?k3 ?k4 ?k5 ?k0 ?kA ?kF ?kK ?k6 ?k7 ?k8 ?k9 ?kB ?kD ?_ ?c2 ?c3 ?c4; (case kA => exact rfl); (case kF => exact rfl); (case kK => assumption); (case k1 => k_asm); (case k2 => k_asm); (case k3 => k_asm); (case k4 => k_asm); (case k5 => k_asm); (case k0 => k_asm); (case k6 => k_is); (case k7 => k_is); (case k8 => ktr_room); (case k9 => first | exact BindsTo.of_eq rfl | exact binds_K (by k_in) rfl (by k_is) rfl rfl rfl); (case kB => exact rfl); (case kD => decide +kernel); (case c2 => exact rfl); (case c3 => exact rfl); (case c4 => exact rfl)); intro g' L' h' tk' cells' FG' F' N' Y' B' X' T' D' hg' lL'; (try k_lt lL'); k_cells Y'; (try simp only [List.cons_append, List.nil_append] at N'); (try dsimp only); (try k_fold)))
  (k_with "MineEnterL" => (refine wpAny_call ?_; k_dflt (refine' enterQL ?k1 ?k2 ?k3 ?k4 ?k5 ?kA ?kF ?kK ?ho ?hc ?hd ?hv ?k8 ?k9 ?kB ?_ ?c2 ?c3 ?c4 ?c5; (case kA => exact rfl); (case kF => exact rfl); (case kK => assumption); (case k1 => k_asm); (case k2 => k_asm); (case k3 => k_asm); (case k4 => k_asm); (case k5 => k_asm); (case ho => k_mem); (case hc => k_mem); (case hd => assumption); (case hv => assumption); (case k8 => ktr_room); (case k9 => exact rfl); (case c5 => decide); (case kB => exact locs rfl); (case c2 => exact rfl); (case c3 => exact rfl); (case c4 => exact rfl)); intro g' L' h' tk' FG' F' N' B' X' T' hg' lL'; (try k_lt lL'); (try dsimp only); (try k_fold)))
  (k_with "MineWalkL" => (k_extra "MineEnterL"; k_dflt (show wpAny _ _ (eval (Expr.Call _ _ _ _) _) _ _ _); k_steps; all_goals (try dsimp only); all_goals (try (k_unfold; dsimp only))))
  (k_with "MineWalkS" => (k_extra "MineEnterS"; k_steps; all_goals (try dsimp only); all_goals (try (k_unfold; dsimp only))))
  (k_with "MineSame" => first | exact SameL.nil | (refine' SameL.cons ?sa ?sb; (case sa => first | exact same_int _ _ _ | exact same_bytes _ _ _ | exact PySem.SeqAt.EqAt.same _); (case sb => k_extra "MineSame")))
  (k_with "MineNeT" => (k_here; (with_reducible show wpAny _ _ (compareOp CmpOp.NotEq (Value.ref _) (Value.ref _)) _ _ _); k_dflt (refine' ne_tups ?N ?ml ?mb ?cl ?dl ?cb ?db ?hu ?hs ?_; (case N => k_asm); (case ml => k_mem); (case mb => k_mem); (case cl => rfl); (case dl => rfl); (case cb => rfl); (case db => rfl); (case hu => ke_room); (case hs => k_extra "MineSame"))))
  (k_with "MineEqT" => (k_here; (with_reducible show wpAny _ _ (compareOp CmpOp.Eq (Value.ref _) (Value.ref _)) _ _ _); k_dflt (refine' eq_tups ?N ?ml ?mb ?cl ?dl ?cb ?db ?hu ?hs ?_; (case N => k_asm); (case ml => k_mem); (case mb => k_mem); (case cl => rfl); (case dl => rfl); (case cb => rfl); (case db => rfl); (case hu => ke_room); (case hs => k_extra "MineSame"))))
  (k_with "MineNew" => ((try dsimp only [AllNe] at D1'); (try dsimp only [AllNe] at D2'); (try dsimp only [AllNe] at D3')))
  (k_with "MineNe1" => (refine neN ?_; (try dsimp only); with_reducible first | assumption | (refine Ne.symm ?_; assumption) | exact Nat.ne_of_lt (by assumption) | exact Nat.ne_of_gt (by assumption) | exact Nat.ne_of_lt (by k_extra "MineLtS") | exact Nat.ne_of_gt (by k_extra "MineLtS") | k_extra "MineNe2"))
  (k_with "MineLtS" => first | assumption | exact Nat.lt_succ_self _ | (refine Nat.lt_succ_of_lt ?_; k_extra "MineLtS"))
  (k_with "MineNe2" => (rename _ ∧ _ => hc9; first | k_extra "MinePrj" | (clear hc9; k_extra "MineNe2")))
  (k_with "MinePrj" => first | exact hc9.1 | exact Ne.symm hc9.1 | exact Nat.ne_of_lt hc9.1 | exact Nat.ne_of_gt hc9.1 | exact hc9.2.1 | exact Ne.symm hc9.2.1 | exact Nat.ne_of_lt hc9.2.1 | exact Nat.ne_of_gt hc9.2.1 | exact hc9.2.2.1 | exact Ne.symm hc9.2.2.1 | exact Nat.ne_of_lt hc9.2.2.1 | exact Nat.ne_of_gt hc9.2.2.1 | exact hc9.2.2.2.1 | exact Ne.symm hc9.2.2.2.1 | exact Nat.ne_of_lt hc9.2.2.2.1 | exact Nat.ne_of_gt hc9.2.2.2.1 | exact hc9.2.2.2.2.1 | exact Ne.symm hc9.2.2.2.2.1 | exact Nat.ne_of_lt hc9.2.2.2.2.1 | exact Nat.ne_of_gt hc9.2.2.2.2.1 | exact hc9.2.2.2.2.2.1 | exact Ne.symm hc9.2.2.2.2.2.1 | exact Nat.ne_of_lt hc9.2.2.2.2.2.1 | exact Nat.ne_of_gt hc9.2.2.2.2.2.1 | exact hc9.2.2.2.2.2.2.1 | exact Ne.symm hc9.2.2.2.2.2.2.1 | exact Nat.ne_of_lt hc9.2.2.2.2.2.2.1 | exact Nat.ne_of_gt hc9.2.2.2.2.2.2.1 | exact hc9.2.2.2.2.2.2.2.1 | exact Ne.symm hc9.2.2.2.2.2.2.2.1 | exact Nat.ne_of_lt hc9.2.2.2.2.2.2.2.1 | exact Nat.ne_of_gt hc9.2.2.2.2.2.2.2.1 | exact hc9.2.2.2.2.2.2.2.2.1 | exact Ne.symm hc9.2.2.2.2.2.2.2.2.1 | exact Nat.ne_of_lt hc9.2.2.2.2.2.2.2.2.1 | exact Nat.ne_of_gt hc9.2.2.2.2.2.2.2.2.1 | exact hc9.2.2.2.2.2.2.2.2.2.1 | exact Ne.symm hc9.2.2.2.2.2.2.2.2.2.1 | exact Nat.ne_of_lt hc9.2.2.2.2.2.2.2.2.2.1 | exact Nat.ne_of_gt hc9.2.2.2.2.2.2.2.2.2.1 | exact hc9.2.2.2.2.2.2.2.2.2.2.1 | exact Ne.symm hc9.2.2.2.2.2.2.2.2.2.2.1 | exact Nat.ne_of_lt hc9.2.2.2.2.2.2.2.2.2.2.1 | exact Nat.ne_of_gt hc9.2.2.2.2.2.2.2.2.2.2.1 | exact hc9.2.2.2.2.2.2.2.2.2.2.2.1 | exact Ne.symm hc9.2.2.2.2.2.2.2.2.2.2.2.1 | exact Nat.ne_of_lt hc9.2.2.2.2.2.2.2.2.2.2.2.1 | exact Nat.ne_of_gt hc9.2.2.2.2.2.2.2.2.2.2.2.1 | exact hc9.2.2.2.2.2.2.2.2.2.2.2.2.1 | exact Ne.symm hc9.2.2.2.2.2.2.2.2.2.2.2.2.1 | exact Nat.ne_of_lt hc9.2.2.2.2.2.2.2.2.2.2.2.2.1 | exact Nat.ne_of_gt hc9.2.2.2.2.2.2.2.2.2.2.2.2.1 | exact hc9.2.2.2.2.2.2.2.2.2.2.2.2.2.1 | exact Ne.symm hc9.2.2.2.2.2.2.2.2.2.2.2.2.2.1 | exact Nat.ne_of_lt hc9.2.2.2.2.2.2.2.2.2.2.2.2.2.1 | exact Nat.ne_of_gt hc9.2.2.2.2.2.2.2.2.2.2.2.2.2.1 | exact hc9.2.2.2.2.2.2.2.2.2.2.2.2.2.2.1 | exact Ne.symm hc9.2.2.2.2.2.2.2.2.2.2.2.2.2.2.1 | exact Nat.ne_of_lt hc9.2.2.2.2.2.2.2.2.2.2.2.2.2.2.1 | exact Nat.ne_of_gt hc9.2.2.2.2.2.2.2.2.2.2.2.2.2.2.1 | exact hc9.2.2.2.2.2.2.2.2.2.2.2.2.2.2.2.1 | exact Ne.symm hc9.2.2.2.2.2.2.2.2.2.2.2.2.2.2.2.1 | exact Nat.ne_of_lt hc9.2.2.2.2.2.2.2.2.2.2.2.2.2.2.2.1 | exact Nat.ne_of_gt hc9.2.2.2.2.2.2.2.2.2.2.2.2.2.2.2.1)
  trivial
theorem wordsK_UF : True := by
  (k_with "call ref" => (k_here; (with_reducible show wpAny _ _ (call (Value.ref 177) _) _ _ _); (try k_fold); k_dflt (refine' Ok.useIn (get_is _ _ _ _ _ _ _ _ _ ?p0 ?p1 ?p2 ?p3 ?p4 ?p5 ?p6) ?kA ?kh ?kd ?ku ?kB ?kF ?kX ?kN ?kT ?kk ?ks ?_; k_extra "MineSide"; (case ks => k_extra "MineMem"); (case p0 => assumption); (case p1 => first | omega | k_extra "MineLen"); (case p2 => first | decide | omega); (case p3 => first | decide | omega); (case p4 => first | decide | omega); (case p5 => first | omega | k_extra "MineLen"); (case p6 => first | assumption | k_extra "MineBe"); intro t' h' tk' F' N')))
  (k_with "call ref" => (k_here; (with_reducible show wpAny _ _ (call (Value.ref 165) _) _ _ _); (try k_fold); k_dflt (refine' Ok.useBy (sum_ok _ _ _ _ ?p0 ?p1) ?kA ?kh ?kd ?ku ?kB ?kF ?kX ?kN ?kT ?kk ?ks ?_; k_extra "MineSide"; (case ks => k_extra "MineMem"); (case p0 => assumption); (case p1 => first | omega | k_extra "MineLen"); intro b' t' h' tk' hb' F' N')))
  (k_with "call ref" => (k_here; (with_reducible show wpAny _ _ (call (Value.ref 302) _) _ _ _); (try k_fold); k_dflt (refine' Ok.useTags (tags_ok _ _ _ _ _ _ ?p0 ?p1 ?p2 ?p3 ?p4) ?kA ?kh ?kd ?ku ?kB ?kF ?kX ?kN ?kT ?kk ?ks ?_; k_extra "MineSide"; (case ks => k_extra "MineMem"); (case p0 => assumption); (case p1 => first | omega | k_extra "MineLen"); (case p2 => first | assumption | k_extra "MineBe"); (case p3 => omega); (case p4 => omega); intro tt' tg' ta' h' tk' ne' D1' D2' F' N'; replace ne' := neN ne'; k_extra "MineNew")))
  (k_with "call ref" => (k_here; (with_reducible show wpAny _ _ (call (Value.ref 264) _) _ _ _); (try k_fold); k_dflt (refine' OkM.useFrame (frame_made _ _ _ _ _ _ _ ) ?kA ?kh ?kd ?ku ?kB ?kF ?kX ?kN ?kT ?kk ?ks ?_; k_extra "MineSide"; (case ks => k_extra "MineMem"); intro x' dx' k1' k2' k3' k4' k5' h' tk' ne' D1' D2' F' N'; replace ne' := neN ne'; k_extra "MineNew")))
  trivial
theorem raw_len {pl : List Int} (h : pl.length ≤ 46) : (rawOf pl).length = 60 := by
  unfold rawOf
  simp only [List.length_append, List.length_cons, List.length_nil, List.length_map, List.length_replicate]
  omega
theorem pack_len {pl : List Int} (h : pl.length ≤ 46) : (packOf pl).length = 64 := by
  unfold packOf
  rw [List.length_append, raw_len h, sum_len]
theorem pack_take {pl : List Int} (h : pl.length ≤ 46) : (packOf pl).take 60 = rawOf pl := by
  unfold packOf
  rw [← raw_len h]; exact List.take_left
theorem pack_drop {pl : List Int} (h : pl.length ≤ 46) : (packOf pl).drop 60 = sumOf (rawOf pl) := by
  unfold packOf
  rw [← raw_len h]; exact List.drop_left
theorem raw_tail {pl : List Int} : (rawOf pl).drop 14 = pl ++ List.replicate (60 - (14 + pl.length)) 0 := by
  unfold rawOf
  rfl
theorem raw_12 {pl : List Int} (h : pl.length ≤ 46) : beVal (sliceAt (rawOf pl) 12 2) = (pl.length : Int) := by
  show beVal [(pl.length : Int) / 256, (pl.length : Int) % 256] = _
  rw [be2 (by omega) (by omega)]; omega
theorem raw_0 {pl : List Int} : beVal (sliceAt (rawOf pl) 0 6) = 5 := by
  show beVal [0, 0, 0, 0, 0, 5] = 5
  decide
theorem raw_6 {pl : List Int} : beVal (sliceAt (rawOf pl) 6 6) = 6 := by
  show beVal [0, 0, 0, 0, 0, 6] = 6
  decide
theorem cut_raw {b : Array UInt8} {pl ks : List Int} (hb : KBw.bInts b = ks) (hks : ks = packOf pl) (h64 : ks.length = 64) (hl : pl.length ≤ 46) : KBw.bInts (KBy.picked b none (some ((ks.length : Int) - 4))) = rawOf pl := by
  rw [picked_upto hb (by omega), h64, hks]
  exact pack_take hl
theorem cut_sum {b : Array UInt8} {pl ks : List Int} (hb : KBw.bInts b = ks) (hks : ks = packOf pl) (h64 : ks.length = 64) (hl : pl.length ≤ 46) : KBw.bInts (KBy.picked b (some ((rawOf pl).length : Int)) none) = sumOf (rawOf pl) := by
  have h60 := raw_len hl
  rw [picked_from hb (by omega) (by omega), h60, hks]
  exact pack_drop hl
theorem cut_pay {b : Array UInt8} {pl : List Int} (hb : KBw.bInts b = rawOf pl) (hl : pl.length ≤ 46) : KBw.bInts (KBy.picked b (some (12 + 2)) none) = pl ++ List.replicate (60 - (14 + pl.length)) 0 := by
  have h60 := raw_len hl
  rw [picked_from hb (by decide) (by omega)]
  exact raw_tail
theorem cut_back {b : Array UInt8} {pl : List Int} (hb : KBw.bInts b = rawOf pl) (hl : pl.length ≤ 46) : KBw.bInts (KBy.picked (KBy.picked b (some (12 + 2)) none) none (some (pl.length : Int))) = pl := by
  rw [picked_upto (cut_pay hb hl) (by omega)]
  show (pl ++ List.replicate _ 0).take pl.length = pl
  exact List.take_left
theorem pay_len {pl : List Int} (hl : pl.length ≤ 46) : (pl ++ List.replicate (60 - (14 + pl.length)) (0 : Int)).length = 46 := by
  rw [List.length_append, List.length_replicate]; omega
def FrameBack (P : Params) (pl : List Int) (v : Value) (nw : Led) : Prop := ∃ x dx tg k1 k2 k3 k4 k5 t5 t6 pb tp, @Ne Nat x dx ∧ @Ne Nat tg x ∧ @Ne Nat tg dx ∧ KBw.bInts pb = pl ∧ v = .ref x ∧ nw = [(x, instObj 264 dx), (dx, frameD P k1 k2 k3 k4 k5 (.int 5 t5) (.int 6 t6) (.ref tg) .none (.bytes pb tp)), (tg, tup0)]
theorem wordsUF : True := by
  (k_with "call type:bytes" => (k_here; (with_reducible show wpAny _ _ (call (Value.type "bytes") [Value.bytes (KBy.picked _ none (some _)) _]) _ _ _); k_dflt ((refine bytes_same ?_); (have hheld9 := cut_raw hb hks h64 hl); (generalize KBy.picked b none (some ((ks.length : Int) - 4)) = held9 at hheld9 ⊢))))
  (k_with "call type:bytes" => (k_here; (with_reducible show wpAny _ _ (call (Value.type "bytes") [Value.bytes (KBy.picked _ (some _) none) _]) _ _ _); k_dflt ((refine bytes_same ?_); (have hsum9 := cut_sum hb hks h64 hl); (generalize KBy.picked b (some ((rawOf pl).length : Int)) none = sum9 at hsum9 ⊢))))
  (k_with "call builtin:len" => (k_here; (with_reducible show wpAny _ _ (call (Value.builtin "len") [Value.bytes _ _]) _ _ _); k_dflt (refine' len_bytes (n := (rawOf pl).length) hheld9 rfl ?hf ?_; (case hf => (rw [raw_len hl]; decide)); intro t' k')))
  (k_with "MineNe" => (k_dflt (refine ne_same (bInts_inj (hb'.trans hsum9.symm)) ?_)))
  (k_with "MineLen" => ((have h60 := raw_len hl); omega))
  (k_with "MineBe" => first | with_reducible exact raw_12 hl | with_reducible exact raw_0 | with_reducible exact raw_6)
  (k_with "call builtin:len" => (k_here; (with_reducible show wpAny _ _ (call (Value.builtin "len") [Value.bytes (KBy.picked _ _ _) _]) _ _ _); k_dflt (refine' len_bytes (n := 46) (cut_pay hheld9 hl) ?hl ?hf ?_; (case hl => exact pay_len hl); (case hf => decide); intro t' k')))
  trivial
section
variable {loose : List Str} {mean : ExcName → Option Value} {mg mb : Str → Option Value}
theorem unpack_frame_ok : ∀ (w : World) (b : Array UInt8) (tb : Tok) (pl ks : List Int), KBw.bInts b = ks → ks = packOf pl → ks.length = 64 → pl.length ≤ 46 →
    Ok w loose mean mg mb 320 2560 (.ref 310) [.bytes b tb] [] (RPost [] (FrameBack w.params pl)) := by
  intro w b tb pl ks hb hks h64 hl
  have h60 := raw_len hl
  unfold Ok
  k_fill
  intro cn cs a ccd cl outer A₀ base h₀ L m s Q E B F X N T hk hret
  k_extra "MineWalk"
  · refine' leaveR (nw := [(_, instObj 264 _), (_, frameD _ _ _ _ _ _ _ _ _ _ _), (_, tup0)]) ?F ?N ?_ ?h2 ?h3
    k_extra "MineLeaveR"
    exact hret _ _ _ _ ⟨_, rfl, (fun q hq h => by cases h), _, _, _, _, _, _, _, _, _, _, _, _, neN (by omega), neN (by omega), neN (by omega), cut_back hheld9 hl, rfl, rfl⟩ F9 N9 K9 Z9
end
-- calls taken apart
section
variable {w : World} {loose : List Str} {mean : ExcName → Option Value} {mg mb : Str → Option Value} {D U : Nat} {f : Value} {vs : List Value} {sub : Led}
  {A : Around} {cn : Str} {cs : Scope} {a : Addr} {ccd : Value} {cl : List (Str × Addr)} {outer : List Env} {A₀ : Around} {base h₀ : Heap} {L : Addr} {m : Str → Option Value} {s : Shared} {Q E : Value → Shared → Prop} {news : Led}
theorem Ok.useFrameB {pl : List Int} (C : Ok w loose mean mg mb D U f vs sub (RPost sub (FrameBack w.params pl))) (hA : A.frames = some (envX cn cs L a ccd cl :: outer)) (hh : A.handled = none) (hd : A.depth ≤ D) (hu : A.units ≤ U)
    (B : Below A₀ base outer h₀) (F : Fr h₀ L s.heap m) (X : (KH w.params).In h₀) (N : News h₀ L s.heap news) (T : Top topProg loose mean mg mb h₀) (hk : cs.kind = .function) (hs : ∀ q ∈ sub, q ∈ news)
    (k : ∀ x dx tg k1 k2 k3 k4 k5 t5 t6 pb tp h' tk', @Ne Nat x dx → @Ne Nat tg x → @Ne Nat tg dx → KBw.bInts pb = pl → AllNe x news → AllNe dx news → AllNe tg news → Fr h₀ L h' m → News h₀ L h' ((x, instObj 264 dx) :: (dx, frameD w.params k1 k2 k3 k4 k5 (.int 5 t5) (.int 6 t6) (.ref tg) .none (.bytes pb tp)) :: (tg, tup0) :: news) → Q (.ref x) { s with heap := h', toks := tk' }) : wpAny (model rw0.prog w) A (call f vs) Q E s :=
  Ok.useR C hA hh hd hu B F X N T hk hs fun v nw h' tk' P F' N' D' => (by obtain ⟨x, dx, tg, k1, k2, k3, k4, k5, t5, t6, pb, tp, n1, n2, n3, hb, rfl, rfl⟩ := P; exact k x dx tg k1 k2 k3 k4 k5 t5 t6 pb tp h' tk' n1 n2 n3 hb (allNe_of (D' _ (.head _))) (allNe_of (D' _ (.tail _ (.head _)))) (allNe_of (D' _ (.tail _ (.tail _ (.head _))))) F' N')
end

-- part PO
theorem words0_PO : True := by
  k_with_none
  (k_with "MineEnter" => (refine wpAny_call ?_; k_dflt (refine' enterQ ?k1 ?k2 ?k3 ?k4 ?k5 ?kA ?kF ?kK ?k6 ?k7 ?k8 ?k9 ?kB ?_ ?c2 ?c3 ?c4 ?c5; (case kA => exact rfl); (case kF => exact rfl); (case kK => assumption); (case k1 => k_asm); (case k2 => k_asm); (case k3 => k_asm); (case k4 => k_asm); (case k5 => k_asm); (case k6 => k_is); (case k7 => k_is); (case k8 => ktr_room); (case k9 => first | exact BindsTo.of_eq rfl | exact binds_K (by k_in) rfl (by k_is) rfl rfl rfl); (case c5 => decide); (case kB => exact locs rfl); (case c2 => exact rfl); (case c3 => exact rfl); (case c4 => exact rfl)); intro g' L' h' tk' FG' F' N' B' X' T' hg' lL'; (try k_lt lL'); (try dsimp only); (try k_fold)))
  (k_with "MineEnterC" => (refine wpAny_call ?_; k_dflt (refine' enterQC ?k1 ?k2 ?k3 ?k4 ?k5 ?kA ?kF ?kK ?k6 ?k7 ?k8 ?k9 ?kB ?kD ?_ ?c2 ?c3 ?c4; (case kA => exact rfl); (case kF => exact rfl); (case kK => assumption); (case k1 => k_asm); (case k2 => k_asm); (case k3 => k_asm); (case k4 => k_asm); (case k5 => k_asm); (case k6 => k_is); (case k7 => k_is); (case k8 => ktr_room); (case k9 => first | exact BindsTo.of_eq rfl | exact binds_K (by k_in) rfl (by k_is) rfl rfl rfl); (case kB => exact rfl); (case kD => decide +kernel); (case c2 => exact rfl); (case c3 => exact rfl); (case c4 => exact rfl)); intro g' L' h' tk' cells' FG' F' N' Y' B' X' T' hg' lL'; (try k_lt lL'); k_cells Y'; (try simp only [List.cons_append, List.nil_append] at N'); (try dsimp only); (try k_fold)))
  (k_with "MineWalkC" => (k_extra "MineEnterC"; k_steps; all_goals (try dsimp only); all_goals (try (k_unfold; dsimp only))))
  (k_with "MineWalk" => (k_extra "MineEnter"; k_steps; all_goals (try dsimp only); all_goals (try (k_unfold; dsimp only))))
  (k_with "MineFresh" => first | exact List.forall_mem_nil _ | (refine' List.forall_mem_cons.mpr ⟨?fa, ?fb⟩; (case fa => (repeat (first | exact List.not_mem_nil | (refine' List.not_mem_cons_of_ne_of_not_mem ?fn ?_; (case fn => k_ne)))))); (case fb => k_extra "MineFresh"))
  (k_with "MineMem" => first | exact List.forall_mem_nil _ | (refine' List.forall_mem_cons.mpr ⟨?fa, ?fb⟩; (case fa => k_mem); (case fb => k_extra "MineMem")))
  (k_with "MineSide" => ((case kA => exact rfl); (case kh => exact rfl); (case kd => exact Nat.le_of_ble_eq_true rfl); (case ku => exact Nat.le_of_ble_eq_true rfl); (case kB => k_asm); (case kF => k_asm); (case kX => k_asm); (case kN => k_asm); (case kT => k_asm); (case kk => exact rfl)))
  (k_with "MineLed" => ((try simp only [List.nil_append, List.cons_append] at N'); (try (replace D' := allNe2_of D'; simp only [AllNe2, AllNe, and_true] at D'))))
  (k_with "MineLeaveW" => ((case F => k_asm); (case N => k_asm); (case h1 => k_mem); (case h2 => k_extra "MineMem"); (case h3 => k_extra "MineMem"); intro F9 N9 K9 Z9))
  (k_with "MineLeaveR" => ((case F => k_asm); (case N => k_asm); (case h2 => k_extra "MineMem"); (case h3 => k_extra "MineMem"); intro F9 N9 K9 Z9))
  (k_with "MineGetLen" => (exfalso; omega))
  (k_with "MinePut" => (first | exact Int.lt_of_lt_of_le (b := 256) (by omega) (by decide) | exact Int.lt_of_lt_of_le (b := 65536) (by omega) (by decide) | exact Int.lt_of_lt_of_le (b := 16777216) (by omega) (by decide) | exact Int.lt_of_lt_of_le (b := 281474976710656) (by omega) (by decide)))
  (k_with "MineBytes" => first | assumption | exact bI1 ⟨by omega, by omega⟩ | exact bI2 ⟨by omega, by omega⟩ ⟨by omega, by omega⟩ | exact zeros_ints _ | exact KBw.ints_list _)
  (k_with "MineAdd" => (k_here; (with_reducible show wpAny _ _ (binaryOp Operator.Add (Value.bytes _ _) (Value.bytes _ _)) _ _ _); (refine KBa.add_K (by k_extra "MineBytes") (by k_extra "MineBytes") (by first | (simp only [List.length_cons, List.length_nil, List.length_append, List.length_map, List.length_replicate, rangeInts_length]; omega) | omega | (simp only [List.length_cons, List.length_nil, List.length_append, List.length_map, List.length_replicate, sum_len]; omega)) ?_); intro t' k' hb'))
  (k_with "MinePutBad" => (intro h9; first | (have h8 := Int.lt_of_lt_of_le h9 (show (1 * 2 ^ ((8:Int) * 1).toNat : Int) ≤ 256 by decide); omega) | (have h8 := Int.lt_of_lt_of_le h9 (show (1 * 2 ^ ((8:Int) * 3).toNat : Int) ≤ 16777216 by decide); omega)))
  (k_with "MinePass" => ((rename RaisedS _ _ _ _ _ _ _ _ _ => rsX); k_dflt (refine' leave_onX (news := ?sub) ?K ?F ?hf rsX ?U ?hs ?_; (case sub => first | k_extra "MineSub" | exact []); (case K => k_asm); (case F => k_asm); (case hf => exact rfl); (case U => k_asm); (case hs => k_extra "MineMem"); intro h9 R9 U9)))
  (k_with "MineEnterS" => (refine wpAny_call ?_; k_dflt (refine' enterQS ?k1 ?k2 ?k3 ?k4 ?k5 ?k0 ?kA ?kF ?kK ?k6 ?k7 ?k8 ?k9 ?kB ?_ ?c2 ?c3 ?c4 ?c5; (case kA => exact rfl); (case kF => exact rfl); (case kK => assumption); (case k1 => k_asm); (case k2 => k_asm); (case k3 => k_asm); (case k4 => k_asm); (case k5 => k_asm); (case k0 => k_asm); (case k6 => k_is); (case k7 => k_is); (case k8 => ktr_room); (case k9 => first | exact BindsTo.of_eq rfl | exact binds_K (by k_in) rfl (by k_is) rfl rfl rfl); (case c5 => decide); (case kB => exact locs rfl); (case c2 => exact rfl); (case c3 => exact rfl); (case c4 => exact rfl)); intro g' L' h' tk' FG' F' N' B' X' T' D' hg' lL'; (try k_lt lL'); (try dsimp only); (try k_fold)))
  (k_with "MineEnterSC" => (refine wpAny_call ?_; k_dflt (refine' enterQSC ?k1 ?k2 ?k3 ?k4 ?k5 ?k0 ?kA ?kF ?kK ?k6 ?k7 ?k8 ?k9 ?kB ?kD ?_ ?c2 ?c3 ?c4; (case kA => exact rfl); (case kF => exact rfl); (case kK => assumption); (case k1 => k_asm); (case k2 => k_asm); (case k3 => k_asm); (case k4 => k_asm); (case k5 => k_asm); (case k0 => k_asm); (case k6 => k_is); (case k7 => k_is); (case k8 => ktr_room); (case k9 => first | exact BindsTo.of_eq rfl | exact binds_K (by k_in) rfl (by k_is) rfl rfl rfl); (case kB => exact rfl); (case kD => decide +kernel); (case c2 => exact rfl); (case c3 => exact rfl); (case c4 => exact rfl)); intro g' L' h' tk' cells' FG' F' N' Y' B' X' T' D' hg' lL'; (try k_lt lL'); k_cells Y'; (try simp only [List.cons_append, List.nil_append] at N'); (try dsimp only); (try k_fold)))
  (k_with "MineEnterL" => (refine wpAny_call ?_; k_dflt (refine' enterQL ?k1 ?k2 ?k3 ?k4 ?k5 ?kA ?kF ?kK ?ho ?hc ?hd ?hv ?k8 ?k9 ?kB ?_ ?c2 ?c3 ?c4 ?c5; (case kA => exact rfl); (case kF => exact rfl); (case kK => assumption); (case k1 => k_asm); (case k2 => k_asm); (case k3 => k_asm); (case k4 => k_asm); (case k5 => k_asm); (case ho => k_mem); (case hc => k_mem); (case hd => assumption); (case hv => assumption); (case k8 => ktr_room); (case k9 => exact rfl); (case c5 => decide); (case kB => exact locs rfl); (case c2 => exact rfl); (case c3 => exact rfl); (case c4 => exact rfl)); intro g' L' h' tk' FG' F' N' B' X' T' hg' lL'; (try k_lt lL'); (try dsimp only); (try k_fold)))
  (k_with "MineWalkL" => (k_extra "MineEnterL"; k_dflt (show wpAny _ _ (eval (Expr.Call _ _ _ _) _) _ _ _); k_steps; all_goals (try dsimp only); all_goals (try (k_unfold; dsimp only))))
  (k_with "MineWalkS" => (k_extra "MineEnterS"; k_steps; all_goals (try dsimp only); all_goals (try (k_unfold; dsimp only))))
  (k_with "MineSame" => first | exact SameL.nil | (refine' SameL.cons ?sa ?sb; (case sa => first | exact same_int _ _ _ | exact same_bytes _ _ _ | exact PySem.SeqAt.EqAt.same _); (case sb => k_extra "MineSame")))
  (k_with "MineNeT" => (k_here; (with_reducible show wpAny _ _ (compareOp CmpOp.NotEq (Value.ref _) (Value.ref _)) _ _ _); k_dflt (refine' ne_tups ?N ?ml ?mb ?cl ?dl ?cb ?db ?hu ?hs ?_; (case N => k_asm); (case ml => k_mem); (case mb => k_mem); (case cl => rfl); (case dl => rfl); (case cb => rfl); (case db => rfl); (case hu => ke_room); (case hs => k_extra "MineSame"))))
  (k_with "MineEqT" => (k_here; (with_reducible show wpAny _ _ (compareOp CmpOp.Eq (Value.ref _) (Value.ref _)) _ _ _); k_dflt (refine' eq_tups ?N ?ml ?mb ?cl ?dl ?cb ?db ?hu ?hs ?_; (case N => k_asm); (case ml => k_mem); (case mb => k_mem); (case cl => rfl); (case dl => rfl); (case cb => rfl); (case db => rfl); (case hu => ke_room); (case hs => k_extra "MineSame"))))
  (k_with "MineNew" => ((try dsimp only [AllNe] at D1'); (try dsimp only [AllNe] at D2'); (try dsimp only [AllNe] at D3')))
  (k_with "MineNe1" => (refine neN ?_; (try dsimp only); with_reducible first | assumption | (refine Ne.symm ?_; assumption) | exact Nat.ne_of_lt (by assumption) | exact Nat.ne_of_gt (by assumption) | exact Nat.ne_of_lt (by k_extra "MineLtS") | exact Nat.ne_of_gt (by k_extra "MineLtS") | k_extra "MineNe2"))
  (k_with "MineLtS" => first | assumption | exact Nat.lt_succ_self _ | (refine Nat.lt_succ_of_lt ?_; k_extra "MineLtS"))
  (k_with "MineNe2" => (rename _ ∧ _ => hc9; first | k_extra "MinePrj" | (clear hc9; k_extra "MineNe2")))
  (k_with "MinePrj" => first | exact hc9.1 | exact Ne.symm hc9.1 | exact Nat.ne_of_lt hc9.1 | exact Nat.ne_of_gt hc9.1 | exact hc9.2.1 | exact Ne.symm hc9.2.1 | exact Nat.ne_of_lt hc9.2.1 | exact Nat.ne_of_gt hc9.2.1 | exact hc9.2.2.1 | exact Ne.symm hc9.2.2.1 | exact Nat.ne_of_lt hc9.2.2.1 | exact Nat.ne_of_gt hc9.2.2.1 | exact hc9.2.2.2.1 | exact Ne.symm hc9.2.2.2.1 | exact Nat.ne_of_lt hc9.2.2.2.1 | exact Nat.ne_of_gt hc9.2.2.2.1 | exact hc9.2.2.2.2.1 | exact Ne.symm hc9.2.2.2.2.1 | exact Nat.ne_of_lt hc9.2.2.2.2.1 | exact Nat.ne_of_gt hc9.2.2.2.2.1 | exact hc9.2.2.2.2.2.1 | exact Ne.symm hc9.2.2.2.2.2.1 | exact Nat.ne_of_lt hc9.2.2.2.2.2.1 | exact Nat.ne_of_gt hc9.2.2.2.2.2.1 | exact hc9.2.2.2.2.2.2.1 | exact Ne.symm hc9.2.2.2.2.2.2.1 | exact Nat.ne_of_lt hc9.2.2.2.2.2.2.1 | exact Nat.ne_of_gt hc9.2.2.2.2.2.2.1 | exact hc9.2.2.2.2.2.2.2.1 | exact Ne.symm hc9.2.2.2.2.2.2.2.1 | exact Nat.ne_of_lt hc9.2.2.2.2.2.2.2.1 | exact Nat.ne_of_gt hc9.2.2.2.2.2.2.2.1 | exact hc9.2.2.2.2.2.2.2.2.1 | exact Ne.symm hc9.2.2.2.2.2.2.2.2.1 | exact Nat.ne_of_lt hc9.2.2.2.2.2.2.2.2.1 | exact Nat.ne_of_gt hc9.2.2.2.2.2.2.2.2.1 | exact hc9.2.2.2.2.2.2.2.2.2.1 | exact Ne.symm hc9.2.2.2.2.2.2.2.2.2.1 | exact Nat.ne_of_lt hc9.2.2.2.2.2.2.2.2.2.1 | exact Nat.ne_of_gt hc9.2.2.2.2.2.2.2.2.2.1 | exact hc9.2.2.2.2.2.2.2.2.2.2.1 | exact Ne.symm hc9.2.2.2.2.2.2.2.2.2.2.1 | exact Nat.ne_of_lt hc9.2.2.2.2.2.2.2.2.2.2.1 | exact Nat.ne_of_gt hc9.2.2.2.2.2.2.2.2.2.2.1 | exact hc9.2.2.2.2.2.2.2.2.2.2.2.1 | exact Ne.symm hc9.2.2.2.2.2.2.2.2.2.2.2.1 | exact Nat.ne_of_lt hc9.2.2.2.2.2.2.2.2.2.2.2.1 | exact Nat.ne_of_gt hc9.2.2.2.2.2.2.2.2.2.2.2.1 | exact hc9.2.2.2.2.2.2.2.2.2.2.2.2.1 | exact Ne.symm hc9.2.2.2.2.2.2.2.2.2.2.2.2.1 | exact Nat.ne_of_lt hc9.2.2.2.2.2.2.2.2.2.2.2.2.1 | exact Nat.ne_of_gt hc9.2.2.2.2.2.2.2.2.2.2.2.2.1 | exact hc9.2.2.2.2.2.2.2.2.2.2.2.2.2.1 | exact Ne.symm hc9.2.2.2.2.2.2.2.2.2.2.2.2.2.1 | exact Nat.ne_of_lt hc9.2.2.2.2.2.2.2.2.2.2.2.2.2.1 | exact Nat.ne_of_gt hc9.2.2.2.2.2.2.2.2.2.2.2.2.2.1 | exact hc9.2.2.2.2.2.2.2.2.2.2.2.2.2.2.1 | exact Ne.symm hc9.2.2.2.2.2.2.2.2.2.2.2.2.2.2.1 | exact Nat.ne_of_lt hc9.2.2.2.2.2.2.2.2.2.2.2.2.2.2.1 | exact Nat.ne_of_gt hc9.2.2.2.2.2.2.2.2.2.2.2.2.2.2.1 | exact hc9.2.2.2.2.2.2.2.2.2.2.2.2.2.2.2.1 | exact Ne.symm hc9.2.2.2.2.2.2.2.2.2.2.2.2.2.2.2.1 | exact Nat.ne_of_lt hc9.2.2.2.2.2.2.2.2.2.2.2.2.2.2.2.1 | exact Nat.ne_of_gt hc9.2.2.2.2.2.2.2.2.2.2.2.2.2.2.2.1)
  trivial
section
variable (w : World) (loose : List Str) (mean : ExcName → Option Value) (mg mb : Str → Option Value)
-- a call that only makes, and reads what the ground holds
def OkB (D U : Nat) (f : Value) (vs : List Value) (Hp : Heap → Prop) (P : Value → Led → Prop) : Prop :=
  ∀ (cn : Str) (cs : Scope) (a : Addr) (ccd : Value) (cl : List (Str × Addr)) (outer : List Env) (A₀ : Around) (base h₀ : Heap) (L : Addr) (m : Str → Option Value) (s : Shared) (Q E : Value → Shared → Prop),
    Below A₀ base outer h₀ → Fr h₀ L s.heap m → (KH w.params).In h₀ → Top topProg loose mean mg mb h₀ → cs.kind = .function → Hp h₀ →
    (∀ v nw h' tk', P v nw → Fr h₀ L h' m → News h₀ L h' nw → Kept s.heap h' [] → Fresh s.heap [] nw → Q v { s with heap := h', toks := tk' }) →
    wpAny (model rw0.prog w) (ktrTop D U none cn cs L a ccd cl outer) (call f vs) Q E s
end
section
variable {w : World} {loose : List Str} {mean : ExcName → Option Value} {mg mb : Str → Option Value} {D U : Nat} {f : Value} {vs : List Value} {Hp : Heap → Prop} {P : Value → Led → Prop}
  {A : Around} {cn : Str} {cs : Scope} {a : Addr} {ccd : Value} {cl : List (Str × Addr)} {outer : List Env} {A₀ : Around} {base h₀ : Heap} {L : Addr} {m : Str → Option Value} {s : Shared} {Q E : Value → Shared → Prop} {news : Led}
theorem OkB.use (H : OkB w loose mean mg mb D U f vs Hp P) (hA : A.frames = some (envX cn cs L a ccd cl :: outer)) (hh : A.handled = none) (hd : A.depth ≤ D) (hu : A.units ≤ U)
    (B : Below A₀ base outer h₀) (F : Fr h₀ L s.heap m) (X : (KH w.params).In h₀) (N : News h₀ L s.heap news) (T : Top topProg loose mean mg mb h₀) (hk : cs.kind = .function) (hp : Hp h₀)
    (k : ∀ v nw h' tk', P v nw → Fr h₀ L h' m → News h₀ L h' (nw ++ news) → (∀ q ∈ nw, ∀ r ∈ news, r.1 ≠ q.1) → Q v { s with heap := h', toks := tk' }) :
    wpAny (model rw0.prog w) A (call f vs) Q E s := by
  refine wpAny_wider (A' := ktrTop D U none cn cs L a ccd cl outer) (H cn cs a ccd cl outer A₀ base h₀ L m s Q E B F X T hk hp fun v nw h' tk' Pv F' N' K' Z' => k v nw h' tk' Pv F' (fun q hq => ?_) fun q hq r hr e => ?_) hh.symm hd hA.symm rfl hu
  · rcases List.mem_append.mp hq with hq | hq
    · exact N' q hq
    · exact ⟨K' q.1 q.2 (N q hq).1 (fun h => by cases h), (N q hq).2⟩
  · rcases Z' q hq with h | h
    · cases h
    · have := (N r hr).1
      rw [e, h] at this
      cases this
end
theorem kk_in {k : Int} (h0 : 0 ≤ k) (h1 : k ≤ 2) : 0 ≤ 7919 * k * k ∧ 7919 * k * k ≤ 31676 := by
  have : k = 0 ∨ k = 1 ∨ k = 2 := by omega
  rcases this with h | h | h <;> subst h <;> decide
theorem wordsPO : True := by
  (k_with "binaryOp Mult int int" => (refine mul_int (mul_ok (by first | decide | omega) (by first | decide | omega)) ?_))
  trivial
section
variable {loose : List Str} {mean : ExcName → Option Value} {mg mb : Str → Option Value}
def PoolMade (v : Value) (nw : Led) : Prop := ∃ src o, v = .ref src ∧ IsPool o ∧ nw = [(src, o)]
theorem pool_ok : ∀ (w : World) (l : Addr) (vs : List Value) (ns : List Int) (k : Int) (tk : Tok), IntsAre vs ns → ns.length ≤ 63 → 0 ≤ k → k ≤ 2 →
    OkB w loose mean mg mb 340 2720 (.ref 387) [.ref l, .int k tk] (fun h => h.IsList l vs.toArray) PoolMade := by
  intro w l vs ns k tk hi hn h0 h1
  have hkk := kk_in h0 h1
  unfold OkB
  k_fill
  intro cn cs a ccd cl outer A₀ base h₀ L m s Q E B F X T hk hp hret
  have N : News h₀ L s.heap [] := News.nil
  k_extra "MineEnter"
  have hl9 : g'.IsList l vs.toArray := hp.at fun o e => FG'.keep l o e
  k_steps
  all_goals (try dsimp only)
  all_goals (try (k_unfold; dsimp only))
  all_goals (refine' leaveR (nw := [(_, poolO _ _ _ _ _)]) ?F ?N ?_ ?h2 ?h3; k_extra "MineLeaveR"; exact hret _ _ _ _ ⟨_, _, rfl, ⟨_, _, _, _, _, rfl, by first | decide | omega, (fmod_in _ (by decide)).1, (fmod_in _ (by decide)).2⟩, rfl⟩ F9 N9 K9 Z9)
end
section
variable {w : World} {loose : List Str} {mean : ExcName → Option Value} {mg mb : Str → Option Value} {D U : Nat} {f : Value} {vs : List Value} {Hp : Heap → Prop}
  {A : Around} {cn : Str} {cs : Scope} {a : Addr} {ccd : Value} {cl : List (Str × Addr)} {outer : List Env} {A₀ : Around} {base h₀ : Heap} {L : Addr} {m : Str → Option Value} {s : Shared} {Q E : Value → Shared → Prop} {news : Led}
theorem OkB.usePool (H : OkB w loose mean mg mb D U f vs Hp PoolMade) (hA : A.frames = some (envX cn cs L a ccd cl :: outer)) (hh : A.handled = none) (hd : A.depth ≤ D) (hu : A.units ≤ U)
    (B : Below A₀ base outer h₀) (F : Fr h₀ L s.heap m) (X : (KH w.params).In h₀) (N : News h₀ L s.heap news) (T : Top topProg loose mean mg mb h₀) (hk : cs.kind = .function) (hp : Hp h₀)
    (k : ∀ src o h' tk', IsPool o → (∀ r ∈ news, r.1 ≠ src) → Fr h₀ L h' m → News h₀ L h' ((src, o) :: news) → Q (.ref src) { s with heap := h', toks := tk' }) :
    wpAny (model rw0.prog w) A (call f vs) Q E s :=
  OkB.use H hA hh hd hu B F X N T hk hp fun v nw h' tk' P F' N' D' => (by obtain ⟨src, o, rfl, hP, rfl⟩ := P; exact k src o h' tk' hP (D' _ (.head _)) F' N')
end

-- part TE
section
variable {w : World} {loose : List Str} {mean : ExcName → Option Value} {mg mb : Str → Option Value} {D U : Nat} {f : Value} {vs : List Value} {sub sub2 : Led} {Post Post2 : Value → Led → Prop}
theorem OkS.reorder (H : OkS w loose mean mg mb D U f vs sub Post) (h1 : ∀ q ∈ sub, q ∈ sub2) (h2 : ∀ v l, Post v l → ∃ l2, Post2 v l2 ∧ ∀ q ∈ l2, q ∈ l) : OkS w loose mean mg mb D U f vs sub2 Post2 := by
  intro cn cs a ccd cl outer A₀ base h₀ L m s Q E B F X N T XB TB Dx hk k
  have hmap : ∀ b, b ∈ sub.map (·.1) → b ∈ sub2.map (·.1) := fun b hb => by
    obtain ⟨q, hq, rfl⟩ := List.mem_map.mp hb
    exact List.mem_map_of_mem (h1 q hq)
  refine H cn cs a ccd cl outer A₀ base h₀ L m s Q E B F X (fun q hq => N q (h1 q hq)) T XB TB Dx hk fun v sub' h' tk' g' P T' F' N' B' Kp Fh => ?_
  obtain ⟨l2, P2, hl⟩ := h2 v sub' P
  exact k v l2 h' tk' g' P2 T' F' (fun q hq => N' q (hl q hq)) B' (fun b o e nm nf => Kp b o e (fun z => nm (hmap b z)) nf) fun q hq => (Fh q (hl q hq)).elim (fun z => .inl (hmap _ z)) .inr
theorem heardC_ok {fl c' cL cSr src : Addr} {pm ctv : Value} {oc ocL ocS o : Obj} {b : Array UInt8} {tb : Tok} {r : List Int} (h1 : IsCd qualK oc) (h2 : CellIs (.bytes b tb) ocL) (h3 : CellIs (.ref src) ocS) (hP : IsPool o) (hb : KBw.bInts b = (170 : Int) :: 170 :: 3 :: r) (hl : r.length ≤ 50)
    (n1 : @Ne Nat fl src) (n2 : @Ne Nat c' src) (n3 : @Ne Nat cL src) (n4 : @Ne Nat cSr src) :
    OkS w loose mean mg mb 310 2480 (.ref 408) [.ref fl] ((src, o) :: [(fl, lamO qualK (lamAt 57 7) [("source", cSr), ("laid", cL)] pm c' ctv), (c', oc), (cL, ocL), (cSr, ocS)])
      (WPost src [(fl, lamO qualK (lamAt 57 7) [("source", cSr), ("laid", cL)] pm c' ctv), (c', oc), (cL, ocL), (cSr, ocS)] (RefusedW src)) := by
  refine OkS.reorder (heard_bad44 w fl _ _ _ _ _ _ (lamC_bad w fl c' cL cSr src pm ctv oc ocL ocS o b tb r h1 h2 h3 hP hb hl n1 n2 n3 n4)) (fun q hq => ?_) fun v l hp => ?_
  · simp only [List.mem_cons, List.not_mem_nil, or_false] at hq ⊢
    rcases hq with h | h | h | h | h
    · exact .inr (.inl h)
    · exact .inr (.inr (.inl h))
    · exact .inr (.inr (.inr (.inl h)))
    · exact .inr (.inr (.inr (.inr h)))
    · exact .inl h
  · obtain ⟨ht, o', hP', rfl⟩ := hp
    refine ⟨(src, o') :: ([] ++ [(fl, lamO qualK (lamAt 57 7) [("source", cSr), ("laid", cL)] pm c' ctv), (c', oc), (cL, ocL), (cSr, ocS)]), ⟨o', [], rfl, fun q hq => (by cases hq), rfl, hP', ht⟩, fun q hq => ?_⟩
    simp only [List.nil_append, List.mem_cons, List.not_mem_nil, or_false] at hq ⊢
    rcases hq with h | h | h | h | h
    · exact .inr (.inr (.inr (.inr h)))
    · exact .inl h
    · exact .inr (.inl h)
    · exact .inr (.inr (.inl h))
    · exact .inr (.inr (.inr (.inl h)))
end

-- part LR
section
variable {prog : Program} {w : World} {A : Around} {E : Value → Shared → Prop} {s : Shared} {env : Env} {h₀ : Heap} {x : Str} {body : List Stmt} {Q : Flow → Shared → Prop}
-- a loop over a range whose turns may make: an invariant over the frame's map and the ledger
def TurnEnd (h₀ : Heap) (L : Addr) (J : (Str → Option Value) → Led → Prop) (own nx : Led) (s₁ : Shared) (Q : Flow → Shared → Prop) (f : Flow) (s₂ : Shared) : Prop :=
  match f with
  | .ret v => Q (.ret v) s₂
  | .brk => Q .next s₂
  | _ => ∃ h' tk m' nx', s₂ = { s₁ with heap := h', toks := tk } ∧ Fr h₀ L h' m' ∧ News h₀ L h' (own ++ nx') ∧ (∀ p ∈ nx', p.1 ∈ nx.map (·.1) ∨ ∀ r ∈ own, r.1 ≠ p.1) ∧ J m' nx'
theorem range_any {r : Addr} {b₀ : Int} {t₀ u₀ v₀ : Tok} {n : Nat} {m₀ : Str → Option Value} {news : Led} (J : (Str → Option Value) → Led → Prop)
    (hh : A.handled = none) (hr : IsRange s.heap r 0 b₀ 1 t₀ u₀ v₀) (hsmall : Builtin.Range.small 0 b₀ 1 = true) (hn : Builtin.Range.rangeSize 0 b₀ 1 = (n : Int)) (F : Fr h₀ env.locals s.heap m₀) (N : News h₀ env.locals s.heap news) (hj : J m₀ news)
    (turn : ∀ k t m₁ nx h tk own, 0 ≤ k → k < (n : Int) → J m₁ nx → Fr h₀ env.locals h (fun y => if y = x then some (.int k t) else m₁ y) → News h₀ env.locals h (own ++ nx) → (∀ p ∈ own, ∀ q ∈ nx, q.1 ≠ p.1) →
      wpAny (model prog w) A (execs body env) (TurnEnd h₀ env.locals J own nx { s with heap := h, toks := tk } Q) E { s with heap := h, toks := tk })
    (done : ∀ m₁ nx h tk, J m₁ nx → Fr h₀ env.locals h m₁ → News h₀ env.locals h nx → Q .next { s with heap := h, toks := tk }) :
    wpAny (model prog w) A (pyIter (.ref r)) (fun it s₂ => LoopAtV prog w A h₀ env x body Q E it s₂) E s := by
  refine wpAny_pyIter_range hr hsmall ?_
  have W : Walks prog w A s.heap.objs.size [s.heap.objs.size] [s.heap.objs.size] n (fun i v => i < n ∧ ∃ t, v = .int (0 + i * 1) t)
      (fun i h => IsRangeIter h s.heap.objs.size (0 + (i : Nat) * 1) ((n : Int) - (i : Nat)) 1) := (Walks.range hh _ 0 1 n).bound
  refine ⟨_, _, _, n, _, _, m₀, news, fun _ m l => J m l, rfl, W, ?_, ?_, ?_, (by show IsRangeIter _ _ _ _ _; rw [hn]; simpa using Heap.get?_push_size _ rfl), F.push _, (fun p hp => ⟨Heap.get?_push_of_some _ (N p hp).1, (N p hp).2⟩), hj, ?_, ?_⟩
  · intro hm
    exact absurd F.ns.lt ((List.mem_singleton.mp hm) ▸ Nat.lt_irrefl _)
  · intro b hb
    rw [List.mem_singleton.mp hb]
    exact next_is_new F
  · intro p hp hI
    exact absurd (Heap.lt_size (N p hp).1) ((List.mem_singleton.mp hI) ▸ Nat.lt_irrefl _)
  · rintro i v m₁ news₁ s₁ own ⟨hh', tk', rfl⟩ hin ⟨_, t, rfl⟩ hJ hoff hown _ hin2 hst F₁ N₁
    have hI : ∃ o, (s.heap.objs.size, o) ∈ own := by
      obtain ⟨o, ho⟩ : ∃ o, hh'.get? s.heap.objs.size = some o := ⟨_, hst⟩
      exact ⟨o, hin2 _ (.head _) (next_is_new F) o ho⟩
    obtain ⟨oI, hI⟩ := hI
    refine wpAny_mono (turn (0 + (i : Int) * 1) t m₁ news₁ hh' tk' own (by omega) (by omega) hJ F₁ N₁ (fun p hp q hq e => hoff q hq (e ▸ hown p hp))) (fun f s₂ p => ?_) fun _ _ e => e
    have fin : (∃ h' tk m' nx', s₂ = { s with heap := h', toks := tk } ∧ Fr h₀ env.locals h' m' ∧ News h₀ env.locals h' (own ++ nx') ∧ (∀ p ∈ nx', p.1 ∈ news₁.map (·.1) ∨ ∀ r ∈ own, r.1 ≠ p.1) ∧ J m' nx') → LoopStepU h₀ env.locals [s.heap.objs.size] own (fun m l => J m l) { s with heap := hh', toks := tk' } .next s₂ := by
      rintro ⟨h', tk, m', nx', e, F', N', hn, hm⟩
      refine ⟨rfl, h', tk, m', nx', e, F', N', fun p hp hz => ?_, hm⟩
      rcases hn p hp with hn | hn
      · obtain ⟨q, hq, e2⟩ := List.mem_map.mp hn
        exact hoff q hq (by rw [e2]; exact hz)
      · exact hn _ hI (List.mem_singleton.mp hz).symm
    cases f with
    | ret v => exact .ret p
    | brk => exact .brk p
    | next => exact .next (fin p)
    | cont => exact .cont (fin p)
  · rintro h' tk m' news' F' N' _ hJ
    exact done m' news' h' tk hJ F' N'
end

-- part K9
theorem words0_K9 : True := by
  k_with_none
  (k_with "MineEnter" => (refine wpAny_call ?_; k_dflt (refine' enterQ ?k1 ?k2 ?k3 ?k4 ?k5 ?kA ?kF ?kK ?k6 ?k7 ?k8 ?k9 ?kB ?_ ?c2 ?c3 ?c4 ?c5; (case kA => exact rfl); (case kF => exact rfl); (case kK => assumption); (case k1 => k_asm); (case k2 => k_asm); (case k3 => k_asm); (case k4 => k_asm); (case k5 => k_asm); (case k6 => k_is); (case k7 => k_is); (case k8 => ktr_room); (case k9 => first | exact BindsTo.of_eq rfl | exact binds_K (by k_in) rfl (by k_is) rfl rfl rfl); (case c5 => decide); (case kB => exact locs rfl); (case c2 => exact rfl); (case c3 => exact rfl); (case c4 => exact rfl)); intro g' L' h' tk' FG' F' N' B' X' T' hg' lL'; (try k_lt lL'); (try dsimp only); (try k_fold)))
  (k_with "MineEnterC" => (refine wpAny_call ?_; k_dflt (refine' enterQC ?k1 ?k2 ?k3 ?k4 ?k5 ?kA ?kF ?kK ?k6 ?k7 ?k8 ?k9 ?kB ?kD ?_ ?c2 ?c3 ?c4; (case kA => exact rfl); (case kF => exact rfl); (case kK => assumption); (case k1 => k_asm); (case k2 => k_asm); (case k3 => k_asm); (case k4 => k_asm); (case k5 => k_asm); (case k6 => k_is); (case k7 => k_is); (case k8 => ktr_room); (case k9 => first | exact BindsTo.of_eq rfl | exact binds_K (by k_in) rfl (by k_is) rfl rfl rfl); (case kB => exact rfl); (case kD => decide +kernel); (case c2 => exact rfl); (case c3 => exact rfl); (case c4 => exact rfl)); intro g' L' h' tk' cells' FG' F' N' Y' B' X' T' hg' lL'; (try k_lt lL'); k_cells Y'; (try simp only [List.cons_append, List.nil_append] at N'); (try dsimp only); (try k_fold)))
  (k_with "MineWalkC" => (k_extra "MineEnterC"; k_steps; all_goals (try dsimp only); all_goals (try (k_unfold; dsimp only))))
  (k_with "MineWalk" => (k_extra "MineEnter"; k_steps; all_goals (try dsimp only); all_goals (try (k_unfold; dsimp only))))
  (k_with "MineFresh" => first | exact List.forall_mem_nil _ | (refine' List.forall_mem_cons.mpr ⟨?fa, ?fb⟩; (case fa => (repeat (first | exact List.not_mem_nil | (refine' List.not_mem_cons_of_ne_of_not_mem ?fn ?_; (case fn => k_ne)))))); (case fb => k_extra "MineFresh"))
  (k_with "MineMem" => first | exact List.forall_mem_nil _ | (refine' List.forall_mem_cons.mpr ⟨?fa, ?fb⟩; (case fa => k_mem); (case fb => k_extra "MineMem")))
  (k_with "MineSide" => ((case kA => exact rfl); (case kh => exact rfl); (case kd => exact Nat.le_of_ble_eq_true rfl); (case ku => exact Nat.le_of_ble_eq_true rfl); (case kB => k_asm); (case kF => k_asm); (case kX => k_asm); (case kN => k_asm); (case kT => k_asm); (case kk => exact rfl)))
  (k_with "MineLed" => ((try simp only [List.nil_append, List.cons_append] at N'); (try (replace D' := allNe2_of D'; simp only [AllNe2, AllNe, and_true] at D'))))
  (k_with "MineLeaveW" => ((case F => k_asm); (case N => k_asm); (case h1 => k_mem); (case h2 => k_extra "MineMem"); (case h3 => k_extra "MineMem"); intro F9 N9 K9 Z9))
  (k_with "MineLeaveR" => ((case F => k_asm); (case N => k_asm); (case h2 => k_extra "MineMem"); (case h3 => k_extra "MineMem"); intro F9 N9 K9 Z9))
  (k_with "MineGetLen" => (exfalso; omega))
  (k_with "MinePut" => (first | exact Int.lt_of_lt_of_le (b := 256) (by omega) (by decide) | exact Int.lt_of_lt_of_le (b := 65536) (by omega) (by decide) | exact Int.lt_of_lt_of_le (b := 16777216) (by omega) (by decide) | exact Int.lt_of_lt_of_le (b := 281474976710656) (by omega) (by decide)))
  (k_with "MineBytes" => first | assumption | exact bI1 ⟨by omega, by omega⟩ | exact bI2 ⟨by omega, by omega⟩ ⟨by omega, by omega⟩ | exact zeros_ints _ | exact KBw.ints_list _)
  (k_with "MineAdd" => (k_here; (with_reducible show wpAny _ _ (binaryOp Operator.Add (Value.bytes _ _) (Value.bytes _ _)) _ _ _); (refine KBa.add_K (by k_extra "MineBytes") (by k_extra "MineBytes") (by first | (simp only [List.length_cons, List.length_nil, List.length_append, List.length_map, List.length_replicate, rangeInts_length]; omega) | omega | (simp only [List.length_cons, List.length_nil, List.length_append, List.length_map, List.length_replicate, sum_len]; omega)) ?_); intro t' k' hb'))
  (k_with "MinePutBad" => (intro h9; first | (have h8 := Int.lt_of_lt_of_le h9 (show (1 * 2 ^ ((8:Int) * 1).toNat : Int) ≤ 256 by decide); omega) | (have h8 := Int.lt_of_lt_of_le h9 (show (1 * 2 ^ ((8:Int) * 3).toNat : Int) ≤ 16777216 by decide); omega)))
  (k_with "MinePass" => ((rename RaisedS _ _ _ _ _ _ _ _ _ => rsX); k_dflt (refine' leave_onX (news := ?sub) ?K ?F ?hf rsX ?U ?hs ?_; (case sub => first | k_extra "MineSub" | exact []); (case K => k_asm); (case F => k_asm); (case hf => exact rfl); (case U => k_asm); (case hs => k_extra "MineMem"); intro h9 R9 U9)))
  (k_with "MineEnterS" => (refine wpAny_call ?_; k_dflt (refine' enterQS ?k1 ?k2 ?k3 ?k4 ?k5 ?k0 ?kA ?kF ?kK ?k6 ?k7 ?k8 ?k9 ?kB ?_ ?c2 ?c3 ?c4 ?c5; (case kA => exact rfl); (case kF => exact rfl); (case kK => assumption); (case k1 => k_asm); (case k2 => k_asm); (case k3 => k_asm); (case k4 => k_asm); (case k5 => k_asm); (case k0 => k_asm); (case k6 => k_is); (case k7 => k_is); (case k8 => ktr_room); (case k9 => first | exact BindsTo.of_eq rfl | exact binds_K (by k_in) rfl (by k_is) rfl rfl rfl); (case c5 => decide); (case kB => exact locs rfl); (case c2 => exact rfl); (case c3 => exact rfl); (case c4 => exact rfl)); intro g' L' h' tk' FG' F' N' B' X' T' D' hg' lL'; (try k_lt lL'); (try dsimp only); (try k_fold)))
  (k_with "MineEnterSC" => (refine wpAny_call ?_; k_dflt (refine' enterQSC ?k1 ?k2 ?k3 ?k4 ?k5 ?k0 ?kA ?kF ?kK ?k6 ?k7 ?k8 ?k9 ?kB ?kD ?_ ?c2 ?c3 ?c4; (case kA => exact rfl); (case kF => exact rfl); (case kK => assumption); (case k1 => k_asm); (case k2 => k_asm); (case k3 => k_asm); (case k4 => k_asm); (case k5 => k_asm); (case k0 => k_asm); (case k6 => k_is); (case k7 => k_is); (case k8 => ktr_room); (case k9 => first | exact BindsTo.of_eq rfl | exact binds_K (by k_in) rfl (by k_is) rfl rfl rfl); (case kB => exact rfl); (case kD => decide +kernel); (case c2 => exact rfl); (case c3 => exact rfl); (case c4 => exact rfl)); intro g' L' h' tk' cells' FG' F' N' Y' B' X' T' D' hg' lL'; (try k_lt lL'); k_cells Y'; (try simp only [List.cons_append, List.nil_append] at N'); (try dsimp only); (try k_fold)))
  (k_with "MineEnterL" => (refine wpAny_call ?_; k_dflt (refine' enterQL ?k1 ?k2 ?k3 ?k4 ?k5 ?kA ?kF ?kK ?ho ?hc ?hd ?hv ?k8 ?k9 ?kB ?_ ?c2 ?c3 ?c4 ?c5; (case kA => exact rfl); (case kF => exact rfl); (case kK => assumption); (case k1 => k_asm); (case k2 => k_asm); (case k3 => k_asm); (case k4 => k_asm); (case k5 => k_asm); (case ho => k_mem); (case hc => k_mem); (case hd => assumption); (case hv => assumption); (case k8 => ktr_room); (case k9 => exact rfl); (case c5 => decide); (case kB => exact locs rfl); (case c2 => exact rfl); (case c3 => exact rfl); (case c4 => exact rfl)); intro g' L' h' tk' FG' F' N' B' X' T' hg' lL'; (try k_lt lL'); (try dsimp only); (try k_fold)))
  (k_with "MineWalkL" => (k_extra "MineEnterL"; k_dflt (show wpAny _ _ (eval (Expr.Call _ _ _ _) _) _ _ _); k_steps; all_goals (try dsimp only); all_goals (try (k_unfold; dsimp only))))
  (k_with "MineWalkS" => (k_extra "MineEnterS"; k_steps; all_goals (try dsimp only); all_goals (try (k_unfold; dsimp only))))
  (k_with "MineSame" => first | exact SameL.nil | (refine' SameL.cons ?sa ?sb; (case sa => first | exact same_int _ _ _ | exact same_bytes _ _ _ | exact PySem.SeqAt.EqAt.same _); (case sb => k_extra "MineSame")))
  (k_with "MineNeT" => (k_here; (with_reducible show wpAny _ _ (compareOp CmpOp.NotEq (Value.ref _) (Value.ref _)) _ _ _); k_dflt (refine' ne_tups ?N ?ml ?mb ?cl ?dl ?cb ?db ?hu ?hs ?_; (case N => k_asm); (case ml => k_mem); (case mb => k_mem); (case cl => rfl); (case dl => rfl); (case cb => rfl); (case db => rfl); (case hu => ke_room); (case hs => k_extra "MineSame"))))
  (k_with "MineEqT" => (k_here; (with_reducible show wpAny _ _ (compareOp CmpOp.Eq (Value.ref _) (Value.ref _)) _ _ _); k_dflt (refine' eq_tups ?N ?ml ?mb ?cl ?dl ?cb ?db ?hu ?hs ?_; (case N => k_asm); (case ml => k_mem); (case mb => k_mem); (case cl => rfl); (case dl => rfl); (case cb => rfl); (case db => rfl); (case hu => ke_room); (case hs => k_extra "MineSame"))))
  (k_with "MineNew" => ((try dsimp only [AllNe] at D1'); (try dsimp only [AllNe] at D2'); (try dsimp only [AllNe] at D3')))
  (k_with "MineNe1" => (refine neN ?_; (try dsimp only); with_reducible first | assumption | (refine Ne.symm ?_; assumption) | exact Nat.ne_of_lt (by assumption) | exact Nat.ne_of_gt (by assumption) | exact Nat.ne_of_lt (by k_extra "MineLtS") | exact Nat.ne_of_gt (by k_extra "MineLtS") | k_extra "MineNe2"))
  (k_with "MineLtS" => first | assumption | exact Nat.lt_succ_self _ | (refine Nat.lt_succ_of_lt ?_; k_extra "MineLtS"))
  (k_with "MineNe2" => (rename _ ∧ _ => hc9; first | k_extra "MinePrj" | (clear hc9; k_extra "MineNe2")))
  (k_with "MinePrj" => first | exact hc9.1 | exact Ne.symm hc9.1 | exact Nat.ne_of_lt hc9.1 | exact Nat.ne_of_gt hc9.1 | exact hc9.2.1 | exact Ne.symm hc9.2.1 | exact Nat.ne_of_lt hc9.2.1 | exact Nat.ne_of_gt hc9.2.1 | exact hc9.2.2.1 | exact Ne.symm hc9.2.2.1 | exact Nat.ne_of_lt hc9.2.2.1 | exact Nat.ne_of_gt hc9.2.2.1 | exact hc9.2.2.2.1 | exact Ne.symm hc9.2.2.2.1 | exact Nat.ne_of_lt hc9.2.2.2.1 | exact Nat.ne_of_gt hc9.2.2.2.1 | exact hc9.2.2.2.2.1 | exact Ne.symm hc9.2.2.2.2.1 | exact Nat.ne_of_lt hc9.2.2.2.2.1 | exact Nat.ne_of_gt hc9.2.2.2.2.1 | exact hc9.2.2.2.2.2.1 | exact Ne.symm hc9.2.2.2.2.2.1 | exact Nat.ne_of_lt hc9.2.2.2.2.2.1 | exact Nat.ne_of_gt hc9.2.2.2.2.2.1 | exact hc9.2.2.2.2.2.2.1 | exact Ne.symm hc9.2.2.2.2.2.2.1 | exact Nat.ne_of_lt hc9.2.2.2.2.2.2.1 | exact Nat.ne_of_gt hc9.2.2.2.2.2.2.1 | exact hc9.2.2.2.2.2.2.2.1 | exact Ne.symm hc9.2.2.2.2.2.2.2.1 | exact Nat.ne_of_lt hc9.2.2.2.2.2.2.2.1 | exact Nat.ne_of_gt hc9.2.2.2.2.2.2.2.1 | exact hc9.2.2.2.2.2.2.2.2.1 | exact Ne.symm hc9.2.2.2.2.2.2.2.2.1 | exact Nat.ne_of_lt hc9.2.2.2.2.2.2.2.2.1 | exact Nat.ne_of_gt hc9.2.2.2.2.2.2.2.2.1 | exact hc9.2.2.2.2.2.2.2.2.2.1 | exact Ne.symm hc9.2.2.2.2.2.2.2.2.2.1 | exact Nat.ne_of_lt hc9.2.2.2.2.2.2.2.2.2.1 | exact Nat.ne_of_gt hc9.2.2.2.2.2.2.2.2.2.1 | exact hc9.2.2.2.2.2.2.2.2.2.2.1 | exact Ne.symm hc9.2.2.2.2.2.2.2.2.2.2.1 | exact Nat.ne_of_lt hc9.2.2.2.2.2.2.2.2.2.2.1 | exact Nat.ne_of_gt hc9.2.2.2.2.2.2.2.2.2.2.1 | exact hc9.2.2.2.2.2.2.2.2.2.2.2.1 | exact Ne.symm hc9.2.2.2.2.2.2.2.2.2.2.2.1 | exact Nat.ne_of_lt hc9.2.2.2.2.2.2.2.2.2.2.2.1 | exact Nat.ne_of_gt hc9.2.2.2.2.2.2.2.2.2.2.2.1 | exact hc9.2.2.2.2.2.2.2.2.2.2.2.2.1 | exact Ne.symm hc9.2.2.2.2.2.2.2.2.2.2.2.2.1 | exact Nat.ne_of_lt hc9.2.2.2.2.2.2.2.2.2.2.2.2.1 | exact Nat.ne_of_gt hc9.2.2.2.2.2.2.2.2.2.2.2.2.1 | exact hc9.2.2.2.2.2.2.2.2.2.2.2.2.2.1 | exact Ne.symm hc9.2.2.2.2.2.2.2.2.2.2.2.2.2.1 | exact Nat.ne_of_lt hc9.2.2.2.2.2.2.2.2.2.2.2.2.2.1 | exact Nat.ne_of_gt hc9.2.2.2.2.2.2.2.2.2.2.2.2.2.1 | exact hc9.2.2.2.2.2.2.2.2.2.2.2.2.2.2.1 | exact Ne.symm hc9.2.2.2.2.2.2.2.2.2.2.2.2.2.2.1 | exact Nat.ne_of_lt hc9.2.2.2.2.2.2.2.2.2.2.2.2.2.2.1 | exact Nat.ne_of_gt hc9.2.2.2.2.2.2.2.2.2.2.2.2.2.2.1 | exact hc9.2.2.2.2.2.2.2.2.2.2.2.2.2.2.2.1 | exact Ne.symm hc9.2.2.2.2.2.2.2.2.2.2.2.2.2.2.2.1 | exact Nat.ne_of_lt hc9.2.2.2.2.2.2.2.2.2.2.2.2.2.2.2.1 | exact Nat.ne_of_gt hc9.2.2.2.2.2.2.2.2.2.2.2.2.2.2.2.1)
  trivial
theorem wordsK_K9 : True := by
  (k_with "call ref" => (k_here; (with_reducible show wpAny _ _ (call (Value.ref 352) _) _ _ _); (try k_fold); k_dflt (refine' Ok.useBy (pack_llc_ok _ _ _ _ _ _ _ _ _ _ _ _ _ _ _ _ _ ?p0 ?p1 ?p2 ?p3 ?p4 ?p5) ?kA ?kh ?kd ?ku ?kB ?kF ?kX ?kN ?kT ?kk ?ks ?_; k_extra "MineSide"; (case ks => k_extra "MineMem"); (case p0 => assumption); (case p1 => assumption); (case p2 => first | omega | k_extra "MineLen"); (case p3 => first | assumption | k_extra "MineLaid"); (case p4 => first | assumption | decide); (case p5 => first | assumption | decide); intro b' t' h' tk' hb' F' N')))
  (k_with "call ref" => (k_here; (with_reducible show wpAny _ _ (call (Value.ref 264) _) _ _ _); (try k_fold); k_dflt (refine' OkM.useFrame (frame_made _ _ _ _ _ _ _ ) ?kA ?kh ?kd ?ku ?kB ?kF ?kX ?kN ?kT ?kk ?ks ?_; k_extra "MineSide"; (case ks => k_extra "MineMem"); intro x' dx' k1' k2' k3' k4' k5' h' tk' ne' D1' D2' F' N'; replace ne' := neN ne'; k_extra "MineNew")))
  (k_with "call ref" => (k_here; (with_reducible show wpAny _ _ (call (Value.ref 288) _) _ _ _); (try k_fold); k_dflt (refine' Ok.useBy (pack_frame_ok _ _ _ _ _ _ _ _ _ _ _ _ _ _ ?p0 ?p1 ?p2 ?p3 ?p4) ?kA ?kh ?kd ?ku ?kB ?kF ?kX ?kN ?kT ?kk ?ks ?_; k_extra "MineSide"; (case ks => k_extra "MineMem"); (case p0 => first | assumption | k_ne); (case p1 => first | assumption | k_ne); (case p2 => first | assumption | k_ne); (case p3 => assumption); (case p4 => first | omega | k_extra "MineLen"); intro bf tf h' tk' hbf F' N')))
  (k_with "call ref" => (k_here; (with_reducible show wpAny _ _ (call (Value.ref 310) _) _ _ _); (try k_fold); k_dflt (refine' Ok.useFrameB (unpack_frame_ok _ _ _ _ _ hbf rfl ?p0 ?p1) ?kA ?kh ?kd ?ku ?kB ?kF ?kX ?kN ?kT ?kk ?ks ?_; k_extra "MineSide"; (case ks => k_extra "MineMem"); (case p0 => exact pack_len (by simp only [List.length_cons]; omega)); (case p1 => (simp only [List.length_cons]; omega)); intro xf dxf tgf k1f k2f k3f k4f k5f t5f t6f pbf tpf h' tk' ne1f ne2f ne3f hpf D1' D2' D3' F' N'; (have hp9 := bInts_inj (hpf.trans hbl.symm)); subst hp9; k_extra "MineNew")))
  trivial
local macro_rules | `(tactic| walk_at "compareOp Eq ref ref") => `(tactic| k_extra "MineEqT")
noncomputable abbrev envK (L' : Addr) : Env := envOfC (Str.ofString "_law_kind_right") (scp (fdef 57)) L' 434 (.ref 433)
theorem k9_laid {ph : List Int} : LaidIs ((170 : Int) :: 170 :: 3 :: ph) 170 170 3 ph := .one (by decide) (by decide) rfl
theorem same_tup0 {A : Around} {s : Shared} {h₀ : Heap} {L l b : Addr} {news : Led} {o1 o2 : Obj} (N : News h₀ L s.heap news) (ml : (l, o1) ∈ news) (mb : (b, o2) ∈ news) (c1 : o1.cls = .type "tuple") (d1 : o1.data = .seq #[] 0) (c2 : o2.cls = .type "tuple") (d2 : o2.data = .seq #[] 0) (hne : @Ne Nat l b) (hu : A.units < cLine) : PySem.SeqAt.EqAt A s (.ref l) (.ref b) true :=
  PySem.SeqAt.EqAt.of_refs hne (by
    have h := PySem.SeqAt.RcAt.tuples (A := A) (s := s) (e := fun _ => true) ⟨_, (N _ ml).1, c1, _, d1⟩ ⟨_, (N _ mb).1, c2, _, d2⟩ hu (fun j h1 h2 => absurd h1 (Nat.not_lt_zero _))
    simpa using h)
theorem wordsK9 : True := by
  (k_with "MineTail" => (repeat (first | assumption | refine List.Mem.tail _ ?_)))
  (k_with "MineSame" => (refine' SameL.cons (same_tup0 ?N ?ml ?mb ?c1 ?d1 ?c2 ?d2 ?hne ?hu) ?sb; (case N => k_asm); (case ml => k_mem); (case mb => k_mem); (case c1 => rfl); (case d1 => rfl); (case c2 => rfl); (case d2 => rfl); (case hne => k_ne); (case hu => ke_room); (case sb => k_extra "MineSame")))
  (k_with "MineLaid" => exact k9_laid)
  (k_with "MineLen" => ((try simp only [List.length_cons, List.length_nil, List.length_append]); omega))
  (k_with "eval ListComp" => (k_dflt (refine' comp_empty ?F0 ?hclos ?hcell ?hkind ?hnames ?hx ?_ ?hs; (case F0 => k_asm); (case hclos => with_unfolding_all rfl); (case hcell => decide); (case hkind => with_unfolding_all rfl); (case hnames => decide); (case hx => with_unfolding_all rfl); (case hs => intro _; with_unfolding_all rfl))))
  (k_with "EmptySrc" => (k_dflt (refine' ⟨_, _, _, _, rfl, rfl, ?F, ?N, ?hm, ?hc, ?hd, ?_⟩; (case F => k_asm); (case N => k_asm); (case hm => k_mem); (case hc => rfl); (case hd => rfl); intro D' h' tk' F' N' o1'; simp only [LCg.Off1, and_true] at o1')))
  trivial
section
variable {loose : List Str} {mean : ExcName → Option Value} {mg mb : Str → Option Value}
theorem kind_tail9 : ∀ (w : World) (xh dxh : Addr) (k1 k2 k3 k4 t0 t1 tc tp tl : Tok) (pbh bl : Array UInt8) (ph : List Int) (oL : Obj) (rest : Led), @Ne Nat xh dxh → KBw.bInts pbh = ph → ph.length ≤ 20 → KBw.bInts bl = (170 : Int) :: 170 :: 3 :: ph → oL.data = .cell (some (.bytes bl tl)) →
    ∀ (cn : Str) (cs : Scope) (a : Addr) (ccd : Value) (cl : List (Str × Addr)) (outer : List Env) (base g : Heap) (L L' : Addr) (va vb : Option Value) (m₀ : Str → Option Value) (s : Shared) (Q : Flow → Shared → Prop) (E : Value → Shared → Prop),
    Below (ktrTop 305 2440 none cn cs L a ccd cl outer) base (envX cn cs L a ccd cl :: outer) g → Fr g L' s.heap (fun y => if y = Str.ofString "other" then va else if y = Str.ofString "place" then vb else if y = Str.ofString "head" then some (.ref xh) else m₀ y) →
    (KH w.params).In g → News g L' s.heap ((xh, instObj 334 dxh) :: (dxh, llcD w.params k1 k2 k3 k4 (.int 170 t0) (.int 170 t1) (.int 3 tc) (.bytes pbh tp)) :: (L' + 1 + 1 + 1, oL) :: rest) → Top topProg loose mean mg mb g → cs.kind = .function →
    (∀ h' tk' m', Fr g L' h' m' → News g L' h' rest → Q (.ret (.bool true)) { s with heap := h', toks := tk' }) →
    wpAny (model rw0.prog w) ((ktrTop 305 2440 none cn cs L a ccd cl outer).deeper (envK L')) (execs ((bdy (fdef 57)).drop 9) (envK L')) Q E s := by
  intro w xh dxh k1 k2 k3 k4 t0 t1 tc tp tl pbh bl ph oL rest hne hbh hlh hbl hcL cn cs a ccd cl outer base g L L' va vb m₀ s Q E B F X N T hk hret
  revert X
  k_fill
  intro X
  k_dflt (show wpAny _ _ (execs (_ :: _ :: []) _) _ _ _)
  k_steps
  all_goals (refine' hret _ _ _ ?hF ?hN; (case hF => k_asm); (case hN => exact news_sub (by k_asm) (fun q hq => by k_extra "MineTail")))
end

-- part K7
theorem words0_K7 : True := by
  k_with_none
  (k_with "MineEnter" => (refine wpAny_call ?_; k_dflt (refine' enterQ ?k1 ?k2 ?k3 ?k4 ?k5 ?kA ?kF ?kK ?k6 ?k7 ?k8 ?k9 ?kB ?_ ?c2 ?c3 ?c4 ?c5; (case kA => exact rfl); (case kF => exact rfl); (case kK => assumption); (case k1 => k_asm); (case k2 => k_asm); (case k3 => k_asm); (case k4 => k_asm); (case k5 => k_asm); (case k6 => k_is); (case k7 => k_is); (case k8 => ktr_room); (case k9 => first | exact BindsTo.of_eq rfl | exact binds_K (by k_in) rfl (by k_is) rfl rfl rfl); (case c5 => decide); (case kB => exact locs rfl); (case c2 => exact rfl); (case c3 => exact rfl); (case c4 => exact rfl)); intro g' L' h' tk' FG' F' N' B' X' T' hg' lL'; (try k_lt lL'); (try dsimp only); (try k_fold)))
  (k_with "MineEnterC" => (refine wpAny_call ?_; k_dflt (refine' enterQC ?k1 ?k2 ?k3 ?k4 ?k5 ?kA ?kF ?kK ?k6 ?k7 ?k8 ?k9 ?kB ?kD ?_ ?c2 ?c3 ?c4; (case kA => exact rfl); (case kF => exact rfl); (case kK => assumption); (case k1 => k_asm); (case k2 => k_asm); (case k3 => k_asm); (case k4 => k_asm); (case k5 => k_asm); (case k6 => k_is); (case k7 => k_is); (case k8 => ktr_room); (case k9 => first | exact BindsTo.of_eq rfl | exact binds_K (by k_in) rfl (by k_is) rfl rfl rfl); (case kB => exact rfl); (case kD => decide +kernel); (case c2 => exact rfl); (case c3 => exact rfl); (case c4 => exact rfl)); intro g' L' h' tk' cells' FG' F' N' Y' B' X' T' hg' lL'; (try k_lt lL'); k_cells Y'; (try simp only [List.cons_append, List.nil_append] at N'); (try dsimp only); (try k_fold)))
  (k_with "MineWalkC" => (k_extra "MineEnterC"; k_steps; all_goals (try dsimp only); all_goals (try (k_unfold; dsimp only))))
  (k_with "MineWalk" => (k_extra "MineEnter"; k_steps; all_goals (try dsimp only); all_goals (try (k_unfold; dsimp only))))
  (k_with "MineFresh" => first | exact List.forall_mem_nil _ | (refine' List.forall_mem_cons.mpr ⟨?fa, ?fb⟩; (case fa => (repeat (first | exact List.not_mem_nil | (refine' List.not_mem_cons_of_ne_of_not_mem ?fn ?_; (case fn => k_ne)))))); (case fb => k_extra "MineFresh"))
  (k_with "MineMem" => first | exact List.forall_mem_nil _ | (refine' List.forall_mem_cons.mpr ⟨?fa, ?fb⟩; (case fa => k_mem); (case fb => k_extra "MineMem")))
  (k_with "MineSide" => ((case kA => exact rfl); (case kh => exact rfl); (case kd => exact Nat.le_of_ble_eq_true rfl); (case ku => exact Nat.le_of_ble_eq_true rfl); (case kB => k_asm); (case kF => k_asm); (case kX => k_asm); (case kN => k_asm); (case kT => k_asm); (case kk => exact rfl)))
  (k_with "MineLed" => ((try simp only [List.nil_append, List.cons_append] at N'); (try (replace D' := allNe2_of D'; simp only [AllNe2, AllNe, and_true] at D'))))
  (k_with "MineLeaveW" => ((case F => k_asm); (case N => k_asm); (case h1 => k_mem); (case h2 => k_extra "MineMem"); (case h3 => k_extra "MineMem"); intro F9 N9 K9 Z9))
  (k_with "MineLeaveR" => ((case F => k_asm); (case N => k_asm); (case h2 => k_extra "MineMem"); (case h3 => k_extra "MineMem"); intro F9 N9 K9 Z9))
  (k_with "MineGetLen" => (exfalso; omega))
  (k_with "MinePut" => (first | exact Int.lt_of_lt_of_le (b := 256) (by omega) (by decide) | exact Int.lt_of_lt_of_le (b := 65536) (by omega) (by decide) | exact Int.lt_of_lt_of_le (b := 16777216) (by omega) (by decide) | exact Int.lt_of_lt_of_le (b := 281474976710656) (by omega) (by decide)))
  (k_with "MineBytes" => first | assumption | exact bI1 ⟨by omega, by omega⟩ | exact bI2 ⟨by omega, by omega⟩ ⟨by omega, by omega⟩ | exact zeros_ints _ | exact KBw.ints_list _)
  (k_with "MineAdd" => (k_here; (with_reducible show wpAny _ _ (binaryOp Operator.Add (Value.bytes _ _) (Value.bytes _ _)) _ _ _); (refine KBa.add_K (by k_extra "MineBytes") (by k_extra "MineBytes") (by first | (simp only [List.length_cons, List.length_nil, List.length_append, List.length_map, List.length_replicate, rangeInts_length]; omega) | omega | (simp only [List.length_cons, List.length_nil, List.length_append, List.length_map, List.length_replicate, sum_len]; omega)) ?_); intro t' k' hb'))
  (k_with "MinePutBad" => (intro h9; first | (have h8 := Int.lt_of_lt_of_le h9 (show (1 * 2 ^ ((8:Int) * 1).toNat : Int) ≤ 256 by decide); omega) | (have h8 := Int.lt_of_lt_of_le h9 (show (1 * 2 ^ ((8:Int) * 3).toNat : Int) ≤ 16777216 by decide); omega)))
  (k_with "MinePass" => ((rename RaisedS _ _ _ _ _ _ _ _ _ => rsX); k_dflt (refine' leave_onX (news := ?sub) ?K ?F ?hf rsX ?U ?hs ?_; (case sub => first | k_extra "MineSub" | exact []); (case K => k_asm); (case F => k_asm); (case hf => exact rfl); (case U => k_asm); (case hs => k_extra "MineMem"); intro h9 R9 U9)))
  (k_with "MineEnterS" => (refine wpAny_call ?_; k_dflt (refine' enterQS ?k1 ?k2 ?k3 ?k4 ?k5 ?k0 ?kA ?kF ?kK ?k6 ?k7 ?k8 ?k9 ?kB ?_ ?c2 ?c3 ?c4 ?c5; (case kA => exact rfl); (case kF => exact rfl); (case kK => assumption); (case k1 => k_asm); (case k2 => k_asm); (case k3 => k_asm); (case k4 => k_asm); (case k5 => k_asm); (case k0 => k_asm); (case k6 => k_is); (case k7 => k_is); (case k8 => ktr_room); (case k9 => first | exact BindsTo.of_eq rfl | exact binds_K (by k_in) rfl (by k_is) rfl rfl rfl); (case c5 => decide); (case kB => exact locs rfl); (case c2 => exact rfl); (case c3 => exact rfl); (case c4 => exact rfl)); intro g' L' h' tk' FG' F' N' B' X' T' D' hg' lL'; (try k_lt lL'); (try dsimp only); (try k_fold)))
  (k_with "MineEnterSC" => (refine wpAny_call ?_; k_dflt (refine' enterQSC ?k1 ?k2 ?k3 ?k4 ?k5 ?k0 ?kA ?kF ?kK ?k6 ?k7 ?k8 ?k9 ?kB ?kD ?_ ?c2 ?c3 ?c4; (case kA => exact rfl); (case kF => exact rfl); (case kK => assumption); (case k1 => k_asm); (case k2 => k_asm); (case k3 => k_asm); (case k4 => k_asm); (case k5 => k_asm); (case k0 => k_asm); (case k6 => k_is); (case k7 => k_is); (case k8 => ktr_room); (case k9 => first | exact BindsTo.of_eq rfl | exact binds_K (by k_in) rfl (by k_is) rfl rfl rfl); (case kB => exact rfl); (case kD => decide +kernel); (case c2 => exact rfl); (case c3 => exact rfl); (case c4 => exact rfl)); intro g' L' h' tk' cells' FG' F' N' Y' B' X' T' D' hg' lL'; (try k_lt lL'); k_cells Y'; (try simp only [List.cons_append, List.nil_append] at N'); (try dsimp only); (try k_fold)))
  (k_with "MineEnterL" => (refine wpAny_call ?_; k_dflt (refine' enterQL ?k1 ?k2 ?k3 ?k4 ?k5 ?kA ?kF ?kK ?ho ?hc ?hd ?hv ?k8 ?k9 ?kB ?_ ?c2 ?c3 ?c4 ?c5; (case kA => exact rfl); (case kF => exact rfl); (case kK => assumption); (case k1 => k_asm); (case k2 => k_asm); (case k3 => k_asm); (case k4 => k_asm); (case k5 => k_asm); (case ho => k_mem); (case hc => k_mem); (case hd => assumption); (case hv => assumption); (case k8 => ktr_room); (case k9 => exact rfl); (case c5 => decide); (case kB => exact locs rfl); (case c2 => exact rfl); (case c3 => exact rfl); (case c4 => exact rfl)); intro g' L' h' tk' FG' F' N' B' X' T' hg' lL'; (try k_lt lL'); (try dsimp only); (try k_fold)))
  (k_with "MineWalkL" => (k_extra "MineEnterL"; k_dflt (show wpAny _ _ (eval (Expr.Call _ _ _ _) _) _ _ _); k_steps; all_goals (try dsimp only); all_goals (try (k_unfold; dsimp only))))
  (k_with "MineWalkS" => (k_extra "MineEnterS"; k_steps; all_goals (try dsimp only); all_goals (try (k_unfold; dsimp only))))
  (k_with "MineSame" => first | exact SameL.nil | (refine' SameL.cons ?sa ?sb; (case sa => first | exact same_int _ _ _ | exact same_bytes _ _ _ | exact PySem.SeqAt.EqAt.same _); (case sb => k_extra "MineSame")))
  (k_with "MineNeT" => (k_here; (with_reducible show wpAny _ _ (compareOp CmpOp.NotEq (Value.ref _) (Value.ref _)) _ _ _); k_dflt (refine' ne_tups ?N ?ml ?mb ?cl ?dl ?cb ?db ?hu ?hs ?_; (case N => k_asm); (case ml => k_mem); (case mb => k_mem); (case cl => rfl); (case dl => rfl); (case cb => rfl); (case db => rfl); (case hu => ke_room); (case hs => k_extra "MineSame"))))
  (k_with "MineEqT" => (k_here; (with_reducible show wpAny _ _ (compareOp CmpOp.Eq (Value.ref _) (Value.ref _)) _ _ _); k_dflt (refine' eq_tups ?N ?ml ?mb ?cl ?dl ?cb ?db ?hu ?hs ?_; (case N => k_asm); (case ml => k_mem); (case mb => k_mem); (case cl => rfl); (case dl => rfl); (case cb => rfl); (case db => rfl); (case hu => ke_room); (case hs => k_extra "MineSame"))))
  (k_with "MineNew" => ((try dsimp only [AllNe] at D1'); (try dsimp only [AllNe] at D2'); (try dsimp only [AllNe] at D3')))
  (k_with "MineNe1" => (refine neN ?_; (try dsimp only); with_reducible first | assumption | (refine Ne.symm ?_; assumption) | exact Nat.ne_of_lt (by assumption) | exact Nat.ne_of_gt (by assumption) | exact Nat.ne_of_lt (by k_extra "MineLtS") | exact Nat.ne_of_gt (by k_extra "MineLtS") | k_extra "MineNe2"))
  (k_with "MineLtS" => first | assumption | exact Nat.lt_succ_self _ | (refine Nat.lt_succ_of_lt ?_; k_extra "MineLtS"))
  (k_with "MineNe2" => (rename _ ∧ _ => hc9; first | k_extra "MinePrj" | (clear hc9; k_extra "MineNe2")))
  (k_with "MinePrj" => first | exact hc9.1 | exact Ne.symm hc9.1 | exact Nat.ne_of_lt hc9.1 | exact Nat.ne_of_gt hc9.1 | exact hc9.2.1 | exact Ne.symm hc9.2.1 | exact Nat.ne_of_lt hc9.2.1 | exact Nat.ne_of_gt hc9.2.1 | exact hc9.2.2.1 | exact Ne.symm hc9.2.2.1 | exact Nat.ne_of_lt hc9.2.2.1 | exact Nat.ne_of_gt hc9.2.2.1 | exact hc9.2.2.2.1 | exact Ne.symm hc9.2.2.2.1 | exact Nat.ne_of_lt hc9.2.2.2.1 | exact Nat.ne_of_gt hc9.2.2.2.1 | exact hc9.2.2.2.2.1 | exact Ne.symm hc9.2.2.2.2.1 | exact Nat.ne_of_lt hc9.2.2.2.2.1 | exact Nat.ne_of_gt hc9.2.2.2.2.1 | exact hc9.2.2.2.2.2.1 | exact Ne.symm hc9.2.2.2.2.2.1 | exact Nat.ne_of_lt hc9.2.2.2.2.2.1 | exact Nat.ne_of_gt hc9.2.2.2.2.2.1 | exact hc9.2.2.2.2.2.2.1 | exact Ne.symm hc9.2.2.2.2.2.2.1 | exact Nat.ne_of_lt hc9.2.2.2.2.2.2.1 | exact Nat.ne_of_gt hc9.2.2.2.2.2.2.1 | exact hc9.2.2.2.2.2.2.2.1 | exact Ne.symm hc9.2.2.2.2.2.2.2.1 | exact Nat.ne_of_lt hc9.2.2.2.2.2.2.2.1 | exact Nat.ne_of_gt hc9.2.2.2.2.2.2.2.1 | exact hc9.2.2.2.2.2.2.2.2.1 | exact Ne.symm hc9.2.2.2.2.2.2.2.2.1 | exact Nat.ne_of_lt hc9.2.2.2.2.2.2.2.2.1 | exact Nat.ne_of_gt hc9.2.2.2.2.2.2.2.2.1 | exact hc9.2.2.2.2.2.2.2.2.2.1 | exact Ne.symm hc9.2.2.2.2.2.2.2.2.2.1 | exact Nat.ne_of_lt hc9.2.2.2.2.2.2.2.2.2.1 | exact Nat.ne_of_gt hc9.2.2.2.2.2.2.2.2.2.1 | exact hc9.2.2.2.2.2.2.2.2.2.2.1 | exact Ne.symm hc9.2.2.2.2.2.2.2.2.2.2.1 | exact Nat.ne_of_lt hc9.2.2.2.2.2.2.2.2.2.2.1 | exact Nat.ne_of_gt hc9.2.2.2.2.2.2.2.2.2.2.1 | exact hc9.2.2.2.2.2.2.2.2.2.2.2.1 | exact Ne.symm hc9.2.2.2.2.2.2.2.2.2.2.2.1 | exact Nat.ne_of_lt hc9.2.2.2.2.2.2.2.2.2.2.2.1 | exact Nat.ne_of_gt hc9.2.2.2.2.2.2.2.2.2.2.2.1 | exact hc9.2.2.2.2.2.2.2.2.2.2.2.2.1 | exact Ne.symm hc9.2.2.2.2.2.2.2.2.2.2.2.2.1 | exact Nat.ne_of_lt hc9.2.2.2.2.2.2.2.2.2.2.2.2.1 | exact Nat.ne_of_gt hc9.2.2.2.2.2.2.2.2.2.2.2.2.1 | exact hc9.2.2.2.2.2.2.2.2.2.2.2.2.2.1 | exact Ne.symm hc9.2.2.2.2.2.2.2.2.2.2.2.2.2.1 | exact Nat.ne_of_lt hc9.2.2.2.2.2.2.2.2.2.2.2.2.2.1 | exact Nat.ne_of_gt hc9.2.2.2.2.2.2.2.2.2.2.2.2.2.1 | exact hc9.2.2.2.2.2.2.2.2.2.2.2.2.2.2.1 | exact Ne.symm hc9.2.2.2.2.2.2.2.2.2.2.2.2.2.2.1 | exact Nat.ne_of_lt hc9.2.2.2.2.2.2.2.2.2.2.2.2.2.2.1 | exact Nat.ne_of_gt hc9.2.2.2.2.2.2.2.2.2.2.2.2.2.2.1 | exact hc9.2.2.2.2.2.2.2.2.2.2.2.2.2.2.2.1 | exact Ne.symm hc9.2.2.2.2.2.2.2.2.2.2.2.2.2.2.2.1 | exact Nat.ne_of_lt hc9.2.2.2.2.2.2.2.2.2.2.2.2.2.2.2.1 | exact Nat.ne_of_gt hc9.2.2.2.2.2.2.2.2.2.2.2.2.2.2.2.1)
  trivial
theorem off_sub7 {codes : Led} {l r : List Addr} (h : OwnOff codes l) (hr : ∀ b ∈ r, b ∈ l) : OwnOff codes r := fun p hp b hb => h p hp b (hr b hb)
theorem wordsK7 : True := by
  (k_with "MineTail" => (repeat (first | assumption | refine List.Mem.tail _ ?_)))
  (k_with "MineNes" => first | exact List.forall_mem_nil _ | (refine' List.forall_mem_cons.mpr ⟨?fa, ?fb⟩; (case fa => k_ne); (case fb => k_extra "MineNes")))
  (k_with "MineSideS" => (k_extra "MineSide"; (case ks => k_extra "MineMem"); (case XB => k_asm); (case TB => k_asm); (case Dx => k_asm); (case T0 => first | assumption | exact KtsTurn.refl)))
  (k_with "MineSubs" => first | exact List.forall_mem_nil _ | (refine' List.forall_mem_cons.mpr ⟨?ga, ?gb⟩; (case ga => k_mem); (case gb => k_extra "MineSubs")) | (intro q hq; k_extra "MineTail"))
  (k_with "MineOffK" => (intro b hb; simp only [List.mem_cons, List.not_mem_nil, or_false] at hb; rcases hb with rfl | rfl | rfl | rfl | rfl | rfl | rfl <;> simp))
  (k_with "eval Lambda" => (k_here; k_dflt (refine' kla_eval ?d0 ?_; (case d0 => exact rfl)); k_dflt (refine' kla_any (pre := [(src, _), (L' + 1, _), (L' + 1 + 1, _), (L' + 1 + 1 + 1, _), (L' + 1 + 1 + 1 + 1, _), (L' + 1 + 1 + 1 + 1 + 1, _), (xh, _), (dxh, _)]) (codes := codes) ?F ?N ?T ?C ?cd ?hm ?hs ?hcs ?hne ?hnc ?TO ?cl ?_; (case F => k_asm); (case N => k_asm); (case T => k_asm); (case C => exact code429 (by k_asm)); (case cd => exact rfl); (case hm => k_mem); (case hs => k_extra "MineMem"); (case hcs => (intro q hq; k_extra "MineTail")); (case hne => k_extra "MineNes"); (case hnc => k_all); (case TO => assumption); (case cl => exact rfl)); intro f' c' oc' ctv' codes ps' h' tk' F' N' hi' hmem' hTO' hnw' lf'; simp only [List.cons_append, List.nil_append] at N' lf'; (have hmem9 : List.Mem (c', oc') codes := hmem'); (have hoff := off_take (l := [429, src, L' + 1, L' + 1 + 1, L' + 1 + 1 + 1, L' + 1 + 1 + 1 + 1, L' + 1 + 1 + 1 + 1 + 1]) 6 hoff hnw' rfl); k_lt lf'))
  (k_with "call ref" => (k_here; (have := hmarkC); (with_reducible show wpAny _ _ (call (Value.ref 408) _) _ _ _); (try k_fold); k_dflt (refine' OkS.useRef (OkS.mono (heard_bad56 _ _ _ _ _ _ _ _ (Bad.toP (lamD_bad _ _ _ _ _ _ _ _ _ _ _ _ _ _ _ _ _ _ ?p0 ?p1 ?p2 ?p3 ?p4 ?p5))) refused_of) ?kA ?kh ?kd ?ku ?kB ?kF ?kX ?kN ?kT ?kk ?ks ?XB ?TB ?Dx ?T0 ?_; k_extra "MineSideS"; (case p0 => assumption); (case p1 => assumption); (case p2 => assumption); (case p3 => assumption); (case p4 => assumption); (case p5 => assumption); intro t' h' tk' g' T9' F' N' B' X' TT' D')))
  (k_with "call ref" => (k_here; (fail_if_success (have := hmarkC)); (with_reducible show wpAny _ _ (call (Value.ref 408) _) _ _ _); (try k_fold); k_dflt (refine' OkS.useRefW (heardC_ok (src := src) ?p0 ?p1 ?p2 ?p3 ?p4 ?p5 ?p6 ?p7 ?p8 ?p9) ?kA ?kh ?kd ?ku ?kB ?kF ?kX ?kN ?kT ?kk ?kU ?ks ?XB ?TB ?Dx ?T0 ?_; k_extra "MineSide"; (case kU => (intro; k_upd)); (case ks => k_extra "MineMem"); (case XB => k_asm); (case TB => k_asm); (case Dx => k_asm); (case T0 => first | assumption | exact KtsTurn.refl); (case p0 => assumption); (case p1 => assumption); (case p2 => assumption); (case p3 => assumption); (case p4 => exact hbl); (case p5 => omega); (case p6 => k_ne); (case p7 => exact OwnOff.ne hoff (.tail _ (.head _)) _ hmem'); (case p8 => k_ne); (case p9 => k_ne); intro o' t' h' tk' g' hP' T9' F' N' B' X' TT' D'; (have hmarkC : True := trivial))))
  trivial
section
variable {loose : List Str} {mean : ExcName → Option Value} {mg mb : Str → Option Value}
theorem kind_tail7 : ∀ (w : World) (src : Addr) (o : Obj) (ps : Array Value) (codes : Led) (xh dxh : Addr) (k1 k2 k3 k4 t0 t1 tc tp tl tk2 tk4 tk5 : Tok) (kd d : Int) (pbh bl b5 : Array UInt8) (ph : List Int) (o1 o2 oL o4 o5 : Obj) (L' : Addr),
    IsPool o → TabOk qualK ps codes → OwnOff codes [429, src, L' + 1, L' + 1 + 1, L' + 1 + 1 + 1, L' + 1 + 1 + 1 + 1, L' + 1 + 1 + 1 + 1 + 1] → @Ne Nat src 429 → @LT.lt Nat _ src L' → @LT.lt Nat _ 429 L' →
    @Ne Nat xh dxh → @Ne Nat xh src → @Ne Nat dxh src → @Ne Nat xh 429 → @Ne Nat dxh 429 → KBw.bInts pbh = ph → ph.length ≤ 20 → KBw.bInts bl = (170 : Int) :: 170 :: 3 :: ph → 0 ≤ d → d < 16777216 →
    CellIs (.ref src) o1 → CellIs (.int kd tk2) o2 → CellIs (.bytes bl tl) oL → CellIs (.int d tk4) o4 → CellIs (.bytes b5 tk5) o5 →
    ∀ (cn : Str) (cs : Scope) (a : Addr) (ccd : Value) (cl : List (Str × Addr)) (outer : List Env) (base g : Heap) (L : Addr) (va vb : Option Value) (m₀ : Str → Option Value) (s : Shared) (Q : Flow → Shared → Prop) (E : Value → Shared → Prop),
    Below (ktrTop 305 2440 none cn cs L a ccd cl outer) base (envX cn cs L a ccd cl :: outer) g → Fr g L' s.heap (fun y => if y = Str.ofString "other" then va else if y = Str.ofString "place" then vb else if y = Str.ofString "head" then some (.ref xh) else m₀ y) →
    (KH w.params).In g → News g L' s.heap ((xh, instObj 334 dxh) :: (dxh, llcD w.params k1 k2 k3 k4 (.int 170 t0) (.int 170 t1) (.int 3 tc) (.bytes pbh tp)) :: (L' + 1, o1) :: (L' + 1 + 1, o2) :: (L' + 1 + 1 + 1, oL) :: (L' + 1 + 1 + 1 + 1, o4) :: (L' + 1 + 1 + 1 + 1 + 1, o5) :: (src, o) :: (429, tabObj ps) :: codes) →
    Top topProg loose mean mg mb g → (KH w.params).In base → Top topProg loose mean mg mb base → KtsDicts (frs (envX cn cs L a ccd cl :: outer)) g → cs.kind = .function →
    (∀ o' ps' codes' h' tk' g' m', IsPool o' → TabOk qualK ps' codes' → OwnOff codes' [429, src] → KtsTurn (frs (envX cn cs L a ccd cl :: outer)) g g' → Fr g' L' h' m' → News g' L' h' ((src, o') :: (429, tabObj ps') :: codes') → Q (.ret (.bool true)) { s with heap := h', toks := tk' }) →
    wpAny (model rw0.prog w) ((ktrTop 305 2440 none cn cs L a ccd cl outer).deeper (envK L')) (execs ((bdy (fdef 57)).drop 7) (envK L')) Q E s := by
  intro w src o ps codes xh dxh k1 k2 k3 k4 t0 t1 tc tp tl tk2 tk4 tk5 kd d pbh bl b5 ph o1 o2 oL o4 o5 L' hP hTO hoff hne hlt1 hlt2 neh ne9a ne9b ne9c ne9d hbh hlh hbl ho9a ho9b hc1 hc2 hcL hc4 hc5 cn cs a ccd cl outer base g L va vb m₀ s Q E B F X N T XB TB D hk hret
  revert X
  k_fill
  intro X
  k_dflt (show wpAny _ _ (execs (_ :: _ :: _ :: _ :: []) _) _ _ _)
  repeat' (first | (k_unfold; (try dsimp only)) | ((fail_if_success (with_reducible show wpAny _ _ (execs (Stmt.Assign _ _ _ :: _) _) _ _ _)); first | walk1 | (dsimp only; walk1)))
  · k_dflt (refine' kind_tail9 w xh dxh k1 k2 k3 k4 t0 t1 tc tp tl pbh bl ph oL ((src, _) :: (429, tabObj _) :: codes) neh hbh hlh hbl hcL cn cs a ccd cl outer base _ L L' va vb m₀ _ Q E ?B ?F ?X ?N ?T hk ?k; (case B => k_asm); (case F => k_asm); (case X => k_asm); (case N => exact news_sub (by k_asm) (by k_extra "MineSubs")); (case T => k_asm))
    intro h9 tk9 m9 F9 N9
    exact hret _ _ _ _ _ _ _ (by assumption) (by assumption) (off_sub7 hoff (by intro b hb; rcases List.mem_cons.mp hb with rfl | hb; exact .head _; exact .tail _ (List.mem_cons.mpr (.inl (List.mem_singleton.mp hb))))) (by assumption) F9 N9
end

-- part KR
theorem words0_KR : True := by
  k_with_none
  (k_with "MineEnter" => (refine wpAny_call ?_; k_dflt (refine' enterQ ?k1 ?k2 ?k3 ?k4 ?k5 ?kA ?kF ?kK ?k6 ?k7 ?k8 ?k9 ?kB ?_ ?c2 ?c3 ?c4 ?c5; (case kA => exact rfl); (case kF => exact rfl); (case kK => assumption); (case k1 => k_asm); (case k2 => k_asm); (case k3 => k_asm); (case k4 => k_asm); (case k5 => k_asm); (case k6 => k_is); (case k7 => k_is); (case k8 => ktr_room); (case k9 => first | exact BindsTo.of_eq rfl | exact binds_K (by k_in) rfl (by k_is) rfl rfl rfl); (case c5 => decide); (case kB => exact locs rfl); (case c2 => exact rfl); (case c3 => exact rfl); (case c4 => exact rfl)); intro g' L' h' tk' FG' F' N' B' X' T' hg' lL'; (try k_lt lL'); (try dsimp only); (try k_fold)))
  (k_with "MineEnterC" => (refine wpAny_call ?_; k_dflt (refine' enterQC ?k1 ?k2 ?k3 ?k4 ?k5 ?kA ?kF ?kK ?k6 ?k7 ?k8 ?k9 ?kB ?kD ?_ ?c2 ?c3 ?c4; (case kA => exact rfl); (case kF => exact rfl); (case kK => assumption); (case k1 => k_asm); (case k2 => k_asm); (case k3 => k_asm); (case k4 => k_asm); (case k5 => k_asm); (case k6 => k_is); (case k7 => k_is); (case k8 => ktr_room); (case k9 => first | exact BindsTo.of_eq rfl | exact binds_K (by k_in) rfl (by k_is) rfl rfl rfl); (case kB => exact rfl); (case kD => decide +kernel); (case c2 => exact rfl); (case c3 => exact rfl); (case c4 => exact rfl)); intro g' L' h' tk' cells' FG' F' N' Y' B' X' T' hg' lL'; (try k_lt lL'); k_cells Y'; (try simp only [List.cons_append, List.nil_append] at N'); (try dsimp only); (try k_fold)))
  (k_with "MineWalkC" => (k_extra "MineEnterC"; k_steps; all_goals (try dsimp only); all_goals (try (k_unfold; dsimp only))))
  (k_with "MineWalk" => (k_extra "MineEnter"; k_steps; all_goals (try dsimp only); all_goals (try (k_unfold; dsimp only))))
  (k_with "MineFresh" => first | exact List.forall_mem_nil _ | (refine' List.forall_mem_cons.mpr ⟨?fa, ?fb⟩; (case fa => (repeat (first | exact List.not_mem_nil | (refine' List.not_mem_cons_of_ne_of_not_mem ?fn ?_; (case fn => k_ne)))))); (case fb => k_extra "MineFresh"))
  (k_with "MineMem" => first | exact List.forall_mem_nil _ | (refine' List.forall_mem_cons.mpr ⟨?fa, ?fb⟩; (case fa => k_mem); (case fb => k_extra "MineMem")))
  (k_with "MineSide" => ((case kA => exact rfl); (case kh => exact rfl); (case kd => exact Nat.le_of_ble_eq_true rfl); (case ku => exact Nat.le_of_ble_eq_true rfl); (case kB => k_asm); (case kF => k_asm); (case kX => k_asm); (case kN => k_asm); (case kT => k_asm); (case kk => exact rfl)))
  (k_with "MineLed" => ((try simp only [List.nil_append, List.cons_append] at N'); (try (replace D' := allNe2_of D'; simp only [AllNe2, AllNe, and_true] at D'))))
  (k_with "MineLeaveW" => ((case F => k_asm); (case N => k_asm); (case h1 => k_mem); (case h2 => k_extra "MineMem"); (case h3 => k_extra "MineMem"); intro F9 N9 K9 Z9))
  (k_with "MineLeaveR" => ((case F => k_asm); (case N => k_asm); (case h2 => k_extra "MineMem"); (case h3 => k_extra "MineMem"); intro F9 N9 K9 Z9))
  (k_with "MineGetLen" => (exfalso; omega))
  (k_with "MinePut" => (first | exact Int.lt_of_lt_of_le (b := 256) (by omega) (by decide) | exact Int.lt_of_lt_of_le (b := 65536) (by omega) (by decide) | exact Int.lt_of_lt_of_le (b := 16777216) (by omega) (by decide) | exact Int.lt_of_lt_of_le (b := 281474976710656) (by omega) (by decide)))
  (k_with "MineBytes" => first | assumption | exact bI1 ⟨by omega, by omega⟩ | exact bI2 ⟨by omega, by omega⟩ ⟨by omega, by omega⟩ | exact zeros_ints _ | exact KBw.ints_list _)
  (k_with "MineAdd" => (k_here; (with_reducible show wpAny _ _ (binaryOp Operator.Add (Value.bytes _ _) (Value.bytes _ _)) _ _ _); (refine KBa.add_K (by k_extra "MineBytes") (by k_extra "MineBytes") (by first | (simp only [List.length_cons, List.length_nil, List.length_append, List.length_map, List.length_replicate, rangeInts_length]; omega) | omega | (simp only [List.length_cons, List.length_nil, List.length_append, List.length_map, List.length_replicate, sum_len]; omega)) ?_); intro t' k' hb'))
  (k_with "MinePutBad" => (intro h9; first | (have h8 := Int.lt_of_lt_of_le h9 (show (1 * 2 ^ ((8:Int) * 1).toNat : Int) ≤ 256 by decide); omega) | (have h8 := Int.lt_of_lt_of_le h9 (show (1 * 2 ^ ((8:Int) * 3).toNat : Int) ≤ 16777216 by decide); omega)))
  (k_with "MinePass" => ((rename RaisedS _ _ _ _ _ _ _ _ _ => rsX); k_dflt (refine' leave_onX (news := ?sub) ?K ?F ?hf rsX ?U ?hs ?_; (case sub => first | k_extra "MineSub" | exact []); (case K => k_asm); (case F => k_asm); (case hf => exact rfl); (case U => k_asm); (case hs => k_extra "MineMem"); intro h9 R9 U9)))
  (k_with "MineEnterS" => (refine wpAny_call ?_; k_dflt (refine' enterQS ?k1 ?k2 ?k3 ?k4 ?k5 ?k0 ?kA ?kF ?kK ?k6 ?k7 ?k8 ?k9 ?kB ?_ ?c2 ?c3 ?c4 ?c5; (case kA => exact rfl); (case kF => exact rfl); (case kK => assumption); (case k1 => k_asm); (case k2 => k_asm); (case k3 => k_asm); (case k4 => k_asm); (case k5 => k_asm); (case k0 => k_asm); (case k6 => k_is); (case k7 => k_is); (case k8 => ktr_room); (case k9 => first | exact BindsTo.of_eq rfl | exact binds_K (by k_in) rfl (by k_is) rfl rfl rfl); (case c5 => decide); (case kB => exact locs rfl); (case c2 => exact rfl); (case c3 => exact rfl); (case c4 => exact rfl)); intro g' L' h' tk' FG' F' N' B' X' T' D' hg' lL'; (try k_lt lL'); (try dsimp only); (try k_fold)))
  (k_with "MineEnterSC" => (refine wpAny_call ?_; k_dflt (refine' enterQSC ?k1 ?k2 ?k3 ?k4 ?k5 ?k0 ?kA ?kF ?kK ?k6 ?k7 ?k8 ?k9 ?kB ?kD ?_ ?c2 ?c3 ?c4; (case kA => exact rfl); (case kF => exact rfl); (case kK => assumption); (case k1 => k_asm); (case k2 => k_asm); (case k3 => k_asm); (case k4 => k_asm); (case k5 => k_asm); (case k0 => k_asm); (case k6 => k_is); (case k7 => k_is); (case k8 => ktr_room); (case k9 => first | exact BindsTo.of_eq rfl | exact binds_K (by k_in) rfl (by k_is) rfl rfl rfl); (case kB => exact rfl); (case kD => decide +kernel); (case c2 => exact rfl); (case c3 => exact rfl); (case c4 => exact rfl)); intro g' L' h' tk' cells' FG' F' N' Y' B' X' T' D' hg' lL'; (try k_lt lL'); k_cells Y'; (try simp only [List.cons_append, List.nil_append] at N'); (try dsimp only); (try k_fold)))
  (k_with "MineEnterL" => (refine wpAny_call ?_; k_dflt (refine' enterQL ?k1 ?k2 ?k3 ?k4 ?k5 ?kA ?kF ?kK ?ho ?hc ?hd ?hv ?k8 ?k9 ?kB ?_ ?c2 ?c3 ?c4 ?c5; (case kA => exact rfl); (case kF => exact rfl); (case kK => assumption); (case k1 => k_asm); (case k2 => k_asm); (case k3 => k_asm); (case k4 => k_asm); (case k5 => k_asm); (case ho => k_mem); (case hc => k_mem); (case hd => assumption); (case hv => assumption); (case k8 => ktr_room); (case k9 => exact rfl); (case c5 => decide); (case kB => exact locs rfl); (case c2 => exact rfl); (case c3 => exact rfl); (case c4 => exact rfl)); intro g' L' h' tk' FG' F' N' B' X' T' hg' lL'; (try k_lt lL'); (try dsimp only); (try k_fold)))
  (k_with "MineWalkL" => (k_extra "MineEnterL"; k_dflt (show wpAny _ _ (eval (Expr.Call _ _ _ _) _) _ _ _); k_steps; all_goals (try dsimp only); all_goals (try (k_unfold; dsimp only))))
  (k_with "MineWalkS" => (k_extra "MineEnterS"; k_steps; all_goals (try dsimp only); all_goals (try (k_unfold; dsimp only))))
  (k_with "MineSame" => first | exact SameL.nil | (refine' SameL.cons ?sa ?sb; (case sa => first | exact same_int _ _ _ | exact same_bytes _ _ _ | exact PySem.SeqAt.EqAt.same _); (case sb => k_extra "MineSame")))
  (k_with "MineNeT" => (k_here; (with_reducible show wpAny _ _ (compareOp CmpOp.NotEq (Value.ref _) (Value.ref _)) _ _ _); k_dflt (refine' ne_tups ?N ?ml ?mb ?cl ?dl ?cb ?db ?hu ?hs ?_; (case N => k_asm); (case ml => k_mem); (case mb => k_mem); (case cl => rfl); (case dl => rfl); (case cb => rfl); (case db => rfl); (case hu => ke_room); (case hs => k_extra "MineSame"))))
  (k_with "MineEqT" => (k_here; (with_reducible show wpAny _ _ (compareOp CmpOp.Eq (Value.ref _) (Value.ref _)) _ _ _); k_dflt (refine' eq_tups ?N ?ml ?mb ?cl ?dl ?cb ?db ?hu ?hs ?_; (case N => k_asm); (case ml => k_mem); (case mb => k_mem); (case cl => rfl); (case dl => rfl); (case cb => rfl); (case db => rfl); (case hu => ke_room); (case hs => k_extra "MineSame"))))
  (k_with "MineNew" => ((try dsimp only [AllNe] at D1'); (try dsimp only [AllNe] at D2'); (try dsimp only [AllNe] at D3')))
  (k_with "MineNe1" => (refine neN ?_; (try dsimp only); with_reducible first | assumption | (refine Ne.symm ?_; assumption) | exact Nat.ne_of_lt (by assumption) | exact Nat.ne_of_gt (by assumption) | exact Nat.ne_of_lt (by k_extra "MineLtS") | exact Nat.ne_of_gt (by k_extra "MineLtS") | k_extra "MineNe2"))
  (k_with "MineLtS" => first | assumption | exact Nat.lt_succ_self _ | (refine Nat.lt_succ_of_lt ?_; k_extra "MineLtS"))
  (k_with "MineNe2" => (rename _ ∧ _ => hc9; first | k_extra "MinePrj" | (clear hc9; k_extra "MineNe2")))
  (k_with "MinePrj" => first | exact hc9.1 | exact Ne.symm hc9.1 | exact Nat.ne_of_lt hc9.1 | exact Nat.ne_of_gt hc9.1 | exact hc9.2.1 | exact Ne.symm hc9.2.1 | exact Nat.ne_of_lt hc9.2.1 | exact Nat.ne_of_gt hc9.2.1 | exact hc9.2.2.1 | exact Ne.symm hc9.2.2.1 | exact Nat.ne_of_lt hc9.2.2.1 | exact Nat.ne_of_gt hc9.2.2.1 | exact hc9.2.2.2.1 | exact Ne.symm hc9.2.2.2.1 | exact Nat.ne_of_lt hc9.2.2.2.1 | exact Nat.ne_of_gt hc9.2.2.2.1 | exact hc9.2.2.2.2.1 | exact Ne.symm hc9.2.2.2.2.1 | exact Nat.ne_of_lt hc9.2.2.2.2.1 | exact Nat.ne_of_gt hc9.2.2.2.2.1 | exact hc9.2.2.2.2.2.1 | exact Ne.symm hc9.2.2.2.2.2.1 | exact Nat.ne_of_lt hc9.2.2.2.2.2.1 | exact Nat.ne_of_gt hc9.2.2.2.2.2.1 | exact hc9.2.2.2.2.2.2.1 | exact Ne.symm hc9.2.2.2.2.2.2.1 | exact Nat.ne_of_lt hc9.2.2.2.2.2.2.1 | exact Nat.ne_of_gt hc9.2.2.2.2.2.2.1 | exact hc9.2.2.2.2.2.2.2.1 | exact Ne.symm hc9.2.2.2.2.2.2.2.1 | exact Nat.ne_of_lt hc9.2.2.2.2.2.2.2.1 | exact Nat.ne_of_gt hc9.2.2.2.2.2.2.2.1 | exact hc9.2.2.2.2.2.2.2.2.1 | exact Ne.symm hc9.2.2.2.2.2.2.2.2.1 | exact Nat.ne_of_lt hc9.2.2.2.2.2.2.2.2.1 | exact Nat.ne_of_gt hc9.2.2.2.2.2.2.2.2.1 | exact hc9.2.2.2.2.2.2.2.2.2.1 | exact Ne.symm hc9.2.2.2.2.2.2.2.2.2.1 | exact Nat.ne_of_lt hc9.2.2.2.2.2.2.2.2.2.1 | exact Nat.ne_of_gt hc9.2.2.2.2.2.2.2.2.2.1 | exact hc9.2.2.2.2.2.2.2.2.2.2.1 | exact Ne.symm hc9.2.2.2.2.2.2.2.2.2.2.1 | exact Nat.ne_of_lt hc9.2.2.2.2.2.2.2.2.2.2.1 | exact Nat.ne_of_gt hc9.2.2.2.2.2.2.2.2.2.2.1 | exact hc9.2.2.2.2.2.2.2.2.2.2.2.1 | exact Ne.symm hc9.2.2.2.2.2.2.2.2.2.2.2.1 | exact Nat.ne_of_lt hc9.2.2.2.2.2.2.2.2.2.2.2.1 | exact Nat.ne_of_gt hc9.2.2.2.2.2.2.2.2.2.2.2.1 | exact hc9.2.2.2.2.2.2.2.2.2.2.2.2.1 | exact Ne.symm hc9.2.2.2.2.2.2.2.2.2.2.2.2.1 | exact Nat.ne_of_lt hc9.2.2.2.2.2.2.2.2.2.2.2.2.1 | exact Nat.ne_of_gt hc9.2.2.2.2.2.2.2.2.2.2.2.2.1 | exact hc9.2.2.2.2.2.2.2.2.2.2.2.2.2.1 | exact Ne.symm hc9.2.2.2.2.2.2.2.2.2.2.2.2.2.1 | exact Nat.ne_of_lt hc9.2.2.2.2.2.2.2.2.2.2.2.2.2.1 | exact Nat.ne_of_gt hc9.2.2.2.2.2.2.2.2.2.2.2.2.2.1 | exact hc9.2.2.2.2.2.2.2.2.2.2.2.2.2.2.1 | exact Ne.symm hc9.2.2.2.2.2.2.2.2.2.2.2.2.2.2.1 | exact Nat.ne_of_lt hc9.2.2.2.2.2.2.2.2.2.2.2.2.2.2.1 | exact Nat.ne_of_gt hc9.2.2.2.2.2.2.2.2.2.2.2.2.2.2.1 | exact hc9.2.2.2.2.2.2.2.2.2.2.2.2.2.2.2.1 | exact Ne.symm hc9.2.2.2.2.2.2.2.2.2.2.2.2.2.2.2.1 | exact Nat.ne_of_lt hc9.2.2.2.2.2.2.2.2.2.2.2.2.2.2.2.1 | exact Nat.ne_of_gt hc9.2.2.2.2.2.2.2.2.2.2.2.2.2.2.2.1)
  trivial
theorem wordsK_KR : True := by
  (k_with "call ref" => (k_here; (with_reducible show wpAny _ _ (call (Value.ref 420) _) _ _ _); (try k_fold); k_dflt (refine' Ok.useOct (octets_ok _ _ _ ?p0) ?kA ?kh ?kd ?ku ?kB ?kF ?kX ?kN ?kT ?kk ?kU ?ks ?_; k_extra "MineSide"; (case kU => (intro; k_upd)); (case ks => k_extra "MineMem"); (case p0 => assumption); intro o' b' t' pl' h' tk' hP' hbp' hl' F' N')))
  (k_with "call ref" => (k_here; (with_reducible show wpAny _ _ (call (Value.ref 401) _) _ _ _); (try k_fold); k_dflt (refine' Ok.useOne (one_ok _ _ _ _ _ _ ?p0 ?p1 ?p2 ?p3 ?p4) ?kA ?kh ?kd ?ku ?kB ?kF ?kX ?kN ?kT ?kk ?kU ?ks ?_; k_extra "MineSide"; (case kU => (intro; k_upd)); (case ks => k_extra "MineMem"); (case p0 => k_ne); (case p1 => assumption); (case p2 => exact rfl); (case p3 => exact Nat.le_of_ble_eq_true rfl); (case p4 => exact Nat.le_of_ble_eq_true rfl); intro o' d' td' h' tk' hP' hd' F' N'; (first | (have hb' : 0 ≤ d' ∧ d' < 256 := in_bound hd' (by rfl)); (clear hd') | (have hb' : 0 ≤ d' ∧ d' < 65536 := in_bound hd' (by rfl)) | (have hb' : 0 ≤ d' ∧ d' < 16777216 := in_bound hd' (by rfl)) | ((simp only [intsOf, List.mem_cons, List.not_mem_nil, or_false] at hd'); (first | ((have hb' : 0 ≤ d' ∧ d' < 256 := (by omega)); clear hd') | (have hb' : 0 ≤ d' ∧ d' < 65536 := (by omega)) | skip))); (try simp only [intsOf, List.mem_cons, List.not_mem_nil, or_false] at hd'))))
  (k_with "call ref" => (k_here; (with_reducible show wpAny _ _ (call (Value.ref 352) _) _ _ _); (try k_fold); k_dflt (refine' Ok.useBy (pack_llc_ok _ _ _ _ _ _ _ _ _ _ _ _ _ _ _ _ _ ?p0 ?p1 ?p2 ?p3 ?p4 ?p5) ?kA ?kh ?kd ?ku ?kB ?kF ?kX ?kN ?kT ?kk ?ks ?_; k_extra "MineSide"; (case ks => k_extra "MineMem"); (case p0 => assumption); (case p1 => assumption); (case p2 => first | omega | k_extra "MineLen"); (case p3 => first | assumption | k_extra "MineLaid"); (case p4 => first | assumption | decide); (case p5 => first | assumption | decide); intro b' t' h' tk' hb' F' N')))
  (k_with "call ref" => (k_here; (with_reducible show wpAny _ _ (call (Value.ref 359) _) _ _ _); (try k_fold); k_dflt (refine' Ok.useUnp (unpack_llc_ok _ _ _ _ _ _ _ _ ?p0 ?p1 ?p2) ?kA ?kh ?kd ?ku ?kB ?kF ?kX ?kN ?kT ?kk ?ks ?_; k_extra "MineSide"; (case ks => k_extra "MineMem"); (case p0 => first | assumption | k_extra "MineCut"); (case p1 => first | omega | k_extra "MineLen"); (case p2 => first | assumption | k_extra "MineLaid"); intro x' dx' k1' k2' k3' k4' t0' t1' tc' pb' tp' h' tk' hb' ne' D1' D2' F' N'; replace ne' := neN ne'; k_extra "MineNew"; (try (have hpq' := bInts_inj (hb'.trans hbp'.symm); subst hpq')))))
  (k_with "call ref" => (k_here; (with_reducible show wpAny _ _ (call (Value.ref 373) _) _ _ _); (try k_fold); k_dflt (refine' Ok.useSnap (unpack_snap_ok _ _ _ _ _ _ _ _ _ _ _ _ _ _ _ _ ?p0 ?p1 ?p2 ?p3 ?p4 ?p5 ?p6 ?p7 ?p8) ?kA ?kh ?kd ?ku ?kB ?kF ?kX ?kN ?kT ?kk ?ks ?_; k_extra "MineSide"; (case ks => k_extra "MineMem"); (case p0 => assumption); (case p1 => assumption); (case p2 => first | assumption | k_extra "MineSnap"); (case p3 => first | omega | k_extra "MineLen"); (case p4 => first | omega | k_extra "MineLen"); (case p5 => first | omega | decide); (case p6 => first | omega | decide); (case p7 => first | omega | decide); (case p8 => first | omega | decide); intro t' to' tk9' rb' tr' h' tk' hb' D1' F' N'; (try (have hpq' := bInts_inj (hb'.trans hbp'.symm); subst hpq')); k_extra "MineNew")))
  (k_with "call ref" => (k_here; (with_reducible show wpAny _ _ (call (Value.ref 373) _) _ _ _); (try k_fold); k_dflt (refine' Ok.useNo (unpack_snap_none _ _ _ _ _ _ _ _ _ _ _ _ _ _ _ ?p0 ?p1) ?kA ?kh ?kd ?ku ?kB ?kF ?kX ?kN ?kT ?kk ?ks ?_; k_extra "MineSide"; (case ks => k_extra "MineMem"); (case p0 => assumption); (case p1 => first | omega | k_extra "MineNo"); intro h' tk' F' N')))
  (k_with "call ref" => (k_here; (with_reducible show wpAny _ _ (call (Value.ref 394) _) _ _ _); (try k_fold); k_dflt (refine' Ok.useTake (take_ok _ _ _ _ _ ?p0 ?p1 ?p2) ?kA ?kh ?kd ?ku ?kB ?kF ?kX ?kN ?kT ?kk ?kU ?ks ?_; k_extra "MineSide"; (case kU => (intro; k_upd)); (case ks => k_extra "MineMem"); (case p0 => assumption); (case p1 => first | assumption | decide | omega); (case p2 => first | assumption | decide | omega); intro o' d' td' h' tk' hP' hd0' hd1' F' N')))
  trivial
def KindPost (src : Addr) (v : Value) (l : Led) : Prop := v = .bool true ∧ ∃ o' ps' codes', IsPool o' ∧ TabOk qualK ps' codes' ∧ OwnOff codes' [429, src] ∧ l = (src, o') :: (429, tabObj ps') :: codes'
theorem bytes_head {prog : Program} {w : World} {A : Around} {E : Value → Shared → Prop} {s : Shared} {h₀ : Heap} {L D : Addr} {m : Str → Option Value} {news : Led} {o kd : Int} {t1 t2 t3 t4 t5 t6 t7 t8 : Tok} {Q : Value → Shared → Prop} (F : Fr h₀ L s.heap m) (N : News h₀ L s.heap news) (hh : A.handled = none)
    (hl : s.heap.IsList D #[.int 170 t1, .int 170 t2, .int 3 t3, .int (o.fdiv 65536) t4, .int ((o.fdiv 256).fmod 256) t5, .int (o.fmod 256) t6, .int (kd.fdiv 256) t7, .int (kd.fmod 256) t8]) (ho : 0 ≤ o ∧ o < 16777216) (hk : 0 ≤ kd ∧ kd < 65536)
    (h : ∀ h' b t' k, Fr h₀ L h' m → News h₀ L h' news → KBw.bInts b = [170, 170, 3, o / 65536, o / 256 % 256, o % 256, kd / 256, kd % 256] → Q (.bytes b t') { s with heap := h', toks := k }) : wpAny (model prog w) A (call (.type "bytes") [.ref D]) Q E s := by
  have e1 : o.fdiv 65536 = o / 65536 := fd _ (by decide)
  have e2 : (o.fdiv 256).fmod 256 = o / 256 % 256 := by rw [fd _ (by decide), fm _ (by decide)]
  have e3 : o.fmod 256 = o % 256 := fm _ (by decide)
  have e4 : kd.fdiv 256 = kd / 256 := fd _ (by decide)
  have e5 : kd.fmod 256 = kd % 256 := fm _ (by decide)
  rw [e1, e2, e3, e4, e5] at hl
  refine bytes_ints F N hh (ys := [.int 170 t1, .int 170 t2, .int 3 t3, .int (o / 65536) t4, .int (o / 256 % 256) t5, .int (o % 256) t6, .int (kd / 256) t7, .int (kd % 256) t8]) hl (ints_of rfl) (fun k hk' => ?_) (by show (8 : Nat) ≤ _; decide) h
  have : k = 170 ∨ k = 170 ∨ k = 3 ∨ k = o / 65536 ∨ k = o / 256 % 256 ∨ k = o % 256 ∨ k = kd / 256 ∨ k = kd % 256 := by simpa [intsOf] using hk'
  omega
theorem drop_clip {ks : List Int} {z : Int} (h0 : 0 ≤ z) : List.take (ks.length - clipAt ks.length z) (List.drop (clipAt ks.length z) ks) = ks.drop z.toNat := by
  obtain ⟨i, rfl⟩ := Int.eq_ofNat_of_zero_le h0
  rw [clipAt_nat, List.take_of_length_le (by rw [List.length_drop]; exact Nat.le_refl _)]
  show ks.drop (min i ks.length) = ks.drop i
  rcases Nat.le_total i ks.length with h | h
  · rw [Nat.min_eq_left h]
  · rw [Nat.min_eq_right h, List.drop_of_length_le (Nat.le_refl _), List.drop_of_length_le h]
theorem other_laid {B : Array UInt8} {a b c d e : Int} {pl : List Int} {p : Int} (_hb : KBw.bInts B = [(170 : Int), 170, 3, a, b, c, d, e] ++ pl) (h0 : 0 ≤ p) (h1 : p < 3) :
    ∃ q0 q1 qc, LaidIs (List.take (clipAt ([(170 : Int), 170, 3, a, b, c, d, e] ++ pl).length p) ([170, 170, 3, a, b, c, d, e] ++ pl) ++ List.take (min (p + 1).toNat [(66 : Int), 67, 19].length - p.toNat) (List.drop p.toNat [66, 67, 19]) ++
      List.take (([(170 : Int), 170, 3, a, b, c, d, e] ++ pl).length - clipAt ([(170 : Int), 170, 3, a, b, c, d, e] ++ pl).length (p + 1)) (List.drop (clipAt ([(170 : Int), 170, 3, a, b, c, d, e] ++ pl).length (p + 1)) ([170, 170, 3, a, b, c, d, e] ++ pl))) q0 q1 qc ([a, b, c, d, e] ++ pl) ∧ ¬ (q0 = 170 ∧ q1 = 170 ∧ qc = 3) := by
  rw [take_clip h0, drop_clip (by omega)]
  have hp : p = 0 ∨ p = 1 ∨ p = 2 := by omega
  rcases hp with h | h | h <;> subst h
  · exact ⟨66, 170, 3, .one (by decide) (by decide) rfl, by decide⟩
  · exact ⟨170, 67, 3, .one (by decide) (by decide) rfl, by decide⟩
  · exact ⟨170, 170, 19, .one (by decide) (by decide) rfl, by decide⟩
theorem mids_in (a b : Nat) : KBa.In (List.take a (List.drop b [(66 : Int), 67, 19])) := fun k hk => by
  have h := List.mem_of_mem_drop (List.mem_of_mem_take hk)
  have : k = 66 ∨ k = 67 ∨ k = 19 := by simpa using h
  omega
theorem mids_len (a b : Nat) : (List.take a (List.drop b [(66 : Int), 67, 19])).length ≤ 3 := by
  rw [List.length_take, List.length_drop]
  show min a (3 - b) ≤ 3
  omega
theorem laid3 {pl : List Int} : LaidIs ((170 : Int) :: 170 :: 3 :: pl) 170 170 3 pl := .one (by decide) (by decide) rfl
theorem laid8 {a b c d e : Int} {pl : List Int} : LaidIs ([(170 : Int), 170, 3, a, b, c, d, e] ++ pl) 170 170 3 ([a, b, c] ++ [d, e] ++ pl) := .one (by decide) (by decide) rfl
theorem snap_refl {o kd : Int} {rest : List Int} : [o / 65536, o / 256 % 256, o % 256] ++ [kd / 256, kd % 256] ++ rest = [o / 65536, o / 256 % 256, o % 256] ++ [kd / 256, kd % 256] ++ rest := rfl
theorem lk_t {a : Nat} {l : List Int} {n : Nat} (h : l.length ≤ n) : (l.take a).length ≤ n := Nat.le_trans (by rw [List.length_take]; exact Nat.min_le_right _ _) h
theorem lk_d {a : Nat} {l : List Int} {n : Nat} (h : l.length ≤ n) : (l.drop a).length ≤ n := Nat.le_trans (by rw [List.length_drop]; exact Nat.sub_le _ _) h
theorem lk_a {l r : List Int} {n m : Nat} (h : l.length ≤ n) (h' : r.length ≤ m) : (l ++ r).length ≤ n + m := by rw [List.length_append]; exact Nat.add_le_add h h'
theorem lk_8 {a b c d e : Int} {pl : List Int} (h : pl.length ≤ 9) : ([(170 : Int), 170, 3, a, b, c, d, e] ++ pl).length ≤ 17 := by rw [List.length_append]; exact Nat.add_le_add_left h 8
theorem wordsKR : True := by
  (k_with "MineTail" => (repeat (first | assumption | refine List.Mem.tail _ ?_)))
  (k_with "call type:bytes" => (k_here; (with_reducible show wpAny _ _ (call (Value.type "bytes") [Value.ref _]) _ _ _); k_dflt (refine' bytes_head ?kbaF ?kbaN ?kbah ?kbal ?ho ?hk ?_; (case kbaF => k_asm); (case kbaN => k_asm); (case kbah => rfl); (case kbal => is_list); (case ho => assumption); (case hk => assumption); (obtain ⟨ho9a, ho9b⟩ := (by assumption : _ ∧ _ < (16777216 : Int))); intro h' b9 t' k' F' N' hb9)))
  (k_with "call type:bytes" => (k_here; (have := dp'); (with_reducible show wpAny _ _ (call (Value.type "bytes") [Value.ref _]) _ _ _); k_dflt (refine' bytes_ints ?kbaF ?kbaN ?kbah ?kbal ?kbai ?kbar ?kban ?_; (case kbaF => k_asm); (case kbaN => k_asm); (case kbah => rfl); (case kbal => is_list); (case kbai => assumption); (case kbar => exact mids_in _ _); (case kban => exact Nat.le_trans (mids_len _ _) (by decide)); intro h' bm9 t' k' F' N' hbm9)))
  (k_with "MineAdd" => (k_here; (fail_if_success (have := hlaid9)); (with_reducible show wpAny _ _ (binaryOp Operator.Add (Value.bytes _ _) (Value.bytes _ _)) _ _ _); (refine KBa.add_K hb9 hbp' (by simp only [List.length_cons, List.length_nil]; omega) ?_); intro t' k' hlaid9))
  (k_with "MineAdd" => (k_here; (have := dp'); (with_reducible show wpAny _ _ (binaryOp Operator.Add (Value.bytes _ _) (Value.bytes _ _)) _ _ _); (first | refine KBa.add_K (by k_extra "MineBytes") (by k_extra "MineBytes") (Nat.le_trans (Nat.add_le_add (lk_t (lk_8 hl')) (mids_len _ _)) (by decide)) ?_ | refine KBa.add_K (by k_extra "MineBytes") (by k_extra "MineBytes") (Nat.le_trans (Nat.add_le_add (lk_a (lk_t (lk_8 hl')) (mids_len _ _)) (lk_t (lk_d (lk_8 hl')))) (by decide)) ?_); intro t' k' hb'))
  (k_with "MineLaid" => first | exact laid8 | exact laid3)
  (k_with "MineLen" => ((try simp only [List.length_cons, List.length_nil, List.length_append]); omega))
  (k_with "MineSnap" => exact snap_refl)
  (k_with "MineNe" => (k_dflt (refine ne_same (bInts_inj (hb'.trans hlaid9.symm)) ?_)))
  (k_with "call ref" => (k_here; (have := hbm9); (with_reducible show wpAny _ _ (call (Value.ref 359) _) _ _ _); (try k_fold); k_dflt ((obtain ⟨q0, q1, qc, hq9, hqn⟩ := other_laid hlaid9 hdp0 hdp1); refine' Ok.useUnp (unpack_llc_ok _ _ _ _ _ q0 q1 qc ?p0 ?p1 hq9) ?kA ?kh ?kd ?ku ?kB ?kF ?kX ?kN ?kT ?kk ?ks ?_; k_extra "MineSide"; (case ks => k_extra "MineMem"); (case p0 => assumption); (case p1 => exact Nat.le_trans (lk_a (lk_a (lk_t (lk_8 hl')) (mids_len _ _)) (lk_t (lk_d (lk_8 hl')))) (by decide)); intro x' dx' k1' k2' k3' k4' t0' t1' tc' pb' tp' h' tk' hb' ne' D1' D2' F' N'; replace ne' := neN ne'; k_extra "MineNew")))
  (k_with "MineSubs" => first | exact List.forall_mem_nil _ | (refine' List.forall_mem_cons.mpr ⟨?ga, ?gb⟩; (case ga => k_mem); (case gb => k_extra "MineSubs")) | (intro q hq; k_extra "MineTail"))
  (k_with "call ref" => (k_here; (with_reducible show wpAny _ _ (call (Value.ref 394) _) _ _ _); (repeat ((with_reducible rename _ ∧ _ => hzz); clear hzz)); (try k_fold); k_dflt ((have N9 := news_sub (sub := (xh, _) :: (dxh, _) :: (L' + 1, _) :: (L' + 1 + 1, _) :: (L' + 1 + 1 + 1, _) :: (L' + 1 + 1 + 1 + 1, _) :: (L' + 1 + 1 + 1 + 1 + 1, _) :: (src, _) :: (429, tabObj _) :: codes) (by k_asm) (by k_extra "MineSubs")); refine' Ok.useTake (take_ok _ _ _ _ _ ?p0 ?p1 ?p2) ?kA ?kh ?kd ?ku ?kB ?kF ?kX ?kN ?kT ?kk ?kU ?ks ?_; k_extra "MineSide"; (case kU => (intro; k_upd)); (case ks => k_extra "MineMem"); (case p0 => assumption); (case p1 => omega); (case p2 => omega); intro o' dp' td' h' tk' hP' hdp0 hdp1 F' N'; clear N9)))
  (k_with "call ref" => (k_here; (with_reducible show wpAny _ _ (call (Value.ref 366) _) _ _ _); (try k_fold); k_dflt (refine' Ok.useUnp (pack_snap_ok _ _ _ _ _ _ _ _ ?p0 ?p1 ?p2 ?p3 ?p4 ?p5) ?kA ?kh ?kd ?ku ?kB ?kF ?kX ?kN ?kT ?kk ?ks ?_; k_extra "MineSide"; (case ks => k_extra "MineMem"); (case p0 => omega); (case p1 => omega); (case p2 => omega); (case p3 => omega); (case p4 => assumption); (case p5 => omega); intro xh dxh k1h k2h k3h k4h t0h t1h tch pbh tph h' tk' hbh neh D1' D2' F' N'; replace neh := neN neh; k_extra "MineNew"; (have ne9a : @Ne Nat xh src := (D1'.2.2.2.2.2.2.2.2.1).symm); (have ne9b : @Ne Nat dxh src := (D2'.2.2.2.2.2.2.2.2.1).symm); (have ne9c : @Ne Nat xh 429 := (D1'.2.2.2.2.2.2.2.2.2.1).symm); (have ne9d : @Ne Nat dxh 429 := (D2'.2.2.2.2.2.2.2.2.2.1).symm))))
  trivial
section
variable {loose : List Str} {mean : ExcName → Option Value} {mg mb : Str → Option Value}
theorem kind_ok : ∀ (w : World) (src : Addr) (o : Obj) (ps : Array Value) (codes : Led), IsPool o → TabOk qualK ps codes → OwnOff codes [429, src] → @Ne Nat src 429 →
    OkS w loose mean mg mb 305 2440 (.ref 434) [.ref src] ((src, o) :: (429, tabObj ps) :: codes) (KindPost src) := by
  intro w src o ps codes hP hTO hoff hne
  unfold OkS
  k_fill
  intro cn cs a ccd cl outer A₀ base h₀ L m s Q E B F X N T XB TB D hk hret
  k_extra "MineEnterSC"
  obtain ⟨hlt1, hlt2, hlt3⟩ := lL'
  have hlt3' := allLt_mem hlt3
  have hoff : OwnOff codes [429, src, L' + 1, L' + 1 + 1, L' + 1 + 1 + 1, L' + 1 + 1 + 1 + 1, L' + 1 + 1 + 1 + 1 + 1] := by
    intro p hp b hb
    simp only [List.mem_cons, List.not_mem_nil, or_false] at hb
    have h1 := hlt3' p hp
    rcases hb with rfl | rfl | rfl | rfl | rfl | rfl | rfl
    · exact hoff p hp _ (.head _)
    · exact hoff p hp _ (.tail _ (.head _))
    all_goals (exact Nat.ne_of_lt (Nat.lt_of_lt_of_le h1 (by omega)))
  clear hlt3
  repeat' (first | (k_unfold; (try dsimp only)) | ((fail_if_success (with_reducible show wpAny _ _ (execs (Stmt.If (Expr.Compare (Expr.Call _ (Expr.Lambda _ _ _ _ :: _) _ _) _ _ _) _ _ _ :: _) _) _ _ _)); first | walk1 | (dsimp only; walk1)))
  · try dsimp only
    k_dflt (refine' kind_tail7 w src _ ps codes xh dxh _ _ _ _ _ _ _ _ _ _ _ _ _ _ _ (b9 ++ rb') _ _ _ _ _ _ _ L' ?hP hTO hoff hne hlt1 hlt2 neh ne9a ne9b ne9c ne9d hbh ?hl hlaid9 ho9a ho9b ?c1 ?c2 ?cL ?c4 ?c5 cn cs a ccd cl outer base _ L _ _ _ _ _ _ ?B ?F ?X ?N ?T XB TB ?D hk ?k)
    (case B => k_asm)
    (case F => k_asm)
    (case X => k_asm)
    (case N => exact news_sub (by k_asm) (by k_extra "MineSubs"))
    (case T => k_asm)
    (case D => k_asm)
    (case hP => assumption)
    (case hl => (simp only [List.length_append, List.length_cons, List.length_nil]; omega))
    (case c1 => assumption)
    (case c2 => assumption)
    (case cL => assumption)
    (case c4 => assumption)
    (case c5 => assumption)
    (case k =>
      intro o9 ps9 codes9 h9 tk9 g9 m9 hP9 hTO9 hoff9 T9 F9 N9
      (try (k_unfold; dsimp only))
      refine' leaveS (sub' := (src, _) :: (429, tabObj _) :: codes9) T9 F9 N9 ?_ (fun q h => h)
      intro h8 T8 F8 N8 B8 K8 Z8
      exact hret _ _ _ _ _ ⟨rfl, _, _, _, hP9, hTO9, hoff9, rfl⟩ T8 F8 N8 B8 K8 Z8)
end

-- part LU
def Sep (a b : Led) : Prop := ∀ q ∈ a, ∀ r ∈ b, r.1 ≠ q.1
theorem fr_back {h₀ g' h : Heap} {L : Addr} {m : Str → Option Value} (T : KtsTurn [] h₀ g') (F : Fr g' L h m) : Fr h₀ L h m :=
  ⟨F.ns, fun b o e => F.keep b o (T.other b o e (fun hm => by cases hm)), T.size ▸ F.above⟩
theorem news_back {h₀ g' h : Heap} {L : Addr} {l : Led} (T : KtsTurn [] h₀ g') (N : News g' L h l) : News h₀ L h l := fun p hp => ⟨(N p hp).1, (N p hp).2.1, by
  cases e : h₀.get? p.1 with
  | none => rfl
  | some o =>
    have := T.other _ _ e (fun hm => by cases hm)
    rw [(N p hp).2.2] at this; cases this⟩
section
variable {w : World} {loose : List Str} {mean : ExcName → Option Value} {mg mb : Str → Option Value} {f : Value} {qa : Str} {src PA : Addr} {o : Obj} {ps : Array Value} {codes rest : Led}
  {A : Around} {cn : Str} {cs : Scope} {a : Addr} {ccd : Value} {cl : List (Str × Addr)} {A₀ : Around} {h₀ : Heap} {L : Addr} {m : Str → Option Value} {s : Shared} {Q E : Value → Shared → Prop}
theorem tab_use (H : OkS w loose mean mg mb 305 2440 f [.ref src] ((src, o) :: (PA, tabObj ps) :: codes) (fun v l => v = .bool true ∧ ∃ o' ps' codes', IsPool o' ∧ TabOk qa ps' codes' ∧ OwnOff codes' [PA, src] ∧ l = (src, o') :: (PA, tabObj ps') :: codes'))
    (hA : A.frames = some (envX cn cs L a ccd cl :: [])) (hh : A.handled = none) (hd : A.depth ≤ 305) (hu : A.units ≤ 2440)
    (B : Below A₀ h₀ [] h₀) (F : Fr h₀ L s.heap m) (X : (KH w.params).In h₀) (N : News h₀ L s.heap ((src, o) :: (((PA, tabObj ps) :: codes) ++ rest))) (T : Top topProg loose mean mg mb h₀) (hk : cs.kind = .function)
    (S : Sep ((PA, tabObj ps) :: codes) rest) (hs : ∀ r ∈ rest, r.1 ≠ src)
    (k : ∀ o' ps' codes' h' tk', IsPool o' → TabOk qa ps' codes' → OwnOff codes' [PA, src] → Fr h₀ L h' m → News h₀ L h' ((src, o') :: (((PA, tabObj ps') :: codes') ++ rest)) → Sep ((PA, tabObj ps') :: codes') rest → Q (.bool true) { s with heap := h', toks := tk' }) :
    wpAny (model rw0.prog w) A (call f [.ref src]) Q E s := by
  refine OkS.use (rest := rest) H hA hh hd hu B F X N T X T ktsDicts_nil KtsTurn.refl hk (fun q hq => ?_) (fun q hq => ⟨.tail _ (List.mem_append_right _ hq), fun hm => ?_⟩) ?_
  · rcases List.mem_cons.mp hq with rfl | hq
    · exact .head _
    · exact .tail _ (List.mem_append_left _ hq)
  · rcases List.mem_cons.mp hm with e | hm
    · exact hs q hq e
    · obtain ⟨r, hr, e⟩ := List.mem_map.mp hm
      exact S r hr q hq e.symm
  · rintro v sub' h' tk' g' ⟨rfl, o', ps', codes', hP, hT, hO, rfl⟩ T9 F9 N9 B9 X9 T8 D9 Fh
    refine k o' ps' codes' h' tk' hP hT hO (fr_back T9 F9) (news_back T9 (fun q hq => N9 q (by simpa using hq))) fun q hq r hr e => ?_
    rcases List.mem_cons.mp hq with rfl | hq
    · exact S (PA, tabObj ps) (.head _) r hr e
    · rcases Fh q (.tail _ (.tail _ hq)) with z | z
      · rcases List.mem_cons.mp z with z | z
        · exact hO q hq src (.tail _ (.head _)) z
        · obtain ⟨p, hp, e2⟩ := List.mem_map.mp z
          exact S p hp r hr (e.trans e2.symm)
      · exact z r (.tail _ (List.mem_append_right _ hr)) e
end
-- the ledger of the two tables
def tabsL (ps1 ps2 : Array Value) (c1 c2 : Led) : Led := ((422, tabObj ps1) :: c1) ++ ((429, tabObj ps2) :: c2)
structure Tabs (own : Led) (ps1 ps2 : Array Value) (c1 c2 : Led) : Prop where
  t1 : TabOk qualH ps1 c1
  t2 : TabOk qualK ps2 c2
  o1 : OwnOff c1 [422]
  o2 : OwnOff c2 [429]
  s12 : Sep ((422, tabObj ps1) :: c1) ((429, tabObj ps2) :: c2)
  s1 : Sep ((422, tabObj ps1) :: c1) own
  s2 : Sep ((429, tabObj ps2) :: c2) own
theorem Sep.symm {a b : Led} (h : Sep a b) : Sep b a := fun q hq r hr e => h r hr q hq e.symm
theorem Sep.app {a b c : Led} (h : Sep a b) (h' : Sep a c) : Sep a (b ++ c) := fun q hq r hr => (List.mem_append.mp hr).elim (h q hq r) (h' q hq r)
section
variable {loose : List Str} {mean : ExcName → Option Value} {mg mb : Str → Option Value}
  {A : Around} {cn : Str} {cs : Scope} {a : Addr} {ccd : Value} {cl : List (Str × Addr)} {A₀ : Around} {h₀ : Heap} {L : Addr} {m : Str → Option Value} {s : Shared} {Q E : Value → Shared → Prop}
theorem head_use {w : World} {src : Addr} {o : Obj} {ps1 ps2 : Array Value} {c1 c2 own : Led} (hP : IsPool o) (H : Tabs own ps1 ps2 c1 c2) (hs : ∀ r ∈ own ++ tabsL ps1 ps2 c1 c2, r.1 ≠ src)
    (hA : A.frames = some (envX cn cs L a ccd cl :: [])) (hh : A.handled = none) (hd : A.depth ≤ 305) (hu : A.units ≤ 2440)
    (B : Below A₀ h₀ [] h₀) (F : Fr h₀ L s.heap m) (X : (KH w.params).In h₀) (N : News h₀ L s.heap ((src, o) :: (own ++ tabsL ps1 ps2 c1 c2))) (T : Top topProg loose mean mg mb h₀) (hk : cs.kind = .function)
    (k : ∀ o' ps1' c1' h' tk', IsPool o' → Tabs own ps1' ps2 c1' c2 → (∀ r ∈ own ++ tabsL ps1' ps2 c1' c2, r.1 ≠ src) → Fr h₀ L h' m → News h₀ L h' ((src, o') :: (own ++ tabsL ps1' ps2 c1' c2)) → Q (.bool true) { s with heap := h', toks := tk' }) :
    wpAny (model rw0.prog w) A (call (.ref 427) [.ref src]) Q E s := by
  have hsL : ∀ r ∈ tabsL ps1 ps2 c1 c2, r.1 ≠ src := fun r hr => hs r (List.mem_append_right _ hr)
  have h422 : @Ne Nat src 422 := (hsL (422, tabObj ps1) (.head _)).symm
  refine tab_use (qa := qualH) (rest := own ++ ((429, tabObj ps2) :: c2)) (head_ok w src o ps1 c1 hP H.t1 (fun p hp b hb => ?_) h422) hA hh hd hu B F X (fun q hq => N q ?_) T hk (H.s1.app H.s12) (fun r hr => ?_) ?_
  · rcases List.mem_cons.mp hb with rfl | hb
    · exact H.o1 p hp _ (.head _)
    · rw [List.mem_singleton.mp hb]; exact hsL p (List.mem_append_left _ (.tail _ hp))
  · rcases List.mem_cons.mp hq with rfl | hq
    · exact .head _
    · refine .tail _ ?_
      rcases List.mem_append.mp hq with hq | hq
      · exact List.mem_append_right _ (List.mem_append_left _ hq)
      · rcases List.mem_append.mp hq with hq | hq
        · exact List.mem_append_left _ hq
        · exact List.mem_append_right _ (List.mem_append_right _ hq)
  · rcases List.mem_append.mp hr with hr | hr
    · exact hs r (List.mem_append_left _ hr)
    · exact hsL r (List.mem_append_right _ hr)
  · intro o' ps' codes' h' tk' hP' hT' hO' F' N' S'
    refine k o' ps' codes' h' tk' hP' ⟨hT', H.t2, fun p hp b hb => (List.mem_singleton.mp hb) ▸ hO' p hp _ (.head _), H.o2, fun q hq r hr => S' q hq r (List.mem_append_right _ hr), fun q hq r hr => S' q hq r (List.mem_append_left _ hr), H.s2⟩ (fun r hr => ?_) F' (fun q hq => N' q ?_)
    · rcases List.mem_append.mp hr with hr | hr
      · exact hs r (List.mem_append_left _ hr)
      · rcases List.mem_append.mp hr with hr | hr
        · rcases List.mem_cons.mp hr with rfl | hr
          · exact h422.symm
          · exact hO' r hr src (.tail _ (.head _))
        · exact hsL r (List.mem_append_right _ hr)
    · rcases List.mem_cons.mp hq with rfl | hq
      · exact .head _
      · refine .tail _ ?_
        rcases List.mem_append.mp hq with hq | hq
        · exact List.mem_append_right _ (List.mem_append_left _ hq)
        · rcases List.mem_append.mp hq with hq | hq
          · exact List.mem_append_left _ hq
          · exact List.mem_append_right _ (List.mem_append_right _ hq)
theorem kind_use {w : World} {src : Addr} {o : Obj} {ps1 ps2 : Array Value} {c1 c2 own : Led} (hP : IsPool o) (H : Tabs own ps1 ps2 c1 c2) (hs : ∀ r ∈ own ++ tabsL ps1 ps2 c1 c2, r.1 ≠ src)
    (hA : A.frames = some (envX cn cs L a ccd cl :: [])) (hh : A.handled = none) (hd : A.depth ≤ 305) (hu : A.units ≤ 2440)
    (B : Below A₀ h₀ [] h₀) (F : Fr h₀ L s.heap m) (X : (KH w.params).In h₀) (N : News h₀ L s.heap ((src, o) :: (own ++ tabsL ps1 ps2 c1 c2))) (T : Top topProg loose mean mg mb h₀) (hk : cs.kind = .function)
    (k : ∀ o' ps2' c2' h' tk', IsPool o' → Tabs own ps1 ps2' c1 c2' → (∀ r ∈ own ++ tabsL ps1 ps2' c1 c2', r.1 ≠ src) → Fr h₀ L h' m → News h₀ L h' ((src, o') :: (own ++ tabsL ps1 ps2' c1 c2')) → Q (.bool true) { s with heap := h', toks := tk' }) :
    wpAny (model rw0.prog w) A (call (.ref 434) [.ref src]) Q E s := by
  have hsL : ∀ r ∈ tabsL ps1 ps2 c1 c2, r.1 ≠ src := fun r hr => hs r (List.mem_append_right _ hr)
  have h429 : @Ne Nat src 429 := (hsL (429, tabObj ps2) (List.mem_append_right _ (.head _))).symm
  refine tab_use (qa := qualK) (rest := own ++ ((422, tabObj ps1) :: c1)) (kind_ok w src o ps2 c2 hP H.t2 (fun p hp b hb => ?_) h429) hA hh hd hu B F X (fun q hq => N q ?_) T hk (H.s2.app H.s12.symm) (fun r hr => ?_) ?_
  · rcases List.mem_cons.mp hb with rfl | hb
    · exact H.o2 p hp _ (.head _)
    · rw [List.mem_singleton.mp hb]; exact hsL p (List.mem_append_right _ (.tail _ hp))
  · rcases List.mem_cons.mp hq with rfl | hq
    · exact .head _
    · refine .tail _ ?_
      rcases List.mem_append.mp hq with hq | hq
      · exact List.mem_append_right _ (List.mem_append_right _ hq)
      · rcases List.mem_append.mp hq with hq | hq
        · exact List.mem_append_left _ hq
        · exact List.mem_append_right _ (List.mem_append_left _ hq)
  · rcases List.mem_append.mp hr with hr | hr
    · exact hs r (List.mem_append_left _ hr)
    · exact hsL r (List.mem_append_left _ hr)
  · intro o' ps' codes' h' tk' hP' hT' hO' F' N' S'
    refine k o' ps' codes' h' tk' hP' ⟨H.t1, hT', H.o1, fun p hp b hb => (List.mem_singleton.mp hb) ▸ hO' p hp _ (.head _), Sep.symm fun q hq r hr => S' q hq r (List.mem_append_right _ hr), H.s1, fun q hq r hr => S' q hq r (List.mem_append_left _ hr)⟩ (fun r hr => ?_) F' (fun q hq => N' q ?_)
    · rcases List.mem_append.mp hr with hr | hr
      · exact hs r (List.mem_append_left _ hr)
      · rcases List.mem_append.mp hr with hr | hr
        · exact hsL r (List.mem_append_left _ hr)
        · rcases List.mem_cons.mp hr with rfl | hr
          · exact h429.symm
          · exact hO' r hr src (.tail _ (.head _))
    · rcases List.mem_cons.mp hq with rfl | hq
      · exact .head _
      · refine .tail _ ?_
        rcases List.mem_append.mp hq with hq | hq
        · exact List.mem_append_right _ (List.mem_append_left _ hq)
        · rcases List.mem_append.mp hq with hq | hq
          · exact List.mem_append_right _ (List.mem_append_right _ hq)
          · exact List.mem_append_left _ hq
end
theorem rng_n (l : Nat) : ∃ n : Nat, n ≤ 3 ∧ Builtin.Range.rangeSize 0 (if (if (3 : Int) < (l : Int) then (3 : Int) else (l : Int)) > 1 then (if (3 : Int) < (l : Int) then (3 : Int) else (l : Int)) else 1) 1 = (n : Int) ∧
    Builtin.Range.small 0 (if (if (3 : Int) < (l : Int) then (3 : Int) else (l : Int)) > 1 then (if (3 : Int) < (l : Int) then (3 : Int) else (l : Int)) else 1) 1 = true := by
  have h : ∀ x : Int, x = 1 ∨ x = 2 ∨ x = 3 → ∃ n : Nat, n ≤ 3 ∧ Builtin.Range.rangeSize 0 x 1 = (n : Int) ∧ Builtin.Range.small 0 x 1 = true := by
    rintro x (rfl | rfl | rfl)
    · exact ⟨1, by decide, by decide, by decide⟩
    · exact ⟨2, by decide, by decide, by decide⟩
    · exact ⟨3, by decide, by decide, by decide⟩
  refine h _ ?_
  split <;> split <;> omega
theorem rng_of {h : Heap} {r : Addr} {l : Nat} {t u v : Tok} (_ : IsRange h r 0 (if (if (3 : Int) < (l : Int) then (3 : Int) else (l : Int)) > 1 then (if (3 : Int) < (l : Int) then (3 : Int) else (l : Int)) else 1) 1 t u v) :
    ∃ n : Nat, n ≤ 3 ∧ Builtin.Range.rangeSize 0 (if (if (3 : Int) < (l : Int) then (3 : Int) else (l : Int)) > 1 then (if (3 : Int) < (l : Int) then (3 : Int) else (l : Int)) else 1) 1 = (n : Int) ∧
      Builtin.Range.small 0 (if (if (3 : Int) < (l : Int) then (3 : Int) else (l : Int)) > 1 then (if (3 : Int) < (l : Int) then (3 : Int) else (l : Int)) else 1) 1 = true := rng_n l
theorem Tabs.more {own : Led} {ps1 ps2 : Array Value} {c1 c2 : Led} (H : Tabs [] ps1 ps2 c1 c2) (S : Sep own (tabsL ps1 ps2 c1 c2)) : Tabs own ps1 ps2 c1 c2 :=
  ⟨H.t1, H.t2, H.o1, H.o2, H.s12, Sep.symm fun q hq r hr => S q hq r (List.mem_append_left _ hr), Sep.symm fun q hq r hr => S q hq r (List.mem_append_right _ hr)⟩
theorem Tabs.less {own : Led} {ps1 ps2 : Array Value} {c1 c2 : Led} (H : Tabs own ps1 ps2 c1 c2) : Tabs [] ps1 ps2 c1 c2 :=
  ⟨H.t1, H.t2, H.o1, H.o2, H.s12, fun _ _ _ h => (by cases h), fun _ _ _ h => (by cases h)⟩
theorem Tabs.off {own : Led} {ps1 ps2 : Array Value} {c1 c2 : Led} (H : Tabs own ps1 ps2 c1 c2) : ∀ p ∈ tabsL ps1 ps2 c1 c2, ∀ r ∈ own, r.1 ≠ p.1 := fun p hp =>
  (List.mem_append.mp hp).elim (H.s1 p) (H.s2 p)
theorem tabs0 : Tabs [] #[] #[] [] [] :=
  ⟨tab_nil _, tab_nil _, fun _ h => (by cases h), fun _ h => (by cases h), fun q hq r hr => (by rw [List.mem_singleton.mp hq, List.mem_singleton.mp hr]; decide), fun _ _ _ h => (by cases h), fun _ _ _ h => (by cases h)⟩
def LawJ (m₀ : Str → Option Value) (m : Str → Option Value) (nx : Led) : Prop :=
  ∃ a b ps1 ps2 c1 c2, m = (fun y => if y = Str.ofString "source" then a else if y = Str.ofString "k" then b else m₀ y) ∧ Tabs [] ps1 ps2 c1 c2 ∧ nx = tabsL ps1 ps2 c1 c2
theorem lawJ_start {m₀ : Str → Option Value} : LawJ m₀ m₀ (tabsL #[] #[] [] []) := by
  refine ⟨m₀ (Str.ofString "source"), m₀ (Str.ofString "k"), _, _, _, _, ?_, tabs0, rfl⟩
  funext y
  split
  · rename_i h; rw [h]
  · split
    · rename_i h; rw [h]
    · rfl
theorem map_again {m₀ : Str → Option Value} {v v' : Value} {a b : Option Value} :
    (fun y => if y = Str.ofString "source" then some v else (fun y => if y = Str.ofString "k" then some v' else (fun y => if y = Str.ofString "source" then a else if y = Str.ofString "k" then b else m₀ y) y) y) =
      (fun y => if y = Str.ofString "source" then some v else if y = Str.ofString "k" then some v' else m₀ y) := by
  funext y
  dsimp only
  split
  · rfl
  · split
    · rfl
    · rfl
theorem turn_end {h₀ h' : Heap} {L src : Addr} {o : Obj} {m₀ : Str → Option Value} {own nx : Led} {s₁ : Shared} {Q : Flow → Shared → Prop} {tk : Nat} {v v' : Value} {a b : Option Value} {ps1 ps2 : Array Value} {c1 c2 : Led} (H : Tabs own ps1 ps2 c1 c2)
    (F : Fr h₀ L h' (fun y => if y = Str.ofString "source" then some v else if y = Str.ofString "k" then some v' else (fun y => if y = Str.ofString "source" then a else if y = Str.ofString "k" then b else m₀ y) y))
    (N : News h₀ L h' ((src, o) :: (own ++ tabsL ps1 ps2 c1 c2))) : TurnEnd h₀ L (LawJ m₀) own nx s₁ Q .next { s₁ with heap := h', toks := tk } := by
  have e := map_again (m₀ := m₀) (v := v) (v' := v') (a := a) (b := b)
  dsimp only at e F
  rw [e] at F
  exact ⟨h', tk, _, _, rfl, F, fun q hq => N q (.tail _ hq), fun p hp => .inr (H.off p hp), _, _, _, _, _, _, rfl, H.less, rfl⟩

-- part LW
theorem words0_LW : True := by
  k_with_none
  (k_with "MineEnter" => (refine wpAny_call ?_; k_dflt (refine' enterQ ?k1 ?k2 ?k3 ?k4 ?k5 ?kA ?kF ?kK ?k6 ?k7 ?k8 ?k9 ?kB ?_ ?c2 ?c3 ?c4 ?c5; (case kA => exact rfl); (case kF => exact rfl); (case kK => assumption); (case k1 => k_asm); (case k2 => k_asm); (case k3 => k_asm); (case k4 => k_asm); (case k5 => k_asm); (case k6 => k_is); (case k7 => k_is); (case k8 => ktr_room); (case k9 => first | exact BindsTo.of_eq rfl | exact binds_K (by k_in) rfl (by k_is) rfl rfl rfl); (case c5 => decide); (case kB => exact locs rfl); (case c2 => exact rfl); (case c3 => exact rfl); (case c4 => exact rfl)); intro g' L' h' tk' FG' F' N' B' X' T' hg' lL'; (try k_lt lL'); (try dsimp only); (try k_fold)))
  (k_with "MineEnterC" => (refine wpAny_call ?_; k_dflt (refine' enterQC ?k1 ?k2 ?k3 ?k4 ?k5 ?kA ?kF ?kK ?k6 ?k7 ?k8 ?k9 ?kB ?kD ?_ ?c2 ?c3 ?c4; (case kA => exact rfl); (case kF => exact rfl); (case kK => assumption); (case k1 => k_asm); (case k2 => k_asm); (case k3 => k_asm); (case k4 => k_asm); (case k5 => k_asm); (case k6 => k_is); (case k7 => k_is); (case k8 => ktr_room); (case k9 => first | exact BindsTo.of_eq rfl | exact binds_K (by k_in) rfl (by k_is) rfl rfl rfl); (case kB => exact rfl); (case kD => decide +kernel); (case c2 => exact rfl); (case c3 => exact rfl); (case c4 => exact rfl)); intro g' L' h' tk' cells' FG' F' N' Y' B' X' T' hg' lL'; (try k_lt lL'); k_cells Y'; (try simp only [List.cons_append, List.nil_append] at N'); (try dsimp only); (try k_fold)))
  (k_with "MineWalkC" => (k_extra "MineEnterC"; k_steps; all_goals (try dsimp only); all_goals (try (k_unfold; dsimp only))))
  (k_with "MineWalk" => (k_extra "MineEnter"; k_steps; all_goals (try dsimp only); all_goals (try (k_unfold; dsimp only))))
  (k_with "MineFresh" => first | exact List.forall_mem_nil _ | (refine' List.forall_mem_cons.mpr ⟨?fa, ?fb⟩; (case fa => (repeat (first | exact List.not_mem_nil | (refine' List.not_mem_cons_of_ne_of_not_mem ?fn ?_; (case fn => k_ne)))))); (case fb => k_extra "MineFresh"))
  (k_with "MineMem" => first | exact List.forall_mem_nil _ | (refine' List.forall_mem_cons.mpr ⟨?fa, ?fb⟩; (case fa => k_mem); (case fb => k_extra "MineMem")))
  (k_with "MineSide" => ((case kA => exact rfl); (case kh => exact rfl); (case kd => exact Nat.le_of_ble_eq_true rfl); (case ku => exact Nat.le_of_ble_eq_true rfl); (case kB => k_asm); (case kF => k_asm); (case kX => k_asm); (case kN => k_asm); (case kT => k_asm); (case kk => exact rfl)))
  (k_with "MineLed" => ((try simp only [List.nil_append, List.cons_append] at N'); (try (replace D' := allNe2_of D'; simp only [AllNe2, AllNe, and_true] at D'))))
  (k_with "MineLeaveW" => ((case F => k_asm); (case N => k_asm); (case h1 => k_mem); (case h2 => k_extra "MineMem"); (case h3 => k_extra "MineMem"); intro F9 N9 K9 Z9))
  (k_with "MineLeaveR" => ((case F => k_asm); (case N => k_asm); (case h2 => k_extra "MineMem"); (case h3 => k_extra "MineMem"); intro F9 N9 K9 Z9))
  (k_with "MineGetLen" => (exfalso; omega))
  (k_with "MinePut" => (first | exact Int.lt_of_lt_of_le (b := 256) (by omega) (by decide) | exact Int.lt_of_lt_of_le (b := 65536) (by omega) (by decide) | exact Int.lt_of_lt_of_le (b := 16777216) (by omega) (by decide) | exact Int.lt_of_lt_of_le (b := 281474976710656) (by omega) (by decide)))
  (k_with "MineBytes" => first | assumption | exact bI1 ⟨by omega, by omega⟩ | exact bI2 ⟨by omega, by omega⟩ ⟨by omega, by omega⟩ | exact zeros_ints _ | exact KBw.ints_list _)
  (k_with "MineAdd" => (k_here; (with_reducible show wpAny _ _ (binaryOp Operator.Add (Value.bytes _ _) (Value.bytes _ _)) _ _ _); (refine KBa.add_K (by k_extra "MineBytes") (by k_extra "MineBytes") (by first | (simp only [List.length_cons, List.length_nil, List.length_append, List.length_map, List.length_replicate, rangeInts_length]; omega) | omega | (simp only [List.length_cons, List.length_nil, List.length_append, List.length_map, List.length_replicate, sum_len]; omega)) ?_); intro t' k' hb'))
  (k_with "MinePutBad" => (intro h9; first | (have h8 := Int.lt_of_lt_of_le h9 (show (1 * 2 ^ ((8:Int) * 1).toNat : Int) ≤ 256 by decide); omega) | (have h8 := Int.lt_of_lt_of_le h9 (show (1 * 2 ^ ((8:Int) * 3).toNat : Int) ≤ 16777216 by decide); omega)))
  (k_with "MinePass" => ((rename RaisedS _ _ _ _ _ _ _ _ _ => rsX); k_dflt (refine' leave_onX (news := ?sub) ?K ?F ?hf rsX ?U ?hs ?_; (case sub => first | k_extra "MineSub" | exact []); (case K => k_asm); (case F => k_asm); (case hf => exact rfl); (case U => k_asm); (case hs => k_extra "MineMem"); intro h9 R9 U9)))
  (k_with "MineEnterS" => (refine wpAny_call ?_; k_dflt (refine' enterQS ?k1 ?k2 ?k3 ?k4 ?k5 ?k0 ?kA ?kF ?kK ?k6 ?k7 ?k8 ?k9 ?kB ?_ ?c2 ?c3 ?c4 ?c5; (case kA => exact rfl); (case kF => exact rfl); (case kK => assumption); (case k1 => k_asm); (case k2 => k_asm); (case k3 => k_asm); (case k4 => k_asm); (case k5 => k_asm); (case k0 => k_asm); (case k6 => k_is); (case k7 => k_is); (case k8 => ktr_room); (case k9 => first | exact BindsTo.of_eq rfl | exact binds_K (by k_in) rfl (by k_is) rfl rfl rfl); (case c5 => decide); (case kB => exact locs rfl); (case c2 => exact rfl); (case c3 => exact rfl); (case c4 => exact rfl)); intro g' L' h' tk' FG' F' N' B' X' T' D' hg' lL'; (try k_lt lL'); (try dsimp only); (try k_fold)))
  (k_with "MineEnterSC" => (refine wpAny_call ?_; k_dflt (refine' enterQSC ?k1 ?k2 ?k3 ?k4 ?k5 ?k0 ?kA ?kF ?kK ?k6 ?k7 ?k8 ?k9 ?kB ?kD ?_ ?c2 ?c3 ?c4; (case kA => exact rfl); (case kF => exact rfl); (case kK => assumption); (case k1 => k_asm); (case k2 => k_asm); (case k3 => k_asm); (case k4 => k_asm); (case k5 => k_asm); (case k0 => k_asm); (case k6 => k_is); (case k7 => k_is); (case k8 => ktr_room); (case k9 => first | exact BindsTo.of_eq rfl | exact binds_K (by k_in) rfl (by k_is) rfl rfl rfl); (case kB => exact rfl); (case kD => decide +kernel); (case c2 => exact rfl); (case c3 => exact rfl); (case c4 => exact rfl)); intro g' L' h' tk' cells' FG' F' N' Y' B' X' T' D' hg' lL'; (try k_lt lL'); k_cells Y'; (try simp only [List.cons_append, List.nil_append] at N'); (try dsimp only); (try k_fold)))
  (k_with "MineEnterL" => (refine wpAny_call ?_; k_dflt (refine' enterQL ?k1 ?k2 ?k3 ?k4 ?k5 ?kA ?kF ?kK ?ho ?hc ?hd ?hv ?k8 ?k9 ?kB ?_ ?c2 ?c3 ?c4 ?c5; (case kA => exact rfl); (case kF => exact rfl); (case kK => assumption); (case k1 => k_asm); (case k2 => k_asm); (case k3 => k_asm); (case k4 => k_asm); (case k5 => k_asm); (case ho => k_mem); (case hc => k_mem); (case hd => assumption); (case hv => assumption); (case k8 => ktr_room); (case k9 => exact rfl); (case c5 => decide); (case kB => exact locs rfl); (case c2 => exact rfl); (case c3 => exact rfl); (case c4 => exact rfl)); intro g' L' h' tk' FG' F' N' B' X' T' hg' lL'; (try k_lt lL'); (try dsimp only); (try k_fold)))
  (k_with "MineWalkL" => (k_extra "MineEnterL"; k_dflt (show wpAny _ _ (eval (Expr.Call _ _ _ _) _) _ _ _); k_steps; all_goals (try dsimp only); all_goals (try (k_unfold; dsimp only))))
  (k_with "MineWalkS" => (k_extra "MineEnterS"; k_steps; all_goals (try dsimp only); all_goals (try (k_unfold; dsimp only))))
  (k_with "MineSame" => first | exact SameL.nil | (refine' SameL.cons ?sa ?sb; (case sa => first | exact same_int _ _ _ | exact same_bytes _ _ _ | exact PySem.SeqAt.EqAt.same _); (case sb => k_extra "MineSame")))
  (k_with "MineNeT" => (k_here; (with_reducible show wpAny _ _ (compareOp CmpOp.NotEq (Value.ref _) (Value.ref _)) _ _ _); k_dflt (refine' ne_tups ?N ?ml ?mb ?cl ?dl ?cb ?db ?hu ?hs ?_; (case N => k_asm); (case ml => k_mem); (case mb => k_mem); (case cl => rfl); (case dl => rfl); (case cb => rfl); (case db => rfl); (case hu => ke_room); (case hs => k_extra "MineSame"))))
  (k_with "MineEqT" => (k_here; (with_reducible show wpAny _ _ (compareOp CmpOp.Eq (Value.ref _) (Value.ref _)) _ _ _); k_dflt (refine' eq_tups ?N ?ml ?mb ?cl ?dl ?cb ?db ?hu ?hs ?_; (case N => k_asm); (case ml => k_mem); (case mb => k_mem); (case cl => rfl); (case dl => rfl); (case cb => rfl); (case db => rfl); (case hu => ke_room); (case hs => k_extra "MineSame"))))
  (k_with "MineNew" => ((try dsimp only [AllNe] at D1'); (try dsimp only [AllNe] at D2'); (try dsimp only [AllNe] at D3')))
  (k_with "MineNe1" => (refine neN ?_; (try dsimp only); with_reducible first | assumption | (refine Ne.symm ?_; assumption) | exact Nat.ne_of_lt (by assumption) | exact Nat.ne_of_gt (by assumption) | exact Nat.ne_of_lt (by k_extra "MineLtS") | exact Nat.ne_of_gt (by k_extra "MineLtS") | k_extra "MineNe2"))
  (k_with "MineLtS" => first | assumption | exact Nat.lt_succ_self _ | (refine Nat.lt_succ_of_lt ?_; k_extra "MineLtS"))
  (k_with "MineNe2" => (rename _ ∧ _ => hc9; first | k_extra "MinePrj" | (clear hc9; k_extra "MineNe2")))
  (k_with "MinePrj" => first | exact hc9.1 | exact Ne.symm hc9.1 | exact Nat.ne_of_lt hc9.1 | exact Nat.ne_of_gt hc9.1 | exact hc9.2.1 | exact Ne.symm hc9.2.1 | exact Nat.ne_of_lt hc9.2.1 | exact Nat.ne_of_gt hc9.2.1 | exact hc9.2.2.1 | exact Ne.symm hc9.2.2.1 | exact Nat.ne_of_lt hc9.2.2.1 | exact Nat.ne_of_gt hc9.2.2.1 | exact hc9.2.2.2.1 | exact Ne.symm hc9.2.2.2.1 | exact Nat.ne_of_lt hc9.2.2.2.1 | exact Nat.ne_of_gt hc9.2.2.2.1 | exact hc9.2.2.2.2.1 | exact Ne.symm hc9.2.2.2.2.1 | exact Nat.ne_of_lt hc9.2.2.2.2.1 | exact Nat.ne_of_gt hc9.2.2.2.2.1 | exact hc9.2.2.2.2.2.1 | exact Ne.symm hc9.2.2.2.2.2.1 | exact Nat.ne_of_lt hc9.2.2.2.2.2.1 | exact Nat.ne_of_gt hc9.2.2.2.2.2.1 | exact hc9.2.2.2.2.2.2.1 | exact Ne.symm hc9.2.2.2.2.2.2.1 | exact Nat.ne_of_lt hc9.2.2.2.2.2.2.1 | exact Nat.ne_of_gt hc9.2.2.2.2.2.2.1 | exact hc9.2.2.2.2.2.2.2.1 | exact Ne.symm hc9.2.2.2.2.2.2.2.1 | exact Nat.ne_of_lt hc9.2.2.2.2.2.2.2.1 | exact Nat.ne_of_gt hc9.2.2.2.2.2.2.2.1 | exact hc9.2.2.2.2.2.2.2.2.1 | exact Ne.symm hc9.2.2.2.2.2.2.2.2.1 | exact Nat.ne_of_lt hc9.2.2.2.2.2.2.2.2.1 | exact Nat.ne_of_gt hc9.2.2.2.2.2.2.2.2.1 | exact hc9.2.2.2.2.2.2.2.2.2.1 | exact Ne.symm hc9.2.2.2.2.2.2.2.2.2.1 | exact Nat.ne_of_lt hc9.2.2.2.2.2.2.2.2.2.1 | exact Nat.ne_of_gt hc9.2.2.2.2.2.2.2.2.2.1 | exact hc9.2.2.2.2.2.2.2.2.2.2.1 | exact Ne.symm hc9.2.2.2.2.2.2.2.2.2.2.1 | exact Nat.ne_of_lt hc9.2.2.2.2.2.2.2.2.2.2.1 | exact Nat.ne_of_gt hc9.2.2.2.2.2.2.2.2.2.2.1 | exact hc9.2.2.2.2.2.2.2.2.2.2.2.1 | exact Ne.symm hc9.2.2.2.2.2.2.2.2.2.2.2.1 | exact Nat.ne_of_lt hc9.2.2.2.2.2.2.2.2.2.2.2.1 | exact Nat.ne_of_gt hc9.2.2.2.2.2.2.2.2.2.2.2.1 | exact hc9.2.2.2.2.2.2.2.2.2.2.2.2.1 | exact Ne.symm hc9.2.2.2.2.2.2.2.2.2.2.2.2.1 | exact Nat.ne_of_lt hc9.2.2.2.2.2.2.2.2.2.2.2.2.1 | exact Nat.ne_of_gt hc9.2.2.2.2.2.2.2.2.2.2.2.2.1 | exact hc9.2.2.2.2.2.2.2.2.2.2.2.2.2.1 | exact Ne.symm hc9.2.2.2.2.2.2.2.2.2.2.2.2.2.1 | exact Nat.ne_of_lt hc9.2.2.2.2.2.2.2.2.2.2.2.2.2.1 | exact Nat.ne_of_gt hc9.2.2.2.2.2.2.2.2.2.2.2.2.2.1 | exact hc9.2.2.2.2.2.2.2.2.2.2.2.2.2.2.1 | exact Ne.symm hc9.2.2.2.2.2.2.2.2.2.2.2.2.2.2.1 | exact Nat.ne_of_lt hc9.2.2.2.2.2.2.2.2.2.2.2.2.2.2.1 | exact Nat.ne_of_gt hc9.2.2.2.2.2.2.2.2.2.2.2.2.2.2.1 | exact hc9.2.2.2.2.2.2.2.2.2.2.2.2.2.2.2.1 | exact Ne.symm hc9.2.2.2.2.2.2.2.2.2.2.2.2.2.2.2.1 | exact Nat.ne_of_lt hc9.2.2.2.2.2.2.2.2.2.2.2.2.2.2.2.1 | exact Nat.ne_of_gt hc9.2.2.2.2.2.2.2.2.2.2.2.2.2.2.2.1)
  trivial
theorem wordsK_LW : True := by
  (k_with "call ref" => (k_here; (with_reducible show wpAny _ _ (call (Value.ref 334) _) _ _ _); (try k_fold); k_dflt (refine' OkN.useLlc (llc_ok _ _ _ _ _ _ ) ?kA ?kh ?kd ?ku ?kB ?kF ?kX ?kN ?kT ?kk ?_; k_extra "MineSide"; intro x' dx' k1' k2' k3' k4' h' tk' ne' D1' D2' F' N'; replace ne' := neN ne'; k_extra "MineNew")))
  trivial
theorem wordsLW : True := by
  (k_with "call ref" => (k_here; (with_reducible show wpAny _ _ (call (Value.ref 352) _) _ _ _); (try k_fold); k_dflt (refine' Ok.useBy (pack_llc_ok _ _ _ _ _ _ _ 66 66 3 _ _ _ _ _ [120] [66, 66, 3, 120] ?p0 ?p1 ?p2 ?p3 ?p4 ?p5) ?kA ?kh ?kd ?ku ?kB ?kF ?kX ?kN ?kT ?kk ?ks ?_; k_extra "MineSide"; (case ks => k_extra "MineMem"); (case p0 => assumption); (case p1 => rfl); (case p2 => decide); (case p3 => exact .one (by decide) (by decide) rfl); (case p4 => decide); (case p5 => decide); intro b' t' h' tk' hb' F' N')))
  (k_with "MineNe" => (k_dflt (refine ne_same (bInts_inj (hb'.trans rfl)) ?_)))
  (k_with "call ref" => (k_here; (with_reducible show wpAny _ _ (call (Value.ref 359) _) _ _ _); (try k_fold); k_dflt (refine' Ok.useUnp (unpack_llc_ok _ _ _ [4, 5, 1, 2, 9] [9] 4 5 258 ?p0 ?p1 ?p2) ?kA ?kh ?kd ?ku ?kB ?kF ?kX ?kN ?kT ?kk ?ks ?_; k_extra "MineSide"; (case ks => k_extra "MineMem"); (case p0 => rfl); (case p1 => decide); (case p2 => exact .two (by decide) (by decide) (by decide) rfl); intro x' dx' k1' k2' k3' k4' t0' t1' tc' pb' tp' h' tk' hb' ne' D1' D2' F' N'; replace ne' := neN ne'; (have hpb9 : pb' = #[9] := bInts_inj (hb'.trans rfl)); subst hpb9; k_extra "MineNew")))
  (k_with "call ref" => (k_here; (with_reducible show wpAny _ _ (call (Value.ref 387) _) _ _ _); (try k_fold); k_dflt (refine' OkB.usePool (pool_ok _ _ _ _ _ _ ?p0 ?p1 ?p2 ?p3) ?kA ?kh ?kd ?ku ?kB ?kF ?kX ?kN ?kT ?kk ?hp ?_; k_extra "MineSide"; (case hp => assumption); (case p0 => assumption); (case p1 => omega); (case p2 => assumption); (case p3 => omega); intro src9 o9 h' tk' hP9 D9 F' N')))
  (k_with "call ref" => (k_here; (with_reducible show wpAny _ _ (call (Value.ref 427) _) _ _ _); (try k_fold); k_dflt (refine' head_use hP9 H9 D9 ?kA ?kh ?kd ?ku ?kB ?kF ?kX ?kN ?kT ?kk ?_; k_extra "MineSide"; clear hP9 H9 D9; intro o9 ps19 c19 h' tk' hP9 H9 D9 F' N')))
  (k_with "call ref" => (k_here; (with_reducible show wpAny _ _ (call (Value.ref 434) _) _ _ _); (try k_fold); k_dflt (refine' kind_use hP9 H9 D9 ?kA ?kh ?kd ?ku ?kB ?kF ?kX ?kN ?kT ?kk ?_; k_extra "MineSide"; clear hP9 H9 D9; intro o9 ps29 c29 h' tk' hP9 H9 D9 F' N')))
  trivial
theorem law0 : rw0.Holds := by
  refine' hd0 (d := _) (kwd := _) ?h1 ?h2 ?h3 ?h4
  case h1 => exact rfl
  case h2 => exact rfl
  case h3 => exact rfl
  case h4 =>
    k_fill
    intro w s₀ s₁ mg mb G Y fa o pm cd doc dV kV ho hd hcd hD hmg hg args vals as hpre hlay hrd hwl hlo
    have KX : (KH w.params).In _ := km_in_of Y
    revert KX
    k_fill
    intro KX
    have hT8 := km_tabs_of Y
    clear Y
    have X := (Ground.X G).1
    have V := (Ground.X G).2
    refine Ground.open G ?_
    intro T B D TE TW
    try (refine guard_noD D (by decide +kernel) ?_; clear D)
    have hT9 : TabsAt ([(433, 429), (426, 422)] : List (Addr × Addr)) s₁.heap := List.forall_mem_cons.mpr ⟨⟨code429 KX, hT8 429 (by k_mem)⟩, List.forall_mem_cons.mpr ⟨⟨code422 KX, hT8 422 (by k_mem)⟩, fun _ h => nomatch h⟩⟩
    clear hmg hT8
    wrow_args hpre hlay hrd hwl hlo
    all_goals (
      first | refine callC_kw (enter_call ?_) | refine enter_call ?_
      w_top on
      kn_posts
      w_call any ho hd hcd hD T F
      clear hd
      kn_ghosts F T
      k_drop
      skip)
    all_goals (try k_fold)
    clear hD hcd
    repeat' (first | (k_unfold; (try dsimp only)) | ((fail_if_success (with_reducible show wpAny _ _ (pyIter _) _ _ _)); first | walk1 | (dsimp only; walk1)))
    (with_reducible rename IsRange _ _ _ _ _ _ _ _ => rgX)
    (with_reducible rename News _ _ _ _ => N9)
    (with_reducible rename Fr _ _ _ _ => F9)
    obtain ⟨n9, hn9, hr9, hsm9⟩ := rng_of rgX
    have N8 := news_sub (sub := tabsL #[] #[] [] []) N9 (List.forall_mem_cons.mpr ⟨by k_mem, List.forall_mem_cons.mpr ⟨by k_mem, List.forall_mem_nil _⟩⟩)
    k_dflt (refine' range_any (LawJ _) rfl rgX hsm9 hr9 F9 N8 lawJ_start ?turn ?done)
    case turn =>
      clear N9 N8 F9
      rintro k9 t9 _ _ h9 tk9 own9 hk90 hk91 ⟨a9, b9, ps19, ps29, c19, c29, rfl, H9, rfl⟩ F' N' S9
      replace H9 := H9.more S9
      clear S9
      (try k_fold)
      repeat' (first | (k_unfold; (try dsimp only)) | walk1 | (dsimp only; walk1))
      k_dflt (exact turn_end H9 F' N')
    case done =>
      clear N9 N8 F9
      rintro _ _ h9 tk9 ⟨a9, b9, ps19, ps29, c19, c29, rfl, H9, rfl⟩ F' N'
      have N7 := news_sub (sub := [(422, tabObj ps19), (429, tabObj ps29)]) N' (List.forall_mem_cons.mpr ⟨.head _, List.forall_mem_cons.mpr ⟨List.mem_append_right _ (.head _), List.forall_mem_nil _⟩⟩)
      clear N'
      k_steps

end Mine
theorem PySem.Challenge.cw_pb0555_01_holds : PySem.Challenge.rw_pb0555_01.Holds := by
  exact Mine.law0
