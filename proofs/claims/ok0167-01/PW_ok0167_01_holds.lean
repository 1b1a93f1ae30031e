import PyProof.Rows.All
import Wide.All
import OpenK.AllK
import Wide.FinOn
import PySem.Challenge.RW_ok0167_01
open PySem PySem.W PyProof.Rows
set_option Elab.async false
set_option maxRecDepth 100000
set_option linter.all false
set_option rowWalk.seconds 0
namespace Mine
local macro_rules | `(tactic| walk_at $s:str) => `(tactic| k_extra $s)
-- He
/-! the top's run, piece by piece: the states are printed by wip/gen/P1c.lean, laid by wip/gen/head.py -/
noncomputable abbrev pw : Program := PySem.Challenge.pw_ok0167_01
def S (x : String) : Str := Str.ofString x
def K (P : Params) (x : Str) : Int := PyData.keyHash P x
noncomputable def sAt (i : Nat) : Stmt := (pw.main.body[i]?).getD (.Pass ⟨0, 0, 0, 0⟩)
def dA : Stmt → Arguments
  | .FunctionDef _ a _ _ _ _ _ _ _ _ => a
  | _ => ⟨[], [], none, [], [], none, []⟩
def dB : Stmt → List Stmt
  | .FunctionDef _ _ b _ _ _ _ _ _ _ => b
  | .ClassDef _ _ _ b _ _ _ _ _ _ _ => b
  | _ => []
noncomputable def dS : Stmt → Scope
  | .FunctionDef _ _ _ _ _ _ sc _ _ _ => sc
  | .ClassDef _ _ _ _ _ _ sc _ _ _ _ => sc
  | _ => pw.main.scope
noncomputable def fA (i : Nat) : Arguments := dA (sAt i)
noncomputable def fB (i : Nat) : List Stmt := dB (sAt i)
noncomputable def fS (i : Nat) : Scope := dS (sAt i)
noncomputable def cB (i : Nat) : List Stmt := dB (sAt i)
noncomputable def cS (i : Nat) : Scope := dS (sAt i)
noncomputable def mAt (i j : Nat) : Stmt := ((cB i)[j]?).getD (.Pass ⟨0, 0, 0, 0⟩)
noncomputable def mA (i j : Nat) : Arguments := dA (mAt i j)
noncomputable def mB (i j : Nat) : List Stmt := dB (mAt i j)
noncomputable def mS (i j : Nat) : Scope := dS (mAt i j)
def lifeE : Life := ⟨[], [], [], 0, [], [], false, #[], [], 0, false, false, false, 0, [2000, 10, 10], false, 0, true, [], [], 0, false⟩
def drawnE : Drawn := ⟨0, 0, 0, 0⟩
def annE : Option Value := (some (.ref 6))
def posQ : Pos := ⟨0, 0, 0, 0⟩
noncomputable def envE : Env := { scope := pw.main.scope, locals := mainNs, globals := mainNs, cells := [], code := (.ref 13), frame := some 14 }
noncomputable def cE : Code := .body (behindTheImports pw) envE
def BE : List Frame := [topFrame posQ]
abbrev m0 : Nat := 11
noncomputable def o11 (P : Params) : Obj := ⟨(.type "tuple"), none, (.seq #[] 0), #[]⟩
noncomputable def o12 (P : Params) : Obj := ⟨.none, none, (.fields #[]), #[]⟩
noncomputable def o13 (P : Params) : Obj := ⟨(.type "code"), none, (.fields #[(.str (S "<module>") 182), (.str (S "<module>") 183), (.str (S "/claim/cut.py") 184), (.int 1 0), (.int 0 0), (.int 0 0), (.int 0 0), (.int 0 0), (.ref 11), (.bool false), (.int 181 0), (.ref 12), .none, .none, .none, .none, (.int 185 0), (.int 1 0), (.str (S "/claim/cut.py") 186)]), #[]⟩
noncomputable def o14 (P : Params) : Obj := ⟨(.type "frame"), none, .plain, #[(some (.ref 13)), (some (.ref 3)), (some (.ref 3)), none, (some (.str (S "__main__") 164)), none, (some (.ref 0))]⟩
noncomputable def h_pre (P : Params) : Heap := ⟨⟨[boot_o_0 P, boot_o_1 P, boot_o_2 P, boot_o_3 P, boot_o_4 P, boot_o_5 P, boot_o_6 P, boot_o_7 P, boot_o_8 P, boot_o_9 P, boot_o_10 P, o11 P, o12 P, o13 P, o14 P]⟩, lifeE⟩
noncomputable def t_block (P : Params) : BT := (.node (boot_o_0 P) (.node (boot_o_1 P) (.node (boot_o_3 P) (.node (boot_o_7 P) .nil .nil) (.node (o11 P) .nil .nil)) (.node (boot_o_5 P) (.node (boot_o_9 P) .nil .nil) (.node (o13 P) .nil .nil))) (.node (boot_o_2 P) (.node (boot_o_4 P) (.node (boot_o_8 P) .nil .nil) (.node (o12 P) .nil .nil)) (.node (boot_o_6 P) (.node (boot_o_10 P) .nil .nil) (.node (o14 P) .nil .nil))))
noncomputable def o2 (P : Params) : Obj := ⟨.none, none, (.dict #[⟨(K P (S "type.__subclasses__.Exception.0")), (.str (S "type.__subclasses__.Exception.0") 232), (.int 46 0)⟩, ⟨(K P (S "type.__subclasses__.Exception.n")), (.str (S "type.__subclasses__.Exception.n") 233), (.int 1 0)⟩] 2), #[]⟩
noncomputable def o3 (P : Params) : Obj := ⟨(.type "dict"), none, (.dict #[⟨(K P (S "__name__")), (.str (S "__name__") 165), (.str (S "ringgate.basics") 194)⟩, ⟨(K P (S "__doc__")), (.str (S "__doc__") 166), .none⟩, ⟨(K P (S "__package__")), (.str (S "__package__") 167), .none⟩, ⟨(K P (S "__loader__")), (.str (S "__loader__") 168), (.builtin "__main__.__loader__#opaque")⟩, ⟨(K P (S "__spec__")), (.str (S "__spec__") 169), .none⟩, ⟨(K P (S "__annotations__")), (.str (S "__annotations__") 170), (.ref 6)⟩, ⟨(K P (S "__builtins__")), (.str (S "__builtins__") 171), (.ref 4)⟩, ⟨(K P (S "__file__")), (.str (S "__file__") 173), (.str (S "/claim/cut.py") 172)⟩, ⟨(K P (S "__cached__")), (.str (S "__cached__") 174), .none⟩, ⟨(K P (S "_wall")), (.str (S "_wall") 193), (.ref 21)⟩, ⟨(K P (S "U64")), (.str (S "U64") 197), (.int 18446744073709551615 196)⟩, ⟨(K P (S "GateError")), (.str (S "GateError") 235), (.ref 46)⟩] 12), #[]⟩
noncomputable def o12v1 (P : Params) : Obj := ⟨.none, none, (.fields #[(.int 1 0), (.int 0 0), (.ref 20), (.int 6 0), (.int 0 0), (.ref 27)]), #[]⟩
noncomputable def o15 (P : Params) : Obj := ⟨(.type "tuple"), none, (.seq #[] 0), #[]⟩
noncomputable def o16 (P : Params) : Obj := ⟨.none, none, (.fields #[]), #[]⟩
noncomputable def o17 (P : Params) : Obj := ⟨(.type "tuple"), none, (.seq #[(.str (S "k") 190)] 0), #[]⟩
noncomputable def o18 (P : Params) : Obj := ⟨(.type "tuple"), none, (.seq #[] 0), #[]⟩
noncomputable def o19 (P : Params) : Obj := ⟨.none, none, (.func ⟨(S "_wall"), (S "_wall"), (fA 0), (.stmts (fB 0)), (fS 0), 0, [], .none, .none, .none, .none, none, .none, .none, 0⟩), #[]⟩
noncomputable def o20 (P : Params) : Obj := ⟨(.type "code"), none, (.fields #[(.str (S "_wall") 187), (.str (S "_wall") 188), (.str (S "/claim/cut.py") 189), (.int 1 0), (.int 1 0), (.int 0 0), (.int 0 0), (.int 3 0), (.ref 15), (.bool true), (.int 181 0), (.ref 16), .none, (.ref 17), (.ref 18), (.ref 19), (.int 191 0), (.int 1 0), (.str (S "/claim/cut.py") 192)]), #[]⟩
noncomputable def o21 (P : Params) : Obj := ⟨(.type "function"), none, (.func ⟨(S "_wall"), (S "_wall"), (fA 0), (.stmts (fB 0)), (fS 0), 3, [], .none, .none, .none, (.str (S "__main__") 164), none, (.ref 20), .none, 0⟩), #[]⟩
noncomputable def o22 (P : Params) : Obj := ⟨(.type "tuple"), none, (.seq #[(.type "Exception")] 0), #[]⟩
noncomputable def o23 (P : Params) : Obj := ⟨(.type "builtin_function_or_method"), none, (.fields #[(.builtin "type.__prepare__"), (.type "type")]), #[]⟩
noncomputable def o24 (P : Params) : Obj := ⟨(.type "dict"), none, (.dict #[⟨(K P (S "__module__")), (.str (S "__module__") 205), (.str (S "ringgate.basics") 194)⟩, ⟨(K P (S "__qualname__")), (.str (S "__qualname__") 207), (.str (S "GateError") 206)⟩, ⟨(K P (S "__firstlineno__")), (.str (S "__firstlineno__") 209), (.int 6 208)⟩, ⟨(K P (S "__init__")), (.str (S "__init__") 218), (.ref 36)⟩, ⟨(K P (S "told")), (.str (S "told") 225), (.ref 43)⟩, ⟨(K P (S "__static_attributes__")), (.str (S "__static_attributes__") 228), (.ref 44)⟩] 6), #[]⟩
noncomputable def o25 (P : Params) : Obj := ⟨(.type "tuple"), none, (.seq #[] 0), #[]⟩
noncomputable def o26 (P : Params) : Obj := ⟨.none, none, (.fields #[(.int 8 0), (.int 4 0), (.ref 35), (.int 13 0), (.int 4 0), (.ref 42)]), #[]⟩
noncomputable def o27 (P : Params) : Obj := ⟨(.type "code"), none, (.fields #[(.str (S "GateError") 200), (.str (S "GateError") 201), (.str (S "/claim/cut.py") 202), (.int 6 0), (.int 0 0), (.int 0 0), (.int 0 0), (.int 0 0), (.ref 25), (.bool false), (.int 181 0), (.ref 26), .none, .none, .none, .none, (.int 203 0), (.int 6 0), (.str (S "/claim/cut.py") 204)]), #[]⟩
noncomputable def o28 (P : Params) : Obj := ⟨(.type "frame"), none, .plain, #[(some (.ref 27)), (some (.ref 3)), (some (.ref 24)), none, (some (.str (S "ringgate.basics") 194)), none, (some (.ref 0))]⟩
noncomputable def o29 (P : Params) : Obj := ⟨(.type "tuple"), none, (.seq #[.none] 0), #[]⟩
noncomputable def o30 (P : Params) : Obj := ⟨(.type "tuple"), none, (.seq #[] 0), #[]⟩
noncomputable def o31 (P : Params) : Obj := ⟨.none, none, (.fields #[]), #[]⟩
noncomputable def o32 (P : Params) : Obj := ⟨(.type "tuple"), none, (.seq #[(.str (S "self") 213), (.str (S "what") 214), (.str (S "at") 215)] 0), #[]⟩
noncomputable def o33 (P : Params) : Obj := ⟨(.type "tuple"), none, (.seq #[] 0), #[]⟩
noncomputable def o34 (P : Params) : Obj := ⟨.none, none, (.func ⟨(S "__init__"), (S "GateError.__init__"), (mA 3 0), (.stmts (mB 3 0)), (mS 3 0), 0, [], .none, .none, .none, .none, none, .none, .none, 0⟩), #[]⟩
noncomputable def o35 (P : Params) : Obj := ⟨(.type "code"), none, (.fields #[(.str (S "__init__") 210), (.str (S "GateError.__init__") 211), (.str (S "/claim/cut.py") 212), (.int 8 0), (.int 3 0), (.int 0 0), (.int 0 0), (.int 3 0), (.ref 30), (.bool true), (.int 181 0), (.ref 31), .none, (.ref 32), (.ref 33), (.ref 34), (.int 216 0), (.int 8 0), (.str (S "/claim/cut.py") 217)]), #[]⟩
noncomputable def o36 (P : Params) : Obj := ⟨(.type "function"), none, (.func ⟨(S "__init__"), (S "GateError.__init__"), (mA 3 0), (.stmts (mB 3 0)), (mS 3 0), 3, [], (.ref 29), .none, .none, (.str (S "ringgate.basics") 194), none, (.ref 35), .none, 0⟩), #[]⟩
noncomputable def o37 (P : Params) : Obj := ⟨(.type "tuple"), none, (.seq #[] 0), #[]⟩
noncomputable def o38 (P : Params) : Obj := ⟨.none, none, (.fields #[]), #[]⟩
noncomputable def o39 (P : Params) : Obj := ⟨(.type "tuple"), none, (.seq #[(.str (S "self") 222)] 0), #[]⟩
noncomputable def o40 (P : Params) : Obj := ⟨(.type "tuple"), none, (.seq #[] 0), #[]⟩
noncomputable def o41 (P : Params) : Obj := ⟨.none, none, (.func ⟨(S "told"), (S "GateError.told"), (mA 3 1), (.stmts (mB 3 1)), (mS 3 1), 0, [], .none, .none, .none, .none, none, .none, .none, 0⟩), #[]⟩
noncomputable def o42 (P : Params) : Obj := ⟨(.type "code"), none, (.fields #[(.str (S "told") 219), (.str (S "GateError.told") 220), (.str (S "/claim/cut.py") 221), (.int 13 0), (.int 1 0), (.int 0 0), (.int 0 0), (.int 3 0), (.ref 37), (.bool true), (.int 181 0), (.ref 38), .none, (.ref 39), (.ref 40), (.ref 41), (.int 223 0), (.int 13 0), (.str (S "/claim/cut.py") 224)]), #[]⟩
noncomputable def o43 (P : Params) : Obj := ⟨(.type "function"), none, (.func ⟨(S "told"), (S "GateError.told"), (mA 3 1), (.stmts (mB 3 1)), (mS 3 1), 3, [], .none, .none, .none, (.str (S "ringgate.basics") 194), none, (.ref 42), .none, 0⟩), #[]⟩
noncomputable def o44 (P : Params) : Obj := ⟨(.type "tuple"), none, (.seq #[(.str (S "at") 226), (.str (S "what") 227)] 0), #[]⟩
noncomputable def o45 (P : Params) : Obj := ⟨(.type "dict"), none, (.dict #[⟨(K P (S "__module__")), (.str (S "__module__") 205), (.str (S "ringgate.basics") 194)⟩, ⟨(K P (S "__firstlineno__")), (.str (S "__firstlineno__") 209), (.int 6 208)⟩, ⟨(K P (S "__init__")), (.str (S "__init__") 218), (.ref 36)⟩, ⟨(K P (S "told")), (.str (S "told") 225), (.ref 43)⟩, ⟨(K P (S "__static_attributes__")), (.str (S "__static_attributes__") 228), (.ref 44)⟩, ⟨(K P (S "__weakref__")), (.str (S "__weakref__") 230), (.ref 47)⟩, ⟨(K P (S "__doc__")), (.str (S "__doc__") 231), .none⟩] 3), #[]⟩
noncomputable def o46 (P : Params) : Obj := ⟨(.type "type"), none, (.cls ⟨(S "GateError"), [(.type "Exception")], [(.ref 46), (.type "Exception"), (.type "BaseException"), (.type "object")], 45, (S "GateError"), true, [], [], false, none, false⟩), #[(some (.ref 22)), none, (some (.str (S "GateError") 198)), (some (.str (S "GateError") 206)), (some (.builtin "Exception.__new__")), (some (.bool true))]⟩
noncomputable def o47 (P : Params) : Obj := ⟨(.type "getset_descriptor"), none, (.fields #[(.str (S "__weakref__") 229), (.ref 46), (.builtin "ExceptionGroup.__weakref__"), .none]), #[]⟩
noncomputable def o48 (P : Params) : Obj := ⟨(.type "super"), none, (.fields #[(.ref 46), (.ref 46), (.ref 46)]), #[]⟩
noncomputable def o49 (P : Params) : Obj := ⟨(.type "builtin_function_or_method"), none, (.fields #[(.builtin "object.__init_subclass__"), (.ref 46)]), #[]⟩
noncomputable def t_p3 (P : Params) : BT := (.node (boot_o_0 P) (.node (boot_o_1 P) (.node (o3 P) (.node (boot_o_7 P) (.node (o15 P) (.node (o31 P) .nil .nil) (.node (o47 P) .nil .nil)) (.node (o23 P) (.node (o39 P) .nil .nil) .nil)) (.node (o11 P) (.node (o19 P) (.node (o35 P) .nil .nil) .nil) (.node (o27 P) (.node (o43 P) .nil .nil) .nil))) (.node (boot_o_5 P) (.node (boot_o_9 P) (.node (o17 P) (.node (o33 P) .nil .nil) (.node (o49 P) .nil .nil)) (.node (o25 P) (.node (o41 P) .nil .nil) .nil)) (.node (o13 P) (.node (o21 P) (.node (o37 P) .nil .nil) .nil) (.node (o29 P) (.node (o45 P) .nil .nil) .nil)))) (.node (o2 P) (.node (boot_o_4 P) (.node (boot_o_8 P) (.node (o16 P) (.node (o32 P) .nil .nil) (.node (o48 P) .nil .nil)) (.node (o24 P) (.node (o40 P) .nil .nil) .nil)) (.node (o12v1 P) (.node (o20 P) (.node (o36 P) .nil .nil) .nil) (.node (o28 P) (.node (o44 P) .nil .nil) .nil))) (.node (boot_o_6 P) (.node (boot_o_10 P) (.node (o18 P) (.node (o34 P) .nil .nil) .nil) (.node (o26 P) (.node (o42 P) .nil .nil) .nil)) (.node (o14 P) (.node (o22 P) (.node (o38 P) .nil .nil) .nil) (.node (o30 P) (.node (o46 P) .nil .nil) .nil)))))
noncomputable def o3v1 (P : Params) : Obj := ⟨(.type "dict"), none, (.dict #[⟨(K P (S "__name__")), (.str (S "__name__") 165), (.str (S "ringgate.basics") 194)⟩, ⟨(K P (S "__doc__")), (.str (S "__doc__") 166), .none⟩, ⟨(K P (S "__package__")), (.str (S "__package__") 167), .none⟩, ⟨(K P (S "__loader__")), (.str (S "__loader__") 168), (.builtin "__main__.__loader__#opaque")⟩, ⟨(K P (S "__spec__")), (.str (S "__spec__") 169), .none⟩, ⟨(K P (S "__annotations__")), (.str (S "__annotations__") 170), (.ref 6)⟩, ⟨(K P (S "__builtins__")), (.str (S "__builtins__") 171), (.ref 4)⟩, ⟨(K P (S "__file__")), (.str (S "__file__") 173), (.str (S "/claim/cut.py") 172)⟩, ⟨(K P (S "__cached__")), (.str (S "__cached__") 174), .none⟩, ⟨(K P (S "_wall")), (.str (S "_wall") 193), (.ref 21)⟩, ⟨(K P (S "U64")), (.str (S "U64") 197), (.int 18446744073709551615 196)⟩, ⟨(K P (S "GateError")), (.str (S "GateError") 235), (.ref 46)⟩, ⟨(K P (S "Fault")), (.str (S "Fault") 251), (.ref 59)⟩] 13), #[]⟩
noncomputable def o12v2 (P : Params) : Obj := ⟨.none, none, (.fields #[(.int 1 0), (.int 0 0), (.ref 20), (.int 6 0), (.int 0 0), (.ref 27), (.int 15 0), (.int 0 0), (.ref 55)]), #[]⟩
noncomputable def o46v1 (P : Params) : Obj := ⟨(.type "type"), none, (.cls ⟨(S "GateError"), [(.type "Exception")], [(.ref 46), (.type "Exception"), (.type "BaseException"), (.type "object")], 45, (S "GateError"), true, [], [(.ref 59)], false, none, false⟩), #[(some (.ref 22)), none, (some (.str (S "GateError") 198)), (some (.str (S "GateError") 206)), (some (.builtin "Exception.__new__")), (some (.bool true))]⟩
noncomputable def o50 (P : Params) : Obj := ⟨(.type "tuple"), none, (.seq #[(.ref 46)] 0), #[]⟩
noncomputable def o51 (P : Params) : Obj := ⟨(.type "builtin_function_or_method"), none, (.fields #[(.builtin "type.__prepare__"), (.type "type")]), #[]⟩
noncomputable def o52 (P : Params) : Obj := ⟨(.type "dict"), none, (.dict #[⟨(K P (S "__module__")), (.str (S "__module__") 243), (.str (S "ringgate.basics") 194)⟩, ⟨(K P (S "__qualname__")), (.str (S "__qualname__") 245), (.str (S "Fault") 244)⟩, ⟨(K P (S "__firstlineno__")), (.str (S "__firstlineno__") 247), (.int 15 246)⟩, ⟨(K P (S "__static_attributes__")), (.str (S "__static_attributes__") 248), (.ref 57)⟩] 4), #[]⟩
noncomputable def o53 (P : Params) : Obj := ⟨(.type "tuple"), none, (.seq #[] 0), #[]⟩
noncomputable def o54 (P : Params) : Obj := ⟨.none, none, (.fields #[]), #[]⟩
noncomputable def o55 (P : Params) : Obj := ⟨(.type "code"), none, (.fields #[(.str (S "Fault") 238), (.str (S "Fault") 239), (.str (S "/claim/cut.py") 240), (.int 15 0), (.int 0 0), (.int 0 0), (.int 0 0), (.int 0 0), (.ref 53), (.bool false), (.int 181 0), (.ref 54), .none, .none, .none, .none, (.int 241 0), (.int 15 0), (.str (S "/claim/cut.py") 242)]), #[]⟩
noncomputable def o56 (P : Params) : Obj := ⟨(.type "frame"), none, .plain, #[(some (.ref 55)), (some (.ref 3)), (some (.ref 52)), none, (some (.str (S "ringgate.basics") 194)), none, (some (.ref 0))]⟩
noncomputable def o57 (P : Params) : Obj := ⟨(.type "tuple"), none, (.seq #[] 0), #[]⟩
noncomputable def o58 (P : Params) : Obj := ⟨(.type "dict"), none, (.dict #[⟨(K P (S "__module__")), (.str (S "__module__") 243), (.str (S "ringgate.basics") 194)⟩, ⟨(K P (S "__firstlineno__")), (.str (S "__firstlineno__") 247), (.int 15 246)⟩, ⟨(K P (S "__static_attributes__")), (.str (S "__static_attributes__") 248), (.ref 57)⟩, ⟨(K P (S "__doc__")), (.str (S "__doc__") 249), .none⟩] 2), #[]⟩
noncomputable def o59 (P : Params) : Obj := ⟨(.type "type"), none, (.cls ⟨(S "Fault"), [(.ref 46)], [(.ref 59), (.ref 46), (.type "Exception"), (.type "BaseException"), (.type "object")], 58, (S "Fault"), true, [], [], false, none, false⟩), #[(some (.ref 50)), none, (some (.str (S "Fault") 236)), (some (.str (S "Fault") 244)), (some (.builtin "Exception.__new__")), (some (.bool true))]⟩
noncomputable def o60 (P : Params) : Obj := ⟨(.type "super"), none, (.fields #[(.ref 59), (.ref 59), (.ref 59)]), #[]⟩
noncomputable def o61 (P : Params) : Obj := ⟨(.type "builtin_function_or_method"), none, (.fields #[(.builtin "object.__init_subclass__"), (.ref 59)]), #[]⟩
noncomputable def t_p4 (P : Params) : BT := (.node (boot_o_0 P) (.node (boot_o_1 P) (.node (o3v1 P) (.node (boot_o_7 P) (.node (o15 P) (.node (o31 P) .nil .nil) (.node (o47 P) .nil .nil)) (.node (o23 P) (.node (o39 P) .nil .nil) (.node (o55 P) .nil .nil))) (.node (o11 P) (.node (o19 P) (.node (o35 P) .nil .nil) (.node (o51 P) .nil .nil)) (.node (o27 P) (.node (o43 P) .nil .nil) (.node (o59 P) .nil .nil)))) (.node (boot_o_5 P) (.node (boot_o_9 P) (.node (o17 P) (.node (o33 P) .nil .nil) (.node (o49 P) .nil .nil)) (.node (o25 P) (.node (o41 P) .nil .nil) (.node (o57 P) .nil .nil))) (.node (o13 P) (.node (o21 P) (.node (o37 P) .nil .nil) (.node (o53 P) .nil .nil)) (.node (o29 P) (.node (o45 P) .nil .nil) (.node (o61 P) .nil .nil))))) (.node (o2 P) (.node (boot_o_4 P) (.node (boot_o_8 P) (.node (o16 P) (.node (o32 P) .nil .nil) (.node (o48 P) .nil .nil)) (.node (o24 P) (.node (o40 P) .nil .nil) (.node (o56 P) .nil .nil))) (.node (o12v2 P) (.node (o20 P) (.node (o36 P) .nil .nil) (.node (o52 P) .nil .nil)) (.node (o28 P) (.node (o44 P) .nil .nil) (.node (o60 P) .nil .nil)))) (.node (boot_o_6 P) (.node (boot_o_10 P) (.node (o18 P) (.node (o34 P) .nil .nil) (.node (o50 P) .nil .nil)) (.node (o26 P) (.node (o42 P) .nil .nil) (.node (o58 P) .nil .nil))) (.node (o14 P) (.node (o22 P) (.node (o38 P) .nil .nil) (.node (o54 P) .nil .nil)) (.node (o30 P) (.node (o46v1 P) .nil .nil) .nil)))))
noncomputable def o3v2 (P : Params) : Obj := ⟨(.type "dict"), none, (.dict #[⟨(K P (S "__name__")), (.str (S "__name__") 165), (.str (S "ringgate.machine") 295)⟩, ⟨(K P (S "__doc__")), (.str (S "__doc__") 166), .none⟩, ⟨(K P (S "__package__")), (.str (S "__package__") 167), .none⟩, ⟨(K P (S "__loader__")), (.str (S "__loader__") 168), (.builtin "__main__.__loader__#opaque")⟩, ⟨(K P (S "__spec__")), (.str (S "__spec__") 169), .none⟩, ⟨(K P (S "__annotations__")), (.str (S "__annotations__") 170), (.ref 6)⟩, ⟨(K P (S "__builtins__")), (.str (S "__builtins__") 171), (.ref 4)⟩, ⟨(K P (S "__file__")), (.str (S "__file__") 173), (.str (S "/claim/cut.py") 172)⟩, ⟨(K P (S "__cached__")), (.str (S "__cached__") 174), .none⟩, ⟨(K P (S "_wall")), (.str (S "_wall") 193), (.ref 21)⟩, ⟨(K P (S "U64")), (.str (S "U64") 197), (.int 18446744073709551615 196)⟩, ⟨(K P (S "GateError")), (.str (S "GateError") 235), (.ref 46)⟩, ⟨(K P (S "Fault")), (.str (S "Fault") 251), (.ref 59)⟩, ⟨(K P (S "RowError")), (.str (S "RowError") 267), (.ref 71)⟩, ⟨(K P (S "wrap")), (.str (S "wrap") 276), (.ref 81)⟩, ⟨(K P (S "signed")), (.str (S "signed") 286), (.ref 89)⟩, ⟨(K P (S "fits_signed")), (.str (S "fits_signed") 294), (.ref 96)⟩] 17), #[]⟩
noncomputable def o12v3 (P : Params) : Obj := ⟨.none, none, (.fields #[(.int 1 0), (.int 0 0), (.ref 20), (.int 6 0), (.int 0 0), (.ref 27), (.int 15 0), (.int 0 0), (.ref 55), (.int 17 0), (.int 0 0), (.ref 67), (.int 19 0), (.int 0 0), (.ref 80), (.int 21 0), (.int 0 0), (.ref 88), (.int 24 0), (.int 0 0), (.ref 95)]), #[]⟩
noncomputable def o46v2 (P : Params) : Obj := ⟨(.type "type"), none, (.cls ⟨(S "GateError"), [(.type "Exception")], [(.ref 46), (.type "Exception"), (.type "BaseException"), (.type "object")], 45, (S "GateError"), true, [], [(.ref 59), (.ref 71)], false, none, false⟩), #[(some (.ref 22)), none, (some (.str (S "GateError") 198)), (some (.str (S "GateError") 206)), (some (.builtin "Exception.__new__")), (some (.bool true))]⟩
noncomputable def o62 (P : Params) : Obj := ⟨(.type "tuple"), none, (.seq #[(.ref 46)] 0), #[]⟩
noncomputable def o63 (P : Params) : Obj := ⟨(.type "builtin_function_or_method"), none, (.fields #[(.builtin "type.__prepare__"), (.type "type")]), #[]⟩
noncomputable def o64 (P : Params) : Obj := ⟨(.type "dict"), none, (.dict #[⟨(K P (S "__module__")), (.str (S "__module__") 259), (.str (S "ringgate.basics") 194)⟩, ⟨(K P (S "__qualname__")), (.str (S "__qualname__") 261), (.str (S "RowError") 260)⟩, ⟨(K P (S "__firstlineno__")), (.str (S "__firstlineno__") 263), (.int 17 262)⟩, ⟨(K P (S "__static_attributes__")), (.str (S "__static_attributes__") 264), (.ref 69)⟩] 4), #[]⟩
noncomputable def o65 (P : Params) : Obj := ⟨(.type "tuple"), none, (.seq #[] 0), #[]⟩
noncomputable def o66 (P : Params) : Obj := ⟨.none, none, (.fields #[]), #[]⟩
noncomputable def o67 (P : Params) : Obj := ⟨(.type "code"), none, (.fields #[(.str (S "RowError") 254), (.str (S "RowError") 255), (.str (S "/claim/cut.py") 256), (.int 17 0), (.int 0 0), (.int 0 0), (.int 0 0), (.int 0 0), (.ref 65), (.bool false), (.int 181 0), (.ref 66), .none, .none, .none, .none, (.int 257 0), (.int 17 0), (.str (S "/claim/cut.py") 258)]), #[]⟩
noncomputable def o68 (P : Params) : Obj := ⟨(.type "frame"), none, .plain, #[(some (.ref 67)), (some (.ref 3)), (some (.ref 64)), none, (some (.str (S "ringgate.basics") 194)), none, (some (.ref 0))]⟩
noncomputable def o69 (P : Params) : Obj := ⟨(.type "tuple"), none, (.seq #[] 0), #[]⟩
noncomputable def o70 (P : Params) : Obj := ⟨(.type "dict"), none, (.dict #[⟨(K P (S "__module__")), (.str (S "__module__") 259), (.str (S "ringgate.basics") 194)⟩, ⟨(K P (S "__firstlineno__")), (.str (S "__firstlineno__") 263), (.int 17 262)⟩, ⟨(K P (S "__static_attributes__")), (.str (S "__static_attributes__") 264), (.ref 69)⟩, ⟨(K P (S "__doc__")), (.str (S "__doc__") 265), .none⟩] 2), #[]⟩
noncomputable def o71 (P : Params) : Obj := ⟨(.type "type"), none, (.cls ⟨(S "RowError"), [(.ref 46)], [(.ref 71), (.ref 46), (.type "Exception"), (.type "BaseException"), (.type "object")], 70, (S "RowError"), true, [], [], false, none, false⟩), #[(some (.ref 62)), none, (some (.str (S "RowError") 252)), (some (.str (S "RowError") 260)), (some (.builtin "Exception.__new__")), (some (.bool true))]⟩
noncomputable def o72 (P : Params) : Obj := ⟨(.type "super"), none, (.fields #[(.ref 71), (.ref 71), (.ref 71)]), #[]⟩
noncomputable def o73 (P : Params) : Obj := ⟨(.type "builtin_function_or_method"), none, (.fields #[(.builtin "object.__init_subclass__"), (.ref 71)]), #[]⟩
noncomputable def o74 (P : Params) : Obj := ⟨(.type "tuple"), none, (.seq #[(.int 64 268)] 0), #[]⟩
noncomputable def o75 (P : Params) : Obj := ⟨(.type "tuple"), none, (.seq #[] 0), #[]⟩
noncomputable def o76 (P : Params) : Obj := ⟨.none, none, (.fields #[]), #[]⟩
noncomputable def o77 (P : Params) : Obj := ⟨(.type "tuple"), none, (.seq #[(.str (S "worth") 272), (.str (S "size") 273)] 0), #[]⟩
noncomputable def o78 (P : Params) : Obj := ⟨(.type "tuple"), none, (.seq #[] 0), #[]⟩
noncomputable def o79 (P : Params) : Obj := ⟨.none, none, (.func ⟨(S "wrap"), (S "wrap"), (fA 6), (.stmts (fB 6)), (fS 6), 0, [], .none, .none, .none, .none, none, .none, .none, 0⟩), #[]⟩
noncomputable def o80 (P : Params) : Obj := ⟨(.type "code"), none, (.fields #[(.str (S "wrap") 269), (.str (S "wrap") 270), (.str (S "/claim/cut.py") 271), (.int 19 0), (.int 2 0), (.int 0 0), (.int 0 0), (.int 3 0), (.ref 75), (.bool true), (.int 181 0), (.ref 76), .none, (.ref 77), (.ref 78), (.ref 79), (.int 274 0), (.int 19 0), (.str (S "/claim/cut.py") 275)]), #[]⟩
noncomputable def o81 (P : Params) : Obj := ⟨(.type "function"), none, (.func ⟨(S "wrap"), (S "wrap"), (fA 6), (.stmts (fB 6)), (fS 6), 3, [], (.ref 74), .none, .none, (.str (S "ringgate.basics") 194), none, (.ref 80), .none, 0⟩), #[]⟩
noncomputable def o82 (P : Params) : Obj := ⟨(.type "tuple"), none, (.seq #[(.int 64 277)] 0), #[]⟩
noncomputable def o83 (P : Params) : Obj := ⟨(.type "tuple"), none, (.seq #[] 0), #[]⟩
noncomputable def o84 (P : Params) : Obj := ⟨.none, none, (.fields #[]), #[]⟩
noncomputable def o85 (P : Params) : Obj := ⟨(.type "tuple"), none, (.seq #[(.str (S "worth") 281), (.str (S "size") 282), (.str (S "low") 283)] 0), #[]⟩
noncomputable def o86 (P : Params) : Obj := ⟨(.type "tuple"), none, (.seq #[] 0), #[]⟩
noncomputable def o87 (P : Params) : Obj := ⟨.none, none, (.func ⟨(S "signed"), (S "signed"), (fA 7), (.stmts (fB 7)), (fS 7), 0, [], .none, .none, .none, .none, none, .none, .none, 0⟩), #[]⟩
noncomputable def o88 (P : Params) : Obj := ⟨(.type "code"), none, (.fields #[(.str (S "signed") 278), (.str (S "signed") 279), (.str (S "/claim/cut.py") 280), (.int 21 0), (.int 2 0), (.int 0 0), (.int 0 0), (.int 3 0), (.ref 83), (.bool true), (.int 181 0), (.ref 84), .none, (.ref 85), (.ref 86), (.ref 87), (.int 284 0), (.int 21 0), (.str (S "/claim/cut.py") 285)]), #[]⟩
noncomputable def o89 (P : Params) : Obj := ⟨(.type "function"), none, (.func ⟨(S "signed"), (S "signed"), (fA 7), (.stmts (fB 7)), (fS 7), 3, [], (.ref 82), .none, .none, (.str (S "ringgate.basics") 194), none, (.ref 88), .none, 0⟩), #[]⟩
noncomputable def o90 (P : Params) : Obj := ⟨(.type "tuple"), none, (.seq #[] 0), #[]⟩
noncomputable def o91 (P : Params) : Obj := ⟨.none, none, (.fields #[]), #[]⟩
noncomputable def o92 (P : Params) : Obj := ⟨(.type "tuple"), none, (.seq #[(.str (S "worth") 290), (.str (S "size") 291)] 0), #[]⟩
noncomputable def o93 (P : Params) : Obj := ⟨(.type "tuple"), none, (.seq #[] 0), #[]⟩
noncomputable def o94 (P : Params) : Obj := ⟨.none, none, (.func ⟨(S "fits_signed"), (S "fits_signed"), (fA 8), (.stmts (fB 8)), (fS 6), 0, [], .none, .none, .none, .none, none, .none, .none, 0⟩), #[]⟩
noncomputable def o95 (P : Params) : Obj := ⟨(.type "code"), none, (.fields #[(.str (S "fits_signed") 287), (.str (S "fits_signed") 288), (.str (S "/claim/cut.py") 289), (.int 24 0), (.int 2 0), (.int 0 0), (.int 0 0), (.int 3 0), (.ref 90), (.bool true), (.int 181 0), (.ref 91), .none, (.ref 92), (.ref 93), (.ref 94), (.int 292 0), (.int 24 0), (.str (S "/claim/cut.py") 293)]), #[]⟩
noncomputable def o96 (P : Params) : Obj := ⟨(.type "function"), none, (.func ⟨(S "fits_signed"), (S "fits_signed"), (fA 8), (.stmts (fB 8)), (fS 6), 3, [], .none, .none, .none, (.str (S "ringgate.basics") 194), none, (.ref 95), .none, 0⟩), #[]⟩
noncomputable def t_p9 (P : Params) : BT := (.node (boot_o_0 P) (.node (boot_o_1 P) (.node (o3v2 P) (.node (boot_o_7 P) (.node (o15 P) (.node (o31 P) (.node (o63 P) .nil .nil) (.node (o95 P) .nil .nil)) (.node (o47 P) (.node (o79 P) .nil .nil) .nil)) (.node (o23 P) (.node (o39 P) (.node (o71 P) .nil .nil) .nil) (.node (o55 P) (.node (o87 P) .nil .nil) .nil))) (.node (o11 P) (.node (o19 P) (.node (o35 P) (.node (o67 P) .nil .nil) .nil) (.node (o51 P) (.node (o83 P) .nil .nil) .nil)) (.node (o27 P) (.node (o43 P) (.node (o75 P) .nil .nil) .nil) (.node (o59 P) (.node (o91 P) .nil .nil) .nil)))) (.node (boot_o_5 P) (.node (boot_o_9 P) (.node (o17 P) (.node (o33 P) (.node (o65 P) .nil .nil) .nil) (.node (o49 P) (.node (o81 P) .nil .nil) .nil)) (.node (o25 P) (.node (o41 P) (.node (o73 P) .nil .nil) .nil) (.node (o57 P) (.node (o89 P) .nil .nil) .nil))) (.node (o13 P) (.node (o21 P) (.node (o37 P) (.node (o69 P) .nil .nil) .nil) (.node (o53 P) (.node (o85 P) .nil .nil) .nil)) (.node (o29 P) (.node (o45 P) (.node (o77 P) .nil .nil) .nil) (.node (o61 P) (.node (o93 P) .nil .nil) .nil))))) (.node (o2 P) (.node (boot_o_4 P) (.node (boot_o_8 P) (.node (o16 P) (.node (o32 P) (.node (o64 P) .nil .nil) (.node (o96 P) .nil .nil)) (.node (o48 P) (.node (o80 P) .nil .nil) .nil)) (.node (o24 P) (.node (o40 P) (.node (o72 P) .nil .nil) .nil) (.node (o56 P) (.node (o88 P) .nil .nil) .nil))) (.node (o12v3 P) (.node (o20 P) (.node (o36 P) (.node (o68 P) .nil .nil) .nil) (.node (o52 P) (.node (o84 P) .nil .nil) .nil)) (.node (o28 P) (.node (o44 P) (.node (o76 P) .nil .nil) .nil) (.node (o60 P) (.node (o92 P) .nil .nil) .nil)))) (.node (boot_o_6 P) (.node (boot_o_10 P) (.node (o18 P) (.node (o34 P) (.node (o66 P) .nil .nil) .nil) (.node (o50 P) (.node (o82 P) .nil .nil) .nil)) (.node (o26 P) (.node (o42 P) (.node (o74 P) .nil .nil) .nil) (.node (o58 P) (.node (o90 P) .nil .nil) .nil))) (.node (o14 P) (.node (o22 P) (.node (o38 P) (.node (o70 P) .nil .nil) .nil) (.node (o54 P) (.node (o86 P) .nil .nil) .nil)) (.node (o30 P) (.node (o46v2 P) (.node (o78 P) .nil .nil) .nil) (.node (o62 P) (.node (o94 P) .nil .nil) .nil))))))
noncomputable def o3v3 (P : Params) : Obj := ⟨(.type "dict"), none, (.dict #[⟨(K P (S "__name__")), (.str (S "__name__") 165), (.str (S "ringgate.x86rows") 341)⟩, ⟨(K P (S "__doc__")), (.str (S "__doc__") 166), .none⟩, ⟨(K P (S "__package__")), (.str (S "__package__") 167), .none⟩, ⟨(K P (S "__loader__")), (.str (S "__loader__") 168), (.builtin "__main__.__loader__#opaque")⟩, ⟨(K P (S "__spec__")), (.str (S "__spec__") 169), .none⟩, ⟨(K P (S "__annotations__")), (.str (S "__annotations__") 170), (.ref 6)⟩, ⟨(K P (S "__builtins__")), (.str (S "__builtins__") 171), (.ref 4)⟩, ⟨(K P (S "__file__")), (.str (S "__file__") 173), (.str (S "/claim/cut.py") 172)⟩, ⟨(K P (S "__cached__")), (.str (S "__cached__") 174), .none⟩, ⟨(K P (S "_wall")), (.str (S "_wall") 193), (.ref 21)⟩, ⟨(K P (S "U64")), (.str (S "U64") 197), (.int 18446744073709551615 196)⟩, ⟨(K P (S "GateError")), (.str (S "GateError") 235), (.ref 46)⟩, ⟨(K P (S "Fault")), (.str (S "Fault") 251), (.ref 59)⟩, ⟨(K P (S "RowError")), (.str (S "RowError") 267), (.ref 71)⟩, ⟨(K P (S "wrap")), (.str (S "wrap") 276), (.ref 81)⟩, ⟨(K P (S "signed")), (.str (S "signed") 286), (.ref 89)⟩, ⟨(K P (S "fits_signed")), (.str (S "fits_signed") 294), (.ref 96)⟩, ⟨(K P (S "Outcome")), (.str (S "Outcome") 340), (.ref 120)⟩, ⟨(K P (S "RAX")), (.str (S "RAX") 344), (.int 0 343)⟩, ⟨(K P (S "RCX")), (.str (S "RCX") 346), (.int 1 345)⟩, ⟨(K P (S "RDX")), (.str (S "RDX") 348), (.int 2 347)⟩, ⟨(K P (S "RSP")), (.str (S "RSP") 350), (.int 4 349)⟩, ⟨(K P (S "MOST_LABEL")), (.str (S "MOST_LABEL") 352), (.int 1000000 351)⟩] 23), #[]⟩
noncomputable def o12v4 (P : Params) : Obj := ⟨.none, none, (.fields #[(.int 1 0), (.int 0 0), (.ref 20), (.int 6 0), (.int 0 0), (.ref 27), (.int 15 0), (.int 0 0), (.ref 55), (.int 17 0), (.int 0 0), (.ref 67), (.int 19 0), (.int 0 0), (.ref 80), (.int 21 0), (.int 0 0), (.ref 88), (.int 24 0), (.int 0 0), (.ref 95), (.int 27 0), (.int 0 0), (.ref 102)]), #[]⟩
noncomputable def o97 (P : Params) : Obj := ⟨(.type "tuple"), none, (.seq #[] 0), #[]⟩
noncomputable def o98 (P : Params) : Obj := ⟨(.type "builtin_function_or_method"), none, (.fields #[(.builtin "type.__prepare__"), (.type "type")]), #[]⟩
noncomputable def o99 (P : Params) : Obj := ⟨(.type "dict"), none, (.dict #[⟨(K P (S "__module__")), (.str (S "__module__") 304), (.str (S "ringgate.machine") 295)⟩, ⟨(K P (S "__qualname__")), (.str (S "__qualname__") 306), (.str (S "Outcome") 305)⟩, ⟨(K P (S "__firstlineno__")), (.str (S "__firstlineno__") 308), (.int 27 307)⟩, ⟨(K P (S "__init__")), (.str (S "__init__") 320), (.ref 110)⟩, ⟨(K P (S "told")), (.str (S "told") 327), (.ref 117)⟩, ⟨(K P (S "__static_attributes__")), (.str (S "__static_attributes__") 333), (.ref 118)⟩] 6), #[]⟩
noncomputable def o100 (P : Params) : Obj := ⟨(.type "tuple"), none, (.seq #[] 0), #[]⟩
noncomputable def o101 (P : Params) : Obj := ⟨.none, none, (.fields #[(.int 29 0), (.int 4 0), (.ref 109), (.int 36 0), (.int 4 0), (.ref 116)]), #[]⟩
noncomputable def o102 (P : Params) : Obj := ⟨(.type "code"), none, (.fields #[(.str (S "Outcome") 299), (.str (S "Outcome") 300), (.str (S "/claim/cut.py") 301), (.int 27 0), (.int 0 0), (.int 0 0), (.int 0 0), (.int 0 0), (.ref 100), (.bool false), (.int 181 0), (.ref 101), .none, .none, .none, .none, (.int 302 0), (.int 27 0), (.str (S "/claim/cut.py") 303)]), #[]⟩
noncomputable def o103 (P : Params) : Obj := ⟨(.type "frame"), none, .plain, #[(some (.ref 102)), (some (.ref 3)), (some (.ref 99)), none, (some (.str (S "ringgate.machine") 295)), none, (some (.ref 0))]⟩
noncomputable def o104 (P : Params) : Obj := ⟨(.type "tuple"), none, (.seq #[] 0), #[]⟩
noncomputable def o105 (P : Params) : Obj := ⟨.none, none, (.fields #[]), #[]⟩
noncomputable def o106 (P : Params) : Obj := ⟨(.type "tuple"), none, (.seq #[(.str (S "self") 312), (.str (S "kind") 313), (.str (S "worth") 314), (.str (S "what") 315), (.str (S "at") 316), (.str (S "steps") 317)] 0), #[]⟩
noncomputable def o107 (P : Params) : Obj := ⟨(.type "tuple"), none, (.seq #[] 0), #[]⟩
noncomputable def o108 (P : Params) : Obj := ⟨.none, none, (.func ⟨(S "__init__"), (S "Outcome.__init__"), (mA 10 0), (.stmts (mB 10 0)), (mS 10 0), 0, [], .none, .none, .none, .none, none, .none, .none, 0⟩), #[]⟩
noncomputable def o109 (P : Params) : Obj := ⟨(.type "code"), none, (.fields #[(.str (S "__init__") 309), (.str (S "Outcome.__init__") 310), (.str (S "/claim/cut.py") 311), (.int 29 0), (.int 6 0), (.int 0 0), (.int 0 0), (.int 3 0), (.ref 104), (.bool true), (.int 181 0), (.ref 105), .none, (.ref 106), (.ref 107), (.ref 108), (.int 318 0), (.int 29 0), (.str (S "/claim/cut.py") 319)]), #[]⟩
noncomputable def o110 (P : Params) : Obj := ⟨(.type "function"), none, (.func ⟨(S "__init__"), (S "Outcome.__init__"), (mA 10 0), (.stmts (mB 10 0)), (mS 10 0), 3, [], .none, .none, .none, (.str (S "ringgate.machine") 295), none, (.ref 109), .none, 0⟩), #[]⟩
noncomputable def o111 (P : Params) : Obj := ⟨(.type "tuple"), none, (.seq #[] 0), #[]⟩
noncomputable def o112 (P : Params) : Obj := ⟨.none, none, (.fields #[]), #[]⟩
noncomputable def o113 (P : Params) : Obj := ⟨(.type "tuple"), none, (.seq #[(.str (S "self") 324)] 0), #[]⟩
noncomputable def o114 (P : Params) : Obj := ⟨(.type "tuple"), none, (.seq #[] 0), #[]⟩
noncomputable def o115 (P : Params) : Obj := ⟨.none, none, (.func ⟨(S "told"), (S "Outcome.told"), (mA 10 1), (.stmts (mB 10 1)), (mS 3 1), 0, [], .none, .none, .none, .none, none, .none, .none, 0⟩), #[]⟩
noncomputable def o116 (P : Params) : Obj := ⟨(.type "code"), none, (.fields #[(.str (S "told") 321), (.str (S "Outcome.told") 322), (.str (S "/claim/cut.py") 323), (.int 36 0), (.int 1 0), (.int 0 0), (.int 0 0), (.int 3 0), (.ref 111), (.bool true), (.int 181 0), (.ref 112), .none, (.ref 113), (.ref 114), (.ref 115), (.int 325 0), (.int 36 0), (.str (S "/claim/cut.py") 326)]), #[]⟩
noncomputable def o117 (P : Params) : Obj := ⟨(.type "function"), none, (.func ⟨(S "told"), (S "Outcome.told"), (mA 10 1), (.stmts (mB 10 1)), (mS 3 1), 3, [], .none, .none, .none, (.str (S "ringgate.machine") 295), none, (.ref 116), .none, 0⟩), #[]⟩
noncomputable def o118 (P : Params) : Obj := ⟨(.type "tuple"), none, (.seq #[(.str (S "at") 328), (.str (S "kind") 329), (.str (S "steps") 330), (.str (S "what") 331), (.str (S "worth") 332)] 0), #[]⟩
noncomputable def o119 (P : Params) : Obj := ⟨(.type "dict"), none, (.dict #[⟨(K P (S "__module__")), (.str (S "__module__") 304), (.str (S "ringgate.machine") 295)⟩, ⟨(K P (S "__firstlineno__")), (.str (S "__firstlineno__") 308), (.int 27 307)⟩, ⟨(K P (S "__init__")), (.str (S "__init__") 320), (.ref 110)⟩, ⟨(K P (S "told")), (.str (S "told") 327), (.ref 117)⟩, ⟨(K P (S "__static_attributes__")), (.str (S "__static_attributes__") 333), (.ref 118)⟩, ⟨(K P (S "__dict__")), (.str (S "__dict__") 335), (.ref 121)⟩, ⟨(K P (S "__weakref__")), (.str (S "__weakref__") 337), (.ref 122)⟩, ⟨(K P (S "__doc__")), (.str (S "__doc__") 338), .none⟩] 4), #[]⟩
noncomputable def o120 (P : Params) : Obj := ⟨(.type "type"), none, (.cls ⟨(S "Outcome"), [(.type "object")], [(.ref 120), (.type "object")], 119, (S "Outcome"), true, [], [], false, none, false⟩), #[none, none, (some (.str (S "Outcome") 297)), (some (.str (S "Outcome") 305)), (some (.builtin "object.__new__")), (some (.bool true))]⟩
noncomputable def o121 (P : Params) : Obj := ⟨(.type "getset_descriptor"), none, (.fields #[(.str (S "__dict__") 334), (.ref 120), (.builtin "function.__dict__"), (.builtin "function.__dict__#set")]), #[]⟩
noncomputable def o122 (P : Params) : Obj := ⟨(.type "getset_descriptor"), none, (.fields #[(.str (S "__weakref__") 336), (.ref 120), (.builtin "ExceptionGroup.__weakref__"), .none]), #[]⟩
noncomputable def o123 (P : Params) : Obj := ⟨(.type "super"), none, (.fields #[(.ref 120), (.ref 120), (.ref 120)]), #[]⟩
noncomputable def o124 (P : Params) : Obj := ⟨(.type "builtin_function_or_method"), none, (.fields #[(.builtin "object.__init_subclass__"), (.ref 120)]), #[]⟩
noncomputable def t_p16 (P : Params) : BT := (.node (boot_o_0 P) (.node (boot_o_1 P) (.node (o3v3 P) (.node (boot_o_7 P) (.node (o15 P) (.node (o31 P) (.node (o63 P) .nil .nil) (.node (o95 P) .nil .nil)) (.node (o47 P) (.node (o79 P) .nil .nil) (.node (o111 P) .nil .nil))) (.node (o23 P) (.node (o39 P) (.node (o71 P) .nil .nil) (.node (o103 P) .nil .nil)) (.node (o55 P) (.node (o87 P) .nil .nil) (.node (o119 P) .nil .nil)))) (.node (o11 P) (.node (o19 P) (.node (o35 P) (.node (o67 P) .nil .nil) (.node (o99 P) .nil .nil)) (.node (o51 P) (.node (o83 P) .nil .nil) (.node (o115 P) .nil .nil))) (.node (o27 P) (.node (o43 P) (.node (o75 P) .nil .nil) (.node (o107 P) .nil .nil)) (.node (o59 P) (.node (o91 P) .nil .nil) (.node (o123 P) .nil .nil))))) (.node (boot_o_5 P) (.node (boot_o_9 P) (.node (o17 P) (.node (o33 P) (.node (o65 P) .nil .nil) (.node (o97 P) .nil .nil)) (.node (o49 P) (.node (o81 P) .nil .nil) (.node (o113 P) .nil .nil))) (.node (o25 P) (.node (o41 P) (.node (o73 P) .nil .nil) (.node (o105 P) .nil .nil)) (.node (o57 P) (.node (o89 P) .nil .nil) (.node (o121 P) .nil .nil)))) (.node (o13 P) (.node (o21 P) (.node (o37 P) (.node (o69 P) .nil .nil) (.node (o101 P) .nil .nil)) (.node (o53 P) (.node (o85 P) .nil .nil) (.node (o117 P) .nil .nil))) (.node (o29 P) (.node (o45 P) (.node (o77 P) .nil .nil) (.node (o109 P) .nil .nil)) (.node (o61 P) (.node (o93 P) .nil .nil) .nil))))) (.node (o2 P) (.node (boot_o_4 P) (.node (boot_o_8 P) (.node (o16 P) (.node (o32 P) (.node (o64 P) .nil .nil) (.node (o96 P) .nil .nil)) (.node (o48 P) (.node (o80 P) .nil .nil) (.node (o112 P) .nil .nil))) (.node (o24 P) (.node (o40 P) (.node (o72 P) .nil .nil) (.node (o104 P) .nil .nil)) (.node (o56 P) (.node (o88 P) .nil .nil) (.node (o120 P) .nil .nil)))) (.node (o12v4 P) (.node (o20 P) (.node (o36 P) (.node (o68 P) .nil .nil) (.node (o100 P) .nil .nil)) (.node (o52 P) (.node (o84 P) .nil .nil) (.node (o116 P) .nil .nil))) (.node (o28 P) (.node (o44 P) (.node (o76 P) .nil .nil) (.node (o108 P) .nil .nil)) (.node (o60 P) (.node (o92 P) .nil .nil) (.node (o124 P) .nil .nil))))) (.node (boot_o_6 P) (.node (boot_o_10 P) (.node (o18 P) (.node (o34 P) (.node (o66 P) .nil .nil) (.node (o98 P) .nil .nil)) (.node (o50 P) (.node (o82 P) .nil .nil) (.node (o114 P) .nil .nil))) (.node (o26 P) (.node (o42 P) (.node (o74 P) .nil .nil) (.node (o106 P) .nil .nil)) (.node (o58 P) (.node (o90 P) .nil .nil) (.node (o122 P) .nil .nil)))) (.node (o14 P) (.node (o22 P) (.node (o38 P) (.node (o70 P) .nil .nil) (.node (o102 P) .nil .nil)) (.node (o54 P) (.node (o86 P) .nil .nil) (.node (o118 P) .nil .nil))) (.node (o30 P) (.node (o46v2 P) (.node (o78 P) .nil .nil) (.node (o110 P) .nil .nil)) (.node (o62 P) (.node (o94 P) .nil .nil) .nil))))))
noncomputable def o3v4 (P : Params) : Obj := ⟨(.type "dict"), none, (.dict #[⟨(K P (S "__name__")), (.str (S "__name__") 165), (.str (S "ringgate.x86rows") 341)⟩, ⟨(K P (S "__doc__")), (.str (S "__doc__") 166), .none⟩, ⟨(K P (S "__package__")), (.str (S "__package__") 167), .none⟩, ⟨(K P (S "__loader__")), (.str (S "__loader__") 168), (.builtin "__main__.__loader__#opaque")⟩, ⟨(K P (S "__spec__")), (.str (S "__spec__") 169), .none⟩, ⟨(K P (S "__annotations__")), (.str (S "__annotations__") 170), (.ref 6)⟩, ⟨(K P (S "__builtins__")), (.str (S "__builtins__") 171), (.ref 4)⟩, ⟨(K P (S "__file__")), (.str (S "__file__") 173), (.str (S "/claim/cut.py") 172)⟩, ⟨(K P (S "__cached__")), (.str (S "__cached__") 174), .none⟩, ⟨(K P (S "_wall")), (.str (S "_wall") 193), (.ref 21)⟩, ⟨(K P (S "U64")), (.str (S "U64") 197), (.int 18446744073709551615 196)⟩, ⟨(K P (S "GateError")), (.str (S "GateError") 235), (.ref 46)⟩, ⟨(K P (S "Fault")), (.str (S "Fault") 251), (.ref 59)⟩, ⟨(K P (S "RowError")), (.str (S "RowError") 267), (.ref 71)⟩, ⟨(K P (S "wrap")), (.str (S "wrap") 276), (.ref 81)⟩, ⟨(K P (S "signed")), (.str (S "signed") 286), (.ref 89)⟩, ⟨(K P (S "fits_signed")), (.str (S "fits_signed") 294), (.ref 96)⟩, ⟨(K P (S "Outcome")), (.str (S "Outcome") 340), (.ref 120)⟩, ⟨(K P (S "RAX")), (.str (S "RAX") 344), (.int 0 343)⟩, ⟨(K P (S "RCX")), (.str (S "RCX") 346), (.int 1 345)⟩, ⟨(K P (S "RDX")), (.str (S "RDX") 348), (.int 2 347)⟩, ⟨(K P (S "RSP")), (.str (S "RSP") 350), (.int 4 349)⟩, ⟨(K P (S "MOST_LABEL")), (.str (S "MOST_LABEL") 352), (.int 1000000 351)⟩, ⟨(K P (S "Row")), (.str (S "Row") 390), (.ref 148)⟩, ⟨(K P (S "row_shapes")), (.str (S "row_shapes") 398), (.ref 159)⟩, ⟨(K P (S "conditions")), (.str (S "conditions") 404), (.ref 166)⟩, ⟨(K P (S "part_fits")), (.str (S "part_fits") 413), (.ref 173)⟩, ⟨(K P (S "check_row")), (.str (S "check_row") 424), (.ref 181)⟩, ⟨(K P (S "is_mark")), (.str (S "is_mark") 431), (.ref 188)⟩] 29), #[]⟩
noncomputable def o12v5 (P : Params) : Obj := ⟨.none, none, (.fields #[(.int 1 0), (.int 0 0), (.ref 20), (.int 6 0), (.int 0 0), (.ref 27), (.int 15 0), (.int 0 0), (.ref 55), (.int 17 0), (.int 0 0), (.ref 67), (.int 19 0), (.int 0 0), (.ref 80), (.int 21 0), (.int 0 0), (.ref 88), (.int 24 0), (.int 0 0), (.ref 95), (.int 27 0), (.int 0 0), (.ref 102), (.int 44 0), (.int 0 0), (.ref 130), (.int 52 0), (.int 0 0), (.ref 158), (.int 76 0), (.int 0 0), (.ref 165), (.int 78 0), (.int 0 0), (.ref 172), (.int 98 0), (.int 0 0), (.ref 180), (.int 110 0), (.int 0 0), (.ref 187)]), #[]⟩
noncomputable def o125 (P : Params) : Obj := ⟨(.type "tuple"), none, (.seq #[] 0), #[]⟩
noncomputable def o126 (P : Params) : Obj := ⟨(.type "builtin_function_or_method"), none, (.fields #[(.builtin "type.__prepare__"), (.type "type")]), #[]⟩
noncomputable def o127 (P : Params) : Obj := ⟨(.type "dict"), none, (.dict #[⟨(K P (S "__module__")), (.str (S "__module__") 360), (.str (S "ringgate.x86rows") 341)⟩, ⟨(K P (S "__qualname__")), (.str (S "__qualname__") 362), (.str (S "Row") 361)⟩, ⟨(K P (S "__firstlineno__")), (.str (S "__firstlineno__") 364), (.int 44 363)⟩, ⟨(K P (S "__init__")), (.str (S "__init__") 373), (.ref 138)⟩, ⟨(K P (S "told")), (.str (S "told") 380), (.ref 145)⟩, ⟨(K P (S "__static_attributes__")), (.str (S "__static_attributes__") 383), (.ref 146)⟩] 6), #[]⟩
noncomputable def o128 (P : Params) : Obj := ⟨(.type "tuple"), none, (.seq #[] 0), #[]⟩
noncomputable def o129 (P : Params) : Obj := ⟨.none, none, (.fields #[(.int 46 0), (.int 4 0), (.ref 137), (.int 50 0), (.int 4 0), (.ref 144)]), #[]⟩
noncomputable def o130 (P : Params) : Obj := ⟨(.type "code"), none, (.fields #[(.str (S "Row") 355), (.str (S "Row") 356), (.str (S "/claim/cut.py") 357), (.int 44 0), (.int 0 0), (.int 0 0), (.int 0 0), (.int 0 0), (.ref 128), (.bool false), (.int 181 0), (.ref 129), .none, .none, .none, .none, (.int 358 0), (.int 44 0), (.str (S "/claim/cut.py") 359)]), #[]⟩
noncomputable def o131 (P : Params) : Obj := ⟨(.type "frame"), none, .plain, #[(some (.ref 130)), (some (.ref 3)), (some (.ref 127)), none, (some (.str (S "ringgate.x86rows") 341)), none, (some (.ref 0))]⟩
noncomputable def o132 (P : Params) : Obj := ⟨(.type "tuple"), none, (.seq #[] 0), #[]⟩
noncomputable def o133 (P : Params) : Obj := ⟨.none, none, (.fields #[]), #[]⟩
noncomputable def o134 (P : Params) : Obj := ⟨(.type "tuple"), none, (.seq #[(.str (S "self") 368), (.str (S "name") 369), (.str (S "parts") 370)] 0), #[]⟩
noncomputable def o135 (P : Params) : Obj := ⟨(.type "tuple"), none, (.seq #[] 0), #[]⟩
noncomputable def o136 (P : Params) : Obj := ⟨.none, none, (.func ⟨(S "__init__"), (S "Row.__init__"), (mA 17 0), (.stmts (mB 17 0)), (mS 17 0), 0, [], .none, .none, .none, .none, none, .none, .none, 0⟩), #[]⟩
noncomputable def o137 (P : Params) : Obj := ⟨(.type "code"), none, (.fields #[(.str (S "__init__") 365), (.str (S "Row.__init__") 366), (.str (S "/claim/cut.py") 367), (.int 46 0), (.int 3 0), (.int 0 0), (.int 0 0), (.int 3 0), (.ref 132), (.bool true), (.int 181 0), (.ref 133), .none, (.ref 134), (.ref 135), (.ref 136), (.int 371 0), (.int 46 0), (.str (S "/claim/cut.py") 372)]), #[]⟩
noncomputable def o138 (P : Params) : Obj := ⟨(.type "function"), none, (.func ⟨(S "__init__"), (S "Row.__init__"), (mA 17 0), (.stmts (mB 17 0)), (mS 17 0), 3, [], .none, .none, .none, (.str (S "ringgate.x86rows") 341), none, (.ref 137), .none, 0⟩), #[]⟩
noncomputable def o139 (P : Params) : Obj := ⟨(.type "tuple"), none, (.seq #[] 0), #[]⟩
noncomputable def o140 (P : Params) : Obj := ⟨.none, none, (.fields #[]), #[]⟩
noncomputable def o141 (P : Params) : Obj := ⟨(.type "tuple"), none, (.seq #[(.str (S "self") 377)] 0), #[]⟩
noncomputable def o142 (P : Params) : Obj := ⟨(.type "tuple"), none, (.seq #[] 0), #[]⟩
noncomputable def o143 (P : Params) : Obj := ⟨.none, none, (.func ⟨(S "told"), (S "Row.told"), (mA 17 1), (.stmts (mB 17 1)), (mS 3 1), 0, [], .none, .none, .none, .none, none, .none, .none, 0⟩), #[]⟩
noncomputable def o144 (P : Params) : Obj := ⟨(.type "code"), none, (.fields #[(.str (S "told") 374), (.str (S "Row.told") 375), (.str (S "/claim/cut.py") 376), (.int 50 0), (.int 1 0), (.int 0 0), (.int 0 0), (.int 3 0), (.ref 139), (.bool true), (.int 181 0), (.ref 140), .none, (.ref 141), (.ref 142), (.ref 143), (.int 378 0), (.int 50 0), (.str (S "/claim/cut.py") 379)]), #[]⟩
noncomputable def o145 (P : Params) : Obj := ⟨(.type "function"), none, (.func ⟨(S "told"), (S "Row.told"), (mA 17 1), (.stmts (mB 17 1)), (mS 3 1), 3, [], .none, .none, .none, (.str (S "ringgate.x86rows") 341), none, (.ref 144), .none, 0⟩), #[]⟩
noncomputable def o146 (P : Params) : Obj := ⟨(.type "tuple"), none, (.seq #[(.str (S "name") 381), (.str (S "parts") 382)] 0), #[]⟩
noncomputable def o147 (P : Params) : Obj := ⟨(.type "dict"), none, (.dict #[⟨(K P (S "__module__")), (.str (S "__module__") 360), (.str (S "ringgate.x86rows") 341)⟩, ⟨(K P (S "__firstlineno__")), (.str (S "__firstlineno__") 364), (.int 44 363)⟩, ⟨(K P (S "__init__")), (.str (S "__init__") 373), (.ref 138)⟩, ⟨(K P (S "told")), (.str (S "told") 380), (.ref 145)⟩, ⟨(K P (S "__static_attributes__")), (.str (S "__static_attributes__") 383), (.ref 146)⟩, ⟨(K P (S "__dict__")), (.str (S "__dict__") 385), (.ref 149)⟩, ⟨(K P (S "__weakref__")), (.str (S "__weakref__") 387), (.ref 150)⟩, ⟨(K P (S "__doc__")), (.str (S "__doc__") 388), .none⟩] 4), #[]⟩
noncomputable def o148 (P : Params) : Obj := ⟨(.type "type"), none, (.cls ⟨(S "Row"), [(.type "object")], [(.ref 148), (.type "object")], 147, (S "Row"), true, [], [], false, none, false⟩), #[none, none, (some (.str (S "Row") 353)), (some (.str (S "Row") 361)), (some (.builtin "object.__new__")), (some (.bool true))]⟩
noncomputable def o149 (P : Params) : Obj := ⟨(.type "getset_descriptor"), none, (.fields #[(.str (S "__dict__") 384), (.ref 148), (.builtin "function.__dict__"), (.builtin "function.__dict__#set")]), #[]⟩
noncomputable def o150 (P : Params) : Obj := ⟨(.type "getset_descriptor"), none, (.fields #[(.str (S "__weakref__") 386), (.ref 148), (.builtin "ExceptionGroup.__weakref__"), .none]), #[]⟩
noncomputable def o151 (P : Params) : Obj := ⟨(.type "super"), none, (.fields #[(.ref 148), (.ref 148), (.ref 148)]), #[]⟩
noncomputable def o152 (P : Params) : Obj := ⟨(.type "builtin_function_or_method"), none, (.fields #[(.builtin "object.__init_subclass__"), (.ref 148)]), #[]⟩
noncomputable def o153 (P : Params) : Obj := ⟨(.type "tuple"), none, (.seq #[] 0), #[]⟩
noncomputable def o154 (P : Params) : Obj := ⟨.none, none, (.fields #[]), #[]⟩
noncomputable def o155 (P : Params) : Obj := ⟨(.type "tuple"), none, (.seq #[(.str (S "found") 394), (.str (S "name") 395)] 0), #[]⟩
noncomputable def o156 (P : Params) : Obj := ⟨(.type "tuple"), none, (.seq #[] 0), #[]⟩
noncomputable def o157 (P : Params) : Obj := ⟨.none, none, (.func ⟨(S "row_shapes"), (S "row_shapes"), (fA 18), (.stmts (fB 18)), (fS 18), 0, [], .none, .none, .none, .none, none, .none, .none, 0⟩), #[]⟩
noncomputable def o158 (P : Params) : Obj := ⟨(.type "code"), none, (.fields #[(.str (S "row_shapes") 391), (.str (S "row_shapes") 392), (.str (S "/claim/cut.py") 393), (.int 52 0), (.int 0 0), (.int 0 0), (.int 0 0), (.int 3 0), (.ref 153), (.bool true), (.int 181 0), (.ref 154), .none, (.ref 155), (.ref 156), (.ref 157), (.int 396 0), (.int 52 0), (.str (S "/claim/cut.py") 397)]), #[]⟩
noncomputable def o159 (P : Params) : Obj := ⟨(.type "function"), none, (.func ⟨(S "row_shapes"), (S "row_shapes"), (fA 18), (.stmts (fB 18)), (fS 18), 3, [], .none, .none, .none, (.str (S "ringgate.x86rows") 341), none, (.ref 158), .none, 0⟩), #[]⟩
noncomputable def o160 (P : Params) : Obj := ⟨(.type "tuple"), none, (.seq #[] 0), #[]⟩
noncomputable def o161 (P : Params) : Obj := ⟨.none, none, (.fields #[]), #[]⟩
noncomputable def o162 (P : Params) : Obj := ⟨(.type "tuple"), none, (.seq #[] 0), #[]⟩
noncomputable def o163 (P : Params) : Obj := ⟨(.type "tuple"), none, (.seq #[] 0), #[]⟩
noncomputable def o164 (P : Params) : Obj := ⟨.none, none, (.func ⟨(S "conditions"), (S "conditions"), (fA 18), (.stmts (fB 19)), (fS 19), 0, [], .none, .none, .none, .none, none, .none, .none, 0⟩), #[]⟩
noncomputable def o165 (P : Params) : Obj := ⟨(.type "code"), none, (.fields #[(.str (S "conditions") 399), (.str (S "conditions") 400), (.str (S "/claim/cut.py") 401), (.int 76 0), (.int 0 0), (.int 0 0), (.int 0 0), (.int 3 0), (.ref 160), (.bool true), (.int 181 0), (.ref 161), .none, (.ref 162), (.ref 163), (.ref 164), (.int 402 0), (.int 76 0), (.str (S "/claim/cut.py") 403)]), #[]⟩
noncomputable def o166 (P : Params) : Obj := ⟨(.type "function"), none, (.func ⟨(S "conditions"), (S "conditions"), (fA 18), (.stmts (fB 19)), (fS 19), 3, [], .none, .none, .none, (.str (S "ringgate.x86rows") 341), none, (.ref 165), .none, 0⟩), #[]⟩
noncomputable def o167 (P : Params) : Obj := ⟨(.type "tuple"), none, (.seq #[] 0), #[]⟩
noncomputable def o168 (P : Params) : Obj := ⟨.none, none, (.fields #[]), #[]⟩
noncomputable def o169 (P : Params) : Obj := ⟨(.type "tuple"), none, (.seq #[(.str (S "sort") 408), (.str (S "part") 409), (.str (S "parts") 410)] 0), #[]⟩
noncomputable def o170 (P : Params) : Obj := ⟨(.type "tuple"), none, (.seq #[] 0), #[]⟩
noncomputable def o171 (P : Params) : Obj := ⟨.none, none, (.func ⟨(S "part_fits"), (S "part_fits"), (fA 20), (.stmts (fB 20)), (fS 20), 0, [], .none, .none, .none, .none, none, .none, .none, 0⟩), #[]⟩
noncomputable def o172 (P : Params) : Obj := ⟨(.type "code"), none, (.fields #[(.str (S "part_fits") 405), (.str (S "part_fits") 406), (.str (S "/claim/cut.py") 407), (.int 78 0), (.int 3 0), (.int 0 0), (.int 0 0), (.int 3 0), (.ref 167), (.bool true), (.int 181 0), (.ref 168), .none, (.ref 169), (.ref 170), (.ref 171), (.int 411 0), (.int 78 0), (.str (S "/claim/cut.py") 412)]), #[]⟩
noncomputable def o173 (P : Params) : Obj := ⟨(.type "function"), none, (.func ⟨(S "part_fits"), (S "part_fits"), (fA 20), (.stmts (fB 20)), (fS 20), 3, [], .none, .none, .none, (.str (S "ringgate.x86rows") 341), none, (.ref 172), .none, 0⟩), #[]⟩
noncomputable def o174 (P : Params) : Obj := ⟨(.type "tuple"), none, (.seq #[.none] 0), #[]⟩
noncomputable def o175 (P : Params) : Obj := ⟨(.type "tuple"), none, (.seq #[] 0), #[]⟩
noncomputable def o176 (P : Params) : Obj := ⟨.none, none, (.fields #[]), #[]⟩
noncomputable def o177 (P : Params) : Obj := ⟨(.type "tuple"), none, (.seq #[(.str (S "row") 417), (.str (S "shapes") 418), (.str (S "shape") 419), (.str (S "sort") 420), (.str (S "part") 421)] 0), #[]⟩
noncomputable def o178 (P : Params) : Obj := ⟨(.type "tuple"), none, (.seq #[] 0), #[]⟩
noncomputable def o179 (P : Params) : Obj := ⟨.none, none, (.func ⟨(S "check_row"), (S "check_row"), (fA 21), (.stmts (fB 21)), (fS 21), 0, [], .none, .none, .none, .none, none, .none, .none, 0⟩), #[]⟩
noncomputable def o180 (P : Params) : Obj := ⟨(.type "code"), none, (.fields #[(.str (S "check_row") 414), (.str (S "check_row") 415), (.str (S "/claim/cut.py") 416), (.int 98 0), (.int 2 0), (.int 0 0), (.int 0 0), (.int 3 0), (.ref 175), (.bool true), (.int 181 0), (.ref 176), .none, (.ref 177), (.ref 178), (.ref 179), (.int 422 0), (.int 98 0), (.str (S "/claim/cut.py") 423)]), #[]⟩
noncomputable def o181 (P : Params) : Obj := ⟨(.type "function"), none, (.func ⟨(S "check_row"), (S "check_row"), (fA 21), (.stmts (fB 21)), (fS 21), 3, [], (.ref 174), .none, .none, (.str (S "ringgate.x86rows") 341), none, (.ref 180), .none, 0⟩), #[]⟩
noncomputable def o182 (P : Params) : Obj := ⟨(.type "tuple"), none, (.seq #[] 0), #[]⟩
noncomputable def o183 (P : Params) : Obj := ⟨.none, none, (.fields #[]), #[]⟩
noncomputable def o184 (P : Params) : Obj := ⟨(.type "tuple"), none, (.seq #[(.str (S "row") 428)] 0), #[]⟩
noncomputable def o185 (P : Params) : Obj := ⟨(.type "tuple"), none, (.seq #[] 0), #[]⟩
noncomputable def o186 (P : Params) : Obj := ⟨.none, none, (.func ⟨(S "is_mark"), (S "is_mark"), (fA 22), (.stmts (fB 22)), (fS 22), 0, [], .none, .none, .none, .none, none, .none, .none, 0⟩), #[]⟩
noncomputable def o187 (P : Params) : Obj := ⟨(.type "code"), none, (.fields #[(.str (S "is_mark") 425), (.str (S "is_mark") 426), (.str (S "/claim/cut.py") 427), (.int 110 0), (.int 1 0), (.int 0 0), (.int 0 0), (.int 3 0), (.ref 182), (.bool true), (.int 181 0), (.ref 183), .none, (.ref 184), (.ref 185), (.ref 186), (.int 429 0), (.int 110 0), (.str (S "/claim/cut.py") 430)]), #[]⟩
noncomputable def o188 (P : Params) : Obj := ⟨(.type "function"), none, (.func ⟨(S "is_mark"), (S "is_mark"), (fA 22), (.stmts (fB 22)), (fS 22), 3, [], .none, .none, .none, (.str (S "ringgate.x86rows") 341), none, (.ref 187), .none, 0⟩), #[]⟩
noncomputable def t_p22 (P : Params) : BT := (.node (boot_o_0 P) (.node (boot_o_1 P) (.node (o3v4 P) (.node (boot_o_7 P) (.node (o15 P) (.node (o31 P) (.node (o63 P) (.node (o127 P) .nil .nil) .nil) (.node (o95 P) (.node (o159 P) .nil .nil) .nil)) (.node (o47 P) (.node (o79 P) (.node (o143 P) .nil .nil) .nil) (.node (o111 P) (.node (o175 P) .nil .nil) .nil))) (.node (o23 P) (.node (o39 P) (.node (o71 P) (.node (o135 P) .nil .nil) .nil) (.node (o103 P) (.node (o167 P) .nil .nil) .nil)) (.node (o55 P) (.node (o87 P) (.node (o151 P) .nil .nil) .nil) (.node (o119 P) (.node (o183 P) .nil .nil) .nil)))) (.node (o11 P) (.node (o19 P) (.node (o35 P) (.node (o67 P) (.node (o131 P) .nil .nil) .nil) (.node (o99 P) (.node (o163 P) .nil .nil) .nil)) (.node (o51 P) (.node (o83 P) (.node (o147 P) .nil .nil) .nil) (.node (o115 P) (.node (o179 P) .nil .nil) .nil))) (.node (o27 P) (.node (o43 P) (.node (o75 P) (.node (o139 P) .nil .nil) .nil) (.node (o107 P) (.node (o171 P) .nil .nil) .nil)) (.node (o59 P) (.node (o91 P) (.node (o155 P) .nil .nil) .nil) (.node (o123 P) (.node (o187 P) .nil .nil) .nil))))) (.node (boot_o_5 P) (.node (boot_o_9 P) (.node (o17 P) (.node (o33 P) (.node (o65 P) (.node (o129 P) .nil .nil) .nil) (.node (o97 P) (.node (o161 P) .nil .nil) .nil)) (.node (o49 P) (.node (o81 P) (.node (o145 P) .nil .nil) .nil) (.node (o113 P) (.node (o177 P) .nil .nil) .nil))) (.node (o25 P) (.node (o41 P) (.node (o73 P) (.node (o137 P) .nil .nil) .nil) (.node (o105 P) (.node (o169 P) .nil .nil) .nil)) (.node (o57 P) (.node (o89 P) (.node (o153 P) .nil .nil) .nil) (.node (o121 P) (.node (o185 P) .nil .nil) .nil)))) (.node (o13 P) (.node (o21 P) (.node (o37 P) (.node (o69 P) (.node (o133 P) .nil .nil) .nil) (.node (o101 P) (.node (o165 P) .nil .nil) .nil)) (.node (o53 P) (.node (o85 P) (.node (o149 P) .nil .nil) .nil) (.node (o117 P) (.node (o181 P) .nil .nil) .nil))) (.node (o29 P) (.node (o45 P) (.node (o77 P) (.node (o141 P) .nil .nil) .nil) (.node (o109 P) (.node (o173 P) .nil .nil) .nil)) (.node (o61 P) (.node (o93 P) (.node (o157 P) .nil .nil) .nil) (.node (o125 P) .nil .nil)))))) (.node (o2 P) (.node (boot_o_4 P) (.node (boot_o_8 P) (.node (o16 P) (.node (o32 P) (.node (o64 P) (.node (o128 P) .nil .nil) .nil) (.node (o96 P) (.node (o160 P) .nil .nil) .nil)) (.node (o48 P) (.node (o80 P) (.node (o144 P) .nil .nil) .nil) (.node (o112 P) (.node (o176 P) .nil .nil) .nil))) (.node (o24 P) (.node (o40 P) (.node (o72 P) (.node (o136 P) .nil .nil) .nil) (.node (o104 P) (.node (o168 P) .nil .nil) .nil)) (.node (o56 P) (.node (o88 P) (.node (o152 P) .nil .nil) .nil) (.node (o120 P) (.node (o184 P) .nil .nil) .nil)))) (.node (o12v5 P) (.node (o20 P) (.node (o36 P) (.node (o68 P) (.node (o132 P) .nil .nil) .nil) (.node (o100 P) (.node (o164 P) .nil .nil) .nil)) (.node (o52 P) (.node (o84 P) (.node (o148 P) .nil .nil) .nil) (.node (o116 P) (.node (o180 P) .nil .nil) .nil))) (.node (o28 P) (.node (o44 P) (.node (o76 P) (.node (o140 P) .nil .nil) .nil) (.node (o108 P) (.node (o172 P) .nil .nil) .nil)) (.node (o60 P) (.node (o92 P) (.node (o156 P) .nil .nil) .nil) (.node (o124 P) (.node (o188 P) .nil .nil) .nil))))) (.node (boot_o_6 P) (.node (boot_o_10 P) (.node (o18 P) (.node (o34 P) (.node (o66 P) (.node (o130 P) .nil .nil) .nil) (.node (o98 P) (.node (o162 P) .nil .nil) .nil)) (.node (o50 P) (.node (o82 P) (.node (o146 P) .nil .nil) .nil) (.node (o114 P) (.node (o178 P) .nil .nil) .nil))) (.node (o26 P) (.node (o42 P) (.node (o74 P) (.node (o138 P) .nil .nil) .nil) (.node (o106 P) (.node (o170 P) .nil .nil) .nil)) (.node (o58 P) (.node (o90 P) (.node (o154 P) .nil .nil) .nil) (.node (o122 P) (.node (o186 P) .nil .nil) .nil)))) (.node (o14 P) (.node (o22 P) (.node (o38 P) (.node (o70 P) (.node (o134 P) .nil .nil) .nil) (.node (o102 P) (.node (o166 P) .nil .nil) .nil)) (.node (o54 P) (.node (o86 P) (.node (o150 P) .nil .nil) .nil) (.node (o118 P) (.node (o182 P) .nil .nil) .nil))) (.node (o30 P) (.node (o46v2 P) (.node (o78 P) (.node (o142 P) .nil .nil) .nil) (.node (o110 P) (.node (o174 P) .nil .nil) .nil)) (.node (o62 P) (.node (o94 P) (.node (o158 P) .nil .nil) .nil) (.node (o126 P) .nil .nil)))))))
noncomputable def o3v5 (P : Params) : Obj := ⟨(.type "dict"), none, (.dict #[⟨(K P (S "__name__")), (.str (S "__name__") 165), (.str (S "ringgate.x86machine") 460)⟩, ⟨(K P (S "__doc__")), (.str (S "__doc__") 166), .none⟩, ⟨(K P (S "__package__")), (.str (S "__package__") 167), .none⟩, ⟨(K P (S "__loader__")), (.str (S "__loader__") 168), (.builtin "__main__.__loader__#opaque")⟩, ⟨(K P (S "__spec__")), (.str (S "__spec__") 169), .none⟩, ⟨(K P (S "__annotations__")), (.str (S "__annotations__") 170), (.ref 6)⟩, ⟨(K P (S "__builtins__")), (.str (S "__builtins__") 171), (.ref 4)⟩, ⟨(K P (S "__file__")), (.str (S "__file__") 173), (.str (S "/claim/cut.py") 172)⟩, ⟨(K P (S "__cached__")), (.str (S "__cached__") 174), .none⟩, ⟨(K P (S "_wall")), (.str (S "_wall") 193), (.ref 21)⟩, ⟨(K P (S "U64")), (.str (S "U64") 197), (.int 18446744073709551615 196)⟩, ⟨(K P (S "GateError")), (.str (S "GateError") 235), (.ref 46)⟩, ⟨(K P (S "Fault")), (.str (S "Fault") 251), (.ref 59)⟩, ⟨(K P (S "RowError")), (.str (S "RowError") 267), (.ref 71)⟩, ⟨(K P (S "wrap")), (.str (S "wrap") 276), (.ref 81)⟩, ⟨(K P (S "signed")), (.str (S "signed") 286), (.ref 89)⟩, ⟨(K P (S "fits_signed")), (.str (S "fits_signed") 294), (.ref 96)⟩, ⟨(K P (S "Outcome")), (.str (S "Outcome") 340), (.ref 120)⟩, ⟨(K P (S "RAX")), (.str (S "RAX") 344), (.int 0 343)⟩, ⟨(K P (S "RCX")), (.str (S "RCX") 346), (.int 1 345)⟩, ⟨(K P (S "RDX")), (.str (S "RDX") 348), (.int 2 347)⟩, ⟨(K P (S "RSP")), (.str (S "RSP") 350), (.int 4 349)⟩, ⟨(K P (S "MOST_LABEL")), (.str (S "MOST_LABEL") 352), (.int 1000000 351)⟩, ⟨(K P (S "Row")), (.str (S "Row") 390), (.ref 148)⟩, ⟨(K P (S "row_shapes")), (.str (S "row_shapes") 398), (.ref 159)⟩, ⟨(K P (S "conditions")), (.str (S "conditions") 404), (.ref 166)⟩, ⟨(K P (S "part_fits")), (.str (S "part_fits") 413), (.ref 173)⟩, ⟨(K P (S "check_row")), (.str (S "check_row") 424), (.ref 181)⟩, ⟨(K P (S "is_mark")), (.str (S "is_mark") 431), (.ref 188)⟩, ⟨(K P (S "goal_of")), (.str (S "goal_of") 438), (.ref 195)⟩, ⟨(K P (S "marks_of")), (.str (S "marks_of") 448), (.ref 202)⟩, ⟨(K P (S "check_rows")), (.str (S "check_rows") 459), (.ref 209)⟩, ⟨(K P (S "PILE_TOP")), (.str (S "PILE_TOP") 463), (.int 1879048192 462)⟩, ⟨(K P (S "DIVIDE")), (.str (S "DIVIDE") 465), (.str (S "divide error") 464)⟩, ⟨(K P (S "Flags")), (.str (S "Flags") 507), (.ref 233)⟩, ⟨(K P (S "unknown_flags")), (.str (S "unknown_flags") 513), (.ref 244)⟩] 36), #[]⟩
noncomputable def o12v6 (P : Params) : Obj := ⟨.none, none, (.fields #[(.int 1 0), (.int 0 0), (.ref 20), (.int 6 0), (.int 0 0), (.ref 27), (.int 15 0), (.int 0 0), (.ref 55), (.int 17 0), (.int 0 0), (.ref 67), (.int 19 0), (.int 0 0), (.ref 80), (.int 21 0), (.int 0 0), (.ref 88), (.int 24 0), (.int 0 0), (.ref 95), (.int 27 0), (.int 0 0), (.ref 102), (.int 44 0), (.int 0 0), (.ref 130), (.int 52 0), (.int 0 0), (.ref 158), (.int 76 0), (.int 0 0), (.ref 165), (.int 78 0), (.int 0 0), (.ref 172), (.int 98 0), (.int 0 0), (.ref 180), (.int 110 0), (.int 0 0), (.ref 187), (.int 112 0), (.int 0 0), (.ref 194), (.int 120 0), (.int 0 0), (.ref 201), (.int 129 0), (.int 0 0), (.ref 208), (.int 140 0), (.int 0 0), (.ref 215), (.int 150 0), (.int 0 0), (.ref 243)]), #[]⟩
noncomputable def o189 (P : Params) : Obj := ⟨(.type "tuple"), none, (.seq #[] 0), #[]⟩
noncomputable def o190 (P : Params) : Obj := ⟨.none, none, (.fields #[]), #[]⟩
noncomputable def o191 (P : Params) : Obj := ⟨(.type "tuple"), none, (.seq #[(.str (S "row") 435)] 0), #[]⟩
noncomputable def o192 (P : Params) : Obj := ⟨(.type "tuple"), none, (.seq #[] 0), #[]⟩
noncomputable def o193 (P : Params) : Obj := ⟨.none, none, (.func ⟨(S "goal_of"), (S "goal_of"), (fA 23), (.stmts (fB 23)), (fS 22), 0, [], .none, .none, .none, .none, none, .none, .none, 0⟩), #[]⟩
noncomputable def o194 (P : Params) : Obj := ⟨(.type "code"), none, (.fields #[(.str (S "goal_of") 432), (.str (S "goal_of") 433), (.str (S "/claim/cut.py") 434), (.int 112 0), (.int 1 0), (.int 0 0), (.int 0 0), (.int 3 0), (.ref 189), (.bool true), (.int 181 0), (.ref 190), .none, (.ref 191), (.ref 192), (.ref 193), (.int 436 0), (.int 112 0), (.str (S "/claim/cut.py") 437)]), #[]⟩
noncomputable def o195 (P : Params) : Obj := ⟨(.type "function"), none, (.func ⟨(S "goal_of"), (S "goal_of"), (fA 23), (.stmts (fB 23)), (fS 22), 3, [], .none, .none, .none, (.str (S "ringgate.x86rows") 341), none, (.ref 194), .none, 0⟩), #[]⟩
noncomputable def o196 (P : Params) : Obj := ⟨(.type "tuple"), none, (.seq #[] 0), #[]⟩
noncomputable def o197 (P : Params) : Obj := ⟨.none, none, (.fields #[]), #[]⟩
noncomputable def o198 (P : Params) : Obj := ⟨(.type "tuple"), none, (.seq #[(.str (S "rows") 442), (.str (S "found") 443), (.str (S "at") 444), (.str (S "key") 445)] 0), #[]⟩
noncomputable def o199 (P : Params) : Obj := ⟨(.type "tuple"), none, (.seq #[] 0), #[]⟩
noncomputable def o200 (P : Params) : Obj := ⟨.none, none, (.func ⟨(S "marks_of"), (S "marks_of"), (fA 24), (.stmts (fB 24)), (fS 24), 0, [], .none, .none, .none, .none, none, .none, .none, 0⟩), #[]⟩
noncomputable def o201 (P : Params) : Obj := ⟨(.type "code"), none, (.fields #[(.str (S "marks_of") 439), (.str (S "marks_of") 440), (.str (S "/claim/cut.py") 441), (.int 120 0), (.int 1 0), (.int 0 0), (.int 0 0), (.int 3 0), (.ref 196), (.bool true), (.int 181 0), (.ref 197), .none, (.ref 198), (.ref 199), (.ref 200), (.int 446 0), (.int 120 0), (.str (S "/claim/cut.py") 447)]), #[]⟩
noncomputable def o202 (P : Params) : Obj := ⟨(.type "function"), none, (.func ⟨(S "marks_of"), (S "marks_of"), (fA 24), (.stmts (fB 24)), (fS 24), 3, [], .none, .none, .none, (.str (S "ringgate.x86rows") 341), none, (.ref 201), .none, 0⟩), #[]⟩
noncomputable def o203 (P : Params) : Obj := ⟨(.type "tuple"), none, (.seq #[] 0), #[]⟩
noncomputable def o204 (P : Params) : Obj := ⟨.none, none, (.fields #[]), #[]⟩
noncomputable def o205 (P : Params) : Obj := ⟨(.type "tuple"), none, (.seq #[(.str (S "rows") 452), (.str (S "found") 453), (.str (S "shapes") 454), (.str (S "at") 455), (.str (S "goal") 456)] 0), #[]⟩
noncomputable def o206 (P : Params) : Obj := ⟨(.type "tuple"), none, (.seq #[] 0), #[]⟩
noncomputable def o207 (P : Params) : Obj := ⟨.none, none, (.func ⟨(S "check_rows"), (S "check_rows"), (fA 25), (.stmts (fB 25)), (fS 25), 0, [], .none, .none, .none, .none, none, .none, .none, 0⟩), #[]⟩
noncomputable def o208 (P : Params) : Obj := ⟨(.type "code"), none, (.fields #[(.str (S "check_rows") 449), (.str (S "check_rows") 450), (.str (S "/claim/cut.py") 451), (.int 129 0), (.int 1 0), (.int 0 0), (.int 0 0), (.int 3 0), (.ref 203), (.bool true), (.int 181 0), (.ref 204), .none, (.ref 205), (.ref 206), (.ref 207), (.int 457 0), (.int 129 0), (.str (S "/claim/cut.py") 458)]), #[]⟩
noncomputable def o209 (P : Params) : Obj := ⟨(.type "function"), none, (.func ⟨(S "check_rows"), (S "check_rows"), (fA 25), (.stmts (fB 25)), (fS 25), 3, [], .none, .none, .none, (.str (S "ringgate.x86rows") 341), none, (.ref 208), .none, 0⟩), #[]⟩
noncomputable def o210 (P : Params) : Obj := ⟨(.type "tuple"), none, (.seq #[] 0), #[]⟩
noncomputable def o211 (P : Params) : Obj := ⟨(.type "builtin_function_or_method"), none, (.fields #[(.builtin "type.__prepare__"), (.type "type")]), #[]⟩
noncomputable def o212 (P : Params) : Obj := ⟨(.type "dict"), none, (.dict #[⟨(K P (S "__module__")), (.str (S "__module__") 473), (.str (S "ringgate.x86machine") 460)⟩, ⟨(K P (S "__qualname__")), (.str (S "__qualname__") 475), (.str (S "Flags") 474)⟩, ⟨(K P (S "__firstlineno__")), (.str (S "__firstlineno__") 477), (.int 140 476)⟩, ⟨(K P (S "__init__")), (.str (S "__init__") 488), (.ref 223)⟩, ⟨(K P (S "told")), (.str (S "told") 495), (.ref 230)⟩, ⟨(K P (S "__static_attributes__")), (.str (S "__static_attributes__") 500), (.ref 231)⟩] 6), #[]⟩
noncomputable def o213 (P : Params) : Obj := ⟨(.type "tuple"), none, (.seq #[] 0), #[]⟩
noncomputable def o214 (P : Params) : Obj := ⟨.none, none, (.fields #[(.int 142 0), (.int 4 0), (.ref 222), (.int 148 0), (.int 4 0), (.ref 229)]), #[]⟩
noncomputable def o215 (P : Params) : Obj := ⟨(.type "code"), none, (.fields #[(.str (S "Flags") 468), (.str (S "Flags") 469), (.str (S "/claim/cut.py") 470), (.int 140 0), (.int 0 0), (.int 0 0), (.int 0 0), (.int 0 0), (.ref 213), (.bool false), (.int 181 0), (.ref 214), .none, .none, .none, .none, (.int 471 0), (.int 140 0), (.str (S "/claim/cut.py") 472)]), #[]⟩
noncomputable def o216 (P : Params) : Obj := ⟨(.type "frame"), none, .plain, #[(some (.ref 215)), (some (.ref 3)), (some (.ref 212)), none, (some (.str (S "ringgate.x86machine") 460)), none, (some (.ref 0))]⟩
noncomputable def o217 (P : Params) : Obj := ⟨(.type "tuple"), none, (.seq #[] 0), #[]⟩
noncomputable def o218 (P : Params) : Obj := ⟨.none, none, (.fields #[]), #[]⟩
noncomputable def o219 (P : Params) : Obj := ⟨(.type "tuple"), none, (.seq #[(.str (S "self") 481), (.str (S "carry") 482), (.str (S "zero") 483), (.str (S "sign") 484), (.str (S "over") 485)] 0), #[]⟩
noncomputable def o220 (P : Params) : Obj := ⟨(.type "tuple"), none, (.seq #[] 0), #[]⟩
noncomputable def o221 (P : Params) : Obj := ⟨.none, none, (.func ⟨(S "__init__"), (S "Flags.__init__"), (mA 29 0), (.stmts (mB 29 0)), (mS 29 0), 0, [], .none, .none, .none, .none, none, .none, .none, 0⟩), #[]⟩
noncomputable def o222 (P : Params) : Obj := ⟨(.type "code"), none, (.fields #[(.str (S "__init__") 478), (.str (S "Flags.__init__") 479), (.str (S "/claim/cut.py") 480), (.int 142 0), (.int 5 0), (.int 0 0), (.int 0 0), (.int 3 0), (.ref 217), (.bool true), (.int 181 0), (.ref 218), .none, (.ref 219), (.ref 220), (.ref 221), (.int 486 0), (.int 142 0), (.str (S "/claim/cut.py") 487)]), #[]⟩
noncomputable def o223 (P : Params) : Obj := ⟨(.type "function"), none, (.func ⟨(S "__init__"), (S "Flags.__init__"), (mA 29 0), (.stmts (mB 29 0)), (mS 29 0), 3, [], .none, .none, .none, (.str (S "ringgate.x86machine") 460), none, (.ref 222), .none, 0⟩), #[]⟩
noncomputable def o224 (P : Params) : Obj := ⟨(.type "tuple"), none, (.seq #[] 0), #[]⟩
noncomputable def o225 (P : Params) : Obj := ⟨.none, none, (.fields #[]), #[]⟩
noncomputable def o226 (P : Params) : Obj := ⟨(.type "tuple"), none, (.seq #[(.str (S "self") 492)] 0), #[]⟩
noncomputable def o227 (P : Params) : Obj := ⟨(.type "tuple"), none, (.seq #[] 0), #[]⟩
noncomputable def o228 (P : Params) : Obj := ⟨.none, none, (.func ⟨(S "told"), (S "Flags.told"), (mA 29 1), (.stmts (mB 29 1)), (mS 3 1), 0, [], .none, .none, .none, .none, none, .none, .none, 0⟩), #[]⟩
noncomputable def o229 (P : Params) : Obj := ⟨(.type "code"), none, (.fields #[(.str (S "told") 489), (.str (S "Flags.told") 490), (.str (S "/claim/cut.py") 491), (.int 148 0), (.int 1 0), (.int 0 0), (.int 0 0), (.int 3 0), (.ref 224), (.bool true), (.int 181 0), (.ref 225), .none, (.ref 226), (.ref 227), (.ref 228), (.int 493 0), (.int 148 0), (.str (S "/claim/cut.py") 494)]), #[]⟩
noncomputable def o230 (P : Params) : Obj := ⟨(.type "function"), none, (.func ⟨(S "told"), (S "Flags.told"), (mA 29 1), (.stmts (mB 29 1)), (mS 3 1), 3, [], .none, .none, .none, (.str (S "ringgate.x86machine") 460), none, (.ref 229), .none, 0⟩), #[]⟩
noncomputable def o231 (P : Params) : Obj := ⟨(.type "tuple"), none, (.seq #[(.str (S "carry") 496), (.str (S "over") 497), (.str (S "sign") 498), (.str (S "zero") 499)] 0), #[]⟩
noncomputable def o232 (P : Params) : Obj := ⟨(.type "dict"), none, (.dict #[⟨(K P (S "__module__")), (.str (S "__module__") 473), (.str (S "ringgate.x86machine") 460)⟩, ⟨(K P (S "__firstlineno__")), (.str (S "__firstlineno__") 477), (.int 140 476)⟩, ⟨(K P (S "__init__")), (.str (S "__init__") 488), (.ref 223)⟩, ⟨(K P (S "told")), (.str (S "told") 495), (.ref 230)⟩, ⟨(K P (S "__static_attributes__")), (.str (S "__static_attributes__") 500), (.ref 231)⟩, ⟨(K P (S "__dict__")), (.str (S "__dict__") 502), (.ref 234)⟩, ⟨(K P (S "__weakref__")), (.str (S "__weakref__") 504), (.ref 235)⟩, ⟨(K P (S "__doc__")), (.str (S "__doc__") 505), .none⟩] 4), #[]⟩
noncomputable def o233 (P : Params) : Obj := ⟨(.type "type"), none, (.cls ⟨(S "Flags"), [(.type "object")], [(.ref 233), (.type "object")], 232, (S "Flags"), true, [], [], false, none, false⟩), #[none, none, (some (.str (S "Flags") 466)), (some (.str (S "Flags") 474)), (some (.builtin "object.__new__")), (some (.bool true))]⟩
noncomputable def o234 (P : Params) : Obj := ⟨(.type "getset_descriptor"), none, (.fields #[(.str (S "__dict__") 501), (.ref 233), (.builtin "function.__dict__"), (.builtin "function.__dict__#set")]), #[]⟩
noncomputable def o235 (P : Params) : Obj := ⟨(.type "getset_descriptor"), none, (.fields #[(.str (S "__weakref__") 503), (.ref 233), (.builtin "ExceptionGroup.__weakref__"), .none]), #[]⟩
noncomputable def o236 (P : Params) : Obj := ⟨(.type "super"), none, (.fields #[(.ref 233), (.ref 233), (.ref 233)]), #[]⟩
noncomputable def o237 (P : Params) : Obj := ⟨(.type "builtin_function_or_method"), none, (.fields #[(.builtin "object.__init_subclass__"), (.ref 233)]), #[]⟩
noncomputable def o238 (P : Params) : Obj := ⟨(.type "tuple"), none, (.seq #[] 0), #[]⟩
noncomputable def o239 (P : Params) : Obj := ⟨.none, none, (.fields #[]), #[]⟩
noncomputable def o240 (P : Params) : Obj := ⟨(.type "tuple"), none, (.seq #[] 0), #[]⟩
noncomputable def o241 (P : Params) : Obj := ⟨(.type "tuple"), none, (.seq #[] 0), #[]⟩
noncomputable def o242 (P : Params) : Obj := ⟨.none, none, (.func ⟨(S "unknown_flags"), (S "unknown_flags"), (fA 18), (.stmts (fB 30)), (fS 30), 0, [], .none, .none, .none, .none, none, .none, .none, 0⟩), #[]⟩
noncomputable def o243 (P : Params) : Obj := ⟨(.type "code"), none, (.fields #[(.str (S "unknown_flags") 508), (.str (S "unknown_flags") 509), (.str (S "/claim/cut.py") 510), (.int 150 0), (.int 0 0), (.int 0 0), (.int 0 0), (.int 3 0), (.ref 238), (.bool true), (.int 181 0), (.ref 239), .none, (.ref 240), (.ref 241), (.ref 242), (.int 511 0), (.int 150 0), (.str (S "/claim/cut.py") 512)]), #[]⟩
noncomputable def o244 (P : Params) : Obj := ⟨(.type "function"), none, (.func ⟨(S "unknown_flags"), (S "unknown_flags"), (fA 18), (.stmts (fB 30)), (fS 30), 3, [], .none, .none, .none, (.str (S "ringgate.x86machine") 460), none, (.ref 243), .none, 0⟩), #[]⟩
noncomputable def t_p30 (P : Params) : BT := (.node (boot_o_0 P) (.node (boot_o_1 P) (.node (o3v5 P) (.node (boot_o_7 P) (.node (o15 P) (.node (o31 P) (.node (o63 P) (.node (o127 P) .nil .nil) (.node (o191 P) .nil .nil)) (.node (o95 P) (.node (o159 P) .nil .nil) (.node (o223 P) .nil .nil))) (.node (o47 P) (.node (o79 P) (.node (o143 P) .nil .nil) (.node (o207 P) .nil .nil)) (.node (o111 P) (.node (o175 P) .nil .nil) (.node (o239 P) .nil .nil)))) (.node (o23 P) (.node (o39 P) (.node (o71 P) (.node (o135 P) .nil .nil) (.node (o199 P) .nil .nil)) (.node (o103 P) (.node (o167 P) .nil .nil) (.node (o231 P) .nil .nil))) (.node (o55 P) (.node (o87 P) (.node (o151 P) .nil .nil) (.node (o215 P) .nil .nil)) (.node (o119 P) (.node (o183 P) .nil .nil) .nil)))) (.node (o11 P) (.node (o19 P) (.node (o35 P) (.node (o67 P) (.node (o131 P) .nil .nil) (.node (o195 P) .nil .nil)) (.node (o99 P) (.node (o163 P) .nil .nil) (.node (o227 P) .nil .nil))) (.node (o51 P) (.node (o83 P) (.node (o147 P) .nil .nil) (.node (o211 P) .nil .nil)) (.node (o115 P) (.node (o179 P) .nil .nil) (.node (o243 P) .nil .nil)))) (.node (o27 P) (.node (o43 P) (.node (o75 P) (.node (o139 P) .nil .nil) (.node (o203 P) .nil .nil)) (.node (o107 P) (.node (o171 P) .nil .nil) (.node (o235 P) .nil .nil))) (.node (o59 P) (.node (o91 P) (.node (o155 P) .nil .nil) (.node (o219 P) .nil .nil)) (.node (o123 P) (.node (o187 P) .nil .nil) .nil))))) (.node (boot_o_5 P) (.node (boot_o_9 P) (.node (o17 P) (.node (o33 P) (.node (o65 P) (.node (o129 P) .nil .nil) (.node (o193 P) .nil .nil)) (.node (o97 P) (.node (o161 P) .nil .nil) (.node (o225 P) .nil .nil))) (.node (o49 P) (.node (o81 P) (.node (o145 P) .nil .nil) (.node (o209 P) .nil .nil)) (.node (o113 P) (.node (o177 P) .nil .nil) (.node (o241 P) .nil .nil)))) (.node (o25 P) (.node (o41 P) (.node (o73 P) (.node (o137 P) .nil .nil) (.node (o201 P) .nil .nil)) (.node (o105 P) (.node (o169 P) .nil .nil) (.node (o233 P) .nil .nil))) (.node (o57 P) (.node (o89 P) (.node (o153 P) .nil .nil) (.node (o217 P) .nil .nil)) (.node (o121 P) (.node (o185 P) .nil .nil) .nil)))) (.node (o13 P) (.node (o21 P) (.node (o37 P) (.node (o69 P) (.node (o133 P) .nil .nil) (.node (o197 P) .nil .nil)) (.node (o101 P) (.node (o165 P) .nil .nil) (.node (o229 P) .nil .nil))) (.node (o53 P) (.node (o85 P) (.node (o149 P) .nil .nil) (.node (o213 P) .nil .nil)) (.node (o117 P) (.node (o181 P) .nil .nil) .nil))) (.node (o29 P) (.node (o45 P) (.node (o77 P) (.node (o141 P) .nil .nil) (.node (o205 P) .nil .nil)) (.node (o109 P) (.node (o173 P) .nil .nil) (.node (o237 P) .nil .nil))) (.node (o61 P) (.node (o93 P) (.node (o157 P) .nil .nil) (.node (o221 P) .nil .nil)) (.node (o125 P) (.node (o189 P) .nil .nil) .nil)))))) (.node (o2 P) (.node (boot_o_4 P) (.node (boot_o_8 P) (.node (o16 P) (.node (o32 P) (.node (o64 P) (.node (o128 P) .nil .nil) (.node (o192 P) .nil .nil)) (.node (o96 P) (.node (o160 P) .nil .nil) (.node (o224 P) .nil .nil))) (.node (o48 P) (.node (o80 P) (.node (o144 P) .nil .nil) (.node (o208 P) .nil .nil)) (.node (o112 P) (.node (o176 P) .nil .nil) (.node (o240 P) .nil .nil)))) (.node (o24 P) (.node (o40 P) (.node (o72 P) (.node (o136 P) .nil .nil) (.node (o200 P) .nil .nil)) (.node (o104 P) (.node (o168 P) .nil .nil) (.node (o232 P) .nil .nil))) (.node (o56 P) (.node (o88 P) (.node (o152 P) .nil .nil) (.node (o216 P) .nil .nil)) (.node (o120 P) (.node (o184 P) .nil .nil) .nil)))) (.node (o12v6 P) (.node (o20 P) (.node (o36 P) (.node (o68 P) (.node (o132 P) .nil .nil) (.node (o196 P) .nil .nil)) (.node (o100 P) (.node (o164 P) .nil .nil) (.node (o228 P) .nil .nil))) (.node (o52 P) (.node (o84 P) (.node (o148 P) .nil .nil) (.node (o212 P) .nil .nil)) (.node (o116 P) (.node (o180 P) .nil .nil) (.node (o244 P) .nil .nil)))) (.node (o28 P) (.node (o44 P) (.node (o76 P) (.node (o140 P) .nil .nil) (.node (o204 P) .nil .nil)) (.node (o108 P) (.node (o172 P) .nil .nil) (.node (o236 P) .nil .nil))) (.node (o60 P) (.node (o92 P) (.node (o156 P) .nil .nil) (.node (o220 P) .nil .nil)) (.node (o124 P) (.node (o188 P) .nil .nil) .nil))))) (.node (boot_o_6 P) (.node (boot_o_10 P) (.node (o18 P) (.node (o34 P) (.node (o66 P) (.node (o130 P) .nil .nil) (.node (o194 P) .nil .nil)) (.node (o98 P) (.node (o162 P) .nil .nil) (.node (o226 P) .nil .nil))) (.node (o50 P) (.node (o82 P) (.node (o146 P) .nil .nil) (.node (o210 P) .nil .nil)) (.node (o114 P) (.node (o178 P) .nil .nil) (.node (o242 P) .nil .nil)))) (.node (o26 P) (.node (o42 P) (.node (o74 P) (.node (o138 P) .nil .nil) (.node (o202 P) .nil .nil)) (.node (o106 P) (.node (o170 P) .nil .nil) (.node (o234 P) .nil .nil))) (.node (o58 P) (.node (o90 P) (.node (o154 P) .nil .nil) (.node (o218 P) .nil .nil)) (.node (o122 P) (.node (o186 P) .nil .nil) .nil)))) (.node (o14 P) (.node (o22 P) (.node (o38 P) (.node (o70 P) (.node (o134 P) .nil .nil) (.node (o198 P) .nil .nil)) (.node (o102 P) (.node (o166 P) .nil .nil) (.node (o230 P) .nil .nil))) (.node (o54 P) (.node (o86 P) (.node (o150 P) .nil .nil) (.node (o214 P) .nil .nil)) (.node (o118 P) (.node (o182 P) .nil .nil) .nil))) (.node (o30 P) (.node (o46v2 P) (.node (o78 P) (.node (o142 P) .nil .nil) (.node (o206 P) .nil .nil)) (.node (o110 P) (.node (o174 P) .nil .nil) (.node (o238 P) .nil .nil))) (.node (o62 P) (.node (o94 P) (.node (o158 P) .nil .nil) (.node (o222 P) .nil .nil)) (.node (o126 P) (.node (o190 P) .nil .nil) .nil)))))))
noncomputable def o3v6 (P : Params) : Obj := ⟨(.type "dict"), none, (.dict #[⟨(K P (S "__name__")), (.str (S "__name__") 165), (.str (S "ringgate.x86machine") 460)⟩, ⟨(K P (S "__doc__")), (.str (S "__doc__") 166), .none⟩, ⟨(K P (S "__package__")), (.str (S "__package__") 167), .none⟩, ⟨(K P (S "__loader__")), (.str (S "__loader__") 168), (.builtin "__main__.__loader__#opaque")⟩, ⟨(K P (S "__spec__")), (.str (S "__spec__") 169), .none⟩, ⟨(K P (S "__annotations__")), (.str (S "__annotations__") 170), (.ref 6)⟩, ⟨(K P (S "__builtins__")), (.str (S "__builtins__") 171), (.ref 4)⟩, ⟨(K P (S "__file__")), (.str (S "__file__") 173), (.str (S "/claim/cut.py") 172)⟩, ⟨(K P (S "__cached__")), (.str (S "__cached__") 174), .none⟩, ⟨(K P (S "_wall")), (.str (S "_wall") 193), (.ref 21)⟩, ⟨(K P (S "U64")), (.str (S "U64") 197), (.int 18446744073709551615 196)⟩, ⟨(K P (S "GateError")), (.str (S "GateError") 235), (.ref 46)⟩, ⟨(K P (S "Fault")), (.str (S "Fault") 251), (.ref 59)⟩, ⟨(K P (S "RowError")), (.str (S "RowError") 267), (.ref 71)⟩, ⟨(K P (S "wrap")), (.str (S "wrap") 276), (.ref 81)⟩, ⟨(K P (S "signed")), (.str (S "signed") 286), (.ref 89)⟩, ⟨(K P (S "fits_signed")), (.str (S "fits_signed") 294), (.ref 96)⟩, ⟨(K P (S "Outcome")), (.str (S "Outcome") 340), (.ref 120)⟩, ⟨(K P (S "RAX")), (.str (S "RAX") 344), (.int 0 343)⟩, ⟨(K P (S "RCX")), (.str (S "RCX") 346), (.int 1 345)⟩, ⟨(K P (S "RDX")), (.str (S "RDX") 348), (.int 2 347)⟩, ⟨(K P (S "RSP")), (.str (S "RSP") 350), (.int 4 349)⟩, ⟨(K P (S "MOST_LABEL")), (.str (S "MOST_LABEL") 352), (.int 1000000 351)⟩, ⟨(K P (S "Row")), (.str (S "Row") 390), (.ref 148)⟩, ⟨(K P (S "row_shapes")), (.str (S "row_shapes") 398), (.ref 159)⟩, ⟨(K P (S "conditions")), (.str (S "conditions") 404), (.ref 166)⟩, ⟨(K P (S "part_fits")), (.str (S "part_fits") 413), (.ref 173)⟩, ⟨(K P (S "check_row")), (.str (S "check_row") 424), (.ref 181)⟩, ⟨(K P (S "is_mark")), (.str (S "is_mark") 431), (.ref 188)⟩, ⟨(K P (S "goal_of")), (.str (S "goal_of") 438), (.ref 195)⟩, ⟨(K P (S "marks_of")), (.str (S "marks_of") 448), (.ref 202)⟩, ⟨(K P (S "check_rows")), (.str (S "check_rows") 459), (.ref 209)⟩, ⟨(K P (S "PILE_TOP")), (.str (S "PILE_TOP") 463), (.int 1879048192 462)⟩, ⟨(K P (S "DIVIDE")), (.str (S "DIVIDE") 465), (.str (S "divide error") 464)⟩, ⟨(K P (S "Flags")), (.str (S "Flags") 507), (.ref 233)⟩, ⟨(K P (S "unknown_flags")), (.str (S "unknown_flags") 513), (.ref 244)⟩, ⟨(K P (S "sign_bit")), (.str (S "sign_bit") 521), (.ref 251)⟩, ⟨(K P (S "logic_flags")), (.str (S "logic_flags") 529), (.ref 258)⟩, ⟨(K P (S "sum_flags")), (.str (S "sum_flags") 540), (.ref 265)⟩, ⟨(K P (S "difference_flags")), (.str (S "difference_flags") 551), (.ref 272)⟩, ⟨(K P (S "known")), (.str (S "known") 558), (.ref 279)⟩, ⟨(K P (S "unsigned_condition")), (.str (S "unsigned_condition") 566), (.ref 286)⟩, ⟨(K P (S "condition_holds")), (.str (S "condition_holds") 576), (.ref 293)⟩, ⟨(K P (S "two_sides")), (.str (S "two_sides") 586), (.ref 300)⟩, ⟨(K P (S "shifted_by")), (.str (S "shifted_by") 596), (.ref 307)⟩, ⟨(K P (S "divided_by")), (.str (S "divided_by") 607), (.ref 314)⟩, ⟨(K P (S "signed_divided_by")), (.str (S "signed_divided_by") 621), (.ref 321)⟩, ⟨(K P (S "octets_turned")), (.str (S "octets_turned") 631), (.ref 328)⟩] 48), #[]⟩
noncomputable def o12v7 (P : Params) : Obj := ⟨.none, none, (.fields #[(.int 1 0), (.int 0 0), (.ref 20), (.int 6 0), (.int 0 0), (.ref 27), (.int 15 0), (.int 0 0), (.ref 55), (.int 17 0), (.int 0 0), (.ref 67), (.int 19 0), (.int 0 0), (.ref 80), (.int 21 0), (.int 0 0), (.ref 88), (.int 24 0), (.int 0 0), (.ref 95), (.int 27 0), (.int 0 0), (.ref 102), (.int 44 0), (.int 0 0), (.ref 130), (.int 52 0), (.int 0 0), (.ref 158), (.int 76 0), (.int 0 0), (.ref 165), (.int 78 0), (.int 0 0), (.ref 172), (.int 98 0), (.int 0 0), (.ref 180), (.int 110 0), (.int 0 0), (.ref 187), (.int 112 0), (.int 0 0), (.ref 194), (.int 120 0), (.int 0 0), (.ref 201), (.int 129 0), (.int 0 0), (.ref 208), (.int 140 0), (.int 0 0), (.ref 215), (.int 150 0), (.int 0 0), (.ref 243), (.int 152 0), (.int 0 0), (.ref 250), (.int 154 0), (.int 0 0), (.ref 257), (.int 156 0), (.int 0 0), (.ref 264), (.int 160 0), (.int 0 0), (.ref 271), (.int 164 0), (.int 0 0), (.ref 278), (.int 168 0), (.int 0 0), (.ref 285), (.int 182 0), (.int 0 0), (.ref 292), (.int 194 0), (.int 0 0), (.ref 299), (.int 204 0), (.int 0 0), (.ref 306), (.int 210 0), (.int 0 0), (.ref 313), (.int 215 0), (.int 0 0), (.ref 320), (.int 224 0), (.int 0 0), (.ref 327)]), #[]⟩
noncomputable def o245 (P : Params) : Obj := ⟨(.type "tuple"), none, (.seq #[] 0), #[]⟩
noncomputable def o246 (P : Params) : Obj := ⟨.none, none, (.fields #[]), #[]⟩
noncomputable def o247 (P : Params) : Obj := ⟨(.type "tuple"), none, (.seq #[(.str (S "worth") 517), (.str (S "size") 518)] 0), #[]⟩
noncomputable def o248 (P : Params) : Obj := ⟨(.type "tuple"), none, (.seq #[] 0), #[]⟩
noncomputable def o249 (P : Params) : Obj := ⟨.none, none, (.func ⟨(S "sign_bit"), (S "sign_bit"), (fA 31), (.stmts (fB 31)), (fS 6), 0, [], .none, .none, .none, .none, none, .none, .none, 0⟩), #[]⟩
noncomputable def o250 (P : Params) : Obj := ⟨(.type "code"), none, (.fields #[(.str (S "sign_bit") 514), (.str (S "sign_bit") 515), (.str (S "/claim/cut.py") 516), (.int 152 0), (.int 2 0), (.int 0 0), (.int 0 0), (.int 3 0), (.ref 245), (.bool true), (.int 181 0), (.ref 246), .none, (.ref 247), (.ref 248), (.ref 249), (.int 519 0), (.int 152 0), (.str (S "/claim/cut.py") 520)]), #[]⟩
noncomputable def o251 (P : Params) : Obj := ⟨(.type "function"), none, (.func ⟨(S "sign_bit"), (S "sign_bit"), (fA 31), (.stmts (fB 31)), (fS 6), 3, [], .none, .none, .none, (.str (S "ringgate.x86machine") 460), none, (.ref 250), .none, 0⟩), #[]⟩
noncomputable def o252 (P : Params) : Obj := ⟨(.type "tuple"), none, (.seq #[] 0), #[]⟩
noncomputable def o253 (P : Params) : Obj := ⟨.none, none, (.fields #[]), #[]⟩
noncomputable def o254 (P : Params) : Obj := ⟨(.type "tuple"), none, (.seq #[(.str (S "worth") 525), (.str (S "size") 526)] 0), #[]⟩
noncomputable def o255 (P : Params) : Obj := ⟨(.type "tuple"), none, (.seq #[] 0), #[]⟩
noncomputable def o256 (P : Params) : Obj := ⟨.none, none, (.func ⟨(S "logic_flags"), (S "logic_flags"), (fA 32), (.stmts (fB 32)), (fS 32), 0, [], .none, .none, .none, .none, none, .none, .none, 0⟩), #[]⟩
noncomputable def o257 (P : Params) : Obj := ⟨(.type "code"), none, (.fields #[(.str (S "logic_flags") 522), (.str (S "logic_flags") 523), (.str (S "/claim/cut.py") 524), (.int 154 0), (.int 2 0), (.int 0 0), (.int 0 0), (.int 3 0), (.ref 252), (.bool true), (.int 181 0), (.ref 253), .none, (.ref 254), (.ref 255), (.ref 256), (.int 527 0), (.int 154 0), (.str (S "/claim/cut.py") 528)]), #[]⟩
noncomputable def o258 (P : Params) : Obj := ⟨(.type "function"), none, (.func ⟨(S "logic_flags"), (S "logic_flags"), (fA 32), (.stmts (fB 32)), (fS 32), 3, [], .none, .none, .none, (.str (S "ringgate.x86machine") 460), none, (.ref 257), .none, 0⟩), #[]⟩
noncomputable def o259 (P : Params) : Obj := ⟨(.type "tuple"), none, (.seq #[] 0), #[]⟩
noncomputable def o260 (P : Params) : Obj := ⟨.none, none, (.fields #[]), #[]⟩
noncomputable def o261 (P : Params) : Obj := ⟨(.type "tuple"), none, (.seq #[(.str (S "one") 533), (.str (S "other") 534), (.str (S "size") 535), (.str (S "worth") 536), (.str (S "over") 537)] 0), #[]⟩
noncomputable def o262 (P : Params) : Obj := ⟨(.type "tuple"), none, (.seq #[] 0), #[]⟩
noncomputable def o263 (P : Params) : Obj := ⟨.none, none, (.func ⟨(S "sum_flags"), (S "sum_flags"), (fA 33), (.stmts (fB 33)), (fS 33), 0, [], .none, .none, .none, .none, none, .none, .none, 0⟩), #[]⟩
noncomputable def o264 (P : Params) : Obj := ⟨(.type "code"), none, (.fields #[(.str (S "sum_flags") 530), (.str (S "sum_flags") 531), (.str (S "/claim/cut.py") 532), (.int 156 0), (.int 3 0), (.int 0 0), (.int 0 0), (.int 3 0), (.ref 259), (.bool true), (.int 181 0), (.ref 260), .none, (.ref 261), (.ref 262), (.ref 263), (.int 538 0), (.int 156 0), (.str (S "/claim/cut.py") 539)]), #[]⟩
noncomputable def o265 (P : Params) : Obj := ⟨(.type "function"), none, (.func ⟨(S "sum_flags"), (S "sum_flags"), (fA 33), (.stmts (fB 33)), (fS 33), 3, [], .none, .none, .none, (.str (S "ringgate.x86machine") 460), none, (.ref 264), .none, 0⟩), #[]⟩
noncomputable def o266 (P : Params) : Obj := ⟨(.type "tuple"), none, (.seq #[] 0), #[]⟩
noncomputable def o267 (P : Params) : Obj := ⟨.none, none, (.fields #[]), #[]⟩
noncomputable def o268 (P : Params) : Obj := ⟨(.type "tuple"), none, (.seq #[(.str (S "one") 544), (.str (S "other") 545), (.str (S "size") 546), (.str (S "worth") 547), (.str (S "over") 548)] 0), #[]⟩
noncomputable def o269 (P : Params) : Obj := ⟨(.type "tuple"), none, (.seq #[] 0), #[]⟩
noncomputable def o270 (P : Params) : Obj := ⟨.none, none, (.func ⟨(S "difference_flags"), (S "difference_flags"), (fA 34), (.stmts (fB 34)), (fS 33), 0, [], .none, .none, .none, .none, none, .none, .none, 0⟩), #[]⟩
noncomputable def o271 (P : Params) : Obj := ⟨(.type "code"), none, (.fields #[(.str (S "difference_flags") 541), (.str (S "difference_flags") 542), (.str (S "/claim/cut.py") 543), (.int 160 0), (.int 3 0), (.int 0 0), (.int 0 0), (.int 3 0), (.ref 266), (.bool true), (.int 181 0), (.ref 267), .none, (.ref 268), (.ref 269), (.ref 270), (.int 549 0), (.int 160 0), (.str (S "/claim/cut.py") 550)]), #[]⟩
noncomputable def o272 (P : Params) : Obj := ⟨(.type "function"), none, (.func ⟨(S "difference_flags"), (S "difference_flags"), (fA 34), (.stmts (fB 34)), (fS 33), 3, [], .none, .none, .none, (.str (S "ringgate.x86machine") 460), none, (.ref 271), .none, 0⟩), #[]⟩
noncomputable def o273 (P : Params) : Obj := ⟨(.type "tuple"), none, (.seq #[] 0), #[]⟩
noncomputable def o274 (P : Params) : Obj := ⟨.none, none, (.fields #[]), #[]⟩
noncomputable def o275 (P : Params) : Obj := ⟨(.type "tuple"), none, (.seq #[(.str (S "flag") 555)] 0), #[]⟩
noncomputable def o276 (P : Params) : Obj := ⟨(.type "tuple"), none, (.seq #[] 0), #[]⟩
noncomputable def o277 (P : Params) : Obj := ⟨.none, none, (.func ⟨(S "known"), (S "known"), (fA 35), (.stmts (fB 35)), (fS 35), 0, [], .none, .none, .none, .none, none, .none, .none, 0⟩), #[]⟩
noncomputable def o278 (P : Params) : Obj := ⟨(.type "code"), none, (.fields #[(.str (S "known") 552), (.str (S "known") 553), (.str (S "/claim/cut.py") 554), (.int 164 0), (.int 1 0), (.int 0 0), (.int 0 0), (.int 3 0), (.ref 273), (.bool true), (.int 181 0), (.ref 274), .none, (.ref 275), (.ref 276), (.ref 277), (.int 556 0), (.int 164 0), (.str (S "/claim/cut.py") 557)]), #[]⟩
noncomputable def o279 (P : Params) : Obj := ⟨(.type "function"), none, (.func ⟨(S "known"), (S "known"), (fA 35), (.stmts (fB 35)), (fS 35), 3, [], .none, .none, .none, (.str (S "ringgate.x86machine") 460), none, (.ref 278), .none, 0⟩), #[]⟩
noncomputable def o280 (P : Params) : Obj := ⟨(.type "tuple"), none, (.seq #[] 0), #[]⟩
noncomputable def o281 (P : Params) : Obj := ⟨.none, none, (.fields #[]), #[]⟩
noncomputable def o282 (P : Params) : Obj := ⟨(.type "tuple"), none, (.seq #[(.str (S "name") 562), (.str (S "flags") 563)] 0), #[]⟩
noncomputable def o283 (P : Params) : Obj := ⟨(.type "tuple"), none, (.seq #[] 0), #[]⟩
noncomputable def o284 (P : Params) : Obj := ⟨.none, none, (.func ⟨(S "unsigned_condition"), (S "unsigned_condition"), (fA 36), (.stmts (fB 36)), (fS 36), 0, [], .none, .none, .none, .none, none, .none, .none, 0⟩), #[]⟩
noncomputable def o285 (P : Params) : Obj := ⟨(.type "code"), none, (.fields #[(.str (S "unsigned_condition") 559), (.str (S "unsigned_condition") 560), (.str (S "/claim/cut.py") 561), (.int 168 0), (.int 2 0), (.int 0 0), (.int 0 0), (.int 3 0), (.ref 280), (.bool true), (.int 181 0), (.ref 281), .none, (.ref 282), (.ref 283), (.ref 284), (.int 564 0), (.int 168 0), (.str (S "/claim/cut.py") 565)]), #[]⟩
noncomputable def o286 (P : Params) : Obj := ⟨(.type "function"), none, (.func ⟨(S "unsigned_condition"), (S "unsigned_condition"), (fA 36), (.stmts (fB 36)), (fS 36), 3, [], .none, .none, .none, (.str (S "ringgate.x86machine") 460), none, (.ref 285), .none, 0⟩), #[]⟩
noncomputable def o287 (P : Params) : Obj := ⟨(.type "tuple"), none, (.seq #[] 0), #[]⟩
noncomputable def o288 (P : Params) : Obj := ⟨.none, none, (.fields #[]), #[]⟩
noncomputable def o289 (P : Params) : Obj := ⟨(.type "tuple"), none, (.seq #[(.str (S "name") 570), (.str (S "flags") 571), (.str (S "found") 572), (.str (S "is_less") 573)] 0), #[]⟩
noncomputable def o290 (P : Params) : Obj := ⟨(.type "tuple"), none, (.seq #[] 0), #[]⟩
noncomputable def o291 (P : Params) : Obj := ⟨.none, none, (.func ⟨(S "condition_holds"), (S "condition_holds"), (fA 37), (.stmts (fB 37)), (fS 37), 0, [], .none, .none, .none, .none, none, .none, .none, 0⟩), #[]⟩
noncomputable def o292 (P : Params) : Obj := ⟨(.type "code"), none, (.fields #[(.str (S "condition_holds") 567), (.str (S "condition_holds") 568), (.str (S "/claim/cut.py") 569), (.int 182 0), (.int 2 0), (.int 0 0), (.int 0 0), (.int 3 0), (.ref 287), (.bool true), (.int 181 0), (.ref 288), .none, (.ref 289), (.ref 290), (.ref 291), (.int 574 0), (.int 182 0), (.str (S "/claim/cut.py") 575)]), #[]⟩
noncomputable def o293 (P : Params) : Obj := ⟨(.type "function"), none, (.func ⟨(S "condition_holds"), (S "condition_holds"), (fA 37), (.stmts (fB 37)), (fS 37), 3, [], .none, .none, .none, (.str (S "ringgate.x86machine") 460), none, (.ref 292), .none, 0⟩), #[]⟩
noncomputable def o294 (P : Params) : Obj := ⟨(.type "tuple"), none, (.seq #[] 0), #[]⟩
noncomputable def o295 (P : Params) : Obj := ⟨.none, none, (.fields #[]), #[]⟩
noncomputable def o296 (P : Params) : Obj := ⟨(.type "tuple"), none, (.seq #[(.str (S "name") 580), (.str (S "one") 581), (.str (S "other") 582), (.str (S "size") 583)] 0), #[]⟩
noncomputable def o297 (P : Params) : Obj := ⟨(.type "tuple"), none, (.seq #[] 0), #[]⟩
noncomputable def o298 (P : Params) : Obj := ⟨.none, none, (.func ⟨(S "two_sides"), (S "two_sides"), (fA 38), (.stmts (fB 38)), (fS 38), 0, [], .none, .none, .none, .none, none, .none, .none, 0⟩), #[]⟩
noncomputable def o299 (P : Params) : Obj := ⟨(.type "code"), none, (.fields #[(.str (S "two_sides") 577), (.str (S "two_sides") 578), (.str (S "/claim/cut.py") 579), (.int 194 0), (.int 4 0), (.int 0 0), (.int 0 0), (.int 3 0), (.ref 294), (.bool true), (.int 181 0), (.ref 295), .none, (.ref 296), (.ref 297), (.ref 298), (.int 584 0), (.int 194 0), (.str (S "/claim/cut.py") 585)]), #[]⟩
noncomputable def o300 (P : Params) : Obj := ⟨(.type "function"), none, (.func ⟨(S "two_sides"), (S "two_sides"), (fA 38), (.stmts (fB 38)), (fS 38), 3, [], .none, .none, .none, (.str (S "ringgate.x86machine") 460), none, (.ref 299), .none, 0⟩), #[]⟩
noncomputable def o301 (P : Params) : Obj := ⟨(.type "tuple"), none, (.seq #[] 0), #[]⟩
noncomputable def o302 (P : Params) : Obj := ⟨.none, none, (.fields #[]), #[]⟩
noncomputable def o303 (P : Params) : Obj := ⟨(.type "tuple"), none, (.seq #[(.str (S "name") 590), (.str (S "worth") 591), (.str (S "count") 592), (.str (S "size") 593)] 0), #[]⟩
noncomputable def o304 (P : Params) : Obj := ⟨(.type "tuple"), none, (.seq #[] 0), #[]⟩
noncomputable def o305 (P : Params) : Obj := ⟨.none, none, (.func ⟨(S "shifted_by"), (S "shifted_by"), (fA 39), (.stmts (fB 39)), (fS 39), 0, [], .none, .none, .none, .none, none, .none, .none, 0⟩), #[]⟩
noncomputable def o306 (P : Params) : Obj := ⟨(.type "code"), none, (.fields #[(.str (S "shifted_by") 587), (.str (S "shifted_by") 588), (.str (S "/claim/cut.py") 589), (.int 204 0), (.int 4 0), (.int 0 0), (.int 0 0), (.int 3 0), (.ref 301), (.bool true), (.int 181 0), (.ref 302), .none, (.ref 303), (.ref 304), (.ref 305), (.int 594 0), (.int 204 0), (.str (S "/claim/cut.py") 595)]), #[]⟩
noncomputable def o307 (P : Params) : Obj := ⟨(.type "function"), none, (.func ⟨(S "shifted_by"), (S "shifted_by"), (fA 39), (.stmts (fB 39)), (fS 39), 3, [], .none, .none, .none, (.str (S "ringgate.x86machine") 460), none, (.ref 306), .none, 0⟩), #[]⟩
noncomputable def o308 (P : Params) : Obj := ⟨(.type "tuple"), none, (.seq #[] 0), #[]⟩
noncomputable def o309 (P : Params) : Obj := ⟨.none, none, (.fields #[]), #[]⟩
noncomputable def o310 (P : Params) : Obj := ⟨(.type "tuple"), none, (.seq #[(.str (S "high") 600), (.str (S "low") 601), (.str (S "other") 602), (.str (S "size") 603), (.str (S "whole") 604)] 0), #[]⟩
noncomputable def o311 (P : Params) : Obj := ⟨(.type "tuple"), none, (.seq #[] 0), #[]⟩
noncomputable def o312 (P : Params) : Obj := ⟨.none, none, (.func ⟨(S "divided_by"), (S "divided_by"), (fA 40), (.stmts (fB 40)), (fS 40), 0, [], .none, .none, .none, .none, none, .none, .none, 0⟩), #[]⟩
noncomputable def o313 (P : Params) : Obj := ⟨(.type "code"), none, (.fields #[(.str (S "divided_by") 597), (.str (S "divided_by") 598), (.str (S "/claim/cut.py") 599), (.int 210 0), (.int 4 0), (.int 0 0), (.int 0 0), (.int 3 0), (.ref 308), (.bool true), (.int 181 0), (.ref 309), .none, (.ref 310), (.ref 311), (.ref 312), (.int 605 0), (.int 210 0), (.str (S "/claim/cut.py") 606)]), #[]⟩
noncomputable def o314 (P : Params) : Obj := ⟨(.type "function"), none, (.func ⟨(S "divided_by"), (S "divided_by"), (fA 40), (.stmts (fB 40)), (fS 40), 3, [], .none, .none, .none, (.str (S "ringgate.x86machine") 460), none, (.ref 313), .none, 0⟩), #[]⟩
noncomputable def o315 (P : Params) : Obj := ⟨(.type "tuple"), none, (.seq #[] 0), #[]⟩
noncomputable def o316 (P : Params) : Obj := ⟨.none, none, (.fields #[]), #[]⟩
noncomputable def o317 (P : Params) : Obj := ⟨(.type "tuple"), none, (.seq #[(.str (S "high") 611), (.str (S "low") 612), (.str (S "other") 613), (.str (S "size") 614), (.str (S "whole") 615), (.str (S "below") 616), (.str (S "above") 617), (.str (S "found") 618)] 0), #[]⟩
noncomputable def o318 (P : Params) : Obj := ⟨(.type "tuple"), none, (.seq #[] 0), #[]⟩
noncomputable def o319 (P : Params) : Obj := ⟨.none, none, (.func ⟨(S "signed_divided_by"), (S "signed_divided_by"), (fA 41), (.stmts (fB 41)), (fS 41), 0, [], .none, .none, .none, .none, none, .none, .none, 0⟩), #[]⟩
noncomputable def o320 (P : Params) : Obj := ⟨(.type "code"), none, (.fields #[(.str (S "signed_divided_by") 608), (.str (S "signed_divided_by") 609), (.str (S "/claim/cut.py") 610), (.int 215 0), (.int 4 0), (.int 0 0), (.int 0 0), (.int 3 0), (.ref 315), (.bool true), (.int 181 0), (.ref 316), .none, (.ref 317), (.ref 318), (.ref 319), (.int 619 0), (.int 215 0), (.str (S "/claim/cut.py") 620)]), #[]⟩
noncomputable def o321 (P : Params) : Obj := ⟨(.type "function"), none, (.func ⟨(S "signed_divided_by"), (S "signed_divided_by"), (fA 41), (.stmts (fB 41)), (fS 41), 3, [], .none, .none, .none, (.str (S "ringgate.x86machine") 460), none, (.ref 320), .none, 0⟩), #[]⟩
noncomputable def o322 (P : Params) : Obj := ⟨(.type "tuple"), none, (.seq #[] 0), #[]⟩
noncomputable def o323 (P : Params) : Obj := ⟨.none, none, (.fields #[]), #[]⟩
noncomputable def o324 (P : Params) : Obj := ⟨(.type "tuple"), none, (.seq #[(.str (S "worth") 625), (.str (S "count") 626), (.str (S "found") 627), (.str (S "at") 628)] 0), #[]⟩
noncomputable def o325 (P : Params) : Obj := ⟨(.type "tuple"), none, (.seq #[] 0), #[]⟩
noncomputable def o326 (P : Params) : Obj := ⟨.none, none, (.func ⟨(S "octets_turned"), (S "octets_turned"), (fA 42), (.stmts (fB 42)), (fS 42), 0, [], .none, .none, .none, .none, none, .none, .none, 0⟩), #[]⟩
noncomputable def o327 (P : Params) : Obj := ⟨(.type "code"), none, (.fields #[(.str (S "octets_turned") 622), (.str (S "octets_turned") 623), (.str (S "/claim/cut.py") 624), (.int 224 0), (.int 2 0), (.int 0 0), (.int 0 0), (.int 3 0), (.ref 322), (.bool true), (.int 181 0), (.ref 323), .none, (.ref 324), (.ref 325), (.ref 326), (.int 629 0), (.int 224 0), (.str (S "/claim/cut.py") 630)]), #[]⟩
noncomputable def o328 (P : Params) : Obj := ⟨(.type "function"), none, (.func ⟨(S "octets_turned"), (S "octets_turned"), (fA 42), (.stmts (fB 42)), (fS 42), 3, [], .none, .none, .none, (.str (S "ringgate.x86machine") 460), none, (.ref 327), .none, 0⟩), #[]⟩
noncomputable def t_p42 (P : Params) : BT := (.node (boot_o_0 P) (.node (boot_o_1 P) (.node (o3v6 P) (.node (boot_o_7 P) (.node (o15 P) (.node (o31 P) (.node (o63 P) (.node (o127 P) (.node (o255 P) .nil .nil) .nil) (.node (o191 P) (.node (o319 P) .nil .nil) .nil)) (.node (o95 P) (.node (o159 P) (.node (o287 P) .nil .nil) .nil) (.node (o223 P) .nil .nil))) (.node (o47 P) (.node (o79 P) (.node (o143 P) (.node (o271 P) .nil .nil) .nil) (.node (o207 P) .nil .nil)) (.node (o111 P) (.node (o175 P) (.node (o303 P) .nil .nil) .nil) (.node (o239 P) .nil .nil)))) (.node (o23 P) (.node (o39 P) (.node (o71 P) (.node (o135 P) (.node (o263 P) .nil .nil) .nil) (.node (o199 P) (.node (o327 P) .nil .nil) .nil)) (.node (o103 P) (.node (o167 P) (.node (o295 P) .nil .nil) .nil) (.node (o231 P) .nil .nil))) (.node (o55 P) (.node (o87 P) (.node (o151 P) (.node (o279 P) .nil .nil) .nil) (.node (o215 P) .nil .nil)) (.node (o119 P) (.node (o183 P) (.node (o311 P) .nil .nil) .nil) (.node (o247 P) .nil .nil))))) (.node (o11 P) (.node (o19 P) (.node (o35 P) (.node (o67 P) (.node (o131 P) (.node (o259 P) .nil .nil) .nil) (.node (o195 P) (.node (o323 P) .nil .nil) .nil)) (.node (o99 P) (.node (o163 P) (.node (o291 P) .nil .nil) .nil) (.node (o227 P) .nil .nil))) (.node (o51 P) (.node (o83 P) (.node (o147 P) (.node (o275 P) .nil .nil) .nil) (.node (o211 P) .nil .nil)) (.node (o115 P) (.node (o179 P) (.node (o307 P) .nil .nil) .nil) (.node (o243 P) .nil .nil)))) (.node (o27 P) (.node (o43 P) (.node (o75 P) (.node (o139 P) (.node (o267 P) .nil .nil) .nil) (.node (o203 P) .nil .nil)) (.node (o107 P) (.node (o171 P) (.node (o299 P) .nil .nil) .nil) (.node (o235 P) .nil .nil))) (.node (o59 P) (.node (o91 P) (.node (o155 P) (.node (o283 P) .nil .nil) .nil) (.node (o219 P) .nil .nil)) (.node (o123 P) (.node (o187 P) (.node (o315 P) .nil .nil) .nil) (.node (o251 P) .nil .nil)))))) (.node (boot_o_5 P) (.node (boot_o_9 P) (.node (o17 P) (.node (o33 P) (.node (o65 P) (.node (o129 P) (.node (o257 P) .nil .nil) .nil) (.node (o193 P) (.node (o321 P) .nil .nil) .nil)) (.node (o97 P) (.node (o161 P) (.node (o289 P) .nil .nil) .nil) (.node (o225 P) .nil .nil))) (.node (o49 P) (.node (o81 P) (.node (o145 P) (.node (o273 P) .nil .nil) .nil) (.node (o209 P) .nil .nil)) (.node (o113 P) (.node (o177 P) (.node (o305 P) .nil .nil) .nil) (.node (o241 P) .nil .nil)))) (.node (o25 P) (.node (o41 P) (.node (o73 P) (.node (o137 P) (.node (o265 P) .nil .nil) .nil) (.node (o201 P) .nil .nil)) (.node (o105 P) (.node (o169 P) (.node (o297 P) .nil .nil) .nil) (.node (o233 P) .nil .nil))) (.node (o57 P) (.node (o89 P) (.node (o153 P) (.node (o281 P) .nil .nil) .nil) (.node (o217 P) .nil .nil)) (.node (o121 P) (.node (o185 P) (.node (o313 P) .nil .nil) .nil) (.node (o249 P) .nil .nil))))) (.node (o13 P) (.node (o21 P) (.node (o37 P) (.node (o69 P) (.node (o133 P) (.node (o261 P) .nil .nil) .nil) (.node (o197 P) (.node (o325 P) .nil .nil) .nil)) (.node (o101 P) (.node (o165 P) (.node (o293 P) .nil .nil) .nil) (.node (o229 P) .nil .nil))) (.node (o53 P) (.node (o85 P) (.node (o149 P) (.node (o277 P) .nil .nil) .nil) (.node (o213 P) .nil .nil)) (.node (o117 P) (.node (o181 P) (.node (o309 P) .nil .nil) .nil) (.node (o245 P) .nil .nil)))) (.node (o29 P) (.node (o45 P) (.node (o77 P) (.node (o141 P) (.node (o269 P) .nil .nil) .nil) (.node (o205 P) .nil .nil)) (.node (o109 P) (.node (o173 P) (.node (o301 P) .nil .nil) .nil) (.node (o237 P) .nil .nil))) (.node (o61 P) (.node (o93 P) (.node (o157 P) (.node (o285 P) .nil .nil) .nil) (.node (o221 P) .nil .nil)) (.node (o125 P) (.node (o189 P) (.node (o317 P) .nil .nil) .nil) (.node (o253 P) .nil .nil))))))) (.node (o2 P) (.node (boot_o_4 P) (.node (boot_o_8 P) (.node (o16 P) (.node (o32 P) (.node (o64 P) (.node (o128 P) (.node (o256 P) .nil .nil) .nil) (.node (o192 P) (.node (o320 P) .nil .nil) .nil)) (.node (o96 P) (.node (o160 P) (.node (o288 P) .nil .nil) .nil) (.node (o224 P) .nil .nil))) (.node (o48 P) (.node (o80 P) (.node (o144 P) (.node (o272 P) .nil .nil) .nil) (.node (o208 P) .nil .nil)) (.node (o112 P) (.node (o176 P) (.node (o304 P) .nil .nil) .nil) (.node (o240 P) .nil .nil)))) (.node (o24 P) (.node (o40 P) (.node (o72 P) (.node (o136 P) (.node (o264 P) .nil .nil) .nil) (.node (o200 P) (.node (o328 P) .nil .nil) .nil)) (.node (o104 P) (.node (o168 P) (.node (o296 P) .nil .nil) .nil) (.node (o232 P) .nil .nil))) (.node (o56 P) (.node (o88 P) (.node (o152 P) (.node (o280 P) .nil .nil) .nil) (.node (o216 P) .nil .nil)) (.node (o120 P) (.node (o184 P) (.node (o312 P) .nil .nil) .nil) (.node (o248 P) .nil .nil))))) (.node (o12v7 P) (.node (o20 P) (.node (o36 P) (.node (o68 P) (.node (o132 P) (.node (o260 P) .nil .nil) .nil) (.node (o196 P) (.node (o324 P) .nil .nil) .nil)) (.node (o100 P) (.node (o164 P) (.node (o292 P) .nil .nil) .nil) (.node (o228 P) .nil .nil))) (.node (o52 P) (.node (o84 P) (.node (o148 P) (.node (o276 P) .nil .nil) .nil) (.node (o212 P) .nil .nil)) (.node (o116 P) (.node (o180 P) (.node (o308 P) .nil .nil) .nil) (.node (o244 P) .nil .nil)))) (.node (o28 P) (.node (o44 P) (.node (o76 P) (.node (o140 P) (.node (o268 P) .nil .nil) .nil) (.node (o204 P) .nil .nil)) (.node (o108 P) (.node (o172 P) (.node (o300 P) .nil .nil) .nil) (.node (o236 P) .nil .nil))) (.node (o60 P) (.node (o92 P) (.node (o156 P) (.node (o284 P) .nil .nil) .nil) (.node (o220 P) .nil .nil)) (.node (o124 P) (.node (o188 P) (.node (o316 P) .nil .nil) .nil) (.node (o252 P) .nil .nil)))))) (.node (boot_o_6 P) (.node (boot_o_10 P) (.node (o18 P) (.node (o34 P) (.node (o66 P) (.node (o130 P) (.node (o258 P) .nil .nil) .nil) (.node (o194 P) (.node (o322 P) .nil .nil) .nil)) (.node (o98 P) (.node (o162 P) (.node (o290 P) .nil .nil) .nil) (.node (o226 P) .nil .nil))) (.node (o50 P) (.node (o82 P) (.node (o146 P) (.node (o274 P) .nil .nil) .nil) (.node (o210 P) .nil .nil)) (.node (o114 P) (.node (o178 P) (.node (o306 P) .nil .nil) .nil) (.node (o242 P) .nil .nil)))) (.node (o26 P) (.node (o42 P) (.node (o74 P) (.node (o138 P) (.node (o266 P) .nil .nil) .nil) (.node (o202 P) .nil .nil)) (.node (o106 P) (.node (o170 P) (.node (o298 P) .nil .nil) .nil) (.node (o234 P) .nil .nil))) (.node (o58 P) (.node (o90 P) (.node (o154 P) (.node (o282 P) .nil .nil) .nil) (.node (o218 P) .nil .nil)) (.node (o122 P) (.node (o186 P) (.node (o314 P) .nil .nil) .nil) (.node (o250 P) .nil .nil))))) (.node (o14 P) (.node (o22 P) (.node (o38 P) (.node (o70 P) (.node (o134 P) (.node (o262 P) .nil .nil) .nil) (.node (o198 P) (.node (o326 P) .nil .nil) .nil)) (.node (o102 P) (.node (o166 P) (.node (o294 P) .nil .nil) .nil) (.node (o230 P) .nil .nil))) (.node (o54 P) (.node (o86 P) (.node (o150 P) (.node (o278 P) .nil .nil) .nil) (.node (o214 P) .nil .nil)) (.node (o118 P) (.node (o182 P) (.node (o310 P) .nil .nil) .nil) (.node (o246 P) .nil .nil)))) (.node (o30 P) (.node (o46v2 P) (.node (o78 P) (.node (o142 P) (.node (o270 P) .nil .nil) .nil) (.node (o206 P) .nil .nil)) (.node (o110 P) (.node (o174 P) (.node (o302 P) .nil .nil) .nil) (.node (o238 P) .nil .nil))) (.node (o62 P) (.node (o94 P) (.node (o158 P) (.node (o286 P) .nil .nil) .nil) (.node (o222 P) .nil .nil)) (.node (o126 P) (.node (o190 P) (.node (o318 P) .nil .nil) .nil) (.node (o254 P) .nil .nil))))))))
noncomputable def o3v7 (P : Params) : Obj := ⟨(.type "dict"), none, (.dict #[⟨(K P (S "__name__")), (.str (S "__name__") 165), (.str (S "ringgate.x86machine") 460)⟩, ⟨(K P (S "__doc__")), (.str (S "__doc__") 166), .none⟩, ⟨(K P (S "__package__")), (.str (S "__package__") 167), .none⟩, ⟨(K P (S "__loader__")), (.str (S "__loader__") 168), (.builtin "__main__.__loader__#opaque")⟩, ⟨(K P (S "__spec__")), (.str (S "__spec__") 169), .none⟩, ⟨(K P (S "__annotations__")), (.str (S "__annotations__") 170), (.ref 6)⟩, ⟨(K P (S "__builtins__")), (.str (S "__builtins__") 171), (.ref 4)⟩, ⟨(K P (S "__file__")), (.str (S "__file__") 173), (.str (S "/claim/cut.py") 172)⟩, ⟨(K P (S "__cached__")), (.str (S "__cached__") 174), .none⟩, ⟨(K P (S "_wall")), (.str (S "_wall") 193), (.ref 21)⟩, ⟨(K P (S "U64")), (.str (S "U64") 197), (.int 18446744073709551615 196)⟩, ⟨(K P (S "GateError")), (.str (S "GateError") 235), (.ref 46)⟩, ⟨(K P (S "Fault")), (.str (S "Fault") 251), (.ref 59)⟩, ⟨(K P (S "RowError")), (.str (S "RowError") 267), (.ref 71)⟩, ⟨(K P (S "wrap")), (.str (S "wrap") 276), (.ref 81)⟩, ⟨(K P (S "signed")), (.str (S "signed") 286), (.ref 89)⟩, ⟨(K P (S "fits_signed")), (.str (S "fits_signed") 294), (.ref 96)⟩, ⟨(K P (S "Outcome")), (.str (S "Outcome") 340), (.ref 120)⟩, ⟨(K P (S "RAX")), (.str (S "RAX") 344), (.int 0 343)⟩, ⟨(K P (S "RCX")), (.str (S "RCX") 346), (.int 1 345)⟩, ⟨(K P (S "RDX")), (.str (S "RDX") 348), (.int 2 347)⟩, ⟨(K P (S "RSP")), (.str (S "RSP") 350), (.int 4 349)⟩, ⟨(K P (S "MOST_LABEL")), (.str (S "MOST_LABEL") 352), (.int 1000000 351)⟩, ⟨(K P (S "Row")), (.str (S "Row") 390), (.ref 148)⟩, ⟨(K P (S "row_shapes")), (.str (S "row_shapes") 398), (.ref 159)⟩, ⟨(K P (S "conditions")), (.str (S "conditions") 404), (.ref 166)⟩, ⟨(K P (S "part_fits")), (.str (S "part_fits") 413), (.ref 173)⟩, ⟨(K P (S "check_row")), (.str (S "check_row") 424), (.ref 181)⟩, ⟨(K P (S "is_mark")), (.str (S "is_mark") 431), (.ref 188)⟩, ⟨(K P (S "goal_of")), (.str (S "goal_of") 438), (.ref 195)⟩, ⟨(K P (S "marks_of")), (.str (S "marks_of") 448), (.ref 202)⟩, ⟨(K P (S "check_rows")), (.str (S "check_rows") 459), (.ref 209)⟩, ⟨(K P (S "PILE_TOP")), (.str (S "PILE_TOP") 463), (.int 1879048192 462)⟩, ⟨(K P (S "DIVIDE")), (.str (S "DIVIDE") 465), (.str (S "divide error") 464)⟩, ⟨(K P (S "Flags")), (.str (S "Flags") 507), (.ref 233)⟩, ⟨(K P (S "unknown_flags")), (.str (S "unknown_flags") 513), (.ref 244)⟩, ⟨(K P (S "sign_bit")), (.str (S "sign_bit") 521), (.ref 251)⟩, ⟨(K P (S "logic_flags")), (.str (S "logic_flags") 529), (.ref 258)⟩, ⟨(K P (S "sum_flags")), (.str (S "sum_flags") 540), (.ref 265)⟩, ⟨(K P (S "difference_flags")), (.str (S "difference_flags") 551), (.ref 272)⟩, ⟨(K P (S "known")), (.str (S "known") 558), (.ref 279)⟩, ⟨(K P (S "unsigned_condition")), (.str (S "unsigned_condition") 566), (.ref 286)⟩, ⟨(K P (S "condition_holds")), (.str (S "condition_holds") 576), (.ref 293)⟩, ⟨(K P (S "two_sides")), (.str (S "two_sides") 586), (.ref 300)⟩, ⟨(K P (S "shifted_by")), (.str (S "shifted_by") 596), (.ref 307)⟩, ⟨(K P (S "divided_by")), (.str (S "divided_by") 607), (.ref 314)⟩, ⟨(K P (S "signed_divided_by")), (.str (S "signed_divided_by") 621), (.ref 321)⟩, ⟨(K P (S "octets_turned")), (.str (S "octets_turned") 631), (.ref 328)⟩, ⟨(K P (S "PlainRows")), (.str (S "PlainRows") 808), (.ref 445)⟩] 49), #[]⟩
noncomputable def o12v8 (P : Params) : Obj := ⟨.none, none, (.fields #[(.int 1 0), (.int 0 0), (.ref 20), (.int 6 0), (.int 0 0), (.ref 27), (.int 15 0), (.int 0 0), (.ref 55), (.int 17 0), (.int 0 0), (.ref 67), (.int 19 0), (.int 0 0), (.ref 80), (.int 21 0), (.int 0 0), (.ref 88), (.int 24 0), (.int 0 0), (.ref 95), (.int 27 0), (.int 0 0), (.ref 102), (.int 44 0), (.int 0 0), (.ref 130), (.int 52 0), (.int 0 0), (.ref 158), (.int 76 0), (.int 0 0), (.ref 165), (.int 78 0), (.int 0 0), (.ref 172), (.int 98 0), (.int 0 0), (.ref 180), (.int 110 0), (.int 0 0), (.ref 187), (.int 112 0), (.int 0 0), (.ref 194), (.int 120 0), (.int 0 0), (.ref 201), (.int 129 0), (.int 0 0), (.ref 208), (.int 140 0), (.int 0 0), (.ref 215), (.int 150 0), (.int 0 0), (.ref 243), (.int 152 0), (.int 0 0), (.ref 250), (.int 154 0), (.int 0 0), (.ref 257), (.int 156 0), (.int 0 0), (.ref 264), (.int 160 0), (.int 0 0), (.ref 271), (.int 164 0), (.int 0 0), (.ref 278), (.int 168 0), (.int 0 0), (.ref 285), (.int 182 0), (.int 0 0), (.ref 292), (.int 194 0), (.int 0 0), (.ref 299), (.int 204 0), (.int 0 0), (.ref 306), (.int 210 0), (.int 0 0), (.ref 313), (.int 215 0), (.int 0 0), (.ref 320), (.int 224 0), (.int 0 0), (.ref 327), (.int 229 0), (.int 0 0), (.ref 334)]), #[]⟩
noncomputable def o329 (P : Params) : Obj := ⟨(.type "tuple"), none, (.seq #[] 0), #[]⟩
noncomputable def o330 (P : Params) : Obj := ⟨(.type "builtin_function_or_method"), none, (.fields #[(.builtin "type.__prepare__"), (.type "type")]), #[]⟩
noncomputable def o331 (P : Params) : Obj := ⟨(.type "dict"), none, (.dict #[⟨(K P (S "__module__")), (.str (S "__module__") 639), (.str (S "ringgate.x86machine") 460)⟩, ⟨(K P (S "__qualname__")), (.str (S "__qualname__") 641), (.str (S "PlainRows") 640)⟩, ⟨(K P (S "__firstlineno__")), (.str (S "__firstlineno__") 643), (.int 229 642)⟩, ⟨(K P (S "__init__")), (.str (S "__init__") 652), (.ref 342)⟩, ⟨(K P (S "put")), (.str (S "put") 663), (.ref 350)⟩, ⟨(K P (S "take")), (.str (S "take") 673), (.ref 358)⟩, ⟨(K P (S "push")), (.str (S "push") 681), (.ref 365)⟩, ⟨(K P (S "pop")), (.str (S "pop") 689), (.ref 372)⟩, ⟨(K P (S "move_row")), (.str (S "move_row") 699), (.ref 379)⟩, ⟨(K P (S "two_sided_row")), (.str (S "two_sided_row") 712), (.ref 386)⟩, ⟨(K P (S "shift_row")), (.str (S "shift_row") 724), (.ref 393)⟩, ⟨(K P (S "division_row")), (.str (S "division_row") 737), (.ref 400)⟩, ⟨(K P (S "far_row")), (.str (S "far_row") 746), (.ref 407)⟩, ⟨(K P (S "host_call")), (.str (S "host_call") 754), (.ref 414)⟩, ⟨(K P (S "way_row")), (.str (S "way_row") 763), (.ref 421)⟩, ⟨(K P (S "do_row")), (.str (S "do_row") 774), (.ref 428)⟩, ⟨(K P (S "step")), (.str (S "step") 782), (.ref 435)⟩, ⟨(K P (S "run")), (.str (S "run") 791), (.ref 442)⟩, ⟨(K P (S "__static_attributes__")), (.str (S "__static_attributes__") 801), (.ref 443)⟩] 19), #[]⟩
noncomputable def o332 (P : Params) : Obj := ⟨(.type "tuple"), none, (.seq #[] 0), #[]⟩
noncomputable def o333 (P : Params) : Obj := ⟨.none, none, (.fields #[(.int 231 0), (.int 4 0), (.ref 341), (.int 243 0), (.int 4 0), (.ref 349), (.int 246 0), (.int 4 0), (.ref 357), (.int 249 0), (.int 4 0), (.ref 364), (.int 253 0), (.int 4 0), (.ref 371), (.int 260 0), (.int 4 0), (.ref 378), (.int 281 0), (.int 4 0), (.ref 385), (.int 292 0), (.int 4 0), (.ref 392), (.int 308 0), (.int 4 0), (.ref 399), (.int 321 0), (.int 4 0), (.ref 406), (.int 324 0), (.int 4 0), (.ref 413), (.int 327 0), (.int 4 0), (.ref 420), (.int 350 0), (.int 4 0), (.ref 427), (.int 362 0), (.int 4 0), (.ref 434), (.int 371 0), (.int 4 0), (.ref 441)]), #[]⟩
noncomputable def o334 (P : Params) : Obj := ⟨(.type "code"), none, (.fields #[(.str (S "PlainRows") 634), (.str (S "PlainRows") 635), (.str (S "/claim/cut.py") 636), (.int 229 0), (.int 0 0), (.int 0 0), (.int 0 0), (.int 0 0), (.ref 332), (.bool false), (.int 181 0), (.ref 333), .none, .none, .none, .none, (.int 637 0), (.int 229 0), (.str (S "/claim/cut.py") 638)]), #[]⟩
noncomputable def o335 (P : Params) : Obj := ⟨(.type "frame"), none, .plain, #[(some (.ref 334)), (some (.ref 3)), (some (.ref 331)), none, (some (.str (S "ringgate.x86machine") 460)), none, (some (.ref 0))]⟩
noncomputable def o336 (P : Params) : Obj := ⟨(.type "tuple"), none, (.seq #[] 0), #[]⟩
noncomputable def o337 (P : Params) : Obj := ⟨.none, none, (.fields #[]), #[]⟩
noncomputable def o338 (P : Params) : Obj := ⟨(.type "tuple"), none, (.seq #[(.str (S "self") 647), (.str (S "rows") 648), (.str (S "worth") 649)] 0), #[]⟩
noncomputable def o339 (P : Params) : Obj := ⟨(.type "tuple"), none, (.seq #[] 0), #[]⟩
noncomputable def o340 (P : Params) : Obj := ⟨.none, none, (.func ⟨(S "__init__"), (S "PlainRows.__init__"), (mA 43 0), (.stmts (mB 43 0)), (mS 43 0), 0, [], .none, .none, .none, .none, none, .none, .none, 0⟩), #[]⟩
noncomputable def o341 (P : Params) : Obj := ⟨(.type "code"), none, (.fields #[(.str (S "__init__") 644), (.str (S "PlainRows.__init__") 645), (.str (S "/claim/cut.py") 646), (.int 231 0), (.int 3 0), (.int 0 0), (.int 0 0), (.int 3 0), (.ref 336), (.bool true), (.int 181 0), (.ref 337), .none, (.ref 338), (.ref 339), (.ref 340), (.int 650 0), (.int 231 0), (.str (S "/claim/cut.py") 651)]), #[]⟩
noncomputable def o342 (P : Params) : Obj := ⟨(.type "function"), none, (.func ⟨(S "__init__"), (S "PlainRows.__init__"), (mA 43 0), (.stmts (mB 43 0)), (mS 43 0), 3, [], .none, .none, .none, (.str (S "ringgate.x86machine") 460), none, (.ref 341), .none, 0⟩), #[]⟩
noncomputable def o343 (P : Params) : Obj := ⟨(.type "tuple"), none, (.seq #[(.int 64 653)] 0), #[]⟩
noncomputable def o344 (P : Params) : Obj := ⟨(.type "tuple"), none, (.seq #[] 0), #[]⟩
noncomputable def o345 (P : Params) : Obj := ⟨.none, none, (.fields #[]), #[]⟩
noncomputable def o346 (P : Params) : Obj := ⟨(.type "tuple"), none, (.seq #[(.str (S "self") 657), (.str (S "number") 658), (.str (S "worth") 659), (.str (S "size") 660)] 0), #[]⟩
noncomputable def o347 (P : Params) : Obj := ⟨(.type "tuple"), none, (.seq #[] 0), #[]⟩
noncomputable def o348 (P : Params) : Obj := ⟨.none, none, (.func ⟨(S "put"), (S "PlainRows.put"), (mA 43 1), (.stmts (mB 43 1)), (mS 43 1), 0, [], .none, .none, .none, .none, none, .none, .none, 0⟩), #[]⟩
noncomputable def o349 (P : Params) : Obj := ⟨(.type "code"), none, (.fields #[(.str (S "put") 654), (.str (S "PlainRows.put") 655), (.str (S "/claim/cut.py") 656), (.int 243 0), (.int 4 0), (.int 0 0), (.int 0 0), (.int 3 0), (.ref 344), (.bool true), (.int 181 0), (.ref 345), .none, (.ref 346), (.ref 347), (.ref 348), (.int 661 0), (.int 243 0), (.str (S "/claim/cut.py") 662)]), #[]⟩
noncomputable def o350 (P : Params) : Obj := ⟨(.type "function"), none, (.func ⟨(S "put"), (S "PlainRows.put"), (mA 43 1), (.stmts (mB 43 1)), (mS 43 1), 3, [], (.ref 343), .none, .none, (.str (S "ringgate.x86machine") 460), none, (.ref 349), .none, 0⟩), #[]⟩
noncomputable def o351 (P : Params) : Obj := ⟨(.type "tuple"), none, (.seq #[(.int 64 664)] 0), #[]⟩
noncomputable def o352 (P : Params) : Obj := ⟨(.type "tuple"), none, (.seq #[] 0), #[]⟩
noncomputable def o353 (P : Params) : Obj := ⟨.none, none, (.fields #[]), #[]⟩
noncomputable def o354 (P : Params) : Obj := ⟨(.type "tuple"), none, (.seq #[(.str (S "self") 668), (.str (S "number") 669), (.str (S "size") 670)] 0), #[]⟩
noncomputable def o355 (P : Params) : Obj := ⟨(.type "tuple"), none, (.seq #[] 0), #[]⟩
noncomputable def o356 (P : Params) : Obj := ⟨.none, none, (.func ⟨(S "take"), (S "PlainRows.take"), (mA 43 2), (.stmts (mB 43 2)), (mS 43 2), 0, [], .none, .none, .none, .none, none, .none, .none, 0⟩), #[]⟩
noncomputable def o357 (P : Params) : Obj := ⟨(.type "code"), none, (.fields #[(.str (S "take") 665), (.str (S "PlainRows.take") 666), (.str (S "/claim/cut.py") 667), (.int 246 0), (.int 3 0), (.int 0 0), (.int 0 0), (.int 3 0), (.ref 352), (.bool true), (.int 181 0), (.ref 353), .none, (.ref 354), (.ref 355), (.ref 356), (.int 671 0), (.int 246 0), (.str (S "/claim/cut.py") 672)]), #[]⟩
noncomputable def o358 (P : Params) : Obj := ⟨(.type "function"), none, (.func ⟨(S "take"), (S "PlainRows.take"), (mA 43 2), (.stmts (mB 43 2)), (mS 43 2), 3, [], (.ref 351), .none, .none, (.str (S "ringgate.x86machine") 460), none, (.ref 357), .none, 0⟩), #[]⟩
noncomputable def o359 (P : Params) : Obj := ⟨(.type "tuple"), none, (.seq #[] 0), #[]⟩
noncomputable def o360 (P : Params) : Obj := ⟨.none, none, (.fields #[]), #[]⟩
noncomputable def o361 (P : Params) : Obj := ⟨(.type "tuple"), none, (.seq #[(.str (S "self") 677), (.str (S "worth") 678)] 0), #[]⟩
noncomputable def o362 (P : Params) : Obj := ⟨(.type "tuple"), none, (.seq #[] 0), #[]⟩
noncomputable def o363 (P : Params) : Obj := ⟨.none, none, (.func ⟨(S "push"), (S "PlainRows.push"), (mA 43 3), (.stmts (mB 43 3)), (mS 43 3), 0, [], .none, .none, .none, .none, none, .none, .none, 0⟩), #[]⟩
noncomputable def o364 (P : Params) : Obj := ⟨(.type "code"), none, (.fields #[(.str (S "push") 674), (.str (S "PlainRows.push") 675), (.str (S "/claim/cut.py") 676), (.int 249 0), (.int 2 0), (.int 0 0), (.int 0 0), (.int 3 0), (.ref 359), (.bool true), (.int 181 0), (.ref 360), .none, (.ref 361), (.ref 362), (.ref 363), (.int 679 0), (.int 249 0), (.str (S "/claim/cut.py") 680)]), #[]⟩
noncomputable def o365 (P : Params) : Obj := ⟨(.type "function"), none, (.func ⟨(S "push"), (S "PlainRows.push"), (mA 43 3), (.stmts (mB 43 3)), (mS 43 3), 3, [], .none, .none, .none, (.str (S "ringgate.x86machine") 460), none, (.ref 364), .none, 0⟩), #[]⟩
noncomputable def o366 (P : Params) : Obj := ⟨(.type "tuple"), none, (.seq #[] 0), #[]⟩
noncomputable def o367 (P : Params) : Obj := ⟨.none, none, (.fields #[]), #[]⟩
noncomputable def o368 (P : Params) : Obj := ⟨(.type "tuple"), none, (.seq #[(.str (S "self") 685), (.str (S "worth") 686)] 0), #[]⟩
noncomputable def o369 (P : Params) : Obj := ⟨(.type "tuple"), none, (.seq #[] 0), #[]⟩
noncomputable def o370 (P : Params) : Obj := ⟨.none, none, (.func ⟨(S "pop"), (S "PlainRows.pop"), (mA 43 4), (.stmts (mB 43 4)), (mS 43 4), 0, [], .none, .none, .none, .none, none, .none, .none, 0⟩), #[]⟩
noncomputable def o371 (P : Params) : Obj := ⟨(.type "code"), none, (.fields #[(.str (S "pop") 682), (.str (S "PlainRows.pop") 683), (.str (S "/claim/cut.py") 684), (.int 253 0), (.int 1 0), (.int 0 0), (.int 0 0), (.int 3 0), (.ref 366), (.bool true), (.int 181 0), (.ref 367), .none, (.ref 368), (.ref 369), (.ref 370), (.int 687 0), (.int 253 0), (.str (S "/claim/cut.py") 688)]), #[]⟩
noncomputable def o372 (P : Params) : Obj := ⟨(.type "function"), none, (.func ⟨(S "pop"), (S "PlainRows.pop"), (mA 43 4), (.stmts (mB 43 4)), (mS 43 4), 3, [], .none, .none, .none, (.str (S "ringgate.x86machine") 460), none, (.ref 371), .none, 0⟩), #[]⟩
noncomputable def o373 (P : Params) : Obj := ⟨(.type "tuple"), none, (.seq #[] 0), #[]⟩
noncomputable def o374 (P : Params) : Obj := ⟨.none, none, (.fields #[]), #[]⟩
noncomputable def o375 (P : Params) : Obj := ⟨(.type "tuple"), none, (.seq #[(.str (S "self") 693), (.str (S "name") 694), (.str (S "parts") 695), (.str (S "worth") 696)] 0), #[]⟩
noncomputable def o376 (P : Params) : Obj := ⟨(.type "tuple"), none, (.seq #[] 0), #[]⟩
noncomputable def o377 (P : Params) : Obj := ⟨.none, none, (.func ⟨(S "move_row"), (S "PlainRows.move_row"), (mA 43 5), (.stmts (mB 43 5)), (mS 43 5), 0, [], .none, .none, .none, .none, none, .none, .none, 0⟩), #[]⟩
noncomputable def o378 (P : Params) : Obj := ⟨(.type "code"), none, (.fields #[(.str (S "move_row") 690), (.str (S "PlainRows.move_row") 691), (.str (S "/claim/cut.py") 692), (.int 260 0), (.int 3 0), (.int 0 0), (.int 0 0), (.int 3 0), (.ref 373), (.bool true), (.int 181 0), (.ref 374), .none, (.ref 375), (.ref 376), (.ref 377), (.int 697 0), (.int 260 0), (.str (S "/claim/cut.py") 698)]), #[]⟩
noncomputable def o379 (P : Params) : Obj := ⟨(.type "function"), none, (.func ⟨(S "move_row"), (S "PlainRows.move_row"), (mA 43 5), (.stmts (mB 43 5)), (mS 43 5), 3, [], .none, .none, .none, (.str (S "ringgate.x86machine") 460), none, (.ref 378), .none, 0⟩), #[]⟩
noncomputable def o380 (P : Params) : Obj := ⟨(.type "tuple"), none, (.seq #[] 0), #[]⟩
noncomputable def o381 (P : Params) : Obj := ⟨.none, none, (.fields #[]), #[]⟩
noncomputable def o382 (P : Params) : Obj := ⟨(.type "tuple"), none, (.seq #[(.str (S "self") 703), (.str (S "name") 704), (.str (S "parts") 705), (.str (S "plain") 706), (.str (S "size") 707), (.str (S "other") 708), (.str (S "worth") 709)] 0), #[]⟩
noncomputable def o383 (P : Params) : Obj := ⟨(.type "tuple"), none, (.seq #[] 0), #[]⟩
noncomputable def o384 (P : Params) : Obj := ⟨.none, none, (.func ⟨(S "two_sided_row"), (S "PlainRows.two_sided_row"), (mA 43 6), (.stmts (mB 43 6)), (mS 43 6), 0, [], .none, .none, .none, .none, none, .none, .none, 0⟩), #[]⟩
noncomputable def o385 (P : Params) : Obj := ⟨(.type "code"), none, (.fields #[(.str (S "two_sided_row") 700), (.str (S "PlainRows.two_sided_row") 701), (.str (S "/claim/cut.py") 702), (.int 281 0), (.int 3 0), (.int 0 0), (.int 0 0), (.int 3 0), (.ref 380), (.bool true), (.int 181 0), (.ref 381), .none, (.ref 382), (.ref 383), (.ref 384), (.int 710 0), (.int 281 0), (.str (S "/claim/cut.py") 711)]), #[]⟩
noncomputable def o386 (P : Params) : Obj := ⟨(.type "function"), none, (.func ⟨(S "two_sided_row"), (S "PlainRows.two_sided_row"), (mA 43 6), (.stmts (mB 43 6)), (mS 43 6), 3, [], .none, .none, .none, (.str (S "ringgate.x86machine") 460), none, (.ref 385), .none, 0⟩), #[]⟩
noncomputable def o387 (P : Params) : Obj := ⟨(.type "tuple"), none, (.seq #[] 0), #[]⟩
noncomputable def o388 (P : Params) : Obj := ⟨.none, none, (.fields #[]), #[]⟩
noncomputable def o389 (P : Params) : Obj := ⟨(.type "tuple"), none, (.seq #[(.str (S "self") 716), (.str (S "name") 717), (.str (S "parts") 718), (.str (S "worth") 719), (.str (S "other") 720), (.str (S "count") 721)] 0), #[]⟩
noncomputable def o390 (P : Params) : Obj := ⟨(.type "tuple"), none, (.seq #[] 0), #[]⟩
noncomputable def o391 (P : Params) : Obj := ⟨.none, none, (.func ⟨(S "shift_row"), (S "PlainRows.shift_row"), (mA 43 7), (.stmts (mB 43 7)), (mS 43 7), 0, [], .none, .none, .none, .none, none, .none, .none, 0⟩), #[]⟩
noncomputable def o392 (P : Params) : Obj := ⟨(.type "code"), none, (.fields #[(.str (S "shift_row") 713), (.str (S "PlainRows.shift_row") 714), (.str (S "/claim/cut.py") 715), (.int 292 0), (.int 3 0), (.int 0 0), (.int 0 0), (.int 3 0), (.ref 387), (.bool true), (.int 181 0), (.ref 388), .none, (.ref 389), (.ref 390), (.ref 391), (.int 722 0), (.int 292 0), (.str (S "/claim/cut.py") 723)]), #[]⟩
noncomputable def o393 (P : Params) : Obj := ⟨(.type "function"), none, (.func ⟨(S "shift_row"), (S "PlainRows.shift_row"), (mA 43 7), (.stmts (mB 43 7)), (mS 43 7), 3, [], .none, .none, .none, (.str (S "ringgate.x86machine") 460), none, (.ref 392), .none, 0⟩), #[]⟩
noncomputable def o394 (P : Params) : Obj := ⟨(.type "tuple"), none, (.seq #[] 0), #[]⟩
noncomputable def o395 (P : Params) : Obj := ⟨.none, none, (.fields #[]), #[]⟩
noncomputable def o396 (P : Params) : Obj := ⟨(.type "tuple"), none, (.seq #[(.str (S "self") 728), (.str (S "name") 729), (.str (S "parts") 730), (.str (S "size") 731), (.str (S "deed") 732), (.str (S "found") 733), (.str (S "left") 734)] 0), #[]⟩
noncomputable def o397 (P : Params) : Obj := ⟨(.type "tuple"), none, (.seq #[] 0), #[]⟩
noncomputable def o398 (P : Params) : Obj := ⟨.none, none, (.func ⟨(S "division_row"), (S "PlainRows.division_row"), (mA 43 8), (.stmts (mB 43 8)), (mS 43 8), 0, [], .none, .none, .none, .none, none, .none, .none, 0⟩), #[]⟩
noncomputable def o399 (P : Params) : Obj := ⟨(.type "code"), none, (.fields #[(.str (S "division_row") 725), (.str (S "PlainRows.division_row") 726), (.str (S "/claim/cut.py") 727), (.int 308 0), (.int 3 0), (.int 0 0), (.int 0 0), (.int 3 0), (.ref 394), (.bool true), (.int 181 0), (.ref 395), .none, (.ref 396), (.ref 397), (.ref 398), (.int 735 0), (.int 308 0), (.str (S "/claim/cut.py") 736)]), #[]⟩
noncomputable def o400 (P : Params) : Obj := ⟨(.type "function"), none, (.func ⟨(S "division_row"), (S "PlainRows.division_row"), (mA 43 8), (.stmts (mB 43 8)), (mS 43 8), 3, [], .none, .none, .none, (.str (S "ringgate.x86machine") 460), none, (.ref 399), .none, 0⟩), #[]⟩
noncomputable def o401 (P : Params) : Obj := ⟨(.type "tuple"), none, (.seq #[] 0), #[]⟩
noncomputable def o402 (P : Params) : Obj := ⟨.none, none, (.fields #[]), #[]⟩
noncomputable def o403 (P : Params) : Obj := ⟨(.type "tuple"), none, (.seq #[(.str (S "self") 741), (.str (S "name") 742), (.str (S "parts") 743)] 0), #[]⟩
noncomputable def o404 (P : Params) : Obj := ⟨(.type "tuple"), none, (.seq #[] 0), #[]⟩
noncomputable def o405 (P : Params) : Obj := ⟨.none, none, (.func ⟨(S "far_row"), (S "PlainRows.far_row"), (mA 43 9), (.stmts (mB 43 9)), (mS 17 0), 0, [], .none, .none, .none, .none, none, .none, .none, 0⟩), #[]⟩
noncomputable def o406 (P : Params) : Obj := ⟨(.type "code"), none, (.fields #[(.str (S "far_row") 738), (.str (S "PlainRows.far_row") 739), (.str (S "/claim/cut.py") 740), (.int 321 0), (.int 3 0), (.int 0 0), (.int 0 0), (.int 3 0), (.ref 401), (.bool true), (.int 181 0), (.ref 402), .none, (.ref 403), (.ref 404), (.ref 405), (.int 744 0), (.int 321 0), (.str (S "/claim/cut.py") 745)]), #[]⟩
noncomputable def o407 (P : Params) : Obj := ⟨(.type "function"), none, (.func ⟨(S "far_row"), (S "PlainRows.far_row"), (mA 43 9), (.stmts (mB 43 9)), (mS 17 0), 3, [], .none, .none, .none, (.str (S "ringgate.x86machine") 460), none, (.ref 406), .none, 0⟩), #[]⟩
noncomputable def o408 (P : Params) : Obj := ⟨(.type "tuple"), none, (.seq #[] 0), #[]⟩
noncomputable def o409 (P : Params) : Obj := ⟨.none, none, (.fields #[]), #[]⟩
noncomputable def o410 (P : Params) : Obj := ⟨(.type "tuple"), none, (.seq #[(.str (S "self") 750), (.str (S "number") 751)] 0), #[]⟩
noncomputable def o411 (P : Params) : Obj := ⟨(.type "tuple"), none, (.seq #[] 0), #[]⟩
noncomputable def o412 (P : Params) : Obj := ⟨.none, none, (.func ⟨(S "host_call"), (S "PlainRows.host_call"), (mA 43 10), (.stmts (mB 43 10)), (mS 43 10), 0, [], .none, .none, .none, .none, none, .none, .none, 0⟩), #[]⟩
noncomputable def o413 (P : Params) : Obj := ⟨(.type "code"), none, (.fields #[(.str (S "host_call") 747), (.str (S "PlainRows.host_call") 748), (.str (S "/claim/cut.py") 749), (.int 324 0), (.int 2 0), (.int 0 0), (.int 0 0), (.int 3 0), (.ref 408), (.bool true), (.int 181 0), (.ref 409), .none, (.ref 410), (.ref 411), (.ref 412), (.int 752 0), (.int 324 0), (.str (S "/claim/cut.py") 753)]), #[]⟩
noncomputable def o414 (P : Params) : Obj := ⟨(.type "function"), none, (.func ⟨(S "host_call"), (S "PlainRows.host_call"), (mA 43 10), (.stmts (mB 43 10)), (mS 43 10), 3, [], .none, .none, .none, (.str (S "ringgate.x86machine") 460), none, (.ref 413), .none, 0⟩), #[]⟩
noncomputable def o415 (P : Params) : Obj := ⟨(.type "tuple"), none, (.seq #[] 0), #[]⟩
noncomputable def o416 (P : Params) : Obj := ⟨.none, none, (.fields #[]), #[]⟩
noncomputable def o417 (P : Params) : Obj := ⟨(.type "tuple"), none, (.seq #[(.str (S "self") 758), (.str (S "name") 759), (.str (S "parts") 760)] 0), #[]⟩
noncomputable def o418 (P : Params) : Obj := ⟨(.type "tuple"), none, (.seq #[] 0), #[]⟩
noncomputable def o419 (P : Params) : Obj := ⟨.none, none, (.func ⟨(S "way_row"), (S "PlainRows.way_row"), (mA 43 11), (.stmts (mB 43 11)), (mS 43 11), 0, [], .none, .none, .none, .none, none, .none, .none, 0⟩), #[]⟩
noncomputable def o420 (P : Params) : Obj := ⟨(.type "code"), none, (.fields #[(.str (S "way_row") 755), (.str (S "PlainRows.way_row") 756), (.str (S "/claim/cut.py") 757), (.int 327 0), (.int 3 0), (.int 0 0), (.int 0 0), (.int 3 0), (.ref 415), (.bool true), (.int 181 0), (.ref 416), .none, (.ref 417), (.ref 418), (.ref 419), (.int 761 0), (.int 327 0), (.str (S "/claim/cut.py") 762)]), #[]⟩
noncomputable def o421 (P : Params) : Obj := ⟨(.type "function"), none, (.func ⟨(S "way_row"), (S "PlainRows.way_row"), (mA 43 11), (.stmts (mB 43 11)), (mS 43 11), 3, [], .none, .none, .none, (.str (S "ringgate.x86machine") 460), none, (.ref 420), .none, 0⟩), #[]⟩
noncomputable def o422 (P : Params) : Obj := ⟨(.type "tuple"), none, (.seq #[] 0), #[]⟩
noncomputable def o423 (P : Params) : Obj := ⟨.none, none, (.fields #[]), #[]⟩
noncomputable def o424 (P : Params) : Obj := ⟨(.type "tuple"), none, (.seq #[(.str (S "self") 767), (.str (S "row") 768), (.str (S "name") 769), (.str (S "parts") 770), (.str (S "deed") 771)] 0), #[]⟩
noncomputable def o425 (P : Params) : Obj := ⟨(.type "tuple"), none, (.seq #[] 0), #[]⟩
noncomputable def o426 (P : Params) : Obj := ⟨.none, none, (.func ⟨(S "do_row"), (S "PlainRows.do_row"), (mA 43 12), (.stmts (mB 43 12)), (mS 43 12), 0, [], .none, .none, .none, .none, none, .none, .none, 0⟩), #[]⟩
noncomputable def o427 (P : Params) : Obj := ⟨(.type "code"), none, (.fields #[(.str (S "do_row") 764), (.str (S "PlainRows.do_row") 765), (.str (S "/claim/cut.py") 766), (.int 350 0), (.int 2 0), (.int 0 0), (.int 0 0), (.int 3 0), (.ref 422), (.bool true), (.int 181 0), (.ref 423), .none, (.ref 424), (.ref 425), (.ref 426), (.int 772 0), (.int 350 0), (.str (S "/claim/cut.py") 773)]), #[]⟩
noncomputable def o428 (P : Params) : Obj := ⟨(.type "function"), none, (.func ⟨(S "do_row"), (S "PlainRows.do_row"), (mA 43 12), (.stmts (mB 43 12)), (mS 43 12), 3, [], .none, .none, .none, (.str (S "ringgate.x86machine") 460), none, (.ref 427), .none, 0⟩), #[]⟩
noncomputable def o429 (P : Params) : Obj := ⟨(.type "tuple"), none, (.seq #[] 0), #[]⟩
noncomputable def o430 (P : Params) : Obj := ⟨.none, none, (.fields #[]), #[]⟩
noncomputable def o431 (P : Params) : Obj := ⟨(.type "tuple"), none, (.seq #[(.str (S "self") 778), (.str (S "row") 779)] 0), #[]⟩
noncomputable def o432 (P : Params) : Obj := ⟨(.type "tuple"), none, (.seq #[] 0), #[]⟩
noncomputable def o433 (P : Params) : Obj := ⟨.none, none, (.func ⟨(S "step"), (S "PlainRows.step"), (mA 43 13), (.stmts (mB 43 13)), (mS 43 13), 0, [], .none, .none, .none, .none, none, .none, .none, 0⟩), #[]⟩
noncomputable def o434 (P : Params) : Obj := ⟨(.type "code"), none, (.fields #[(.str (S "step") 775), (.str (S "PlainRows.step") 776), (.str (S "/claim/cut.py") 777), (.int 362 0), (.int 1 0), (.int 0 0), (.int 0 0), (.int 3 0), (.ref 429), (.bool true), (.int 181 0), (.ref 430), .none, (.ref 431), (.ref 432), (.ref 433), (.int 780 0), (.int 362 0), (.str (S "/claim/cut.py") 781)]), #[]⟩
noncomputable def o435 (P : Params) : Obj := ⟨(.type "function"), none, (.func ⟨(S "step"), (S "PlainRows.step"), (mA 43 13), (.stmts (mB 43 13)), (mS 43 13), 3, [], .none, .none, .none, (.str (S "ringgate.x86machine") 460), none, (.ref 434), .none, 0⟩), #[]⟩
noncomputable def o436 (P : Params) : Obj := ⟨(.type "tuple"), none, (.seq #[] 0), #[]⟩
noncomputable def o437 (P : Params) : Obj := ⟨.none, none, (.fields #[]), #[]⟩
noncomputable def o438 (P : Params) : Obj := ⟨(.type "tuple"), none, (.seq #[(.str (S "self") 786), (.str (S "most") 787), (.str (S "error") 788)] 0), #[]⟩
noncomputable def o439 (P : Params) : Obj := ⟨(.type "tuple"), none, (.seq #[] 0), #[]⟩
noncomputable def o440 (P : Params) : Obj := ⟨.none, none, (.func ⟨(S "run"), (S "PlainRows.run"), (mA 43 14), (.stmts (mB 43 14)), (mS 43 14), 0, [], .none, .none, .none, .none, none, .none, .none, 0⟩), #[]⟩
noncomputable def o441 (P : Params) : Obj := ⟨(.type "code"), none, (.fields #[(.str (S "run") 783), (.str (S "PlainRows.run") 784), (.str (S "/claim/cut.py") 785), (.int 371 0), (.int 2 0), (.int 0 0), (.int 0 0), (.int 3 0), (.ref 436), (.bool true), (.int 181 0), (.ref 437), .none, (.ref 438), (.ref 439), (.ref 440), (.int 789 0), (.int 371 0), (.str (S "/claim/cut.py") 790)]), #[]⟩
noncomputable def o442 (P : Params) : Obj := ⟨(.type "function"), none, (.func ⟨(S "run"), (S "PlainRows.run"), (mA 43 14), (.stmts (mB 43 14)), (mS 43 14), 3, [], .none, .none, .none, (.str (S "ringgate.x86machine") 460), none, (.ref 441), .none, 0⟩), #[]⟩
noncomputable def o443 (P : Params) : Obj := ⟨(.type "tuple"), none, (.seq #[(.str (S "at") 792), (.str (S "flags") 793), (.str (S "is_over") 794), (.str (S "marks") 795), (.str (S "order") 796), (.str (S "pile") 797), (.str (S "regs") 798), (.str (S "rows") 799), (.str (S "steps") 800)] 0), #[]⟩
noncomputable def o444 (P : Params) : Obj := ⟨(.type "dict"), none, (.dict #[⟨(K P (S "__module__")), (.str (S "__module__") 639), (.str (S "ringgate.x86machine") 460)⟩, ⟨(K P (S "__firstlineno__")), (.str (S "__firstlineno__") 643), (.int 229 642)⟩, ⟨(K P (S "__init__")), (.str (S "__init__") 652), (.ref 342)⟩, ⟨(K P (S "put")), (.str (S "put") 663), (.ref 350)⟩, ⟨(K P (S "take")), (.str (S "take") 673), (.ref 358)⟩, ⟨(K P (S "push")), (.str (S "push") 681), (.ref 365)⟩, ⟨(K P (S "pop")), (.str (S "pop") 689), (.ref 372)⟩, ⟨(K P (S "move_row")), (.str (S "move_row") 699), (.ref 379)⟩, ⟨(K P (S "two_sided_row")), (.str (S "two_sided_row") 712), (.ref 386)⟩, ⟨(K P (S "shift_row")), (.str (S "shift_row") 724), (.ref 393)⟩, ⟨(K P (S "division_row")), (.str (S "division_row") 737), (.ref 400)⟩, ⟨(K P (S "far_row")), (.str (S "far_row") 746), (.ref 407)⟩, ⟨(K P (S "host_call")), (.str (S "host_call") 754), (.ref 414)⟩, ⟨(K P (S "way_row")), (.str (S "way_row") 763), (.ref 421)⟩, ⟨(K P (S "do_row")), (.str (S "do_row") 774), (.ref 428)⟩, ⟨(K P (S "step")), (.str (S "step") 782), (.ref 435)⟩, ⟨(K P (S "run")), (.str (S "run") 791), (.ref 442)⟩, ⟨(K P (S "__static_attributes__")), (.str (S "__static_attributes__") 801), (.ref 443)⟩, ⟨(K P (S "__dict__")), (.str (S "__dict__") 803), (.ref 446)⟩, ⟨(K P (S "__weakref__")), (.str (S "__weakref__") 805), (.ref 447)⟩, ⟨(K P (S "__doc__")), (.str (S "__doc__") 806), .none⟩] 4), #[]⟩
noncomputable def o445 (P : Params) : Obj := ⟨(.type "type"), none, (.cls ⟨(S "PlainRows"), [(.type "object")], [(.ref 445), (.type "object")], 444, (S "PlainRows"), true, [], [], false, none, false⟩), #[none, none, (some (.str (S "PlainRows") 632)), (some (.str (S "PlainRows") 640)), (some (.builtin "object.__new__")), (some (.bool true))]⟩
noncomputable def o446 (P : Params) : Obj := ⟨(.type "getset_descriptor"), none, (.fields #[(.str (S "__dict__") 802), (.ref 445), (.builtin "function.__dict__"), (.builtin "function.__dict__#set")]), #[]⟩
noncomputable def o447 (P : Params) : Obj := ⟨(.type "getset_descriptor"), none, (.fields #[(.str (S "__weakref__") 804), (.ref 445), (.builtin "ExceptionGroup.__weakref__"), .none]), #[]⟩
noncomputable def o448 (P : Params) : Obj := ⟨(.type "super"), none, (.fields #[(.ref 445), (.ref 445), (.ref 445)]), #[]⟩
noncomputable def o449 (P : Params) : Obj := ⟨(.type "builtin_function_or_method"), none, (.fields #[(.builtin "object.__init_subclass__"), (.ref 445)]), #[]⟩
noncomputable def t_p43 (P : Params) : BT := (.node (boot_o_0 P) (.node (boot_o_1 P) (.node (o3v7 P) (.node (boot_o_7 P) (.node (o15 P) (.node (o31 P) (.node (o63 P) (.node (o127 P) (.node (o255 P) .nil .nil) (.node (o383 P) .nil .nil)) (.node (o191 P) (.node (o319 P) .nil .nil) (.node (o447 P) .nil .nil))) (.node (o95 P) (.node (o159 P) (.node (o287 P) .nil .nil) (.node (o415 P) .nil .nil)) (.node (o223 P) (.node (o351 P) .nil .nil) .nil))) (.node (o47 P) (.node (o79 P) (.node (o143 P) (.node (o271 P) .nil .nil) (.node (o399 P) .nil .nil)) (.node (o207 P) (.node (o335 P) .nil .nil) .nil)) (.node (o111 P) (.node (o175 P) (.node (o303 P) .nil .nil) (.node (o431 P) .nil .nil)) (.node (o239 P) (.node (o367 P) .nil .nil) .nil)))) (.node (o23 P) (.node (o39 P) (.node (o71 P) (.node (o135 P) (.node (o263 P) .nil .nil) (.node (o391 P) .nil .nil)) (.node (o199 P) (.node (o327 P) .nil .nil) .nil)) (.node (o103 P) (.node (o167 P) (.node (o295 P) .nil .nil) (.node (o423 P) .nil .nil)) (.node (o231 P) (.node (o359 P) .nil .nil) .nil))) (.node (o55 P) (.node (o87 P) (.node (o151 P) (.node (o279 P) .nil .nil) (.node (o407 P) .nil .nil)) (.node (o215 P) (.node (o343 P) .nil .nil) .nil)) (.node (o119 P) (.node (o183 P) (.node (o311 P) .nil .nil) (.node (o439 P) .nil .nil)) (.node (o247 P) (.node (o375 P) .nil .nil) .nil))))) (.node (o11 P) (.node (o19 P) (.node (o35 P) (.node (o67 P) (.node (o131 P) (.node (o259 P) .nil .nil) (.node (o387 P) .nil .nil)) (.node (o195 P) (.node (o323 P) .nil .nil) .nil)) (.node (o99 P) (.node (o163 P) (.node (o291 P) .nil .nil) (.node (o419 P) .nil .nil)) (.node (o227 P) (.node (o355 P) .nil .nil) .nil))) (.node (o51 P) (.node (o83 P) (.node (o147 P) (.node (o275 P) .nil .nil) (.node (o403 P) .nil .nil)) (.node (o211 P) (.node (o339 P) .nil .nil) .nil)) (.node (o115 P) (.node (o179 P) (.node (o307 P) .nil .nil) (.node (o435 P) .nil .nil)) (.node (o243 P) (.node (o371 P) .nil .nil) .nil)))) (.node (o27 P) (.node (o43 P) (.node (o75 P) (.node (o139 P) (.node (o267 P) .nil .nil) (.node (o395 P) .nil .nil)) (.node (o203 P) (.node (o331 P) .nil .nil) .nil)) (.node (o107 P) (.node (o171 P) (.node (o299 P) .nil .nil) (.node (o427 P) .nil .nil)) (.node (o235 P) (.node (o363 P) .nil .nil) .nil))) (.node (o59 P) (.node (o91 P) (.node (o155 P) (.node (o283 P) .nil .nil) (.node (o411 P) .nil .nil)) (.node (o219 P) (.node (o347 P) .nil .nil) .nil)) (.node (o123 P) (.node (o187 P) (.node (o315 P) .nil .nil) (.node (o443 P) .nil .nil)) (.node (o251 P) (.node (o379 P) .nil .nil) .nil)))))) (.node (boot_o_5 P) (.node (boot_o_9 P) (.node (o17 P) (.node (o33 P) (.node (o65 P) (.node (o129 P) (.node (o257 P) .nil .nil) (.node (o385 P) .nil .nil)) (.node (o193 P) (.node (o321 P) .nil .nil) (.node (o449 P) .nil .nil))) (.node (o97 P) (.node (o161 P) (.node (o289 P) .nil .nil) (.node (o417 P) .nil .nil)) (.node (o225 P) (.node (o353 P) .nil .nil) .nil))) (.node (o49 P) (.node (o81 P) (.node (o145 P) (.node (o273 P) .nil .nil) (.node (o401 P) .nil .nil)) (.node (o209 P) (.node (o337 P) .nil .nil) .nil)) (.node (o113 P) (.node (o177 P) (.node (o305 P) .nil .nil) (.node (o433 P) .nil .nil)) (.node (o241 P) (.node (o369 P) .nil .nil) .nil)))) (.node (o25 P) (.node (o41 P) (.node (o73 P) (.node (o137 P) (.node (o265 P) .nil .nil) (.node (o393 P) .nil .nil)) (.node (o201 P) (.node (o329 P) .nil .nil) .nil)) (.node (o105 P) (.node (o169 P) (.node (o297 P) .nil .nil) (.node (o425 P) .nil .nil)) (.node (o233 P) (.node (o361 P) .nil .nil) .nil))) (.node (o57 P) (.node (o89 P) (.node (o153 P) (.node (o281 P) .nil .nil) (.node (o409 P) .nil .nil)) (.node (o217 P) (.node (o345 P) .nil .nil) .nil)) (.node (o121 P) (.node (o185 P) (.node (o313 P) .nil .nil) (.node (o441 P) .nil .nil)) (.node (o249 P) (.node (o377 P) .nil .nil) .nil))))) (.node (o13 P) (.node (o21 P) (.node (o37 P) (.node (o69 P) (.node (o133 P) (.node (o261 P) .nil .nil) (.node (o389 P) .nil .nil)) (.node (o197 P) (.node (o325 P) .nil .nil) .nil)) (.node (o101 P) (.node (o165 P) (.node (o293 P) .nil .nil) (.node (o421 P) .nil .nil)) (.node (o229 P) (.node (o357 P) .nil .nil) .nil))) (.node (o53 P) (.node (o85 P) (.node (o149 P) (.node (o277 P) .nil .nil) (.node (o405 P) .nil .nil)) (.node (o213 P) (.node (o341 P) .nil .nil) .nil)) (.node (o117 P) (.node (o181 P) (.node (o309 P) .nil .nil) (.node (o437 P) .nil .nil)) (.node (o245 P) (.node (o373 P) .nil .nil) .nil)))) (.node (o29 P) (.node (o45 P) (.node (o77 P) (.node (o141 P) (.node (o269 P) .nil .nil) (.node (o397 P) .nil .nil)) (.node (o205 P) (.node (o333 P) .nil .nil) .nil)) (.node (o109 P) (.node (o173 P) (.node (o301 P) .nil .nil) (.node (o429 P) .nil .nil)) (.node (o237 P) (.node (o365 P) .nil .nil) .nil))) (.node (o61 P) (.node (o93 P) (.node (o157 P) (.node (o285 P) .nil .nil) (.node (o413 P) .nil .nil)) (.node (o221 P) (.node (o349 P) .nil .nil) .nil)) (.node (o125 P) (.node (o189 P) (.node (o317 P) .nil .nil) (.node (o445 P) .nil .nil)) (.node (o253 P) (.node (o381 P) .nil .nil) .nil))))))) (.node (o2 P) (.node (boot_o_4 P) (.node (boot_o_8 P) (.node (o16 P) (.node (o32 P) (.node (o64 P) (.node (o128 P) (.node (o256 P) .nil .nil) (.node (o384 P) .nil .nil)) (.node (o192 P) (.node (o320 P) .nil .nil) (.node (o448 P) .nil .nil))) (.node (o96 P) (.node (o160 P) (.node (o288 P) .nil .nil) (.node (o416 P) .nil .nil)) (.node (o224 P) (.node (o352 P) .nil .nil) .nil))) (.node (o48 P) (.node (o80 P) (.node (o144 P) (.node (o272 P) .nil .nil) (.node (o400 P) .nil .nil)) (.node (o208 P) (.node (o336 P) .nil .nil) .nil)) (.node (o112 P) (.node (o176 P) (.node (o304 P) .nil .nil) (.node (o432 P) .nil .nil)) (.node (o240 P) (.node (o368 P) .nil .nil) .nil)))) (.node (o24 P) (.node (o40 P) (.node (o72 P) (.node (o136 P) (.node (o264 P) .nil .nil) (.node (o392 P) .nil .nil)) (.node (o200 P) (.node (o328 P) .nil .nil) .nil)) (.node (o104 P) (.node (o168 P) (.node (o296 P) .nil .nil) (.node (o424 P) .nil .nil)) (.node (o232 P) (.node (o360 P) .nil .nil) .nil))) (.node (o56 P) (.node (o88 P) (.node (o152 P) (.node (o280 P) .nil .nil) (.node (o408 P) .nil .nil)) (.node (o216 P) (.node (o344 P) .nil .nil) .nil)) (.node (o120 P) (.node (o184 P) (.node (o312 P) .nil .nil) (.node (o440 P) .nil .nil)) (.node (o248 P) (.node (o376 P) .nil .nil) .nil))))) (.node (o12v8 P) (.node (o20 P) (.node (o36 P) (.node (o68 P) (.node (o132 P) (.node (o260 P) .nil .nil) (.node (o388 P) .nil .nil)) (.node (o196 P) (.node (o324 P) .nil .nil) .nil)) (.node (o100 P) (.node (o164 P) (.node (o292 P) .nil .nil) (.node (o420 P) .nil .nil)) (.node (o228 P) (.node (o356 P) .nil .nil) .nil))) (.node (o52 P) (.node (o84 P) (.node (o148 P) (.node (o276 P) .nil .nil) (.node (o404 P) .nil .nil)) (.node (o212 P) (.node (o340 P) .nil .nil) .nil)) (.node (o116 P) (.node (o180 P) (.node (o308 P) .nil .nil) (.node (o436 P) .nil .nil)) (.node (o244 P) (.node (o372 P) .nil .nil) .nil)))) (.node (o28 P) (.node (o44 P) (.node (o76 P) (.node (o140 P) (.node (o268 P) .nil .nil) (.node (o396 P) .nil .nil)) (.node (o204 P) (.node (o332 P) .nil .nil) .nil)) (.node (o108 P) (.node (o172 P) (.node (o300 P) .nil .nil) (.node (o428 P) .nil .nil)) (.node (o236 P) (.node (o364 P) .nil .nil) .nil))) (.node (o60 P) (.node (o92 P) (.node (o156 P) (.node (o284 P) .nil .nil) (.node (o412 P) .nil .nil)) (.node (o220 P) (.node (o348 P) .nil .nil) .nil)) (.node (o124 P) (.node (o188 P) (.node (o316 P) .nil .nil) (.node (o444 P) .nil .nil)) (.node (o252 P) (.node (o380 P) .nil .nil) .nil)))))) (.node (boot_o_6 P) (.node (boot_o_10 P) (.node (o18 P) (.node (o34 P) (.node (o66 P) (.node (o130 P) (.node (o258 P) .nil .nil) (.node (o386 P) .nil .nil)) (.node (o194 P) (.node (o322 P) .nil .nil) .nil)) (.node (o98 P) (.node (o162 P) (.node (o290 P) .nil .nil) (.node (o418 P) .nil .nil)) (.node (o226 P) (.node (o354 P) .nil .nil) .nil))) (.node (o50 P) (.node (o82 P) (.node (o146 P) (.node (o274 P) .nil .nil) (.node (o402 P) .nil .nil)) (.node (o210 P) (.node (o338 P) .nil .nil) .nil)) (.node (o114 P) (.node (o178 P) (.node (o306 P) .nil .nil) (.node (o434 P) .nil .nil)) (.node (o242 P) (.node (o370 P) .nil .nil) .nil)))) (.node (o26 P) (.node (o42 P) (.node (o74 P) (.node (o138 P) (.node (o266 P) .nil .nil) (.node (o394 P) .nil .nil)) (.node (o202 P) (.node (o330 P) .nil .nil) .nil)) (.node (o106 P) (.node (o170 P) (.node (o298 P) .nil .nil) (.node (o426 P) .nil .nil)) (.node (o234 P) (.node (o362 P) .nil .nil) .nil))) (.node (o58 P) (.node (o90 P) (.node (o154 P) (.node (o282 P) .nil .nil) (.node (o410 P) .nil .nil)) (.node (o218 P) (.node (o346 P) .nil .nil) .nil)) (.node (o122 P) (.node (o186 P) (.node (o314 P) .nil .nil) (.node (o442 P) .nil .nil)) (.node (o250 P) (.node (o378 P) .nil .nil) .nil))))) (.node (o14 P) (.node (o22 P) (.node (o38 P) (.node (o70 P) (.node (o134 P) (.node (o262 P) .nil .nil) (.node (o390 P) .nil .nil)) (.node (o198 P) (.node (o326 P) .nil .nil) .nil)) (.node (o102 P) (.node (o166 P) (.node (o294 P) .nil .nil) (.node (o422 P) .nil .nil)) (.node (o230 P) (.node (o358 P) .nil .nil) .nil))) (.node (o54 P) (.node (o86 P) (.node (o150 P) (.node (o278 P) .nil .nil) (.node (o406 P) .nil .nil)) (.node (o214 P) (.node (o342 P) .nil .nil) .nil)) (.node (o118 P) (.node (o182 P) (.node (o310 P) .nil .nil) (.node (o438 P) .nil .nil)) (.node (o246 P) (.node (o374 P) .nil .nil) .nil)))) (.node (o30 P) (.node (o46v2 P) (.node (o78 P) (.node (o142 P) (.node (o270 P) .nil .nil) (.node (o398 P) .nil .nil)) (.node (o206 P) (.node (o334 P) .nil .nil) .nil)) (.node (o110 P) (.node (o174 P) (.node (o302 P) .nil .nil) (.node (o430 P) .nil .nil)) (.node (o238 P) (.node (o366 P) .nil .nil) .nil))) (.node (o62 P) (.node (o94 P) (.node (o158 P) (.node (o286 P) .nil .nil) (.node (o414 P) .nil .nil)) (.node (o222 P) (.node (o350 P) .nil .nil) .nil)) (.node (o126 P) (.node (o190 P) (.node (o318 P) .nil .nil) (.node (o446 P) .nil .nil)) (.node (o254 P) (.node (o382 P) .nil .nil) .nil))))))))
noncomputable def o3v8 (P : Params) : Obj := ⟨(.type "dict"), none, (.dict #[⟨(K P (S "__name__")), (.str (S "__name__") 165), (.str (S "law_ok0167_01") 809)⟩, ⟨(K P (S "__doc__")), (.str (S "__doc__") 166), .none⟩, ⟨(K P (S "__package__")), (.str (S "__package__") 167), .none⟩, ⟨(K P (S "__loader__")), (.str (S "__loader__") 168), (.builtin "__main__.__loader__#opaque")⟩, ⟨(K P (S "__spec__")), (.str (S "__spec__") 169), .none⟩, ⟨(K P (S "__annotations__")), (.str (S "__annotations__") 170), (.ref 6)⟩, ⟨(K P (S "__builtins__")), (.str (S "__builtins__") 171), (.ref 4)⟩, ⟨(K P (S "__file__")), (.str (S "__file__") 173), (.str (S "/claim/cut.py") 172)⟩, ⟨(K P (S "__cached__")), (.str (S "__cached__") 174), .none⟩, ⟨(K P (S "_wall")), (.str (S "_wall") 193), (.ref 21)⟩, ⟨(K P (S "U64")), (.str (S "U64") 197), (.int 18446744073709551615 196)⟩, ⟨(K P (S "GateError")), (.str (S "GateError") 235), (.ref 46)⟩, ⟨(K P (S "Fault")), (.str (S "Fault") 251), (.ref 59)⟩, ⟨(K P (S "RowError")), (.str (S "RowError") 267), (.ref 71)⟩, ⟨(K P (S "wrap")), (.str (S "wrap") 276), (.ref 81)⟩, ⟨(K P (S "signed")), (.str (S "signed") 286), (.ref 89)⟩, ⟨(K P (S "fits_signed")), (.str (S "fits_signed") 294), (.ref 96)⟩, ⟨(K P (S "Outcome")), (.str (S "Outcome") 340), (.ref 120)⟩, ⟨(K P (S "RAX")), (.str (S "RAX") 344), (.int 0 343)⟩, ⟨(K P (S "RCX")), (.str (S "RCX") 346), (.int 1 345)⟩, ⟨(K P (S "RDX")), (.str (S "RDX") 348), (.int 2 347)⟩, ⟨(K P (S "RSP")), (.str (S "RSP") 350), (.int 4 349)⟩, ⟨(K P (S "MOST_LABEL")), (.str (S "MOST_LABEL") 352), (.int 1000000 351)⟩, ⟨(K P (S "Row")), (.str (S "Row") 390), (.ref 148)⟩, ⟨(K P (S "row_shapes")), (.str (S "row_shapes") 398), (.ref 159)⟩, ⟨(K P (S "conditions")), (.str (S "conditions") 404), (.ref 166)⟩, ⟨(K P (S "part_fits")), (.str (S "part_fits") 413), (.ref 173)⟩, ⟨(K P (S "check_row")), (.str (S "check_row") 424), (.ref 181)⟩, ⟨(K P (S "is_mark")), (.str (S "is_mark") 431), (.ref 188)⟩, ⟨(K P (S "goal_of")), (.str (S "goal_of") 438), (.ref 195)⟩, ⟨(K P (S "marks_of")), (.str (S "marks_of") 448), (.ref 202)⟩, ⟨(K P (S "check_rows")), (.str (S "check_rows") 459), (.ref 209)⟩, ⟨(K P (S "PILE_TOP")), (.str (S "PILE_TOP") 463), (.int 1879048192 462)⟩, ⟨(K P (S "DIVIDE")), (.str (S "DIVIDE") 465), (.str (S "divide error") 464)⟩, ⟨(K P (S "Flags")), (.str (S "Flags") 507), (.ref 233)⟩, ⟨(K P (S "unknown_flags")), (.str (S "unknown_flags") 513), (.ref 244)⟩, ⟨(K P (S "sign_bit")), (.str (S "sign_bit") 521), (.ref 251)⟩, ⟨(K P (S "logic_flags")), (.str (S "logic_flags") 529), (.ref 258)⟩, ⟨(K P (S "sum_flags")), (.str (S "sum_flags") 540), (.ref 265)⟩, ⟨(K P (S "difference_flags")), (.str (S "difference_flags") 551), (.ref 272)⟩, ⟨(K P (S "known")), (.str (S "known") 558), (.ref 279)⟩, ⟨(K P (S "unsigned_condition")), (.str (S "unsigned_condition") 566), (.ref 286)⟩, ⟨(K P (S "condition_holds")), (.str (S "condition_holds") 576), (.ref 293)⟩, ⟨(K P (S "two_sides")), (.str (S "two_sides") 586), (.ref 300)⟩, ⟨(K P (S "shifted_by")), (.str (S "shifted_by") 596), (.ref 307)⟩, ⟨(K P (S "divided_by")), (.str (S "divided_by") 607), (.ref 314)⟩, ⟨(K P (S "signed_divided_by")), (.str (S "signed_divided_by") 621), (.ref 321)⟩, ⟨(K P (S "octets_turned")), (.str (S "octets_turned") 631), (.ref 328)⟩, ⟨(K P (S "PlainRows")), (.str (S "PlainRows") 808), (.ref 445)⟩, ⟨(K P (S "_law_pen")), (.str (S "_law_pen") 816), (.ref 454)⟩, ⟨(K P (S "_law_draw")), (.str (S "_law_draw") 825), (.ref 461)⟩, ⟨(K P (S "_law_pick")), (.str (S "_law_pick") 833), (.ref 468)⟩, ⟨(K P (S "_law_half")), (.str (S "_law_half") 841), (.ref 475)⟩, ⟨(K P (S "_law_sign")), (.str (S "_law_sign") 850), (.ref 482)⟩, ⟨(K P (S "_law_whole")), (.str (S "_law_whole") 860), (.ref 489)⟩, ⟨(K P (S "_law_fits")), (.str (S "_law_fits") 873), (.ref 496)⟩, ⟨(K P (S "_law_direct")), (.str (S "_law_direct") 884), (.ref 503)⟩, ⟨(K P (S "_law_case_holds")), (.str (S "_law_case_holds") 908), (.ref 510)⟩, ⟨(K P (S "law")), (.str (S "law") 917), (.ref 517)⟩] 59), #[]⟩
noncomputable def o12v9 (P : Params) : Obj := ⟨.none, none, (.fields #[(.int 1 0), (.int 0 0), (.ref 20), (.int 6 0), (.int 0 0), (.ref 27), (.int 15 0), (.int 0 0), (.ref 55), (.int 17 0), (.int 0 0), (.ref 67), (.int 19 0), (.int 0 0), (.ref 80), (.int 21 0), (.int 0 0), (.ref 88), (.int 24 0), (.int 0 0), (.ref 95), (.int 27 0), (.int 0 0), (.ref 102), (.int 44 0), (.int 0 0), (.ref 130), (.int 52 0), (.int 0 0), (.ref 158), (.int 76 0), (.int 0 0), (.ref 165), (.int 78 0), (.int 0 0), (.ref 172), (.int 98 0), (.int 0 0), (.ref 180), (.int 110 0), (.int 0 0), (.ref 187), (.int 112 0), (.int 0 0), (.ref 194), (.int 120 0), (.int 0 0), (.ref 201), (.int 129 0), (.int 0 0), (.ref 208), (.int 140 0), (.int 0 0), (.ref 215), (.int 150 0), (.int 0 0), (.ref 243), (.int 152 0), (.int 0 0), (.ref 250), (.int 154 0), (.int 0 0), (.ref 257), (.int 156 0), (.int 0 0), (.ref 264), (.int 160 0), (.int 0 0), (.ref 271), (.int 164 0), (.int 0 0), (.ref 278), (.int 168 0), (.int 0 0), (.ref 285), (.int 182 0), (.int 0 0), (.ref 292), (.int 194 0), (.int 0 0), (.ref 299), (.int 204 0), (.int 0 0), (.ref 306), (.int 210 0), (.int 0 0), (.ref 313), (.int 215 0), (.int 0 0), (.ref 320), (.int 224 0), (.int 0 0), (.ref 327), (.int 229 0), (.int 0 0), (.ref 334), (.int 381 0), (.int 0 0), (.ref 453), (.int 383 0), (.int 0 0), (.ref 460), (.int 390 0), (.int 0 0), (.ref 467), (.int 392 0), (.int 0 0), (.ref 474), (.int 397 0), (.int 0 0), (.ref 481), (.int 400 0), (.int 0 0), (.ref 488), (.int 403 0), (.int 0 0), (.ref 495), (.int 411 0), (.int 0 0), (.ref 502), (.int 416 0), (.int 0 0), (.ref 509), (.int 450 0), (.int 0 0), (.ref 516)]), #[]⟩
noncomputable def o450 (P : Params) : Obj := ⟨(.type "tuple"), none, (.seq #[] 0), #[]⟩
noncomputable def o451 (P : Params) : Obj := ⟨.none, none, (.fields #[]), #[]⟩
noncomputable def o452 (P : Params) : Obj := ⟨.none, none, (.func ⟨(S "_law_pen"), (S "_law_pen"), (fA 45), (.stmts (fB 45)), (fS 45), 0, [], .none, .none, .none, .none, none, .none, .none, 0⟩), #[]⟩
noncomputable def o453 (P : Params) : Obj := ⟨(.type "code"), none, (.fields #[(.str (S "_law_pen") 811), (.str (S "_law_pen") 812), (.str (S "/claim/cut.py") 813), (.int 381 0), (.int 1 0), (.int 0 0), (.int 0 0), (.int 3 0), (.ref 450), (.bool true), (.int 181 0), (.ref 451), .none, .none, .none, (.ref 452), (.int 814 0), (.int 381 0), (.str (S "/claim/cut.py") 815)]), #[]⟩
noncomputable def o454 (P : Params) : Obj := ⟨(.type "function"), none, (.func ⟨(S "_law_pen"), (S "_law_pen"), (fA 45), (.stmts (fB 45)), (fS 45), 3, [], .none, .none, .none, (.str (S "law_ok0167_01") 809), none, (.ref 453), .none, 0⟩), #[]⟩
noncomputable def o455 (P : Params) : Obj := ⟨(.type "tuple"), none, (.seq #[] 0), #[]⟩
noncomputable def o456 (P : Params) : Obj := ⟨.none, none, (.fields #[]), #[]⟩
noncomputable def o457 (P : Params) : Obj := ⟨(.type "tuple"), none, (.seq #[(.str (S "pen") 820), (.str (S "many") 821), (.str (S "digit") 822)] 0), #[]⟩
noncomputable def o458 (P : Params) : Obj := ⟨(.type "tuple"), none, (.seq #[] 0), #[]⟩
noncomputable def o459 (P : Params) : Obj := ⟨.none, none, (.func ⟨(S "_law_draw"), (S "_law_draw"), (fA 46), (.stmts (fB 46)), (fS 46), 0, [], .none, .none, .none, .none, none, .none, .none, 0⟩), #[]⟩
noncomputable def o460 (P : Params) : Obj := ⟨(.type "code"), none, (.fields #[(.str (S "_law_draw") 817), (.str (S "_law_draw") 818), (.str (S "/claim/cut.py") 819), (.int 383 0), (.int 2 0), (.int 0 0), (.int 0 0), (.int 3 0), (.ref 455), (.bool true), (.int 181 0), (.ref 456), .none, (.ref 457), (.ref 458), (.ref 459), (.int 823 0), (.int 383 0), (.str (S "/claim/cut.py") 824)]), #[]⟩
noncomputable def o461 (P : Params) : Obj := ⟨(.type "function"), none, (.func ⟨(S "_law_draw"), (S "_law_draw"), (fA 46), (.stmts (fB 46)), (fS 46), 3, [], .none, .none, .none, (.str (S "law_ok0167_01") 809), none, (.ref 460), .none, 0⟩), #[]⟩
noncomputable def o462 (P : Params) : Obj := ⟨(.type "tuple"), none, (.seq #[] 0), #[]⟩
noncomputable def o463 (P : Params) : Obj := ⟨.none, none, (.fields #[]), #[]⟩
noncomputable def o464 (P : Params) : Obj := ⟨(.type "tuple"), none, (.seq #[(.str (S "pen") 829), (.str (S "some") 830)] 0), #[]⟩
noncomputable def o465 (P : Params) : Obj := ⟨(.type "tuple"), none, (.seq #[] 0), #[]⟩
noncomputable def o466 (P : Params) : Obj := ⟨.none, none, (.func ⟨(S "_law_pick"), (S "_law_pick"), (fA 47), (.stmts (fB 47)), (fS 47), 0, [], .none, .none, .none, .none, none, .none, .none, 0⟩), #[]⟩
noncomputable def o467 (P : Params) : Obj := ⟨(.type "code"), none, (.fields #[(.str (S "_law_pick") 826), (.str (S "_law_pick") 827), (.str (S "/claim/cut.py") 828), (.int 390 0), (.int 2 0), (.int 0 0), (.int 0 0), (.int 3 0), (.ref 462), (.bool true), (.int 181 0), (.ref 463), .none, (.ref 464), (.ref 465), (.ref 466), (.int 831 0), (.int 390 0), (.str (S "/claim/cut.py") 832)]), #[]⟩
noncomputable def o468 (P : Params) : Obj := ⟨(.type "function"), none, (.func ⟨(S "_law_pick"), (S "_law_pick"), (fA 47), (.stmts (fB 47)), (fS 47), 3, [], .none, .none, .none, (.str (S "law_ok0167_01") 809), none, (.ref 467), .none, 0⟩), #[]⟩
noncomputable def o469 (P : Params) : Obj := ⟨(.type "tuple"), none, (.seq #[] 0), #[]⟩
noncomputable def o470 (P : Params) : Obj := ⟨.none, none, (.fields #[]), #[]⟩
noncomputable def o471 (P : Params) : Obj := ⟨(.type "tuple"), none, (.seq #[(.str (S "pen") 837), (.str (S "way") 838)] 0), #[]⟩
noncomputable def o472 (P : Params) : Obj := ⟨(.type "tuple"), none, (.seq #[] 0), #[]⟩
noncomputable def o473 (P : Params) : Obj := ⟨.none, none, (.func ⟨(S "_law_half"), (S "_law_half"), (fA 48), (.stmts (fB 48)), (fS 48), 0, [], .none, .none, .none, .none, none, .none, .none, 0⟩), #[]⟩
noncomputable def o474 (P : Params) : Obj := ⟨(.type "code"), none, (.fields #[(.str (S "_law_half") 834), (.str (S "_law_half") 835), (.str (S "/claim/cut.py") 836), (.int 392 0), (.int 1 0), (.int 0 0), (.int 0 0), (.int 3 0), (.ref 469), (.bool true), (.int 181 0), (.ref 470), .none, (.ref 471), (.ref 472), (.ref 473), (.int 839 0), (.int 392 0), (.str (S "/claim/cut.py") 840)]), #[]⟩
noncomputable def o475 (P : Params) : Obj := ⟨(.type "function"), none, (.func ⟨(S "_law_half"), (S "_law_half"), (fA 48), (.stmts (fB 48)), (fS 48), 3, [], .none, .none, .none, (.str (S "law_ok0167_01") 809), none, (.ref 474), .none, 0⟩), #[]⟩
noncomputable def o476 (P : Params) : Obj := ⟨(.type "tuple"), none, (.seq #[] 0), #[]⟩
noncomputable def o477 (P : Params) : Obj := ⟨.none, none, (.fields #[]), #[]⟩
noncomputable def o478 (P : Params) : Obj := ⟨(.type "tuple"), none, (.seq #[(.str (S "worth") 845), (.str (S "size") 846), (.str (S "low") 847)] 0), #[]⟩
noncomputable def o479 (P : Params) : Obj := ⟨(.type "tuple"), none, (.seq #[] 0), #[]⟩
noncomputable def o480 (P : Params) : Obj := ⟨.none, none, (.func ⟨(S "_law_sign"), (S "_law_sign"), (fA 49), (.stmts (fB 49)), (fS 7), 0, [], .none, .none, .none, .none, none, .none, .none, 0⟩), #[]⟩
noncomputable def o481 (P : Params) : Obj := ⟨(.type "code"), none, (.fields #[(.str (S "_law_sign") 842), (.str (S "_law_sign") 843), (.str (S "/claim/cut.py") 844), (.int 397 0), (.int 2 0), (.int 0 0), (.int 0 0), (.int 3 0), (.ref 476), (.bool true), (.int 181 0), (.ref 477), .none, (.ref 478), (.ref 479), (.ref 480), (.int 848 0), (.int 397 0), (.str (S "/claim/cut.py") 849)]), #[]⟩
noncomputable def o482 (P : Params) : Obj := ⟨(.type "function"), none, (.func ⟨(S "_law_sign"), (S "_law_sign"), (fA 49), (.stmts (fB 49)), (fS 7), 3, [], .none, .none, .none, (.str (S "law_ok0167_01") 809), none, (.ref 481), .none, 0⟩), #[]⟩
noncomputable def o483 (P : Params) : Obj := ⟨(.type "tuple"), none, (.seq #[] 0), #[]⟩
noncomputable def o484 (P : Params) : Obj := ⟨.none, none, (.fields #[]), #[]⟩
noncomputable def o485 (P : Params) : Obj := ⟨(.type "tuple"), none, (.seq #[(.str (S "regs") 854), (.str (S "size") 855), (.str (S "is_signed") 856), (.str (S "whole") 857)] 0), #[]⟩
noncomputable def o486 (P : Params) : Obj := ⟨(.type "tuple"), none, (.seq #[] 0), #[]⟩
noncomputable def o487 (P : Params) : Obj := ⟨.none, none, (.func ⟨(S "_law_whole"), (S "_law_whole"), (fA 50), (.stmts (fB 50)), (fS 50), 0, [], .none, .none, .none, .none, none, .none, .none, 0⟩), #[]⟩
noncomputable def o488 (P : Params) : Obj := ⟨(.type "code"), none, (.fields #[(.str (S "_law_whole") 851), (.str (S "_law_whole") 852), (.str (S "/claim/cut.py") 853), (.int 400 0), (.int 3 0), (.int 0 0), (.int 0 0), (.int 3 0), (.ref 483), (.bool true), (.int 181 0), (.ref 484), .none, (.ref 485), (.ref 486), (.ref 487), (.int 858 0), (.int 400 0), (.str (S "/claim/cut.py") 859)]), #[]⟩
noncomputable def o489 (P : Params) : Obj := ⟨(.type "function"), none, (.func ⟨(S "_law_whole"), (S "_law_whole"), (fA 50), (.stmts (fB 50)), (fS 50), 3, [], .none, .none, .none, (.str (S "law_ok0167_01") 809), none, (.ref 488), .none, 0⟩), #[]⟩
noncomputable def o490 (P : Params) : Obj := ⟨(.type "tuple"), none, (.seq #[] 0), #[]⟩
noncomputable def o491 (P : Params) : Obj := ⟨.none, none, (.fields #[]), #[]⟩
noncomputable def o492 (P : Params) : Obj := ⟨(.type "tuple"), none, (.seq #[(.str (S "whole") 864), (.str (S "other") 865), (.str (S "size") 866), (.str (S "is_signed") 867), (.str (S "least") 868), (.str (S "greatest") 869), (.str (S "size_of") 870)] 0), #[]⟩
noncomputable def o493 (P : Params) : Obj := ⟨(.type "tuple"), none, (.seq #[] 0), #[]⟩
noncomputable def o494 (P : Params) : Obj := ⟨.none, none, (.func ⟨(S "_law_fits"), (S "_law_fits"), (fA 51), (.stmts (fB 51)), (fS 51), 0, [], .none, .none, .none, .none, none, .none, .none, 0⟩), #[]⟩
noncomputable def o495 (P : Params) : Obj := ⟨(.type "code"), none, (.fields #[(.str (S "_law_fits") 861), (.str (S "_law_fits") 862), (.str (S "/claim/cut.py") 863), (.int 403 0), (.int 4 0), (.int 0 0), (.int 0 0), (.int 3 0), (.ref 490), (.bool true), (.int 181 0), (.ref 491), .none, (.ref 492), (.ref 493), (.ref 494), (.int 871 0), (.int 403 0), (.str (S "/claim/cut.py") 872)]), #[]⟩
noncomputable def o496 (P : Params) : Obj := ⟨(.type "function"), none, (.func ⟨(S "_law_fits"), (S "_law_fits"), (fA 51), (.stmts (fB 51)), (fS 51), 3, [], .none, .none, .none, (.str (S "law_ok0167_01") 809), none, (.ref 495), .none, 0⟩), #[]⟩
noncomputable def o497 (P : Params) : Obj := ⟨(.type "tuple"), none, (.seq #[] 0), #[]⟩
noncomputable def o498 (P : Params) : Obj := ⟨.none, none, (.fields #[]), #[]⟩
noncomputable def o499 (P : Params) : Obj := ⟨(.type "tuple"), none, (.seq #[(.str (S "high") 877), (.str (S "low") 878), (.str (S "other") 879), (.str (S "size") 880), (.str (S "is_signed") 881)] 0), #[]⟩
noncomputable def o500 (P : Params) : Obj := ⟨(.type "tuple"), none, (.seq #[] 0), #[]⟩
noncomputable def o501 (P : Params) : Obj := ⟨.none, none, (.func ⟨(S "_law_direct"), (S "_law_direct"), (fA 52), (.stmts (fB 52)), (fS 52), 0, [], .none, .none, .none, .none, none, .none, .none, 0⟩), #[]⟩
noncomputable def o502 (P : Params) : Obj := ⟨(.type "code"), none, (.fields #[(.str (S "_law_direct") 874), (.str (S "_law_direct") 875), (.str (S "/claim/cut.py") 876), (.int 411 0), (.int 5 0), (.int 0 0), (.int 0 0), (.int 3 0), (.ref 497), (.bool true), (.int 181 0), (.ref 498), .none, (.ref 499), (.ref 500), (.ref 501), (.int 882 0), (.int 411 0), (.str (S "/claim/cut.py") 883)]), #[]⟩
noncomputable def o503 (P : Params) : Obj := ⟨(.type "function"), none, (.func ⟨(S "_law_direct"), (S "_law_direct"), (fA 52), (.stmts (fB 52)), (fS 52), 3, [], .none, .none, .none, (.str (S "law_ok0167_01") 809), none, (.ref 502), .none, 0⟩), #[]⟩
noncomputable def o504 (P : Params) : Obj := ⟨(.type "tuple"), none, (.seq #[] 0), #[]⟩
noncomputable def o505 (P : Params) : Obj := ⟨.none, none, (.fields #[]), #[]⟩
noncomputable def o506 (P : Params) : Obj := ⟨(.type "tuple"), none, (.seq #[(.str (S "pen") 888), (.str (S "size") 889), (.str (S "is_signed") 890), (.str (S "has_sign_row") 891), (.str (S "reg") 892), (.str (S "rows") 893), (.str (S "machine") 894), (.str (S "regs") 895), (.str (S "number") 896), (.str (S "held") 897), (.str (S "whole") 898), (.str (S "other") 899), (.str (S "end") 900), (.str (S "plainly") 901), (.str (S "is_known") 902), (.str (S "found") 903), (.str (S "rest") 904), (.str (S "due") 905)] 0), #[]⟩
noncomputable def o507 (P : Params) : Obj := ⟨(.type "tuple"), none, (.seq #[] 0), #[]⟩
noncomputable def o508 (P : Params) : Obj := ⟨.none, none, (.func ⟨(S "_law_case_holds"), (S "_law_case_holds"), (fA 53), (.stmts (fB 53)), (fS 53), 0, [], .none, .none, .none, .none, none, .none, .none, 0⟩), #[]⟩
noncomputable def o509 (P : Params) : Obj := ⟨(.type "code"), none, (.fields #[(.str (S "_law_case_holds") 885), (.str (S "_law_case_holds") 886), (.str (S "/claim/cut.py") 887), (.int 416 0), (.int 1 0), (.int 0 0), (.int 0 0), (.int 3 0), (.ref 504), (.bool true), (.int 181 0), (.ref 505), .none, (.ref 506), (.ref 507), (.ref 508), (.int 906 0), (.int 416 0), (.str (S "/claim/cut.py") 907)]), #[]⟩
noncomputable def o510 (P : Params) : Obj := ⟨(.type "function"), none, (.func ⟨(S "_law_case_holds"), (S "_law_case_holds"), (fA 53), (.stmts (fB 53)), (fS 53), 3, [], .none, .none, .none, (.str (S "law_ok0167_01") 809), none, (.ref 509), .none, 0⟩), #[]⟩
noncomputable def o511 (P : Params) : Obj := ⟨(.type "tuple"), none, (.seq #[] 0), #[]⟩
noncomputable def o512 (P : Params) : Obj := ⟨.none, none, (.fields #[]), #[]⟩
noncomputable def o513 (P : Params) : Obj := ⟨(.type "tuple"), none, (.seq #[(.str (S "script") 912), (.str (S "pen") 913), (.str (S "turn_no") 914)] 0), #[]⟩
noncomputable def o514 (P : Params) : Obj := ⟨(.type "tuple"), none, (.seq #[] 0), #[]⟩
noncomputable def o515 (P : Params) : Obj := ⟨.none, none, (.func ⟨(S "law"), (S "law"), (fA 54), (.stmts (fB 54)), (fS 54), 0, [], .none, .none, .none, .none, none, .none, .none, 0⟩), #[]⟩
noncomputable def o516 (P : Params) : Obj := ⟨(.type "code"), none, (.fields #[(.str (S "law") 909), (.str (S "law") 910), (.str (S "/claim/cut.py") 911), (.int 450 0), (.int 1 0), (.int 0 0), (.int 0 0), (.int 3 0), (.ref 511), (.bool true), (.int 181 0), (.ref 512), .none, (.ref 513), (.ref 514), (.ref 515), (.int 915 0), (.int 450 0), (.str (S "/claim/cut.py") 916)]), #[]⟩
noncomputable def o517 (P : Params) : Obj := ⟨(.type "function"), none, (.func ⟨(S "law"), (S "law"), (fA 54), (.stmts (fB 54)), (fS 54), 3, [], .none, .none, .none, (.str (S "law_ok0167_01") 809), none, (.ref 516), .none, 0⟩), #[]⟩
noncomputable def t_p54 (P : Params) : BT := (.node (boot_o_0 P) (.node (boot_o_1 P) (.node (o3v8 P) (.node (boot_o_7 P) (.node (o15 P) (.node (o31 P) (.node (o63 P) (.node (o127 P) (.node (o255 P) (.node (o511 P) .nil .nil) .nil) (.node (o383 P) .nil .nil)) (.node (o191 P) (.node (o319 P) .nil .nil) (.node (o447 P) .nil .nil))) (.node (o95 P) (.node (o159 P) (.node (o287 P) .nil .nil) (.node (o415 P) .nil .nil)) (.node (o223 P) (.node (o351 P) .nil .nil) (.node (o479 P) .nil .nil)))) (.node (o47 P) (.node (o79 P) (.node (o143 P) (.node (o271 P) .nil .nil) (.node (o399 P) .nil .nil)) (.node (o207 P) (.node (o335 P) .nil .nil) (.node (o463 P) .nil .nil))) (.node (o111 P) (.node (o175 P) (.node (o303 P) .nil .nil) (.node (o431 P) .nil .nil)) (.node (o239 P) (.node (o367 P) .nil .nil) (.node (o495 P) .nil .nil))))) (.node (o23 P) (.node (o39 P) (.node (o71 P) (.node (o135 P) (.node (o263 P) .nil .nil) (.node (o391 P) .nil .nil)) (.node (o199 P) (.node (o327 P) .nil .nil) (.node (o455 P) .nil .nil))) (.node (o103 P) (.node (o167 P) (.node (o295 P) .nil .nil) (.node (o423 P) .nil .nil)) (.node (o231 P) (.node (o359 P) .nil .nil) (.node (o487 P) .nil .nil)))) (.node (o55 P) (.node (o87 P) (.node (o151 P) (.node (o279 P) .nil .nil) (.node (o407 P) .nil .nil)) (.node (o215 P) (.node (o343 P) .nil .nil) (.node (o471 P) .nil .nil))) (.node (o119 P) (.node (o183 P) (.node (o311 P) .nil .nil) (.node (o439 P) .nil .nil)) (.node (o247 P) (.node (o375 P) .nil .nil) (.node (o503 P) .nil .nil)))))) (.node (o11 P) (.node (o19 P) (.node (o35 P) (.node (o67 P) (.node (o131 P) (.node (o259 P) (.node (o515 P) .nil .nil) .nil) (.node (o387 P) .nil .nil)) (.node (o195 P) (.node (o323 P) .nil .nil) (.node (o451 P) .nil .nil))) (.node (o99 P) (.node (o163 P) (.node (o291 P) .nil .nil) (.node (o419 P) .nil .nil)) (.node (o227 P) (.node (o355 P) .nil .nil) (.node (o483 P) .nil .nil)))) (.node (o51 P) (.node (o83 P) (.node (o147 P) (.node (o275 P) .nil .nil) (.node (o403 P) .nil .nil)) (.node (o211 P) (.node (o339 P) .nil .nil) (.node (o467 P) .nil .nil))) (.node (o115 P) (.node (o179 P) (.node (o307 P) .nil .nil) (.node (o435 P) .nil .nil)) (.node (o243 P) (.node (o371 P) .nil .nil) (.node (o499 P) .nil .nil))))) (.node (o27 P) (.node (o43 P) (.node (o75 P) (.node (o139 P) (.node (o267 P) .nil .nil) (.node (o395 P) .nil .nil)) (.node (o203 P) (.node (o331 P) .nil .nil) (.node (o459 P) .nil .nil))) (.node (o107 P) (.node (o171 P) (.node (o299 P) .nil .nil) (.node (o427 P) .nil .nil)) (.node (o235 P) (.node (o363 P) .nil .nil) (.node (o491 P) .nil .nil)))) (.node (o59 P) (.node (o91 P) (.node (o155 P) (.node (o283 P) .nil .nil) (.node (o411 P) .nil .nil)) (.node (o219 P) (.node (o347 P) .nil .nil) (.node (o475 P) .nil .nil))) (.node (o123 P) (.node (o187 P) (.node (o315 P) .nil .nil) (.node (o443 P) .nil .nil)) (.node (o251 P) (.node (o379 P) .nil .nil) (.node (o507 P) .nil .nil))))))) (.node (boot_o_5 P) (.node (boot_o_9 P) (.node (o17 P) (.node (o33 P) (.node (o65 P) (.node (o129 P) (.node (o257 P) (.node (o513 P) .nil .nil) .nil) (.node (o385 P) .nil .nil)) (.node (o193 P) (.node (o321 P) .nil .nil) (.node (o449 P) .nil .nil))) (.node (o97 P) (.node (o161 P) (.node (o289 P) .nil .nil) (.node (o417 P) .nil .nil)) (.node (o225 P) (.node (o353 P) .nil .nil) (.node (o481 P) .nil .nil)))) (.node (o49 P) (.node (o81 P) (.node (o145 P) (.node (o273 P) .nil .nil) (.node (o401 P) .nil .nil)) (.node (o209 P) (.node (o337 P) .nil .nil) (.node (o465 P) .nil .nil))) (.node (o113 P) (.node (o177 P) (.node (o305 P) .nil .nil) (.node (o433 P) .nil .nil)) (.node (o241 P) (.node (o369 P) .nil .nil) (.node (o497 P) .nil .nil))))) (.node (o25 P) (.node (o41 P) (.node (o73 P) (.node (o137 P) (.node (o265 P) .nil .nil) (.node (o393 P) .nil .nil)) (.node (o201 P) (.node (o329 P) .nil .nil) (.node (o457 P) .nil .nil))) (.node (o105 P) (.node (o169 P) (.node (o297 P) .nil .nil) (.node (o425 P) .nil .nil)) (.node (o233 P) (.node (o361 P) .nil .nil) (.node (o489 P) .nil .nil)))) (.node (o57 P) (.node (o89 P) (.node (o153 P) (.node (o281 P) .nil .nil) (.node (o409 P) .nil .nil)) (.node (o217 P) (.node (o345 P) .nil .nil) (.node (o473 P) .nil .nil))) (.node (o121 P) (.node (o185 P) (.node (o313 P) .nil .nil) (.node (o441 P) .nil .nil)) (.node (o249 P) (.node (o377 P) .nil .nil) (.node (o505 P) .nil .nil)))))) (.node (o13 P) (.node (o21 P) (.node (o37 P) (.node (o69 P) (.node (o133 P) (.node (o261 P) (.node (o517 P) .nil .nil) .nil) (.node (o389 P) .nil .nil)) (.node (o197 P) (.node (o325 P) .nil .nil) (.node (o453 P) .nil .nil))) (.node (o101 P) (.node (o165 P) (.node (o293 P) .nil .nil) (.node (o421 P) .nil .nil)) (.node (o229 P) (.node (o357 P) .nil .nil) (.node (o485 P) .nil .nil)))) (.node (o53 P) (.node (o85 P) (.node (o149 P) (.node (o277 P) .nil .nil) (.node (o405 P) .nil .nil)) (.node (o213 P) (.node (o341 P) .nil .nil) (.node (o469 P) .nil .nil))) (.node (o117 P) (.node (o181 P) (.node (o309 P) .nil .nil) (.node (o437 P) .nil .nil)) (.node (o245 P) (.node (o373 P) .nil .nil) (.node (o501 P) .nil .nil))))) (.node (o29 P) (.node (o45 P) (.node (o77 P) (.node (o141 P) (.node (o269 P) .nil .nil) (.node (o397 P) .nil .nil)) (.node (o205 P) (.node (o333 P) .nil .nil) (.node (o461 P) .nil .nil))) (.node (o109 P) (.node (o173 P) (.node (o301 P) .nil .nil) (.node (o429 P) .nil .nil)) (.node (o237 P) (.node (o365 P) .nil .nil) (.node (o493 P) .nil .nil)))) (.node (o61 P) (.node (o93 P) (.node (o157 P) (.node (o285 P) .nil .nil) (.node (o413 P) .nil .nil)) (.node (o221 P) (.node (o349 P) .nil .nil) (.node (o477 P) .nil .nil))) (.node (o125 P) (.node (o189 P) (.node (o317 P) .nil .nil) (.node (o445 P) .nil .nil)) (.node (o253 P) (.node (o381 P) .nil .nil) (.node (o509 P) .nil .nil)))))))) (.node (o2 P) (.node (boot_o_4 P) (.node (boot_o_8 P) (.node (o16 P) (.node (o32 P) (.node (o64 P) (.node (o128 P) (.node (o256 P) (.node (o512 P) .nil .nil) .nil) (.node (o384 P) .nil .nil)) (.node (o192 P) (.node (o320 P) .nil .nil) (.node (o448 P) .nil .nil))) (.node (o96 P) (.node (o160 P) (.node (o288 P) .nil .nil) (.node (o416 P) .nil .nil)) (.node (o224 P) (.node (o352 P) .nil .nil) (.node (o480 P) .nil .nil)))) (.node (o48 P) (.node (o80 P) (.node (o144 P) (.node (o272 P) .nil .nil) (.node (o400 P) .nil .nil)) (.node (o208 P) (.node (o336 P) .nil .nil) (.node (o464 P) .nil .nil))) (.node (o112 P) (.node (o176 P) (.node (o304 P) .nil .nil) (.node (o432 P) .nil .nil)) (.node (o240 P) (.node (o368 P) .nil .nil) (.node (o496 P) .nil .nil))))) (.node (o24 P) (.node (o40 P) (.node (o72 P) (.node (o136 P) (.node (o264 P) .nil .nil) (.node (o392 P) .nil .nil)) (.node (o200 P) (.node (o328 P) .nil .nil) (.node (o456 P) .nil .nil))) (.node (o104 P) (.node (o168 P) (.node (o296 P) .nil .nil) (.node (o424 P) .nil .nil)) (.node (o232 P) (.node (o360 P) .nil .nil) (.node (o488 P) .nil .nil)))) (.node (o56 P) (.node (o88 P) (.node (o152 P) (.node (o280 P) .nil .nil) (.node (o408 P) .nil .nil)) (.node (o216 P) (.node (o344 P) .nil .nil) (.node (o472 P) .nil .nil))) (.node (o120 P) (.node (o184 P) (.node (o312 P) .nil .nil) (.node (o440 P) .nil .nil)) (.node (o248 P) (.node (o376 P) .nil .nil) (.node (o504 P) .nil .nil)))))) (.node (o12v9 P) (.node (o20 P) (.node (o36 P) (.node (o68 P) (.node (o132 P) (.node (o260 P) (.node (o516 P) .nil .nil) .nil) (.node (o388 P) .nil .nil)) (.node (o196 P) (.node (o324 P) .nil .nil) (.node (o452 P) .nil .nil))) (.node (o100 P) (.node (o164 P) (.node (o292 P) .nil .nil) (.node (o420 P) .nil .nil)) (.node (o228 P) (.node (o356 P) .nil .nil) (.node (o484 P) .nil .nil)))) (.node (o52 P) (.node (o84 P) (.node (o148 P) (.node (o276 P) .nil .nil) (.node (o404 P) .nil .nil)) (.node (o212 P) (.node (o340 P) .nil .nil) (.node (o468 P) .nil .nil))) (.node (o116 P) (.node (o180 P) (.node (o308 P) .nil .nil) (.node (o436 P) .nil .nil)) (.node (o244 P) (.node (o372 P) .nil .nil) (.node (o500 P) .nil .nil))))) (.node (o28 P) (.node (o44 P) (.node (o76 P) (.node (o140 P) (.node (o268 P) .nil .nil) (.node (o396 P) .nil .nil)) (.node (o204 P) (.node (o332 P) .nil .nil) (.node (o460 P) .nil .nil))) (.node (o108 P) (.node (o172 P) (.node (o300 P) .nil .nil) (.node (o428 P) .nil .nil)) (.node (o236 P) (.node (o364 P) .nil .nil) (.node (o492 P) .nil .nil)))) (.node (o60 P) (.node (o92 P) (.node (o156 P) (.node (o284 P) .nil .nil) (.node (o412 P) .nil .nil)) (.node (o220 P) (.node (o348 P) .nil .nil) (.node (o476 P) .nil .nil))) (.node (o124 P) (.node (o188 P) (.node (o316 P) .nil .nil) (.node (o444 P) .nil .nil)) (.node (o252 P) (.node (o380 P) .nil .nil) (.node (o508 P) .nil .nil))))))) (.node (boot_o_6 P) (.node (boot_o_10 P) (.node (o18 P) (.node (o34 P) (.node (o66 P) (.node (o130 P) (.node (o258 P) (.node (o514 P) .nil .nil) .nil) (.node (o386 P) .nil .nil)) (.node (o194 P) (.node (o322 P) .nil .nil) (.node (o450 P) .nil .nil))) (.node (o98 P) (.node (o162 P) (.node (o290 P) .nil .nil) (.node (o418 P) .nil .nil)) (.node (o226 P) (.node (o354 P) .nil .nil) (.node (o482 P) .nil .nil)))) (.node (o50 P) (.node (o82 P) (.node (o146 P) (.node (o274 P) .nil .nil) (.node (o402 P) .nil .nil)) (.node (o210 P) (.node (o338 P) .nil .nil) (.node (o466 P) .nil .nil))) (.node (o114 P) (.node (o178 P) (.node (o306 P) .nil .nil) (.node (o434 P) .nil .nil)) (.node (o242 P) (.node (o370 P) .nil .nil) (.node (o498 P) .nil .nil))))) (.node (o26 P) (.node (o42 P) (.node (o74 P) (.node (o138 P) (.node (o266 P) .nil .nil) (.node (o394 P) .nil .nil)) (.node (o202 P) (.node (o330 P) .nil .nil) (.node (o458 P) .nil .nil))) (.node (o106 P) (.node (o170 P) (.node (o298 P) .nil .nil) (.node (o426 P) .nil .nil)) (.node (o234 P) (.node (o362 P) .nil .nil) (.node (o490 P) .nil .nil)))) (.node (o58 P) (.node (o90 P) (.node (o154 P) (.node (o282 P) .nil .nil) (.node (o410 P) .nil .nil)) (.node (o218 P) (.node (o346 P) .nil .nil) (.node (o474 P) .nil .nil))) (.node (o122 P) (.node (o186 P) (.node (o314 P) .nil .nil) (.node (o442 P) .nil .nil)) (.node (o250 P) (.node (o378 P) .nil .nil) (.node (o506 P) .nil .nil)))))) (.node (o14 P) (.node (o22 P) (.node (o38 P) (.node (o70 P) (.node (o134 P) (.node (o262 P) .nil .nil) (.node (o390 P) .nil .nil)) (.node (o198 P) (.node (o326 P) .nil .nil) (.node (o454 P) .nil .nil))) (.node (o102 P) (.node (o166 P) (.node (o294 P) .nil .nil) (.node (o422 P) .nil .nil)) (.node (o230 P) (.node (o358 P) .nil .nil) (.node (o486 P) .nil .nil)))) (.node (o54 P) (.node (o86 P) (.node (o150 P) (.node (o278 P) .nil .nil) (.node (o406 P) .nil .nil)) (.node (o214 P) (.node (o342 P) .nil .nil) (.node (o470 P) .nil .nil))) (.node (o118 P) (.node (o182 P) (.node (o310 P) .nil .nil) (.node (o438 P) .nil .nil)) (.node (o246 P) (.node (o374 P) .nil .nil) (.node (o502 P) .nil .nil))))) (.node (o30 P) (.node (o46v2 P) (.node (o78 P) (.node (o142 P) (.node (o270 P) .nil .nil) (.node (o398 P) .nil .nil)) (.node (o206 P) (.node (o334 P) .nil .nil) (.node (o462 P) .nil .nil))) (.node (o110 P) (.node (o174 P) (.node (o302 P) .nil .nil) (.node (o430 P) .nil .nil)) (.node (o238 P) (.node (o366 P) .nil .nil) (.node (o494 P) .nil .nil)))) (.node (o62 P) (.node (o94 P) (.node (o158 P) (.node (o286 P) .nil .nil) (.node (o414 P) .nil .nil)) (.node (o222 P) (.node (o350 P) .nil .nil) (.node (o478 P) .nil .nil))) (.node (o126 P) (.node (o190 P) (.node (o318 P) .nil .nil) (.node (o446 P) .nil .nil)) (.node (o254 P) (.node (o382 P) .nil .nil) (.node (o510 P) .nil .nil)))))))))
set_option maxHeartbeats 0
theorem r_pre : ∀ w : World, (fun os => topGo treeTable pw w m0 annE 12 ⟨boot_heap w.params, ⟨[]⟩, boot_drawn, boot_toks, os⟩ (topStub pw)) = fun os => some (⟨h_pre w.params, ⟨[]⟩, drawnE, 187, os⟩, ⟨denote treeTable cE, cE, ⟨0, 0, 0, 0⟩, BE⟩) := by
  intro w
  rw [PySem.W.Fast.te15667345088766844465, PySem.W.Fast.te14364793385576792824, PySem.W.Fast.te11892475500146522536]
  kernel_rfl
theorem r_block : ∀ w : World, (fun os => segRun treeTable pw w m0 annE 1 1 ⟨h_pre w.params, ⟨[]⟩, drawnE, 187, os⟩ (blockOf (behindTheImports pw) envE cE ⟨0, 0, 0, 0⟩ BE)) = fun os => some (.next, SharedT.abs ⟨t_block w.params, 15, lifeE, ⟨[]⟩, drawnE, 187, os⟩, cE, ⟨0, 0, 0, 0⟩) := by
  intro w
  rw [PySem.W.Fast.te14374325043358763698, PySem.W.Fast.te14364793385576792824]
  kernel_rfl
noncomputable def sts_0 : List Stmt := [sAt 0, sAt 1, sAt 2, sAt 3]
theorem r_0 : ∀ w : World, (fun os => segRunT treeTable pw w m0 annE 1 310 ⟨t_block w.params, 15, lifeE, ⟨[]⟩, drawnE, 187, os⟩ (piecesOf sts_0 envE cE ⟨0, 0, 0, 0⟩ BE)) = fun os => some (.next, ⟨t_p3 w.params, 50, lifeE, ⟨[]⟩, drawnE, 236, os⟩, cE, ⟨6, 0, 14, 16⟩) := by
  intro w
  rw [PySem.W.Fast.te10110043849684766642, PySem.W.Fast.te14364793385576792824]
  kernel_rfl
noncomputable def sts_1 : List Stmt := [sAt 4]
theorem r_1 : ∀ w : World, (fun os => segRunT treeTable pw w m0 annE 1 214 ⟨t_p3 w.params, 50, lifeE, ⟨[]⟩, drawnE, 236, os⟩ (piecesOf sts_1 envE cE ⟨6, 0, 14, 16⟩ BE)) = fun os => some (.next, ⟨t_p4 w.params, 62, lifeE, ⟨[]⟩, drawnE, 252, os⟩, cE, ⟨15, 0, 16, 8⟩) := by
  intro w
  rw [PySem.W.Fast.te10110043849684766642, PySem.W.Fast.te14364793385576792824]
  kernel_rfl
noncomputable def sts_2 : List Stmt := [sAt 5, sAt 6, sAt 7, sAt 8, sAt 9]
theorem r_2 : ∀ w : World, (fun os => segRunT treeTable pw w m0 annE 1 318 ⟨t_p4 w.params, 62, lifeE, ⟨[]⟩, drawnE, 252, os⟩ (piecesOf sts_2 envE cE ⟨15, 0, 16, 8⟩ BE)) = fun os => some (.next, ⟨t_p9 w.params, 97, lifeE, ⟨[]⟩, drawnE, 297, os⟩, cE, ⟨26, 0, 26, 8⟩) := by
  intro w
  rw [PySem.W.Fast.te10110043849684766642, PySem.W.Fast.te14364793385576792824]
  kernel_rfl
noncomputable def sts_3 : List Stmt := [sAt 10, sAt 11, sAt 12, sAt 13, sAt 14, sAt 15, sAt 16]
theorem r_3 : ∀ w : World, (fun os => segRunT treeTable pw w m0 annE 1 316 ⟨t_p9 w.params, 97, lifeE, ⟨[]⟩, drawnE, 297, os⟩ (piecesOf sts_3 envE cE ⟨26, 0, 26, 8⟩ BE)) = fun os => some (.next, ⟨t_p16 w.params, 125, lifeE, ⟨[]⟩, drawnE, 353, os⟩, cE, ⟨43, 0, 43, 10⟩) := by
  intro w
  rw [PySem.W.Fast.te10110043849684766642, PySem.W.Fast.te14364793385576792824]
  kernel_rfl
noncomputable def sts_4 : List Stmt := [sAt 17, sAt 18, sAt 19, sAt 20, sAt 21, sAt 22]
theorem r_4 : ∀ w : World, (fun os => segRunT treeTable pw w m0 annE 1 408 ⟨t_p16 w.params, 125, lifeE, ⟨[]⟩, drawnE, 353, os⟩ (piecesOf sts_4 envE cE ⟨43, 0, 43, 10⟩ BE)) = fun os => some (.next, ⟨t_p22 w.params, 189, lifeE, ⟨[]⟩, drawnE, 432, os⟩, cE, ⟨110, 0, 111, 50⟩) := by
  intro w
  rw [PySem.W.Fast.te10110043849684766642, PySem.W.Fast.te14364793385576792824]
  kernel_rfl
noncomputable def sts_5 : List Stmt := [sAt 23, sAt 24, sAt 25, sAt 26, sAt 27, sAt 28, sAt 29, sAt 30]
theorem r_5 : ∀ w : World, (fun os => segRunT treeTable pw w m0 annE 1 409 ⟨t_p22 w.params, 189, lifeE, ⟨[]⟩, drawnE, 432, os⟩ (piecesOf sts_5 envE cE ⟨110, 0, 111, 50⟩ BE)) = fun os => some (.next, ⟨t_p30 w.params, 245, lifeE, ⟨[]⟩, drawnE, 514, os⟩, cE, ⟨150, 0, 151, 40⟩) := by
  intro w
  rw [PySem.W.Fast.te10110043849684766642, PySem.W.Fast.te14364793385576792824]
  kernel_rfl
noncomputable def sts_6 : List Stmt := [sAt 31, sAt 32, sAt 33, sAt 34, sAt 35, sAt 36, sAt 37, sAt 38, sAt 39, sAt 40, sAt 41, sAt 42]
theorem r_6 : ∀ w : World, (fun os => segRunT treeTable pw w m0 annE 1 383 ⟨t_p30 w.params, 245, lifeE, ⟨[]⟩, drawnE, 514, os⟩ (piecesOf sts_6 envE cE ⟨150, 0, 151, 40⟩ BE)) = fun os => some (.next, ⟨t_p42 w.params, 329, lifeE, ⟨[]⟩, drawnE, 632, os⟩, cE, ⟨224, 0, 228, 16⟩) := by
  intro w
  rw [PySem.W.Fast.te10110043849684766642, PySem.W.Fast.te14364793385576792824]
  kernel_rfl
noncomputable def sts_7 : List Stmt := [sAt 43]
theorem r_7 : ∀ w : World, (fun os => segRunT treeTable pw w m0 annE 1 709 ⟨t_p42 w.params, 329, lifeE, ⟨[]⟩, drawnE, 632, os⟩ (piecesOf sts_7 envE cE ⟨224, 0, 228, 16⟩ BE)) = fun os => some (.next, ⟨t_p43 w.params, 450, lifeE, ⟨[]⟩, drawnE, 809, os⟩, cE, ⟨229, 0, 379, 61⟩) := by
  intro w
  rw [PySem.W.Fast.te10110043849684766642, PySem.W.Fast.te14364793385576792824]
  kernel_rfl
noncomputable def sts_8 : List Stmt := [sAt 44, sAt 45, sAt 46, sAt 47, sAt 48, sAt 49, sAt 50, sAt 51, sAt 52, sAt 53, sAt 54]
theorem r_8 : ∀ w : World, (fun os => segRunT treeTable pw w m0 annE 1 335 ⟨t_p43 w.params, 450, lifeE, ⟨[]⟩, drawnE, 809, os⟩ (piecesOf sts_8 envE cE ⟨229, 0, 379, 61⟩ BE)) = fun os => some (.next, ⟨t_p54 w.params, 518, lifeE, ⟨[]⟩, drawnE, 918, os⟩, cE, ⟨450, 0, 455, 15⟩) := by
  intro w
  rw [PySem.W.Fast.te10110043849684766642, PySem.W.Fast.te14364793385576792824]
  kernel_rfl
noncomputable def h_fin (P : Params) : Heap := absHeap (t_p54 P) 518 lifeE
theorem r_fin : ∀ w : World, (fun os => topRun treeTable pw w m0 annE 2 (SharedT.abs ⟨t_p54 w.params, 518, lifeE, ⟨[]⟩, drawnE, 918, os⟩) ⟨doneF .next, cE, ⟨450, 0, 455, 15⟩, BE⟩) = fun os => some ⟨h_fin w.params, ⟨[]⟩, drawnE, 918, os⟩ := by
  intro w
  rw [PySem.W.Fast.te14082659384304107361, PySem.W.Fast.te14364793385576792824]
  kernel_rfl
def looseE : List Str := [S "_wall", S "U64", S "GateError", S "Fault", S "RowError", S "wrap", S "signed", S "fits_signed", S "Outcome", S "RAX", S "RCX", S "RDX", S "RSP", S "MOST_LABEL", S "Row", S "row_shapes", S "conditions", S "part_fits", S "check_row", S "is_mark", S "goal_of", S "marks_of", S "check_rows", S "PILE_TOP", S "DIVIDE", S "Flags", S "unknown_flags", S "sign_bit", S "logic_flags", S "sum_flags", S "difference_flags", S "known", S "unsigned_condition", S "condition_holds", S "two_sides", S "shifted_by", S "divided_by", S "signed_divided_by", S "octets_turned", S "PlainRows", S "_law_pen", S "_law_draw", S "_law_pick", S "_law_half", S "_law_sign", S "_law_whole", S "_law_fits", S "_law_direct", S "_law_case_holds"]
noncomputable def qv : Program := { pw with main := { pw.main with body := pw.main.body.drop 54 } }
theorem bod : behindTheImports pw = (sts_0 ++ (sts_1 ++ (sts_2 ++ (sts_3 ++ (sts_4 ++ (sts_5 ++ (sts_6 ++ (sts_7 ++ (sts_8 ++ ([] : List Stmt)))))))))) := by kernel_rfl
theorem run_all (w : World) (os : OsState) : topRun treeTable pw w m0 annE (12 + (1 + (310 + (214 + (318 + (316 + (408 + (409 + (383 + (709 + (335 + 2))))))))))) ⟨boot_heap w.params, ⟨[]⟩, boot_drawn, boot_toks, os⟩ (topStub pw) = some ⟨h_fin w.params, ⟨[]⟩, drawnE, 918, os⟩ := by
  refine go_top (congrFun (r_pre w) os) ?_
  refine piece_block (q := posQ) (congrFun (r_block w) os) ?_
  rw [bod]
  refine piece_app (q := posQ) (segRun_of (congrFun (r_0 w) os)) ?_
  refine piece_app (q := posQ) (segRun_of (congrFun (r_1 w) os)) ?_
  refine piece_app (q := posQ) (segRun_of (congrFun (r_2 w) os)) ?_
  refine piece_app (q := posQ) (segRun_of (congrFun (r_3 w) os)) ?_
  refine piece_app (q := posQ) (segRun_of (congrFun (r_4 w) os)) ?_
  refine piece_app (q := posQ) (segRun_of (congrFun (r_5 w) os)) ?_
  refine piece_app (q := posQ) (segRun_of (congrFun (r_6 w) os)) ?_
  refine piece_app (q := posQ) (segRun_of (congrFun (r_7 w) os)) ?_
  refine piece_app (q := posQ) (segRun_of (congrFun (r_8 w) os)) ?_
  exact piece_nil (congrFun (r_fin w) os)
theorem opens : ∀ w : World, (fencedOpening treeTable pw w 7000).map (fun s => (s.heap, s.gens, s.drawn, s.toks)) = some (boot_heap w.params, Array.mk [], boot_drawn, boot_toks) := boot_open (by kernel_rfl) (by decide) (fun s => by kernel_rfl)
theorem sizes : ∀ w : World, ((boot_heap w.params).isNs mainGlobals && (Array.mk [] : Array GenState).size == 0, (boot_heap w.params).objs.size, (boot_heap w.params).nsMap mainGlobals "__annotations__") = (true, m0, annE) := by intro w; kernel_rfl
noncomputable def s_fin (w : World) (os : OsState) : Shared := ⟨h_fin w.params, ⟨[]⟩, drawnE, 918, os⟩
theorem look1 (w : World) (os : OsState) : (staticsOk (importedModules pw.main.body) (boot_heap w.params) (h_fin w.params) && namesBound pw (h_fin w.params) && gensDone (s_fin w os) && laidKept (boot_heap w.params) (h_fin w.params)) = true := by kernel_rfl
theorem look2 (w : World) (os : OsState) : openSeen qv looseE (importedModules pw.main.body) (fun s => xlAt qv [] s && recOk [] s) true (s_fin w os) = openGood qv looseE := by kernel_rfl
theorem left_of {α : Type} {Yf : Shared → α} {Ya : World → α} (hy : ∀ (w : World) (os : OsState), Yf (s_fin w os) = Ya w) : LeftO pw qv looseE (fun s => xlAt qv [] s && recOk [] s) Yf Ya 7000 :=
  LeftO.of_pieces opens sizes run_all (by decide) fun w => funext fun os => Prod.ext (look1 w os) (Prod.ext (look2 w os) (hy w os))
theorem said : PySem.Challenge.rw_ok0167_01.wellSaid = true := by kernel_rfl
/-- a hook that tells of object 0 besides -/
noncomputable def extHook (H : Hook) : Hook := ⟨H.α × Option Obj, fun s => (H.obs s, s.heap.get? 0), fun w => (H.val w, some (boot_o_0 w.params)), fun w h => H.says w h ∧ h.get? 0 = some (boot_o_0 w.params), fun w s e => ⟨H.of w s (congrArg Prod.fst e), congrArg Prod.snd e⟩, fun w h h' s k => ⟨H.keeps w h h' s.1 k, k _ _ s.2⟩⟩
theorem holds_ext {d : DefRec} {kwd : List (Str × Expr)} (H : Hook) (hy : ∀ (w : World) (os : OsState), Hook.obs (extHook H) (s_fin w os) = Hook.val (extHook H) w) (k1 : PySem.Challenge.rw_ok0167_01.row.wellSaid = true)
    (hdef : defOf qv PySem.Challenge.rw_ok0167_01.row.name = some (d, kwd)) (hp : PySem.Challenge.rw_ok0167_01.row.prog.theDef PySem.Challenge.rw_ok0167_01.row.name = some (d.params, d.body, d.scope)) (hk : kwWritten? d.params.kwonlyargs d.params.kw_defaults = some kwd)
    (hw : PySem.Challenge.rw_ok0167_01.row.toRowW.promised) (hc : WalkO qv looseE (XL qv []) (Hook.says (extHook H)) PySem.Challenge.rw_ok0167_01.row.toRowW d kwd fun f vs => PySem.call f vs) : PySem.Challenge.rw_ok0167_01.row.Holds := by
  refine holds_open (q := qv) (loose := looseE) (Xt := fun s => xlAt qv [] s && recOk [] s) (XP := XL qv []) (Yf := Hook.obs (extHook H)) (Ya := Hook.val (extHook H)) (YP := Hook.says (extHook H)) (N := 7000) (left_of hy) (Hook.of (extHook H)) (Hook.keeps (extHook H)) (fun s e => xl_of s (Bool.and_eq_true_iff.mp e).1) XL.keeps hdef hp hk (fun s e => recFacts_of (Bool.and_eq_true_iff.mp e).2) (by rfl) k1 (by decide +kernel) ⟨rfl, rfl, rfl, rfl, rfl, by decide +kernel⟩ hw hc
section
local macro_rules | `(tactic| o_law) => `(tactic| k_extra "o_law")
local macro_rules | `(tactic| o_head $H) => `(tactic| refine holds_ext $H (fun w os => by kernel_rfl) (by assumption) (by rfl) (by rfl) (by rfl) ?hw ?hc)
theorem zz1 : True := by
  k_with "o_law" => refine holds_law said fun said => ?_
  trivial
set_option maxHeartbeats 0 in
open_top hd for PySem.Challenge.rw_ok0167_01
end

-- Ba
noncomputable abbrev Lo : List Str := looseW qv looseE

/-- one entry taken out of a ledger -/
inductive Pick (d : Addr) (o : Obj) : List (Addr × Obj) → List (Addr × Obj) → Prop
  | head {r} : (∀ p ∈ r, p.1 ≠ d) → Pick d o ((d, o) :: r) r
  | tail {p r r'} : p.1 ≠ d → Pick d o r r' → Pick d o (p :: r) (p :: r')
theorem zz2 : True := by
  k_with_none
  trivial
theorem Pick.mem {d : Addr} {o : Obj} {l r : List (Addr × Obj)} (h : Pick d o l r) : (d, o) ∈ l := by
  induction h with
  | head _ => exact List.Mem.head _
  | tail _ _ ih => exact List.Mem.tail _ ih
theorem Pick.sub {d : Addr} {o : Obj} {l r : List (Addr × Obj)} (h : Pick d o l r) : ∀ p ∈ r, p ∈ l := by
  induction h with
  | head _ => exact fun p hp => List.Mem.tail _ hp
  | tail _ _ ih =>
    intro p hp
    rcases List.mem_cons.mp hp with rfl | hp
    · exact List.Mem.head _
    · exact List.Mem.tail _ (ih p hp)
theorem Pick.ne {d : Addr} {o : Obj} {l r : List (Addr × Obj)} (h : Pick d o l r) : ∀ p ∈ r, p.1 ≠ d := by
  induction h with
  | head h => exact h
  | tail h _ ih =>
    intro p hp
    rcases List.mem_cons.mp hp with rfl | hp
    · exact h
    · exact ih p hp
inductive Picks : List (Addr × Obj) → List (Addr × Obj) → List (Addr × Obj) → Prop
  | nil {r} : Picks [] r r
  | cons {a o A l r r'} : Pick a o l r → Picks A r r' → Picks ((a, o) :: A) l r'
theorem Picks.sub {A l r : List (Addr × Obj)} (h : Picks A l r) : (∀ p ∈ A, p ∈ l) ∧ ∀ p ∈ r, p ∈ l := by
  induction h with
  | nil => exact ⟨(fun _ h => nomatch h), fun _ h => h⟩
  | cons h _ ih =>
    refine ⟨fun p hp => ?_, fun p hp => h.sub p (ih.2 p hp)⟩
    rcases List.mem_cons.mp hp with rfl | hp
    · exact h.mem
    · exact h.sub p (ih.1 p hp)
theorem Picks.news {h₀ h : Heap} {L : Addr} {A l r : List (Addr × Obj)} (P : Picks A l r) (N : News h₀ L h l) : News h₀ L h (A ++ r) := fun p hp =>
  (List.mem_append.mp hp).elim (fun q => N p (P.sub.1 p q)) fun q => N p (P.sub.2 p q)
/-- the addresses of a list are all other than d -/
def AllNe (d : Nat) : List (Addr × Obj) → Prop
  | [] => True
  | p :: r => @Ne Nat p.1 d ∧ AllNe d r
theorem allNe_of {d : Addr} : ∀ {l : List (Addr × Obj)}, (∀ p ∈ l, p.1 ≠ d) → AllNe d l
  | [], _ => trivial
  | p :: _, h => ⟨h p (.head _), allNe_of fun q hq => h q (.tail _ hq)⟩
def Apart : List (Addr × Obj) → List (Addr × Obj) → Prop
  | [], _ => True
  | p :: A, r => AllNe p.1 A ∧ (∀ q ∈ r, q.1 ≠ p.1) ∧ Apart A r
theorem Picks.apart {A l r : List (Addr × Obj)} (P : Picks A l r) : Apart A r := by
  induction P with
  | nil => trivial
  | cons h q ih => exact ⟨allNe_of fun p hp => h.ne p (q.sub.1 p hp), fun p hp => h.ne p (q.sub.2 p hp), ih⟩
theorem ne_of_lts {d : Nat} {l : List (Addr × Obj)} (h : ∀ p ∈ l, p.1 < d) : ∀ p ∈ l, p.1 ≠ d := fun p hp => Nat.ne_of_lt (h p hp)
theorem ne_of_gts {d : Nat} {l : List (Addr × Obj)} (h : ∀ p ∈ l, d < p.1) : ∀ p ∈ l, p.1 ≠ d := fun p hp => Nat.ne_of_gt (h p hp)

/-- the pen: its list, its count (at most b), its rest -/
inductive PenIs (l : Addr) (b : Int) (oP oL : Obj) : Prop
  | mk (kp kl : Nat) (n q : Int) (tn tq : Tok) (vs : List Value) (xs : List Int) (e1 : oP = listOf [Value.ref l, Value.int n tn, Value.int q tq].toArray kp) (e2 : oL = listOf vs.toArray kl) (hI : IntsAre vs xs) (hx : ∀ x ∈ xs, 0 ≤ x) (hq : 0 ≤ q) (hl : xs.length ≤ 40) (h0 : 0 ≤ n) (hb : n ≤ b)
theorem PenIs.mono {l : Addr} {b c : Int} {oP oL : Obj} (h : PenIs l b oP oL) (hc : b ≤ c) : PenIs l c oP oL := by
  obtain ⟨kp, kl, n, q, tn, tq, vs, xs, h1, h2, h3, h4, h5, h6, h7, h8⟩ := h
  exact ⟨kp, kl, n, q, tn, tq, vs, xs, h1, h2, h3, h4, h5, h6, h7, Int.le_trans h8 hc⟩
theorem noPy {a b : Int} (h0 : 0 < b) (h : b < 2 ^ 70) : Builtin.divisionGoesByPylong a b = false := by
  refine PyProof.noPylong_of_log2 ?_
  have h1 : b.natAbs ≠ 0 := by omega
  have h2 : b.natAbs < 2 ^ 70 := by omega
  have := (Nat.log2_lt h1).mpr h2
  omega
theorem fdiv_nn {a b : Int} (h : 0 ≤ a) (hb : 0 < b) : 0 ≤ a.fdiv b := Int.fdiv_nonneg h (Int.le_of_lt hb)
theorem fmod_nn {a b : Int} (hb : 0 < b) : 0 ≤ a.fmod b := by
  rw [Int.fmod_eq_emod_of_nonneg _ (Int.le_of_lt hb)]; exact Int.emod_nonneg _ (by omega)
theorem fmod_ltp {a b : Int} (hb : 0 < b) : a.fmod b < b := by
  rw [Int.fmod_eq_emod_of_nonneg _ (Int.le_of_lt hb)]; exact Int.emod_lt_of_pos _ hb
theorem ne_K {prog : Program} {w : World} {A : Around} {E : Value → Shared → Prop} {s : Shared} {h₀ : Heap} {L : Addr} {news : List (Addr × Obj)} {a b : Addr} {vs us : List Value} {ns ms : List Int} {k j : Nat} {Q : Value → Shared → Prop}
    (N : News h₀ L s.heap news) (ha : (a, listOf vs.toArray k) ∈ news) (hb : (b, listOf us.toArray j) ∈ news) (hi : IntsAre vs ns) (hj : IntsAre us ms) (hu : A.units + 64 < cLine)
    (h : Q (.bool (!decide (ns = ms))) s) : wpAny (model prog w) A (compareOp .NotEq (.ref a) (.ref b)) Q E s :=
  ne_intsK (PySem.IsL.isList (n := k) (N _ ha).1) hi (PySem.IsL.isList (n := j) (N _ hb).1) hj hu h
theorem pop0_K {prog : Program} {w : World} {A : Around} {E : Value → Shared → Prop} {s : Shared} {h₀ : Heap} {L D : Addr} {m : Str → Option Value} {news news' : List (Addr × Obj)} {y : Value} {vs : List Value} {n : Nat} {u : Tok} {Q : Value → Shared → Prop}
    (F : Fr h₀ L s.heap m) (N : News h₀ L s.heap news) (U : Upd D (listOf (y :: vs).toArray n) (listOf vs.toArray (n + 1)) news news') (hz : vs.length ≤ 100)
    (h : ∀ h', Fr h₀ L h' m → News h₀ L h' news' → Q y { s with heap := h' }) : wpAny (model prog w) A (call (.builtin "list.pop") [.ref D, .int 0 u]) Q E s :=
  kl_popAt (k := 0) (p := []) (y := y) (q := vs) F N rfl (by simp [seqIndex?]) rfl U (by rw [PySem.sizeLine_eq]; simp; omega) h
theorem powL_K {prog : Program} {w : World} {A : Around} {E : Value → Shared → Prop} {s : Shared} {a n : Int} {t u : Tok} {Q : Value → Shared → Prop} (r : Int) (hn : 0 ≤ n) (hn2 : n ≤ 1000000) (ha : a.natAbs < 2 ^ 64) (e : a ^ n.toNat = r)
    (h : Q (.int r s.toks) { s with toks := s.toks + 1 }) : wpAny (model prog w) A (binaryOp .Pow (.int a t) (.int n u)) Q E s := by
  subst e
  exact pow_int_small hn hn2 ha h
theorem gentok {α : Type} {M : Model} {A : Around} {t : Sem α} {Q : α → Shared → Prop} {E : Value → Shared → Prop} {h : Heap} {g : Array GenState} {d : Drawn} {n : Nat} {os : OsState} (H : ∀ tk, wpAny M A t Q E ⟨h, g, d, tk, os⟩) : wpAny M A t Q E ⟨h, g, d, n + 1 + 1 + 1, os⟩ := H _
theorem fa_nil {l : List (Addr × Obj)} : ∀ p ∈ ([] : List (Addr × Obj)), p ∈ l := fun _ h => nomatch h
theorem fa_refl {l : List (Addr × Obj)} : ∀ p ∈ l, p ∈ l := fun _ h => h
theorem fa_tail {x : Addr × Obj} {r l : List (Addr × Obj)} (h : ∀ p ∈ r, p ∈ l) : ∀ p ∈ r, p ∈ x :: l := fun p hp => .tail _ (h p hp)
theorem fa_cons {x : Addr × Obj} {r l : List (Addr × Obj)} (m : x ∈ l) (h : ∀ p ∈ r, p ∈ l) : ∀ p ∈ x :: r, p ∈ l := List.forall_mem_cons.mpr ⟨m, h⟩
local macro_rules | `(tactic| k_lt $h:ident) => `(tactic| (have ltAll := $h; replace $h := allLt_of $h; simp only [AllLt, and_true] at $h:ident))
local macro_rules | `(tactic| k_all) => `(tactic| k_extra "k_all")
local macro_rules | `(tactic| k_upd) => `(tactic| k_extra "k_upd")
-- a ledger cut down to what is asked
local macro_rules | `(tactic| ktr_rel) => `(tactic| k_extra "ktr_rel")
-- into a def, its defaults too
local macro_rules | `(tactic| cell_enter) => `(tactic| k_extra "cell_enter")
local macro_rules | `(tactic| ktr_units) => `(tactic| k_extra "ktr_units")
local macro_rules | `(tactic| ktr_room) => `(tactic| k_extra "ktr_room")
-- Sp
abbrev tupOf (vs : List Value) : Obj := { cls := .type "tuple", data := .seq vs.toArray }
def low (x n : Int) : Int := x % 2 ^ n.toNat
def sgn (x n : Int) : Int := if 2 ^ (n - 1).toNat ≤ low x n then low x n - 2 ^ n.toNat else low x n
theorem Qint {Q : Value → Shared → Prop} {x y : Int} {t : Tok} {s : Shared} (e : x = y) (h : Q (.int y t) s) : Q (.int x t) s := e ▸ h
theorem Qbool {Q : Value → Shared → Prop} {x y : Bool} {s : Shared} (e : x = y) (h : Q (.bool y) s) : Q (.bool x) s := e ▸ h
theorem mask_low (x n : Int) : Builtin.bitAnd x (1 * 2 ^ n.toNat - 1) = low x n := by
  rw [Int.one_mul]
  exact kbt_mask x n.toNat
theorem two_pos (k : Nat) : (0 : Int) < 2 ^ k := kbt_pos k
theorem low_nn (x n : Int) : 0 ≤ low x n := Int.emod_nonneg _ (Int.ne_of_gt (two_pos _))
theorem low_lt (x n : Int) : low x n < 2 ^ n.toNat := Int.emod_lt_of_pos _ (two_pos _)
theorem fmod_low (x n : Int) : x.fmod (2 ^ n.toNat) = low x n := Int.fmod_eq_emod_of_nonneg _ (Int.le_of_lt (two_pos _))
theorem low_of {x n : Int} (h0 : 0 ≤ x) (h1 : x < 2 ^ n.toNat) : low x n = x := Int.emod_eq_of_lt h0 h1
theorem fdiv_zero {y p : Int} (hy : 0 ≤ y) (hp : 0 < p) : y.fdiv p = 0 ↔ y < p := by
  rw [Int.fdiv_eq_ediv_of_nonneg _ (Int.le_of_lt hp)]
  constructor
  · intro h
    have h1 := Int.emod_add_mul_ediv y p
    have h2 := Int.emod_lt_of_pos y hp
    rw [h, Int.mul_zero] at h1
    omega
  · intro h
    exact Int.ediv_eq_zero_of_lt hy h
theorem sgn_pos {x n : Int} (h : 2 ^ (n - 1).toNat ≤ low x n) : sgn x n = low x n - 2 ^ n.toNat := if_pos h
theorem sgn_neg {x n : Int} (h : ¬ 2 ^ (n - 1).toNat ≤ low x n) : sgn x n = low x n := if_neg h
theorem bit_one {x p : Int} (h0 : 0 ≤ x) (hp : 0 < p) (h1 : x < 2 * p) : (Builtin.bitAnd (x.fdiv p) 1 == 1) = decide (p ≤ x) := by
  have e : Builtin.bitAnd (x.fdiv p) 1 = (x.fdiv p) % 2 := kbt_mask (x.fdiv p) 1
  rw [e]
  by_cases h : p ≤ x
  · have e1 : x.fdiv p = 1 := by
      rw [Int.fdiv_eq_ediv_of_nonneg _ (Int.le_of_lt hp)]
      have h2 : x = (x - p) + p * 1 := by omega
      rw [h2, Int.add_mul_ediv_left _ _ (Int.ne_of_gt hp), Int.ediv_eq_zero_of_lt (by omega) (by omega)]
      rfl
    rw [e1, decide_eq_true h]
    rfl
  · rw [(fdiv_zero h0 hp).mpr (by omega), decide_eq_false h]
    rfl
theorem sgn_bnd {x n : Int} (hn : n = 32 ∨ n = 64) : -2 ^ 63 ≤ sgn x n ∧ sgn x n < 2 ^ 63 := by
  have h0 := low_nn x n
  have h1 := low_lt x n
  rcases hn with rfl | rfl
  · by_cases h : (2 : Int) ^ ((32 : Int) - 1).toNat ≤ low x 32
    · rw [sgn_pos h]; simp only [show ((32 : Int) - 1).toNat = 31 from rfl, show (32 : Int).toNat = 32 from rfl] at *; omega
    · rw [sgn_neg h]; simp only [show ((32 : Int) - 1).toNat = 31 from rfl, show (32 : Int).toNat = 32 from rfl] at *; omega
  · by_cases h : (2 : Int) ^ ((64 : Int) - 1).toNat ≤ low x 64
    · rw [sgn_pos h]; simp only [show ((64 : Int) - 1).toNat = 63 from rfl, show (64 : Int).toNat = 64 from rfl] at *; omega
    · rw [sgn_neg h]; simp only [show ((64 : Int) - 1).toNat = 63 from rfl, show (64 : Int).toNat = 64 from rfl] at *; omega
/-- the quotient of the signs -/
def sq (a b : Int) : Int := if decide (a < 0) == decide (b < 0) then (if a < 0 then -a else a).fdiv (if b < 0 then -b else b) else -(if a < 0 then -a else a).fdiv (if b < 0 then -b else b)
theorem low64 {n : Int} (hn : n = 32 ∨ n = 64) (x : Int) : low x n < 2 ^ 64 := by
  have h := low_lt x n
  rcases hn with rfl | rfl
  · exact Int.lt_trans h (by decide)
  · exact h
theorem pow_n {prog : Program} {w : World} {A : Around} {E : Value → Shared → Prop} {s : Shared} {n : Int} {t u : Tok} {Q : Value → Shared → Prop} (hn : n = 32 ∨ n = 64) (h : Q (.int (2 ^ n.toNat) s.toks) { s with toks := s.toks + 1 }) : wpAny (model prog w) A (binaryOp .Pow (.int 2 t) (.int n u)) Q E s :=
  pow_int_small (by omega) (by omega) (by decide) h
theorem mod_n {prog : Program} {w : World} {A : Around} {E : Value → Shared → Prop} {s : Shared} {n x : Int} {t u : Tok} {Q : Value → Shared → Prop} (h : Q (.int (low x n) s.toks) { s with toks := s.toks + 1 }) : wpAny (model prog w) A (binaryOp .Mod (.int x t) (.int (2 ^ n.toNat) u)) Q E s :=
  mod_int (Int.ne_of_gt (two_pos _)) (by rw [fmod_low]; exact h)
theorem pow_n1 {prog : Program} {w : World} {A : Around} {E : Value → Shared → Prop} {s : Shared} {n : Int} {t u : Tok} {Q : Value → Shared → Prop} (hn : n = 32 ∨ n = 64) (h : Q (.int (2 ^ (n - 1).toNat) s.toks) { s with toks := s.toks + 1 }) : wpAny (model prog w) A (binaryOp .Pow (.int 2 t) (.int (n - 1) u)) Q E s :=
  pow_int_small (by omega) (by omega) (by decide) h
theorem mul_n {prog : Program} {w : World} {A : Around} {E : Value → Shared → Prop} {s : Shared} {n x : Int} {t u : Tok} {Q : Value → Shared → Prop} (hn : n = 32 ∨ n = 64) (h : Q (.int (low x n * 2 ^ n.toNat) s.toks) { s with toks := s.toks + 1 }) : wpAny (model prog w) A (binaryOp .Mult (.int (low x n) t) (.int (2 ^ n.toNat) u)) Q E s := by
  refine mul_int h ?_
  have h0 := low_nn x n
  have h1 := low64 hn x
  rcases hn with rfl | rfl
  · rw [show (2 : Int) ^ (32 : Int).toNat = 4294967296 from by decide]; mul_fits
  · rw [show (2 : Int) ^ (64 : Int).toNat = 18446744073709551616 from by decide]; mul_fits

-- Dr
theorem zrDr : True := by first | (row_walk; done) | trivial
/-- the pen behind the If of a draw -/
inductive JPen (g : Heap) (L : Addr) (m : Str → Option Value) (P l : Addr) (n1 : Int) (tn1 : Tok) (kp : Nat) (rest : List (Addr × Obj)) (s : Shared) : Flow → Shared → Prop
  | mk {h' : Heap} {tk' : Nat} {q : Int} {tq : Tok} {vs : List Value} {xs : List Int} {kl : Nat} (hI : IntsAre vs xs) (hx : ∀ x ∈ xs, 0 ≤ x) (hq : 0 ≤ q) (hl : xs.length ≤ 40) (F : Fr g L h' m) (N : News g L h' ((P, listOf [Value.ref l, Value.int n1 tn1, Value.int q tq].toArray kp) :: (l, listOf (List.toArray vs) kl) :: rest)) : JPen g L m P l n1 tn1 kp rest s .next { s with heap := h', toks := tk' }
theorem zz3 : True := by
  k_with "k_all" => ((intro pA hA; refine neN (Nat.ne_of_lt ?_); refine (by assumption : ∀ p ∈ _, p.1 < _) pA ?_; (repeat (first | exact hA | apply List.Mem.tail)); done))
  k_with "k_all" => (with_reducible assumption)
  k_with "k_upd" => ((first | exact Picks.nil | (refine' Picks.cons ?kuc ?kud; (case kuc => k_upd); (case kud => k_upd)) | (refine' Pick.head ?kua; (case kua => k_all)) | (refine' Pick.tail ?kua ?kub; (case kua => k_ne); (case kub => k_upd)) | (refine' Upd.head ?kua; (case kua => k_all)) | (refine' Upd.tail ?kua ?kub; (case kua => k_ne); (case kub => k_upd))))
  k_with "ktr_rel" => ((refine cb_drop (by assumption) ?_; (repeat' (refine fa_cons (by k_mem) ?_)); first | exact List.forall_mem_nil _ | (intro pD hD; repeat (first | exact hD | apply List.Mem.tail))))
  k_with "compareOp NotEq ref ref" => (k_here; k_dflt (refine' ne_K ?k1 ?k2 ?k3 ?k4 ?k5 ?k6 ?_; (case k1 => k_asm); (case k2 => k_mem); (case k3 => k_mem); (case k4 => l_intsC); (case k5 => l_intsC); (case k6 => ktr_units); k_whole))
  k_with "binaryOp FloorDiv int int" => (k_here; (with_reducible refine floordiv_int ?ke ?_ (Or.inl (noPy ?kp ?kq))); (case ke => first | omega | (split <;> omega)); (case kp => first | omega | (split <;> omega)); (case kq => first | omega | (split <;> omega)))
  k_with "call builtin:list.pop" => (k_here; k_dflt (refine' pop0_K ?k1 ?k2 ?k3 ?k4 ?_; (case k1 => k_asm); (case k2 => k_asm); (case k3 => k_upd); (case k4 => omega); k_whole); intro h' F' N')
  k_with "binaryOp Pow int int" => (k_here; first | (with_reducible refine powL_K 18446744073709551616 ?kb1 ?kb2 ?kb3 ?kb4 ?_; (case kb4 => decide +kernel); (case kb1 => decide); (case kb2 => decide); (case kb3 => decide)) | (with_reducible refine powL_K 9223372036854775808 ?kb1 ?kb2 ?kb3 ?kb4 ?_; (case kb4 => decide +kernel); (case kb1 => decide); (case kb2 => decide); (case kb3 => decide)) | (with_reducible refine powL_K 4294967296 ?kb1 ?kb2 ?kb3 ?kb4 ?_; (case kb4 => decide +kernel); (case kb1 => decide); (case kb2 => decide); (case kb3 => decide)) | (with_reducible refine powL_K 2147483648 ?kb1 ?kb2 ?kb3 ?kb4 ?_; (case kb4 => decide +kernel); (case kb1 => decide); (case kb2 => decide); (case kb3 => decide)) | (with_reducible refine powL_K 340282366920938463463374607431768211456 ?kb1 ?kb2 ?kb3 ?kb4 ?_; (case kb4 => decide +kernel); (case kb1 => decide); (case kb2 => decide); (case kb3 => decide)) | (with_reducible refine powL_K 170141183460469231731687303715884105728 ?kb1 ?kb2 ?kb3 ?kb4 ?_; (case kb4 => decide +kernel); (case kb1 => decide); (case kb2 => decide); (case kb3 => decide)))
  k_with "cell_enter" => ((refine' code_def ?k1 ?k2 ?k3 ?k4 ?k5 ?kA ?kF ?kK ?k6 ?k7 ?k8 ?k9 ?kB ?_ ?c2 ?c3 ?c4 ?c5; (case kA => exact rfl); (case kF => exact rfl); (case kK => first | assumption | exact rfl); (case k1 => k_asm); (case k2 => k_asm); (case k3 => k_asm); (case k4 => k_asm); (case k5 => k_asm); (case k6 => k_is); (case k7 => k_is); (case k8 => ktr_room); (case k9 => first | exact BindsTo.of_eq rfl | exact binds_K (by k_in) rfl (by k_is) rfl rfl rfl); (case c5 => decide); (case kB => exact locs rfl); (case c2 => exact rfl); (case c3 => exact rfl); (case c4 => exact rfl); k_whole; intro g' L' h' FG' F' N' B' X' T'; (try dsimp only); (try k_lift B'); (try k_fold)))
  k_with "ktr_units" => (((try simp only [units_in1, units_deeper, units_under_make, Around.mark_units]); (try dsimp only [ktrTop]); omega))
  k_with "ktr_room" => (((try simp only [depth_mark, depth_under_make, depth_under_kw, depth_in1, depth_deeper]); (try dsimp only [ktrTop]); omega))
  k_with "execs cons" => (k_here; (first | ((with_reducible refine gentok fun tk' => ?_); (with_reducible refine wpAny_execs_cons ?_)) | (with_reducible refine wpAny_execs_cons ?_)); (try dsimp only))
  k_with "execs nil" => (k_here; (refine wpAny_execs_nil ?_))
  trivial
theorem join_pen {M : Model} {A : Around} {t : Sem Flow} {Q : Flow → Shared → Prop} {E : Value → Shared → Prop} {s : Shared} {g : Heap} {L : Addr} {m : Str → Option Value} {P l : Addr} {n1 q : Int} {tn1 tq : Tok} {kp kl : Nat} {vs : List Value} {rest : List (Addr × Obj)} (F : Fr g L s.heap m) (N : News g L s.heap ((P, listOf [Value.ref l, Value.int n1 tn1, Value.int q tq].toArray kp) :: (l, listOf (List.toArray vs) kl) :: rest))
    (h : wpAny M A t (JPen g L m P l n1 tn1 kp rest s) E s)
    (k : ∀ h' tk' q tq vs xs kl, Fr g L h' m → News g L h' ((P, listOf [Value.ref l, Value.int n1 tn1, Value.int q tq].toArray kp) :: (l, listOf (List.toArray vs) kl) :: rest) → IntsAre vs xs → (∀ x ∈ xs, 0 ≤ x) → 0 ≤ q → xs.length ≤ 40 → Q .next { s with heap := h', toks := tk' }) : wpAny M A t Q E s :=
  wpAny_mono h (fun fl s' hj => by cases hj; subst_vars; apply k <;> assumption) fun _ _ x => x
set_option maxHeartbeats 8000000 in
theorem draw_C {w : World} {mean : ExcName → Option Value} {mg mb : Str → Option Value}
    {dp un : Nat} {gd : Option (List Code)} {cn : Str} {cs : Scope} {a : Addr} {ccd : Value} {cl : List (Str × Addr)} {outer : List Env} {A₀ : Around} {base h₀ : Heap} {L : Addr} {m : Str → Option Value} {s : Shared} {Q E : Value → Shared → Prop}
    {P l : Addr} {many b : Int} {tm : Tok} {oP oL : Obj} {led rest : List (Addr × Obj)}
    (B : Below A₀ base outer h₀) (F : Fr h₀ L s.heap m) (X : (hd.heap_1 w.params).In h₀)
    (N : News h₀ L s.heap led) (Pk : Picks [(P, oP), (l, oL)] led rest)
    (T : Top qv Lo mean mg mb h₀) (hk : cs.kind = .function) (hP : PenIs l b oP oL) (hm : 0 < many) (hm2 : many < 2 ^ 70)
    (hd : dp + 3 < recursionLimit) (hu : un + 200 < cLine)
    (hret : ∀ v t oP' oL' h' tk', Fr h₀ L h' m → News h₀ L h' ((P, oP') :: (l, oL') :: rest) → PenIs l (b + 1) oP' oL' → 0 ≤ v → v < many → Q (.int v t) { s with heap := h', toks := tk' }) :
    wpAny (model Challenge.rw_ok0167_01.prog w) (ktrTop dp un gd cn cs L a ccd cl outer) (call (.ref 461) [.ref P, .int many tm]) Q E s := by
  have N1 := Pk.news N
  have A1 := Pk.apart
  clear N Pk
  obtain ⟨kp, kl, n, q, tn, tq, vs, xs, rfl, rfl, hI, hxs, hq, hlen, hn, hnb⟩ := hP
  simp only [List.cons_append, List.nil_append, Apart, AllNe, and_true, true_and] at N1 A1
  obtain ⟨hlP, hrP, hrl⟩ := A1
  refine wpAny_call ?_
  k_dflt cell_enter
  (repeat' ((fail_if_success (with_reducible show wpAny _ _ (exec (Stmt.If _ _ _ _) _) _ _ _)); (first | (k_unfold; (try dsimp only)) | walk1 | (dsimp only; walk1))))
  rename Fr _ _ _ _ => F9
  rename News _ _ _ _ => N9
  refine join_pen F9 N9 ?_ ?_
  · cases hI with
    | nil =>
      k_steps
      all_goals exact JPen.mk IntsAre.nil (fun _ h => nomatch h) hq (by decide) (by assumption) (by ktr_rel)
    | cons x0 t0 hI =>
      simp only [List.length_cons] at hlen
      have hLn := hI.length
      k_steps
      all_goals first
        | exact JPen.mk (IntsAre.cons _ _ hI) hxs hq hlen (by assumption) (by ktr_rel)
        | exact JPen.mk hI (fun x hx => hxs x (List.Mem.tail _ hx)) (hxs _ (List.Mem.head _)) (by omega) (by assumption) (by ktr_rel)
  clear F9 N9
  intro h9 tk9 q9 tq9 vs9 xs9 kl9 F9 N9 hI9 hx9 hq9 hl9
  (try k_unfold)
  (try dsimp only)
  k_steps
  exact hret _ _ _ _ _ _ (by assumption) (by ktr_rel) ⟨_, _, _, _, _, _, _, _, rfl, rfl, hI9, hx9, fdiv_nn hq9 hm, hl9, by omega, by omega⟩ (fmod_nn hm) (fmod_ltp hm)
-- Pk
theorem zrPk : True := by first | (row_walk; done) | trivial
theorem zz4 : True := by
  k_with "call ref" => (k_here; (with_reducible show wpAny _ _ (call (Value.ref 461) [Value.ref _, Value.int _ _]) _ _ _); k_dflt (refine' draw_C ?kB ?kF ?kX ?kN ?kPk ?kT ?kk ?kP ?km ?km2 ?kd ?ku ?_; (case kP => assumption); (case kB => k_asm); (case kF => k_asm); (case kX => k_asm); (case kN => k_asm); (case kPk => k_upd); (case kT => k_asm); (case kk => first | exact rfl | assumption); (case km => first | decide | omega); (case km2 => first | decide | omega); (case kd => ktr_room); (case ku => ktr_units)); intro v' t' oP' oL' h' tk' F' N' hP' hlo' hhi'; (try dsimp only); (try k_sweep); (try k_fold))
  trivial
theorem getD_memI {xs : List Int} {v : Int} (h0 : 0 ≤ v) (h1 : v < xs.length) : xs.getD v.toNat 0 ∈ xs := by
  have h : v.toNat < xs.length := by omega
  rw [List.getD_eq_getElem?_getD, List.getElem?_eq_getElem h]
  exact List.getElem_mem h
set_option maxHeartbeats 8000000 in
theorem pick_C {w : World} {mean : ExcName → Option Value} {mg mb : Str → Option Value}
    {dp un : Nat} {gd : Option (List Code)} {cn : Str} {cs : Scope} {a : Addr} {ccd : Value} {cl : List (Str × Addr)} {outer : List Env} {A₀ : Around} {base h₀ : Heap} {L : Addr} {m : Str → Option Value} {s : Shared} {Q E : Value → Shared → Prop}
    {P l S : Addr} {b : Int} {oP oL : Obj} {ks : Nat} {us : List Value} {ms : List Int} {led rest : List (Addr × Obj)}
    (B : Below A₀ base outer h₀) (F : Fr h₀ L s.heap m) (X : (hd.heap_1 w.params).In h₀)
    (N : News h₀ L s.heap led) (Pk : Picks [(P, oP), (l, oL), (S, listOf us.toArray ks)] led rest)
    (T : Top qv Lo mean mg mb h₀) (hk : cs.kind = .function) (hP : PenIs l b oP oL) (hI : IntsAre us ms) (hm : 0 < ms.length) (hm2 : ms.length ≤ 100)
    (hd : dp + 5 < recursionLimit) (hu : un + 300 < cLine)
    (hret : ∀ v t oP' oL' h' tk', Fr h₀ L h' m → News h₀ L h' ((P, oP') :: (l, oL') :: rest) → PenIs l (b + 1) oP' oL' → v ∈ ms → Q (.int v t) { s with heap := h', toks := tk' }) :
    wpAny (model Challenge.rw_ok0167_01.prog w) (ktrTop dp un gd cn cs L a ccd cl outer) (call (.ref 468) [.ref P, .ref S]) Q E s := by
  have N1 := Pk.news N
  have A1 := Pk.apart
  clear N Pk
  simp only [List.cons_append, List.nil_append, Apart, AllNe, and_true, true_and] at N1 A1
  obtain ⟨⟨hlP, hSP⟩, hrP, hSl, hrl, hrS⟩ := A1
  refine wpAny_call ?_
  k_dflt cell_enter
  k_steps
  all_goals (refine' hret _ _ _ _ _ _ ?zF ?zN ?zP ?zM; (case zF => assumption); (case zP => assumption); (case zN => ktr_rel); (case zM => exact getD_memI (by assumption) (by omega)))
-- Hf
theorem zrHf : True := by first | (row_walk; done) | trivial
theorem zz5 : True := by
  k_with "call ref" => (k_here; (with_reducible show wpAny _ _ (call (Value.ref 468) [Value.ref _, Value.ref _]) _ _ _); k_dflt (refine' pick_C ?kB ?kF ?kX ?kN ?kPk ?kT ?kk ?kP ?kI ?km ?km2 ?kd ?ku ?_; (case kP => assumption); (case kB => k_asm); (case kF => k_asm); (case kX => k_asm); (case kN => k_asm); (case kPk => k_upd); (case kT => k_asm); (case kk => first | exact rfl | assumption); (case kI => first | assumption | l_intsW); (case km => first | decide | omega); (case km2 => first | decide | omega); (case kd => ktr_room); (case ku => ktr_units)); intro v' t' oP' oL' h' tk' F' N' hP' hM'; (try dsimp only); (try k_sweep); (try k_fold))
  trivial
theorem getD_all {p : Int → Prop} {xs : List Int} (h : ∀ x ∈ xs, p x) {v : Int} (h0 : 0 ≤ v) (h1 : v < xs.length) : p (xs.getD v.toNat 0) := h _ (getD_memI h0 h1)
section
theorem zz6 : True := by
  k_with "subscriptTail" => (k_here; (with_reducible show wpAny _ _ (subscriptTail _ _ (Value.ref _) (Value.int _ _)) _ _ _); k_dflt (refine' ksa_sub ?k1 ?k2 ?k3 ?k4 ?k5 ?k6 ?_ ?k7; (case k1 => k_asm); (case k2 => k_mem); (case k3 => l_intsW); (case k4 => omega); (case k5 => (simp only [List.length_cons, List.length_nil]; omega)); (case k6 => omega); (case k7 => with_unfolding_all rfl); k_whole); intro _)
  trivial
set_option maxHeartbeats 8000000 in
theorem half_C {w : World} {mean : ExcName → Option Value} {mg mb : Str → Option Value}
    {dp un : Nat} {gd : Option (List Code)} {cn : Str} {cs : Scope} {a : Addr} {ccd : Value} {cl : List (Str × Addr)} {outer : List Env} {A₀ : Around} {base h₀ : Heap} {L : Addr} {m : Str → Option Value} {s : Shared} {Q E : Value → Shared → Prop}
    {P l : Addr} {b : Int} {oP oL : Obj} {led rest : List (Addr × Obj)}
    (B : Below A₀ base outer h₀) (F : Fr h₀ L s.heap m) (X : (hd.heap_1 w.params).In h₀)
    (N : News h₀ L s.heap led) (Pk : Picks [(P, oP), (l, oL)] led rest)
    (T : Top qv Lo mean mg mb h₀) (hk : cs.kind = .function) (hP : PenIs l b oP oL)
    (hd : dp + 5 < recursionLimit) (hu : un + 300 < cLine)
    (hret : ∀ v t oP' oL' h' tk', Fr h₀ L h' m → News h₀ L h' ((P, oP') :: (l, oL') :: rest) → PenIs l (b + 2) oP' oL' → 0 ≤ v → v < 2 ^ 64 → Q (.int v t) { s with heap := h', toks := tk' }) :
    wpAny (model Challenge.rw_ok0167_01.prog w) (ktrTop dp un gd cn cs L a ccd cl outer) (call (.ref 475) [.ref P]) Q E s := by
  have N1 := Pk.news N
  have A1 := Pk.apart
  clear N Pk
  simp only [List.cons_append, List.nil_append, Apart, AllNe, and_true, true_and] at N1 A1
  obtain ⟨hlP, hrP, hrl⟩ := A1
  refine wpAny_call ?_
  k_dflt cell_enter
  k_steps
  · refine' hret _ _ _ _ _ _ ?zF ?zN ?zP ?z0 ?z1
    case zF => assumption
    case zN => ktr_rel
    case zP => exact PenIs.mono (by assumption) (by omega)
    case z0 => exact getD_all (p := fun x => 0 ≤ x) (by decide) (by assumption) (by simp only [List.length_cons, List.length_nil]; omega)
    case z1 => exact getD_all (p := fun x => x < 2 ^ 64) (by decide) (by assumption) (by simp only [List.length_cons, List.length_nil]; omega)
  · refine' hret _ _ _ _ _ _ ?zF ?zN ?zP ?z0 ?z1
    case zF => assumption
    case zN => ktr_rel
    case zP => exact PenIs.mono (by assumption) (by omega)
    case z0 => assumption
    case z1 => omega
end

-- Wr
theorem zrWr : True := by first | (row_walk; done) | trivial
theorem zz7 : True := by
  k_with_none
  k_with "k_all" => ((intro pA hA; refine neN (Nat.ne_of_lt ?_); refine (by assumption : ∀ p ∈ _, p.1 < _) pA ?_; (repeat (first | exact hA | apply List.Mem.tail)); done))
  k_with "k_all" => (with_reducible assumption)
  k_with "k_upd" => ((first | exact Picks.nil | (refine' Picks.cons ?kuc ?kud; (case kuc => k_upd); (case kud => k_upd)) | (refine' Pick.head ?kua; (case kua => k_all)) | (refine' Pick.tail ?kua ?kub; (case kua => k_ne); (case kub => k_upd)) | (refine' Upd.head ?kua; (case kua => k_all)) | (refine' Upd.tail ?kua ?kub; (case kua => k_ne); (case kub => k_upd))))
  k_with "ktr_rel" => ((refine cb_drop (by assumption) ?_; (repeat' (refine fa_cons (by k_mem) ?_)); first | exact List.forall_mem_nil _ | (intro pD hD; repeat (first | exact hD | apply List.Mem.tail))))
  k_with "compareOp NotEq ref ref" => (k_here; k_dflt (refine' ne_K ?k1 ?k2 ?k3 ?k4 ?k5 ?k6 ?_; (case k1 => k_asm); (case k2 => k_mem); (case k3 => k_mem); (case k4 => l_intsC); (case k5 => l_intsC); (case k6 => ktr_units); k_whole))
  k_with "binaryOp FloorDiv int int" => (k_here; (with_reducible refine floordiv_int ?ke ?_ (Or.inl (noPy ?kp ?kq))); (case ke => first | omega | (split <;> omega)); (case kp => first | omega | (split <;> omega)); (case kq => first | omega | (split <;> omega)))
  k_with "call builtin:list.pop" => (k_here; k_dflt (refine' pop0_K ?k1 ?k2 ?k3 ?k4 ?_; (case k1 => k_asm); (case k2 => k_asm); (case k3 => k_upd); (case k4 => omega); k_whole); intro h' F' N')
  k_with "binaryOp Pow int int" => (k_here; first | (with_reducible refine powL_K 18446744073709551616 ?kb1 ?kb2 ?kb3 ?kb4 ?_; (case kb4 => decide +kernel); (case kb1 => decide); (case kb2 => decide); (case kb3 => decide)) | (with_reducible refine powL_K 9223372036854775808 ?kb1 ?kb2 ?kb3 ?kb4 ?_; (case kb4 => decide +kernel); (case kb1 => decide); (case kb2 => decide); (case kb3 => decide)) | (with_reducible refine powL_K 4294967296 ?kb1 ?kb2 ?kb3 ?kb4 ?_; (case kb4 => decide +kernel); (case kb1 => decide); (case kb2 => decide); (case kb3 => decide)) | (with_reducible refine powL_K 2147483648 ?kb1 ?kb2 ?kb3 ?kb4 ?_; (case kb4 => decide +kernel); (case kb1 => decide); (case kb2 => decide); (case kb3 => decide)) | (with_reducible refine powL_K 340282366920938463463374607431768211456 ?kb1 ?kb2 ?kb3 ?kb4 ?_; (case kb4 => decide +kernel); (case kb1 => decide); (case kb2 => decide); (case kb3 => decide)) | (with_reducible refine powL_K 170141183460469231731687303715884105728 ?kb1 ?kb2 ?kb3 ?kb4 ?_; (case kb4 => decide +kernel); (case kb1 => decide); (case kb2 => decide); (case kb3 => decide)))
  k_with "cell_enter" => ((refine' code_def ?k1 ?k2 ?k3 ?k4 ?k5 ?kA ?kF ?kK ?k6 ?k7 ?k8 ?k9 ?kB ?_ ?c2 ?c3 ?c4 ?c5; (case kA => exact rfl); (case kF => exact rfl); (case kK => first | assumption | exact rfl); (case k1 => k_asm); (case k2 => k_asm); (case k3 => k_asm); (case k4 => k_asm); (case k5 => k_asm); (case k6 => k_is); (case k7 => k_is); (case k8 => ktr_room); (case k9 => first | exact BindsTo.of_eq rfl | exact binds_K (by k_in) rfl (by k_is) rfl rfl rfl); (case c5 => decide); (case kB => exact locs rfl); (case c2 => exact rfl); (case c3 => exact rfl); (case c4 => exact rfl); k_whole; intro g' L' h' FG' F' N' B' X' T'; (try dsimp only); (try k_lift B'); (try k_fold)))
  k_with "ktr_units" => (((try simp only [units_in1, units_deeper, units_under_make, Around.mark_units]); (try dsimp only [ktrTop]); omega))
  k_with "ktr_room" => (((try simp only [depth_mark, depth_under_make, depth_under_kw, depth_in1, depth_deeper]); (try dsimp only [ktrTop]); omega))
  k_with "execs cons" => (k_here; (first | ((with_reducible refine gentok fun tk' => ?_); (with_reducible refine wpAny_execs_cons ?_)) | (with_reducible refine wpAny_execs_cons ?_)); (try dsimp only))
  k_with "execs nil" => (k_here; (refine wpAny_execs_nil ?_))
  trivial
set_option maxHeartbeats 8000000 in
theorem wrap_C {w : World} {mean : ExcName → Option Value} {mg mb : Str → Option Value}
    {dp un : Nat} {gd : Option (List Code)} {cn : Str} {cs : Scope} {a : Addr} {ccd : Value} {cl : List (Str × Addr)} {outer : List Env} {A₀ : Around} {base h₀ : Heap} {L : Addr} {m : Str → Option Value} {s : Shared} {Q E : Value → Shared → Prop}
    {x n : Int} {tx tn : Tok} {led : List (Addr × Obj)}
    (B : Below A₀ base outer h₀) (F : Fr h₀ L s.heap m) (X : (hd.heap_1 w.params).In h₀)
    (N : News h₀ L s.heap led) 
    (T : Top qv Lo mean mg mb h₀) (hk : cs.kind = .function) (hn : n = 32 ∨ n = 64 ∨ n = 128)
    (hd : dp + 5 < recursionLimit) (hu : un + 300 < cLine)
    (hret : ∀ t h' tk', Fr h₀ L h' m → News h₀ L h' led → Q (.int (low x n) t) { s with heap := h', toks := tk' }) :
    wpAny (model Challenge.rw_ok0167_01.prog w) (ktrTop dp un gd cn cs L a ccd cl outer) (call (.ref 81) [.int x tx, .int n tn]) Q E s := by
  have hn0 : 0 ≤ n := by omega
  have hn1 : n ≤ 128 := by omega
  refine wpAny_call ?_
  k_dflt cell_enter
  k_steps
  exact Qint (mask_low x n) (hret _ _ _ (by assumption) (by ktr_rel))
-- Si
theorem zrSi : True := by first | (row_walk; done) | trivial
set_option maxHeartbeats 8000000 in
theorem signed_C {w : World} {mean : ExcName → Option Value} {mg mb : Str → Option Value}
    {dp un : Nat} {gd : Option (List Code)} {cn : Str} {cs : Scope} {a : Addr} {ccd : Value} {cl : List (Str × Addr)} {outer : List Env} {A₀ : Around} {base h₀ : Heap} {L : Addr} {m : Str → Option Value} {s : Shared} {Q E : Value → Shared → Prop}
    {x n : Int} {tx tn : Tok} {led : List (Addr × Obj)}
    (B : Below A₀ base outer h₀) (F : Fr h₀ L s.heap m) (X : (hd.heap_1 w.params).In h₀)
    (N : News h₀ L s.heap led) 
    (T : Top qv Lo mean mg mb h₀) (hk : cs.kind = .function) (hn : n = 32 ∨ n = 64 ∨ n = 128)
    (hd : dp + 5 < recursionLimit) (hu : un + 300 < cLine)
    (hret : ∀ t h' tk', Fr h₀ L h' m → News h₀ L h' led → Q (.int (sgn x n) t) { s with heap := h', toks := tk' }) :
    wpAny (model Challenge.rw_ok0167_01.prog w) (ktrTop dp un gd cn cs L a ccd cl outer) (call (.ref 89) [.int x tx, .int n tn]) Q E s := by
  have hn0 : 0 ≤ n := by omega
  have hn1 : n ≤ 128 := by omega
  refine wpAny_call ?_
  k_dflt cell_enter
  k_steps
  · with_reducible rename ((Builtin.bitAnd _ _).fdiv _ ≠ 0) => hz
    rw [mask_low, Ne, fdiv_zero (low_nn _ _) (two_pos _), Int.not_lt] at hz
    exact Qint (by rw [mask_low, Int.one_mul, sgn_pos hz]) (hret _ _ _ (by assumption) (by ktr_rel))
  · with_reducible rename ((Builtin.bitAnd _ _).fdiv _ = 0) => hz
    rw [mask_low, fdiv_zero (low_nn _ _) (two_pos _)] at hz
    exact Qint (by rw [mask_low, sgn_neg (by omega)]) (hret _ _ _ (by assumption) (by ktr_rel))
-- Sb
theorem zrSb : True := by first | (row_walk; done) | trivial
set_option maxHeartbeats 8000000 in
theorem signbit_C {w : World} {mean : ExcName → Option Value} {mg mb : Str → Option Value}
    {dp un : Nat} {gd : Option (List Code)} {cn : Str} {cs : Scope} {a : Addr} {ccd : Value} {cl : List (Str × Addr)} {outer : List Env} {A₀ : Around} {base h₀ : Heap} {L : Addr} {m : Str → Option Value} {s : Shared} {Q E : Value → Shared → Prop}
    {x n : Int} {tx tn : Tok} {led : List (Addr × Obj)}
    (B : Below A₀ base outer h₀) (F : Fr h₀ L s.heap m) (X : (hd.heap_1 w.params).In h₀)
    (N : News h₀ L s.heap led) 
    (T : Top qv Lo mean mg mb h₀) (hk : cs.kind = .function) (hn : n = 32 ∨ n = 64) (hx : 0 ≤ x) (hx2 : x < 2 ^ n.toNat)
    (hd : dp + 5 < recursionLimit) (hu : un + 300 < cLine)
    (hret : ∀ h' tk', Fr h₀ L h' m → News h₀ L h' led → Q (.bool (decide (2 ^ (n - 1).toNat ≤ x))) { s with heap := h', toks := tk' }) :
    wpAny (model Challenge.rw_ok0167_01.prog w) (ktrTop dp un gd cn cs L a ccd cl outer) (call (.ref 251) [.int x tx, .int n tn]) Q E s := by
  have hn0 : 0 ≤ n := by omega
  have hn1 : n ≤ 128 := by omega
  refine wpAny_call ?_
  k_dflt cell_enter
  k_steps
  exact Qbool (bit_one hx (two_pos _) (by rcases hn with rfl | rfl <;> exact hx2)) (hret _ _ (by assumption) (by ktr_rel))
-- Ls
theorem zrLs : True := by first | (row_walk; done) | trivial
set_option maxHeartbeats 8000000 in
theorem lsign_C {w : World} {mean : ExcName → Option Value} {mg mb : Str → Option Value}
    {dp un : Nat} {gd : Option (List Code)} {cn : Str} {cs : Scope} {a : Addr} {ccd : Value} {cl : List (Str × Addr)} {outer : List Env} {A₀ : Around} {base h₀ : Heap} {L : Addr} {m : Str → Option Value} {s : Shared} {Q E : Value → Shared → Prop}
    {x n : Int} {tx tn : Tok} {led : List (Addr × Obj)}
    (B : Below A₀ base outer h₀) (F : Fr h₀ L s.heap m) (X : (hd.heap_1 w.params).In h₀)
    (N : News h₀ L s.heap led) 
    (T : Top qv Lo mean mg mb h₀) (hk : cs.kind = .function) (hn : n = 32 ∨ n = 64 ∨ n = 128)
    (hd : dp + 5 < recursionLimit) (hu : un + 300 < cLine)
    (hret : ∀ t h' tk', Fr h₀ L h' m → News h₀ L h' led → Q (.int (sgn x n) t) { s with heap := h', toks := tk' }) :
    wpAny (model Challenge.rw_ok0167_01.prog w) (ktrTop dp un gd cn cs L a ccd cl outer) (call (.ref 482) [.int x tx, .int n tn]) Q E s := by
  have hn0 : 0 ≤ n := by omega
  have hn1 : n ≤ 128 := by omega
  refine wpAny_call ?_
  k_dflt cell_enter
  k_steps
  · with_reducible rename (_ ≤ Int.fmod _ _) => hz
    rw [fmod_low] at hz
    exact Qint (by rw [fmod_low, sgn_pos hz]) (hret _ _ _ (by assumption) (by ktr_rel))
  · with_reducible rename (¬ _ ≤ Int.fmod _ _) => hz
    rw [fmod_low] at hz
    exact Qint (by rw [fmod_low, sgn_neg hz]) (hret _ _ _ (by assumption) (by ktr_rel))
-- Ex
theorem zrEx : True := by first | (row_walk; done) | trivial
noncomputable abbrev AX : Around := { handled := none, depth := 500, frames := none, guards := none, units := 5000 }
/-- the built-ins' table stands as booted -/
def Ext (w : World) (h : Heap) : Prop := h.get? 0 = some (boot_o_0 w.params)
theorem Ext.keeps {w : World} {g h : Heap} (X : Ext w g) (k : ∀ b o, g.get? b = some o → h.get? b = some o) : Ext w h := k _ _ X
theorem around_le {M : Model} {A A' : Around} {α : Type} {t : Sem α} {Q : α → Shared → Prop} {E : Value → Shared → Prop} {s : Shared} (h : ∀ Γ : Ctx, Γ.In A → Γ.In A') (x : wpAny M A' t Q E s) : wpAny M A t Q E s := fun Γ p hΓ => x Γ p (h Γ hΓ)
theorem in_AX {A : Around} (hh : A.handled = none) (hd : A.depth ≤ 500) (hu : A.units ≤ 5000) : ∀ Γ : Ctx, Γ.In A → Γ.In AX := fun Γ h => ⟨h.1.trans hh, Nat.le_trans h.2.1 hd, (fun _ e => nomatch e), (fun _ e => nomatch e), Nat.le_trans h.2.2.2.2 hu⟩
/-- the frames' addresses -/
abbrev frs (l : List Env) : List Addr := l.filterMap (·.frame)
/-- in flight: the exception and its traceback's head, off the ground and the ledger -/
def FlyAt (fl : Value) (g : Heap) (L : Addr) (h : Heap) (news : List (Addr × Obj)) (e dx : Addr) : Prop := ∃ oe vs T oT ts, News g L h ((e, oe) :: news) ∧ (∀ p ∈ news, p.1 ≠ e) ∧ oe.cls = .ref 59 ∧ oe.dict = some dx ∧ oe.data = .fields vs ∧ vs[1]? = some (.ref T) ∧
  News g L h [(T, oT)] ∧ T ≠ e ∧ (∀ p ∈ news, p.1 ≠ T) ∧ oT.data = .fields ts ∧ ts[3]? = some fl
def FlyNew (g : Heap) (L : Addr) (h : Heap) (news : List (Addr × Obj)) (e dx : Addr) : Prop := ∃ oe vs, News g L h ((e, oe) :: news) ∧ (∀ p ∈ news, p.1 ≠ e) ∧ oe.cls = .ref 59 ∧ oe.dict = some dx ∧ oe.data = .fields vs ∧ vs[1]? = some .none
/-- the ground again, behind a turn of the frames' slots and of some objects that are off it -/
theorem turn_led {A : Around} {base g h h' : Heap} {outer : List Env} {L a : Addr} {m : Str → Option Value} {name : Str} {scope : Scope} {cd : Value} (B : Below A base outer g) (F : Fr g L h m) (ex : List Addr)
    (p1 : ∀ b o, h.get? b = some o → b ∉ frs (envOf name scope L a cd :: outer) → b ∉ ex → h'.get? b = some o) (p2 : ∀ b o, h.get? b = some o → b ∉ ex → ∃ sl, h'.get? b = some { o with slots := sl })
    (fx : ∀ b ∈ ex, g.get? b = none ∧ b ≠ L) :
    ∃ g', KtsTurn (frs outer) g g' ∧ Fr g' L h' m ∧ Below A base outer g' ∧ (∀ b, g.get? b = none → g'.get? b = none) ∧ ∀ led, News g L h led → (∀ p ∈ led, p.1 ∉ ex) → News g' L h' led := by
  have nL := kts_self F
  have nx : ∀ b o, g.get? b = some o → b ∉ ex := fun b o e hb => by rw [(fx b hb).1] at e; cases e
  have nf : ∀ b, g.get? b = none → b ≠ L → b ∉ frs (envOf name scope L a cd :: outer) := fun b e ne hm => by
    rcases kts_mem hm with z | z
    · exact ne z
    · obtain ⟨_, o, ho, _⟩ := B.frames.mem z
      rw [e] at ho; cases ho
  obtain ⟨T, S⟩ := kts_turn_at (h := h') (fs := frs outer) (g := g)
    (fun b hb => by
      obtain ⟨_, o, ho, _⟩ := B.frames.mem hb
      exact ⟨o, ho⟩)
    (fun b o e nm => p1 b o (F.keep b o e) (fun hm => by
      rcases kts_mem hm with z | z
      · rw [z, nL] at e; cases e
      · exact nm z) (nx b o e))
    (fun b o e _ => p2 b o (F.keep b o e) (nx b o e))
  refine ⟨_, T, ⟨?_, S, by rw [T.size]; exact F.above⟩, ⟨B.stack, fun b o e => T.other b o (B.stays b o e) (fun hm => by
    rw [(B.frames.mem hm).1] at e; cases e), B.frames.of_keeps fun b o e _ => ?_⟩, fun b e => T.none_ b e, fun led N hx p hp => ?_⟩
  · obtain ⟨oL, es, ep, hL, hd, r⟩ := F.ns
    have : L ∉ ex := fun q => (fx L q).2 rfl
    obtain ⟨sl, hs⟩ := p2 L oL hL this
    exact ⟨_, es, ep, hs, hd, r⟩
  · obtain ⟨sl, hs⟩ := T.up e
    exact ⟨_, hs, rfl⟩
  · obtain ⟨n1, n2, n3⟩ := N p hp
    exact ⟨p1 _ _ n1 (nf _ n3 n2) (hx p hp), n2, T.none_ _ n3⟩
/-- one entry more at the traceback's head -/
theorem entry_led {M : Model} {A : Around} {E : Value → Shared → Prop} {s' : Shared} {base g : Heap} {outer : List Env} {L a e dx : Addr} {m : Str → Option Value} {name : Str} {scope : Scope} {cd : Value} {news : List (Addr × Obj)} {Q : Unit → Shared → Prop} {head : Value} {hn : Bool}
    {oe : Obj} {vs : Array Value}
    (B : Below A base outer g) (F : Fr g L s'.heap m) (hk : scope.kind = .function)
    (N : News g L s'.heap ((e, oe) :: news)) (hne : ∀ p ∈ news, p.1 ≠ e) (hc : oe.cls = .ref 59) (hdx : oe.dict = some dx) (hd : oe.data = .fields vs) (hsz : 1 < vs.size)
    (hQ : ∀ h' g', KtsTurn (frs outer) g g' → Fr g' L h' m → FlyAt (rawInt L) g' L h' news e dx → Below A base outer g' → Q () { s' with heap := h' }) :
    wpAny M (A.deeper (envOf name scope L a cd)) (do let f ← frameOf (envOf name scope L a cd); let pl ← entryPlaceOf L hn; let b ← EntryCells.newEntry head f .none (rawInt L) .none pl; setField (.ref e) 1 b) Q E s' := by
  have B' := B.push (name := name) (scope := scope) (a := a) (cd := cd) F hk
  have he := (N (e, oe) (.head _)).1
  refine wpAny_bind (wpAny_frameOf_fun (Around.frames_deeper B.stack) B'.frames rfl fun h₁ hs₁ => ?_)
  refine wpAny_bind (wpAny_entryPlaceOf fun pl hpl => ?_)
  unfold EntryCells.newEntry newFields
  refine wpAny_bind (wpAny_newObj_type ?_ (hpl.sizeOk5 _ _ _ _ _))
  have hen : e ∉ frs (envOf name scope L a cd :: outer) := fun hm => by
    obtain ⟨_, o, ho, hnf⟩ := B'.frames.mem hm
    rw [he] at ho; injection ho with ho; subst ho; exact hnf vs hd
  have he₁ : h₁.get? e = some oe := (hs₁.2.1 e hen).trans he
  generalize hO : ({ cls := .type "traceback", dict := none, data := .fields ([head, .ref L, .none, rawInt L, .none] ++ (if pl.isEmpty then List.replicate 6 Value.none else pl)).toArray } : Obj) = oT
  have hOd : oT.data = .fields ([head, .ref L, .none, rawInt L, .none] ++ (if pl.isEmpty then List.replicate 6 Value.none else pl)).toArray := by rw [← hO]
  have hOf : oT.isFreed = false := by rw [← hO]; rfl
  have he₂ := Heap.get?_push_of_some (h := h₁) oT he₁
  refine wpAny_setField he₂ hd hsz (?_)
  have hTe : h₁.objs.size ≠ e := Nat.ne_of_gt (Heap.lt_size he₁)
  have hd₃ := Obj.data_mapFields hd (·.setIfInBounds 1 (Value.ref h₁.objs.size))
  have he₃ := Heap.get?_update_self (Obj.mapFields (·.setIfInBounds 1 (Value.ref h₁.objs.size))) he₂ (Obj.isFreed_of_fields hd₃)
  have hT₃ := (Heap.get?_update_other (h₁.push oT) (Obj.mapFields (·.setIfInBounds 1 (Value.ref h₁.objs.size))) (Ne.symm hTe)).trans (Heap.get?_push_size h₁ hOf)
  have hTn : s'.heap.get? h₁.objs.size = none := by
    rw [hs₁.1]; exact Heap.get?_none_of_le (Nat.le_refl _)
  obtain ⟨g', T', F', B'', gn, led⟩ := turn_led (h' := (h₁.push oT).update e (Obj.mapFields (·.setIfInBounds 1 (Value.ref h₁.objs.size)))) (name := name) (scope := scope) (a := a) (cd := cd) B F [e] (fun b o hb nf nx => by
      have hbe : e ≠ b := fun z => nx (z ▸ List.mem_singleton.mpr rfl)
      rw [Heap.get?_update_other _ _ hbe]
      exact Heap.get?_push_of_some _ ((hs₁.2.1 b nf).trans hb))
    (fun b o hb nx => by
      have hbe : e ≠ b := fun z => nx (z ▸ List.mem_singleton.mpr rfl)
      obtain ⟨sl, hs⟩ := hs₁.2.2 b o hb
      exact ⟨sl, by rw [Heap.get?_update_other _ _ hbe]; exact Heap.get?_push_of_some _ hs⟩)
    (fun b hb => by rw [List.mem_singleton.mp hb]; exact ⟨(N (e, oe) (.head _)).2.2, (N (e, oe) (.head _)).2.1⟩)
  refine hQ _ g' T' F' ⟨_, _, h₁.objs.size, _, _, ?_, hne, by rw [Obj.cls_mapFields]; exact hc, ?_, hd₃, by simp [hsz], ?_, hTe, fun p hp z => ?_, hOd, by simp⟩ B''
  · intro p hp
    rcases List.mem_cons.mp hp with rfl | hp
    · exact ⟨he₃, (N (e, oe) (.head _)).2.1, gn _ (N (e, oe) (.head _)).2.2⟩
    · exact led news (fun q hq => N q (.tail _ hq)) (fun q hq z => hne q hq (List.mem_singleton.mp z)) p hp
  · rw [← hdx]
    obtain ⟨_, _, dt, _⟩ := oe
    dsimp only at hd; subst hd; rfl
  · intro p hp
    rw [List.mem_singleton.mp hp]
    refine ⟨hT₃, fun z => ?_, ?_⟩
    · have z' : h₁.objs.size = L := z
      obtain ⟨oL, _, _, hL, _⟩ := F.ns
      rw [z', hL] at hTn; cases hTn
    · refine gn _ ?_
      cases q : g.get? h₁.objs.size with
      | none => rfl
      | some o => have := F.keep _ _ q; rw [hTn] at this; cases this
  · have := (N p (.tail _ hp)).1
    rw [z, hTn] at this; cases this
theorem note_led {M : Model} {A : Around} {E : Value → Shared → Prop} {s' : Shared} {base g : Heap} {outer : List Env} {L a e dx : Addr} {m : Str → Option Value} {name : Str} {scope : Scope} {cd : Value} {news : List (Addr × Obj)} {Q : Unit → Shared → Prop}
    (B : Below A base outer g) (F : Fr g L s'.heap m) (hk : scope.kind = .function) (Y : FlyNew g L s'.heap news e dx ∨ FlyAt .none g L s'.heap news e dx)
    (hQ : ∀ h' g', KtsTurn (frs outer) g g' → Fr g' L h' m → FlyAt (rawInt L) g' L h' news e dx → Below A base outer g' → Q () { s' with heap := h' }) :
    wpAny M (A.deeper (envOf name scope L a cd)) (noteFrame (.ref e) (envOf name scope L a cd)) Q E s' := by
  have hf : (envOf name scope L a cd).frame = some L := rfl
  rcases Y with ⟨oe, vs, N, hne, hc, hdx, hd, h1⟩ | ⟨oe, vs, T, oT, ts, N, hne, hc, hdx, hd, h1, NT, hTe, hnT, hdT, h3⟩
  · unfold noteFrame
    simp only [hf]
    refine wpAny_bind (wpAny_field (N (e, oe) (.head _)).1 hd h1 ?_)
    rw [if_neg (by decide)]
    exact entry_led B F hk N hne hc hdx hd (Array.getElem?_eq_some_iff.mp h1).1 hQ
  · unfold noteFrame
    simp only [hf]
    have heT := (NT (T, oT) (.head _)).1
    refine wpAny_bind (wpAny_field (N (e, oe) (.head _)).1 hd h1 ?_)
    rw [if_pos (show (Value.ref T != Value.none) = true from by simp)]
    refine wpAny_bind (wpAny_field heT hdT h3 ?_)
    rw [if_neg (show ¬ ((Value.none == rawInt L) = true) from by simp [rawInt])]
    refine wpAny_bind (wpAny_setField heT hdT (Array.getElem?_eq_some_iff.mp h3).1 ?_)
    have z := news_upd (pre := []) (post := (e, oe) :: news) (d := T) (o := oT) (f := Obj.mapFields (·.setIfInBounds 3 Value.none)) F (fun p hp => by
        rcases List.mem_cons.mp hp with rfl | hp
        · exact NT _ (.head _)
        · exact N p hp) (fun _ h => nomatch h) (fun p hp => by
        rcases List.mem_cons.mp hp with rfl | hp
        · exact Ne.symm hTe
        · exact hnT p hp) rfl (Obj.isFreed_of_fields (Obj.data_mapFields hdT _))
    exact entry_led (s' := { s' with heap := s'.heap.update T (Obj.mapFields (·.setIfInBounds 3 Value.none)) }) B z.1 hk (fun p hp => z.2 p (.tail _ hp)) hne hc hdx hd (Array.getElem?_eq_some_iff.mp h1).1 hQ
theorem flight_led {M : Model} {A : Around} {E : Value → Shared → Prop} {s' : Shared} {g : Heap} {L e dx : Addr} {m : Str → Option Value} {news : List (Addr × Obj)} {fl : Value} {Q : Unit → Shared → Prop}
    (F : Fr g L s'.heap m) (Y : FlyAt fl g L s'.heap news e dx)
    (hQ : ∀ h', Fr g L h' m → FlyAt .none g L h' news e dx → Q () { s' with heap := h' }) : wpAny M A (setFlight (.ref e) none) Q E s' := by
  obtain ⟨oe, vs, T, oT, ts, N, hne, hc, hdx, hd, h1, NT, hTe, hnT, hdT, h3⟩ := Y
  have heT := (NT (T, oT) (.head _)).1
  unfold setFlight
  refine wpAny_bind (wpAny_field (N (e, oe) (.head _)).1 hd h1 ?_)
  rw [if_pos (show (Value.ref T != Value.none) = true from by simp)]
  refine wpAny_setField heT hdT (Array.getElem?_eq_some_iff.mp h3).1 ?_
  have z := news_upd (pre := []) (post := (e, oe) :: news) (d := T) (o := oT) (f := Obj.mapFields (·.setIfInBounds 3 ((none : Option Addr).elim Value.none fun f => rawInt f))) F (fun p hp => by
      rcases List.mem_cons.mp hp with rfl | hp
      · exact NT _ (.head _)
      · exact N p hp) (fun _ h => nomatch h) (fun p hp => by
      rcases List.mem_cons.mp hp with rfl | hp
      · exact Ne.symm hTe
      · exact hnT p hp) rfl (Obj.isFreed_of_fields (Obj.data_mapFields hdT _))
  have hlt := (Array.getElem?_eq_some_iff.mp h3).1
  exact hQ _ z.1 ⟨oe, vs, T, _, _, fun p hp => z.2 p (.tail _ hp), hne, hc, hdx, hd, h1, fun p hp => by rw [List.mem_singleton.mp hp]; exact z.2 _ (.head _), hTe, hnT, Obj.data_mapFields hdT _, by simp [hlt]⟩
theorem leave_led {M : Model} {A : Around} {E : Value → Shared → Prop} {s' : Shared} {base g : Heap} {outer : List Env} {L a e dx : Addr} {m : Str → Option Value} {name : Str} {scope : Scope} {cd : Value} {news : List (Addr × Obj)} {Q : Unit → Shared → Prop}
    (B : Below A base outer g) (F : Fr g L s'.heap m) (hk : scope.kind = .function) (Y : FlyNew g L s'.heap news e dx ∨ FlyAt .none g L s'.heap news e dx)
    (hQ : ∀ h' g', KtsTurn (frs outer) g g' → Fr g' L h' m → FlyAt .none g' L h' news e dx → Below A base outer g' → Q () { s' with heap := h' }) :
    wpAny M (A.deeper (envOf name scope L a cd)) (leaving (envOf name scope L a cd) (.ref e)) Q E s' := by
  unfold leaving
  refine wpAny_bind (note_led B F hk Y fun h' g' T F' Y' B' => ?_)
  exact flight_led (s' := { s' with heap := h' }) F' Y' fun h'' F'' Y'' => hQ h'' g' T F'' Y'' B'
theorem FlyAt.back {fl : Value} {g h₀ h : Heap} {L L' : Addr} {news : List (Addr × Obj)} {e dx : Addr} (Y : FlyAt fl g L' h news e dx) (k : ∀ led, News g L' h led → News h₀ L h led) : FlyAt fl h₀ L h news e dx := by
  obtain ⟨oe, vs, T, oT, ts, N, hne, hc, hdx, hd, h1, NT, r⟩ := Y
  exact ⟨oe, vs, T, oT, ts, k _ N, hne, hc, hdx, hd, h1, k _ NT, r⟩
/-- into a def that may raise, or turn the frames' slots: the way back at any end -/
theorem enterX {prog : Program} {w : World} {A₀ A : Around} {s : Shared} {base h₀ : Heap} {env : Env} {outer : List Env} {L : Addr} {m : Str → Option Value} {news : List (Addr × Obj)} {K : Frag} {p : Program} {loose : List Str} {mean : ExcName → Option Value} {mg mb : Str → Option Value}
    {R : Result → Shared → Prop} {name qual : Str} {params : Arguments} {body : List Stmt} {scope : Scope} {dV kV doc pm cdv ct oc : Value} {an od : Option Addr} {osl : Array (Option Value)} {f : Addr} {args : Args} {binds : List (Str × Value)}
    (B : Below A₀ base outer h₀) (F : Fr h₀ L s.heap m) (X₀ : K.In h₀) (XE : Ext w h₀) (N : News h₀ L s.heap news) (T : Top p loose mean mg mb h₀) (XB : K.In base) (EB : Ext w base) (TB : Top p loose mean mg mb base) (hA : A.frames = some (env :: outer)) (hf : env.frame = some L) (hke : env.scope.kind = .function)
    (ho : K.lookup f = some ⟨oc, od, .func (fnOf name qual params body scope dV kV doc pm an cdv ct), osl⟩) (hcd : codeIn K cdv qual = true) (hroom : A.depth < recursionLimit)
    (hbind : BindsTo s (fnOf name qual params body scope dV kV doc pm an cdv ct) args binds) (hloc : ∀ y ∈ binds, scope.names.lookup y.1 = some .local)
    (h : ∀ g L' h₁, Fr h₀ L g m → Fr g L' h₁ (fun y => binds.reverse.lookup y) → News g L' h₁ news → Below A base (env :: outer) g → K.In g → Top p loose mean mg mb g → Ext w g →
      (∀ g' h' m', KtsTurn (frs (env :: outer)) g g' → Fr g' L' h' m' → ∃ h₀', KtsTurn (frs outer) h₀ h₀' ∧ Fr h₀' L h' m ∧ Below A₀ base outer h₀' ∧ K.In h₀' ∧ Top p loose mean mg mb h₀' ∧ Ext w h₀' ∧ ∀ led, News g' L' h' led → News h₀' L h' led) →
      wpAny (model prog w) (A.deeper (envOf qual scope L' f cdv)) (execs body (envOf qual scope L' f cdv))
        (fun fl s' => R (.ok (.ret (match fl with | .ret v => v | _ => .none))) s')
        (fun e s' => wpAny (model prog w) (A.deeper (envOf qual scope L' f cdv)) (leaving (envOf qual scope L' f cdv) e) (fun _ s'' => R (.error e) s'') (fun e' s'' => R (.error e') s'') s')
        { s with heap := h₁, toks := s.toks + binds.length })
    (hco : scope.isCoroutine = false) (hgen : scope.isGenerator = false) (hk : scope.kind = .function)
    (hcell : ∀ x ∈ scope.names, x.2 ≠ .cell) : codeAny (model prog w) A (.call (.ref f) args) R s := by
  have X := X₀.keeps F.keep
  refine codeAny_call_def (fd := fnOf name qual params body scope dV kV doc pm an cdv ct) (body := body) (binds := binds) hroom (X _ _ ho) rfl (T.nolimit.keeps F.keep) (codeRec_of X hcd) rfl hbind hcell hloc (fun h₁ hns hk₁ => ?_) hco hgen hk
  obtain ⟨FG, B₂, st, _⟩ := groundX (R := R) B F N hA hf hke
  obtain ⟨oL, es, ep, hLg, hLd, hLk, hLf⟩ := FG.ns
  have mem : ∀ {b : Addr}, b ∈ frs (env :: outer) → b = L ∨ b ∈ frs outer := fun hm => by
    obtain ⟨env', he, hf'⟩ := List.mem_filterMap.mp hm
    rcases List.mem_cons.mp he with rfl | he
    · exact .inl (Option.some.inj (hf'.symm.trans hf))
    · exact .inr (List.mem_filterMap.mpr ⟨env', he, hf'⟩)
  have nL₀ : h₀.get? L = none := kts_self F
  refine h _ s.heap.objs.size h₁ FG ⟨hns, fun b o e => hk₁ b o (of_hideAll _ e), Nat.le_of_eq (hideAll_size _ _)⟩
    (fun p hp => ⟨hk₁ _ _ (N p hp).1, Nat.ne_of_lt (Heap.lt_size (N p hp).1), hideAll_none _ (List.mem_map_of_mem hp)⟩) B₂ (X₀.keeps st) (T.keeps st) (XE.keeps st) (fun g' h' m' T' F' => ?_)
  obtain ⟨sl, hs⟩ := T'.up hLg
  obtain ⟨T₁, S₁⟩ := kts_turn_at (h := h') (fs := frs outer) (g := h₀)
    (fun b hb => by
      obtain ⟨_, o, ho', _⟩ := B.frames.mem hb
      exact ⟨o, ho'⟩)
    (fun b o e nmem => F'.keep b o (T'.other b o (st b o e) (fun q => by
      rcases mem q with z | z
      · rw [z, nL₀] at e; cases e
      · exact nmem z)))
    (fun b o e hm => by
      obtain ⟨sl', hs'⟩ := T'.up (st b o e)
      exact ⟨sl', F'.keep _ _ hs'⟩)
  have B₃ : Below A₀ base outer (ktsHeap h' (frs outer) h₀) := ⟨B.stack, fun b o e => T₁.other b o (B.stays b o e) (fun hm => by
    rw [(B.frames.mem hm).1] at e; cases e), B.frames.of_keeps fun b o e _ => by
    obtain ⟨sl', hs'⟩ := T₁.up e
    exact ⟨_, hs', rfl⟩⟩
  refine ⟨_, T₁, ⟨⟨_, es, ep, F'.keep _ _ hs, hLd, hLk, hLf⟩, S₁, by rw [T₁.size]; exact F.above⟩, B₃, XB.keeps B₃.stays, TB.keeps B₃.stays, EB.keeps B₃.stays, fun led N' p hp => ⟨(N' p hp).1, fun q => ?_, ?_⟩⟩
  · have := (N' p hp).2.2; rw [q, hs] at this; cases this
  · refine T₁.none_ _ ?_
    cases q : h₀.get? p.1 with
    | none => rfl
    | some o =>
      obtain ⟨sl', hs'⟩ := T'.up (st _ _ q)
      have := (N' p hp).2.2
      rw [hs'] at this; cases this
/-- the text's own exception, raised -/
theorem raise_own {M : Model} {A : Around} {E : Value → Shared → Prop} {env : Env} {s : Shared} {x : Sem Value} {Q : Flow → Shared → Prop} {C N : Addr} {nm q : Str} {bs bm : List Value} {hdct : Bool} {sn : List Str} {sub : List Value} {ab : Bool} {col : Option Bool} {dd : Option Addr} {k0 k1 k2 k3 k5 : Option Value} {newId : String}
    (hbase : bm.contains (.type "BaseException") = true) (hh : A.handled = none)
    (h : wpAny M A x (fun v s₁ => ∃ e t dx sl, v = .ref e ∧ s₁.heap.get? C = some (excClassObj nm q C N bs bm hdct sn sub ab col dd k0 k1 k2 k3 k5 newId) ∧
      s₁.heap.get? e = some { cls := .ref C, dict := dx, data := .fields #[.ref t, .none, .none, .none, .bool false, .none], slots := sl } ∧ E (.ref e) s₁) E s) :
    wpAny M A (raiseStmt env (some x) none) Q E s := by
  have hcB : (Value.ref C :: bm).contains (.type "BaseException") = true := by rw [List.contains_cons, hbase, Bool.or_true]
  unfold raiseStmt
  refine wpAny_bind (wpAny_mono h (fun v s₁ h₁ => ?_) fun _ _ x => x)
  obtain ⟨e, t, dx, sl, rfl, hC, he, hE⟩ := h₁
  obtain ⟨hp, g, d, tk, os⟩ := s₁
  repeat (first | with_reducible refine wpAny_loadPart_at he ?_ | with_reducible refine wpAny_loadPart_at hC ?_ | (with_reducible refine wpAny_isSubtype_exc hC ?_; rw [hcB]) | wp_step)
  exact wpAny_raiseNew_none hh hE
theorem FlyAt.sub {fl : Value} {g h : Heap} {L : Addr} {news news' : List (Addr × Obj)} {e dx : Addr} (Y : FlyAt fl g L h news e dx) (k : ∀ p ∈ news', p ∈ news) : FlyAt fl g L h news' e dx := by
  obtain ⟨oe, vs, T, oT, ts, N, hne, hc, hdx, hd, h1, NT, hTe, hnT, r⟩ := Y
  refine ⟨oe, vs, T, oT, ts, fun p hp => ?_, fun p hp => hne p (k p hp), hc, hdx, hd, h1, NT, hTe, fun p hp => hnT p (k p hp), r⟩
  rcases List.mem_cons.mp hp with rfl | hp
  · exact N _ (.head _)
  · exact N _ (.tail _ (k p hp))
theorem mem_mid {α : Type} {a b : α} {l : List α} : ∀ p ∈ a :: l, p ∈ a :: b :: l := fun p hp => (List.mem_cons.mp hp).elim (fun e => e ▸ .head _) fun h => .tail _ (.tail _ h)

-- Fx
theorem zrFx : True := by first | (row_walk; done) | trivial
section
variable {M : Model} {prog : Program} {w : World} {A : Around} {E : Value → Shared → Prop} {R : Result → Shared → Prop} {h : Heap} {g : Array GenState} {d : Drawn} {t : Nat} {os : OsState}
variable {nm q : Str} {C N : Addr} {bs bm : List Value} {hdct : Bool} {sn : List Str} {sub : List Value} {ab : Bool} {col : Option Bool} {dd : Option Addr} {k0 k1 k2 k3 k5 : Option Value} {Bn newId inN : String} {bmN : List Value}
theorem chk_mid (Fn : ExcBaseFacts Bn newId inN bmN) (hBn : bm.contains (.type Bn) = true) {rest : List Value} {Q : Unit → Shared → Prop} (hC : h.get? C = some (excClassObj nm q C N bs bm hdct sn sub ab col dd k0 k1 k2 k3 k5 newId))
    (hq : Q () ⟨h, g, d, t, os⟩) : wpAny M A (checkBuiltinCall newId ⟨.ref C :: rest, []⟩) Q E ⟨h, g, d, t, os⟩ := by
  have hcont : (Value.ref C :: bm).contains (.type Bn) = true := by rw [List.contains_cons, hBn, Bool.or_true]
  have hstar := Fn.noStar
  simp only [checkBuiltinCall, Fn.newKind, Fn.newSplit, Fn.newRow]
  repeat (first | refine wpAny_loadPart_at hC ?_ | (refine wpAny_isSubtype_exc hC ?_; rw [hcont]) | refine wpAny_staticBase_exc hC ?_ | refine wpAny_madeBy_exc hC ?_ | simp only [bne_self_eq_false, Bool.false_eq_true, if_false] | wp_step)
  exact hq
theorem new_mid (Fn : ExcBaseFacts Bn newId inN bmN) (hBn : bm.contains (.type Bn) = true) (hnA : bm.contains (.type "AttributeError") = false) (hnN : bm.contains (.type "NameError") = false) {rest : List Value} (hC : h.get? C = some (excClassObj nm q C N bs bm hdct sn sub ab col dd k0 k1 k2 k3 k5 newId))
    (hq : R (.ok (.ret (.ref (h.objs.size + 1)))) ⟨(h.push { cls := .type "tuple", data := .seq rest.toArray }).push
      { cls := .ref C, data := .fields #[.ref h.objs.size, .none, .none, .none, .bool false, .none] }, g, d, t, os⟩) (hrest : rest.length ≤ sizeLine := by size_fits) :
    codeAny (model prog w) A (.builtin newId ⟨.ref C :: rest, []⟩) R ⟨h, g, d, t, os⟩ := by
  have hends := Fn.ends
  have hcB : (Value.ref C :: bm).contains (.type Bn) = true := by rw [List.contains_cons, hBn, Bool.or_true]
  have hcA : (Value.ref C :: bm).contains (.type "AttributeError") = false := by rw [List.contains_cons, hnA]; rfl
  have hcN : (Value.ref C :: bm).contains (.type "NameError") = false := by rw [List.contains_cons, hnN]; rfl
  refine codeAny_builtinAt Fn.entry ?_
  unfold Builtin.«BaseException.__new__»
  refine PySem.wpAt_bind ?_
  show PySem.wpAt _ _ _ (stack >>= _) _ _ _
  refine PySem.wpAt_bind (PySem.wpAt_stack fun p below => PySem.wpAt_of_wpAny ?_)
  wp_walk
  refine PySem.wpAt_of_wpAny ?_
  rw [Fn.owner]
  repeat (first | with_reducible refine wpAny_madeHere_exc Fn.canon hC ?_ | with_reducible refine wpAny_loadPart_at hC ?_ | (with_reducible refine wpAny_isSubtype_exc hC ?_; first | rw [hcB] | rw [hcA] | rw [hcN]) | wp_step)
  show R _ _
  rw [Heap.size_push]
  exact hq
theorem tcall_mid (Fn : ExcBaseFacts Bn newId inN bmN) (hBn : bm.contains (.type Bn) = true) (hnA : bm.contains (.type "AttributeError") = false) (hnN : bm.contains (.type "NameError") = false) {rest : List Value} {fI : Addr} {oI : Obj} {Q : Fin → Shared → Prop}
    (hC : h.get? C = some (excClassObj nm q C N bs bm hdct sn sub ab col dd k0 k1 k2 k3 k5 newId)) (hlk : Looks (model prog w) h (typeLookup (.ref C) (Str.ofString "__init__")) (some (.ref fI)))
    (hfI : h.get? fI = some oI) (hfc : oI.cls = .type "function")
    (hq : ∀ h' e, Heap.MadeExcOf h h' e (.ref C) rest →
      wpAny (model prog w) A (call (.ref fI) (.ref e :: rest)) (fun r s' => r = .none ∧ Q (.done (.ret (.ref e))) s') E ⟨h', g, d, t, os⟩) (hrest : rest.length ≤ sizeLine := by size_fits) :
    wpAny (model prog w) A (Builtin.«type.__call__» ⟨.ref C :: rest, []⟩) Q E ⟨h, g, d, t, os⟩ := by
  repeat (first | with_reducible refine wpAny_loadPart_at hC ?_ | with_reducible refine wpAny_madeBy_exc hC ?_ | wp_step)
  refine codeAny_call_builtin_code (Code.quiet_builtin _ Fn.quiet) (chk_mid Fn hBn hC ?_)
  refine new_mid Fn hBn hnA hnN hC ?_ hrest
  show wpAny _ _ _ _ _ _
  have kp : ∀ b o, h.get? b = some o → ((h.push { cls := .type "tuple", data := .seq rest.toArray }).push { cls := .ref C, data := .fields #[.ref h.objs.size, .none, .none, .none, .bool false, .none] }).get? b = some o := fun b o hb => Heap.get?_push_of_some _ (Heap.get?_push_of_some _ hb)
  have hC₁ := kp _ _ hC
  have hfI₁ := kp _ _ hfI
  have hget : ((h.push { cls := .type "tuple", data := .seq rest.toArray }).push
      { cls := .ref C, data := .fields #[.ref h.objs.size, .none, .none, .none, .bool false, .none] }).get? (h.objs.size + 1) = some
      { cls := .ref C, data := .fields #[.ref h.objs.size, .none, .none, .none, .bool false, .none] } := by heap_get
  have hcC : (Value.ref C :: bm).contains (.ref C) = true := by simp
  unfold isInstance
  repeat (first | with_reducible refine wpAny_loadPart_at hget ?_ | (with_reducible refine wpAny_isSubtype_exc hC₁ ?_; rw [hcC]) | wp_step)
  show wpAny _ _ (typeLookup (.ref C) _) _ _ _
  refine hlk _ _ _ _ kp ?_
  refine wpAny_holding (wpAny_bind ?_)
  unfold bindSpecial
  refine wpAny_bind (wpAny_typeOf (T := "function") ⟨_, hfI₁, hfc⟩ ?_)
  rw [if_pos (by decide)]
  refine wpAny_pure (wpAny_bind (wpAny_mono (hq _ (h.objs.size + 1) ⟨fun b o hb => Heap.get?_push_of_some _ (Heap.get?_push_of_some _ hb), Heap.get?_none_of_le (Nat.le_succ _), h.objs.size, hget, Heap.get?_none_of_le (Nat.le_refl _), ?_⟩) (fun r s' hr => ?_) fun _ _ x => x))
  · exact Heap.get?_push_of_some _ (Heap.get?_push_at rfl rfl)
  · obtain ⟨rfl, hQ⟩ := hr
    wp_walk
    exact hQ
theorem call_mid (Fn : ExcBaseFacts Bn newId inN bmN) (hBn : bm.contains (.type Bn) = true) (hnA : bm.contains (.type "AttributeError") = false) (hnN : bm.contains (.type "NameError") = false) {rest : List Value} {fI : Addr} {oI : Obj} {Q : Value → Shared → Prop}
    (hC : h.get? C = some (excClassObj nm q C N bs bm hdct sn sub ab col dd k0 k1 k2 k3 k5 newId)) (hlk : Looks (model prog w) h (typeLookup (.ref C) (Str.ofString "__init__")) (some (.ref fI)))
    (hfI : h.get? fI = some oI) (hfc : oI.cls = .type "function")
    (hq : ∀ h' e, Heap.MadeExcOf h h' e (.ref C) rest →
      wpAny (model prog w) (A.under (.builtin "type.__call__" ⟨.ref C :: rest, []⟩)) (call (.ref fI) (.ref e :: rest)) (fun r s' => r = .none ∧ Q (.ref e) s') E ⟨h', g, d, t, os⟩) (hrest : rest.length ≤ sizeLine := by size_fits) :
    wpAny (model prog w) A (call (.ref C) rest) Q E ⟨h, g, d, t, os⟩ := by
  have f1 := tc_lookup
  have f2 := tc_bind (.ref C)
  have hT : (⟨h, g, d, t, os⟩ : Shared).TypeIs (.ref C) "type" := ⟨_, hC, rfl⟩
  refine wpAny_call (codeAny_of_tree ?_)
  show wpAny _ _ (callAny (.ref C) _) _ _ _
  repeat (any_goals (first | assumption | with_reducible refine wpAny_loadPart_at hC ?_ | wp_step))
  refine ⟨rfl, ?_⟩
  refine codeAny_call_builtin_at (Code.quiet_builtin _ (by decide +kernel)) entry_typeCall (wpAny_check_type_call_sub hC (tcall_mid (hrest := hrest) Fn hBn hnA hnN hC hlk hfI hfc fun h' e hm => ?_))
  exact hq h' e hm
end
/-- Fault's call: what is left is GateError's __init__ -/
theorem fault_call {prog : Program} {w : World} {A : Around} {s : Shared} {Q E : Value → Shared → Prop} {rest : List Value} (X : (hd.heap_1 w.params).In s.heap)
    (hq : ∀ h' e, Heap.MadeExcOf s.heap h' e (.ref 59) rest →
      wpAny (model prog w) (A.under (.builtin "type.__call__" ⟨.ref 59 :: rest, []⟩)) (call (.ref 36) (.ref e :: rest)) (fun r s' => r = .none ∧ Q (.ref e) s') E { s with heap := h' }) (hrest : rest.length ≤ sizeLine := by size_fits) :
    wpAny (model prog w) A (call (.ref 59) rest) Q E s := by
  obtain ⟨oI, hI, hc⟩ : ∃ oI, (hd.heap_1 w.params).lookup 36 = some oI ∧ oI.cls = .type "function" := ⟨_, rfl, rfl⟩
  obtain ⟨nm, q, N, bs, hdct, sn, sub, ab, col, dd, k0, k1, k2, k3, k5, hC⟩ : ∃ nm q N bs hdct sn sub ab col dd k0 k1 k2 k3 k5, (hd.heap_1 w.params).lookup 59 = some (excClassObj nm q 59 N bs [.ref 46, .type "Exception", .type "BaseException", .type "object"] hdct sn sub ab col dd k0 k1 k2 k3 k5 "Exception.__new__") := ⟨_, _, _, _, _, _, _, _, _, _, _, _, _, _, _, rfl⟩
  exact call_mid PySem.F.excBase_Exception (by decide) (by decide) (by decide) (X _ _ hC) (looks_findIn (M := model prog w) X (t := .ref 59) (name := Str.ofString "__init__") (r := some (.ref 36)) rfl) (X _ _ hI) hc hq hrest
/-- an exception of the text's own, just made: its args, its dict (what, at) -/
def ExcNew (msg : Str) (dx t : Addr) (oe od : Obj) : Prop := (∃ sl, oe = ⟨.ref 59, some dx, .fields #[.ref t, .none, .none, .none, .bool false, .none], sl⟩) ∧
  ∃ q1 q2 t1 t2 t3 n, od = dictOf [⟨q1, .str (Str.ofString "what") t1, .str msg t3⟩, ⟨q2, .str (Str.ofString "at") t2, .none⟩] n
abbrev exc59o (dx : Option Addr) (t : Addr) : Obj := ⟨.ref 59, dx, .fields #[.ref t, .none, .none, .none, .bool false, .none], #[]⟩
abbrev mro59 : List Value := [.ref 59, .ref 46, .type "Exception", .type "BaseException", .type "object"]
theorem cls59 (w : World) : ∃ cd, clsIn (hd.heap_1 w.params) 59 = some cd ∧ cd.mro = mro59 ∧ cd.hasDict = true := ⟨_, rfl, rfl, rfl⟩
section
variable {prog : Program} {w : World} {A : Around} {E : Value → Shared → Prop} {s : Shared} {h₀ : Heap} {L e dx t : Addr} {m : Str → Option Value} {led : List (Addr × Obj)} {name : Str} {v : Value} {tk : Tok} {es es' : List DictEntry} {n n' : Nat}
theorem put_in {Q : Fin → Shared → Prop} {d : Addr} (D : s.heap.get? d = some (dictOf es n)) (hl : (lookIn name (dictOf es n)).isSome = true)
    (ep : Obj.putName name (PyData.keyHash w.params name) (.str name s.toks) v (dictOf es n) = dictOf es' n') (hz : es'.length ≤ 1000)
    (h : Q (.done (.ret .none)) { s with heap := s.heap.update d (Obj.putName name (PyData.keyHash w.params name) (.str name s.toks) v), toks := s.toks + 1 }) :
    wpAny (model prog w) A (Builtin.ObjectAttr.storeInDict d (.str name tk) name v) Q E s := by
  have D' : (s.heap.update d (Obj.putName name (PyData.keyHash w.params name) (.str name s.toks) v)).get? d = some (dictOf es' n') := ep ▸ Heap.get?_update_self _ D (by rw [ep]; rfl)
  refine wpAny_bind (wpAny_pure (wpAny_bind ?_))
  unfold nsSet
  refine wpAny_bind (wpAny_bind (wpAny_askSetting (wpAny_pure (wpAny_bind (wpAny_mkText (wpAny_bind (wpAny_loadPart D ?_)))))))
  dsimp only
  have c : (!es.toArray.any (·.key.isStr name) && es.toArray.any (·.refKey)) = false := by
    unfold lookIn at hl
    dsimp only at hl
    rw [← Array.any_toList, ← Array.any_toList]
    split at hl
    · rename_i en he
      rw [List.any_eq_true.mpr ⟨en, List.mem_of_find?_eq_some he, List.find?_some he⟩]; rfl
    · split at hl
      · cases hl
      · rename_i z; rw [Bool.not_eq_true] at z; rw [z, Bool.and_false]
  rw [aRefKeyMayBeTheName_at, c]
  refine wpAny_updatePart D ?_
  exact wpAny_bind (wpAny_lookBehind D' (pastItsLine_dict (by rw [List.size_toArray, sizeLine_eq]; omega)) (wpAny_pure h))
theorem set59 {ox : Obj} {od : Option Obj} {Q : Unit → Shared → Prop} (X : (hd.heap_1 w.params).In s.heap) (I : InstAt s.heap e ox 59 od) (ht : findIn (hd.heap_1 w.params) (.ref 59) name = some none)
    (hs : findIn (hd.heap_1 w.params) (.ref 59) "__setattr__" = some (some (.builtin "object.__setattr__")))
    (h : ∀ b, wpAny (model prog w) A.in1 (Builtin.ObjectAttr.storeInOwnDict (.ref e) (.ref 59) (.str name s.toks) name v b) (fun fin s' => fin = Fin.done (.ret .none) ∧ Q () s') E { s with toks := s.toks + 1 }) :
    wpAny (model prog w) A (setAttr (.ref e) name v) Q E s := by
  have SF := PySem.F.store_Exception
  obtain ⟨cd, hc, hm, -⟩ := cls59 w
  have sub : Looks (model prog w) s.heap (isInstance (.ref e) (.type "object")) true := I.type.andThen (looks_mroIn X (by unfold mroIn; rw [hc, Option.bind_some, if_neg (by rw [hm]; decide), hm]; decide))
  have hM : Looks (model prog w) s.heap (mroOf (.ref 59)) mro59 := hm ▸ (looks_clsIn X hc).andThen .now
  refine set_plain X I hs (codeAny_call_builtin SF.slot.plain SF.entry (@check_slot (model prog w) _ _ { s with toks := s.toks + 1 } "object.__setattr__" "object" "__setattr__" (.ref e) [.str name s.toks, v] [] _ SF.kind SF.split sub (SF.args (.ref e) (.str name s.toks) v) ?_))
  rw [osa_eq, refuse_eq]
  refine wpAny_bind (wpAny_bind (I.type.at (wpAny_bind (hM.at ?_))))
  rw [refuseLoop_ref, refuseLoop_ref, SF.passes]
  refine wpAny_pure (wpAny_bind (I.type.at (wpAny_bind ((looks_findIn X ht).at (wpAny_bind (wpAny_pure ?_))))))
  refine wpAny_mono (h _) (fun r s' z => ?_) fun _ _ z => z
  obtain ⟨rfl, z⟩ := z
  exact z
theorem store59a {Q : Unit → Shared → Prop} (F : Fr h₀ L s.heap m) (X : (hd.heap_1 w.params).In h₀) (N : News h₀ L s.heap ((e, exc59o none t) :: led)) (hne : ∀ p ∈ led, p.1 ≠ e) (ht : findIn (hd.heap_1 w.params) (.ref 59) name = some none)
    (hs : findIn (hd.heap_1 w.params) (.ref 59) "__setattr__" = some (some (.builtin "object.__setattr__")))
    (h : ∀ h' dx q tk, Fr h₀ L h' m → News h₀ L h' ((e, exc59o (some dx) t) :: (dx, dictOf [⟨q, .str name tk, v⟩] 1) :: led) → @Ne Nat e dx → (∀ p ∈ led, p.1 ≠ dx) → Q () { s with heap := h', toks := s.toks + 2 }) :
    wpAny (model prog w) A (setAttr (.ref e) name v) Q E s := by
  have he := (N _ (.head _)).1
  refine set59 (X.keeps F.keep) (⟨he, rfl, rfl, trivial⟩ : InstAt s.heap e (exc59o none t) 59 none) ht hs fun b => ?_
  obtain ⟨cd, hc, -, hd'⟩ := cls59 w
  have hx₁ : (s.heap.push { cls := .type "dict", data := .dict #[] }).get? e = some (exc59o none t) := Heap.get?_push_of_some _ he
  have hxs : e ≠ s.heap.objs.size := Nat.ne_of_lt (Heap.lt_size he)
  refine wpAny_bind (wpAny_pure (wpAny_bind (wpAny_bind (wpAny_loadPart he (wpAny_bind ((looks_clsIn (X.keeps F.keep) hc).at ?_))))))
  rw [hd']
  dsimp only [Bool.not_true]
  rw [if_neg (by decide)]
  refine wpAny_bind (wpAny_alloc' ?_)
  refine wpAny_bind (wpAny_update' hx₁ ?_)
  refine wpAny_pure ?_
  have N1 := News.push F N (dictOf [] 0)
  have N1' : News h₀ L (s.heap.push (dictOf [] 0)) ([] ++ (e, exc59o none t) :: (s.heap.objs.size, dictOf [] 0) :: led) := fun p hp => N1 p (by
    rcases List.mem_cons.mp hp with rfl | hp
    · exact .tail _ (.head _)
    rcases List.mem_cons.mp hp with rfl | hp
    · exact .head _
    · exact .tail _ (.tail _ hp))
  have ap : ∀ p ∈ led, p.1 ≠ s.heap.objs.size := fun p hp => N.apart p (.tail _ hp)
  obtain ⟨F2, N2⟩ := news_upd (f := fun o => { cls := o.cls, dict := some s.heap.objs.size, data := o.data, slots := o.slots }) (o' := exc59o (some s.heap.objs.size) t) (F.push (dictOf [] 0)) N1' (fun _ z => nomatch z) (List.forall_mem_cons.mpr ⟨hxs.symm, hne⟩) rfl rfl
  obtain ⟨F3, N3⟩ := news_upd (pre := [(e, exc59o (some s.heap.objs.size) t)]) (f := Obj.putName name (PyData.keyHash w.params name) (.str name (s.toks + 1)) v) (o' := dictOf [⟨PyData.keyHash w.params name, .str name (s.toks + 1), v⟩] 1) F2 N2 (List.forall_mem_singleton.mpr hxs) ap rfl rfl
  exact put_in (es := []) (n := 0) (es' := [_]) (N2 _ (.tail _ (.head _))).1 rfl rfl (show 1 ≤ 1000 by decide) ⟨rfl, h _ _ _ _ F3 N3 hxs ap⟩
theorem store59b {Q : Unit → Shared → Prop} (F : Fr h₀ L s.heap m) (X : (hd.heap_1 w.params).In h₀) (N : News h₀ L s.heap ((e, exc59o (some dx) t) :: (dx, dictOf es n) :: led)) (hne : @Ne Nat e dx) (hnd : ∀ p ∈ led, p.1 ≠ dx) (ht : findIn (hd.heap_1 w.params) (.ref 59) name = some none)
    (hs : findIn (hd.heap_1 w.params) (.ref 59) "__setattr__" = some (some (.builtin "object.__setattr__"))) (hl : (lookIn name (dictOf es n)).isSome = true)
    (ep : Obj.putName name (PyData.keyHash w.params name) (.str name (s.toks + 1)) v (dictOf es n) = dictOf es' n') (hz : es'.length ≤ 1000)
    (h : ∀ h', Fr h₀ L h' m → News h₀ L h' ((e, exc59o (some dx) t) :: (dx, dictOf es' n') :: led) → Q () { s with heap := h', toks := s.toks + 2 }) :
    wpAny (model prog w) A (setAttr (.ref e) name v) Q E s := by
  have he := (N _ (.head _)).1
  have hD := (N _ (.tail _ (.head _))).1
  refine set59 (X.keeps F.keep) (⟨he, rfl, rfl, hD⟩ : InstAt s.heap e (exc59o (some dx) t) 59 (some (dictOf es n))) ht hs fun b => ?_
  obtain ⟨cd, hc, -, hd'⟩ := cls59 w
  obtain ⟨F3, N3⟩ := news_upd (pre := [(e, exc59o (some dx) t)]) (f := Obj.putName name (PyData.keyHash w.params name) (.str name (s.toks + 1)) v) F N (List.forall_mem_singleton.mpr hne) hnd ep rfl
  refine wpAny_bind (wpAny_pure (wpAny_bind (wpAny_bind (wpAny_loadPart he (wpAny_bind ((looks_clsIn (X.keeps F.keep) hc).at ?_))))))
  rw [hd']
  refine wpAny_pure (a := some dx) ?_
  exact put_in hD hl ep hz ⟨rfl, h _ F3 N3⟩
theorem check59 {oe : Obj} {rest : List Value} {Q : Unit → Shared → Prop} (X : (hd.heap_1 w.params).In s.heap) (he : s.heap.get? e = some oe) (hcls : oe.cls = .ref 59) (hq : Q () s) :
    wpAny (model prog w) A (checkBuiltinCall "Exception.__init__" ⟨.ref e :: rest, []⟩) Q E s := by
  have Fx := PySem.F.excBase_Exception
  obtain ⟨nm, q, N, bs, hdct, sn, sub, ab, col, dd, k0, k1, k2, k3, k5, hC⟩ : ∃ nm q N bs hdct sn sub ab col dd k0 k1 k2 k3 k5, (hd.heap_1 w.params).lookup 59 = some (excClassObj nm q 59 N bs [.ref 46, .type "Exception", .type "BaseException", .type "object"] hdct sn sub ab col dd k0 k1 k2 k3 k5 "Exception.__new__") := ⟨_, _, _, _, _, _, _, _, _, _, _, _, _, _, _, rfl⟩
  have hC := X _ _ hC
  have hcB : ([Value.ref 59, .ref 46, .type "Exception", .type "BaseException", .type "object"] : List Value).contains (.type "Exception") = true := by decide
  have hshort := Fx.noStar
  obtain ⟨h, g, d, t, os⟩ := s
  simp only [checkBuiltinCall, Fx.initKind, Fx.initSplit, Fx.initRow]
  repeat (first | (with_reducible refine wpAny_loadPart_at he ?_; rw [hcls]) | with_reducible refine wpAny_loadPart_at hC ?_ | (with_reducible refine wpAny_isSubtype_exc hC ?_; rw [hcB]) | wp_step)
  refine wpAny_onRaise ?_
  rw [show ∀ (a b : String) (n : Nat), Bind.check ⟨.positional, "*", "Exception", .self, [⟨"args", .varPos, false⟩]⟩ a b n (List.map (fun x => x.fst) ({ pos := Value.ref e :: rest } : Args).kw) = pure () from
    fun a b n => check_star_args _ _ _ _ _ _]
  exact wpAny_pure hq
theorem init59 {Q : Value → Shared → Prop} (F : Fr h₀ L s.heap m) (X : (hd.heap_1 w.params).In h₀) (N : News h₀ L s.heap ((e, exc59o none t) :: led)) (hne : ∀ p ∈ led, p.1 ≠ e)
    (h : ∀ h' t', Fr h₀ L h' m → News h₀ L h' ((e, exc59o none t') :: led) → Q .none { s with heap := h' }) : wpAny (model prog w) A (call (.builtin "Exception.__init__") [.ref e, v]) Q E s := by
  have Fx := PySem.F.excBase_Exception
  have he := (N _ (.head _)).1
  refine wpAny_call (codeAny_call_builtin Fx.init.plain Fx.initEntry (check59 (X.keeps F.keep) he rfl ?_))
  obtain ⟨hh, g, d, tk, os⟩ := s
  have N1 := N.pushKeep { cls := .type "tuple", data := .seq #[v] }
  obtain ⟨F2, N2⟩ := news_upd (pre := []) (f := Obj.mapFields (·.setIfInBounds 0 (Value.ref hh.objs.size))) (o' := exc59o none hh.objs.size) (F.push { cls := .type "tuple", data := .seq #[v] }) N1 (fun _ z => nomatch z) hne rfl rfl
  wp_walk
  exact h _ _ F2 N2
end
theorem meta_Exc : typeOf (.type "Exception") = pure (.type "type") := by kernel_rfl
theorem fault_C {w : World} {mean : ExcName → Option Value} {mg mb : Str → Option Value} {env : Env} {outer : List Env} {A₀ A : Around} {base h₀ : Heap} {L : Addr} {m : Str → Option Value} {s : Shared} {Q E : Value → Shared → Prop} {msg : Str} {tm : Tok} {led : List (Addr × Obj)}
    (B : Below A₀ base outer h₀) (F : Fr h₀ L s.heap m) (X : (hd.heap_1 w.params).In h₀) (N : News h₀ L s.heap led) (T : Top qv Lo mean mg mb h₀) (hA : A.frames = some (env :: outer)) (hf : env.frame = some L) (hke : env.scope.kind = .function)
    (hd : A.depth ≤ 500)
    (hret : ∀ e dx t oe od h' tk', Fr h₀ L h' m → News h₀ L h' ((e, oe) :: (dx, od) :: led) → (∀ p ∈ led, p.1 ≠ dx) → (∀ p ∈ led, p.1 ≠ e) → @Ne Nat e dx → ExcNew msg dx t oe od → Q (.ref e) { s with heap := h', toks := tk' }) :
    wpAny (model Challenge.rw_ok0167_01.prog w) A (call (.ref 59) [.str msg tm]) Q E s := by
  refine fault_call (X.keeps F.keep) (fun h' e me => ?_)
  have hen : ∀ p ∈ led, p.1 ≠ e := fun p hp z => by
    have := (N p hp).1
    rw [z, me.new] at this; cases this
  obtain ⟨t, he, -, -⟩ := me.there
  have F1 := F.keeps me.keeps
  have N1 : News h₀ L h' ((e, exc59o none t) :: led) := by
    intro p hp
    rcases List.mem_cons.mp hp with rfl | hp
    · refine ⟨he, fun z => ?_, ?_⟩
      · obtain ⟨oL, _, _, hL, _⟩ := F.ns
        have hn := me.new
        rw [show e = L from z, hL] at hn; cases hn
      · cases q : h₀.get? e with
        | none => rfl
        | some o => have := F.keep _ _ q; rw [me.new] at this; cases this
    · exact ⟨me.keeps _ _ (N p hp).1, (N p hp).2⟩
  clear N he me
  refine wpAny_call ?_
  refine' code_def ?k1 ?k2 ?k3 ?k4 ?k5 ?kA ?kF ?kK ?k6 ?k7 ?k8 ?k9 ?kB ?_ ?c2 ?c3 ?c4 ?c5; (case kA => exact hA); (case kF => exact hf); (case kK => exact hke); (case k1 => k_asm); (case k2 => k_asm); (case k3 => k_asm); (case k4 => k_asm); (case k5 => k_asm); (case k6 => k_is); (case k7 => k_is); (case k8 => exact Nat.lt_of_le_of_lt (show A.depth + 1 ≤ 501 by omega) (by decide)); (case k9 => first | exact BindsTo.of_eq rfl | exact binds_K (by k_in) rfl (by k_is) rfl rfl rfl); (case c5 => decide); (case kB => exact locs rfl); (case c2 => exact rfl); (case c3 => exact rfl); (case c4 => exact rfl); k_whole; intro g' L' h' FG' F' N' B' X' T'; (try dsimp only); (try k_lift B'); (try k_fold)
  k_with "getMethod type:Exception" => (k_here; refine' method_type ?F ?X ?m (by decide +kernel) ?e ?h ?_; (case F => k_asm); (case X => k_asm); (case m => exact meta_Exc); (case e => k_dflt k_is); (case h => k_handed))
  k_with "call builtin:Exception.__init__" => (k_here; k_dflt (refine' init59 ?F ?X ?N ?h ?_; (case F => k_asm); (case X => k_asm); (case N => k_asm); (case h => assumption)); intro h' t' F' N'; (try dsimp only))
  k_with "setAttr ref" => (k_here; first | (k_dflt (refine' store59a ?F ?X ?N ?h rfl rfl ?_; (case F => k_asm); (case X => k_asm); (case N => k_asm); (case h => assumption)); intro h' dx' q' tk' F' N' ne' nd'; (try dsimp only)) | (k_dflt (refine' store59b ?F ?X ?N ?h ?h2 ?h3 ?h4 ?h5 ?h6 ?h7 ?_; (case F => k_asm); (case X => k_asm); (case N => k_asm); (case h => assumption); (case h2 => assumption); (case h3 => exact rfl); (case h4 => exact rfl); (case h5 => exact rfl); (case h6 => exact rfl); (case h7 => exact Nat.le_of_ble_eq_true rfl)); intro h' F' N'; (try dsimp only)))
  k_steps
  exact hret _ _ _ _ _ _ _ (by assumption) (by assumption) (by assumption) (by assumption) (by assumption) ⟨⟨_, rfl⟩, _, _, _, _, _, _, rfl⟩

-- Ra
theorem zrRa : True := by first | (row_walk; done) | trivial
theorem raise_K {prog : Program} {w : World} {A : Around} {E : Value → Shared → Prop} {env : Env} {s : Shared} {Q : Flow → Shared → Prop} {c : PySem.Expr} {pos : Pos} (hh : A.handled = none)
    (h : wpAny (model prog w) A (eval c env) (fun v s₁ => ∃ e t dx sl, v = .ref e ∧ (hd.heap_1 w.params).In s₁.heap ∧
      s₁.heap.get? e = some { cls := .ref 59, dict := some dx, data := .fields #[.ref t, .none, .none, .none, .bool false, .none], slots := sl } ∧ E (.ref e) s₁) E s) :
    wpAny (model prog w) A (exec (.Raise (some c) none pos) env) Q E s := by
  rw [arm_exec_Raise]
  refine wpAny_bind (wpAny_standAt ?_)
  by_cases hC : ∃ nm qn N bs bm hdct sn sub ab col dd k0 k1 k2 k3 k5 newId, (hd.heap_1 w.params).lookup 59 = some (excClassObj nm qn 59 N bs bm hdct sn sub ab col dd k0 k1 k2 k3 k5 newId) ∧ bm.contains (.type "BaseException") = true
  · obtain ⟨nm, qn, N, bs, bm, hdct, sn, sub, ab, col, dd, k0, k1, k2, k3, k5, newId, hl, hb⟩ := hC
    refine raise_own (C := 59) (nm := nm) (q := qn) (N := N) (bs := bs) (bm := bm) (hdct := hdct) (sn := sn) (sub := sub) (ab := ab) (col := col) (dd := dd) (k0 := k0) (k1 := k1) (k2 := k2) (k3 := k3) (k5 := k5) (newId := newId) hb hh ?_
    first
      | exact wpAny_bind (wpAny_mono h (fun v s₃ h₃ => wpAny_bind (wpAny_standAt (wpAny_pure (by
          obtain ⟨e, t, dx, sl, rfl, X, he, hE⟩ := h₃
          exact ⟨e, t, some dx, sl, rfl, X _ _ hl, he, hE⟩)))) fun _ _ x => x)
      | exact wpAny_mono h (fun v s₃ h₃ => by
          obtain ⟨e, t, dx, sl, rfl, X, he, hE⟩ := h₃
          exact ⟨e, t, some dx, sl, rfl, X _ _ hl, he, hE⟩) fun _ _ x => x
  · exfalso
    exact hC ⟨_, _, _, _, _, _, _, _, _, _, _, _, _, _, _, _, _, rfl, rfl⟩
/-- the exception's dict: what, at -/
inductive WhatIs (msg : Str) (od : Obj) : Prop
  | mk (q1 q2 : Int) (t1 t2 t3 : Tok) (n : Nat) (e : od = dictOf [⟨q1, .str (Str.ofString "what") t1, .str msg t3⟩, ⟨q2, .str (Str.ofString "at") t2, .none⟩] n)
theorem flyNew_of {g h : Heap} {L e dx t : Addr} {sl : Array (Option Value)} {od : Obj} {led : List (Addr × Obj)} (N : News g L h ((e, ⟨.ref 59, some dx, .fields #[.ref t, .none, .none, .none, .bool false, .none], sl⟩) :: (dx, od) :: led)) (n2 : ∀ p ∈ led, p.1 ≠ e) (n3 : @Ne Nat e dx) :
    FlyNew g L h ((dx, od) :: led) e dx := ⟨_, _, N, List.forall_mem_cons.mpr ⟨Ne.symm n3, n2⟩, rfl, rfl, rfl, rfl⟩
local macro_rules | `(tactic| ktr_enter) => `(tactic| k_extra "ktr_enter")
-- Di
theorem zrDi : True := by first | (row_walk; done) | trivial
theorem zz8 : True := by
  k_with "ktr_enter" => ((refine' enterX ?k1 ?k2 ?k3 ?kE ?k4 ?k5 ?kXB ?kEB ?kTB ?kA ?kF ?kK ?k6 ?k7 ?k8 ?k9 ?kB ?_ ?c2 ?c3 ?c4 ?c5; (case kA => exact rfl); (case kF => exact rfl); (case kK => assumption); (case k1 => k_asm); (case k2 => k_asm); (case k3 => k_asm); (case kE => k_asm); (case k4 => k_asm); (case k5 => k_asm); (case kXB => k_asm); (case kEB => k_asm); (case kTB => k_asm); (case k6 => k_is); (case k7 => k_is); (case k8 => ktr_room); (case k9 => first | exact BindsTo.of_eq rfl | exact binds_K (by k_in) rfl (by k_is) rfl rfl rfl); (case c5 => decide); (case kB => exact locs rfl); (case c2 => exact rfl); (case c3 => exact rfl); (case c4 => exact rfl); k_whole; intro g' L' h' FG' F' N' B' X' T' E' back'; (try dsimp only); (try k_fold)))
  k_with "leaving ref" => (k_here; (refine' leave_led ?kB ?kF ?kk ?kY ?_; (case kB => k_asm); (case kF => k_asm); (case kY => first | exact Or.inl (by assumption) | exact Or.inr (by assumption)); (case kk => exact rfl); k_whole); intro h' g' T' F' Y' B')
  k_with "exec Raise some none" => (k_here; (refine' raise_K ?kh ?_; (case kh => with_unfolding_all rfl)))
  k_with "call ref" => (k_here; (with_reducible show wpAny _ _ (call (Value.ref 59) [Value.str _ _]) _ _ _); k_dflt (refine' fault_C ?kB ?kF ?kX ?kN ?kT ?kA ?kf ?kK ?kd ?_; (case kA => exact rfl); (case kf => exact rfl); (case kK => first | assumption | exact rfl); (case kB => k_asm); (case kF => k_asm); (case kX => k_asm); (case kN => k_asm); (case kT => k_asm); (case kd => ktr_room)); intro e' dx' t' oe' od' h' tk' F' N' n1' n2' n3' hE'; obtain ⟨⟨sl', hR'⟩, hW'⟩ := hE'; subst hR'; (replace hW' : WhatIs _ _ := (by obtain ⟨q1, q2, t1, t2, t3, n, e⟩ := hW'; exact ⟨q1, q2, t1, t2, t3, n, e⟩)); (have Y' := flyNew_of N' n2' n3'); (try dsimp only); (try k_sweep); (try k_fold))
  k_with "Exists" => (refine ⟨_, _, _, _, rfl, (by k_in), News.get (by k_asm) (by k_mem), ?_⟩)
  trivial
set_option maxHeartbeats 8000000 in
theorem divided_C {w : World} {mean : ExcName → Option Value} {mg mb : Str → Option Value}
    {dp un : Nat} {gd : Option (List Code)} {cn : Str} {cs : Scope} {a : Addr} {ccd : Value} {cl : List (Str × Addr)} {outer : List Env} {A₀ : Around} {base h₀ : Heap} {L : Addr} {m : Str → Option Value} {s : Shared} {Q E : Value → Shared → Prop}
    {hi lo ot n : Int} {t1 t2 t3 t4 : Tok} {led : List (Addr × Obj)}
    (B : Below A₀ base outer h₀) (F : Fr h₀ L s.heap m) (X : (hd.heap_1 w.params).In h₀) (XE : Ext w h₀)
    (N : News h₀ L s.heap led) 
    (T : Top qv Lo mean mg mb h₀) (XB : (hd.heap_1 w.params).In base) (EB : Ext w base) (TB : Top qv Lo mean mg mb base) (hk : cs.kind = .function) (hn : n = 32 ∨ n = 64) (h1 : 0 ≤ hi) (h2 : hi < 2 ^ 64) (h3 : 0 ≤ lo) (h4 : lo < 2 ^ 64) (h5 : 0 ≤ ot) (h6 : ot < 2 ^ 64)
    (hdp : dp + 30 ≤ 500) (hun : un + 500 ≤ 5000)
    (hret : ∀ x u1 u2 h₀' h' tk', KtsTurn (frs outer) h₀ h₀' → Fr h₀' L h' m → Below A₀ base outer h₀' → (hd.heap_1 w.params).In h₀' → Top qv Lo mean mg mb h₀' → Ext w h₀' → News h₀' L h' ((x, tupOf [.int ((hi * 2 ^ n.toNat + lo).fdiv ot) u1, .int ((hi * 2 ^ n.toNat + lo).fmod ot) u2]) :: led) → (∀ p ∈ led, p.1 < x) → ot ≠ 0 → (hi * 2 ^ n.toNat + lo).fdiv ot < 2 ^ n.toNat → Q (.ref x) { s with heap := h', toks := tk' })
    (hexc : ∀ e dx od h₀' h' tk', KtsTurn (frs outer) h₀ h₀' → Fr h₀' L h' m → Below A₀ base outer h₀' → (hd.heap_1 w.params).In h₀' → Top qv Lo mean mg mb h₀' → Ext w h₀' → FlyAt .none h₀' L h' ((dx, od) :: led) e dx → WhatIs (Str.ofString "divide error") od → (∀ p ∈ led, p.1 ≠ dx) → (ot = 0 ∨ 2 ^ n.toNat ≤ (hi * 2 ^ n.toNat + lo).fdiv ot) → E (.ref e) { s with heap := h', toks := tk' }) :
    wpAny (model Challenge.rw_ok0167_01.prog w) (ktrTop dp un gd cn cs L a ccd cl outer) (call (.ref 314) [.int hi t1, .int lo t2, .int ot t3, .int n t4]) Q E s := by
  have hn0 : 0 ≤ n := by omega
  have hn1 : n ≤ 64 := by omega
  refine wpAny_call ?_
  ktr_enter
  k_steps
  ·
    (try dsimp only)
    rename Fr _ _ _ _ => F9
    rename (∀ (g' h' : Heap) (m' : Str → Option Value), KtsTurn _ _ g' → Fr g' _ h' m' → _) => bk
    rename KtsTurn _ _ _ => T9
    obtain ⟨h9, T1, F1, B1, X1, TT1, XE1, K1⟩ := bk _ _ _ T9 F9
    rename FlyAt _ _ _ _ _ _ _ => Y9
    exact hexc _ _ _ _ _ _ T1 F1 B1 X1 TT1 XE1 (Y9.back K1) (by assumption) (by assumption) (Or.inl (by assumption))
  ·
    (try dsimp only)
    rename Fr _ _ _ _ => F9
    rename (∀ (g' h' : Heap) (m' : Str → Option Value), KtsTurn _ _ g' → Fr g' _ h' m' → _) => bk
    rename KtsTurn _ _ _ => T9
    obtain ⟨h9, T1, F1, B1, X1, TT1, XE1, K1⟩ := bk _ _ _ T9 F9
    rename FlyAt _ _ _ _ _ _ _ => Y9
    refine hexc _ _ _ _ _ _ T1 F1 B1 X1 TT1 XE1 (Y9.back K1) (by assumption) (by assumption) (Or.inr ?_)
    have h7 := mt (fdiv_zero (fdiv_nn (a := hi * 2 ^ n.toNat + lo) (b := ot) ?_ (by omega)) (two_pos n.toNat)).mpr (by assumption)
    · omega
    · have := Int.mul_nonneg h1 (Int.le_of_lt (two_pos n.toNat))
      omega
  ·
    (try dsimp only)
    rename Fr _ _ _ _ => F9
    rename (∀ (g' h' : Heap) (m' : Str → Option Value), KtsTurn _ _ g' → Fr g' _ h' m' → _) => bk
    obtain ⟨h9, T1, F1, B1, X1, TT1, XE1, K1⟩ := bk _ _ _ KtsTurn.refl F9
    rename News _ _ _ (_ :: _) => N9
    refine hret _ _ _ _ _ _ T1 F1 B1 X1 TT1 XE1 (K1 _ N9) (by assumption) (by assumption) ?_
    refine (fdiv_zero (fdiv_nn ?_ (by omega)) (two_pos n.toNat)).mp (by assumption)
    have := Int.mul_nonneg h1 (Int.le_of_lt (two_pos n.toNat))
    omega
-- Sd
theorem zrSd : True := by first | (row_walk; done) | trivial
theorem zz9 : True := by
  k_with "call ref" => (k_here; (with_reducible show wpAny _ _ (call (Value.ref 81) [Value.int _ _, Value.int _ _]) _ _ _); k_dflt (refine' wrap_C ?kB ?kF ?kX ?kN ?kT ?kk ?kn ?kd ?ku ?_; (case kB => k_asm); (case kF => k_asm); (case kX => k_asm); (case kN => k_asm); (case kT => k_asm); (case kk => first | exact rfl | assumption); (case kn => first | omega | decide); (case kd => ktr_room); (case ku => ktr_units)); intro t' h' tk' F' N'; (try dsimp only); (try k_sweep); (try k_fold))
  k_with "call ref" => (k_here; (with_reducible show wpAny _ _ (call (Value.ref 89) [Value.int _ _, Value.int _ _]) _ _ _); k_dflt (refine' signed_C ?kB ?kF ?kX ?kN ?kT ?kk ?kn ?kd ?ku ?_; (case kB => k_asm); (case kF => k_asm); (case kX => k_asm); (case kN => k_asm); (case kT => k_asm); (case kk => first | exact rfl | assumption); (case kn => first | omega | decide); (case kd => ktr_room); (case ku => ktr_units)); intro t' h' tk' F' N'; (try dsimp only); (try k_sweep); (try k_fold))
  trivial
set_option maxHeartbeats 8000000 in
theorem sdivided_C {w : World} {mean : ExcName → Option Value} {mg mb : Str → Option Value}
    {dp un : Nat} {gd : Option (List Code)} {cn : Str} {cs : Scope} {a : Addr} {ccd : Value} {cl : List (Str × Addr)} {outer : List Env} {A₀ : Around} {base h₀ : Heap} {L : Addr} {m : Str → Option Value} {s : Shared} {Q E : Value → Shared → Prop}
    {hi lo ot n : Int} {t1 t2 t3 t4 : Tok} {led : List (Addr × Obj)}
    (B : Below A₀ base outer h₀) (F : Fr h₀ L s.heap m) (X : (hd.heap_1 w.params).In h₀) (XE : Ext w h₀)
    (N : News h₀ L s.heap led) 
    (T : Top qv Lo mean mg mb h₀) (XB : (hd.heap_1 w.params).In base) (EB : Ext w base) (TB : Top qv Lo mean mg mb base) (hk : cs.kind = .function) (hn : n = 32 ∨ n = 64) (h1 : 0 ≤ hi) (h2 : hi < 2 ^ 64) (h3 : 0 ≤ lo) (h4 : lo < 2 ^ 64) (h5 : 0 ≤ ot) (h6 : ot < 2 ^ 64)
    (hdp : dp + 30 ≤ 500) (hun : un + 500 ≤ 5000)
    (hret : ∀ x u1 u2 h₀' h' tk', KtsTurn (frs outer) h₀ h₀' → Fr h₀' L h' m → Below A₀ base outer h₀' → (hd.heap_1 w.params).In h₀' → Top qv Lo mean mg mb h₀' → Ext w h₀' → News h₀' L h' ((x, tupOf [.int (low (sq (sgn (hi * 2 ^ n.toNat + lo) (2 * n)) (sgn ot n)) n) u1, .int (low ((sgn (hi * 2 ^ n.toNat + lo) (2 * n)) - sq (sgn (hi * 2 ^ n.toNat + lo) (2 * n)) (sgn ot n) * (sgn ot n)) n) u2]) :: led) → (∀ p ∈ led, p.1 < x) → (sgn ot n) ≠ 0 → sgn (sq (sgn (hi * 2 ^ n.toNat + lo) (2 * n)) (sgn ot n)) n = sq (sgn (hi * 2 ^ n.toNat + lo) (2 * n)) (sgn ot n) → Q (.ref x) { s with heap := h', toks := tk' })
    (hexc : ∀ e dx od h₀' h' tk', KtsTurn (frs outer) h₀ h₀' → Fr h₀' L h' m → Below A₀ base outer h₀' → (hd.heap_1 w.params).In h₀' → Top qv Lo mean mg mb h₀' → Ext w h₀' → FlyAt .none h₀' L h' ((dx, od) :: led) e dx → WhatIs (Str.ofString "divide error") od → (∀ p ∈ led, p.1 ≠ dx) → ((sgn ot n) = 0 ∨ sgn (sq (sgn (hi * 2 ^ n.toNat + lo) (2 * n)) (sgn ot n)) n ≠ sq (sgn (hi * 2 ^ n.toNat + lo) (2 * n)) (sgn ot n)) → E (.ref e) { s with heap := h', toks := tk' }) :
    wpAny (model Challenge.rw_ok0167_01.prog w) (ktrTop dp un gd cn cs L a ccd cl outer) (call (.ref 321) [.int hi t1, .int lo t2, .int ot t3, .int n t4]) Q E s := by
  have hn0 : 0 ≤ n := by omega
  have hn1 : n ≤ 64 := by omega
  have hb := sgn_bnd (x := ot) hn
  refine wpAny_call ?_
  ktr_enter
  k_steps
  ·
    (try dsimp only)
    rename Fr _ _ _ _ => F9
    rename (∀ (g' h' : Heap) (m' : Str → Option Value), KtsTurn _ _ g' → Fr g' _ h' m' → _) => bk
    rename KtsTurn _ _ _ => T9
    obtain ⟨h9, T1, F1, B1, X1, TT1, XE1, K1⟩ := bk _ _ _ T9 F9
    rename FlyAt _ _ _ _ _ _ _ => Y9
    exact hexc _ _ _ _ _ _ T1 F1 B1 X1 TT1 XE1 ((Y9.back K1).sub mem_mid) (by assumption) (fun p hp => (by assumption : ∀ p ∈ _ :: led, p.1 ≠ _) p (.tail _ hp)) (Or.inl (by assumption))
  ·
    (have hq : sq (sgn (hi * 2 ^ n.toNat + lo) (2 * n)) (sgn ot n) = _ := if_pos (by assumption)); rw [hq] at hret hexc
    (try dsimp only)
    rename Fr _ _ _ _ => F9
    rename (∀ (g' h' : Heap) (m' : Str → Option Value), KtsTurn _ _ g' → Fr g' _ h' m' → _) => bk
    rename KtsTurn _ _ _ => T9
    obtain ⟨h9, T1, F1, B1, X1, TT1, XE1, K1⟩ := bk _ _ _ T9 F9
    rename FlyAt _ _ _ _ _ _ _ => Y9
    exact hexc _ _ _ _ _ _ T1 F1 B1 X1 TT1 XE1 ((Y9.back K1).sub mem_mid) (by assumption) (fun p hp => (by assumption : ∀ p ∈ _ :: led, p.1 ≠ _) p (.tail _ hp)) (Or.inr (by assumption))
  ·
    (have hq : sq (sgn (hi * 2 ^ n.toNat + lo) (2 * n)) (sgn ot n) = _ := if_pos (by assumption)); rw [hq] at hret hexc
    (try dsimp only)
    rename Fr _ _ _ _ => F9
    rename (∀ (g' h' : Heap) (m' : Str → Option Value), KtsTurn _ _ g' → Fr g' _ h' m' → _) => bk
    obtain ⟨h9, T1, F1, B1, X1, TT1, XE1, K1⟩ := bk _ _ _ KtsTurn.refl F9
    rename News _ _ _ (_ :: _) => N9
    exact hret _ _ _ _ _ _ T1 F1 B1 X1 TT1 XE1 (cb_drop (K1 _ N9) mem_mid) (fun p hp => (by assumption : ∀ p ∈ _ :: led, p.1 < _) p (.tail _ hp)) (by assumption) (by assumption)
  ·
    (have hq : sq (sgn (hi * 2 ^ n.toNat + lo) (2 * n)) (sgn ot n) = _ := if_neg (Bool.eq_false_iff.mp (by assumption))); rw [hq] at hret hexc
    (try dsimp only)
    rename Fr _ _ _ _ => F9
    rename (∀ (g' h' : Heap) (m' : Str → Option Value), KtsTurn _ _ g' → Fr g' _ h' m' → _) => bk
    rename KtsTurn _ _ _ => T9
    obtain ⟨h9, T1, F1, B1, X1, TT1, XE1, K1⟩ := bk _ _ _ T9 F9
    rename FlyAt _ _ _ _ _ _ _ => Y9
    exact hexc _ _ _ _ _ _ T1 F1 B1 X1 TT1 XE1 ((Y9.back K1).sub mem_mid) (by assumption) (fun p hp => (by assumption : ∀ p ∈ _ :: led, p.1 ≠ _) p (.tail _ hp)) (Or.inr (by assumption))
  ·
    (have hq : sq (sgn (hi * 2 ^ n.toNat + lo) (2 * n)) (sgn ot n) = _ := if_neg (Bool.eq_false_iff.mp (by assumption))); rw [hq] at hret hexc
    (try dsimp only)
    rename Fr _ _ _ _ => F9
    rename (∀ (g' h' : Heap) (m' : Str → Option Value), KtsTurn _ _ g' → Fr g' _ h' m' → _) => bk
    obtain ⟨h9, T1, F1, B1, X1, TT1, XE1, K1⟩ := bk _ _ _ KtsTurn.refl F9
    rename News _ _ _ (_ :: _) => N9
    exact hret _ _ _ _ _ _ T1 F1 B1 X1 TT1 XE1 (cb_drop (K1 _ N9) mem_mid) (fun p hp => (by assumption : ∀ p ∈ _ :: led, p.1 < _) p (.tail _ hp)) (by assumption) (by assumption)
-- Lp
theorem zrLp : True := by first | (row_walk; done) | trivial
section
variable {prog : Program} {w : World} {A : Around} {E : Value → Shared → Prop} {h₀ : Heap} {env : Env} {target : PySem.Expr} {body : List Stmt} {Q : Flow → Shared → Prop} {s : Shared}
theorem subL_of : ∀ {l all : List (Addr × Obj)}, (∀ p ∈ l, p ∈ all) → SubL l all
  | [], _, _ => trivial
  | p :: _, _, h => ⟨h p (.head _), subL_of fun q hq => h q (.tail _ hq)⟩
/-- one turn's end -/
def TurnEnd (h₀ : Heap) (L : Addr) (s : Shared) (I ax : Addr) (oI lo : Obj) (R : (Str → Option Value) → List (Addr × Obj) → Prop) (Q : Flow → Shared → Prop) (f : Flow) (s₃ : Shared) : Prop :=
  match f with
  | .ret v => Q (.ret v) s₃
  | .brk => Q .next s₃
  | _ => ∃ h' tk' m' l', s₃ = { s with heap := h', toks := tk' } ∧ Fr h₀ L h' m' ∧ News h₀ L h' ((I, oI) :: (ax, lo) :: l') ∧ (∀ p ∈ l', p.1 ≠ I) ∧ R m' l'
theorem items_inv {ws : String} {I ax : Addr} {lo : Obj} {J : List Value → (Str → Option Value) → List (Addr × Obj) → Prop} (hI : ax ≠ I)
    (step : ∀ v r m l oI h tk, J (v :: r) m l → oI.cls = .type ws → (∀ p ∈ l, p.1 ≠ I) → Fr h₀ env.locals h m → News h₀ env.locals h ((I, oI) :: (ax, lo) :: l) →
      wpAny (model prog w) A (assign target env v) (fun _ s₂ => wpAny (model prog w) A (execs body env) (TurnEnd h₀ env.locals { s with heap := h, toks := tk } I ax oI lo (J r) Q) E s₂) E { s with heap := h, toks := tk })
    (fin : ∀ m l h tk, J [] m l → Fr h₀ env.locals h m → News h₀ env.locals h l → Q .next { s with heap := h, toks := tk }) :
    ∀ (vs : List Value) (m : Str → Option Value) (l : List (Addr × Obj)), J vs m l → (∀ p ∈ l, p.1 ≠ I) → ItemsRest prog w A E h₀ env target body Q s [(I, ws)] [(ax, lo)] (vs.map .val) m ((ax, lo) :: l)
  | [], m, l, hJ, _ => fun h tk F N => fin m l h tk hJ F fun p hp => N p (.tail _ hp)
  | v :: r, m, l, hJ, hl => by
    refine ItemsRest.val fun h tk F => AllObj.cons fun oI hc => AllObj.nil fun N => ?_
    refine wpAny_mono (step v r m l oI h tk hJ hc hl F N) (fun _ s₂ h₂ => wpAny_mono h₂ (fun f s₃ p => ?_) fun _ _ e => e) fun _ _ e => e
    have go : (∃ h' tk' m' l', s₃ = { ({ s with heap := h, toks := tk } : Shared) with heap := h', toks := tk' } ∧ Fr h₀ env.locals h' m' ∧ News h₀ env.locals h' ((I, oI) :: (ax, lo) :: l') ∧ (∀ p ∈ l', p.1 ≠ I) ∧ J r m' l') →
        UnrEndW h₀ env.locals { s with heap := h, toks := tk } [(I, oI)] (fun m' n' => SubL [(ax, lo)] n' ∧ ItemsRest prog w A E h₀ env target body Q s [(I, ws)] [(ax, lo)] (r.map .val) m' n') s₃ := by
      rintro ⟨h', tk', m', l', rfl, F', N', hl', hJ'⟩
      refine ⟨h', tk', m', (ax, lo) :: l', rfl, F', N', fun p hp q hq => ?_, ⟨.head _, trivial⟩, items_inv hI step fin r m' l' hJ' hl'⟩
      rw [List.mem_singleton.mp hq]
      rcases List.mem_cons.mp hp with rfl | hp
      · exact hI
      · exact hl' p hp
    cases f with
    | ret v => exact p
    | brk => exact p
    | next => exact go p
    | cont => exact go p
/-- a loop over a tuple of the ledger, by an invariant on what is left, the frame and the ledger -/
theorem tup_loop {ax : Addr} {lo : Obj} {vs : List Value} {n : Nat} {m₀ : Str → Option Value} {led : List (Addr × Obj)} (J : List Value → (Str → Option Value) → List (Addr × Obj) → Prop)
    (hh : A.handled = none) (F : Fr h₀ env.locals s.heap m₀) (N : News h₀ env.locals s.heap ((ax, lo) :: led)) (hc : lo.cls = .type "tuple") (hd : lo.data = .seq vs.toArray n) (h0 : J vs m₀ led)
    (step : ∀ v r m l I oI h tk, (∀ p ∈ led, p.1 < I) → ax < I → J (v :: r) m l → oI.cls = .type "tuple_iterator" → (∀ p ∈ l, p.1 ≠ I) → Fr h₀ env.locals h m → News h₀ env.locals h ((I, oI) :: (ax, lo) :: l) →
      wpAny (model prog w) A (assign target env v) (fun _ s₂ => wpAny (model prog w) A (execs body env) (TurnEnd h₀ env.locals { s with heap := h, toks := tk } I ax oI lo (J r) Q) E s₂) E { s with heap := h, toks := tk })
    (fin : ∀ m l h tk, J [] m l → Fr h₀ env.locals h m → News h₀ env.locals h l → Q .next { s with heap := h, toks := tk }) :
    wpAny (model prog w) A (pyIter (.ref ax)) (fun it s₂ => TurnsAt prog w A h₀ env target body Q E it s₂) E s :=
  iter_tupTurns hh F N (.head _) hc hd fun I lt => items_inv (Nat.ne_of_lt (lt _ (.head _))) (fun v r m l oI h tk => step v r m l I oI h tk (fun p hp => lt p (.tail _ hp)) (lt _ (.head _))) fin vs m₀ led h0 fun p hp => Nat.ne_of_lt (lt p (.tail _ hp))
end
theorem tup_loop' {prog : Program} {w : World} {A : Around} {E : Value → Shared → Prop} {h₀ : Heap} {env : Env} {target : PySem.Expr} {body : List Stmt} {Q : Flow → Shared → Prop} {s : Shared} {ax : Addr} {vs : List Value} {m₀ : Str → Option Value} {led : List (Addr × Obj)} (J : List Value → (Str → Option Value) → List (Addr × Obj) → Prop)
    (hh : A.handled = none) (F : Fr h₀ env.locals s.heap m₀) (N : News h₀ env.locals s.heap ((ax, tupOf vs) :: led)) (h0 : J vs m₀ led)
    (step : ∀ v r m l I oI h tk, (∀ p ∈ led, p.1 < I) → ax < I → J (v :: r) m l → oI.cls = .type "tuple_iterator" → (∀ p ∈ l, p.1 ≠ I) → Fr h₀ env.locals h m → News h₀ env.locals h ((I, oI) :: (ax, tupOf vs) :: l) →
      wpAny (model prog w) A (assign target env v) (fun _ s₂ => wpAny (model prog w) A (execs body env) (TurnEnd h₀ env.locals { s with heap := h, toks := tk } I ax oI (tupOf vs) (J r) Q) E s₂) E { s with heap := h, toks := tk })
    (fin : ∀ m l h tk, J [] m l → Fr h₀ env.locals h m → News h₀ env.locals h l → Q .next { s with heap := h, toks := tk }) :
    wpAny (model prog w) A (pyIter (.ref ax)) (fun it s₂ => TurnsAt prog w A h₀ env target body Q E it s₂) E s := tup_loop J hh F N rfl rfl h0 step fin

-- Rl
theorem zrRl : True := by first | (row_walk; done) | trivial
section
variable {prog : Program} {w : World} {A : Around} {E : Value → Shared → Prop} {h₀ : Heap} {env : Env} {x : Str} {body : List Stmt} {Q : Flow → Shared → Prop} {s : Shared}
theorem rr_ind {I : Addr} {n : Nat} {news : List (Addr × Obj)} (J : (Str → Option Value) → Prop)
    (turn : ∀ (i : Nat) m t it h tk (R : Flow → Shared → Prop), i < n → J m → Fr h₀ env.locals h (fun y => if y = x then some (.int (i : Int) t) else m y) → News h₀ env.locals h ((I, it) :: news) →
      (∀ h' tk' m', Fr h₀ env.locals h' m' → News h₀ env.locals h' ((I, it) :: news) → J m' → R .next { s with heap := h', toks := tk' }) → wpAny (model prog w) A (execs body env) R E { s with heap := h, toks := tk })
    (hI : ∀ p ∈ news, p.1 < I) (fin : ∀ m h tk, J m → Fr h₀ env.locals h m → News h₀ env.locals h news → Q .next { s with heap := h, toks := tk }) :
    ∀ (k i : Nat) (m : Str → Option Value), i + k = n → J m → RangeRest prog w A E h₀ env x body Q s I 0 n k i m news
  | 0, i, m, _, hJ => fun h tk F N => fin m h tk hJ F N
  | k + 1, i, m, e, hJ => fun t h tk F N => by
    have e0 : (0 : Int) + (i : Int) = i := Int.zero_add _
    rw [e0] at F
    refine turn i m t _ h tk _ (by omega) hJ F N fun h' tk' m' F' N' hJ' => ?_
    exact ⟨h', tk', m', news, rfl, F', N', fun p hp => Nat.ne_of_lt (hI p hp), rr_ind J turn hI fin k (i + 1) m' (by omega) hJ'⟩
theorem rsize (n : Nat) : Builtin.Range.rangeSize 0 (n : Int) 1 = n := by
  unfold Builtin.Range.rangeSize
  rw [if_pos (by decide)]
  split <;> omega
/-- a loop over range(n), n of any size, by an invariant on the frame; the ledger stays -/
theorem rng_loop {r : Addr} {n : Nat} {t₀ u₀ v₀ : Tok} {m₀ : Str → Option Value} {news : List (Addr × Obj)} (J : (Str → Option Value) → Prop)
    (hh : A.handled = none) (hr : IsRange s.heap r 0 (n : Int) 1 t₀ u₀ v₀) (hn : n ≤ 1000) (F : Fr h₀ env.locals s.heap m₀) (N : News h₀ env.locals s.heap news) (h0 : J m₀)
    (turn : ∀ (i : Nat) m t I it h tk (R : Flow → Shared → Prop), i < n → (∀ p ∈ news, p.1 < I) → J m → Fr h₀ env.locals h (fun y => if y = x then some (.int (i : Int) t) else m y) → News h₀ env.locals h ((I, it) :: news) →
      (∀ h' tk' m', Fr h₀ env.locals h' m' → News h₀ env.locals h' ((I, it) :: news) → J m' → R .next { s with heap := h', toks := tk' }) → wpAny (model prog w) A (execs body env) R E { s with heap := h, toks := tk })
    (fin : ∀ m h tk, J m → Fr h₀ env.locals h m → News h₀ env.locals h news → Q .next { s with heap := h, toks := tk }) :
    wpAny (model prog w) A (pyIter (.ref r)) (fun it s₂ => LoopAtV prog w A h₀ env x body Q E it s₂) E s := by
  refine iter_rangeUnr hh hr ?_ ?_ F N fun I hI => rr_ind J (fun i m t it h tk R hi => turn i m t I it h tk R hi hI) hI fin n 0 m₀ (Nat.zero_add n) h0
  · have e := rsize n
    have f : Builtin.Range.rangeFitsLong (n : Int) = true := by
      unfold Builtin.Range.rangeFitsLong
      simp only [Bool.and_eq_true, decide_eq_true_eq]
      omega
    unfold Builtin.Range.small
    rw [e, f, if_pos (by decide), show ((n : Int) + (1 - 1)) = n by omega, f]
    simp only [Bool.or_true, Bool.and_true]
    decide
  · exact rsize n
/-- the frame at a turn -/
abbrev frG (x g : Str) (vx vg : Option Value) (m : Str → Option Value) : Str → Option Value := fun y => if y = x then vx else if y = g then vg else m y
theorem frG_self (x g : Str) (m : Str → Option Value) : m = frG x g (m x) (m g) m := by
  funext y
  unfold frG
  by_cases h : y = x
  · rw [if_pos h, h]
  · rw [if_neg h]
    by_cases h' : y = g
    · rw [if_pos h', h']
    · rw [if_neg h']
theorem frG_up {x g : Str} {vx vg v : Option Value} {m : Str → Option Value} (hne : g ≠ x) : (fun y => if y = g then v else frG x g vx vg m y) = frG x g vx v m := by
  funext y
  unfold frG
  by_cases h : y = g
  · subst h
    rw [if_pos rfl, if_neg hne, if_pos rfl]
  · rw [if_neg h]
    by_cases h' : y = x
    · rw [if_pos h', if_pos h']
    · rw [if_neg h', if_neg h', if_neg h, if_neg h]
theorem frG_at {x g : Str} {vx vg v : Option Value} {m : Str → Option Value} : (fun y => if y = x then v else frG x g vx vg m y) = frG x g v vg m := by
  funext y
  unfold frG
  by_cases h : y = x
  · rw [if_pos h, if_pos h]
  · rw [if_neg h, if_neg h, if_neg h]
theorem rng_loopG (g : Str) {r : Addr} {n : Nat} {t₀ u₀ v₀ : Tok} {m₀ : Str → Option Value} {news : List (Addr × Obj)}
    (hh : A.handled = none) (hr : IsRange s.heap r 0 (n : Int) 1 t₀ u₀ v₀) (hn : n ≤ 1000) (F : Fr h₀ env.locals s.heap m₀) (N : News h₀ env.locals s.heap news)
    (turn : ∀ (i : Nat) t I it h tk vg (R : Flow → Shared → Prop), i < n → (∀ p ∈ news, p.1 < I) → Fr h₀ env.locals h (frG x g (some (.int (i : Int) t)) vg m₀) → News h₀ env.locals h ((I, it) :: news) →
      (∀ h' tk' vx vg, Fr h₀ env.locals h' (frG x g vx vg m₀) → News h₀ env.locals h' ((I, it) :: news) → R .next { s with heap := h', toks := tk' }) → wpAny (model prog w) A (execs body env) R E { s with heap := h, toks := tk })
    (fin : ∀ h tk vx vg, Fr h₀ env.locals h (frG x g vx vg m₀) → News h₀ env.locals h news → Q .next { s with heap := h, toks := tk }) :
    wpAny (model prog w) A (pyIter (.ref r)) (fun it s₂ => LoopAtV prog w A h₀ env x body Q E it s₂) E s := by
  refine rng_loop (fun m => ∃ vx vg, m = frG x g vx vg m₀) hh hr hn F N ⟨_, _, frG_self x g m₀⟩ ?_ ?_
  · rintro i m t I it h tk R hi hI ⟨vx, vg, rfl⟩ F' N' hR
    rw [frG_at] at F'
    exact turn i t I it h tk vg R hi hI F' N' fun h' tk' vx vg F'' N'' => hR h' tk' _ F'' N'' ⟨vx, vg, rfl⟩
  · rintro m h tk ⟨vx, vg, rfl⟩ F' N'
    exact fin h tk vx vg F' N'
end

-- St
theorem zrSt : True := by first | (row_walk; done) | trivial
theorem valueAt_nil {K : Type} [DecidableEq K] (x : K) : valueAt ([] : List (K × Value)) x = none := rfl
theorem valueAt_cons {K : Type} [DecidableEq K] (p : K × Value) (r : List (K × Value)) (x : K) : valueAt (p :: r) x = if p.1 = x then some p.2 else valueAt r x := by
  unfold valueAt
  rw [List.find?_cons]
  by_cases h : p.1 = x
  · simp [h]
  · simp [h]
theorem valueAt_stored {K : Type} [DecidableEq K] (kvs : List (K × Value)) (k : K) (v : Value) (x : K) : valueAt (stored kvs k v) x = if x = k then some v else valueAt kvs x := by
  unfold stored
  by_cases ha : kvs.any (fun kv => kv.1 = k) = true
  · rw [if_pos ha]
    induction kvs with
    | nil => simp at ha
    | cons p r ih =>
      rw [List.map_cons, valueAt_cons, valueAt_cons]
      by_cases hp : p.1 = k
      · rw [if_pos hp]
        by_cases hx : x = k
        · rw [if_pos hx, if_pos (hp.trans hx.symm)]
        · have e : ∀ r : List (K × Value), valueAt (r.map fun kv => if kv.1 = k then (kv.1, v) else kv) x = valueAt r x := by
            intro r
            induction r with
            | nil => rfl
            | cons q t ih =>
              rw [List.map_cons, valueAt_cons, valueAt_cons, ih]
              by_cases hq : q.1 = k
              · rw [if_pos hq, if_neg (fun h => hx (h.symm.trans hq)), if_neg (fun h => hx (h.symm.trans hq))]
              · rw [if_neg hq]
          rw [if_neg hx, if_neg (fun h => hx (h.symm.trans hp)), if_neg (fun h => hx (h.symm.trans hp)), e]
      · rw [if_neg hp]
        have hr : r.any (fun kv => kv.1 = k) = true := by
          rw [List.any_cons] at ha
          simpa [hp] using ha
        rw [ih hr]
        by_cases hx : x = k
        · rw [if_pos hx, if_pos hx, if_neg (fun h => hp (h.trans hx))]
        · rw [if_neg hx, if_neg hx]
  · rw [if_neg ha]
    induction kvs with
    | nil =>
      rw [List.nil_append, valueAt_cons, valueAt_nil]
      by_cases h : x = k
      · rw [if_pos h, if_pos h.symm]
      · rw [if_neg h, if_neg (fun e => h e.symm)]
    | cons p r ih =>
      have hp : ¬ p.1 = k := fun h => ha (by simp [h])
      have hr : ¬ r.any (fun kv => kv.1 = k) = true := fun h => ha (by rw [List.any_cons, h, Bool.or_true])
      rw [List.cons_append, valueAt_cons, valueAt_cons, ih hr]
      by_cases hx : x = k
      · rw [if_pos hx, if_pos hx, if_neg (fun h => hp (h.trans hx))]
      · rw [if_neg hx, if_neg hx]
/-- what is known of a dict of names -/
def ShK (kvs : List (Str × Value)) (tab : List (Str × Str)) : Prop := ∀ k c, tab.lookup k = some c → ∃ t, valueAt kvs k = some (.str c t)
theorem ShK.store {kvs : List (Str × Value)} {tab : List (Str × Str)} {x c : Str} {t : Tok} (h : ShK kvs tab) : ShK (stored kvs x (.str c t)) ((x, c) :: tab) := by
  intro k c' e
  rw [valueAt_stored]
  rw [List.lookup_cons] at e
  by_cases hk : k = x
  · subst hk
    simp at e
    subst e
    exact ⟨t, if_pos rfl⟩
  · rw [if_neg hk]
    have : (k == x) = false := by simpa using hk
    rw [this] at e
    exact h k c' e
theorem sh_set {prog : Program} {w : World} {A : Around} {E : Value → Shared → Prop} {s : Shared} {h₀ : Heap} {L d : Addr} {m : Str → Option Value} {news : List (Addr × Obj)} {g : Obj → List (Addr × Obj)} {o : Obj} {kvs : List (Str × Value)} {tab : List (Str × Str)} {x c : Str} {t tx : Tok} {Q : Unit → Shared → Prop}
    (F : Fr h₀ L s.heap m) (N : News h₀ L s.heap news) (U : UpdF d o news g) (hd : o.IsDictOf (PySem.strKind prog w) kvs) (hK : ShK kvs tab) (hl : kvs.length ≤ 300)
    (h : ∀ h' o' kvs', Fr h₀ L h' m → News h₀ L h' (g o') → o'.IsDictOf (PySem.strKind prog w) kvs' → ShK kvs' ((x, c) :: tab) → kvs'.length ≤ kvs.length + 1 → Q () { s with heap := h', toks := s.toks + 1 }) :
    wpAny (model prog w) A (setItem (.ref d) (.str x tx) (.str c t)) Q E s :=
  kda_set (knd := PySem.strKind prog w) F N U hd (strKind_is _ _ _ _) (by rw [sizeLine_eq]; omega) fun h' o' F' N' hd' => h h' o' _ F' N' hd' hK.store (stored_length_le _ _ _)
/-- the frame of the table's maker -/
def shM (y : Option Value) (d : Addr) : Str → Option Value := fun z => if z = Str.ofString "name" then y else if z = Str.ofString "found" then some (.ref d) else none
theorem shM_up {y : Option Value} {d : Addr} {v : Value} : (fun z => if z = Str.ofString "name" then some v else shM y d z) = shM (some v) d := by
  funext z
  unfold shM
  by_cases h : z = Str.ofString "name"
  · rw [if_pos h, if_pos h]
  · rw [if_neg h, if_neg h, if_neg h]
def shJ (prog : Program) (w : World) (d : Addr) (led : List (Addr × Obj)) (f : Str → List (Str × Str) → List (Str × Str)) (b : Nat) (K : List (Str × Str)) (r : List Value) (m : Str → Option Value) (l : List (Addr × Obj)) : Prop :=
  ∃ y o kvs tab, m = shM y d ∧ l = (d, o) :: led ∧ o.IsDictOf (PySem.strKind prog w) kvs ∧ ShK kvs tab ∧ kvs.length + 2 * r.length ≤ b ∧ (∀ v ∈ r, ∃ x t, v = .str x t ∧ x.length ≤ 30) ∧ r.foldl (fun t v => match v with | .str x _ => f x t | _ => t) tab = K
theorem sh_loop {prog : Program} {w : World} {A : Around} {E : Value → Shared → Prop} {h₀ : Heap} {env : Env} {target : PySem.Expr} {body : List Stmt} {Q : Flow → Shared → Prop} {s : Shared} {ax d : Addr} {o : Obj} {vs : List Value} {m₀ : Str → Option Value} {led : List (Addr × Obj)} {kvs : List (Str × Value)} {tab : List (Str × Str)}
    (f : Str → List (Str × Str) → List (Str × Str)) (b : Nat) (K : List (Str × Str))
    (hh : A.handled = none) (F : Fr h₀ env.locals s.heap m₀) (N : News h₀ env.locals s.heap ((ax, tupOf vs) :: (d, o) :: led)) (hd : o.IsDictOf (PySem.strKind prog w) kvs) (hK : ShK kvs tab) (hm : ∃ x0, m₀ = shM x0 d)
    (hlen : kvs.length + 2 * vs.length ≤ b) (hs : ∀ v ∈ vs, ∃ x t, v = .str x t ∧ x.length ≤ 30) (hf : vs.foldl (fun t v => match v with | .str x _ => f x t | _ => t) tab = K)
    (step : ∀ x t I oI h tk y o kvs tab (R : Flow → Shared → Prop), (∀ p ∈ led, p.1 < I) → d < I → ax < I → oI.cls = .type "tuple_iterator" → Fr h₀ env.locals h (shM y d) → News h₀ env.locals h ((I, oI) :: (ax, tupOf vs) :: (d, o) :: led) → o.IsDictOf (PySem.strKind prog w) kvs → ShK kvs tab → kvs.length + 2 ≤ b → x.length ≤ 30 →
      (∀ h' tk' o' kvs', Fr h₀ env.locals h' (shM (some (.str x t)) d) → News h₀ env.locals h' ((I, oI) :: (ax, tupOf vs) :: (d, o') :: led) → o'.IsDictOf (PySem.strKind prog w) kvs' → ShK kvs' (f x tab) → kvs'.length ≤ kvs.length + 2 → R .next { s with heap := h', toks := tk' }) →
      wpAny (model prog w) A (assign target env (.str x t)) (fun _ s₂ => wpAny (model prog w) A (execs body env) R E s₂) E { s with heap := h, toks := tk })
    (fin : ∀ h tk o' kvs' y, Fr h₀ env.locals h (shM y d) → News h₀ env.locals h ((d, o') :: led) → o'.IsDictOf (PySem.strKind prog w) kvs' → ShK kvs' K → kvs'.length ≤ b → Q .next { s with heap := h, toks := tk }) :
    wpAny (model prog w) A (pyIter (.ref ax)) (fun it s₂ => TurnsAt prog w A h₀ env target body Q E it s₂) E s := by
  obtain ⟨x0, hm⟩ := hm
  refine tup_loop' (shJ prog w d led f b K) hh F N ⟨x0, o, kvs, tab, hm, rfl, hd, hK, hlen, hs, hf⟩ ?_ ?_
  · rintro v r m l I oI h tk hlt hax ⟨y, o, kvs, tab, rfl, rfl, hd, hK, hlen, hs, hf⟩ hc hne F N
    obtain ⟨x, t, rfl, hx⟩ := hs v (.head _)
    refine step x t I oI h tk y o kvs tab _ (fun p hp => hlt p (.tail _ hp)) (hlt _ (.head _)) hax hc F N hd hK (by simp only [List.length_cons] at hlen; omega) hx fun h' tk' o' kvs' F' N' hd' hK' hl' => ?_
    exact ⟨h', tk', _, _, rfl, F', N', List.forall_mem_cons.mpr ⟨hne (d, o) (.head _), fun p hp => hne p (.tail _ hp)⟩, some (.str x t), o', kvs', f x tab, rfl, rfl, hd', hK', by simp only [List.length_cons] at hlen; omega, fun v hv => hs v (.tail _ hv), hf⟩
  · rintro m l h tk ⟨y, o, kvs, tab, rfl, rfl, hd, hK, hlen, _, rfl⟩ F N
    exact fin h tk o kvs y F N hd hK (by simp only [List.length_nil] at hlen; omega)
theorem shK_init {v1 v2 v3 v4 v5 v6 : Value} {t : Tok} : ShK [(Str.ofString "movabs", v1), (Str.ofString "movzx", v2), (Str.ofString "movsx", v3), (Str.ofString "neg", v4), (Str.ofString "bswap", v5), (Str.ofString "ror16", v6), (Str.ofString "cqo", .str (Str.ofString "z") t)] [(Str.ofString "cqo", Str.ofString "z")] := by
  intro k c e
  simp only [List.lookup_cons, List.lookup_nil] at e
  split at e
  · rename_i h
    cases eq_of_beq h
    cases e
    refine ⟨t, ?_⟩
    simp only [valueAt_cons]
    rw [if_neg (by decide), if_neg (by decide), if_neg (by decide), if_neg (by decide), if_neg (by decide), if_neg (by decide), if_pos trivial]
  · cases e
theorem str_nil : ∀ v ∈ ([] : List Value), ∃ x t, v = .str x t ∧ x.length ≤ 30 := fun _ h => nomatch h
theorem str_cons {x : Str} {t : Tok} {r : List Value} (hx : x.length ≤ 30) (h : ∀ v ∈ r, ∃ x t, v = .str x t ∧ x.length ≤ 30) : ∀ v ∈ Value.str x t :: r, ∃ x t, v = .str x t ∧ x.length ≤ 30 := List.forall_mem_cons.mpr ⟨⟨_, _, rfl, hx⟩, h⟩
theorem sh_add {prog : Program} {w : World} {A : Around} {E : Value → Shared → Prop} {s : Shared} {x y : Str} {t u : Tok} {Q : Value → Shared → Prop} (hx : x.length ≤ 30) (hy : y.length ≤ 30) (h : ∀ t' tk, Q (.str (x ++ y) t') { s with toks := tk }) :
    wpAny (model prog w) A (binaryOp .Add (.str x t) (.str y u)) Q E s := PyProof.Rows.add_str h (by rw [sizeLine_eq]; omega)
theorem sh_getm {prog : Program} {w : World} {A : Around} {E : Value → Shared → Prop} {s : Shared} {h₀ : Heap} {L d : Addr} {news : List (Addr × Obj)} {o : Obj} {kvs : List (Str × Value)} {pl : Sem Bool} {Q : Value × List Value → Shared → Prop}
    (N : News h₀ L s.heap news) (hp : (d, o) ∈ news) (hd : o.IsDictOf (PySem.strKind prog w) kvs) (h : Q (.builtin "dict.get", [.ref d]) s) : wpAny (model prog w) A (getMethod (.ref d) (Str.ofString "get") pl) Q E s :=
  have hD := kda_dict N hp hd
  getMethod_builtin hD.typeIs PySem.F.plainAttrs_dict PySem.F.slot_dict_get PySem.F.type_dict_get hD.mapOf.noDict h
theorem sh_get {prog : Program} {w : World} {A : Around} {E : Value → Shared → Prop} {s : Shared} {h₀ : Heap} {L d : Addr} {news : List (Addr × Obj)} {o : Obj} {kvs : List (Str × Value)} {tab : List (Str × Str)} {x c : Str} {tx : Tok} {Q : Value → Shared → Prop}
    (N : News h₀ L s.heap news) (hp : (d, o) ∈ news) (hd : o.IsDictOf (PySem.strKind prog w) kvs) (hK : ShK kvs tab) (lo : (d == sysModules) = false) (hl : tab.lookup x = some c) (h : ∀ t, Q (.str c t) { s with toks := s.toks + 1 }) : wpAny (model prog w) A (call (.builtin "dict.get") [.ref d, .str x tx]) Q E s := by
  have hD := kda_dict N hp hd
  obtain ⟨t, ht⟩ := hK _ _ hl
  exact call_meetsIn PySem.F.slot_dict_get hD.typeIs PySem.F.entry_dict_get (PySem.F.args_dict_get_2 _ _) (meets_dict_get (PySem.strKind prog w) d (strKind_is _ _ _ _) lo) ⟨_, hD.mapOf, by rw [ht]; exact h t⟩

-- Sh
theorem zrSh : True := by first | (row_walk; done) | trivial
abbrev shF0 (x : Str) (t : List (Str × Str)) : List (Str × Str) := (x ++ Str.ofString "_imm", Str.ofString "zri") :: (x, Str.ofString "zrr") :: t
abbrev shK0 : List (Str × Str) := [Str.ofString "mov", Str.ofString "imul", Str.ofString "add", Str.ofString "sub", Str.ofString "and", Str.ofString "or", Str.ofString "xor", Str.ofString "cmp", Str.ofString "test"].foldl (fun t x => shF0 x t) ([(Str.ofString "cqo", Str.ofString "z")])
abbrev shF1 (x : Str) (t : List (Str × Str)) : List (Str × Str) := (x ++ Str.ofString "_imm", Str.ofString "zrn") :: (x, Str.ofString "zr") :: t
abbrev shK1 : List (Str × Str) := [Str.ofString "shl", Str.ofString "shr", Str.ofString "sar"].foldl (fun t x => shF1 x t) (shK0)
abbrev shF2 (x : Str) (t : List (Str × Str)) : List (Str × Str) := (x, Str.ofString "zr") :: t
abbrev shK2 : List (Str × Str) := [Str.ofString "div", Str.ofString "idiv"].foldl (fun t x => shF2 x t) (shK1)
abbrev shF3 (x : Str) (t : List (Str × Str)) : List (Str × Str) := (x, Str.ofString "zrir") :: t
abbrev shK3 : List (Str × Str) := [Str.ofString "lock_add", Str.ofString "lock_and", Str.ofString "lock_or", Str.ofString "lock_xor", Str.ofString "xadd", Str.ofString "xchg_mem", Str.ofString "cmpxchg"].foldl (fun t x => shF3 x t) ((Str.ofString "store_imm", Str.ofString "wrii") :: (Str.ofString "store", Str.ofString "wrir") :: (Str.ofString "load_sx", Str.ofString "xrri") :: (Str.ofString "load", Str.ofString "wrri") :: shK2)
abbrev shF4 (x : Str) (t : List (Str × Str)) : List (Str × Str) := (x, Str.ofString "r") :: t
abbrev shK4 : List (Str × Str) := [Str.ofString "push", Str.ofString "pop"].foldl (fun t x => shF4 x t) (shK3)
abbrev shF5 (x : Str) (t : List (Str × Str)) : List (Str × Str) := (x, Str.ofString "l") :: t
abbrev shK5 : List (Str × Str) := [Str.ofString "order", Str.ofString "label", Str.ofString "entry", Str.ofString "call", Str.ofString "call_host"].foldl (fun t x => shF5 x t) (shK4)
abbrev shK : List (Str × Str) := (Str.ofString "ret", Str.ofString "") :: (Str.ofString "jcc", Str.ofString "ckl") :: (Str.ofString "jmp", Str.ofString "kl") :: shK5
section
theorem zz10 : True := by
  k_with "exec For Name Tuple cons nil" => (k_here; (rename Fr _ _ _ _ => lF'); (with_unfolding_all refine' For_turns lF' ?_; k_whole))
  k_with "setItem ref str str" => (k_here; k_dflt (refine' sh_set ?F ?N ?U ?d ?kK ?kz ?_; (case F => k_asm); (case N => k_asm); (case U => k_updF); (case d => k_asm); (case kK => k_asm); (case kz => ((show _ ≤ 300); omega))); intro h' o' kvs' F' N' hd' hK' hl'; (try dsimp only at N'))
  k_with "binaryOp Add str str" => (k_here; k_dflt (refine sh_add (by assumption) (by decide) ?_); intro t' tk')
  trivial
set_option maxHeartbeats 8000000 in
theorem shapes_C {w : World} {mean : ExcName → Option Value} {mg mb : Str → Option Value}
    {dp un : Nat} {gd : Option (List Code)} {cn : Str} {cs : Scope} {a : Addr} {ccd : Value} {cl : List (Str × Addr)} {outer : List Env} {A₀ : Around} {base h₀ : Heap} {L : Addr} {m : Str → Option Value} {s : Shared} {Q E : Value → Shared → Prop}
     {led : List (Addr × Obj)}
    (B : Below A₀ base outer h₀) (F : Fr h₀ L s.heap m) (X : (hd.heap_1 w.params).In h₀)
    (N : News h₀ L s.heap led) 
    (T : Top qv Lo mean mg mb h₀) (hk : cs.kind = .function) 
    (hdp : dp + 5 < recursionLimit) (hun : un + 300 < cLine)
    (hret : ∀ d o kvs h' tk', Fr h₀ L h' m → News h₀ L h' ((d, o) :: led) → (∀ p ∈ led, p.1 < d) → o.IsDictOf (PySem.strKind Challenge.rw_ok0167_01.prog w) kvs → ShK kvs shK → (d == sysModules) = false → Q (.ref d) { s with heap := h', toks := tk' }) :
    wpAny (model Challenge.rw_ok0167_01.prog w) (ktrTop dp un gd cn cs L a ccd cl outer) (call (.ref 159) []) Q E s := by
  refine wpAny_call ?_
  k_dflt cell_enter
  (repeat' ((fail_if_success (with_reducible show wpAny _ _ (pyIter _) _ _ _)); (first | (k_unfold; (try dsimp only)) | walk1 | (dsimp only; walk1))))
  (with_reducible rename PyProof.V.FlatPairs _ _ _ => fp0); clear fp0
  k_here
  refine' sh_loop (tab := [(Str.ofString "cqo", Str.ofString "z")]) shF0 25 shK0 ?hh0 ?F0 ?N0 ?hd0 ?hK0 ?hm0 ?hlen0 ?hs0 ?hf0 ?st0 ?fin0
  case hh0 => exact rfl
  case F0 => k_asm
  case N0 => k_asm
  case hd0 => k_asm
  case hK0 => exact shK_init
  case hm0 =>
    refine ⟨none, ?_⟩
    funext z
    unfold shM
    by_cases h : z = Str.ofString "name"
    · subst h; rfl
    · rw [if_neg h]; rfl
  case hlen0 => with_unfolding_all exact Nat.le_of_ble_eq_true rfl
  case hs0 =>
    repeat (first | exact str_nil | refine str_cons (by decide) ?_)
  case hf0 => unfold shK0; simp only [List.foldl_cons, List.foldl_nil]
  case st0 =>
    intro x t I oI h tk y o kvs tab R hlt hdI haI hc F9 N9 hd9 hK9 hl9 hx9 hR
    unfold shM at F9
    dsimp only [envOf] at F9 N9
    replace hdI := ltN hdI
    replace haI := ltN haI
    have hl9' := Nat.le_trans (Nat.le_add_right _ 2) hl9
    (repeat' (first | (k_unfold; (try dsimp only)) | walk1 | (dsimp only; walk1)))
    (try dsimp only)
    rename Fr _ _ _ _ => F8
    refine hR _ _ _ _ ?_ (by k_asm) (by k_asm) (by k_asm) (by omega)
    rw [← shM_up (y := y)]
    exact F8
  intro h8 tk8 o8 kvs8 y8 F8 N8 hd8 hK8 hl8
  unfold shM at F8
  dsimp only [envOf] at F8 N8
  (repeat' ((fail_if_success (with_reducible show wpAny _ _ (pyIter _) _ _ _)); (first | (k_unfold; (try dsimp only)) | walk1 | (dsimp only; walk1))))
  k_here
  refine' sh_loop shF1 31 shK1 ?hh1 ?F1 ?N1 ?hd1 ?hK1 ?hm1 ?hlen1 ?hs1 ?hf1 ?st1 ?fin1
  case hh1 => exact rfl
  case F1 => k_asm
  case N1 => k_asm
  case hd1 => k_asm
  case hK1 => k_asm
  case hm1 => exact ⟨_, rfl⟩
  case hlen1 => simp only [List.length_cons, List.length_nil]; omega
  case hs1 =>
    repeat (first | exact str_nil | refine str_cons (by decide) ?_)
  case hf1 => unfold shK1; simp only [List.foldl_cons, List.foldl_nil]
  case st1 =>
    intro x t I oI h tk y o kvs tab R hlt hdI haI hc F9 N9 hd9 hK9 hl9 hx9 hR
    unfold shM at F9
    dsimp only [envOf] at F9 N9
    replace hdI := ltN hdI
    replace haI := ltN haI
    have hl9' := Nat.le_trans (Nat.le_add_right _ 2) hl9
    (repeat' (first | (k_unfold; (try dsimp only)) | walk1 | (dsimp only; walk1)))
    (try dsimp only)
    rename Fr _ _ _ _ => F8
    refine hR _ _ _ _ ?_ (by k_asm) (by k_asm) (by k_asm) (by omega)
    rw [← shM_up (y := y)]
    exact F8
  intro h8 tk8 o8 kvs8 y8 F8 N8 hd8 hK8 hl8
  unfold shM at F8
  dsimp only [envOf] at F8 N8
  (repeat' ((fail_if_success (with_reducible show wpAny _ _ (pyIter _) _ _ _)); (first | (k_unfold; (try dsimp only)) | walk1 | (dsimp only; walk1))))
  k_here
  refine' sh_loop shF2 35 shK2 ?hh2 ?F2 ?N2 ?hd2 ?hK2 ?hm2 ?hlen2 ?hs2 ?hf2 ?st2 ?fin2
  case hh2 => exact rfl
  case F2 => k_asm
  case N2 => k_asm
  case hd2 => k_asm
  case hK2 => k_asm
  case hm2 => exact ⟨_, rfl⟩
  case hlen2 => simp only [List.length_cons, List.length_nil]; omega
  case hs2 =>
    repeat (first | exact str_nil | refine str_cons (by decide) ?_)
  case hf2 => unfold shK2; simp only [List.foldl_cons, List.foldl_nil]
  case st2 =>
    intro x t I oI h tk y o kvs tab R hlt hdI haI hc F9 N9 hd9 hK9 hl9 hx9 hR
    unfold shM at F9
    dsimp only [envOf] at F9 N9
    replace hdI := ltN hdI
    replace haI := ltN haI
    have hl9' := Nat.le_trans (Nat.le_add_right _ 2) hl9
    (repeat' (first | (k_unfold; (try dsimp only)) | walk1 | (dsimp only; walk1)))
    (try dsimp only)
    rename Fr _ _ _ _ => F8
    refine hR _ _ _ _ ?_ (by k_asm) (by k_asm) (by k_asm) (by omega)
    rw [← shM_up (y := y)]
    exact F8
  intro h8 tk8 o8 kvs8 y8 F8 N8 hd8 hK8 hl8
  unfold shM at F8
  dsimp only [envOf] at F8 N8
  (repeat' ((fail_if_success (with_reducible show wpAny _ _ (pyIter _) _ _ _)); (first | (k_unfold; (try dsimp only)) | walk1 | (dsimp only; walk1))))
  k_here
  refine' sh_loop shF3 53 shK3 ?hh3 ?F3 ?N3 ?hd3 ?hK3 ?hm3 ?hlen3 ?hs3 ?hf3 ?st3 ?fin3
  case hh3 => exact rfl
  case F3 => k_asm
  case N3 => k_asm
  case hd3 => k_asm
  case hK3 => k_asm
  case hm3 => exact ⟨_, rfl⟩
  case hlen3 => simp only [List.length_cons, List.length_nil]; omega
  case hs3 =>
    repeat (first | exact str_nil | refine str_cons (by decide) ?_)
  case hf3 => unfold shK3; simp only [List.foldl_cons, List.foldl_nil]
  case st3 =>
    intro x t I oI h tk y o kvs tab R hlt hdI haI hc F9 N9 hd9 hK9 hl9 hx9 hR
    unfold shM at F9
    dsimp only [envOf] at F9 N9
    replace hdI := ltN hdI
    replace haI := ltN haI
    have hl9' := Nat.le_trans (Nat.le_add_right _ 2) hl9
    (repeat' (first | (k_unfold; (try dsimp only)) | walk1 | (dsimp only; walk1)))
    (try dsimp only)
    rename Fr _ _ _ _ => F8
    refine hR _ _ _ _ ?_ (by k_asm) (by k_asm) (by k_asm) (by omega)
    rw [← shM_up (y := y)]
    exact F8
  intro h8 tk8 o8 kvs8 y8 F8 N8 hd8 hK8 hl8
  unfold shM at F8
  dsimp only [envOf] at F8 N8
  (repeat' ((fail_if_success (with_reducible show wpAny _ _ (pyIter _) _ _ _)); (first | (k_unfold; (try dsimp only)) | walk1 | (dsimp only; walk1))))
  k_here
  refine' sh_loop shF4 57 shK4 ?hh4 ?F4 ?N4 ?hd4 ?hK4 ?hm4 ?hlen4 ?hs4 ?hf4 ?st4 ?fin4
  case hh4 => exact rfl
  case F4 => k_asm
  case N4 => k_asm
  case hd4 => k_asm
  case hK4 => k_asm
  case hm4 => exact ⟨_, rfl⟩
  case hlen4 => simp only [List.length_cons, List.length_nil]; omega
  case hs4 =>
    repeat (first | exact str_nil | refine str_cons (by decide) ?_)
  case hf4 => unfold shK4; simp only [List.foldl_cons, List.foldl_nil]
  case st4 =>
    intro x t I oI h tk y o kvs tab R hlt hdI haI hc F9 N9 hd9 hK9 hl9 hx9 hR
    unfold shM at F9
    dsimp only [envOf] at F9 N9
    replace hdI := ltN hdI
    replace haI := ltN haI
    have hl9' := Nat.le_trans (Nat.le_add_right _ 2) hl9
    (repeat' (first | (k_unfold; (try dsimp only)) | walk1 | (dsimp only; walk1)))
    (try dsimp only)
    rename Fr _ _ _ _ => F8
    refine hR _ _ _ _ ?_ (by k_asm) (by k_asm) (by k_asm) (by omega)
    rw [← shM_up (y := y)]
    exact F8
  intro h8 tk8 o8 kvs8 y8 F8 N8 hd8 hK8 hl8
  unfold shM at F8
  dsimp only [envOf] at F8 N8
  (repeat' ((fail_if_success (with_reducible show wpAny _ _ (pyIter _) _ _ _)); (first | (k_unfold; (try dsimp only)) | walk1 | (dsimp only; walk1))))
  k_here
  refine' sh_loop shF5 67 shK5 ?hh5 ?F5 ?N5 ?hd5 ?hK5 ?hm5 ?hlen5 ?hs5 ?hf5 ?st5 ?fin5
  case hh5 => exact rfl
  case F5 => k_asm
  case N5 => k_asm
  case hd5 => k_asm
  case hK5 => k_asm
  case hm5 => exact ⟨_, rfl⟩
  case hlen5 => simp only [List.length_cons, List.length_nil]; omega
  case hs5 =>
    repeat (first | exact str_nil | refine str_cons (by decide) ?_)
  case hf5 => unfold shK5; simp only [List.foldl_cons, List.foldl_nil]
  case st5 =>
    intro x t I oI h tk y o kvs tab R hlt hdI haI hc F9 N9 hd9 hK9 hl9 hx9 hR
    unfold shM at F9
    dsimp only [envOf] at F9 N9
    replace hdI := ltN hdI
    replace haI := ltN haI
    have hl9' := Nat.le_trans (Nat.le_add_right _ 2) hl9
    (repeat' (first | (k_unfold; (try dsimp only)) | walk1 | (dsimp only; walk1)))
    (try dsimp only)
    rename Fr _ _ _ _ => F8
    refine hR _ _ _ _ ?_ (by k_asm) (by k_asm) (by k_asm) (by omega)
    rw [← shM_up (y := y)]
    exact F8
  intro h8 tk8 o8 kvs8 y8 F8 N8 hd8 hK8 hl8
  unfold shM at F8
  dsimp only [envOf] at F8 N8
  (repeat' ((fail_if_success (with_reducible show wpAny _ _ (pyIter _) _ _ _)); (first | (k_unfold; (try dsimp only)) | walk1 | (dsimp only; walk1))))
  exact hret _ _ _ _ _ (by assumption) (by assumption) (by assumption) (by assumption) (by assumption) (by assumption)
end
-- Ro
theorem zrRo : True := by first | (row_walk; done) | trivial
/-- a row of the text's: its name, its parts -/
inductive RowIs (nm : Str) (ps : List Value) (dx p : Addr) (oX oD oP : Obj) : Prop
  | mk (q1 q2 : Int) (t1 t2 t3 : Tok) (n : Nat) (e1 : oX = instObj 148 dx) (e2 : oD = dictOf [⟨q1, .str (Str.ofString "name") t1, .str nm t3⟩, ⟨q2, .str (Str.ofString "parts") t2, .ref p⟩] n) (e3 : oP = tupOf ps)
theorem zz11 : True := by
  k_with_none
  k_with "k_all" => ((intro pA hA; refine neN (Nat.ne_of_lt ?_); refine (by assumption : ∀ p ∈ _, p.1 < _) pA ?_; (repeat (first | exact hA | apply List.Mem.tail)); done))
  k_with "k_all" => (with_reducible assumption)
  k_with "k_upd" => ((first | exact Picks.nil | (refine' Picks.cons ?kuc ?kud; (case kuc => k_upd); (case kud => k_upd)) | (refine' Pick.head ?kua; (case kua => k_all)) | (refine' Pick.tail ?kua ?kub; (case kua => k_ne); (case kub => k_upd)) | (refine' Upd.head ?kua; (case kua => k_all)) | (refine' Upd.tail ?kua ?kub; (case kua => k_ne); (case kub => k_upd))))
  k_with "ktr_rel" => ((refine cb_drop (by assumption) ?_; (repeat' (refine fa_cons (by k_mem) ?_)); first | exact List.forall_mem_nil _ | (intro pD hD; repeat (first | exact hD | apply List.Mem.tail))))
  k_with "compareOp NotEq ref ref" => (k_here; k_dflt (refine' ne_K ?k1 ?k2 ?k3 ?k4 ?k5 ?k6 ?_; (case k1 => k_asm); (case k2 => k_mem); (case k3 => k_mem); (case k4 => l_intsC); (case k5 => l_intsC); (case k6 => ktr_units); k_whole))
  k_with "binaryOp FloorDiv int int" => (k_here; (with_reducible refine floordiv_int ?ke ?_ (Or.inl (noPy ?kp ?kq))); (case ke => first | omega | (split <;> omega)); (case kp => first | omega | (split <;> omega)); (case kq => first | omega | (split <;> omega)))
  k_with "call builtin:list.pop" => (k_here; k_dflt (refine' pop0_K ?k1 ?k2 ?k3 ?k4 ?_; (case k1 => k_asm); (case k2 => k_asm); (case k3 => k_upd); (case k4 => omega); k_whole); intro h' F' N')
  k_with "binaryOp Pow int int" => (k_here; first | (with_reducible refine powL_K 18446744073709551616 ?kb1 ?kb2 ?kb3 ?kb4 ?_; (case kb4 => decide +kernel); (case kb1 => decide); (case kb2 => decide); (case kb3 => decide)) | (with_reducible refine powL_K 9223372036854775808 ?kb1 ?kb2 ?kb3 ?kb4 ?_; (case kb4 => decide +kernel); (case kb1 => decide); (case kb2 => decide); (case kb3 => decide)) | (with_reducible refine powL_K 4294967296 ?kb1 ?kb2 ?kb3 ?kb4 ?_; (case kb4 => decide +kernel); (case kb1 => decide); (case kb2 => decide); (case kb3 => decide)) | (with_reducible refine powL_K 2147483648 ?kb1 ?kb2 ?kb3 ?kb4 ?_; (case kb4 => decide +kernel); (case kb1 => decide); (case kb2 => decide); (case kb3 => decide)) | (with_reducible refine powL_K 340282366920938463463374607431768211456 ?kb1 ?kb2 ?kb3 ?kb4 ?_; (case kb4 => decide +kernel); (case kb1 => decide); (case kb2 => decide); (case kb3 => decide)) | (with_reducible refine powL_K 170141183460469231731687303715884105728 ?kb1 ?kb2 ?kb3 ?kb4 ?_; (case kb4 => decide +kernel); (case kb1 => decide); (case kb2 => decide); (case kb3 => decide)))
  k_with "cell_enter" => ((refine' code_def ?k1 ?k2 ?k3 ?k4 ?k5 ?kA ?kF ?kK ?k6 ?k7 ?k8 ?k9 ?kB ?_ ?c2 ?c3 ?c4 ?c5; (case kA => exact rfl); (case kF => exact rfl); (case kK => first | assumption | exact rfl); (case k1 => k_asm); (case k2 => k_asm); (case k3 => k_asm); (case k4 => k_asm); (case k5 => k_asm); (case k6 => k_is); (case k7 => k_is); (case k8 => ktr_room); (case k9 => first | exact BindsTo.of_eq rfl | exact binds_K (by k_in) rfl (by k_is) rfl rfl rfl); (case c5 => decide); (case kB => exact locs rfl); (case c2 => exact rfl); (case c3 => exact rfl); (case c4 => exact rfl); k_whole; intro g' L' h' FG' F' N' B' X' T'; (try dsimp only); (try k_lift B'); (try k_fold)))
  k_with "ktr_units" => (((try simp only [units_in1, units_deeper, units_under_make, Around.mark_units]); (try dsimp only [ktrTop]); omega))
  k_with "ktr_room" => (((try simp only [depth_mark, depth_under_make, depth_under_kw, depth_in1, depth_deeper]); (try dsimp only [ktrTop]); omega))
  k_with "execs cons" => (k_here; (first | ((with_reducible refine gentok fun tk' => ?_); (with_reducible refine wpAny_execs_cons ?_)) | (with_reducible refine wpAny_execs_cons ?_)); (try dsimp only))
  k_with "execs nil" => (k_here; (refine wpAny_execs_nil ?_))
  trivial
theorem newsIn {h₀ h : Heap} {L : Addr} {p : Addr × Obj} {led : List (Addr × Obj)} (m : p ∈ led) (N : News h₀ L h led) : News h₀ L h (p :: led) := fun q hq => (List.mem_cons.mp hq).elim (fun e => e ▸ N p m) fun h => N q h
theorem any_false {x : Str} {l : List Str} (h : ∀ y ∈ l, x ≠ y) : (l.any fun y => y == x) = false := by
  rw [List.any_eq_false]
  intro y hy e
  exact h y hy (eq_of_beq e).symm
theorem eq_no {prog : Program} {w : World} {A : Around} {E : Value → Shared → Prop} {s : Shared} {Q : Value → Shared → Prop} {x y : Str} {t u : Tok} (hne : x ≠ y) (h : Q (.bool false) s) : wpAny (model prog w) A (compareOp .Eq (.str x t) (.str y u)) Q E s := by
  refine eq_str ?_
  rw [show (x == y) = false from beq_false_of_ne hne]
  exact h
theorem ne_yes {prog : Program} {w : World} {A : Around} {E : Value → Shared → Prop} {s : Shared} {Q : Value → Shared → Prop} {x y : Str} {t u : Tok} (hne : x ≠ y) (h : Q (.bool true) s) : wpAny (model prog w) A (compareOp .NotEq (.str x t) (.str y u)) Q E s := by
  refine ne_str ?_
  rw [show (x != y) = true from bne_iff_ne.mpr hne]
  exact h
theorem in_is {prog : Program} {w : World} {A : Around} {E : Value → Shared → Prop} {s : Shared} {Q : Value → Shared → Prop} {x y : Str} {t u : Tok} (b : Bool) (e : (!(Builtin.Str.occurrences x y 0 x.length 1).isEmpty) = b) (h : Q (.bool b) s) : wpAny (model prog w) A (compareOp .In (.str y u) (.str x t)) Q E s := in_str (e ▸ h)
theorem z_or {x : Int} (hv : x = 32 ∨ x = 64) (h : (x == 32) = false) : (x == 64) = true := by
  rcases hv with rfl | rfl
  · cases h
  · rfl
theorem lt_sub {l l' : List (Addr × Obj)} {d : Nat} (h : ∀ p ∈ l, p.1 < d) (s : ∀ p ∈ l', p ∈ l) : ∀ p ∈ l', p.1 < d := fun p hp => h p (s p hp)
abbrev noMark (nm : Str) : Prop := ∀ y ∈ [Str.ofString "order", Str.ofString "label", Str.ofString "entry"], nm ≠ y
abbrev noGoal (nm : Str) : Prop := ∀ y ∈ [Str.ofString "jmp", Str.ofString "jcc", Str.ofString "call"], nm ≠ y
abbrev DivNm (nm : Str) : Prop := nm = Str.ofString "div" ∨ nm = Str.ofString "idiv"
/-- the rows that the law makes -/
inductive OkRow : Str → List Value → Prop
  | div {nm : Str} {n r : Int} {t1 t2 : Tok} : DivNm nm → (n = 32 ∨ n = 64) → 0 ≤ r → r < 16 → OkRow nm [.int n t1, .int r t2]
  | mov {t1 t2 t3 : Tok} : OkRow (Str.ofString "mov_imm") [.int 32 t1, .int 9 t2, .int 5 t3]
  | ret : OkRow (Str.ofString "ret") []
  | cqo {n : Int} {t1 : Tok} : (n = 32 ∨ n = 64) → OkRow (Str.ofString "cqo") [.int n t1]
theorem OkRow.noMark {nm : Str} {ps : List Value} (h : OkRow nm ps) : noMark nm := by
  cases h with
  | div h => rcases h with rfl | rfl <;> decide
  | mov => decide
  | ret => decide
  | cqo => decide
theorem OkRow.noGoal {nm : Str} {ps : List Value} (h : OkRow nm ps) : noGoal nm := by
  cases h with
  | div h => rcases h with rfl | rfl <;> decide
  | mov => decide
  | ret => decide
  | cqo => decide
/-- a row that lies in the ledger -/
def RowOK (led : List (Addr × Obj)) (v : Value) : Prop := ∃ x dx p oX oD oP nm ps, v = .ref x ∧ (x, oX) ∈ led ∧ (dx, oD) ∈ led ∧ (p, oP) ∈ led ∧ RowIs nm ps dx p oX oD oP ∧ OkRow nm ps
theorem RowOK.sub {led led' : List (Addr × Obj)} {v : Value} (h : RowOK led v) (s : ∀ p ∈ led, p ∈ led') : RowOK led' v := by
  obtain ⟨x, dx, p, oX, oD, oP, nm, ps, e, a, b, c, r⟩ := h
  exact ⟨x, dx, p, oX, oD, oP, nm, ps, e, s _ a, s _ b, s _ c, r⟩
theorem rows_at {rows : List Value} {i : Nat} {led : List (Addr × Obj)} (hi : i < rows.length) (h : ∀ v ∈ rows, RowOK led v) : ∃ x dx p oX oD oP nm ps, rows[i]? = some (.ref x) ∧ (x, oX) ∈ led ∧ (dx, oD) ∈ led ∧ (p, oP) ∈ led ∧ RowIs nm ps dx p oX oD oP ∧ OkRow nm ps := by
  obtain ⟨x, dx, p, oX, oD, oP, nm, ps, e, r⟩ := h _ (List.getElem_mem hi)
  exact ⟨x, dx, p, oX, oD, oP, nm, ps, by rw [List.getElem?_eq_getElem hi, e], r⟩
theorem row_item {prog : Program} {w : World} {A : Around} {E : Value → Shared → Prop} {s : Shared} {h₀ : Heap} {L R : Addr} {news : List (Addr × Obj)} {value slice : PySem.Expr} {rows : List Value} {k i : Nat} {u : Tok} {v : Value} {Q : Value → Shared → Prop}
    (N : News h₀ L s.heap news) (hm : (R, listOf rows.toArray k) ∈ news) (hx : rows[i]? = some v) (hi : i ≤ 1000) (h : Q v s)
    (hs : subscripted slice false (.ref R) (.int (i : Int) u) = operate [.ref R, .int (i : Int) u] (getItem (.ref R) (.int (i : Int) u)) := by with_unfolding_all rfl) :
    wpAny (model prog w) A (subscriptTail value slice (.ref R) (.int (i : Int) u)) Q E s :=
  have hl := PySem.IsL.isList (n := k) (N _ hm).1
  tail_any hl.typeIs slot_list_getitem.lookup (wpAny_getItem_list hl (by omega) (by omega) (by simpa using hx) h) hs
theorem row_len {prog : Program} {w : World} {A : Around} {E : Value → Shared → Prop} {s : Shared} {h₀ : Heap} {L R : Addr} {news : List (Addr × Obj)} {rows : List Value} {k : Nat} {Q : Value → Shared → Prop}
    (N : News h₀ L s.heap news) (hm : (R, listOf rows.toArray k) ∈ news) (hi : rows.length ≤ 1000) (h : Q (.int (rows.length : Int) (s.toks + 1)) { s with toks := s.toks + 1 + 1 }) : wpAny (model prog w) A (call (.builtin "len") [.ref R]) Q E s :=
  PySem.Calls.call_len_list (PySem.IsL.isList (n := k) (N _ hm).1) (by rw [List.size_toArray]; omega) (by rw [List.size_toArray]; exact h)
/-- the machine's dict: its rows, its registers, its pile, where it stands -/
inductive MachD (RW R pl : Addr) (pc st : Int) (ov : Bool) (oD : Obj) : Prop
  | mk (q0 q1 q2 q3 q4 q5 q6 q7 q8 : Int) (u0 u1 u2 u3 u4 u5 u6 u7 u8 : Tok) (mk fl : Addr) (ta to ts : Tok)
    (e : oD = dictOf [⟨q0, .str (Str.ofString "rows") u0, .ref RW⟩, ⟨q1, .str (Str.ofString "marks") u1, .ref mk⟩, ⟨q2, .str (Str.ofString "regs") u2, .ref R⟩, ⟨q3, .str (Str.ofString "flags") u3, .ref fl⟩, ⟨q4, .str (Str.ofString "pile") u4, .ref pl⟩, ⟨q5, .str (Str.ofString "at") u5, .int pc ta⟩, ⟨q6, .str (Str.ofString "order") u6, .int 0 to⟩, ⟨q7, .str (Str.ofString "steps") u7, .int st ts⟩, ⟨q8, .str (Str.ofString "is_over") u8, .bool ov⟩] 9)
abbrev MachIs (RW R pl dM : Addr) (pc st : Int) (ov : Bool) (oM oD : Obj) : Prop := oM = instObj 445 dM ∧ MachD RW R pl pc st ov oD
inductive RegsAre (rs : List Int) (o : Obj) : Prop
  | mk (vs : List Value) (k : Nat) (e : o = listOf vs.toArray k) (hI : IntsAre vs rs) (hl : rs.length = 16) (hb : ∀ x ∈ rs, 0 ≤ x ∧ x < 2 ^ 64)
def PileIs (o : Obj) : Prop := ∃ k, o = listOf #[] k
abbrev rs0 : List Int := (List.replicate 16 77).set 4 1879048192
theorem tin_no {prog : Program} {w : World} {A : Around} {E : Value → Shared → Prop} {s : Shared} {Q : Value → Shared → Prop} {a : Addr} {vs : List Value} {ys : List Str} {x : Str} {t : Tok} (hl : IsTup s.heap a vs.toArray) (hs : StrsAre vs ys) (hne : ∀ y ∈ ys, x ≠ y) (h : Q (.bool false) s) : wpAny (model prog w) A (compareOp .In (.str x t) (.ref a)) Q E s :=
  in_tuple_strs hl hs (by rw [any_false hne]; exact h)
theorem tnot_no {prog : Program} {w : World} {A : Around} {E : Value → Shared → Prop} {s : Shared} {Q : Value → Shared → Prop} {a : Addr} {vs : List Value} {ys : List Str} {x : Str} {t : Tok} (hl : IsTup s.heap a vs.toArray) (hs : StrsAre vs ys) (hne : ∀ y ∈ ys, x ≠ y) (h : Q (.bool true) s) : wpAny (model prog w) A (compareOp .NotIn (.str x t) (.ref a)) Q E s :=
  notin_tuple_strs hl hs (by rw [any_false hne]; exact h)
-- Im
theorem zrIm : True := by first | (row_walk; done) | trivial
theorem zz12 : True := by
  k_with "compareOp Eq str str" => (k_here; k_dflt (refine' eq_no ?ke ?_; (case ke => with_reducible assumption)))
  k_with "compareOp In str ref" => (k_here; (with_reducible show wpAny _ _ (compareOp CmpOp.In (Value.str _ _) (Value.ref _)) _ _ _); (with_unfolding_all refine' tin_no ?k1 ?k2 ?k3 ?_; (case k1 => exact News.isTup (by k_asm) (by news_mem)); (case k2 => kde_strs); (case k3 => assumption); k_whole))
  k_with "compareOp NotIn str ref" => (k_here; (with_reducible show wpAny _ _ (compareOp CmpOp.NotIn (Value.str _ _) (Value.ref _)) _ _ _); (with_unfolding_all refine' tnot_no ?k1 ?k2 ?k3 ?_; (case k1 => exact News.isTup (by k_asm) (by news_mem)); (case k2 => kde_strs); (case k3 => assumption); k_whole))
  k_with "subscriptTail Name Slice str ref" => (k_here; (with_reducible show wpAny _ _ (subscriptTail _ (Expr.Slice (some _) none none _) _ _) _ _ _); (with_reducible rename Fr _ _ _ _ => F'); (with_reducible rename News _ _ _ _ => N'); (refine slice_strN_sn (hsz := ?hsz) (s := ⟨_, _, _, _, _⟩) F' N' ?_); (case hsz => (rw [sizeLine_eq]; omega)); intro h' t' tk' F' N')
  k_with "subscriptTail Name Slice str ref" => (k_here; (with_reducible show wpAny _ _ (subscriptTail _ (Expr.Slice none (some _) none _) _ _) _ _ _); (with_reducible rename Fr _ _ _ _ => F'); (with_reducible rename News _ _ _ _ => N'); (refine slice_strN_ns (hsz := ?hsz) (s := ⟨_, _, _, _, _⟩) F' N' ?_); (case hsz => (rw [sizeLine_eq]; omega)); intro h' t' tk' F' N')
  k_with "compareOp NotEq str str" => (k_here; k_dflt (refine' ne_yes ?ke ?_; (case ke => with_reducible assumption)))
  trivial
set_option maxHeartbeats 8000000 in
theorem ismark_C {w : World} {mean : ExcName → Option Value} {mg mb : Str → Option Value}
    {dp un : Nat} {gd : Option (List Code)} {cn : Str} {cs : Scope} {a : Addr} {ccd : Value} {cl : List (Str × Addr)} {outer : List Env} {A₀ : Around} {base h₀ : Heap} {L : Addr} {m : Str → Option Value} {s : Shared} {Q E : Value → Shared → Prop}
    {nm : Str} {ps : List Value} {x dx p : Addr} {oX oD oP : Obj} {led : List (Addr × Obj)}
    (B : Below A₀ base outer h₀) (F : Fr h₀ L s.heap m) (X : (hd.heap_1 w.params).In h₀)
    (N : News h₀ L s.heap led) 
    (T : Top qv Lo mean mg mb h₀) (hk : cs.kind = .function) (M0 : (x, oX) ∈ led) (M1 : (dx, oD) ∈ led) (hR : RowIs nm ps dx p oX oD oP) (hnm : noMark nm)
    (hdp : dp + 5 < recursionLimit) (hun : un + 300 < cLine)
    (hret : ∀ h' tk', Fr h₀ L h' m → News h₀ L h' led → Q (.bool false) { s with heap := h', toks := tk' }) :
    wpAny (model Challenge.rw_ok0167_01.prog w) (ktrTop dp un gd cn cs L a ccd cl outer) (call (.ref 188) [.ref x]) Q E s := by
  replace N := newsIn M1 N
  replace N := newsIn (.tail _ M0) N
  obtain ⟨q1, q2, t1, t2, t3, n, rfl, rfl, rfl⟩ := hR
  refine wpAny_call ?_
  k_dflt cell_enter
  k_steps
  exact hret _ _ (by assumption) (by ktr_rel)
-- Go
theorem zrGo : True := by first | (row_walk; done) | trivial
set_option maxHeartbeats 8000000 in
theorem goalof_C {w : World} {mean : ExcName → Option Value} {mg mb : Str → Option Value}
    {dp un : Nat} {gd : Option (List Code)} {cn : Str} {cs : Scope} {a : Addr} {ccd : Value} {cl : List (Str × Addr)} {outer : List Env} {A₀ : Around} {base h₀ : Heap} {L : Addr} {m : Str → Option Value} {s : Shared} {Q E : Value → Shared → Prop}
    {nm : Str} {ps : List Value} {x dx p : Addr} {oX oD oP : Obj} {led : List (Addr × Obj)}
    (B : Below A₀ base outer h₀) (F : Fr h₀ L s.heap m) (X : (hd.heap_1 w.params).In h₀)
    (N : News h₀ L s.heap led) 
    (T : Top qv Lo mean mg mb h₀) (hk : cs.kind = .function) (M0 : (x, oX) ∈ led) (M1 : (dx, oD) ∈ led) (hR : RowIs nm ps dx p oX oD oP) (hg : ∀ y ∈ [Str.ofString "jmp", Str.ofString "jcc", Str.ofString "call"], nm ≠ y)
    (hdp : dp + 5 < recursionLimit) (hun : un + 300 < cLine)
    (hret : ∀ h' tk', Fr h₀ L h' m → News h₀ L h' led → Q .none { s with heap := h', toks := tk' }) :
    wpAny (model Challenge.rw_ok0167_01.prog w) (ktrTop dp un gd cn cs L a ccd cl outer) (call (.ref 195) [.ref x]) Q E s := by
  replace N := newsIn M1 N
  replace N := newsIn (.tail _ M0) N
  obtain ⟨q1, q2, t1, t2, t3, n, rfl, rfl, rfl⟩ := hR
  obtain ⟨n1, n2, n3⟩ : nm ≠ Str.ofString "jmp" ∧ nm ≠ Str.ofString "jcc" ∧ nm ≠ Str.ofString "call" := ⟨hg _ (.head _), hg _ (.tail _ (.head _)), hg _ (.tail _ (.tail _ (.head _)))⟩
  refine wpAny_call ?_
  k_dflt cell_enter
  k_steps
  exact hret _ _ (by assumption) (by ktr_rel)
-- Mg
theorem zrMg : True := by first | (row_walk; done) | trivial
section
theorem zz13 : True := by
  k_with "call ref" => (k_here; (with_reducible show wpAny _ _ (call (Value.ref 188) [Value.ref _]) _ _ _); k_dflt (refine' ismark_C ?kB ?kF ?kX ?kN ?kT ?kk ?m0 ?m1 ?kR ?km ?kd ?ku ?_; (case kB => k_asm); (case kF => k_asm); (case kX => k_asm); (case kN => k_asm); (case kT => k_asm); (case kk => first | exact rfl | assumption); (case m0 => k_mem); (case kR => assumption); (case m1 => k_mem); (case km => first | assumption | decide); (case kd => ktr_room); (case ku => ktr_units)); intro h' tk' F' N'; (try dsimp only); (try k_sweep); (try k_fold))
  k_with "subscriptTail" => (k_here; (with_reducible show wpAny _ _ (subscriptTail _ _ (Value.ref _) (Value.int _ _)) _ _ _); k_dflt (refine' row_item ?k1 ?k2 ?k3 ?k4 ?_ ?k5; (case k1 => k_asm); (case k2 => k_mem); (case k3 => with_reducible assumption); (case k4 => omega); (case k5 => with_unfolding_all rfl); k_whole))
  k_with "call builtin:len" => (k_here; (with_reducible show wpAny _ _ (call (Value.builtin "len") [Value.ref _]) _ _ _); k_dflt (refine' row_len ?k1 ?k2 ?k3 ?_; (case k1 => k_asm); (case k2 => k_mem); (case k3 => (show List.length _ ≤ 1000; omega)); k_whole))
  trivial
set_option maxHeartbeats 8000000 in
theorem marks_C {w : World} {mean : ExcName → Option Value} {mg mb : Str → Option Value}
    {dp un : Nat} {gd : Option (List Code)} {cn : Str} {cs : Scope} {a : Addr} {ccd : Value} {cl : List (Str × Addr)} {outer : List Env} {A₀ : Around} {base h₀ : Heap} {L : Addr} {m : Str → Option Value} {s : Shared} {Q E : Value → Shared → Prop}
    {rows : List Value} {R : Addr} {k : Nat} {led : List (Addr × Obj)}
    (B : Below A₀ base outer h₀) (F : Fr h₀ L s.heap m) (X : (hd.heap_1 w.params).In h₀)
    (N : News h₀ L s.heap led) 
    (T : Top qv Lo mean mg mb h₀) (hk : cs.kind = .function) (M0 : (R, listOf rows.toArray k) ∈ led) (hrows : ∀ v ∈ rows, RowOK led v) (hlen : rows.length ≤ 8)
    (hdp : dp + 15 < recursionLimit) (hun : un + 700 < cLine)
    (hret : ∀ d o h' tk', Fr h₀ L h' m → News h₀ L h' ((d, o) :: led) → (∀ p ∈ led, p.1 < d) → Q (.ref d) { s with heap := h', toks := tk' }) :
    wpAny (model Challenge.rw_ok0167_01.prog w) (ktrTop dp un gd cn cs L a ccd cl outer) (call (.ref 202) [.ref R]) Q E s := by
  replace N := newsIn M0 N
  refine wpAny_call ?_
  k_dflt cell_enter
  (repeat' ((fail_if_success (with_reducible show wpAny _ _ (pyIter _) _ _ _)); (first | (k_unfold; (try dsimp only)) | (k_end; wrow_close) | walk1 | (dsimp only; walk1))))
  rename IsRange _ _ _ _ _ _ _ _ => hr9
  rename Fr _ _ _ _ => F9
  rename News _ _ _ _ => N9
  refine' rng_loopG (Str.ofString "key") ?hh hr9 ?hn F9 N9 ?turn ?fin
  case hh => exact rfl
  case hn => exact Nat.le_trans hlen (by decide)
  case turn =>
    intro i t I it h8 tk8 vg R8 hi hI F8 N8 hR8
    obtain ⟨x, dx, p, oX, oD, oP, nm, ps, hget, m1, m2, m3, hRow, hok⟩ := rows_at hi hrows
    have hmk := hok.noMark
    have N7 := newsIn (by repeat (first | exact m1 | apply List.Mem.tail)) (newsIn (by repeat (first | exact m2 | apply List.Mem.tail)) N8)
    clear N8 N9 F9
    dsimp only [envOf] at F8 N7
    unfold frG at F8
    k_steps
    exact hR8 _ _ _ _ (by assumption) (by ktr_rel)
  case fin =>
    intro h8 tk8 vx vg F8 N8
    dsimp only [envOf] at F8 N8
    unfold frG at F8
    k_steps
    exact hret _ _ _ _ (by assumption) (by ktr_rel) (lt_sub (by assumption) (by intro pD hD; repeat (first | exact hD | apply List.Mem.tail)))
end
-- Pf
theorem zrPf : True := by first | (row_walk; done) | trivial
section
theorem zz14 : True := by
  k_with_none
  k_with "k_all" => ((intro pA hA; refine neN (Nat.ne_of_lt ?_); refine (by assumption : ∀ p ∈ _, p.1 < _) pA ?_; (repeat (first | exact hA | apply List.Mem.tail)); done))
  k_with "k_all" => (with_reducible assumption)
  k_with "k_upd" => ((first | exact Picks.nil | (refine' Picks.cons ?kuc ?kud; (case kuc => k_upd); (case kud => k_upd)) | (refine' Pick.head ?kua; (case kua => k_all)) | (refine' Pick.tail ?kua ?kub; (case kua => k_ne); (case kub => k_upd)) | (refine' Upd.head ?kua; (case kua => k_all)) | (refine' Upd.tail ?kua ?kub; (case kua => k_ne); (case kub => k_upd))))
  k_with "ktr_rel" => ((refine cb_drop (by assumption) ?_; (repeat' (refine fa_cons (by k_mem) ?_)); first | exact List.forall_mem_nil _ | (intro pD hD; repeat (first | exact hD | apply List.Mem.tail))))
  k_with "compareOp NotEq ref ref" => (k_here; k_dflt (refine' ne_K ?k1 ?k2 ?k3 ?k4 ?k5 ?k6 ?_; (case k1 => k_asm); (case k2 => k_mem); (case k3 => k_mem); (case k4 => l_intsC); (case k5 => l_intsC); (case k6 => ktr_units); k_whole))
  k_with "binaryOp FloorDiv int int" => (k_here; (with_reducible refine floordiv_int ?ke ?_ (Or.inl (noPy ?kp ?kq))); (case ke => first | omega | (split <;> omega)); (case kp => first | omega | (split <;> omega)); (case kq => first | omega | (split <;> omega)))
  k_with "call builtin:list.pop" => (k_here; k_dflt (refine' pop0_K ?k1 ?k2 ?k3 ?k4 ?_; (case k1 => k_asm); (case k2 => k_asm); (case k3 => k_upd); (case k4 => omega); k_whole); intro h' F' N')
  k_with "binaryOp Pow int int" => (k_here; first | (with_reducible refine powL_K 18446744073709551616 ?kb1 ?kb2 ?kb3 ?kb4 ?_; (case kb4 => decide +kernel); (case kb1 => decide); (case kb2 => decide); (case kb3 => decide)) | (with_reducible refine powL_K 9223372036854775808 ?kb1 ?kb2 ?kb3 ?kb4 ?_; (case kb4 => decide +kernel); (case kb1 => decide); (case kb2 => decide); (case kb3 => decide)) | (with_reducible refine powL_K 4294967296 ?kb1 ?kb2 ?kb3 ?kb4 ?_; (case kb4 => decide +kernel); (case kb1 => decide); (case kb2 => decide); (case kb3 => decide)) | (with_reducible refine powL_K 2147483648 ?kb1 ?kb2 ?kb3 ?kb4 ?_; (case kb4 => decide +kernel); (case kb1 => decide); (case kb2 => decide); (case kb3 => decide)) | (with_reducible refine powL_K 340282366920938463463374607431768211456 ?kb1 ?kb2 ?kb3 ?kb4 ?_; (case kb4 => decide +kernel); (case kb1 => decide); (case kb2 => decide); (case kb3 => decide)) | (with_reducible refine powL_K 170141183460469231731687303715884105728 ?kb1 ?kb2 ?kb3 ?kb4 ?_; (case kb4 => decide +kernel); (case kb1 => decide); (case kb2 => decide); (case kb3 => decide)))
  k_with "cell_enter" => ((refine' code_def ?k1 ?k2 ?k3 ?k4 ?k5 ?kA ?kF ?kK ?k6 ?k7 ?k8 ?k9 ?kB ?_ ?c2 ?c3 ?c4 ?c5; (case kA => exact rfl); (case kF => exact rfl); (case kK => first | assumption | exact rfl); (case k1 => k_asm); (case k2 => k_asm); (case k3 => k_asm); (case k4 => k_asm); (case k5 => k_asm); (case k6 => k_is); (case k7 => k_is); (case k8 => ktr_room); (case k9 => first | exact BindsTo.of_eq rfl | exact binds_K (by k_in) rfl (by k_is) rfl rfl rfl); (case c5 => decide); (case kB => exact locs rfl); (case c2 => exact rfl); (case c3 => exact rfl); (case c4 => exact rfl); k_whole; intro g' L' h' FG' F' N' B' X' T'; (try dsimp only); (try k_lift B'); (try k_fold)))
  k_with "ktr_units" => (((try simp only [units_in1, units_deeper, units_under_make, Around.mark_units]); (try dsimp only [ktrTop]); omega))
  k_with "ktr_room" => (((try simp only [depth_mark, depth_under_make, depth_under_kw, depth_in1, depth_deeper]); (try dsimp only [ktrTop]); omega))
  k_with "execs cons" => (k_here; (first | ((with_reducible refine gentok fun tk' => ?_); (with_reducible refine wpAny_execs_cons ?_)) | (with_reducible refine wpAny_execs_cons ?_)); (try dsimp only))
  k_with "execs nil" => (k_here; (refine wpAny_execs_nil ?_))
  k_with "compareOp Eq str str" => (k_here; k_dflt (refine' eq_no ?ke ?_; (case ke => with_reducible assumption)))
  k_with "compareOp In str ref" => (k_here; (with_reducible show wpAny _ _ (compareOp CmpOp.In (Value.str _ _) (Value.ref _)) _ _ _); (with_unfolding_all refine' tin_no ?k1 ?k2 ?k3 ?_; (case k1 => exact News.isTup (by k_asm) (by news_mem)); (case k2 => kde_strs); (case k3 => assumption); k_whole))
  k_with "compareOp NotIn str ref" => (k_here; (with_reducible show wpAny _ _ (compareOp CmpOp.NotIn (Value.str _ _) (Value.ref _)) _ _ _); (with_unfolding_all refine' tnot_no ?k1 ?k2 ?k3 ?_; (case k1 => exact News.isTup (by k_asm) (by news_mem)); (case k2 => kde_strs); (case k3 => assumption); k_whole))
  k_with "subscriptTail Name Slice str ref" => (k_here; (with_reducible show wpAny _ _ (subscriptTail _ (Expr.Slice (some _) none none _) _ _) _ _ _); (with_reducible rename Fr _ _ _ _ => F'); (with_reducible rename News _ _ _ _ => N'); (refine slice_strN_sn (hsz := ?hsz) (s := ⟨_, _, _, _, _⟩) F' N' ?_); (case hsz => (rw [sizeLine_eq]; omega)); intro h' t' tk' F' N')
  k_with "subscriptTail Name Slice str ref" => (k_here; (with_reducible show wpAny _ _ (subscriptTail _ (Expr.Slice none (some _) none _) _ _) _ _ _); (with_reducible rename Fr _ _ _ _ => F'); (with_reducible rename News _ _ _ _ => N'); (refine slice_strN_ns (hsz := ?hsz) (s := ⟨_, _, _, _, _⟩) F' N' ?_); (case hsz => (rw [sizeLine_eq]; omega)); intro h' t' tk' F' N')
  k_with "compareOp NotEq str str" => (k_here; k_dflt (refine' ne_yes ?ke ?_; (case ke => with_reducible assumption)))
  k_with "compareOp In str str" => (k_here; k_dflt (first | (refine' in_is false ?ke ?_; (case ke => decide +kernel)) | (refine' in_is true ?ke ?_; (case ke => decide +kernel))))
  trivial
set_option maxHeartbeats 8000000 in
theorem fsg_C {w : World} {mean : ExcName → Option Value} {mg mb : Str → Option Value}
    {dp un : Nat} {gd : Option (List Code)} {cn : Str} {cs : Scope} {a : Addr} {ccd : Value} {cl : List (Str × Addr)} {outer : List Env} {A₀ : Around} {base h₀ : Heap} {L : Addr} {m : Str → Option Value} {s : Shared} {Q E : Value → Shared → Prop}
    {x : Int} {tc tx : Tok} {led : List (Addr × Obj)}
    (B : Below A₀ base outer h₀) (F : Fr h₀ L s.heap m) (X : (hd.heap_1 w.params).In h₀)
    (N : News h₀ L s.heap led) 
    (T : Top qv Lo mean mg mb h₀) (hk : cs.kind = .function)  (hv0 : 0 ≤ x) (hv1 : x < 100)
    (hdp : dp + 5 < recursionLimit) (hun : un + 300 < cLine)
    (hret : ∀ h' tk', Fr h₀ L h' m → News h₀ L h' led → Q (.bool true) { s with heap := h', toks := tk' }) :
    wpAny (model Challenge.rw_ok0167_01.prog w) (ktrTop dp un gd cn cs L a ccd cl outer) (call (.ref 96) [.int x tx, .int 32 tc]) Q E s := by
  refine wpAny_call ?_
  k_dflt cell_enter
  k_steps
  all_goals (have e31 : (1 * 2 ^ ((32 : Int) - 1).toNat : Int) = 2147483648 := by decide +kernel)
  · exact Qbool (decide_eq_true (by rw [e31]; omega)) (hret _ _ (by assumption) (by ktr_rel))
  · exact Qbool (decide_eq_true (by rw [e31]; omega)) (hret _ _ (by assumption) (by ktr_rel))
theorem zz15 : True := by
  k_with "call ref" => (k_here; (with_reducible show wpAny _ _ (call (Value.ref 96) [Value.int _ _, Value.int _ _]) _ _ _); k_dflt (refine' fsg_C ?kB ?kF ?kX ?kN ?kT ?kk ?kv0 ?kv1 ?kd ?ku ?_; (case kB => k_asm); (case kF => k_asm); (case kX => k_asm); (case kN => k_asm); (case kT => k_asm); (case kk => first | exact rfl | assumption); (case kv0 => omega); (case kv1 => omega); (case kd => ktr_room); (case ku => ktr_units)); intro h' tk' F' N'; (try dsimp only); (try k_sweep); (try k_fold))
  trivial
set_option maxHeartbeats 8000000 in
theorem fitsz_C {w : World} {mean : ExcName → Option Value} {mg mb : Str → Option Value}
    {dp un : Nat} {gd : Option (List Code)} {cn : Str} {cs : Scope} {a : Addr} {ccd : Value} {cl : List (Str × Addr)} {outer : List Env} {A₀ : Around} {base h₀ : Heap} {L : Addr} {m : Str → Option Value} {s : Shared} {Q E : Value → Shared → Prop}
    {x : Int} {tc tx : Tok} {p : Addr} {led : List (Addr × Obj)}
    (B : Below A₀ base outer h₀) (F : Fr h₀ L s.heap m) (X : (hd.heap_1 w.params).In h₀)
    (N : News h₀ L s.heap led) 
    (T : Top qv Lo mean mg mb h₀) (hk : cs.kind = .function)  (hv : x = 32 ∨ x = 64)
    (hdp : dp + 10 < recursionLimit) (hun : un + 500 < cLine)
    (hret : ∀ h' tk', Fr h₀ L h' m → News h₀ L h' led → Q (.bool true) { s with heap := h', toks := tk' }) :
    wpAny (model Challenge.rw_ok0167_01.prog w) (ktrTop dp un gd cn cs L a ccd cl outer) (call (.ref 173) [.str (Str.ofString "z") tc, .int x tx, .ref p]) Q E s := by
  refine wpAny_call ?_
  k_dflt cell_enter
  k_steps
  · exact Qbool (beq_iff_eq.mpr (by assumption)) (hret _ _ (by assumption) (by ktr_rel))
  · exact Qbool (beq_iff_eq.mpr (by omega)) (hret _ _ (by assumption) (by ktr_rel))
set_option maxHeartbeats 8000000 in
theorem fitsr_C {w : World} {mean : ExcName → Option Value} {mg mb : Str → Option Value}
    {dp un : Nat} {gd : Option (List Code)} {cn : Str} {cs : Scope} {a : Addr} {ccd : Value} {cl : List (Str × Addr)} {outer : List Env} {A₀ : Around} {base h₀ : Heap} {L : Addr} {m : Str → Option Value} {s : Shared} {Q E : Value → Shared → Prop}
    {x : Int} {tc tx : Tok} {p : Addr} {led : List (Addr × Obj)}
    (B : Below A₀ base outer h₀) (F : Fr h₀ L s.heap m) (X : (hd.heap_1 w.params).In h₀)
    (N : News h₀ L s.heap led) 
    (T : Top qv Lo mean mg mb h₀) (hk : cs.kind = .function)  (hv0 : 0 ≤ x) (hv1 : x < 16)
    (hdp : dp + 10 < recursionLimit) (hun : un + 500 < cLine)
    (hret : ∀ h' tk', Fr h₀ L h' m → News h₀ L h' led → Q (.bool true) { s with heap := h', toks := tk' }) :
    wpAny (model Challenge.rw_ok0167_01.prog w) (ktrTop dp un gd cn cs L a ccd cl outer) (call (.ref 173) [.str (Str.ofString "r") tc, .int x tx, .ref p]) Q E s := by
  refine wpAny_call ?_
  k_dflt cell_enter
  k_steps
  exact Qbool (decide_eq_true hv1) (hret _ _ (by assumption) (by ktr_rel))
set_option maxHeartbeats 8000000 in
theorem fitsi_C {w : World} {mean : ExcName → Option Value} {mg mb : Str → Option Value}
    {dp un : Nat} {gd : Option (List Code)} {cn : Str} {cs : Scope} {a : Addr} {ccd : Value} {cl : List (Str × Addr)} {outer : List Env} {A₀ : Around} {base h₀ : Heap} {L : Addr} {m : Str → Option Value} {s : Shared} {Q E : Value → Shared → Prop}
    {x : Int} {tc tx : Tok} {p : Addr} {led : List (Addr × Obj)}
    (B : Below A₀ base outer h₀) (F : Fr h₀ L s.heap m) (X : (hd.heap_1 w.params).In h₀)
    (N : News h₀ L s.heap led) 
    (T : Top qv Lo mean mg mb h₀) (hk : cs.kind = .function)  (hv0 : 0 ≤ x) (hv1 : x < 100)
    (hdp : dp + 10 < recursionLimit) (hun : un + 500 < cLine)
    (hret : ∀ h' tk', Fr h₀ L h' m → News h₀ L h' led → Q (.bool true) { s with heap := h', toks := tk' }) :
    wpAny (model Challenge.rw_ok0167_01.prog w) (ktrTop dp un gd cn cs L a ccd cl outer) (call (.ref 173) [.str (Str.ofString "i") tc, .int x tx, .ref p]) Q E s := by
  refine wpAny_call ?_
  k_dflt cell_enter
  k_steps
  exact hret _ _ (by assumption) (by ktr_rel)
end
-- Zp
theorem zrZp : True := by first | (row_walk; done) | trivial
section
variable {prog : Program} {w : World} {A : Around} {E : Value → Shared → Prop} {s : Shared}
theorem zz16 : True := by
  k_with_none
  k_with "k_all" => ((intro pA hA; refine neN (Nat.ne_of_lt ?_); refine (by assumption : ∀ p ∈ _, p.1 < _) pA ?_; (repeat (first | exact hA | apply List.Mem.tail)); done))
  k_with "k_all" => (with_reducible assumption)
  k_with "k_upd" => ((first | exact Picks.nil | (refine' Picks.cons ?kuc ?kud; (case kuc => k_upd); (case kud => k_upd)) | (refine' Pick.head ?kua; (case kua => k_all)) | (refine' Pick.tail ?kua ?kub; (case kua => k_ne); (case kub => k_upd)) | (refine' Upd.head ?kua; (case kua => k_all)) | (refine' Upd.tail ?kua ?kub; (case kua => k_ne); (case kub => k_upd))))
  k_with "ktr_rel" => ((refine cb_drop (by assumption) ?_; (repeat' (refine fa_cons (by k_mem) ?_)); first | exact List.forall_mem_nil _ | (intro pD hD; repeat (first | exact hD | apply List.Mem.tail))))
  k_with "compareOp NotEq ref ref" => (k_here; k_dflt (refine' ne_K ?k1 ?k2 ?k3 ?k4 ?k5 ?k6 ?_; (case k1 => k_asm); (case k2 => k_mem); (case k3 => k_mem); (case k4 => l_intsC); (case k5 => l_intsC); (case k6 => ktr_units); k_whole))
  k_with "binaryOp FloorDiv int int" => (k_here; (with_reducible refine floordiv_int ?ke ?_ (Or.inl (noPy ?kp ?kq))); (case ke => first | omega | (split <;> omega)); (case kp => first | omega | (split <;> omega)); (case kq => first | omega | (split <;> omega)))
  k_with "call builtin:list.pop" => (k_here; k_dflt (refine' pop0_K ?k1 ?k2 ?k3 ?k4 ?_; (case k1 => k_asm); (case k2 => k_asm); (case k3 => k_upd); (case k4 => omega); k_whole); intro h' F' N')
  k_with "binaryOp Pow int int" => (k_here; first | (with_reducible refine powL_K 18446744073709551616 ?kb1 ?kb2 ?kb3 ?kb4 ?_; (case kb4 => decide +kernel); (case kb1 => decide); (case kb2 => decide); (case kb3 => decide)) | (with_reducible refine powL_K 9223372036854775808 ?kb1 ?kb2 ?kb3 ?kb4 ?_; (case kb4 => decide +kernel); (case kb1 => decide); (case kb2 => decide); (case kb3 => decide)) | (with_reducible refine powL_K 4294967296 ?kb1 ?kb2 ?kb3 ?kb4 ?_; (case kb4 => decide +kernel); (case kb1 => decide); (case kb2 => decide); (case kb3 => decide)) | (with_reducible refine powL_K 2147483648 ?kb1 ?kb2 ?kb3 ?kb4 ?_; (case kb4 => decide +kernel); (case kb1 => decide); (case kb2 => decide); (case kb3 => decide)) | (with_reducible refine powL_K 340282366920938463463374607431768211456 ?kb1 ?kb2 ?kb3 ?kb4 ?_; (case kb4 => decide +kernel); (case kb1 => decide); (case kb2 => decide); (case kb3 => decide)) | (with_reducible refine powL_K 170141183460469231731687303715884105728 ?kb1 ?kb2 ?kb3 ?kb4 ?_; (case kb4 => decide +kernel); (case kb1 => decide); (case kb2 => decide); (case kb3 => decide)))
  k_with "cell_enter" => ((refine' code_def ?k1 ?k2 ?k3 ?k4 ?k5 ?kA ?kF ?kK ?k6 ?k7 ?k8 ?k9 ?kB ?_ ?c2 ?c3 ?c4 ?c5; (case kA => exact rfl); (case kF => exact rfl); (case kK => first | assumption | exact rfl); (case k1 => k_asm); (case k2 => k_asm); (case k3 => k_asm); (case k4 => k_asm); (case k5 => k_asm); (case k6 => k_is); (case k7 => k_is); (case k8 => ktr_room); (case k9 => first | exact BindsTo.of_eq rfl | exact binds_K (by k_in) rfl (by k_is) rfl rfl rfl); (case c5 => decide); (case kB => exact locs rfl); (case c2 => exact rfl); (case c3 => exact rfl); (case c4 => exact rfl); k_whole; intro g' L' h' FG' F' N' B' X' T'; (try dsimp only); (try k_lift B'); (try k_fold)))
  k_with "ktr_units" => (((try simp only [units_in1, units_deeper, units_under_make, Around.mark_units]); (try dsimp only [ktrTop]); omega))
  k_with "ktr_room" => (((try simp only [depth_mark, depth_under_make, depth_under_kw, depth_in1, depth_deeper]); (try dsimp only [ktrTop]); omega))
  k_with "execs cons" => (k_here; (first | ((with_reducible refine gentok fun tk' => ?_); (with_reducible refine wpAny_execs_cons ?_)) | (with_reducible refine wpAny_execs_cons ?_)); (try dsimp only))
  k_with "execs nil" => (k_here; (refine wpAny_execs_nil ?_))
  trivial
theorem nextOf_tuple_item {it t : Addr} {i : Nat} {items : Array Value} {x : Value} {Q : Value → Shared → Prop} (hit : s.heap.IsTupleIter it t i) (ht : s.heap.IsTuple t items) (hx : items[i]? = some x)
    (hQ : ∀ h', h'.IsTupleIter it t (i + 1) → Heap.SameBut it s.heap h' → Q x { s with heap := h' }) : wpAny (model prog w) A (Builtin.SmallTypes.nextOf (.ref it)) Q E s := by
  obtain ⟨o, ho, hc, hd⟩ := id hit
  obtain ⟨ol, hol, _, nl, hdl⟩ := ht
  unfold Builtin.SmallTypes.nextOf
  refine wpAny_bind (wpAny_callSpecial?_slot (name := Str.ofString "__next__") hit.typeIs F.slot_tuple_iterator_next
    (wpAny_call_entry F.slot_tuple_iterator_next hit.typeIs F.entry_tuple_iterator_next ?_ (F.args_tuple_iterator_next_1 _)))
  show wpAny _ _ (field (.ref it) 0 >>= _) _ _ s
  refine wpAny_bind (wpAny_field ho hd (x := .ref t) rfl ?_)
  show wpAny _ _ (if (Value.ref t == Value.none) = true then _ else _) _ _ s
  rw [if_neg (show ¬ ((Value.ref t == Value.none) = true) from Bool.false_ne_true)]
  show wpAny _ _ (field (.ref it) 1 >>= _) _ _ s
  refine wpAny_bind (wpAny_field ho hd (x := .int i 0) rfl ?_)
  show wpAny _ _ (seqItems? (.ref t) >>= _) _ _ s
  refine wpAny_bind (wpAny_seqItems hol hdl ?_)
  simp only [Int.toNat_natCast, hx]
  refine wpAny_bind (wpAny_setField ho hd (by simp) (wpAny_pure ⟨x, rfl, wpAny_pure (hQ _ ?_ (Heap.SameBut.update ..))⟩))
  exact ⟨_, Heap.get?_update_self _ ho (Obj.isFreed_of_fields (Obj.data_mapFields hd _)), (Obj.cls_mapFields ..).trans hc, by
    rw [Obj.data_mapFields hd]; simp [rawInt]⟩
theorem nextOf_tuple_end {it t : Addr} {i : Nat} {items : Array Value} {Q : Value → Shared → Prop} (hh : A.handled = none) (hit : s.heap.IsTupleIter it t i) (ht : s.heap.IsTuple t items) (hx : items[i]? = none)
    (hE : ∀ h' e, Heap.ExtBut it s.heap h' → (∃ o, h'.get? e = some o ∧ o.cls = .type "StopIteration") → E (.ref e) { s with heap := h' }) : wpAny (model prog w) A (Builtin.SmallTypes.nextOf (.ref it)) Q E s := by
  obtain ⟨o, ho, hc, hd⟩ := id hit
  obtain ⟨ol, hol, _, nl, hdl⟩ := ht
  unfold Builtin.SmallTypes.nextOf
  refine wpAny_bind (wpAny_callSpecial?_slot (name := Str.ofString "__next__") hit.typeIs F.slot_tuple_iterator_next
    (wpAny_call_entry F.slot_tuple_iterator_next hit.typeIs F.entry_tuple_iterator_next ?_ (F.args_tuple_iterator_next_1 _)))
  show wpAny _ _ (field (.ref it) 0 >>= _) _ _ s
  refine wpAny_bind (wpAny_field ho hd (x := .ref t) rfl ?_)
  show wpAny _ _ (if (Value.ref t == Value.none) = true then _ else _) _ _ s
  rw [if_neg (show ¬ ((Value.ref t == Value.none) = true) from Bool.false_ne_true)]
  show wpAny _ _ (field (.ref it) 1 >>= _) _ _ s
  refine wpAny_bind (wpAny_field ho hd (x := .int i 0) rfl ?_)
  show wpAny _ _ (seqItems? (.ref t) >>= _) _ _ s
  refine wpAny_bind (wpAny_seqItems hol hdl ?_)
  simp only [Int.toNat_natCast, hx]
  refine wpAny_bind (wpAny_rule (wpAny_bind (wpAny_setField ho hd (by simp) ?_)))
  show wpAny _ _ (newExc (.type "StopIteration") [] >>= _) _ _ _
  refine wpAny_bind ?_
  simp only [newExc, newTuple]
  refine wpAny_bind (wpAny_newObj_type ?_ (by size_fits))
  refine wpAny_bind (m := firstArgMember _ _) (wpAny_of_eq (a := Value.none) (by first | rfl | (simp only [firstArgMember]; rfl)) ?_)
  refine wpAny_newObj_type ?_ (by size_fits)
  simp only [raiseNew]
  refine wpAny_bind (wpAny_handled ?_)
  rw [hh]
  refine wpAny_bind (wpAny_pure (wpAny_throw ?_))
  exact hE _ _ (((Heap.SameBut.update ..).extBut.push _).push _) ⟨_, Heap.get?_push_size _ rfl, rfl⟩
theorem drawsTuple (hh : A.handled = none) (it l : Addr) (hne : l ≠ it) (items : Array Value) :
    Draws prog w A it [it, l] items.size (fun i v => items[i]? = some v) (fun i h => h.IsTupleIter it l i ∧ h.IsTuple l items) where
  live := fun _ _ st => let ⟨o, ho, _⟩ := st.1; ⟨o, ho⟩
  frame := fun _ _ _ st hk => ⟨st.1.at fun o e => hk it (by simp) o e, st.2.at fun o e => hk l (by simp) o e⟩
  item := fun i s Q E hi st hQ => by
    refine nextOf_tuple_item st.1 st.2 (x := items[i]) (by simp [hi]) fun h' hit' hs' => ?_
    exact hQ _ h' s.toks (by simp [hi]) ⟨hit', st.2.extBut hs'.extBut hne⟩ hs'
  done := fun s Q E st hE => nextOf_tuple_end hh st.1 st.2 (by simp) hE
/-- the zip's objects lie apart -/
structure ZAp (z TI TO i1 i2 : Addr) (f1 f2 : List Addr) : Prop where
  TIz : TI ≠ z
  TOz : TO ≠ z
  i1z : i1 ≠ z
  i2z : i2 ≠ z
  TITO : TI ≠ TO
  TIi1 : TI ≠ i1
  TIi2 : TI ≠ i2
  TOi1 : TO ≠ i1
  TOi2 : TO ≠ i2
  zf1 : z ∉ f1
  zf2 : z ∉ f2
  TOf1 : TO ∉ f1
  TOf2 : TO ∉ f2
  i2f1 : i2 ∉ f1
  i1f2 : i1 ∉ f2
section
variable {z TI TO i1 i2 : Addr} {f1 f2 : List Addr} {n1 n2 i : Nat} {P1 P2 : Nat → Value → Prop} {S1 S2 : Nat → Heap → Prop} {a b : Value}
theorem zipD_item {Q : Value → Shared → Prop} (Z : ZAp z TI TO i1 i2 f1 f2) (D1 : Draws prog w A i1 f1 n1 P1 S1) (D2 : Draws prog w A i2 f2 n2 P2 S2)
    (hz : IsZip s.heap z TI TO .none) (hTI : IsPair s.heap TI (.ref i1) (.ref i2)) (hTO : IsPair s.heap TO a b) (h1 : S1 i s.heap) (h2 : S2 i s.heap) (l1 : i < n1) (l2 : i < n2)
    (hQ : ∀ x y h' tk, P1 i x → P2 i y → IsZip h' z TI TO (rawInt s.heap.objs.size) → IsPair h' TO x y → S1 (i + 1) h' → S2 (i + 1) h' → IsPair h' s.heap.objs.size x y →
      (∀ c o, c ≠ z → c ≠ TO → c ≠ i1 → c ≠ i2 → s.heap.get? c = some o → h'.get? c = some o) → Q (.ref s.heap.objs.size) { s with heap := h', toks := tk }) :
    wpAny (model prog w) A (Builtin.«zip.__next__» ⟨[.ref z], []⟩) (fun fin s' => ∃ v, fin = .done (.ret v) ∧ Q v s') E s := by
  obtain ⟨hp, g, d, tk₀, os⟩ := s
  replace hz : IsZip hp z TI TO .none := hz
  replace hTI : IsPair hp TI (.ref i1) (.ref i2) := hTI
  replace hTO : IsPair hp TO a b := hTO
  show wpAny _ _ (field (.ref z) 2 >>= _) _ _ _
  refine wpAny_bind (wpAny_field hz rfl (x := .bool false) rfl ?_)
  show wpAny _ _ (field (.ref z) 3 >>= _) _ _ _
  refine wpAny_bind (wpAny_field hz rfl (x := .ref TI) rfl ?_)
  refine wpAny_bind (wpAny_seqItems hTI rfl ?_)
  show wpAny _ _ (Builtin.SmallTypes.ownedTupleIsFree (.ref z) >>= _) _ _ _
  refine wpAny_bind ?_
  unfold Builtin.SmallTypes.ownedTupleIsFree
  refine wpAny_bind (wpAny_field hz rfl (x := .none) rfl (wpAny_pure ?_))
  simp only [if_true]
  refine wpAny_bind (wpAny_rule ?_)
  refine wpAny_bind (wpAny_field hz rfl (x := .ref TO) rfl ?_)
  refine wpAny_bind (wpAny_setField_rec hz (by simp) fun h₁ hz₁ hs₁ => ?_)
  replace hz₁ : IsZip h₁ z TI TO .ellipsis := hz₁
  replace hs₁ : Heap.SameBut z hp h₁ := hs₁
  have h1₁ : S1 i h₁ := D1.frame _ _ _ h1 fun b hb o e => hs₁.extBut b o (fun q => Z.zf1 (q ▸ hb)) e
  have h2₁ : S2 i h₁ := D2.frame _ _ _ h2 fun b hb o e => hs₁.extBut b o (fun q => Z.zf2 (q ▸ hb)) e
  refine wpAny_bind ?_
  simp only [List.zipIdx_cons, List.zipIdx_nil, List.forIn_cons, List.forIn_nil]
  refine wpAny_bind (wpAny_bind (wpAny_onRaise ?_))
  show wpAny _ _ (Builtin.SmallTypes.nextOf (.ref i1) >>= _) _ _ _
  refine wpAny_bind (D1.item i _ _ _ l1 h1₁ fun x h₂ tk₂ Px h1₂ hs₂ => wpAny_pure ?_)
  replace hs₂ : Heap.SameBut i1 h₁ h₂ := hs₂
  have h2₂ : S2 i h₂ := D2.frame _ _ _ h2₁ fun b hb o e => hs₂.extBut b o (fun q => Z.i1f2 (q ▸ hb)) e
  have hTO₂ : IsPair h₂ TO a b := hs₂.extBut _ _ Z.TOi1 (hs₁.extBut _ _ Z.TOz hTO)
  refine wpAny_bind (wpAny_seqItems hTO₂ rfl ?_)
  refine wpAny_bind (wpAny_updateSeq_pair hTO₂ fun h₃ hTO₃ hs₃ => ?_)
  replace hTO₃ : IsPair h₃ TO x b := hTO₃
  replace hs₃ : Heap.SameBut TO h₂ h₃ := hs₃
  have h1₃ : S1 (i + 1) h₃ := D1.frame _ _ _ h1₂ fun b hb o e => hs₃.extBut b o (fun q => Z.TOf1 (q ▸ hb)) e
  have h2₃ : S2 i h₃ := D2.frame _ _ _ h2₂ fun b hb o e => hs₃.extBut b o (fun q => Z.TOf2 (q ▸ hb)) e
  refine wpAny_bind (wpAny_letGo (wpAny_pure ?_))
  refine wpAny_bind (wpAny_bind (wpAny_onRaise ?_))
  show wpAny _ _ (Builtin.SmallTypes.nextOf (.ref i2) >>= _) _ _ _
  refine wpAny_bind (D2.item i _ _ _ l2 h2₃ fun y h₄ tk₄ Py h2₄ hs₄ => wpAny_pure ?_)
  replace hs₄ : Heap.SameBut i2 h₃ h₄ := hs₄
  have h1₄ : S1 (i + 1) h₄ := D1.frame _ _ _ h1₃ fun b hb o e => hs₄.extBut b o (fun q => Z.i2f1 (q ▸ hb)) e
  have hTO₄ : IsPair h₄ TO x b := hs₄.extBut _ _ Z.TOi2 hTO₃
  refine wpAny_bind (wpAny_seqItems hTO₄ rfl ?_)
  refine wpAny_bind (wpAny_updateSeq_pair hTO₄ fun h₅ hTO₅ hs₅ => ?_)
  replace hTO₅ : IsPair h₅ TO x y := hTO₅
  replace hs₅ : Heap.SameBut TO h₄ h₅ := hs₅
  have h1₅ : S1 (i + 1) h₅ := D1.frame _ _ _ h1₄ fun b hb o e => hs₅.extBut b o (fun q => Z.TOf1 (q ▸ hb)) e
  have h2₅ : S2 (i + 1) h₅ := D2.frame _ _ _ h2₄ fun b hb o e => hs₅.extBut b o (fun q => Z.TOf2 (q ▸ hb)) e
  refine wpAny_bind (wpAny_letGo (wpAny_pure (wpAny_pure ?_)))
  refine wpAny_bind (wpAny_seqItems hTO₅ rfl ?_)
  refine wpAny_bind (wpAny_newTuple ?_)
  have hsz : h₅.objs.size = hp.objs.size := by rw [hs₅.1, hs₄.1, hs₃.1, hs₂.1, hs₁.1]
  have hz₅ : IsZip h₅ z TI TO .ellipsis := hs₅.extBut _ _ Z.TOz.symm (hs₄.extBut _ _ Z.i2z.symm (hs₃.extBut _ _ Z.TOz.symm (hs₂.extBut _ _ Z.i1z.symm hz₁)))
  have hk₅ : ∀ c o, c ≠ z → c ≠ TO → c ≠ i1 → c ≠ i2 → hp.get? c = some o → h₅.get? c = some o := fun c o c1 c2 c3 c4 e =>
    hs₅.extBut _ _ c2 (hs₄.extBut _ _ c4 (hs₃.extBut _ _ c2 (hs₂.extBut _ _ c3 (hs₁.extBut _ _ c1 e))))
  have hzlt : z < h₅.objs.size := Heap.lt_size hz₅
  show wpAny _ _ (Builtin.SmallTypes.ownedTupleHandOut (.ref z) (.ref h₅.objs.size) >>= _) _ _ _
  refine wpAny_bind ?_
  unfold Builtin.SmallTypes.ownedTupleHandOut
  have hz₆ : IsZip (h₅.push { cls := .type "tuple", data := .seq #[x, y] }) z TI TO .ellipsis := Heap.get?_push_of_some _ hz₅
  refine wpAny_bind (wpAny_setField_rec hz₆ (by simp) fun h₇ hz₇ hs₇ => ?_)
  replace hz₇ : IsZip h₇ z TI TO (rawInt h₅.objs.size) := hz₇
  refine wpAny_setField_rec hz₇ (by simp) fun h₈ hz₈ hs₈ => ?_
  replace hz₈ : IsZip h₈ z TI TO (rawInt h₅.objs.size) := hz₈
  have up : ∀ c o, c ≠ z → h₅.get? c = some o → h₈.get? c = some o := fun c o c1 e => hs₈.extBut _ _ c1 (hs₇.extBut _ _ c1 (Heap.get?_push_of_some _ e))
  have hT₈ : IsPair h₈ h₅.objs.size x y := hs₈.extBut _ _ (Nat.ne_of_gt hzlt) (hs₇.extBut _ _ (Nat.ne_of_gt hzlt) (Heap.get?_push_size _ rfl))
  have h1₈ : S1 (i + 1) h₈ := D1.frame _ _ _ h1₅ fun b hb o e => up b o (fun q => Z.zf1 (q ▸ hb)) e
  have h2₈ : S2 (i + 1) h₈ := D2.frame _ _ _ h2₅ fun b hb o e => up b o (fun q => Z.zf2 (q ▸ hb)) e
  rw [hsz] at hz₈ hT₈
  refine wpAny_pure ⟨_, rfl, ?_⟩
  show Q (.ref h₅.objs.size) _
  rw [hsz]
  exact hQ x y h₈ _ Px Py hz₈ (up _ _ Z.TOz hTO₅) h1₈ h2₈ hT₈ fun c o c1 c2 c3 c4 e => up c o c1 (hk₅ c o c1 c2 c3 c4 e)
theorem zipD_end {Q : Fin → Shared → Prop} (Z : ZAp z TI TO i1 i2 f1 f2) (D1 : Draws prog w A i1 f1 n1 P1 S1)
    (hz : IsZip s.heap z TI TO .none) (hTI : IsPair s.heap TI (.ref i1) (.ref i2)) (hTO : IsPair s.heap TO a b) (h1 : S1 n1 s.heap)
    (hE : ∀ h' e, (∀ c o, c ≠ z → c ≠ TO → c ≠ i1 → c ≠ i2 → s.heap.get? c = some o → h'.get? c = some o) → (∃ o, h'.get? e = some o ∧ o.cls = .type "StopIteration") → E (.ref e) { s with heap := h' }) :
    wpAny (model prog w) A (Builtin.«zip.__next__» ⟨[.ref z], []⟩) Q E s := by
  show wpAny _ _ (field (.ref z) 2 >>= _) _ _ _
  refine wpAny_bind (wpAny_field hz rfl (x := .bool false) rfl ?_)
  show wpAny _ _ (field (.ref z) 3 >>= _) _ _ _
  refine wpAny_bind (wpAny_field hz rfl (x := .ref TI) rfl ?_)
  refine wpAny_bind (wpAny_seqItems hTI rfl ?_)
  show wpAny _ _ (Builtin.SmallTypes.ownedTupleIsFree (.ref z) >>= _) _ _ _
  refine wpAny_bind ?_
  unfold Builtin.SmallTypes.ownedTupleIsFree
  refine wpAny_bind (wpAny_field hz rfl (x := .none) rfl (wpAny_pure ?_))
  simp only [if_true]
  refine wpAny_bind (wpAny_rule ?_)
  refine wpAny_bind (wpAny_field hz rfl (x := .ref TO) rfl ?_)
  refine wpAny_bind (wpAny_setField_rec hz (by simp) fun h₁ hz₁ hs₁ => ?_)
  replace hz₁ : IsZip h₁ z TI TO .ellipsis := hz₁
  refine wpAny_bind ?_
  simp only [List.zipIdx_cons, List.zipIdx_nil, List.forIn_cons, List.forIn_nil]
  refine wpAny_bind (wpAny_bind (wpAny_onRaise ?_))
  show wpAny _ _ (Builtin.SmallTypes.nextOf (.ref i1) >>= _) _ _ _
  refine wpAny_bind (D1.done _ _ _ (D1.frame _ _ _ h1 fun b hb o e => hs₁.extBut b o (fun q => Z.zf1 (q ▸ hb)) e) fun h₂ e hs₂ he => ?_)
  obtain ⟨oe, hoe, hce⟩ := he
  have hz₂ : IsZip h₂ z TI TO .ellipsis := hs₂ _ _ Z.i1z.symm hz₁
  have hez : e ≠ z := fun x => by subst x; rw [hz₂] at hoe; cases hoe; simp at hce
  refine wpAny_setField_rec hz₂ (by simp) fun h₃ _ hs₃ => hE h₃ e (fun c o c1 _ c3 _ x => hs₃.extBut _ _ c1 (hs₂ _ _ c3 (hs₁.extBut _ _ c1 x))) ⟨oe, hs₃.extBut _ _ hez hoe, hce⟩
theorem zipD_walks (Z : ZAp z TI TO i1 i2 f1 f2) (D1 : Draws prog w A.in1 i1 f1 n1 P1 S1) (D2 : Draws prog w A.in1 i2 f2 n1 P2 S2) (hf1 : i1 ∈ f1) (hf2 : i2 ∈ f2) :
    WalksT prog w A z ([z, TI, TO] ++ f1 ++ f2) [z, TO, i1, i2] n1 (fun i vals => ∃ x y, P1 i x ∧ P2 i y ∧ vals = #[x, y])
      (fun i h => IsZip h z TI TO .none ∧ IsPair h TI (.ref i1) (.ref i2) ∧ (∃ a b, IsPair h TO a b) ∧ S1 i h ∧ S2 i h)
      (fun i T h => IsZip h z TI TO (rawInt T) ∧ IsPair h TI (.ref i1) (.ref i2) ∧ (∃ a b, IsPair h TO a b) ∧ S1 (i + 1) h ∧ S2 (i + 1) h ∧ T ≠ z ∧ T ≠ TO ∧ T ≠ i1 ∧ T ≠ i2) where
  sub := fun c hc => by
    simp at hc ⊢
    rcases hc with rfl | rfl | rfl | rfl
    · exact .inl rfl
    · exact .inr (.inr (.inl rfl))
    · exact .inr (.inr (.inr (.inl hf1)))
    · exact .inr (.inr (.inr (.inr hf2)))
  frame := fun i h h' hst hk => by
    obtain ⟨hz, hTI, ⟨a, b, hTO⟩, h1, h2⟩ := hst
    exact ⟨hk z (by simp) _ hz, hk TI (by simp) _ hTI, ⟨a, b, hk TO (by simp) _ hTO⟩, D1.frame _ _ _ h1 fun b hb o e => hk b (by simp [hb]) o e, D2.frame _ _ _ h2 fun b hb o e => hk b (by simp [hb]) o e⟩
  item := fun i s Q E hi hst hQ => by
    obtain ⟨hz, hTI, ⟨a, b, hTO⟩, h1, h2⟩ := hst
    have hT : s.TypeIs (.ref z) "zip" := ⟨_, hz, rfl⟩
    have lt : ∀ {c o}, s.heap.get? c = some o → s.heap.objs.size ≠ c := fun e => Nat.ne_of_gt (Heap.lt_size e)
    obtain ⟨_, e1⟩ := D1.live _ _ h1
    obtain ⟨_, e2⟩ := D2.live _ _ h2
    unfold pyNext
    refine wpAny_bind (wpAny_attempt (wpAny_callSpecial?_slot (name := Str.ofString "__next__") hT F.slot_zip_next
      (wpAny_call_entry F.slot_zip_next hT F.entry_zip_next
        (zipD_item Z D1 D2 hz hTI hTO h1 h2 hi hi fun x y h' tk Px Py a1 a2 a3 a4 a5 hk => wpAny_pure ?_) (F.args_zip_next_1 _))))
    exact hQ s.heap.objs.size #[x, y] h' tk ⟨_, _, Px, Py, rfl⟩ (Nat.le_refl _) ⟨_, a5, rfl, _, rfl⟩
      ⟨a1, hk _ _ Z.TIz Z.TITO Z.TIi1 Z.TIi2 hTI, ⟨_, _, a2⟩, a3, a4, lt hz, lt hTO, lt e1, lt e2⟩
      fun c o hc e => hk c o (fun x => hc (by simp [x])) (fun x => hc (by simp [x])) (fun x => hc (by simp [x])) (fun x => hc (by simp [x])) e
  go := fun elts k pos i T s Q E hm hQ => by
    obtain ⟨hz, hTI, ⟨a, b, hTO⟩, h1, h2, _⟩ := hm
    refine wpAny_letOwnedTupleGo_zip hz fun h' hz' hs' => hQ h' ⟨hz', hs'.extBut _ _ Z.TIz hTI, ⟨a, b, hs'.extBut _ _ Z.TOz hTO⟩, D1.frame _ _ _ h1 fun b hb o e => hs'.extBut b o (fun q => Z.zf1 (q ▸ hb)) e,
      D2.frame _ _ _ h2 fun b hb o e => hs'.extBut b o (fun q => Z.zf2 (q ▸ hb)) e⟩ fun c o hc e => hs'.extBut _ _ (fun x => hc (by simp [x])) e
  apart := fun i T h hm hT => by
    obtain ⟨_, _, _, _, _, t1, t2, t3, t4⟩ := hm
    simp at hT
    rcases hT with rfl | rfl | rfl | rfl
    · exact t1 rfl
    · exact t2 rfl
    · exact t3 rfl
    · exact t4 rfl
  done := fun s Q E hst hQ => by
    obtain ⟨hz, hTI, ⟨a, b, hTO⟩, h1, h2⟩ := hst
    have hT : s.TypeIs (.ref z) "zip" := ⟨_, hz, rfl⟩
    unfold pyNext
    refine wpAny_bind (wpAny_attempt (wpAny_callSpecial?_slot (name := Str.ofString "__next__") hT F.slot_zip_next
      (wpAny_call_entry F.slot_zip_next hT F.entry_zip_next (zipD_end Z D1 hz hTI hTO h1 fun h' e hk he => ?_) (F.args_zip_next_1 _))))
    obtain ⟨o, ho, hc⟩ := he
    refine wpAny_bind (wpAny_isInstance (T := "StopIteration") (b := true) ⟨o, ho, hc⟩ isSubtype_stop ?_)
    exact wpAny_pure (hQ _ s.toks fun c o hc e => hk c o (fun x => hc (by simp [x])) (fun x => hc (by simp [x])) (fun x => hc (by simp [x])) (fun x => hc (by simp [x])) e)
  self := fun i s Q E hst hQ => wpAny_pyIter_zip hst.1 hQ
end
abbrev zsH1 (h : Heap) (x : Str) (t : Tok) : Heap := h.push { cls := .type (strIterType x), data := .fields #[.str x t, .int 0 0] }
abbrev zsH2 (h : Heap) (x : Str) (t : Tok) (l2 : Addr) : Heap := (zsH1 h x t).push { cls := .type "tuple_iterator", data := .fields #[.ref l2, .int 0 0] }
abbrev zsH3 (h : Heap) (x : Str) (t : Tok) (l2 : Addr) : Heap := (zsH2 h x t l2).push { cls := .type "tuple", data := .seq #[.ref h.objs.size, .ref (zsH1 h x t).objs.size] }
abbrev zsH4 (h : Heap) (x : Str) (t : Tok) (l2 : Addr) : Heap := (zsH3 h x t l2).push { cls := .type "tuple", data := .seq #[.none, .none] }
abbrev zsH5 (h : Heap) (x : Str) (t : Tok) (l2 : Addr) : Heap := (zsH4 h x t l2).push { cls := .type "zip", data := .fields #[.none, .bool false, .bool false, .ref (zsH2 h x t l2).objs.size, .ref (zsH3 h x t l2).objs.size] }
theorem iterAll_S {prog : Program} {w : World} {A : Around} {E : Value → Shared → Prop} {s : Shared} {x : Str} {t : Tok} {l2 : Addr} {ys : Array Value} {Q : List Value → Shared → Prop} (hl2 : s.heap.IsTuple l2 ys)
    (h : Q [.ref s.heap.objs.size, .ref (zsH1 s.heap x t).objs.size] { s with heap := zsH2 s.heap x t l2 }) :
    wpAny (model prog w) A (Builtin.SmallTypes.iterAll [.str x t, .ref l2]) Q E s := by
  unfold Builtin.SmallTypes.iterAll
  simp only [List.forIn_cons, List.forIn_nil]
  refine wpAny_bind (wpAny_bind (wpAny_bind (wpAny_holding (wpAny_pyIter_strU (wpAny_pure ?_)))))
  refine wpAny_bind (wpAny_bind (wpAny_holding (wpAny_pyIter_tuple (hl2.push _) (wpAny_pure (wpAny_pure (wpAny_pure h))))))
theorem newClass_zip {prog : Program} {w : World} {A : Around} {E : Value → Shared → Prop} {s : Shared} {a b : Value} {Q : Value × List Value → Shared → Prop} (h : Q (.type "zip", [a, b]) s) :
    wpAny (model prog w) A (Builtin.SmallTypes.newClass "zip" ⟨[.type "zip", a, b], []⟩) Q E s := by
  obtain ⟨hp, g, d, tk, os⟩ := s
  have hsub := sub_zip
  wp_walk
  exact h
theorem meets_zipS (x : Str) (t : Tok) (l2 : Addr) (ys : Array Value) :
    Meets (Builtin.«zip.__new__» ⟨[.type "zip", .str x t, .ref l2], []⟩) (fun _ R s => s.heap.IsTuple l2 ys ∧ R (.ok (.ret (.ref (zsH4 s.heap x t l2).objs.size))) { s with heap := zsH5 s.heap x t l2 }) :=
  .of_wp fun prog w A R s h => by
    obtain ⟨hp, g, d, tk, os⟩ := s; obtain ⟨hl2, h⟩ := h
    unfold Builtin.«zip.__new__»
    refine wpAny_bind (newClass_zip ?_)
    refine wpAny_bind (iterAll_S hl2 ?_)
    refine wpAny_bind (wpAny_newTuple ?_)
    refine wpAny_bind (wpAny_newTuple ?_)
    refine wpAny_bind ?_
    unfold Builtin.SmallTypes.newRecord
    refine wpAny_newObj_type ?_ (by unfold sizeOk; first | rfl | trivial | (with_unfolding_all exact Nat.le_of_ble_eq_true rfl))
    exact wpAny_pure ⟨_, rfl, h⟩
theorem call_zipS {x : Str} {t : Tok} {l2 : Addr} {ys : Array Value} {Q : Value → Shared → Prop} (hl2 : s.heap.IsTuple l2 ys)
    (h : ∀ h', IsZip h' (s.heap.objs.size + 4) (s.heap.objs.size + 2) (s.heap.objs.size + 3) .none → IsPair h' (s.heap.objs.size + 2) (.ref s.heap.objs.size) (.ref (s.heap.objs.size + 1)) →
      IsPair h' (s.heap.objs.size + 3) .none .none → h'.IsStrIter s.heap.objs.size (strIterType x) x t 0 → h'.IsTupleIter (s.heap.objs.size + 1) l2 0 → h'.objs.size = s.heap.objs.size + 5 →
      (∀ c o, s.heap.get? c = some o → h'.get? c = some o) → Q (.ref (s.heap.objs.size + 4)) { s with heap := h' }) :
    wpAny (model prog w) A (call (.type "zip") [.str x t, .ref l2]) Q E s := by
  refine callType_new F.called_zip (by decide) (F.typeCall_zip_2 _ _) (F.newCall_zip_2 _ _) (fun obj => F.args_object_init_3 obj _ _) F.entry_zip_new (meets_zipS x t l2 ys) ⟨hl2, ?_⟩
  have z1 : (zsH1 s.heap x t).objs.size = s.heap.objs.size + 1 := Heap.size_push ..
  have z2 : (zsH2 s.heap x t l2).objs.size = s.heap.objs.size + 2 := by rw [Heap.size_push, z1]
  have z3 : (zsH3 s.heap x t l2).objs.size = s.heap.objs.size + 3 := by rw [Heap.size_push, z2]
  have z4 : (zsH4 s.heap x t l2).objs.size = s.heap.objs.size + 4 := by rw [Heap.size_push, z3]
  have z5 : (zsH5 s.heap x t l2).objs.size = s.heap.objs.size + 5 := by rw [Heap.size_push, z4]
  have g5 : (zsH5 s.heap x t l2).get? (zsH4 s.heap x t l2).objs.size = some _ := Heap.get?_push_size _ rfl
  have g4 : (zsH5 s.heap x t l2).get? (zsH3 s.heap x t l2).objs.size = some _ := Heap.get?_push_of_some _ (Heap.get?_push_size _ rfl)
  have g3 : (zsH5 s.heap x t l2).get? (zsH2 s.heap x t l2).objs.size = some _ := Heap.get?_push_of_some _ (Heap.get?_push_of_some _ (Heap.get?_push_size _ rfl))
  have g2 : (zsH5 s.heap x t l2).get? (zsH1 s.heap x t).objs.size = some _ := Heap.get?_push_of_some _ (Heap.get?_push_of_some _ (Heap.get?_push_of_some _ (Heap.get?_push_size _ rfl)))
  have g1 : (zsH5 s.heap x t l2).get? s.heap.objs.size = some _ := Heap.get?_push_of_some _ (Heap.get?_push_of_some _ (Heap.get?_push_of_some _ (Heap.get?_push_of_some _ (Heap.get?_push_size _ rfl))))
  show _ ∧ _
  rw [z2, z3, z4] at g5
  rw [z1, z2] at g3
  rw [z3] at g4
  rw [z1] at g2
  rw [z4]
  exact ⟨⟨_, g5, rfl⟩, h _ g5 g3 g4 ⟨_, g1, rfl, rfl⟩ ⟨_, g2, rfl, rfl⟩ z5 fun c o x =>
    Heap.get?_push_of_some _ (Heap.get?_push_of_some _ (Heap.get?_push_of_some _ (Heap.get?_push_of_some _ (Heap.get?_push_of_some _ x))))⟩
end
def zipS : List Nat → List Value → List Itm
  | c :: r, y :: q => .pair (fun t => .str ⟨#[c]⟩ t) y :: zipS r q
  | _, _ => []
theorem zipS_length : ∀ (cs : List Nat) (ys : List Value), (zipS cs ys).length = min cs.length ys.length
  | [], _ => by simp [zipS]
  | _ :: _, [] => by simp [zipS]
  | _ :: r, _ :: q => by
    simp only [zipS, List.length_cons, zipS_length r q]
    omega
theorem zipS_get : ∀ (cs : List Nat) (ys : List Value) (i : Nat) {c : Nat} {y : Value}, cs[i]? = some c → ys[i]? = some y → (zipS cs ys)[i]? = some (.pair (fun t => .str ⟨#[c]⟩ t) y)
  | [], _, _, _, _, h, _ => by simp at h
  | _ :: _, [], _, _, _, _, h => by simp at h
  | c' :: r, y' :: q, 0, c, y, h, h' => by
    have e : c' = c := by simpa using h
    have e' : y' = y := by simpa using h'
    subst e e'
    rfl
  | c' :: r, y' :: q, i + 1, c, y, h, h' => by
    have g := zipS_get r q i (c := c) (y := y) (by simpa using h) (by simpa using h')
    simpa [zipS] using g
theorem ne_add {l n : Nat} (k : Nat) (h : l < n) : l ≠ n + k := by omega
theorem nq {a b : Nat} (h : a ≠ b) : @Ne Addr a b := h
theorem nm1 {a b : Nat} (h : a ≠ b) : ¬ @Membership.mem Addr (List Addr) _ [b] a := fun q => h (List.mem_singleton.mp q)
theorem nm2 {a b c : Nat} (h : a ≠ b) (h' : a ≠ c) : ¬ @Membership.mem Addr (List Addr) _ [b, c] a := fun q => (List.mem_cons.mp q).elim h fun q => h' (List.mem_singleton.mp q)
theorem zap_of {n l : Nat} (h : l < n) : ZAp (n + 4) (n + 2) (n + 3) n (n + 1) [n] [n + 1, l] := ⟨nq (by omega), nq (by omega), nq (by omega), nq (by omega), nq (by omega), nq (by omega), nq (by omega), nq (by omega), nq (by omega), nm1 (by omega), nm2 (by omega) (by omega), nm1 (by omega), nm2 (by omega) (by omega), nm1 (by omega), nm2 (by omega) (by omega)⟩
theorem ktu_zipS {prog : Program} {w : World} {A : Around} {E : Value → Shared → Prop} {s : Shared} {env : Env} {h₀ : Heap} {body : List Stmt} {Q : Flow → Shared → Prop} {elts : List PySem.Expr} {k : Nat} {pos : Pos} {x : Str} {t : Tok} {l2 : Addr} {ys : List Value} {xs : List Itm} {m₀ : Str → Option Value} {news : List (Addr × Obj)}
    (hh : A.handled = none) (F : Fr h₀ env.locals s.heap m₀) (N : News h₀ env.locals s.heap news) (hm2 : (l2, tupOf ys) ∈ news) (ha : x.cps.all (· < 128) = true) (hn : x.cps.size = ys.length) (hx : zipS x.cps.toList ys = xs)
    (rest₀ : ∀ I : Addr, (∀ p ∈ news, p.1 < I) → ItemsRest prog w A E h₀ env (.Tuple elts k pos) body Q s [(I + 4, "zip"), (I + 2, "tuple"), (I + 3, "tuple"), (I, "str_ascii_iterator"), (I + 1, "tuple_iterator")] [(l2, tupOf ys)] xs m₀ news) :
    wpAny (model prog w) A (call (.type "zip") [.str x t, .ref l2]) (fun xv s₁ => wpAny (model prog w) A (pyIter xv) (fun it s₂ => TurnsAt prog w A h₀ env (.Tuple elts k pos) body Q E it s₂) E s₁) E s := by
  subst hx
  have hax2 := N _ hm2
  have hl2 : s.heap.IsTuple l2 ys.toArray := ⟨_, hax2.1, rfl, _, rfl⟩
  have hlt2 : l2 < s.heap.objs.size := Heap.lt_size hax2.1
  have hLs : env.locals < s.heap.objs.size := F.ns.lt
  have Z : ZAp (s.heap.objs.size + 4) (s.heap.objs.size + 2) (s.heap.objs.size + 3) s.heap.objs.size (s.heap.objs.size + 1) [s.heap.objs.size] [s.heap.objs.size + 1, l2] := zap_of hlt2
  refine call_zipS hl2 fun h' hz hTI hTO hi1 hi2 hsz hk => ?_
  refine wpAny_pyIter_zip hz ?_
  have hi1' : h'.IsStrIter s.heap.objs.size "str_ascii_iterator" x t 0 := by
    have : strIterType x = "str_ascii_iterator" := by simp [strIterType, ha]
    rw [this] at hi1
    exact hi1
  have D1 : Draws prog w A.in1 s.heap.objs.size [s.heap.objs.size] x.cps.size (fun i v => ∃ c u, x.cps[i]? = some c ∧ v = .str ⟨#[c]⟩ u) (fun i h => h.IsStrIter s.heap.objs.size "str_ascii_iterator" x t i) := Draws.strAscii (A := A.in1) hh _ x t
  have D2 : Draws prog w A.in1 (s.heap.objs.size + 1) [s.heap.objs.size + 1, l2] x.cps.size (fun i v => ys.toArray[i]? = some v) (fun i h => h.IsTupleIter (s.heap.objs.size + 1) l2 i ∧ h.IsTuple l2 ys.toArray) := by
    have hn' : x.cps.size = ys.toArray.size := by rw [List.size_toArray]; exact hn
    rw [hn']
    exact drawsTuple (A := A.in1) hh (s.heap.objs.size + 1) l2 (ne_add 1 hlt2) ys.toArray
  refine ktu_core (tk0 := s.toks) (keep := [(l2, tupOf ys)]) (KTurns.ofWalksU (zipD_walks Z D1 D2 (by simp) (by simp)).toU) (by rw [zipS_length]; simp [hn]) ?_ ?_ ?_ ?_ ?_ ?_ ?_ ?_ (F.keeps hk) (N.grown hk) (And.intro hm2 trivial) (rest₀ _ fun p hp => Heap.lt_size (N p hp).1)
  · rintro i v h ⟨T, vals, rfl, ⟨x', y, ⟨c, u, hc, rfl⟩, hy, rfl⟩, hT⟩
    exact ⟨_, zipS_get _ ys i (c := c) (y := y) (by simpa using hc) (by simpa using hy), T, u, rfl, hT⟩
  · rintro i h ⟨hz, hTI, ⟨a, b, hTO⟩, ⟨o1, ho1, hc1, _⟩, ⟨o2, ho2, hc2, _⟩, _⟩
    have e1 : ∃ o : Obj, h.get? (s.heap.objs.size + 4) = some o ∧ o.cls = .type "zip" := ⟨_, hz, rfl⟩
    have e2 : ∃ o : Obj, h.get? (s.heap.objs.size + 2) = some o ∧ o.cls = .type "tuple" := ⟨_, hTI, rfl⟩
    have e3 : ∃ o : Obj, h.get? (s.heap.objs.size + 3) = some o ∧ o.cls = .type "tuple" := ⟨_, hTO, rfl⟩
    obtain ⟨q1, g1, k1⟩ := e1
    obtain ⟨q2, g2, k2⟩ := e2
    obtain ⟨q3, g3, k3⟩ := e3
    refine ⟨[(s.heap.objs.size + 4, q1), (s.heap.objs.size + 2, q2), (s.heap.objs.size + 3, q3), (s.heap.objs.size, o1), (s.heap.objs.size + 1, o2)], ⟨⟨rfl, k1⟩, ⟨rfl, k2⟩, ⟨rfl, k3⟩, ⟨rfl, hc1⟩, ⟨rfl, hc2⟩, trivial⟩, fun p hp => ?_⟩
    rcases List.mem_cons.mp hp with rfl | hp
    · exact g1
    rcases List.mem_cons.mp hp with rfl | hp
    · exact g2
    rcases List.mem_cons.mp hp with rfl | hp
    · exact g3
    rcases List.mem_cons.mp hp with rfl | hp
    · exact ho1
    rw [List.mem_singleton.mp hp]
    exact ho2
  · intro b hb
    have hb' : b = s.heap.objs.size + 4 ∨ b = s.heap.objs.size + 2 ∨ b = s.heap.objs.size + 3 ∨ b = s.heap.objs.size ∨ b = s.heap.objs.size + 1 := by simpa using hb
    rcases hb' with rfl | rfl | rfl | rfl | rfl
    · exact ⟨by simp, ktu_new F (Nat.le_add_right _ _)⟩
    · exact ⟨by simp, ktu_new F (Nat.le_add_right _ _)⟩
    · exact ⟨by simp, ktu_new F (Nat.le_add_right _ _)⟩
    · exact ⟨by simp, ktu_new F (Nat.le_refl _)⟩
    · exact ⟨by simp, ktu_new F (Nat.le_add_right _ _)⟩
  · intro b hb
    have hb' : b = s.heap.objs.size + 4 ∨ b = s.heap.objs.size + 3 ∨ b = s.heap.objs.size ∨ b = s.heap.objs.size + 1 := by simpa using hb
    rcases hb' with rfl | rfl | rfl | rfl <;> simp
  · intro b hb
    have hb' : b = s.heap.objs.size + 4 ∨ b = s.heap.objs.size + 2 ∨ b = s.heap.objs.size + 3 ∨ b = s.heap.objs.size ∨ b = s.heap.objs.size + 1 ∨ b = l2 := by simpa using hb
    rcases hb' with rfl | rfl | rfl | rfl | rfl | rfl
    · exact .inl (by simp)
    · exact .inl (by simp)
    · exact .inl (by simp)
    · exact .inl (by simp)
    · exact .inl (by simp)
    · exact .inr ⟨_, List.mem_singleton.mpr rfl⟩
  · intro hI'
    have hb' : env.locals = s.heap.objs.size + 4 ∨ env.locals = s.heap.objs.size + 2 ∨ env.locals = s.heap.objs.size + 3 ∨ env.locals = s.heap.objs.size ∨ env.locals = s.heap.objs.size + 1 ∨ env.locals = l2 := by simpa using hI'
    rcases hb' with e | e | e | e | e | e
    · exact ne_add 4 hLs e
    · exact ne_add 2 hLs e
    · exact ne_add 3 hLs e
    · exact Nat.ne_of_lt hLs e
    · exact ne_add 1 hLs e
    · exact hax2.2.1 e.symm
  · intro p hp hI'
    have hb' : p.1 = s.heap.objs.size + 4 ∨ p.1 = s.heap.objs.size + 3 ∨ p.1 = s.heap.objs.size ∨ p.1 = s.heap.objs.size + 1 := by simpa using hI'
    have hlp := Heap.lt_size (N p hp).1
    rcases hb' with e | e | e | e
    · exact ne_add 4 hlp e
    · exact ne_add 3 hlp e
    · exact Nat.ne_of_lt hlp e
    · exact ne_add 1 hlp e
  · exact ⟨hz, hTI, ⟨_, _, hTO⟩, hi1', hi2, hl2.at fun o e => hk l2 o e⟩
theorem zs_zr {a b : Value} : zipS (Str.ofString "zr").cps.toList [a, b] = [.pair (fun t => .str (Str.ofString "z") t) a, .pair (fun t => .str (Str.ofString "r") t) b] := rfl
theorem zs_zri {a b c : Value} : zipS (Str.ofString "zri").cps.toList [a, b, c] = [.pair (fun t => .str (Str.ofString "z") t) a, .pair (fun t => .str (Str.ofString "r") t) b, .pair (fun t => .str (Str.ofString "i") t) c] := rfl
theorem zs_z {a : Value} : zipS (Str.ofString "z").cps.toList [a] = [.pair (fun t => .str (Str.ofString "z") t) a] := rfl
theorem zs_e : zipS (Str.ofString "").cps.toList [] = [] := rfl
theorem unrW {h₀ : Heap} {L : Addr} {its news' all : List (Addr × Obj)} {rest : (Str → Option Value) → List (Addr × Obj) → Prop} {s₁ : Shared} {h' : Heap} {tk : Nat} {m' : Str → Option Value} (off : ∀ p ∈ news', ∀ q ∈ its, p.1 ≠ q.1) (F : Fr h₀ L h' m') (N : News h₀ L h' all)
    (hI : ∀ p ∈ its, p ∈ all) (sub : ∀ p ∈ news', p ∈ all) (r : rest m' news') : UnrEndW h₀ L s₁ its rest { s₁ with heap := h', toks := tk } :=
  ⟨h', tk, m', news', rfl, F, fun p hp => (List.mem_append.mp hp).elim (fun q => N p (hI p q)) (fun q => N p (sub p q)), off, r⟩
theorem off5 {I : Nat} {n : List (Addr × Obj)} {a b c d e : Obj} (h : ∀ p ∈ n, p.1 < I) : ∀ p ∈ n, ∀ q ∈ [(((I + 4 : Nat) : Addr), a), (((I + 2 : Nat) : Addr), b), (((I + 3 : Nat) : Addr), c), ((I : Addr), d), (((I + 1 : Nat) : Addr), e)], p.1 ≠ q.1 := by
  intro p hp q hq
  have h1 : @LT.lt Nat _ p.1 I := h p hp
  simp only [List.mem_cons, List.not_mem_nil, or_false] at hq
  rcases hq with rfl | rfl | rfl | rfl | rfl <;> (refine neN ?_; (try dsimp only); omega)
theorem unrI {h₀ : Heap} {L I : Addr} {it : Obj} {news' all : List (Addr × Obj)} {rest : (Str → Option Value) → List (Addr × Obj) → Prop} {s₁ : Shared} {h' : Heap} {tk : Nat} {m' : Str → Option Value} (off : ∀ p ∈ news', p.1 < I) (F : Fr h₀ L h' m') (N : News h₀ L h' all)
    (hI : (I, it) ∈ all) (sub : ∀ p ∈ news', p ∈ all) (r : rest m' news') : UnrEnd h₀ L s₁ I it rest { s₁ with heap := h', toks := tk } :=
  ⟨h', tk, m', news', rfl, F, fun p hp => (List.mem_cons.mp hp).elim (fun q => q ▸ N _ hI) (fun q => N p (sub p q)), fun p hp => Nat.ne_of_lt (off p hp), r⟩
theorem off1 {I : Nat} {n : List (Addr × Obj)} {a : Obj} (h : ∀ p ∈ n, p.1 < I) : ∀ p ∈ n, ∀ q ∈ [((I : Addr), a)], p.1 ≠ q.1 := by
  intro p hp q hq
  rw [List.mem_singleton.mp hq]
  exact Nat.ne_of_lt (h p hp)
-- Cr
theorem zrCr : True := by first | (row_walk; done) | trivial
section
theorem zz17 : True := by
  k_with "compareOp Eq str str" => (k_here; k_dflt (refine' eq_no ?ke ?_; (case ke => with_reducible assumption)))
  k_with "compareOp In str ref" => (k_here; (with_reducible show wpAny _ _ (compareOp CmpOp.In (Value.str _ _) (Value.ref _)) _ _ _); (with_unfolding_all refine' tin_no ?k1 ?k2 ?k3 ?_; (case k1 => exact News.isTup (by k_asm) (by news_mem)); (case k2 => kde_strs); (case k3 => assumption); k_whole))
  k_with "compareOp NotIn str ref" => (k_here; (with_reducible show wpAny _ _ (compareOp CmpOp.NotIn (Value.str _ _) (Value.ref _)) _ _ _); (with_unfolding_all refine' tnot_no ?k1 ?k2 ?k3 ?_; (case k1 => exact News.isTup (by k_asm) (by news_mem)); (case k2 => kde_strs); (case k3 => assumption); k_whole))
  k_with "subscriptTail Name Slice str ref" => (k_here; (with_reducible show wpAny _ _ (subscriptTail _ (Expr.Slice (some _) none none _) _ _) _ _ _); (with_reducible rename Fr _ _ _ _ => F'); (with_reducible rename News _ _ _ _ => N'); (refine slice_strN_sn (hsz := ?hsz) (s := ⟨_, _, _, _, _⟩) F' N' ?_); (case hsz => (rw [sizeLine_eq]; omega)); intro h' t' tk' F' N')
  k_with "subscriptTail Name Slice str ref" => (k_here; (with_reducible show wpAny _ _ (subscriptTail _ (Expr.Slice none (some _) none _) _ _) _ _ _); (with_reducible rename Fr _ _ _ _ => F'); (with_reducible rename News _ _ _ _ => N'); (refine slice_strN_ns (hsz := ?hsz) (s := ⟨_, _, _, _, _⟩) F' N' ?_); (case hsz => (rw [sizeLine_eq]; omega)); intro h' t' tk' F' N')
  k_with "compareOp NotEq str str" => (k_here; k_dflt (refine' ne_yes ?ke ?_; (case ke => with_reducible assumption)))
  k_with "call ref" => (k_here; (with_reducible show wpAny _ _ (call (Value.ref 173) [Value.str (Str.ofString "z") _, Value.int _ _, Value.ref _]) _ _ _); k_dflt (refine' fitsz_C ?kB ?kF ?kX ?kN ?kT ?kk ?kv ?kd ?ku ?_; (case kB => k_asm); (case kF => k_asm); (case kX => k_asm); (case kN => k_asm); (case kT => k_asm); (case kk => first | exact rfl | assumption); (case kv => first | assumption | omega); (case kd => ktr_room); (case ku => ktr_units)); intro h' tk' F' N'; (try dsimp only); (try k_sweep); (try k_fold))
  k_with "call ref" => (k_here; (with_reducible show wpAny _ _ (call (Value.ref 173) [Value.str (Str.ofString "r") _, Value.int _ _, Value.ref _]) _ _ _); k_dflt (refine' fitsr_C ?kB ?kF ?kX ?kN ?kT ?kk ?kv0 ?kv1 ?kd ?ku ?_; (case kB => k_asm); (case kF => k_asm); (case kX => k_asm); (case kN => k_asm); (case kT => k_asm); (case kk => first | exact rfl | assumption); (case kv0 => omega); (case kv1 => omega); (case kd => ktr_room); (case ku => ktr_units)); intro h' tk' F' N'; (try dsimp only); (try k_sweep); (try k_fold))
  k_with "call ref" => (k_here; (with_reducible show wpAny _ _ (call (Value.ref 173) [Value.str (Str.ofString "i") _, Value.int _ _, Value.ref _]) _ _ _); k_dflt (refine' fitsi_C ?kB ?kF ?kX ?kN ?kT ?kk ?kv0 ?kv1 ?kd ?ku ?_; (case kB => k_asm); (case kF => k_asm); (case kX => k_asm); (case kN => k_asm); (case kT => k_asm); (case kk => first | exact rfl | assumption); (case kv0 => omega); (case kv1 => omega); (case kd => ktr_room); (case ku => ktr_units)); intro h' tk' F' N'; (try dsimp only); (try k_sweep); (try k_fold))
  k_with "UnrEndW" => (k_here; refine' unrW (off5 (by assumption)) ?uF ?uN ?uI ?us ⟨by k_subL, ?_⟩; (case uF => assumption); (case uN => k_asm); (case uI => ((repeat' (refine fa_cons (by k_mem) ?_)); exact List.forall_mem_nil _)); (case us => ((repeat' (refine fa_cons (by k_mem) ?_)); first | exact List.forall_mem_nil _ | (intro pD hD; repeat (first | exact hD | apply List.Mem.tail)))))
  k_with "UnrEndW" => (k_here; refine' unrW (off1 (by assumption)) ?uF ?uN ?uI ?us ⟨by k_subL, ?_⟩; (case uF => assumption); (case uN => k_asm); (case uI => ((repeat' (refine fa_cons (by k_mem) ?_)); exact List.forall_mem_nil _)); (case us => ((repeat' (refine fa_cons (by k_mem) ?_)); first | exact List.forall_mem_nil _ | (intro pD hD; repeat (first | exact hD | apply List.Mem.tail)))))
  k_with "UnrEnd" => (k_here; refine' unrI ?uo ?uF ?uN ?uI ?us ?_; (case uo => assumption); (case uF => assumption); (case uN => k_asm); (case uI => k_mem); (case us => ((repeat' (refine fa_cons (by k_mem) ?_)); first | exact List.forall_mem_nil _ | (intro pD hD; repeat (first | exact hD | apply List.Mem.tail)))))
  k_with "pyIter ref" => (k_here; (with_reducible show wpAny _ _ (pyIter (Value.ref _)) (fun it s₂ => TurnsAt _ _ _ _ _ _ _ _ _ it s₂) _ _); (rename Fr _ _ _ _ => lF'); (rename News _ _ _ _ => lN'); (with_unfolding_all refine' iter_tupTurns ?h1 lF' lN' ?h2 ?h3 ?h4 ?_; (case h1 => exact rfl); (case h2 => k_mem); (case h3 => exact rfl); (case h4 => exact rfl)); clear lF' lN'; intro i' l1; (try k_lt l1))
  k_with "call ref" => (k_here; (with_reducible show wpAny _ _ (call (Value.ref 159) _) _ _ _); k_dflt (refine' shapes_C ?kB ?kF ?kX ?kN ?kT ?kk ?kd ?ku ?_; (case kB => k_asm); (case kF => k_asm); (case kX => k_asm); (case kN => k_asm); (case kT => k_asm); (case kk => first | exact rfl | assumption); (case kd => ktr_room); (case ku => ktr_units)); intro d' o' kvs' h' tk' F' N' l1 hd' hK' lo'; (try k_lt l1); (try dsimp only); (try k_sweep); (try k_fold))
  k_with "getMethod ref" => (k_here; (with_reducible show wpAny _ _ (getMethod _ (Str.ofString "get") _) _ _ _); k_dflt (refine' sh_getm ?k1 ?k2 ?k3 ?_; (case k1 => k_asm); (case k2 => k_mem); (case k3 => assumption); k_whole))
  k_with "call builtin:dict.get" => (k_here; k_dflt (refine' sh_get ?k1 ?k2 ?k3 ?k4 ?k5 ?k6 ?_; (case k1 => k_asm); (case k2 => k_mem); (case k3 => assumption); (case k4 => assumption); (case k5 => assumption); (case k6 => assumption); k_whole); intro t')
  k_with "exec For Tuple Call cons nil" => (k_here; (rename Fr _ _ _ _ => lF'); (with_unfolding_all refine' For_turns lF' ?_; k_whole))
  k_with "call type:zip" => (k_here; (with_reducible show wpAny _ _ (call (Value.type _) [Value.str _ _, Value.ref _]) (fun xv s₁ => wpAny _ _ (pyIter xv) (fun it s₂ => TurnsAt _ _ _ _ _ _ _ _ _ it s₂) _ s₁) _ _); (rename Fr _ _ _ _ => lF'); (with_unfolding_all refine' ktu_zipS ?z1 lF' ?z2 ?z3 ?z4 ?z5 ?z6 ?_; (case z1 => exact rfl); (case z2 => k_asm); (case z3 => k_mem); (case z4 => decide +kernel); (case z5 => (dsimp only [List.length_cons, List.length_nil]; decide +kernel)); (case z6 => first | exact zs_zr | exact zs_zri | exact zs_z | exact zs_e)); clear lF'; intro i' l1; (try k_lt l1))
  trivial
set_option maxHeartbeats 8000000 in
theorem chkzr_C {w : World} {mean : ExcName → Option Value} {mg mb : Str → Option Value}
    {dp un : Nat} {gd : Option (List Code)} {cn : Str} {cs : Scope} {a : Addr} {ccd : Value} {cl : List (Str × Addr)} {outer : List Env} {A₀ : Around} {base h₀ : Heap} {L : Addr} {m : Str → Option Value} {s : Shared} {Q E : Value → Shared → Prop}
    {nm : Str} {x dx p d : Addr} {oX oD oP oS : Obj} {kvs : List (Str × Value)} {n r : Int} {t1 t2 : Tok} {led : List (Addr × Obj)}
    (B : Below A₀ base outer h₀) (F : Fr h₀ L s.heap m) (X : (hd.heap_1 w.params).In h₀)
    (N : News h₀ L s.heap led) 
    (T : Top qv Lo mean mg mb h₀) (hk : cs.kind = .function) (M0 : (x, oX) ∈ led) (M1 : (dx, oD) ∈ led) (M2 : (p, oP) ∈ led) (M3 : (d, oS) ∈ led) (hR : RowIs nm [.int n t1, .int r t2] dx p oX oD oP) (hS : oS.IsDictOf (PySem.strKind Challenge.rw_ok0167_01.prog w) kvs) (hK : ShK kvs shK) (hlo : (d == sysModules) = false) (hl : shK.lookup nm = some (Str.ofString "zr")) (hm : nm ≠ Str.ofString "movsx") (hn : n = 32 ∨ n = 64) (hr0 : 0 ≤ r) (hr1 : r < 16) 
    (hdp : dp + 20 < recursionLimit) (hun : un + 900 < cLine)
    (hret : ∀ h' tk', Fr h₀ L h' m → News h₀ L h' led → Q (.ref x) { s with heap := h', toks := tk' }) :
    wpAny (model Challenge.rw_ok0167_01.prog w) (ktrTop dp un gd cn cs L a ccd cl outer) (call (.ref 181) [.ref x, .ref d]) Q E s := by
  replace N := newsIn M3 N
  replace N := newsIn (.tail _ M2) N
  replace N := newsIn (.tail _ (.tail _ M1)) N
  replace N := newsIn (.tail _ (.tail _ (.tail _ M0))) N
  obtain ⟨q1, q2, u1, u2, u3, k, rfl, rfl, rfl⟩ := hR
  refine wpAny_call ?_
  k_dflt cell_enter
  k_steps
  exact hret _ _ (by assumption) (by ktr_rel)
set_option maxHeartbeats 8000000 in
theorem chkzri_C {w : World} {mean : ExcName → Option Value} {mg mb : Str → Option Value}
    {dp un : Nat} {gd : Option (List Code)} {cn : Str} {cs : Scope} {a : Addr} {ccd : Value} {cl : List (Str × Addr)} {outer : List Env} {A₀ : Around} {base h₀ : Heap} {L : Addr} {m : Str → Option Value} {s : Shared} {Q E : Value → Shared → Prop}
    {nm : Str} {x dx p d : Addr} {oX oD oP oS : Obj} {kvs : List (Str × Value)} {n r i : Int} {t1 t2 t3 : Tok} {led : List (Addr × Obj)}
    (B : Below A₀ base outer h₀) (F : Fr h₀ L s.heap m) (X : (hd.heap_1 w.params).In h₀)
    (N : News h₀ L s.heap led) 
    (T : Top qv Lo mean mg mb h₀) (hk : cs.kind = .function) (M0 : (x, oX) ∈ led) (M1 : (dx, oD) ∈ led) (M2 : (p, oP) ∈ led) (M3 : (d, oS) ∈ led) (hR : RowIs nm [.int n t1, .int r t2, .int i t3] dx p oX oD oP) (hS : oS.IsDictOf (PySem.strKind Challenge.rw_ok0167_01.prog w) kvs) (hK : ShK kvs shK) (hlo : (d == sysModules) = false) (hl : shK.lookup nm = some (Str.ofString "zri")) (hm : nm ≠ Str.ofString "movsx") (hn : n = 32 ∨ n = 64) (hr0 : 0 ≤ r) (hr1 : r < 16) (hi0 : 0 ≤ i) (hi1 : i < 100) 
    (hdp : dp + 20 < recursionLimit) (hun : un + 900 < cLine)
    (hret : ∀ h' tk', Fr h₀ L h' m → News h₀ L h' led → Q (.ref x) { s with heap := h', toks := tk' }) :
    wpAny (model Challenge.rw_ok0167_01.prog w) (ktrTop dp un gd cn cs L a ccd cl outer) (call (.ref 181) [.ref x, .ref d]) Q E s := by
  replace N := newsIn M3 N
  replace N := newsIn (.tail _ M2) N
  replace N := newsIn (.tail _ (.tail _ M1)) N
  replace N := newsIn (.tail _ (.tail _ (.tail _ M0))) N
  obtain ⟨q1, q2, u1, u2, u3, k, rfl, rfl, rfl⟩ := hR
  refine wpAny_call ?_
  k_dflt cell_enter
  k_steps
  exact hret _ _ (by assumption) (by ktr_rel)
set_option maxHeartbeats 8000000 in
theorem chkz_C {w : World} {mean : ExcName → Option Value} {mg mb : Str → Option Value}
    {dp un : Nat} {gd : Option (List Code)} {cn : Str} {cs : Scope} {a : Addr} {ccd : Value} {cl : List (Str × Addr)} {outer : List Env} {A₀ : Around} {base h₀ : Heap} {L : Addr} {m : Str → Option Value} {s : Shared} {Q E : Value → Shared → Prop}
    {nm : Str} {x dx p d : Addr} {oX oD oP oS : Obj} {kvs : List (Str × Value)} {n : Int} {t1 : Tok} {led : List (Addr × Obj)}
    (B : Below A₀ base outer h₀) (F : Fr h₀ L s.heap m) (X : (hd.heap_1 w.params).In h₀)
    (N : News h₀ L s.heap led) 
    (T : Top qv Lo mean mg mb h₀) (hk : cs.kind = .function) (M0 : (x, oX) ∈ led) (M1 : (dx, oD) ∈ led) (M2 : (p, oP) ∈ led) (M3 : (d, oS) ∈ led) (hR : RowIs nm [.int n t1] dx p oX oD oP) (hS : oS.IsDictOf (PySem.strKind Challenge.rw_ok0167_01.prog w) kvs) (hK : ShK kvs shK) (hlo : (d == sysModules) = false) (hl : shK.lookup nm = some (Str.ofString "z")) (hm : nm ≠ Str.ofString "movsx") (hn : n = 32 ∨ n = 64) 
    (hdp : dp + 20 < recursionLimit) (hun : un + 900 < cLine)
    (hret : ∀ h' tk', Fr h₀ L h' m → News h₀ L h' led → Q (.ref x) { s with heap := h', toks := tk' }) :
    wpAny (model Challenge.rw_ok0167_01.prog w) (ktrTop dp un gd cn cs L a ccd cl outer) (call (.ref 181) [.ref x, .ref d]) Q E s := by
  replace N := newsIn M3 N
  replace N := newsIn (.tail _ M2) N
  replace N := newsIn (.tail _ (.tail _ M1)) N
  replace N := newsIn (.tail _ (.tail _ (.tail _ M0))) N
  obtain ⟨q1, q2, u1, u2, u3, k, rfl, rfl, rfl⟩ := hR
  refine wpAny_call ?_
  k_dflt cell_enter
  k_steps
  exact hret _ _ (by assumption) (by ktr_rel)
set_option maxHeartbeats 8000000 in
theorem chke_C {w : World} {mean : ExcName → Option Value} {mg mb : Str → Option Value}
    {dp un : Nat} {gd : Option (List Code)} {cn : Str} {cs : Scope} {a : Addr} {ccd : Value} {cl : List (Str × Addr)} {outer : List Env} {A₀ : Around} {base h₀ : Heap} {L : Addr} {m : Str → Option Value} {s : Shared} {Q E : Value → Shared → Prop}
    {nm : Str} {x dx p d : Addr} {oX oD oP oS : Obj} {kvs : List (Str × Value)}  {led : List (Addr × Obj)}
    (B : Below A₀ base outer h₀) (F : Fr h₀ L s.heap m) (X : (hd.heap_1 w.params).In h₀)
    (N : News h₀ L s.heap led) 
    (T : Top qv Lo mean mg mb h₀) (hk : cs.kind = .function) (M0 : (x, oX) ∈ led) (M1 : (dx, oD) ∈ led) (M2 : (p, oP) ∈ led) (M3 : (d, oS) ∈ led) (hR : RowIs nm [] dx p oX oD oP) (hS : oS.IsDictOf (PySem.strKind Challenge.rw_ok0167_01.prog w) kvs) (hK : ShK kvs shK) (hlo : (d == sysModules) = false) (hl : shK.lookup nm = some (Str.ofString "")) (hm : nm ≠ Str.ofString "movsx") 
    (hdp : dp + 20 < recursionLimit) (hun : un + 900 < cLine)
    (hret : ∀ h' tk', Fr h₀ L h' m → News h₀ L h' led → Q (.ref x) { s with heap := h', toks := tk' }) :
    wpAny (model Challenge.rw_ok0167_01.prog w) (ktrTop dp un gd cn cs L a ccd cl outer) (call (.ref 181) [.ref x, .ref d]) Q E s := by
  replace N := newsIn M3 N
  replace N := newsIn (.tail _ M2) N
  replace N := newsIn (.tail _ (.tail _ M1)) N
  replace N := newsIn (.tail _ (.tail _ (.tail _ M0))) N
  obtain ⟨q1, q2, u1, u2, u3, k, rfl, rfl, rfl⟩ := hR
  refine wpAny_call ?_
  k_dflt cell_enter
  k_steps
  exact hret _ _ (by assumption) (by ktr_rel)
end
-- Ck
theorem zrCk : True := by first | (row_walk; done) | trivial
theorem zz18 : True := by
  k_with_none
  k_with "k_all" => ((intro pA hA; refine neN (Nat.ne_of_lt ?_); refine (by assumption : ∀ p ∈ _, p.1 < _) pA ?_; (repeat (first | exact hA | apply List.Mem.tail)); done))
  k_with "k_all" => (with_reducible assumption)
  k_with "k_upd" => ((first | exact Picks.nil | (refine' Picks.cons ?kuc ?kud; (case kuc => k_upd); (case kud => k_upd)) | (refine' Pick.head ?kua; (case kua => k_all)) | (refine' Pick.tail ?kua ?kub; (case kua => k_ne); (case kub => k_upd)) | (refine' Upd.head ?kua; (case kua => k_all)) | (refine' Upd.tail ?kua ?kub; (case kua => k_ne); (case kub => k_upd))))
  k_with "ktr_rel" => ((refine cb_drop (by assumption) ?_; (repeat' (refine fa_cons (by k_mem) ?_)); first | exact List.forall_mem_nil _ | (intro pD hD; repeat (first | exact hD | apply List.Mem.tail))))
  k_with "compareOp NotEq ref ref" => (k_here; k_dflt (refine' ne_K ?k1 ?k2 ?k3 ?k4 ?k5 ?k6 ?_; (case k1 => k_asm); (case k2 => k_mem); (case k3 => k_mem); (case k4 => l_intsC); (case k5 => l_intsC); (case k6 => ktr_units); k_whole))
  k_with "binaryOp FloorDiv int int" => (k_here; (with_reducible refine floordiv_int ?ke ?_ (Or.inl (noPy ?kp ?kq))); (case ke => first | omega | (split <;> omega)); (case kp => first | omega | (split <;> omega)); (case kq => first | omega | (split <;> omega)))
  k_with "call builtin:list.pop" => (k_here; k_dflt (refine' pop0_K ?k1 ?k2 ?k3 ?k4 ?_; (case k1 => k_asm); (case k2 => k_asm); (case k3 => k_upd); (case k4 => omega); k_whole); intro h' F' N')
  k_with "binaryOp Pow int int" => (k_here; first | (with_reducible refine powL_K 18446744073709551616 ?kb1 ?kb2 ?kb3 ?kb4 ?_; (case kb4 => decide +kernel); (case kb1 => decide); (case kb2 => decide); (case kb3 => decide)) | (with_reducible refine powL_K 9223372036854775808 ?kb1 ?kb2 ?kb3 ?kb4 ?_; (case kb4 => decide +kernel); (case kb1 => decide); (case kb2 => decide); (case kb3 => decide)) | (with_reducible refine powL_K 4294967296 ?kb1 ?kb2 ?kb3 ?kb4 ?_; (case kb4 => decide +kernel); (case kb1 => decide); (case kb2 => decide); (case kb3 => decide)) | (with_reducible refine powL_K 2147483648 ?kb1 ?kb2 ?kb3 ?kb4 ?_; (case kb4 => decide +kernel); (case kb1 => decide); (case kb2 => decide); (case kb3 => decide)) | (with_reducible refine powL_K 340282366920938463463374607431768211456 ?kb1 ?kb2 ?kb3 ?kb4 ?_; (case kb4 => decide +kernel); (case kb1 => decide); (case kb2 => decide); (case kb3 => decide)) | (with_reducible refine powL_K 170141183460469231731687303715884105728 ?kb1 ?kb2 ?kb3 ?kb4 ?_; (case kb4 => decide +kernel); (case kb1 => decide); (case kb2 => decide); (case kb3 => decide)))
  k_with "cell_enter" => ((refine' code_def ?k1 ?k2 ?k3 ?k4 ?k5 ?kA ?kF ?kK ?k6 ?k7 ?k8 ?k9 ?kB ?_ ?c2 ?c3 ?c4 ?c5; (case kA => exact rfl); (case kF => exact rfl); (case kK => first | assumption | exact rfl); (case k1 => k_asm); (case k2 => k_asm); (case k3 => k_asm); (case k4 => k_asm); (case k5 => k_asm); (case k6 => k_is); (case k7 => k_is); (case k8 => ktr_room); (case k9 => first | exact BindsTo.of_eq rfl | exact binds_K (by k_in) rfl (by k_is) rfl rfl rfl); (case c5 => decide); (case kB => exact locs rfl); (case c2 => exact rfl); (case c3 => exact rfl); (case c4 => exact rfl); k_whole; intro g' L' h' FG' F' N' B' X' T'; (try dsimp only); (try k_lift B'); (try k_fold)))
  k_with "ktr_units" => (((try simp only [units_in1, units_deeper, units_under_make, Around.mark_units]); (try dsimp only [ktrTop]); omega))
  k_with "ktr_room" => (((try simp only [depth_mark, depth_under_make, depth_under_kw, depth_in1, depth_deeper]); (try dsimp only [ktrTop]); omega))
  k_with "execs cons" => (k_here; (first | ((with_reducible refine gentok fun tk' => ?_); (with_reducible refine wpAny_execs_cons ?_)) | (with_reducible refine wpAny_execs_cons ?_)); (try dsimp only))
  k_with "execs nil" => (k_here; (refine wpAny_execs_nil ?_))
  k_with "compareOp Eq str str" => (k_here; k_dflt (refine' eq_no ?ke ?_; (case ke => with_reducible assumption)))
  k_with "compareOp In str ref" => (k_here; (with_reducible show wpAny _ _ (compareOp CmpOp.In (Value.str _ _) (Value.ref _)) _ _ _); (with_unfolding_all refine' tin_no ?k1 ?k2 ?k3 ?_; (case k1 => exact News.isTup (by k_asm) (by news_mem)); (case k2 => kde_strs); (case k3 => assumption); k_whole))
  k_with "compareOp NotIn str ref" => (k_here; (with_reducible show wpAny _ _ (compareOp CmpOp.NotIn (Value.str _ _) (Value.ref _)) _ _ _); (with_unfolding_all refine' tnot_no ?k1 ?k2 ?k3 ?_; (case k1 => exact News.isTup (by k_asm) (by news_mem)); (case k2 => kde_strs); (case k3 => assumption); k_whole))
  k_with "subscriptTail Name Slice str ref" => (k_here; (with_reducible show wpAny _ _ (subscriptTail _ (Expr.Slice (some _) none none _) _ _) _ _ _); (with_reducible rename Fr _ _ _ _ => F'); (with_reducible rename News _ _ _ _ => N'); (refine slice_strN_sn (hsz := ?hsz) (s := ⟨_, _, _, _, _⟩) F' N' ?_); (case hsz => (rw [sizeLine_eq]; omega)); intro h' t' tk' F' N')
  k_with "subscriptTail Name Slice str ref" => (k_here; (with_reducible show wpAny _ _ (subscriptTail _ (Expr.Slice none (some _) none _) _ _) _ _ _); (with_reducible rename Fr _ _ _ _ => F'); (with_reducible rename News _ _ _ _ => N'); (refine slice_strN_ns (hsz := ?hsz) (s := ⟨_, _, _, _, _⟩) F' N' ?_); (case hsz => (rw [sizeLine_eq]; omega)); intro h' t' tk' F' N')
  k_with "compareOp NotEq str str" => (k_here; k_dflt (refine' ne_yes ?ke ?_; (case ke => with_reducible assumption)))
  k_with "call ref" => (k_here; (with_reducible show wpAny _ _ (call (Value.ref 173) [Value.str (Str.ofString "z") _, Value.int _ _, Value.ref _]) _ _ _); k_dflt (refine' fitsz_C ?kB ?kF ?kX ?kN ?kT ?kk ?kv ?kd ?ku ?_; (case kB => k_asm); (case kF => k_asm); (case kX => k_asm); (case kN => k_asm); (case kT => k_asm); (case kk => first | exact rfl | assumption); (case kv => first | assumption | omega); (case kd => ktr_room); (case ku => ktr_units)); intro h' tk' F' N'; (try dsimp only); (try k_sweep); (try k_fold))
  k_with "call ref" => (k_here; (with_reducible show wpAny _ _ (call (Value.ref 173) [Value.str (Str.ofString "r") _, Value.int _ _, Value.ref _]) _ _ _); k_dflt (refine' fitsr_C ?kB ?kF ?kX ?kN ?kT ?kk ?kv0 ?kv1 ?kd ?ku ?_; (case kB => k_asm); (case kF => k_asm); (case kX => k_asm); (case kN => k_asm); (case kT => k_asm); (case kk => first | exact rfl | assumption); (case kv0 => omega); (case kv1 => omega); (case kd => ktr_room); (case ku => ktr_units)); intro h' tk' F' N'; (try dsimp only); (try k_sweep); (try k_fold))
  k_with "call ref" => (k_here; (with_reducible show wpAny _ _ (call (Value.ref 173) [Value.str (Str.ofString "i") _, Value.int _ _, Value.ref _]) _ _ _); k_dflt (refine' fitsi_C ?kB ?kF ?kX ?kN ?kT ?kk ?kv0 ?kv1 ?kd ?ku ?_; (case kB => k_asm); (case kF => k_asm); (case kX => k_asm); (case kN => k_asm); (case kT => k_asm); (case kk => first | exact rfl | assumption); (case kv0 => omega); (case kv1 => omega); (case kd => ktr_room); (case ku => ktr_units)); intro h' tk' F' N'; (try dsimp only); (try k_sweep); (try k_fold))
  k_with "UnrEndW" => (k_here; refine' unrW (off5 (by assumption)) ?uF ?uN ?uI ?us ⟨by k_subL, ?_⟩; (case uF => assumption); (case uN => k_asm); (case uI => ((repeat' (refine fa_cons (by k_mem) ?_)); exact List.forall_mem_nil _)); (case us => ((repeat' (refine fa_cons (by k_mem) ?_)); first | exact List.forall_mem_nil _ | (intro pD hD; repeat (first | exact hD | apply List.Mem.tail)))))
  k_with "UnrEndW" => (k_here; refine' unrW (off1 (by assumption)) ?uF ?uN ?uI ?us ⟨by k_subL, ?_⟩; (case uF => assumption); (case uN => k_asm); (case uI => ((repeat' (refine fa_cons (by k_mem) ?_)); exact List.forall_mem_nil _)); (case us => ((repeat' (refine fa_cons (by k_mem) ?_)); first | exact List.forall_mem_nil _ | (intro pD hD; repeat (first | exact hD | apply List.Mem.tail)))))
  k_with "UnrEnd" => (k_here; refine' unrI ?uo ?uF ?uN ?uI ?us ?_; (case uo => assumption); (case uF => assumption); (case uN => k_asm); (case uI => k_mem); (case us => ((repeat' (refine fa_cons (by k_mem) ?_)); first | exact List.forall_mem_nil _ | (intro pD hD; repeat (first | exact hD | apply List.Mem.tail)))))
  k_with "pyIter ref" => (k_here; (with_reducible show wpAny _ _ (pyIter (Value.ref _)) (fun it s₂ => TurnsAt _ _ _ _ _ _ _ _ _ it s₂) _ _); (rename Fr _ _ _ _ => lF'); (rename News _ _ _ _ => lN'); (with_unfolding_all refine' iter_tupTurns ?h1 lF' lN' ?h2 ?h3 ?h4 ?_; (case h1 => exact rfl); (case h2 => k_mem); (case h3 => exact rfl); (case h4 => exact rfl)); clear lF' lN'; intro i' l1; (try k_lt l1))
  k_with "call ref" => (k_here; (with_reducible show wpAny _ _ (call (Value.ref 159) _) _ _ _); k_dflt (refine' shapes_C ?kB ?kF ?kX ?kN ?kT ?kk ?kd ?ku ?_; (case kB => k_asm); (case kF => k_asm); (case kX => k_asm); (case kN => k_asm); (case kT => k_asm); (case kk => first | exact rfl | assumption); (case kd => ktr_room); (case ku => ktr_units)); intro d' o' kvs' h' tk' F' N' l1 hd' hK' lo'; (try k_lt l1); (try dsimp only); (try k_sweep); (try k_fold))
  k_with "call ref" => (k_here; (with_reducible show wpAny _ _ (call (Value.ref 181) [Value.ref _, Value.ref _]) _ _ _); k_dflt (refine' chkzr_C ?kB ?kF ?kX ?kN ?kT ?kk ?m0 ?m1 ?m2 ?m3 ?kR ?kS ?kK ?klo ?kl ?km ?kn ?kr0 ?kr1 ?kd ?ku ?_; (case kB => k_asm); (case kF => k_asm); (case kX => k_asm); (case kN => k_asm); (case kT => k_asm); (case kk => first | exact rfl | assumption); (case m0 => k_mem); (case kR => with_reducible assumption); (case m1 => k_mem); (case m2 => k_mem); (case m3 => k_mem); (case kS => assumption); (case kK => assumption); (case klo => assumption); (case kl => first | assumption | decide +kernel); (case km => first | assumption | decide); (case kn => first | assumption | omega); (case kr0 => omega); (case kr1 => omega); (case kd => ktr_room); (case ku => ktr_units)); intro h' tk' F' N'; (try dsimp only); (try k_sweep); (try k_fold))
  k_with "call ref" => (k_here; (with_reducible show wpAny _ _ (call (Value.ref 181) [Value.ref _, Value.ref _]) _ _ _); k_dflt (refine' chkzri_C ?kB ?kF ?kX ?kN ?kT ?kk ?m0 ?m1 ?m2 ?m3 ?kR ?kS ?kK ?klo ?kl ?km ?kn ?kr0 ?kr1 ?ki0 ?ki1 ?kd ?ku ?_; (case kB => k_asm); (case kF => k_asm); (case kX => k_asm); (case kN => k_asm); (case kT => k_asm); (case kk => first | exact rfl | assumption); (case m0 => k_mem); (case kR => with_reducible assumption); (case m1 => k_mem); (case m2 => k_mem); (case m3 => k_mem); (case kS => assumption); (case kK => assumption); (case klo => assumption); (case kl => first | assumption | decide +kernel); (case km => first | assumption | decide); (case kn => first | assumption | omega); (case kr0 => omega); (case kr1 => omega); (case ki0 => omega); (case ki1 => omega); (case kd => ktr_room); (case ku => ktr_units)); intro h' tk' F' N'; (try dsimp only); (try k_sweep); (try k_fold))
  k_with "call ref" => (k_here; (with_reducible show wpAny _ _ (call (Value.ref 181) [Value.ref _, Value.ref _]) _ _ _); k_dflt (refine' chkz_C ?kB ?kF ?kX ?kN ?kT ?kk ?m0 ?m1 ?m2 ?m3 ?kR ?kS ?kK ?klo ?kl ?km ?kn ?kd ?ku ?_; (case kB => k_asm); (case kF => k_asm); (case kX => k_asm); (case kN => k_asm); (case kT => k_asm); (case kk => first | exact rfl | assumption); (case m0 => k_mem); (case kR => with_reducible assumption); (case m1 => k_mem); (case m2 => k_mem); (case m3 => k_mem); (case kS => assumption); (case kK => assumption); (case klo => assumption); (case kl => first | assumption | decide +kernel); (case km => first | assumption | decide); (case kn => first | assumption | omega); (case kd => ktr_room); (case ku => ktr_units)); intro h' tk' F' N'; (try dsimp only); (try k_sweep); (try k_fold))
  k_with "call ref" => (k_here; (with_reducible show wpAny _ _ (call (Value.ref 181) [Value.ref _, Value.ref _]) _ _ _); k_dflt (refine' chke_C ?kB ?kF ?kX ?kN ?kT ?kk ?m0 ?m1 ?m2 ?m3 ?kR ?kS ?kK ?klo ?kl ?km ?kd ?ku ?_; (case kB => k_asm); (case kF => k_asm); (case kX => k_asm); (case kN => k_asm); (case kT => k_asm); (case kk => first | exact rfl | assumption); (case m0 => k_mem); (case kR => with_reducible assumption); (case m1 => k_mem); (case m2 => k_mem); (case m3 => k_mem); (case kS => assumption); (case kK => assumption); (case klo => assumption); (case kl => first | assumption | decide +kernel); (case km => first | assumption | decide); (case kd => ktr_room); (case ku => ktr_units)); intro h' tk' F' N'; (try dsimp only); (try k_sweep); (try k_fold))
  trivial
theorem div_lookup {nm : Str} (h : DivNm nm) : shK.lookup nm = some (Str.ofString "zr") := by rcases h with rfl | rfl <;> decide +kernel
theorem div_ne {nm : Str} (h : DivNm nm) : nm ≠ Str.ofString "movsx" := by rcases h with rfl | rfl <;> decide
theorem mov_lookup : shK.lookup (Str.ofString "mov_imm") = some (Str.ofString "zri") := by decide +kernel
theorem ret_lookup : shK.lookup (Str.ofString "ret") = some (Str.ofString "") := by decide +kernel
theorem cqo_lookup : shK.lookup (Str.ofString "cqo") = some (Str.ofString "z") := by decide +kernel
set_option maxHeartbeats 8000000 in
theorem chk_C {w : World} {mean : ExcName → Option Value} {mg mb : Str → Option Value}
    {dp un : Nat} {gd : Option (List Code)} {cn : Str} {cs : Scope} {a : Addr} {ccd : Value} {cl : List (Str × Addr)} {outer : List Env} {A₀ : Around} {base h₀ : Heap} {L : Addr} {m : Str → Option Value} {s : Shared} {Q E : Value → Shared → Prop}
    {nm : Str} {ps : List Value} {x dx p d : Addr} {oX oD oP oS : Obj} {kvs : List (Str × Value)} {led : List (Addr × Obj)}
    (B : Below A₀ base outer h₀) (F : Fr h₀ L s.heap m) (X : (hd.heap_1 w.params).In h₀)
    (N : News h₀ L s.heap led) 
    (T : Top qv Lo mean mg mb h₀) (hk : cs.kind = .function) (M0 : (x, oX) ∈ led) (M1 : (dx, oD) ∈ led) (M2 : (p, oP) ∈ led) (M3 : (d, oS) ∈ led) (hR : RowIs nm ps dx p oX oD oP) (hok : OkRow nm ps) (hS : oS.IsDictOf (PySem.strKind Challenge.rw_ok0167_01.prog w) kvs) (hK : ShK kvs shK) (hlo : (d == sysModules) = false)
    (hdp : dp + 20 < recursionLimit) (hun : un + 900 < cLine)
    (hret : ∀ h' tk', Fr h₀ L h' m → News h₀ L h' led → Q (.ref x) { s with heap := h', toks := tk' }) :
    wpAny (model Challenge.rw_ok0167_01.prog w) (ktrTop dp un gd cn cs L a ccd cl outer) (call (.ref 181) [.ref x, .ref d]) Q E s := by
  cases hok with
  | div h1 h2 h3 h4 => exact chkzr_C B F X N T hk M0 M1 M2 M3 hR hS hK hlo (div_lookup h1) (div_ne h1) h2 h3 h4 hdp hun hret
  | mov => exact chkzri_C B F X N T hk M0 M1 M2 M3 hR hS hK hlo mov_lookup (by decide) (Or.inl rfl) (by decide) (by decide) (by decide) (by decide) hdp hun hret
  | ret => exact chke_C B F X N T hk M0 M1 M2 M3 hR hS hK hlo ret_lookup (by decide) hdp hun hret
  | cqo h => exact chkz_C B F X N T hk M0 M1 M2 M3 hR hS hK hlo cqo_lookup (by decide) h hdp hun hret
-- Cg
theorem zrCg : True := by first | (row_walk; done) | trivial
section
theorem zz19 : True := by
  k_with "call ref" => (k_here; (with_reducible show wpAny _ _ (call (Value.ref 188) [Value.ref _]) _ _ _); k_dflt (refine' ismark_C ?kB ?kF ?kX ?kN ?kT ?kk ?m0 ?m1 ?kR ?km ?kd ?ku ?_; (case kB => k_asm); (case kF => k_asm); (case kX => k_asm); (case kN => k_asm); (case kT => k_asm); (case kk => first | exact rfl | assumption); (case m0 => k_mem); (case kR => assumption); (case m1 => k_mem); (case km => first | assumption | decide); (case kd => ktr_room); (case ku => ktr_units)); intro h' tk' F' N'; (try dsimp only); (try k_sweep); (try k_fold))
  k_with "call ref" => (k_here; (with_reducible show wpAny _ _ (call (Value.ref 195) [Value.ref _]) _ _ _); k_dflt (refine' goalof_C ?kB ?kF ?kX ?kN ?kT ?kk ?m0 ?m1 ?kR ?km ?kd ?ku ?_; (case kB => k_asm); (case kF => k_asm); (case kX => k_asm); (case kN => k_asm); (case kT => k_asm); (case kk => first | exact rfl | assumption); (case m0 => k_mem); (case kR => assumption); (case m1 => k_mem); (case km => first | assumption | decide); (case kd => ktr_room); (case ku => ktr_units)); intro h' tk' F' N'; (try dsimp only); (try k_sweep); (try k_fold))
  k_with "call ref" => (k_here; (with_reducible show wpAny _ _ (call (Value.ref 202) [Value.ref _]) _ _ _); k_dflt (refine' marks_C ?kB ?kF ?kX ?kN ?kT ?kk ?m0 ?kr ?kl ?kd ?ku ?_; (case kB => k_asm); (case kF => k_asm); (case kX => k_asm); (case kN => k_asm); (case kT => k_asm); (case kk => first | exact rfl | assumption); (case m0 => k_mem); (case kr => (intro v9 hv9; refine RowOK.sub ((by assumption : ∀ v ∈ _, RowOK _ v) v9 hv9) ?_; intro pD hD; repeat (first | exact hD | apply List.Mem.tail))); (case kl => assumption); (case kd => ktr_room); (case ku => ktr_units)); intro d' o' h' tk' F' N' l1; (try k_lt l1); (try dsimp only); (try k_sweep); (try k_fold))
  k_with "call ref" => (k_here; (with_reducible show wpAny _ _ (call (Value.ref 181) [Value.ref _, Value.ref _]) _ _ _); k_dflt (refine' chk_C ?kB ?kF ?kX ?kN ?kT ?kk ?m0 ?m1 ?m2 ?m3 ?kR ?ko ?kS ?kK ?klo ?kd ?ku ?_; (case kB => k_asm); (case kF => k_asm); (case kX => k_asm); (case kN => k_asm); (case kT => k_asm); (case kk => first | exact rfl | assumption); (case m0 => k_mem); (case kR => with_reducible assumption); (case m1 => k_mem); (case m2 => k_mem); (case m3 => k_mem); (case ko => assumption); (case kS => assumption); (case kK => assumption); (case klo => assumption); (case kd => ktr_room); (case ku => ktr_units)); intro h' tk' F' N'; (try dsimp only); (try k_sweep); (try k_fold))
  k_with "subscriptTail" => (k_here; (with_reducible show wpAny _ _ (subscriptTail _ _ (Value.ref _) (Value.int _ _)) _ _ _); k_dflt (refine' row_item ?k1 ?k2 ?k3 ?k4 ?_ ?k5; (case k1 => k_asm); (case k2 => k_mem); (case k3 => with_reducible assumption); (case k4 => omega); (case k5 => with_unfolding_all rfl); k_whole))
  k_with "call builtin:len" => (k_here; (with_reducible show wpAny _ _ (call (Value.builtin "len") [Value.ref _]) _ _ _); k_dflt (refine' row_len ?k1 ?k2 ?k3 ?_; (case k1 => k_asm); (case k2 => k_mem); (case k3 => (show List.length _ ≤ 1000; omega)); k_whole))
  trivial
set_option maxHeartbeats 8000000 in
theorem ckrows_C {w : World} {mean : ExcName → Option Value} {mg mb : Str → Option Value}
    {dp un : Nat} {gd : Option (List Code)} {cn : Str} {cs : Scope} {a : Addr} {ccd : Value} {cl : List (Str × Addr)} {outer : List Env} {A₀ : Around} {base h₀ : Heap} {L : Addr} {m : Str → Option Value} {s : Shared} {Q E : Value → Shared → Prop}
    {rows : List Value} {R : Addr} {k : Nat} {led : List (Addr × Obj)}
    (B : Below A₀ base outer h₀) (F : Fr h₀ L s.heap m) (X : (hd.heap_1 w.params).In h₀)
    (N : News h₀ L s.heap led) 
    (T : Top qv Lo mean mg mb h₀) (hk : cs.kind = .function) (M0 : (R, listOf rows.toArray k) ∈ led) (hrows : ∀ v ∈ rows, RowOK led v) (hlen : rows.length ≤ 8)
    (hdp : dp + 30 < recursionLimit) (hun : un + 1300 < cLine)
    (hret : ∀ d o h' tk', Fr h₀ L h' m → News h₀ L h' ((d, o) :: led) → (∀ p ∈ led, p.1 < d) → Q (.ref d) { s with heap := h', toks := tk' }) :
    wpAny (model Challenge.rw_ok0167_01.prog w) (ktrTop dp un gd cn cs L a ccd cl outer) (call (.ref 209) [.ref R]) Q E s := by
  replace N := newsIn M0 N
  replace hrows : ∀ v ∈ rows, RowOK ((R, listOf rows.toArray k) :: led) v := fun v hv => (hrows v hv).sub fun p hp => .tail _ hp
  refine wpAny_call ?_
  k_dflt cell_enter
  (repeat' ((fail_if_success (with_reducible show wpAny _ _ (pyIter _) _ _ _)); (first | (k_unfold; (try dsimp only)) | (k_end; wrow_close) | walk1 | (dsimp only; walk1))))
  rename IsRange _ _ _ _ _ _ _ _ => hr9
  rename Fr _ _ _ _ => F9
  rename News _ _ _ _ => N9
  refine' rng_loopG (Str.ofString "goal") ?hh hr9 ?hn F9 N9 ?turn ?fin
  case hh => exact rfl
  case hn => exact Nat.le_trans hlen (by decide)
  case turn =>
    intro i t I it h8 tk8 vg R8 hi hI F8 N8 hR8
    obtain ⟨x, dx, p, oX, oD, oP, nm, ps, hget, m1, m2, m3, hRow, hok⟩ := rows_at hi hrows
    have hng := hok.noGoal
    have N7 := newsIn (by repeat (first | exact m1 | apply List.Mem.tail)) (newsIn (by repeat (first | exact m2 | apply List.Mem.tail)) (newsIn (by repeat (first | exact m3 | apply List.Mem.tail)) N8))
    clear N8 N9 F9
    dsimp only [envOf] at F8 N7
    unfold frG at F8
    k_steps
    rename Fr _ _ _ _ => F7
    refine hR8 _ _ (some (.int (i : Int) t)) (some .none) ?_ (by ktr_rel)
    rw [← frG_up (vg := vg) (by decide)]
    exact F7
  case fin =>
    intro h8 tk8 vx vg F8 N8
    dsimp only [envOf] at F8 N8
    unfold frG at F8
    k_steps
    exact hret _ _ _ _ (by assumption) (by ktr_rel) (lt_sub (by assumption) (by intro pD hD; repeat (first | exact hD | apply List.Mem.tail)))
end
-- Uf
theorem zrUf : True := by first | (row_walk; done) | trivial
section
theorem zz20 : True := by
  k_with_none
  k_with "k_all" => ((intro pA hA; refine neN (Nat.ne_of_lt ?_); refine (by assumption : ∀ p ∈ _, p.1 < _) pA ?_; (repeat (first | exact hA | apply List.Mem.tail)); done))
  k_with "k_all" => (with_reducible assumption)
  k_with "k_upd" => ((first | exact Picks.nil | (refine' Picks.cons ?kuc ?kud; (case kuc => k_upd); (case kud => k_upd)) | (refine' Pick.head ?kua; (case kua => k_all)) | (refine' Pick.tail ?kua ?kub; (case kua => k_ne); (case kub => k_upd)) | (refine' Upd.head ?kua; (case kua => k_all)) | (refine' Upd.tail ?kua ?kub; (case kua => k_ne); (case kub => k_upd))))
  k_with "ktr_rel" => ((refine cb_drop (by assumption) ?_; (repeat' (refine fa_cons (by k_mem) ?_)); first | exact List.forall_mem_nil _ | (intro pD hD; repeat (first | exact hD | apply List.Mem.tail))))
  k_with "compareOp NotEq ref ref" => (k_here; k_dflt (refine' ne_K ?k1 ?k2 ?k3 ?k4 ?k5 ?k6 ?_; (case k1 => k_asm); (case k2 => k_mem); (case k3 => k_mem); (case k4 => l_intsC); (case k5 => l_intsC); (case k6 => ktr_units); k_whole))
  k_with "binaryOp FloorDiv int int" => (k_here; (with_reducible refine floordiv_int ?ke ?_ (Or.inl (noPy ?kp ?kq))); (case ke => first | omega | (split <;> omega)); (case kp => first | omega | (split <;> omega)); (case kq => first | omega | (split <;> omega)))
  k_with "call builtin:list.pop" => (k_here; k_dflt (refine' pop0_K ?k1 ?k2 ?k3 ?k4 ?_; (case k1 => k_asm); (case k2 => k_asm); (case k3 => k_upd); (case k4 => omega); k_whole); intro h' F' N')
  k_with "binaryOp Pow int int" => (k_here; first | (with_reducible refine powL_K 18446744073709551616 ?kb1 ?kb2 ?kb3 ?kb4 ?_; (case kb4 => decide +kernel); (case kb1 => decide); (case kb2 => decide); (case kb3 => decide)) | (with_reducible refine powL_K 9223372036854775808 ?kb1 ?kb2 ?kb3 ?kb4 ?_; (case kb4 => decide +kernel); (case kb1 => decide); (case kb2 => decide); (case kb3 => decide)) | (with_reducible refine powL_K 4294967296 ?kb1 ?kb2 ?kb3 ?kb4 ?_; (case kb4 => decide +kernel); (case kb1 => decide); (case kb2 => decide); (case kb3 => decide)) | (with_reducible refine powL_K 2147483648 ?kb1 ?kb2 ?kb3 ?kb4 ?_; (case kb4 => decide +kernel); (case kb1 => decide); (case kb2 => decide); (case kb3 => decide)) | (with_reducible refine powL_K 340282366920938463463374607431768211456 ?kb1 ?kb2 ?kb3 ?kb4 ?_; (case kb4 => decide +kernel); (case kb1 => decide); (case kb2 => decide); (case kb3 => decide)) | (with_reducible refine powL_K 170141183460469231731687303715884105728 ?kb1 ?kb2 ?kb3 ?kb4 ?_; (case kb4 => decide +kernel); (case kb1 => decide); (case kb2 => decide); (case kb3 => decide)))
  k_with "cell_enter" => ((refine' code_def ?k1 ?k2 ?k3 ?k4 ?k5 ?kA ?kF ?kK ?k6 ?k7 ?k8 ?k9 ?kB ?_ ?c2 ?c3 ?c4 ?c5; (case kA => exact rfl); (case kF => exact rfl); (case kK => first | assumption | exact rfl); (case k1 => k_asm); (case k2 => k_asm); (case k3 => k_asm); (case k4 => k_asm); (case k5 => k_asm); (case k6 => k_is); (case k7 => k_is); (case k8 => ktr_room); (case k9 => first | exact BindsTo.of_eq rfl | exact binds_K (by k_in) rfl (by k_is) rfl rfl rfl); (case c5 => decide); (case kB => exact locs rfl); (case c2 => exact rfl); (case c3 => exact rfl); (case c4 => exact rfl); k_whole; intro g' L' h' FG' F' N' B' X' T'; (try dsimp only); (try k_lift B'); (try k_fold)))
  k_with "ktr_units" => (((try simp only [units_in1, units_deeper, units_under_make, Around.mark_units]); (try dsimp only [ktrTop]); omega))
  k_with "ktr_room" => (((try simp only [depth_mark, depth_under_make, depth_under_kw, depth_in1, depth_deeper]); (try dsimp only [ktrTop]); omega))
  k_with "execs cons" => (k_here; (first | ((with_reducible refine gentok fun tk' => ?_); (with_reducible refine wpAny_execs_cons ?_)) | (with_reducible refine wpAny_execs_cons ?_)); (try dsimp only))
  k_with "execs nil" => (k_here; (refine wpAny_execs_nil ?_))
  k_with "call ref" => (k_here; k_dflt (refine' call_cls ?k1 ?k2 ?k3 ?k4 ?k5 ?k6 ?_; (case k1 => k_asm); (case k2 => k_asm); (case k3 => k_asm); (case k4 => k_is); (case k5 => k_is); (case k6 => k_is); k_whole; intro x' d' h' F' N' l1 l2; (try k_lt l1); (try k_lt2 l2); (try k_sweep); cell_enter))
  trivial
set_option maxHeartbeats 8000000 in
theorem uf_C {w : World} {mean : ExcName → Option Value} {mg mb : Str → Option Value}
    {dp un : Nat} {gd : Option (List Code)} {cn : Str} {cs : Scope} {a : Addr} {ccd : Value} {cl : List (Str × Addr)} {outer : List Env} {A₀ : Around} {base h₀ : Heap} {L : Addr} {m : Str → Option Value} {s : Shared} {Q E : Value → Shared → Prop}
     {led : List (Addr × Obj)}
    (B : Below A₀ base outer h₀) (F : Fr h₀ L s.heap m) (X : (hd.heap_1 w.params).In h₀)
    (N : News h₀ L s.heap led) 
    (T : Top qv Lo mean mg mb h₀) (hk : cs.kind = .function)  
    (hdp : dp + 10 < recursionLimit) (hun : un + 500 < cLine)
    (hret : ∀ f h' tk', Fr h₀ L h' m → News h₀ L h' led → Q (.ref f) { s with heap := h', toks := tk' }) :
    wpAny (model Challenge.rw_ok0167_01.prog w) (ktrTop dp un gd cn cs L a ccd cl outer) (call (.ref 244) []) Q E s := by
  refine wpAny_call ?_
  k_dflt cell_enter
  k_steps
  exact hret _ _ _ (by assumption) (by ktr_rel)
end
-- Mi
theorem zrMi : True := by first | (row_walk; done) | trivial
section
theorem zz21 : True := by
  k_with_none
  k_with "k_all" => ((intro pA hA; refine neN (Nat.ne_of_lt ?_); refine (by assumption : ∀ p ∈ _, p.1 < _) pA ?_; (repeat (first | exact hA | apply List.Mem.tail)); done))
  k_with "k_all" => (with_reducible assumption)
  k_with "k_upd" => ((first | exact Picks.nil | (refine' Picks.cons ?kuc ?kud; (case kuc => k_upd); (case kud => k_upd)) | (refine' Pick.head ?kua; (case kua => k_all)) | (refine' Pick.tail ?kua ?kub; (case kua => k_ne); (case kub => k_upd)) | (refine' Upd.head ?kua; (case kua => k_all)) | (refine' Upd.tail ?kua ?kub; (case kua => k_ne); (case kub => k_upd))))
  k_with "ktr_rel" => ((refine cb_drop (by assumption) ?_; (repeat' (refine fa_cons (by k_mem) ?_)); first | exact List.forall_mem_nil _ | (intro pD hD; repeat (first | exact hD | apply List.Mem.tail))))
  k_with "compareOp NotEq ref ref" => (k_here; k_dflt (refine' ne_K ?k1 ?k2 ?k3 ?k4 ?k5 ?k6 ?_; (case k1 => k_asm); (case k2 => k_mem); (case k3 => k_mem); (case k4 => l_intsC); (case k5 => l_intsC); (case k6 => ktr_units); k_whole))
  k_with "binaryOp FloorDiv int int" => (k_here; (with_reducible refine floordiv_int ?ke ?_ (Or.inl (noPy ?kp ?kq))); (case ke => first | omega | (split <;> omega)); (case kp => first | omega | (split <;> omega)); (case kq => first | omega | (split <;> omega)))
  k_with "call builtin:list.pop" => (k_here; k_dflt (refine' pop0_K ?k1 ?k2 ?k3 ?k4 ?_; (case k1 => k_asm); (case k2 => k_asm); (case k3 => k_upd); (case k4 => omega); k_whole); intro h' F' N')
  k_with "binaryOp Pow int int" => (k_here; first | (with_reducible refine powL_K 18446744073709551616 ?kb1 ?kb2 ?kb3 ?kb4 ?_; (case kb4 => decide +kernel); (case kb1 => decide); (case kb2 => decide); (case kb3 => decide)) | (with_reducible refine powL_K 9223372036854775808 ?kb1 ?kb2 ?kb3 ?kb4 ?_; (case kb4 => decide +kernel); (case kb1 => decide); (case kb2 => decide); (case kb3 => decide)) | (with_reducible refine powL_K 4294967296 ?kb1 ?kb2 ?kb3 ?kb4 ?_; (case kb4 => decide +kernel); (case kb1 => decide); (case kb2 => decide); (case kb3 => decide)) | (with_reducible refine powL_K 2147483648 ?kb1 ?kb2 ?kb3 ?kb4 ?_; (case kb4 => decide +kernel); (case kb1 => decide); (case kb2 => decide); (case kb3 => decide)) | (with_reducible refine powL_K 340282366920938463463374607431768211456 ?kb1 ?kb2 ?kb3 ?kb4 ?_; (case kb4 => decide +kernel); (case kb1 => decide); (case kb2 => decide); (case kb3 => decide)) | (with_reducible refine powL_K 170141183460469231731687303715884105728 ?kb1 ?kb2 ?kb3 ?kb4 ?_; (case kb4 => decide +kernel); (case kb1 => decide); (case kb2 => decide); (case kb3 => decide)))
  k_with "cell_enter" => ((refine' code_def ?k1 ?k2 ?k3 ?k4 ?k5 ?kA ?kF ?kK ?k6 ?k7 ?k8 ?k9 ?kB ?_ ?c2 ?c3 ?c4 ?c5; (case kA => exact rfl); (case kF => exact rfl); (case kK => first | assumption | exact rfl); (case k1 => k_asm); (case k2 => k_asm); (case k3 => k_asm); (case k4 => k_asm); (case k5 => k_asm); (case k6 => k_is); (case k7 => k_is); (case k8 => ktr_room); (case k9 => first | exact BindsTo.of_eq rfl | exact binds_K (by k_in) rfl (by k_is) rfl rfl rfl); (case c5 => decide); (case kB => exact locs rfl); (case c2 => exact rfl); (case c3 => exact rfl); (case c4 => exact rfl); k_whole; intro g' L' h' FG' F' N' B' X' T'; (try dsimp only); (try k_lift B'); (try k_fold)))
  k_with "ktr_units" => (((try simp only [units_in1, units_deeper, units_under_make, Around.mark_units]); (try dsimp only [ktrTop]); omega))
  k_with "ktr_room" => (((try simp only [depth_mark, depth_under_make, depth_under_kw, depth_in1, depth_deeper]); (try dsimp only [ktrTop]); omega))
  k_with "execs cons" => (k_here; (first | ((with_reducible refine gentok fun tk' => ?_); (with_reducible refine wpAny_execs_cons ?_)) | (with_reducible refine wpAny_execs_cons ?_)); (try dsimp only))
  k_with "execs nil" => (k_here; (refine wpAny_execs_nil ?_))
  k_with "call ref" => (k_here; (with_reducible show wpAny _ _ (call (Value.ref 159) _) _ _ _); k_dflt (refine' shapes_C ?kB ?kF ?kX ?kN ?kT ?kk ?kd ?ku ?_; (case kB => k_asm); (case kF => k_asm); (case kX => k_asm); (case kN => k_asm); (case kT => k_asm); (case kk => first | exact rfl | assumption); (case kd => ktr_room); (case ku => ktr_units)); intro d' o' kvs' h' tk' F' N' l1 hd' hK' lo'; (try k_lt l1); (try dsimp only); (try k_sweep); (try k_fold))
  k_with "compareOp Eq str str" => (k_here; k_dflt (refine' eq_no ?ke ?_; (case ke => with_reducible assumption)))
  k_with "compareOp In str ref" => (k_here; (with_reducible show wpAny _ _ (compareOp CmpOp.In (Value.str _ _) (Value.ref _)) _ _ _); (with_unfolding_all refine' tin_no ?k1 ?k2 ?k3 ?_; (case k1 => exact News.isTup (by k_asm) (by news_mem)); (case k2 => kde_strs); (case k3 => assumption); k_whole))
  k_with "compareOp NotIn str ref" => (k_here; (with_reducible show wpAny _ _ (compareOp CmpOp.NotIn (Value.str _ _) (Value.ref _)) _ _ _); (with_unfolding_all refine' tnot_no ?k1 ?k2 ?k3 ?_; (case k1 => exact News.isTup (by k_asm) (by news_mem)); (case k2 => kde_strs); (case k3 => assumption); k_whole))
  k_with "subscriptTail Name Slice str ref" => (k_here; (with_reducible show wpAny _ _ (subscriptTail _ (Expr.Slice (some _) none none _) _ _) _ _ _); (with_reducible rename Fr _ _ _ _ => F'); (with_reducible rename News _ _ _ _ => N'); (refine slice_strN_sn (hsz := ?hsz) (s := ⟨_, _, _, _, _⟩) F' N' ?_); (case hsz => (rw [sizeLine_eq]; omega)); intro h' t' tk' F' N')
  k_with "subscriptTail Name Slice str ref" => (k_here; (with_reducible show wpAny _ _ (subscriptTail _ (Expr.Slice none (some _) none _) _ _) _ _ _); (with_reducible rename Fr _ _ _ _ => F'); (with_reducible rename News _ _ _ _ => N'); (refine slice_strN_ns (hsz := ?hsz) (s := ⟨_, _, _, _, _⟩) F' N' ?_); (case hsz => (rw [sizeLine_eq]; omega)); intro h' t' tk' F' N')
  k_with "compareOp NotEq str str" => (k_here; k_dflt (refine' ne_yes ?ke ?_; (case ke => with_reducible assumption)))
  k_with "call ref" => (k_here; (with_reducible show wpAny _ _ (call (Value.ref 188) [Value.ref _]) _ _ _); k_dflt (refine' ismark_C ?kB ?kF ?kX ?kN ?kT ?kk ?m0 ?m1 ?kR ?km ?kd ?ku ?_; (case kB => k_asm); (case kF => k_asm); (case kX => k_asm); (case kN => k_asm); (case kT => k_asm); (case kk => first | exact rfl | assumption); (case m0 => k_mem); (case kR => assumption); (case m1 => k_mem); (case km => first | assumption | decide); (case kd => ktr_room); (case ku => ktr_units)); intro h' tk' F' N'; (try dsimp only); (try k_sweep); (try k_fold))
  k_with "call ref" => (k_here; (with_reducible show wpAny _ _ (call (Value.ref 195) [Value.ref _]) _ _ _); k_dflt (refine' goalof_C ?kB ?kF ?kX ?kN ?kT ?kk ?m0 ?m1 ?kR ?km ?kd ?ku ?_; (case kB => k_asm); (case kF => k_asm); (case kX => k_asm); (case kN => k_asm); (case kT => k_asm); (case kk => first | exact rfl | assumption); (case m0 => k_mem); (case kR => assumption); (case m1 => k_mem); (case km => first | assumption | decide); (case kd => ktr_room); (case ku => ktr_units)); intro h' tk' F' N'; (try dsimp only); (try k_sweep); (try k_fold))
  k_with "call ref" => (k_here; (with_reducible show wpAny _ _ (call (Value.ref 202) [Value.ref _]) _ _ _); k_dflt (refine' marks_C ?kB ?kF ?kX ?kN ?kT ?kk ?m0 ?kr ?kl ?kd ?ku ?_; (case kB => k_asm); (case kF => k_asm); (case kX => k_asm); (case kN => k_asm); (case kT => k_asm); (case kk => first | exact rfl | assumption); (case m0 => k_mem); (case kr => (intro v9 hv9; refine RowOK.sub ((by assumption : ∀ v ∈ _, RowOK _ v) v9 hv9) ?_; intro pD hD; repeat (first | exact hD | apply List.Mem.tail))); (case kl => assumption); (case kd => ktr_room); (case ku => ktr_units)); intro d' o' h' tk' F' N' l1; (try k_lt l1); (try dsimp only); (try k_sweep); (try k_fold))
  k_with "call ref" => (k_here; (with_reducible show wpAny _ _ (call (Value.ref 173) [Value.str (Str.ofString "z") _, Value.int _ _, Value.ref _]) _ _ _); k_dflt (refine' fitsz_C ?kB ?kF ?kX ?kN ?kT ?kk ?kv ?kd ?ku ?_; (case kB => k_asm); (case kF => k_asm); (case kX => k_asm); (case kN => k_asm); (case kT => k_asm); (case kk => first | exact rfl | assumption); (case kv => first | assumption | omega); (case kd => ktr_room); (case ku => ktr_units)); intro h' tk' F' N'; (try dsimp only); (try k_sweep); (try k_fold))
  k_with "call ref" => (k_here; (with_reducible show wpAny _ _ (call (Value.ref 173) [Value.str (Str.ofString "r") _, Value.int _ _, Value.ref _]) _ _ _); k_dflt (refine' fitsr_C ?kB ?kF ?kX ?kN ?kT ?kk ?kv0 ?kv1 ?kd ?ku ?_; (case kB => k_asm); (case kF => k_asm); (case kX => k_asm); (case kN => k_asm); (case kT => k_asm); (case kk => first | exact rfl | assumption); (case kv0 => omega); (case kv1 => omega); (case kd => ktr_room); (case ku => ktr_units)); intro h' tk' F' N'; (try dsimp only); (try k_sweep); (try k_fold))
  k_with "call ref" => (k_here; (with_reducible show wpAny _ _ (call (Value.ref 173) [Value.str (Str.ofString "i") _, Value.int _ _, Value.ref _]) _ _ _); k_dflt (refine' fitsi_C ?kB ?kF ?kX ?kN ?kT ?kk ?kv0 ?kv1 ?kd ?ku ?_; (case kB => k_asm); (case kF => k_asm); (case kX => k_asm); (case kN => k_asm); (case kT => k_asm); (case kk => first | exact rfl | assumption); (case kv0 => omega); (case kv1 => omega); (case kd => ktr_room); (case ku => ktr_units)); intro h' tk' F' N'; (try dsimp only); (try k_sweep); (try k_fold))
  k_with "UnrEndW" => (k_here; refine' unrW (off5 (by assumption)) ?uF ?uN ?uI ?us ⟨by k_subL, ?_⟩; (case uF => assumption); (case uN => k_asm); (case uI => ((repeat' (refine fa_cons (by k_mem) ?_)); exact List.forall_mem_nil _)); (case us => ((repeat' (refine fa_cons (by k_mem) ?_)); first | exact List.forall_mem_nil _ | (intro pD hD; repeat (first | exact hD | apply List.Mem.tail)))))
  k_with "UnrEndW" => (k_here; refine' unrW (off1 (by assumption)) ?uF ?uN ?uI ?us ⟨by k_subL, ?_⟩; (case uF => assumption); (case uN => k_asm); (case uI => ((repeat' (refine fa_cons (by k_mem) ?_)); exact List.forall_mem_nil _)); (case us => ((repeat' (refine fa_cons (by k_mem) ?_)); first | exact List.forall_mem_nil _ | (intro pD hD; repeat (first | exact hD | apply List.Mem.tail)))))
  k_with "UnrEnd" => (k_here; refine' unrI ?uo ?uF ?uN ?uI ?us ?_; (case uo => assumption); (case uF => assumption); (case uN => k_asm); (case uI => k_mem); (case us => ((repeat' (refine fa_cons (by k_mem) ?_)); first | exact List.forall_mem_nil _ | (intro pD hD; repeat (first | exact hD | apply List.Mem.tail)))))
  k_with "pyIter ref" => (k_here; (with_reducible show wpAny _ _ (pyIter (Value.ref _)) (fun it s₂ => TurnsAt _ _ _ _ _ _ _ _ _ it s₂) _ _); (rename Fr _ _ _ _ => lF'); (rename News _ _ _ _ => lN'); (with_unfolding_all refine' iter_tupTurns ?h1 lF' lN' ?h2 ?h3 ?h4 ?_; (case h1 => exact rfl); (case h2 => k_mem); (case h3 => exact rfl); (case h4 => exact rfl)); clear lF' lN'; intro i' l1; (try k_lt l1))
  k_with "call ref" => (k_here; (with_reducible show wpAny _ _ (call (Value.ref 181) [Value.ref _, Value.ref _]) _ _ _); k_dflt (refine' chkzr_C ?kB ?kF ?kX ?kN ?kT ?kk ?m0 ?m1 ?m2 ?m3 ?kR ?kS ?kK ?klo ?kl ?km ?kn ?kr0 ?kr1 ?kd ?ku ?_; (case kB => k_asm); (case kF => k_asm); (case kX => k_asm); (case kN => k_asm); (case kT => k_asm); (case kk => first | exact rfl | assumption); (case m0 => k_mem); (case kR => with_reducible assumption); (case m1 => k_mem); (case m2 => k_mem); (case m3 => k_mem); (case kS => assumption); (case kK => assumption); (case klo => assumption); (case kl => first | assumption | decide +kernel); (case km => first | assumption | decide); (case kn => first | assumption | omega); (case kr0 => omega); (case kr1 => omega); (case kd => ktr_room); (case ku => ktr_units)); intro h' tk' F' N'; (try dsimp only); (try k_sweep); (try k_fold))
  k_with "call ref" => (k_here; (with_reducible show wpAny _ _ (call (Value.ref 181) [Value.ref _, Value.ref _]) _ _ _); k_dflt (refine' chkzri_C ?kB ?kF ?kX ?kN ?kT ?kk ?m0 ?m1 ?m2 ?m3 ?kR ?kS ?kK ?klo ?kl ?km ?kn ?kr0 ?kr1 ?ki0 ?ki1 ?kd ?ku ?_; (case kB => k_asm); (case kF => k_asm); (case kX => k_asm); (case kN => k_asm); (case kT => k_asm); (case kk => first | exact rfl | assumption); (case m0 => k_mem); (case kR => with_reducible assumption); (case m1 => k_mem); (case m2 => k_mem); (case m3 => k_mem); (case kS => assumption); (case kK => assumption); (case klo => assumption); (case kl => first | assumption | decide +kernel); (case km => first | assumption | decide); (case kn => first | assumption | omega); (case kr0 => omega); (case kr1 => omega); (case ki0 => omega); (case ki1 => omega); (case kd => ktr_room); (case ku => ktr_units)); intro h' tk' F' N'; (try dsimp only); (try k_sweep); (try k_fold))
  k_with "call ref" => (k_here; (with_reducible show wpAny _ _ (call (Value.ref 181) [Value.ref _, Value.ref _]) _ _ _); k_dflt (refine' chkz_C ?kB ?kF ?kX ?kN ?kT ?kk ?m0 ?m1 ?m2 ?m3 ?kR ?kS ?kK ?klo ?kl ?km ?kn ?kd ?ku ?_; (case kB => k_asm); (case kF => k_asm); (case kX => k_asm); (case kN => k_asm); (case kT => k_asm); (case kk => first | exact rfl | assumption); (case m0 => k_mem); (case kR => with_reducible assumption); (case m1 => k_mem); (case m2 => k_mem); (case m3 => k_mem); (case kS => assumption); (case kK => assumption); (case klo => assumption); (case kl => first | assumption | decide +kernel); (case km => first | assumption | decide); (case kn => first | assumption | omega); (case kd => ktr_room); (case ku => ktr_units)); intro h' tk' F' N'; (try dsimp only); (try k_sweep); (try k_fold))
  k_with "call ref" => (k_here; (with_reducible show wpAny _ _ (call (Value.ref 181) [Value.ref _, Value.ref _]) _ _ _); k_dflt (refine' chke_C ?kB ?kF ?kX ?kN ?kT ?kk ?m0 ?m1 ?m2 ?m3 ?kR ?kS ?kK ?klo ?kl ?km ?kd ?ku ?_; (case kB => k_asm); (case kF => k_asm); (case kX => k_asm); (case kN => k_asm); (case kT => k_asm); (case kk => first | exact rfl | assumption); (case m0 => k_mem); (case kR => with_reducible assumption); (case m1 => k_mem); (case m2 => k_mem); (case m3 => k_mem); (case kS => assumption); (case kK => assumption); (case klo => assumption); (case kl => first | assumption | decide +kernel); (case km => first | assumption | decide); (case kd => ktr_room); (case ku => ktr_units)); intro h' tk' F' N'; (try dsimp only); (try k_sweep); (try k_fold))
  k_with "call ref" => (k_here; (with_reducible show wpAny _ _ (call (Value.ref 181) [Value.ref _, Value.ref _]) _ _ _); k_dflt (refine' chk_C ?kB ?kF ?kX ?kN ?kT ?kk ?m0 ?m1 ?m2 ?m3 ?kR ?ko ?kS ?kK ?klo ?kd ?ku ?_; (case kB => k_asm); (case kF => k_asm); (case kX => k_asm); (case kN => k_asm); (case kT => k_asm); (case kk => first | exact rfl | assumption); (case m0 => k_mem); (case kR => with_reducible assumption); (case m1 => k_mem); (case m2 => k_mem); (case m3 => k_mem); (case ko => assumption); (case kS => assumption); (case kK => assumption); (case klo => assumption); (case kd => ktr_room); (case ku => ktr_units)); intro h' tk' F' N'; (try dsimp only); (try k_sweep); (try k_fold))
  k_with "call ref" => (k_here; (with_reducible show wpAny _ _ (call (Value.ref 209) [Value.ref _]) _ _ _); k_dflt (refine' ckrows_C ?kB ?kF ?kX ?kN ?kT ?kk ?m0 ?kr ?kl ?kd ?ku ?_; (case kB => k_asm); (case kF => k_asm); (case kX => k_asm); (case kN => k_asm); (case kT => k_asm); (case kk => first | exact rfl | assumption); (case m0 => k_mem); (case kr => (intro v9 hv9; refine RowOK.sub ((by assumption : ∀ v ∈ _, RowOK _ v) v9 hv9) ?_; intro pD hD; repeat (first | exact hD | apply List.Mem.tail))); (case kl => assumption); (case kd => ktr_room); (case ku => ktr_units)); intro d' o' h' tk' F' N' l1; (try k_lt l1); (try dsimp only); (try k_sweep); (try k_fold))
  k_with "call ref" => (k_here; (with_reducible show wpAny _ _ (call (Value.ref 244) _) _ _ _); k_dflt (refine' uf_C ?kB ?kF ?kX ?kN ?kT ?kk ?kd ?ku ?_; (case kB => k_asm); (case kF => k_asm); (case kX => k_asm); (case kN => k_asm); (case kT => k_asm); (case kk => first | exact rfl | assumption); (case kd => ktr_room); (case ku => ktr_units)); intro f' h' tk' F' N'; (try dsimp only); (try k_sweep); (try k_fold))
  k_with "setItem ref int" => (k_here; (with_reducible show wpAny _ _ (PySem.setItem (Value.ref _) (Value.int _ _) (Value.int _ _)) _ _ _); k_dflt (refine' ksa_set ?k1 ?k2 ?k3 ?k4 ?k5 ?k6 ?k7 ?_; (case k1 => k_asm); (case k2 => k_asm); (case k3 => k_upd); (case k4 => with_reducible assumption); (case k5 => decide); (case k6 => decide); (case k7 => decide); k_whole); intro h' F' N' i1 _ _; (try k_sweep))
  trivial
set_option maxHeartbeats 8000000 in
theorem mach_C {w : World} {mean : ExcName → Option Value} {mg mb : Str → Option Value}
    {dp un : Nat} {gd : Option (List Code)} {cn : Str} {cs : Scope} {a : Addr} {ccd : Value} {cl : List (Str × Addr)} {outer : List Env} {A₀ : Around} {base h₀ : Heap} {L : Addr} {m : Str → Option Value} {s : Shared} {Q E : Value → Shared → Prop}
    {rows : List Value} {RW : Addr} {k : Nat} {tw : Tok} {led : List (Addr × Obj)}
    (B : Below A₀ base outer h₀) (F : Fr h₀ L s.heap m) (X : (hd.heap_1 w.params).In h₀)
    (N : News h₀ L s.heap led) 
    (T : Top qv Lo mean mg mb h₀) (hk : cs.kind = .function) (M0 : (RW, listOf rows.toArray k) ∈ led) (hrows : ∀ v ∈ rows, RowOK led v) (hlen : rows.length ≤ 8)
    (hdp : dp + 45 < recursionLimit) (hun : un + 2000 < cLine)
    (hret : ∀ M dM R pl oM oD oR oP h' tk', Fr h₀ L h' m → News h₀ L h' ((M, oM) :: (dM, oD) :: (R, oR) :: (pl, oP) :: led) → (∀ p ∈ led, p.1 < dM) → @LT.lt Nat _ dM M → @LT.lt Nat _ M R → @LT.lt Nat _ R pl → MachIs RW R pl dM 0 0 false oM oD → RegsAre rs0 oR → PileIs oP → Q (.ref M) { s with heap := h', toks := tk' }) :
    wpAny (model Challenge.rw_ok0167_01.prog w) (ktrTop dp un gd cn cs L a ccd cl outer) (call (.ref 445) [.ref RW, .int 77 tw]) Q E s := by
  replace N := newsIn M0 N
  replace hrows : ∀ v ∈ rows, RowOK ((RW, listOf rows.toArray k) :: led) v := fun v hv => (hrows v hv).sub fun p hp => .tail _ hp
  k_dflt (refine' call_cls ?k1 ?k2 ?k3 ?k4 ?k5 ?k6 ?_; (case k1 => k_asm); (case k2 => k_asm); (case k3 => k_asm); (case k4 => k_is); (case k5 => k_is); (case k6 => k_is); k_whole)
  intro M dM h' F' N' l1 l2
  (try k_lt l1)
  (try k_lt2 l2)
  (try k_sweep)
  k_dflt cell_enter
  k_steps
  exact hret _ _ _ _ _ _ _ _ _ _ (by assumption) (by ktr_rel) (lt_sub (by assumption) (by intro pD hD; repeat (first | exact hD | apply List.Mem.tail))) (by assumption) (by omega) (by omega) ⟨rfl, ⟨_, _, _, _, _, _, _, _, _, _, _, _, _, _, _, _, _, _, _, _, _, _, _, rfl⟩⟩ ⟨_, _, rfl, (by assumption), rfl, by decide⟩ ⟨_, rfl⟩
end

-- Pt
theorem zrPt : True := by first | (row_walk; done) | trivial
theorem zz22 : True := by
  k_with_none
  k_with "k_all" => ((intro pA hA; refine neN (Nat.ne_of_lt ?_); refine (by assumption : ∀ p ∈ _, p.1 < _) pA ?_; (repeat (first | exact hA | apply List.Mem.tail)); done))
  k_with "k_all" => (with_reducible assumption)
  k_with "k_upd" => ((first | exact Picks.nil | (refine' Picks.cons ?kuc ?kud; (case kuc => k_upd); (case kud => k_upd)) | (refine' Pick.head ?kua; (case kua => k_all)) | (refine' Pick.tail ?kua ?kub; (case kua => k_ne); (case kub => k_upd)) | (refine' Upd.head ?kua; (case kua => k_all)) | (refine' Upd.tail ?kua ?kub; (case kua => k_ne); (case kub => k_upd))))
  k_with "ktr_rel" => ((refine cb_drop (by assumption) ?_; (repeat' (refine fa_cons (by k_mem) ?_)); first | exact List.forall_mem_nil _ | (intro pD hD; repeat (first | exact hD | apply List.Mem.tail))))
  k_with "compareOp NotEq ref ref" => (k_here; k_dflt (refine' ne_K ?k1 ?k2 ?k3 ?k4 ?k5 ?k6 ?_; (case k1 => k_asm); (case k2 => k_mem); (case k3 => k_mem); (case k4 => l_intsC); (case k5 => l_intsC); (case k6 => ktr_units); k_whole))
  k_with "binaryOp FloorDiv int int" => (k_here; (with_reducible refine floordiv_int ?ke ?_ (Or.inl (noPy ?kp ?kq))); (case ke => first | omega | (split <;> omega)); (case kp => first | omega | (split <;> omega)); (case kq => first | omega | (split <;> omega)))
  k_with "call builtin:list.pop" => (k_here; k_dflt (refine' pop0_K ?k1 ?k2 ?k3 ?k4 ?_; (case k1 => k_asm); (case k2 => k_asm); (case k3 => k_upd); (case k4 => omega); k_whole); intro h' F' N')
  k_with "binaryOp Pow int int" => (k_here; first | (with_reducible refine powL_K 18446744073709551616 ?kb1 ?kb2 ?kb3 ?kb4 ?_; (case kb4 => decide +kernel); (case kb1 => decide); (case kb2 => decide); (case kb3 => decide)) | (with_reducible refine powL_K 9223372036854775808 ?kb1 ?kb2 ?kb3 ?kb4 ?_; (case kb4 => decide +kernel); (case kb1 => decide); (case kb2 => decide); (case kb3 => decide)) | (with_reducible refine powL_K 4294967296 ?kb1 ?kb2 ?kb3 ?kb4 ?_; (case kb4 => decide +kernel); (case kb1 => decide); (case kb2 => decide); (case kb3 => decide)) | (with_reducible refine powL_K 2147483648 ?kb1 ?kb2 ?kb3 ?kb4 ?_; (case kb4 => decide +kernel); (case kb1 => decide); (case kb2 => decide); (case kb3 => decide)) | (with_reducible refine powL_K 340282366920938463463374607431768211456 ?kb1 ?kb2 ?kb3 ?kb4 ?_; (case kb4 => decide +kernel); (case kb1 => decide); (case kb2 => decide); (case kb3 => decide)) | (with_reducible refine powL_K 170141183460469231731687303715884105728 ?kb1 ?kb2 ?kb3 ?kb4 ?_; (case kb4 => decide +kernel); (case kb1 => decide); (case kb2 => decide); (case kb3 => decide)))
  k_with "cell_enter" => ((refine' code_def ?k1 ?k2 ?k3 ?k4 ?k5 ?kA ?kF ?kK ?k6 ?k7 ?k8 ?k9 ?kB ?_ ?c2 ?c3 ?c4 ?c5; (case kA => exact rfl); (case kF => exact rfl); (case kK => first | assumption | exact rfl); (case k1 => k_asm); (case k2 => k_asm); (case k3 => k_asm); (case k4 => k_asm); (case k5 => k_asm); (case k6 => k_is); (case k7 => k_is); (case k8 => ktr_room); (case k9 => first | exact BindsTo.of_eq rfl | exact binds_K (by k_in) rfl (by k_is) rfl rfl rfl); (case c5 => decide); (case kB => exact locs rfl); (case c2 => exact rfl); (case c3 => exact rfl); (case c4 => exact rfl); k_whole; intro g' L' h' FG' F' N' B' X' T'; (try dsimp only); (try k_lift B'); (try k_fold)))
  k_with "ktr_units" => (((try simp only [units_in1, units_deeper, units_under_make, Around.mark_units]); (try dsimp only [ktrTop]); omega))
  k_with "ktr_room" => (((try simp only [depth_mark, depth_under_make, depth_under_kw, depth_in1, depth_deeper]); (try dsimp only [ktrTop]); omega))
  k_with "execs cons" => (k_here; (first | ((with_reducible refine gentok fun tk' => ?_); (with_reducible refine wpAny_execs_cons ?_)) | (with_reducible refine wpAny_execs_cons ?_)); (try dsimp only))
  k_with "execs nil" => (k_here; (refine wpAny_execs_nil ?_))
  k_with "call ref" => (k_here; (with_reducible show wpAny _ _ (call (Value.ref 461) [Value.ref _, Value.int _ _]) _ _ _); k_dflt (refine' draw_C ?kB ?kF ?kX ?kN ?kPk ?kT ?kk ?kP ?km ?km2 ?kd ?ku ?_; (case kP => assumption); (case kB => k_asm); (case kF => k_asm); (case kX => k_asm); (case kN => k_asm); (case kPk => k_upd); (case kT => k_asm); (case kk => first | exact rfl | assumption); (case km => first | decide | omega); (case km2 => first | decide | omega); (case kd => ktr_room); (case ku => ktr_units)); intro v' t' oP' oL' h' tk' F' N' hP' hlo' hhi'; (try dsimp only); (try k_sweep); (try k_fold))
  k_with "call ref" => (k_here; (with_reducible show wpAny _ _ (call (Value.ref 468) [Value.ref _, Value.ref _]) _ _ _); k_dflt (refine' pick_C ?kB ?kF ?kX ?kN ?kPk ?kT ?kk ?kP ?kI ?km ?km2 ?kd ?ku ?_; (case kP => assumption); (case kB => k_asm); (case kF => k_asm); (case kX => k_asm); (case kN => k_asm); (case kPk => k_upd); (case kT => k_asm); (case kk => first | exact rfl | assumption); (case kI => first | assumption | l_intsW); (case km => first | decide | omega); (case km2 => first | decide | omega); (case kd => ktr_room); (case ku => ktr_units)); intro v' t' oP' oL' h' tk' F' N' hP' hM'; (try dsimp only); (try k_sweep); (try k_fold))
  k_with "call ref" => (k_here; (with_reducible show wpAny _ _ (call (Value.ref 81) [Value.int _ _, Value.int _ _]) _ _ _); k_dflt (refine' wrap_C ?kB ?kF ?kX ?kN ?kT ?kk ?kn ?kd ?ku ?_; (case kB => k_asm); (case kF => k_asm); (case kX => k_asm); (case kN => k_asm); (case kT => k_asm); (case kk => first | exact rfl | assumption); (case kn => first | omega | decide); (case kd => ktr_room); (case ku => ktr_units)); intro t' h' tk' F' N'; (try dsimp only); (try k_sweep); (try k_fold))
  k_with "compareOp Eq str str" => (k_here; k_dflt (refine' eq_no ?ke ?_; (case ke => with_reducible assumption)))
  k_with "compareOp In str ref" => (k_here; (with_reducible show wpAny _ _ (compareOp CmpOp.In (Value.str _ _) (Value.ref _)) _ _ _); (with_unfolding_all refine' tin_no ?k1 ?k2 ?k3 ?_; (case k1 => exact News.isTup (by k_asm) (by news_mem)); (case k2 => kde_strs); (case k3 => assumption); k_whole))
  k_with "compareOp NotIn str ref" => (k_here; (with_reducible show wpAny _ _ (compareOp CmpOp.NotIn (Value.str _ _) (Value.ref _)) _ _ _); (with_unfolding_all refine' tnot_no ?k1 ?k2 ?k3 ?_; (case k1 => exact News.isTup (by k_asm) (by news_mem)); (case k2 => kde_strs); (case k3 => assumption); k_whole))
  k_with "subscriptTail Name Slice str ref" => (k_here; (with_reducible show wpAny _ _ (subscriptTail _ (Expr.Slice (some _) none none _) _ _) _ _ _); (with_reducible rename Fr _ _ _ _ => F'); (with_reducible rename News _ _ _ _ => N'); (refine slice_strN_sn (hsz := ?hsz) (s := ⟨_, _, _, _, _⟩) F' N' ?_); (case hsz => (rw [sizeLine_eq]; omega)); intro h' t' tk' F' N')
  k_with "subscriptTail Name Slice str ref" => (k_here; (with_reducible show wpAny _ _ (subscriptTail _ (Expr.Slice none (some _) none _) _ _) _ _ _); (with_reducible rename Fr _ _ _ _ => F'); (with_reducible rename News _ _ _ _ => N'); (refine slice_strN_ns (hsz := ?hsz) (s := ⟨_, _, _, _, _⟩) F' N' ?_); (case hsz => (rw [sizeLine_eq]; omega)); intro h' t' tk' F' N')
  k_with "compareOp NotEq str str" => (k_here; k_dflt (refine' ne_yes ?ke ?_; (case ke => with_reducible assumption)))
  trivial
theorem updOf {d : Addr} {o o' : Obj} {l : List (Addr × Obj)} {g : Obj → List (Addr × Obj)} (h : UpdF d o l g) : Upd d o o' l (g o') := by
  induction h with
  | head h => exact .head h
  | tail h _ ih => exact .tail h ih
/-- one of the opaque objects of the machine, turned -/
theorem regs_set {prog : Program} {w : World} {A : Around} {E : Value → Shared → Prop} {s : Shared} {h₀ : Heap} {L D : Addr} {m : Str → Option Value} {news : List (Addr × Obj)} {g : Obj → List (Addr × Obj)} {o : Obj} {rs : List Int} {i x : Int} {t u : Tok} {Q : Unit → Shared → Prop}
    (F : Fr h₀ L s.heap m) (N : News h₀ L s.heap news) (U : UpdF D o news g) (hR : RegsAre rs o) (h0 : 0 ≤ i) (h1 : i < 16) (hx0 : 0 ≤ x) (hx1 : x < 2 ^ 64)
    (h : ∀ h' o', Fr h₀ L h' m → News h₀ L h' (g o') → RegsAre (rs.set i.toNat x) o' → Q () { s with heap := h' }) : wpAny (model prog w) A (setItem (.ref D) (.int i t) (.int x u)) Q E s := by
  obtain ⟨vs, k, rfl, hi, hl, hb⟩ := hR
  have U' : Upd D (listOf vs.toArray k) (listOf (vs.set i.toNat (.int x u)).toArray k) news (g (listOf (vs.set i.toNat (.int x u)).toArray k)) := updOf U
  refine ksa_set F N U' hi h0 (by omega) (by omega) fun h' F' N' hi' hl' _ => h h' _ F' N' ⟨_, _, rfl, hi', by rw [hl', hl], fun y hy => ?_⟩
  rcases List.mem_or_eq_of_mem_set hy with q | q
  · exact hb y q
  · subst q; exact ⟨hx0, hx1⟩
theorem regs_get {prog : Program} {w : World} {A : Around} {E : Value → Shared → Prop} {s : Shared} {h₀ : Heap} {L D : Addr} {news : List (Addr × Obj)} {value slice : PySem.Expr} {o : Obj} {rs : List Int} {i : Int} {u : Tok} {Q : Value → Shared → Prop}
    (N : News h₀ L s.heap news) (hm : (D, o) ∈ news) (hR : RegsAre rs o) (h0 : 0 ≤ i) (h1 : i < 16) (h : ∀ t, 0 ≤ rs.getD i.toNat 0 → rs.getD i.toNat 0 < 2 ^ 64 → Q (.int (rs.getD i.toNat 0) t) s)
    (hs : subscripted slice false (.ref D) (.int i u) = operate [.ref D, .int i u] (getItem (.ref D) (.int i u)) := by with_unfolding_all rfl) :
    wpAny (model prog w) A (subscriptTail value slice (.ref D) (.int i u)) Q E s := by
  obtain ⟨vs, k, rfl, hi, hl, hb⟩ := hR
  have q := hb _ (getD_memI (xs := rs) h0 (by omega))
  exact ksa_sub N hm hi h0 (by omega) (by omega) (fun t => h t q.1 q.2) hs
section
theorem zz23 : True := by
  k_with "setItem ref int" => (k_here; (with_reducible show wpAny _ _ (PySem.setItem (Value.ref _) (Value.int _ _) (Value.int _ _)) _ _ _); k_dflt (refine' regs_set ?k1 ?k2 ?k3 ?k4 ?k5 ?k6 ?k7 ?k8 ?_; (case k1 => k_asm); (case k2 => k_asm); (case k3 => k_updF); (case k4 => assumption); (case k5 => omega); (case k6 => omega); (case k7 => exact low_nn _ _); (case k8 => exact low64 (by omega) _); k_whole); intro h' o' F' N' hR'; (try dsimp only at N'); (try k_sweep))
  k_with "subscriptTail" => (k_here; (with_reducible show wpAny _ _ (subscriptTail _ _ (Value.ref _) (Value.int _ _)) _ _ _); k_dflt (refine' regs_get ?k1 ?k2 ?k3 ?k4 ?k5 ?_ ?k6; (case k1 => k_asm); (case k2 => k_mem); (case k3 => assumption); (case k4 => omega); (case k5 => omega); (case k6 => with_unfolding_all rfl); k_whole); intro t' b0' b1')
  trivial
set_option maxHeartbeats 8000000 in
theorem put4_C {w : World} {mean : ExcName → Option Value} {mg mb : Str → Option Value}
    {dp un : Nat} {gd : Option (List Code)} {cn : Str} {cs : Scope} {a : Addr} {ccd : Value} {cl : List (Str × Addr)} {outer : List Env} {A₀ : Around} {base h₀ : Heap} {L : Addr} {m : Str → Option Value} {s : Shared} {Q E : Value → Shared → Prop}
    {M dM R RW pl : Addr} {oM oD oR : Obj} {pc st : Int} {ov : Bool} {rs : List Int} {i x n : Int} {ti tx tn : Tok} {led l1 l2 rest : List (Addr × Obj)}
    (B : Below A₀ base outer h₀) (F : Fr h₀ L s.heap m) (X : (hd.heap_1 w.params).In h₀)
    (N : News h₀ L s.heap led) (Pk1 : Pick M oM led l1) (Pk2 : Pick dM oD l1 l2) (Pk3 : Pick R oR l2 rest) 
    (T : Top qv Lo mean mg mb h₀) (hk : cs.kind = .function) (hM1 : oM = instObj 445 dM) (hM2 : MachD RW R pl pc st ov oD) (hR : RegsAre rs oR) (h0 : 0 ≤ i) (h1 : i < 16) (hn : n = 32 ∨ n = 64) 
    (hdp : dp + 10 < recursionLimit) (hun : un + 500 < cLine)
    (hret : ∀ oR' h' tk', Fr h₀ L h' m → News h₀ L h' ((M, oM) :: (dM, oD) :: (R, oR') :: rest) → RegsAre (rs.set i.toNat (low x n)) oR' → Q .none { s with heap := h', toks := tk' }) :
    wpAny (model Challenge.rw_ok0167_01.prog w) (ktrTop dp un gd cn cs L a ccd cl outer) (call (.ref 350) [.ref M, .int i ti, .int x tx, .int n tn]) Q E s := by
  have Pk : Picks [(M, oM), (dM, oD), (R, oR)] led rest := .cons Pk1 (.cons Pk2 (.cons Pk3 .nil))
  have N1 := Pk.news N
  have A1 := Pk.apart
  clear N Pk Pk1 Pk2 Pk3
  obtain ⟨q0, q1, q2, q3, q4, q5, q6, q7, q8, u0, u1, u2, u3, u4, u5, u6, u7, u8, mk, fl, ta, to, ts, rfl⟩ := hM2
  subst hM1
  simp only [List.cons_append, List.nil_append, Apart, AllNe, and_true, true_and] at N1 A1
  obtain ⟨⟨e1, e2⟩, r1, e3, r2, r3⟩ := A1
  refine wpAny_call ?_
  k_dflt cell_enter
  k_steps
  exact hret _ _ _ (by assumption) (by ktr_rel) (by assumption)
set_option maxHeartbeats 8000000 in
theorem put3_C {w : World} {mean : ExcName → Option Value} {mg mb : Str → Option Value}
    {dp un : Nat} {gd : Option (List Code)} {cn : Str} {cs : Scope} {a : Addr} {ccd : Value} {cl : List (Str × Addr)} {outer : List Env} {A₀ : Around} {base h₀ : Heap} {L : Addr} {m : Str → Option Value} {s : Shared} {Q E : Value → Shared → Prop}
    {M dM R RW pl : Addr} {oM oD oR : Obj} {pc st : Int} {ov : Bool} {rs : List Int} {i x : Int} {ti tx : Tok} {led l1 l2 rest : List (Addr × Obj)}
    (B : Below A₀ base outer h₀) (F : Fr h₀ L s.heap m) (X : (hd.heap_1 w.params).In h₀)
    (N : News h₀ L s.heap led) (Pk1 : Pick M oM led l1) (Pk2 : Pick dM oD l1 l2) (Pk3 : Pick R oR l2 rest) 
    (T : Top qv Lo mean mg mb h₀) (hk : cs.kind = .function) (hM1 : oM = instObj 445 dM) (hM2 : MachD RW R pl pc st ov oD) (hR : RegsAre rs oR) (h0 : 0 ≤ i) (h1 : i < 16) 
    (hdp : dp + 10 < recursionLimit) (hun : un + 500 < cLine)
    (hret : ∀ oR' h' tk', Fr h₀ L h' m → News h₀ L h' ((M, oM) :: (dM, oD) :: (R, oR') :: rest) → RegsAre (rs.set i.toNat (low x 64)) oR' → Q .none { s with heap := h', toks := tk' }) :
    wpAny (model Challenge.rw_ok0167_01.prog w) (ktrTop dp un gd cn cs L a ccd cl outer) (call (.ref 350) [.ref M, .int i ti, .int x tx]) Q E s := by
  have Pk : Picks [(M, oM), (dM, oD), (R, oR)] led rest := .cons Pk1 (.cons Pk2 (.cons Pk3 .nil))
  have N1 := Pk.news N
  have A1 := Pk.apart
  clear N Pk Pk1 Pk2 Pk3
  obtain ⟨q0, q1, q2, q3, q4, q5, q6, q7, q8, u0, u1, u2, u3, u4, u5, u6, u7, u8, mk, fl, ta, to, ts, rfl⟩ := hM2
  subst hM1
  simp only [List.cons_append, List.nil_append, Apart, AllNe, and_true, true_and] at N1 A1
  obtain ⟨⟨e1, e2⟩, r1, e3, r2, r3⟩ := A1
  refine wpAny_call ?_
  k_dflt cell_enter
  k_steps
  exact hret _ _ _ (by assumption) (by ktr_rel) (by assumption)
set_option maxHeartbeats 8000000 in
theorem take_C {w : World} {mean : ExcName → Option Value} {mg mb : Str → Option Value}
    {dp un : Nat} {gd : Option (List Code)} {cn : Str} {cs : Scope} {a : Addr} {ccd : Value} {cl : List (Str × Addr)} {outer : List Env} {A₀ : Around} {base h₀ : Heap} {L : Addr} {m : Str → Option Value} {s : Shared} {Q E : Value → Shared → Prop}
    {M dM R RW pl : Addr} {oM oD oR : Obj} {pc st : Int} {ov : Bool} {rs : List Int} {i n : Int} {ti tn : Tok} {led l1 l2 rest : List (Addr × Obj)}
    (B : Below A₀ base outer h₀) (F : Fr h₀ L s.heap m) (X : (hd.heap_1 w.params).In h₀)
    (N : News h₀ L s.heap led) (Pk1 : Pick M oM led l1) (Pk2 : Pick dM oD l1 l2) (Pk3 : Pick R oR l2 rest) 
    (T : Top qv Lo mean mg mb h₀) (hk : cs.kind = .function) (hM1 : oM = instObj 445 dM) (hM2 : MachD RW R pl pc st ov oD) (hR : RegsAre rs oR) (h0 : 0 ≤ i) (h1 : i < 16) (hn : n = 32 ∨ n = 64) 
    (hdp : dp + 10 < recursionLimit) (hun : un + 500 < cLine)
    (hret : ∀ t' h' tk', Fr h₀ L h' m → News h₀ L h' ((M, oM) :: (dM, oD) :: (R, oR) :: rest) → Q (.int (low (rs.getD i.toNat 0) n) t') { s with heap := h', toks := tk' }) :
    wpAny (model Challenge.rw_ok0167_01.prog w) (ktrTop dp un gd cn cs L a ccd cl outer) (call (.ref 358) [.ref M, .int i ti, .int n tn]) Q E s := by
  have Pk : Picks [(M, oM), (dM, oD), (R, oR)] led rest := .cons Pk1 (.cons Pk2 (.cons Pk3 .nil))
  have N1 := Pk.news N
  have A1 := Pk.apart
  clear N Pk Pk1 Pk2 Pk3
  obtain ⟨q0, q1, q2, q3, q4, q5, q6, q7, q8, u0, u1, u2, u3, u4, u5, u6, u7, u8, mk, fl, ta, to, ts, rfl⟩ := hM2
  subst hM1
  simp only [List.cons_append, List.nil_append, Apart, AllNe, and_true, true_and] at N1 A1
  obtain ⟨⟨e1, e2⟩, r1, e3, r2, r3⟩ := A1
  refine wpAny_call ?_
  k_dflt cell_enter
  k_steps
  exact hret _ _ _ (by assumption) (by ktr_rel)
end
-- De
theorem zrDe : True := by first | (row_walk; done) | trivial
/-- the names that a deed does not know -/
abbrev Names (l : List String) (nm : Str) : Prop := ∀ y ∈ l.map Str.ofString, nm ≠ y
section
theorem zz24 : True := by
  k_with_none
  k_with "k_all" => ((intro pA hA; refine neN (Nat.ne_of_lt ?_); refine (by assumption : ∀ p ∈ _, p.1 < _) pA ?_; (repeat (first | exact hA | apply List.Mem.tail)); done))
  k_with "k_all" => (with_reducible assumption)
  k_with "k_upd" => ((first | exact Picks.nil | (refine' Picks.cons ?kuc ?kud; (case kuc => k_upd); (case kud => k_upd)) | (refine' Pick.head ?kua; (case kua => k_all)) | (refine' Pick.tail ?kua ?kub; (case kua => k_ne); (case kub => k_upd)) | (refine' Upd.head ?kua; (case kua => k_all)) | (refine' Upd.tail ?kua ?kub; (case kua => k_ne); (case kub => k_upd))))
  k_with "ktr_rel" => ((refine cb_drop (by assumption) ?_; (repeat' (refine fa_cons (by k_mem) ?_)); first | exact List.forall_mem_nil _ | (intro pD hD; repeat (first | exact hD | apply List.Mem.tail))))
  k_with "compareOp NotEq ref ref" => (k_here; k_dflt (refine' ne_K ?k1 ?k2 ?k3 ?k4 ?k5 ?k6 ?_; (case k1 => k_asm); (case k2 => k_mem); (case k3 => k_mem); (case k4 => l_intsC); (case k5 => l_intsC); (case k6 => ktr_units); k_whole))
  k_with "binaryOp FloorDiv int int" => (k_here; (with_reducible refine floordiv_int ?ke ?_ (Or.inl (noPy ?kp ?kq))); (case ke => first | omega | (split <;> omega)); (case kp => first | omega | (split <;> omega)); (case kq => first | omega | (split <;> omega)))
  k_with "call builtin:list.pop" => (k_here; k_dflt (refine' pop0_K ?k1 ?k2 ?k3 ?k4 ?_; (case k1 => k_asm); (case k2 => k_asm); (case k3 => k_upd); (case k4 => omega); k_whole); intro h' F' N')
  k_with "binaryOp Pow int int" => (k_here; first | (with_reducible refine powL_K 18446744073709551616 ?kb1 ?kb2 ?kb3 ?kb4 ?_; (case kb4 => decide +kernel); (case kb1 => decide); (case kb2 => decide); (case kb3 => decide)) | (with_reducible refine powL_K 9223372036854775808 ?kb1 ?kb2 ?kb3 ?kb4 ?_; (case kb4 => decide +kernel); (case kb1 => decide); (case kb2 => decide); (case kb3 => decide)) | (with_reducible refine powL_K 4294967296 ?kb1 ?kb2 ?kb3 ?kb4 ?_; (case kb4 => decide +kernel); (case kb1 => decide); (case kb2 => decide); (case kb3 => decide)) | (with_reducible refine powL_K 2147483648 ?kb1 ?kb2 ?kb3 ?kb4 ?_; (case kb4 => decide +kernel); (case kb1 => decide); (case kb2 => decide); (case kb3 => decide)) | (with_reducible refine powL_K 340282366920938463463374607431768211456 ?kb1 ?kb2 ?kb3 ?kb4 ?_; (case kb4 => decide +kernel); (case kb1 => decide); (case kb2 => decide); (case kb3 => decide)) | (with_reducible refine powL_K 170141183460469231731687303715884105728 ?kb1 ?kb2 ?kb3 ?kb4 ?_; (case kb4 => decide +kernel); (case kb1 => decide); (case kb2 => decide); (case kb3 => decide)))
  k_with "cell_enter" => ((refine' code_def ?k1 ?k2 ?k3 ?k4 ?k5 ?kA ?kF ?kK ?k6 ?k7 ?k8 ?k9 ?kB ?_ ?c2 ?c3 ?c4 ?c5; (case kA => exact rfl); (case kF => exact rfl); (case kK => first | assumption | exact rfl); (case k1 => k_asm); (case k2 => k_asm); (case k3 => k_asm); (case k4 => k_asm); (case k5 => k_asm); (case k6 => k_is); (case k7 => k_is); (case k8 => ktr_room); (case k9 => first | exact BindsTo.of_eq rfl | exact binds_K (by k_in) rfl (by k_is) rfl rfl rfl); (case c5 => decide); (case kB => exact locs rfl); (case c2 => exact rfl); (case c3 => exact rfl); (case c4 => exact rfl); k_whole; intro g' L' h' FG' F' N' B' X' T'; (try dsimp only); (try k_lift B'); (try k_fold)))
  k_with "ktr_units" => (((try simp only [units_in1, units_deeper, units_under_make, Around.mark_units]); (try dsimp only [ktrTop]); omega))
  k_with "ktr_room" => (((try simp only [depth_mark, depth_under_make, depth_under_kw, depth_in1, depth_deeper]); (try dsimp only [ktrTop]); omega))
  k_with "execs cons" => (k_here; (first | ((with_reducible refine gentok fun tk' => ?_); (with_reducible refine wpAny_execs_cons ?_)) | (with_reducible refine wpAny_execs_cons ?_)); (try dsimp only))
  k_with "execs nil" => (k_here; (refine wpAny_execs_nil ?_))
  k_with "compareOp Eq str str" => (k_here; k_dflt (refine' eq_no ?ke ?_; (case ke => with_reducible assumption)))
  k_with "compareOp In str ref" => (k_here; (with_reducible show wpAny _ _ (compareOp CmpOp.In (Value.str _ _) (Value.ref _)) _ _ _); (with_unfolding_all refine' tin_no ?k1 ?k2 ?k3 ?_; (case k1 => exact News.isTup (by k_asm) (by news_mem)); (case k2 => kde_strs); (case k3 => assumption); k_whole))
  k_with "compareOp NotIn str ref" => (k_here; (with_reducible show wpAny _ _ (compareOp CmpOp.NotIn (Value.str _ _) (Value.ref _)) _ _ _); (with_unfolding_all refine' tnot_no ?k1 ?k2 ?k3 ?_; (case k1 => exact News.isTup (by k_asm) (by news_mem)); (case k2 => kde_strs); (case k3 => assumption); k_whole))
  k_with "subscriptTail Name Slice str ref" => (k_here; (with_reducible show wpAny _ _ (subscriptTail _ (Expr.Slice (some _) none none _) _ _) _ _ _); (with_reducible rename Fr _ _ _ _ => F'); (with_reducible rename News _ _ _ _ => N'); (refine slice_strN_sn (hsz := ?hsz) (s := ⟨_, _, _, _, _⟩) F' N' ?_); (case hsz => (rw [sizeLine_eq]; omega)); intro h' t' tk' F' N')
  k_with "subscriptTail Name Slice str ref" => (k_here; (with_reducible show wpAny _ _ (subscriptTail _ (Expr.Slice none (some _) none _) _ _) _ _ _); (with_reducible rename Fr _ _ _ _ => F'); (with_reducible rename News _ _ _ _ => N'); (refine slice_strN_ns (hsz := ?hsz) (s := ⟨_, _, _, _, _⟩) F' N' ?_); (case hsz => (rw [sizeLine_eq]; omega)); intro h' t' tk' F' N')
  k_with "compareOp NotEq str str" => (k_here; k_dflt (refine' ne_yes ?ke ?_; (case ke => with_reducible assumption)))
  trivial
set_option maxHeartbeats 8000000 in
theorem moveF_C {w : World} {mean : ExcName → Option Value} {mg mb : Str → Option Value}
    {dp un : Nat} {gd : Option (List Code)} {cn : Str} {cs : Scope} {a : Addr} {ccd : Value} {cl : List (Str × Addr)} {outer : List Env} {A₀ : Around} {base h₀ : Heap} {L : Addr} {m : Str → Option Value} {s : Shared} {RR : Result → Shared → Prop}
    {M p : Addr} {nm : Str} {tn : Tok} {led : List (Addr × Obj)}
    (B : Below A₀ base outer h₀) (F : Fr h₀ L s.heap m) (X : (hd.heap_1 w.params).In h₀)
    (N : News h₀ L s.heap led) 
    (T : Top qv Lo mean mg mb h₀) (hk : cs.kind = .function)  (hnm : ∀ y ∈ [Str.ofString "mov", Str.ofString "mov_imm", Str.ofString "movabs", Str.ofString "movzx", Str.ofString "movsx", Str.ofString "bswap", Str.ofString "ror16"], nm ≠ y)
    (hdp : dp + 5 < recursionLimit) (hun : un + 300 < cLine)
    (hret : ∀ h' tk', Fr h₀ L h' m → News h₀ L h' led → RR (.ok (.ret (.bool false))) { s with heap := h', toks := tk' }) :
    codeAny (model Challenge.rw_ok0167_01.prog w) (ktrTop dp un gd cn cs L a ccd cl outer) (.call (.ref 379) ⟨[.ref M, .str nm tn, .ref p], []⟩) RR s := by
  have n0 : nm ≠ Str.ofString "mov" := hnm _ (.head _)
  have n1 : nm ≠ Str.ofString "mov_imm" := hnm _ (.tail _ (.head _))
  have n2 : nm ≠ Str.ofString "movabs" := hnm _ (.tail _ (.tail _ (.head _)))
  have n3 : nm ≠ Str.ofString "movzx" := hnm _ (.tail _ (.tail _ (.tail _ (.head _))))
  have n4 : nm ≠ Str.ofString "movsx" := hnm _ (.tail _ (.tail _ (.tail _ (.tail _ (.head _)))))
  have n5 : nm ≠ Str.ofString "bswap" := hnm _ (.tail _ (.tail _ (.tail _ (.tail _ (.tail _ (.head _))))))
  have n6 : nm ≠ Str.ofString "ror16" := hnm _ (.tail _ (.tail _ (.tail _ (.tail _ (.tail _ (.tail _ (.head _)))))))
  k_dflt cell_enter
  k_steps
  exact hret _ _ (by assumption) (by ktr_rel)
end

-- Dt
theorem zrDt : True := by first | (row_walk; done) | trivial
section
set_option maxHeartbeats 8000000 in
theorem twoF_C {w : World} {mean : ExcName → Option Value} {mg mb : Str → Option Value}
    {dp un : Nat} {gd : Option (List Code)} {cn : Str} {cs : Scope} {a : Addr} {ccd : Value} {cl : List (Str × Addr)} {outer : List Env} {A₀ : Around} {base h₀ : Heap} {L : Addr} {m : Str → Option Value} {s : Shared} {RR : Result → Shared → Prop}
    {M p : Addr} {nm : Str} {tn : Tok} {led : List (Addr × Obj)}
    (B : Below A₀ base outer h₀) (F : Fr h₀ L s.heap m) (X : (hd.heap_1 w.params).In h₀)
    (N : News h₀ L s.heap led) 
    (T : Top qv Lo mean mg mb h₀) (hk : cs.kind = .function)  (hl : nm.length ≤ 30) (hno : ∀ y ∈ [Str.ofString "add", Str.ofString "sub", Str.ofString "and", Str.ofString "or", Str.ofString "xor", Str.ofString "cmp", Str.ofString "test"], nm ≠ y) (h4 : Txt.slice nm (some (-4)) none ≠ Str.ofString "_imm")
    (hdp : dp + 5 < recursionLimit) (hun : un + 300 < cLine)
    (hret : ∀ h' tk', Fr h₀ L h' m → News h₀ L h' led → RR (.ok (.ret (.bool false))) { s with heap := h', toks := tk' }) :
    codeAny (model Challenge.rw_ok0167_01.prog w) (ktrTop dp un gd cn cs L a ccd cl outer) (.call (.ref 386) ⟨[.ref M, .str nm tn, .ref p], []⟩) RR s := by
  k_dflt cell_enter
  k_steps
  exact hret _ _ (by assumption) (by ktr_rel)
set_option maxHeartbeats 8000000 in
theorem shiftF_C {w : World} {mean : ExcName → Option Value} {mg mb : Str → Option Value}
    {dp un : Nat} {gd : Option (List Code)} {cn : Str} {cs : Scope} {a : Addr} {ccd : Value} {cl : List (Str × Addr)} {outer : List Env} {A₀ : Around} {base h₀ : Heap} {L : Addr} {m : Str → Option Value} {s : Shared} {RR : Result → Shared → Prop}
    {M p : Addr} {nm : Str} {tn : Tok} {led : List (Addr × Obj)}
    (B : Below A₀ base outer h₀) (F : Fr h₀ L s.heap m) (X : (hd.heap_1 w.params).In h₀)
    (N : News h₀ L s.heap led) 
    (T : Top qv Lo mean mg mb h₀) (hk : cs.kind = .function)  (hl : nm.length ≤ 30) (hn : nm ≠ Str.ofString "neg") (hi : ∀ y ∈ [Str.ofString "imul", Str.ofString "imul_imm"], nm ≠ y) (hs : ∀ y ∈ [Str.ofString "shl", Str.ofString "shr", Str.ofString "sar"], Txt.slice nm none (some 3) ≠ y)
    (hdp : dp + 5 < recursionLimit) (hun : un + 300 < cLine)
    (hret : ∀ h' tk', Fr h₀ L h' m → News h₀ L h' led → RR (.ok (.ret (.bool false))) { s with heap := h', toks := tk' }) :
    codeAny (model Challenge.rw_ok0167_01.prog w) (ktrTop dp un gd cn cs L a ccd cl outer) (.call (.ref 393) ⟨[.ref M, .str nm tn, .ref p], []⟩) RR s := by
  k_dflt cell_enter
  k_steps
  exact hret _ _ (by assumption) (by ktr_rel)
end

-- Dq
theorem zrDq : True := by first | (row_walk; done) | trivial
section
theorem zz25 : True := by
  k_with "call ref" => (k_here; (with_reducible show wpAny _ _ (call (Value.ref 461) [Value.ref _, Value.int _ _]) _ _ _); k_dflt (refine' draw_C ?kB ?kF ?kX ?kN ?kPk ?kT ?kk ?kP ?km ?km2 ?kd ?ku ?_; (case kP => assumption); (case kB => k_asm); (case kF => k_asm); (case kX => k_asm); (case kN => k_asm); (case kPk => k_upd); (case kT => k_asm); (case kk => first | exact rfl | assumption); (case km => first | decide | omega); (case km2 => first | decide | omega); (case kd => ktr_room); (case ku => ktr_units)); intro v' t' oP' oL' h' tk' F' N' hP' hlo' hhi'; (try dsimp only); (try k_sweep); (try k_fold))
  k_with "call ref" => (k_here; (with_reducible show wpAny _ _ (call (Value.ref 468) [Value.ref _, Value.ref _]) _ _ _); k_dflt (refine' pick_C ?kB ?kF ?kX ?kN ?kPk ?kT ?kk ?kP ?kI ?km ?km2 ?kd ?ku ?_; (case kP => assumption); (case kB => k_asm); (case kF => k_asm); (case kX => k_asm); (case kN => k_asm); (case kPk => k_upd); (case kT => k_asm); (case kk => first | exact rfl | assumption); (case kI => first | assumption | l_intsW); (case km => first | decide | omega); (case km2 => first | decide | omega); (case kd => ktr_room); (case ku => ktr_units)); intro v' t' oP' oL' h' tk' F' N' hP' hM'; (try dsimp only); (try k_sweep); (try k_fold))
  k_with "call ref" => (k_here; (with_reducible show wpAny _ _ (call (Value.ref 81) [Value.int _ _, Value.int _ _]) _ _ _); k_dflt (refine' wrap_C ?kB ?kF ?kX ?kN ?kT ?kk ?kn ?kd ?ku ?_; (case kB => k_asm); (case kF => k_asm); (case kX => k_asm); (case kN => k_asm); (case kT => k_asm); (case kk => first | exact rfl | assumption); (case kn => first | omega | decide); (case kd => ktr_room); (case ku => ktr_units)); intro t' h' tk' F' N'; (try dsimp only); (try k_sweep); (try k_fold))
  k_with "call ref" => (k_here; (with_reducible show wpAny _ _ (call (Value.ref 251) [Value.int _ _, Value.int _ _]) _ _ _); k_dflt (refine' signbit_C ?kB ?kF ?kX ?kN ?kT ?kk ?kn ?kx ?ky ?kd ?ku ?_; (case kB => k_asm); (case kF => k_asm); (case kX => k_asm); (case kN => k_asm); (case kT => k_asm); (case kk => first | exact rfl | assumption); (case kn => first | omega | decide); (case kx => first | exact low_nn _ _ | omega); (case ky => first | exact low_lt _ _ | omega); (case kd => ktr_room); (case ku => ktr_units)); intro h' tk' F' N'; (try dsimp only); (try k_sweep); (try k_fold))
  k_with "call ref" => (k_here; (with_reducible show wpAny _ _ (call (Value.ref 350) [Value.ref _, Value.int _ _, Value.int _ _, Value.int _ _]) _ _ _); k_dflt (refine' put4_C ?kB ?kF ?kX ?kN ?k1 ?k2 ?k3 ?kT ?kk ?kM1 ?kM2 ?kR ?ki0 ?ki1 ?kn ?kd ?ku ?_; (case kB => k_asm); (case kF => k_asm); (case kX => k_asm); (case kN => k_asm); (case k1 => k_upd); (case kM1 => first | exact rfl | assumption); (case k2 => k_upd); (case kM2 => first | assumption | exact ⟨_, _, _, _, _, _, _, _, _, _, _, _, _, _, _, _, _, _, _, _, _, _, _, rfl⟩); (case k3 => k_upd); (case kR => assumption); (case kT => k_asm); (case kk => first | exact rfl | assumption); (case ki0 => first | decide | omega); (case ki1 => first | decide | omega); (case kn => first | assumption | omega | decide); (case kd => ktr_room); (case ku => ktr_units)); intro oR' h' tk' F' N' hR'; (try dsimp only); (try k_sweep); (try k_fold))
  k_with "call ref" => (k_here; (with_reducible show wpAny _ _ (call (Value.ref 350) [Value.ref _, Value.int _ _, Value.int _ _]) _ _ _); k_dflt (refine' put3_C ?kB ?kF ?kX ?kN ?k1 ?k2 ?k3 ?kT ?kk ?kM1 ?kM2 ?kR ?ki0 ?ki1 ?kd ?ku ?_; (case kB => k_asm); (case kF => k_asm); (case kX => k_asm); (case kN => k_asm); (case k1 => k_upd); (case kM1 => first | exact rfl | assumption); (case k2 => k_upd); (case kM2 => first | assumption | exact ⟨_, _, _, _, _, _, _, _, _, _, _, _, _, _, _, _, _, _, _, _, _, _, _, rfl⟩); (case k3 => k_upd); (case kR => assumption); (case kT => k_asm); (case kk => first | exact rfl | assumption); (case ki0 => first | decide | omega); (case ki1 => first | decide | omega); (case kd => ktr_room); (case ku => ktr_units)); intro oR' h' tk' F' N' hR'; (try dsimp only); (try k_sweep); (try k_fold))
  k_with "call ref" => (k_here; (with_reducible show wpAny _ _ (call (Value.ref 358) [Value.ref _, Value.int _ _, Value.int _ _]) _ _ _); k_dflt (refine' take_C ?kB ?kF ?kX ?kN ?k1 ?k2 ?k3 ?kT ?kk ?kM1 ?kM2 ?kR ?ki0 ?ki1 ?kn ?kd ?ku ?_; (case kB => k_asm); (case kF => k_asm); (case kX => k_asm); (case kN => k_asm); (case k1 => k_upd); (case kM1 => first | exact rfl | assumption); (case k2 => k_upd); (case kM2 => first | assumption | exact ⟨_, _, _, _, _, _, _, _, _, _, _, _, _, _, _, _, _, _, _, _, _, _, _, rfl⟩); (case k3 => k_upd); (case kR => assumption); (case kT => k_asm); (case kk => first | exact rfl | assumption); (case ki0 => first | decide | omega); (case ki1 => first | decide | omega); (case kn => first | assumption | omega | decide); (case kd => ktr_room); (case ku => ktr_units)); intro t' h' tk' F' N'; (try dsimp only); (try k_sweep); (try k_fold))
  trivial
set_option maxHeartbeats 8000000 in
theorem divCqo_C {w : World} {mean : ExcName → Option Value} {mg mb : Str → Option Value}
    {dp un : Nat} {gd : Option (List Code)} {cn : Str} {cs : Scope} {a : Addr} {ccd : Value} {cl : List (Str × Addr)} {outer : List Env} {A₀ : Around} {base h₀ : Heap} {L : Addr} {m : Str → Option Value} {s : Shared} {RR : Result → Shared → Prop}
    {M dM R RW pl : Addr} {oM oD oR : Obj} {pc st : Int} {ov : Bool} {rs : List Int} {p : Addr} {n : Int} {tn t1 : Tok} {led l1 l2 rest : List (Addr × Obj)}
    (B : Below A₀ base outer h₀) (F : Fr h₀ L s.heap m) (X : (hd.heap_1 w.params).In h₀)
    (N : News h₀ L s.heap led) (Pk1 : Pick M oM led l1) (Pk2 : Pick dM oD l1 l2) (Pk3 : Pick R oR l2 rest) 
    (T : Top qv Lo mean mg mb h₀) (hk : cs.kind = .function) (hp : (p, tupOf [.int n t1]) ∈ rest) (hM1 : oM = instObj 445 dM) (hM2 : MachD RW R pl pc st ov oD) (hR : RegsAre rs oR) (hn : n = 32 ∨ n = 64) 
    (hdp : dp + 15 < recursionLimit) (hun : un + 900 < cLine)
    (hret : ∀ oR' h' tk', Fr h₀ L h' m → News h₀ L h' ((M, oM) :: (dM, oD) :: (R, oR') :: rest) → RegsAre (rs.set 2 (low (if 2 ^ (n - 1).toNat ≤ low (rs.getD 0 0) n then -1 else 0) n)) oR' → RR (.ok (.ret (.bool true))) { s with heap := h', toks := tk' }) :
    codeAny (model Challenge.rw_ok0167_01.prog w) (ktrTop dp un gd cn cs L a ccd cl outer) (.call (.ref 400) ⟨[.ref M, .str (Str.ofString "cqo") tn, .ref p], []⟩) RR s := by
  have Pk : Picks [(M, oM), (dM, oD), (R, oR)] led rest := .cons Pk1 (.cons Pk2 (.cons Pk3 .nil))
  have N1 := Pk.news N
  have A1 := Pk.apart
  clear N Pk Pk1 Pk2 Pk3
  obtain ⟨q0, q1, q2, q3, q4, q5, q6, q7, q8, u0, u1, u2, u3, u4, u5, u6, u7, u8, mk, fl, ta, to, ts, rfl⟩ := hM2
  subst hM1
  simp only [List.cons_append, List.nil_append, Apart, AllNe, and_true, true_and] at N1 A1
  obtain ⟨⟨e1, e2⟩, r1, e3, r2, r3⟩ := A1
  have ep1 : @Ne Nat p M := r1 _ hp
  have ep2 : @Ne Nat p dM := r2 _ hp
  have ep3 : @Ne Nat p R := r3 _ hp
  replace N1 := newsIn (.tail _ (.tail _ (.tail _ hp))) N1
  k_dflt cell_enter
  k_steps
  · exact hret _ _ _ (by assumption) (by ktr_rel) (by rw [if_pos (by assumption)]; assumption)
  · exact hret _ _ _ (by assumption) (by ktr_rel) (by rw [if_neg (by assumption)]; assumption)
end

-- Dx
theorem zrDx : True := by first | (row_walk; done) | trivial
theorem zz26 : True := by
  k_with "ktr_enter" => ((refine' enterX ?k1 ?k2 ?k3 ?kE ?k4 ?k5 ?kXB ?kEB ?kTB ?kA ?kF ?kK ?k6 ?k7 ?k8 ?k9 ?kB ?_ ?c2 ?c3 ?c4 ?c5; (case kA => exact rfl); (case kF => exact rfl); (case kK => assumption); (case k1 => k_asm); (case k2 => k_asm); (case k3 => k_asm); (case kE => k_asm); (case k4 => k_asm); (case k5 => k_asm); (case kXB => k_asm); (case kEB => k_asm); (case kTB => k_asm); (case k6 => k_is); (case k7 => k_is); (case k8 => ktr_room); (case k9 => first | exact BindsTo.of_eq rfl | exact binds_K (by k_in) rfl (by k_is) rfl rfl rfl); (case c5 => decide); (case kB => exact locs rfl); (case c2 => exact rfl); (case c3 => exact rfl); (case c4 => exact rfl); k_whole; intro g' L' h' FG' F' N' B' X' T' E' back'; (try dsimp only); (try k_fold)))
  k_with "leaving ref" => (k_here; (refine' leave_led ?kB ?kF ?kk ?kY ?_; (case kB => k_asm); (case kF => k_asm); (case kY => first | exact Or.inl (by assumption) | exact Or.inr (by assumption)); (case kk => exact rfl); k_whole); intro h' g' T' F' Y' B')
  k_with "exec Raise some none" => (k_here; (refine' raise_K ?kh ?_; (case kh => with_unfolding_all rfl)))
  k_with "call ref" => (k_here; (with_reducible show wpAny _ _ (call (Value.ref 59) [Value.str _ _]) _ _ _); k_dflt (refine' fault_C ?kB ?kF ?kX ?kN ?kT ?kA ?kf ?kK ?kd ?_; (case kA => exact rfl); (case kf => exact rfl); (case kK => first | assumption | exact rfl); (case kB => k_asm); (case kF => k_asm); (case kX => k_asm); (case kN => k_asm); (case kT => k_asm); (case kd => ktr_room)); intro e' dx' t' oe' od' h' tk' F' N' n1' n2' n3' hE'; obtain ⟨⟨sl', hR'⟩, hW'⟩ := hE'; subst hR'; (replace hW' : WhatIs _ _ := (by obtain ⟨q1, q2, t1, t2, t3, n, e⟩ := hW'; exact ⟨q1, q2, t1, t2, t3, n, e⟩)); (have Y' := flyNew_of N' n2' n3'); (try dsimp only); (try k_sweep); (try k_fold))
  k_with "Exists" => (refine ⟨_, _, _, _, rfl, (by k_in), News.get (by k_asm) (by k_mem), ?_⟩)
  k_with "call ref" => (k_here; (with_reducible show wpAny _ _ (call (Value.ref 314) [Value.int _ _, Value.int _ _, Value.int _ _, Value.int _ _]) _ _ _); k_dflt (refine' divided_C ?kB ?kF ?kX ?kE ?kN  ?kT ?kXB ?kEB ?kTB ?kk ?kn ?h1 ?h2 ?h3 ?h4 ?h5 ?h6 ?kd ?ku (fun x' u1' u2' h0' h' tk' T' F' B' X' TT' E' N' l1 c1' c2' => ?_) (fun e' dx' od' h0' h' tk' T' F' B' X' TT' E' Y' W' nd' c1' => ?_); (case kB => k_asm); (case kF => k_asm); (case kX => k_asm); (case kE => k_asm); (case kN => k_asm); (case kT => k_asm); (case kXB => k_asm); (case kEB => k_asm); (case kTB => k_asm); (case kk => first | exact rfl | assumption); (case kn => first | assumption | omega); (case h1 => first | exact low_nn _ _ | omega); (case h2 => first | exact low64 (by assumption) _ | omega); (case h3 => first | exact low_nn _ _ | omega); (case h4 => first | exact low64 (by assumption) _ | omega); (case h5 => first | exact low_nn _ _ | omega); (case h6 => first | exact low64 (by assumption) _ | omega); (case kd => ktr_room); (case ku => ktr_units)); (all_goals ((try k_lt l1); (try dsimp only); (try k_sweep); (try k_fold))); rotate_left)
  k_with "call ref" => (k_here; (with_reducible show wpAny _ _ (call (Value.ref 321) [Value.int _ _, Value.int _ _, Value.int _ _, Value.int _ _]) _ _ _); k_dflt (refine' sdivided_C ?kB ?kF ?kX ?kE ?kN  ?kT ?kXB ?kEB ?kTB ?kk ?kn ?h1 ?h2 ?h3 ?h4 ?h5 ?h6 ?kd ?ku (fun x' u1' u2' h0' h' tk' T' F' B' X' TT' E' N' l1 c1' c2' => ?_) (fun e' dx' od' h0' h' tk' T' F' B' X' TT' E' Y' W' nd' c1' => ?_); (case kB => k_asm); (case kF => k_asm); (case kX => k_asm); (case kE => k_asm); (case kN => k_asm); (case kT => k_asm); (case kXB => k_asm); (case kEB => k_asm); (case kTB => k_asm); (case kk => first | exact rfl | assumption); (case kn => first | assumption | omega); (case h1 => first | exact low_nn _ _ | omega); (case h2 => first | exact low64 (by assumption) _ | omega); (case h3 => first | exact low_nn _ _ | omega); (case h4 => first | exact low64 (by assumption) _ | omega); (case h5 => first | exact low_nn _ _ | omega); (case h6 => first | exact low64 (by assumption) _ | omega); (case kd => ktr_room); (case ku => ktr_units)); (all_goals ((try k_lt l1); (try dsimp only); (try k_sweep); (try k_fold))); rotate_left)
  k_with "call ref" => (k_here; (with_reducible show wpAny _ _ (call (Value.ref 244) _) _ _ _); k_dflt (refine' uf_C ?kB ?kF ?kX ?kN ?kT ?kk ?kd ?ku ?_; (case kB => k_asm); (case kF => k_asm); (case kX => k_asm); (case kN => k_asm); (case kT => k_asm); (case kk => first | exact rfl | assumption); (case kd => ktr_room); (case ku => ktr_units)); intro f' h' tk' F' N'; (try dsimp only); (try k_sweep); (try k_fold))
  trivial
theorem nd_sub {l l' : List (Addr × Obj)} {d : Addr} (h : ∀ p ∈ l, p.1 ≠ d) (s : ∀ p ∈ l', p ∈ l) : ∀ p ∈ l', p.1 ≠ d := fun p hp => h p (s p hp)
/-- the number over the divisor: does the machine give a quotient? which, which rest? -/
def dvWh (sg : Bool) (hi lo n : Int) : Int := if sg then sgn (hi * 2 ^ n.toNat + lo) (2 * n) else hi * 2 ^ n.toNat + lo
def dvOk (sg : Bool) (hi lo ot n : Int) : Prop := if sg then sgn ot n ≠ 0 ∧ sgn (sq (dvWh sg hi lo n) (sgn ot n)) n = sq (dvWh sg hi lo n) (sgn ot n) else ot ≠ 0 ∧ (dvWh sg hi lo n).fdiv ot < 2 ^ n.toNat
def dvQ (sg : Bool) (hi lo ot n : Int) : Int := if sg then low (sq (dvWh sg hi lo n) (sgn ot n)) n else (dvWh sg hi lo n).fdiv ot
def dvR (sg : Bool) (hi lo ot n : Int) : Int := if sg then low (dvWh sg hi lo n - sq (dvWh sg hi lo n) (sgn ot n) * sgn ot n) n else (dvWh sg hi lo n).fmod ot
theorem dvQ_f {hi lo ot n : Int} : dvQ false hi lo ot n = (hi * 2 ^ n.toNat + lo).fdiv ot := rfl
theorem dvR_f {hi lo ot n : Int} : dvR false hi lo ot n = (hi * 2 ^ n.toNat + lo).fmod ot := rfl
theorem dvQ_t {hi lo ot n : Int} : dvQ true hi lo ot n = low (sq (sgn (hi * 2 ^ n.toNat + lo) (2 * n)) (sgn ot n)) n := rfl
theorem dvR_t {hi lo ot n : Int} : dvR true hi lo ot n = low (sgn (hi * 2 ^ n.toNat + lo) (2 * n) - sq (sgn (hi * 2 ^ n.toNat + lo) (2 * n)) (sgn ot n) * sgn ot n) n := rfl
theorem dvOk_f {hi lo ot n : Int} (h1 : ot ≠ 0) (h2 : (hi * 2 ^ n.toNat + lo).fdiv ot < 2 ^ n.toNat) : dvOk false hi lo ot n := ⟨h1, h2⟩
theorem dvOk_t {hi lo ot n : Int} (h1 : sgn ot n ≠ 0) (h2 : sgn (sq (sgn (hi * 2 ^ n.toNat + lo) (2 * n)) (sgn ot n)) n = sq (sgn (hi * 2 ^ n.toNat + lo) (2 * n)) (sgn ot n)) : dvOk true hi lo ot n := ⟨h1, h2⟩
theorem dvNo_f {hi lo ot n : Int} (h : ot = 0 ∨ 2 ^ n.toNat ≤ (hi * 2 ^ n.toNat + lo).fdiv ot) : ¬ dvOk false hi lo ot n := fun q => h.elim q.1 fun z => absurd q.2 (Int.not_lt.mpr z)
theorem dvNo_t {hi lo ot n : Int} (h : sgn ot n = 0 ∨ sgn (sq (sgn (hi * 2 ^ n.toNat + lo) (2 * n)) (sgn ot n)) n ≠ sq (sgn (hi * 2 ^ n.toNat + lo) (2 * n)) (sgn ot n)) : ¬ dvOk true hi lo ot n := fun q => h.elim q.1 fun z => z q.2
/-- two ways that meet again: a value with a property, the ledger as it stood -/
inductive JOf {α : Type} (V : α → Prop) (g : Heap) (L : Addr) (m : Str → Option Value) (led : List (Addr × Obj)) (s : Shared) : α → Shared → Prop
  | mk {v : α} {h' : Heap} {tk : Nat} (hV : V v) (F : Fr g L h' m) (N : News g L h' led) : JOf V g L m led s v { s with heap := h', toks := tk }
theorem join_of {α : Type} {M : Model} {A : Around} {t : Sem α} {Q : α → Shared → Prop} {E : Value → Shared → Prop} {s : Shared} {g : Heap} {L : Addr} {m : Str → Option Value} {led : List (Addr × Obj)} (V : α → Prop) (F : Fr g L s.heap m) (N : News g L s.heap led)
    (h : wpAny M A t (JOf V g L m led s) E s)
    (k : ∀ v h' tk, V v → Fr g L h' m → News g L h' led → Q v { s with heap := h', toks := tk }) : wpAny M A t Q E s :=
  wpAny_mono h (fun fl s' hj => by cases hj; subst_vars; apply k <;> assumption) fun _ _ x => x
def dvAt (sg : Bool) : Addr := if sg then 321 else 314
theorem keep_dv (P : Params) : ∀ sg : Bool, keepIn (hd.heap_1 P) (.ref (dvAt sg)) = true
  | false => rfl
  | true => rfl
theorem divAny_C {w : World} {mean : ExcName → Option Value} {mg mb : Str → Option Value}
    {dp un : Nat} {gd : Option (List Code)} {cn : Str} {cs : Scope} {a : Addr} {ccd : Value} {cl : List (Str × Addr)} {outer : List Env} {A₀ : Around} {base h₀ : Heap} {L : Addr} {m : Str → Option Value} {s : Shared} {Q E : Value → Shared → Prop}
    {sg : Bool} {hi lo ot n : Int} {t1 t2 t3 t4 : Tok} {led : List (Addr × Obj)}
    (B : Below A₀ base outer h₀) (F : Fr h₀ L s.heap m) (X : (hd.heap_1 w.params).In h₀) (XE : Ext w h₀)
    (N : News h₀ L s.heap led) 
    (T : Top qv Lo mean mg mb h₀) (XB : (hd.heap_1 w.params).In base) (EB : Ext w base) (TB : Top qv Lo mean mg mb base) (hk : cs.kind = .function) (hn : n = 32 ∨ n = 64) (h1 : 0 ≤ hi) (h2 : hi < 2 ^ 64) (h3 : 0 ≤ lo) (h4 : lo < 2 ^ 64) (h5 : 0 ≤ ot) (h6 : ot < 2 ^ 64)
    (hdp : dp + 30 ≤ 500) (hun : un + 500 ≤ 5000)
    (hret : ∀ x u1 u2 h₀' h' tk', KtsTurn (frs outer) h₀ h₀' → Fr h₀' L h' m → Below A₀ base outer h₀' → (hd.heap_1 w.params).In h₀' → Top qv Lo mean mg mb h₀' → Ext w h₀' → News h₀' L h' ((x, tupOf [.int (dvQ sg hi lo ot n) u1, .int (dvR sg hi lo ot n) u2]) :: led) → (∀ p ∈ led, p.1 < x) → dvOk sg hi lo ot n → Q (.ref x) { s with heap := h', toks := tk' })
    (hexc : ∀ e dx od h₀' h' tk', KtsTurn (frs outer) h₀ h₀' → Fr h₀' L h' m → Below A₀ base outer h₀' → (hd.heap_1 w.params).In h₀' → Top qv Lo mean mg mb h₀' → Ext w h₀' → FlyAt .none h₀' L h' ((dx, od) :: led) e dx → WhatIs (Str.ofString "divide error") od → (∀ p ∈ led, p.1 ≠ dx) → ¬ dvOk sg hi lo ot n → E (.ref e) { s with heap := h', toks := tk' }) :
    wpAny (model Challenge.rw_ok0167_01.prog w) (ktrTop dp un gd cn cs L a ccd cl outer) (call (.ref (dvAt sg)) [.int hi t1, .int lo t2, .int ot t3, .int n t4]) Q E s := by
  cases sg with
  | false => exact divided_C B F X XE N T XB EB TB hk hn h1 h2 h3 h4 h5 h6 hdp hun (fun x u1 u2 a b c d e f g i j k l o p => hret x u1 u2 a b c d e f g i j k l (dvOk_f o p)) (fun x y z a b c d e f g i j k l o p => hexc x y z a b c d e f g i j k l o (dvNo_f p))
  | true => exact sdivided_C B F X XE N T XB EB TB hk hn h1 h2 h3 h4 h5 h6 hdp hun (fun x u1 u2 a b c d e f g i j k l o p => hret x u1 u2 a b c d e f g i j k l (dvOk_t o p)) (fun x y z a b c d e f g i j k l o p => hexc x y z a b c d e f g i j k l o (dvNo_t p))
section
theorem zz27 : True := by
  k_with "callWith ref" => (k_here; (with_reducible show wpAny _ _ (callWith _ (Value.ref (dvAt _)) _ _ _) _ _ _); k_dflt (refine' callWith_K ?k1 ?k2 ?_; (case k1 => k_asm); (case k2 => exact keep_dv _ _); k_whole))
  k_with "call ref" => (k_here; (with_reducible show wpAny _ _ (call (Value.ref (dvAt _)) [Value.int _ _, Value.int _ _, Value.int _ _, Value.int _ _]) _ _ _); k_dflt (refine' divAny_C ?kB ?kF ?kX ?kE ?kN  ?kT ?kXB ?kEB ?kTB ?kk ?kn ?h1 ?h2 ?h3 ?h4 ?h5 ?h6 ?kd ?ku (fun x' u1' u2' h0' h' tk' T' F' B' X' TT' E' N' l1 c1' => ?_) (fun e' dx' od' h0' h' tk' T' F' B' X' TT' E' Y' W' nd' c1' => ?_); (case kB => k_asm); (case kF => k_asm); (case kX => k_asm); (case kE => k_asm); (case kN => k_asm); (case kT => k_asm); (case kXB => k_asm); (case kEB => k_asm); (case kTB => k_asm); (case kk => first | exact rfl | assumption); (case kn => first | assumption | omega); (case h1 => first | exact low_nn _ _ | omega); (case h2 => first | exact low64 (by assumption) _ | omega); (case h3 => first | exact low_nn _ _ | omega); (case h4 => first | exact low64 (by assumption) _ | omega); (case h5 => first | exact low_nn _ _ | omega); (case h6 => first | exact low64 (by assumption) _ | omega); (case kd => ktr_room); (case ku => ktr_units)); (all_goals ((try k_lt l1); (try dsimp only); (try k_sweep); (try k_fold))); rotate_left)
  trivial
set_option maxHeartbeats 8000000 in
theorem divAll_X {w : World} {mean : ExcName → Option Value} {mg mb : Str → Option Value}
    {dp un : Nat} {gd : Option (List Code)} {cn : Str} {cs : Scope} {a : Addr} {ccd : Value} {cl : List (Str × Addr)} {outer : List Env} {A₀ : Around} {base h₀ : Heap} {L : Addr} {m : Str → Option Value} {s : Shared} {RR : Result → Shared → Prop}
    {M dM R RW pl : Addr} {oM oD oR : Obj} {pc st : Int} {ov : Bool} {rs : List Int} {sg : Bool} {nm : Str} {p : Addr} {n i : Int} {tn t1 t2 : Tok} {led l1 l2 rest : List (Addr × Obj)}
    (B : Below A₀ base outer h₀) (F : Fr h₀ L s.heap m) (X : (hd.heap_1 w.params).In h₀) (XE : Ext w h₀)
    (N : News h₀ L s.heap led) (Pk1 : Pick M oM led l1) (Pk2 : Pick dM oD l1 l2) (Pk3 : Pick R oR l2 rest) 
    (T : Top qv Lo mean mg mb h₀) (XB : (hd.heap_1 w.params).In base) (EB : Ext w base) (TB : Top qv Lo mean mg mb base) (hk : cs.kind = .function) (hnm : nm = if sg then Str.ofString "idiv" else Str.ofString "div") (hp : (p, tupOf [.int n t1, .int i t2]) ∈ rest) (hM1 : oM = instObj 445 dM) (hM2 : MachD RW R pl pc st ov oD) (hR : RegsAre rs oR) (hn : n = 32 ∨ n = 64) (hi0 : 0 ≤ i) (hi1 : i < 16) 
    (hdp : dp + 60 ≤ 500) (hun : un + 1200 ≤ 5000)
    (hret : ∀ oD' oR' h₀' h' tk', KtsTurn (frs outer) h₀ h₀' → Fr h₀' L h' m → Below A₀ base outer h₀' → (hd.heap_1 w.params).In h₀' → Top qv Lo mean mg mb h₀' → Ext w h₀' → News h₀' L h' ((M, oM) :: (dM, oD') :: (R, oR') :: rest) → MachD RW R pl pc st ov oD' → RegsAre ((rs.set 0 (low (dvQ sg (low (rs.getD 2 0) n) (low (rs.getD 0 0) n) (low (rs.getD i.toNat 0) n) n) 64)).set 2 (low (dvR sg (low (rs.getD 2 0) n) (low (rs.getD 0 0) n) (low (rs.getD i.toNat 0) n) n) 64)) oR' → dvOk sg (low (rs.getD 2 0) n) (low (rs.getD 0 0) n) (low (rs.getD i.toNat 0) n) n → RR (.ok (.ret (.bool true))) { s with heap := h', toks := tk' })
    (hexc : ∀ e dx od h₀' h' tk', KtsTurn (frs outer) h₀ h₀' → Fr h₀' L h' m → Below A₀ base outer h₀' → (hd.heap_1 w.params).In h₀' → Top qv Lo mean mg mb h₀' → Ext w h₀' → FlyAt .none h₀' L h' ((dx, od) :: (M, oM) :: (dM, oD) :: (R, oR) :: rest) e dx → WhatIs (Str.ofString "divide error") od → (∀ p ∈ (M, oM) :: (dM, oD) :: (R, oR) :: rest, p.1 ≠ dx) → ¬ dvOk sg (low (rs.getD 2 0) n) (low (rs.getD 0 0) n) (low (rs.getD i.toNat 0) n) n → RR (.error (.ref e)) { s with heap := h', toks := tk' }) :
    codeAny (model Challenge.rw_ok0167_01.prog w) (ktrTop dp un gd cn cs L a ccd cl outer) (.call (.ref 400) ⟨[.ref M, .str nm tn, .ref p], []⟩) RR s := by
  have n0 : nm ≠ Str.ofString "cqo" := by
    subst hnm
    cases sg <;> decide
  have hrl9 : recursionLimit = 1000 := rfl
  have hcl9 : cLine = 9900 := rfl
  have Pk : Picks [(M, oM), (dM, oD), (R, oR)] led rest := .cons Pk1 (.cons Pk2 (.cons Pk3 .nil))
  have N1 := Pk.news N
  have A1 := Pk.apart
  clear N Pk Pk1 Pk2 Pk3
  obtain ⟨q0, q1, q2, q3, q4, q5, q6, q7, q8, u0, u1, u2, u3, u4, u5, u6, u7, u8, mk, fl, ta, to, ts, rfl⟩ := hM2
  subst hM1
  simp only [List.cons_append, List.nil_append, Apart, AllNe, and_true, true_and] at N1 A1
  obtain ⟨⟨e1, e2⟩, r1, e3, r2, r3⟩ := A1
  have ep1 : @Ne Nat p M := r1 _ hp
  have ep2 : @Ne Nat p dM := r2 _ hp
  have ep3 : @Ne Nat p R := r3 _ hp
  replace N1 := newsIn (.tail _ (.tail _ (.tail _ hp))) N1
  ktr_enter
  (repeat' ((fail_if_success (with_reducible show wpAny _ _ (PySem.isTrue (Expr.BoolOp _ _ _) _ _) _ _ _)); (first | (k_unfold; (try dsimp only)) | walk1 | (dsimp only; walk1))))
  rename Fr _ _ _ _ => F9
  rename News _ _ _ _ => N9
  refine join_of (fun v => v = false) F9 N9 ?_ ?_
  · cases sg
    all_goals
      first | (obtain rfl : nm = Str.ofString "div" := hnm) | (obtain rfl : nm = Str.ofString "idiv" := hnm)
      k_steps
      exact JOf.mk rfl (by assumption) (by assumption)
  rintro v9 h9 tk9 rfl F' N'
  clear F9 N9
  (try dsimp only)
  (repeat' ((fail_if_success (with_reducible show wpAny _ _ (eval (Expr.IfExp _ _ _ _) _) _ _ _)); (first | (k_unfold; (try dsimp only)) | walk1 | (dsimp only; walk1))))
  rename Fr _ _ _ _ => F9
  rename News _ _ _ _ => N9
  refine join_of (fun v => v = .ref (dvAt sg)) F9 N9 ?_ ?_
  · cases sg
    all_goals
      first | (obtain rfl : nm = Str.ofString "div" := hnm) | (obtain rfl : nm = Str.ofString "idiv" := hnm)
      k_steps
      exact JOf.mk rfl (by assumption) (by assumption)
  rintro v9 h9 tk9 rfl F' N'
  clear F9 N9
  (try dsimp only)
  k_steps
  all_goals (try dsimp only)
  all_goals (rename Fr _ _ _ _ => F9; rename (∀ (g' h' : Heap) (m' : Str → Option Value), KtsTurn _ _ g' → Fr g' _ h' m' → _) => bk; rename KtsTurn _ _ _ => T9)
  · obtain ⟨h9, T1, F1, B1, X1, TT1, XE1, K1⟩ := bk _ _ _ (KtsTurn.trans (by assumption) T9) F9
    rename FlyAt _ _ _ _ _ _ _ => Y9
    rename (∀ p ∈ (_ : List (Addr × Obj)), p.1 ≠ (_ : Addr)) => nd9
    exact hexc _ _ _ _ _ _ T1 F1 B1 X1 TT1 XE1 ((Y9.back K1).sub (by (repeat' (refine fa_cons (by k_mem) ?_)); intro pD hD; repeat (first | exact hD | apply List.Mem.tail))) (by assumption) (nd_sub nd9 (by (repeat' (refine fa_cons (by k_mem) ?_)); intro pD hD; repeat (first | exact hD | apply List.Mem.tail))) (by assumption)
  · obtain ⟨h9, T1, F1, B1, X1, TT1, XE1, K1⟩ := bk _ _ _ T9 F9
    rename News _ _ _ (_ :: _) => N9
    exact hret _ _ _ _ _ T1 F1 B1 X1 TT1 XE1 (cb_drop (K1 _ N9) (by (repeat' (refine fa_cons (by k_mem) ?_)); intro pD hD; repeat (first | exact hD | apply List.Mem.tail))) ⟨_, _, _, _, _, _, _, _, _, _, _, _, _, _, _, _, _, _, _, _, _, _, _, rfl⟩ (by assumption) (by assumption)
end

-- Wy
theorem zrWy : True := by first | (row_walk; done) | trivial
theorem zz28 : True := by
  k_with_none
  k_with "k_all" => ((intro pA hA; refine neN (Nat.ne_of_lt ?_); refine (by assumption : ∀ p ∈ _, p.1 < _) pA ?_; (repeat (first | exact hA | apply List.Mem.tail)); done))
  k_with "k_all" => (with_reducible assumption)
  k_with "k_upd" => ((first | exact Picks.nil | (refine' Picks.cons ?kuc ?kud; (case kuc => k_upd); (case kud => k_upd)) | (refine' Pick.head ?kua; (case kua => k_all)) | (refine' Pick.tail ?kua ?kub; (case kua => k_ne); (case kub => k_upd)) | (refine' Upd.head ?kua; (case kua => k_all)) | (refine' Upd.tail ?kua ?kub; (case kua => k_ne); (case kub => k_upd))))
  k_with "ktr_rel" => ((refine cb_drop (by assumption) ?_; (repeat' (refine fa_cons (by k_mem) ?_)); first | exact List.forall_mem_nil _ | (intro pD hD; repeat (first | exact hD | apply List.Mem.tail))))
  k_with "compareOp NotEq ref ref" => (k_here; k_dflt (refine' ne_K ?k1 ?k2 ?k3 ?k4 ?k5 ?k6 ?_; (case k1 => k_asm); (case k2 => k_mem); (case k3 => k_mem); (case k4 => l_intsC); (case k5 => l_intsC); (case k6 => ktr_units); k_whole))
  k_with "binaryOp FloorDiv int int" => (k_here; (with_reducible refine floordiv_int ?ke ?_ (Or.inl (noPy ?kp ?kq))); (case ke => first | omega | (split <;> omega)); (case kp => first | omega | (split <;> omega)); (case kq => first | omega | (split <;> omega)))
  k_with "call builtin:list.pop" => (k_here; k_dflt (refine' pop0_K ?k1 ?k2 ?k3 ?k4 ?_; (case k1 => k_asm); (case k2 => k_asm); (case k3 => k_upd); (case k4 => omega); k_whole); intro h' F' N')
  k_with "binaryOp Pow int int" => (k_here; first | (with_reducible refine powL_K 18446744073709551616 ?kb1 ?kb2 ?kb3 ?kb4 ?_; (case kb4 => decide +kernel); (case kb1 => decide); (case kb2 => decide); (case kb3 => decide)) | (with_reducible refine powL_K 9223372036854775808 ?kb1 ?kb2 ?kb3 ?kb4 ?_; (case kb4 => decide +kernel); (case kb1 => decide); (case kb2 => decide); (case kb3 => decide)) | (with_reducible refine powL_K 4294967296 ?kb1 ?kb2 ?kb3 ?kb4 ?_; (case kb4 => decide +kernel); (case kb1 => decide); (case kb2 => decide); (case kb3 => decide)) | (with_reducible refine powL_K 2147483648 ?kb1 ?kb2 ?kb3 ?kb4 ?_; (case kb4 => decide +kernel); (case kb1 => decide); (case kb2 => decide); (case kb3 => decide)) | (with_reducible refine powL_K 340282366920938463463374607431768211456 ?kb1 ?kb2 ?kb3 ?kb4 ?_; (case kb4 => decide +kernel); (case kb1 => decide); (case kb2 => decide); (case kb3 => decide)) | (with_reducible refine powL_K 170141183460469231731687303715884105728 ?kb1 ?kb2 ?kb3 ?kb4 ?_; (case kb4 => decide +kernel); (case kb1 => decide); (case kb2 => decide); (case kb3 => decide)))
  k_with "cell_enter" => ((refine' code_def ?k1 ?k2 ?k3 ?k4 ?k5 ?kA ?kF ?kK ?k6 ?k7 ?k8 ?k9 ?kB ?_ ?c2 ?c3 ?c4 ?c5; (case kA => exact rfl); (case kF => exact rfl); (case kK => first | assumption | exact rfl); (case k1 => k_asm); (case k2 => k_asm); (case k3 => k_asm); (case k4 => k_asm); (case k5 => k_asm); (case k6 => k_is); (case k7 => k_is); (case k8 => ktr_room); (case k9 => first | exact BindsTo.of_eq rfl | exact binds_K (by k_in) rfl (by k_is) rfl rfl rfl); (case c5 => decide); (case kB => exact locs rfl); (case c2 => exact rfl); (case c3 => exact rfl); (case c4 => exact rfl); k_whole; intro g' L' h' FG' F' N' B' X' T'; (try dsimp only); (try k_lift B'); (try k_fold)))
  k_with "ktr_units" => (((try simp only [units_in1, units_deeper, units_under_make, Around.mark_units]); (try dsimp only [ktrTop]); omega))
  k_with "ktr_room" => (((try simp only [depth_mark, depth_under_make, depth_under_kw, depth_in1, depth_deeper]); (try dsimp only [ktrTop]); omega))
  k_with "execs cons" => (k_here; (first | ((with_reducible refine gentok fun tk' => ?_); (with_reducible refine wpAny_execs_cons ?_)) | (with_reducible refine wpAny_execs_cons ?_)); (try dsimp only))
  k_with "execs nil" => (k_here; (refine wpAny_execs_nil ?_))
  k_with "call ref" => (k_here; (with_reducible show wpAny _ _ (call (Value.ref 461) [Value.ref _, Value.int _ _]) _ _ _); k_dflt (refine' draw_C ?kB ?kF ?kX ?kN ?kPk ?kT ?kk ?kP ?km ?km2 ?kd ?ku ?_; (case kP => assumption); (case kB => k_asm); (case kF => k_asm); (case kX => k_asm); (case kN => k_asm); (case kPk => k_upd); (case kT => k_asm); (case kk => first | exact rfl | assumption); (case km => first | decide | omega); (case km2 => first | decide | omega); (case kd => ktr_room); (case ku => ktr_units)); intro v' t' oP' oL' h' tk' F' N' hP' hlo' hhi'; (try dsimp only); (try k_sweep); (try k_fold))
  k_with "call ref" => (k_here; (with_reducible show wpAny _ _ (call (Value.ref 468) [Value.ref _, Value.ref _]) _ _ _); k_dflt (refine' pick_C ?kB ?kF ?kX ?kN ?kPk ?kT ?kk ?kP ?kI ?km ?km2 ?kd ?ku ?_; (case kP => assumption); (case kB => k_asm); (case kF => k_asm); (case kX => k_asm); (case kN => k_asm); (case kPk => k_upd); (case kT => k_asm); (case kk => first | exact rfl | assumption); (case kI => first | assumption | l_intsW); (case km => first | decide | omega); (case km2 => first | decide | omega); (case kd => ktr_room); (case ku => ktr_units)); intro v' t' oP' oL' h' tk' F' N' hP' hM'; (try dsimp only); (try k_sweep); (try k_fold))
  k_with "call ref" => (k_here; (with_reducible show wpAny _ _ (call (Value.ref 81) [Value.int _ _, Value.int _ _]) _ _ _); k_dflt (refine' wrap_C ?kB ?kF ?kX ?kN ?kT ?kk ?kn ?kd ?ku ?_; (case kB => k_asm); (case kF => k_asm); (case kX => k_asm); (case kN => k_asm); (case kT => k_asm); (case kk => first | exact rfl | assumption); (case kn => first | omega | decide); (case kd => ktr_room); (case ku => ktr_units)); intro t' h' tk' F' N'; (try dsimp only); (try k_sweep); (try k_fold))
  k_with "compareOp Eq str str" => (k_here; k_dflt (refine' eq_no ?ke ?_; (case ke => with_reducible assumption)))
  k_with "compareOp In str ref" => (k_here; (with_reducible show wpAny _ _ (compareOp CmpOp.In (Value.str _ _) (Value.ref _)) _ _ _); (with_unfolding_all refine' tin_no ?k1 ?k2 ?k3 ?_; (case k1 => exact News.isTup (by k_asm) (by news_mem)); (case k2 => kde_strs); (case k3 => assumption); k_whole))
  k_with "compareOp NotIn str ref" => (k_here; (with_reducible show wpAny _ _ (compareOp CmpOp.NotIn (Value.str _ _) (Value.ref _)) _ _ _); (with_unfolding_all refine' tnot_no ?k1 ?k2 ?k3 ?_; (case k1 => exact News.isTup (by k_asm) (by news_mem)); (case k2 => kde_strs); (case k3 => assumption); k_whole))
  k_with "subscriptTail Name Slice str ref" => (k_here; (with_reducible show wpAny _ _ (subscriptTail _ (Expr.Slice (some _) none none _) _ _) _ _ _); (with_reducible rename Fr _ _ _ _ => F'); (with_reducible rename News _ _ _ _ => N'); (refine slice_strN_sn (hsz := ?hsz) (s := ⟨_, _, _, _, _⟩) F' N' ?_); (case hsz => (rw [sizeLine_eq]; omega)); intro h' t' tk' F' N')
  k_with "subscriptTail Name Slice str ref" => (k_here; (with_reducible show wpAny _ _ (subscriptTail _ (Expr.Slice none (some _) none _) _ _) _ _ _); (with_reducible rename Fr _ _ _ _ => F'); (with_reducible rename News _ _ _ _ => N'); (refine slice_strN_ns (hsz := ?hsz) (s := ⟨_, _, _, _, _⟩) F' N' ?_); (case hsz => (rw [sizeLine_eq]; omega)); intro h' t' tk' F' N')
  k_with "compareOp NotEq str str" => (k_here; k_dflt (refine' ne_yes ?ke ?_; (case ke => with_reducible assumption)))
  k_with "call ref" => (k_here; (with_reducible show wpAny _ _ (call (Value.ref 350) [Value.ref _, Value.int _ _, Value.int _ _, Value.int _ _]) _ _ _); k_dflt (refine' put4_C ?kB ?kF ?kX ?kN ?k1 ?k2 ?k3 ?kT ?kk ?kM1 ?kM2 ?kR ?ki0 ?ki1 ?kn ?kd ?ku ?_; (case kB => k_asm); (case kF => k_asm); (case kX => k_asm); (case kN => k_asm); (case k1 => k_upd); (case kM1 => first | exact rfl | assumption); (case k2 => k_upd); (case kM2 => first | assumption | exact ⟨_, _, _, _, _, _, _, _, _, _, _, _, _, _, _, _, _, _, _, _, _, _, _, rfl⟩); (case k3 => k_upd); (case kR => assumption); (case kT => k_asm); (case kk => first | exact rfl | assumption); (case ki0 => first | decide | omega); (case ki1 => first | decide | omega); (case kn => first | assumption | omega | decide); (case kd => ktr_room); (case ku => ktr_units)); intro oR' h' tk' F' N' hR'; (try dsimp only); (try k_sweep); (try k_fold))
  k_with "call ref" => (k_here; (with_reducible show wpAny _ _ (call (Value.ref 350) [Value.ref _, Value.int _ _, Value.int _ _]) _ _ _); k_dflt (refine' put3_C ?kB ?kF ?kX ?kN ?k1 ?k2 ?k3 ?kT ?kk ?kM1 ?kM2 ?kR ?ki0 ?ki1 ?kd ?ku ?_; (case kB => k_asm); (case kF => k_asm); (case kX => k_asm); (case kN => k_asm); (case k1 => k_upd); (case kM1 => first | exact rfl | assumption); (case k2 => k_upd); (case kM2 => first | assumption | exact ⟨_, _, _, _, _, _, _, _, _, _, _, _, _, _, _, _, _, _, _, _, _, _, _, rfl⟩); (case k3 => k_upd); (case kR => assumption); (case kT => k_asm); (case kk => first | exact rfl | assumption); (case ki0 => first | decide | omega); (case ki1 => first | decide | omega); (case kd => ktr_room); (case ku => ktr_units)); intro oR' h' tk' F' N' hR'; (try dsimp only); (try k_sweep); (try k_fold))
  k_with "call ref" => (k_here; (with_reducible show wpAny _ _ (call (Value.ref 358) [Value.ref _, Value.int _ _, Value.int _ _]) _ _ _); k_dflt (refine' take_C ?kB ?kF ?kX ?kN ?k1 ?k2 ?k3 ?kT ?kk ?kM1 ?kM2 ?kR ?ki0 ?ki1 ?kn ?kd ?ku ?_; (case kB => k_asm); (case kF => k_asm); (case kX => k_asm); (case kN => k_asm); (case k1 => k_upd); (case kM1 => first | exact rfl | assumption); (case k2 => k_upd); (case kM2 => first | assumption | exact ⟨_, _, _, _, _, _, _, _, _, _, _, _, _, _, _, _, _, _, _, _, _, _, _, rfl⟩); (case k3 => k_upd); (case kR => assumption); (case kT => k_asm); (case kk => first | exact rfl | assumption); (case ki0 => first | decide | omega); (case ki1 => first | decide | omega); (case kn => first | assumption | omega | decide); (case kd => ktr_room); (case ku => ktr_units)); intro t' h' tk' F' N'; (try dsimp only); (try k_sweep); (try k_fold))
  trivial
theorem eq_K {prog : Program} {w : World} {A : Around} {E : Value → Shared → Prop} {s : Shared} {h₀ : Heap} {L : Addr} {news : List (Addr × Obj)} {a b : Addr} {vs us : List Value} {ns ms : List Int} {k j : Nat} {Q : Value → Shared → Prop}
    (N : News h₀ L s.heap news) (ha : (a, listOf vs.toArray k) ∈ news) (hb : (b, listOf us.toArray j) ∈ news) (hi : IntsAre vs ns) (hj : IntsAre us ms) (hu : A.units + 64 < cLine)
    (h : Q (.bool (decide (ns = ms))) s) : wpAny (model prog w) A (compareOp .Eq (.ref a) (.ref b)) Q E s :=
  eq_intsK (PySem.IsL.isList (n := k) (N _ ha).1) hi (PySem.IsL.isList (n := j) (N _ hb).1) hj hu h
section
theorem zz29 : True := by
  k_with "compareOp Eq ref ref" => (k_here; k_dflt (refine' eq_K (vs := []) (us := []) ?k1 ?k2 ?k3 ?k4 ?k5 ?k6 ?_; (case k1 => k_asm); (case k2 => k_mem); (case k3 => k_mem); (case k4 => exact IntsAre.nil); (case k5 => exact IntsAre.nil); (case k6 => ktr_units); k_whole))
  trivial
set_option maxHeartbeats 8000000 in
theorem wayRet_C {w : World} {mean : ExcName → Option Value} {mg mb : Str → Option Value}
    {dp un : Nat} {gd : Option (List Code)} {cn : Str} {cs : Scope} {a : Addr} {ccd : Value} {cl : List (Str × Addr)} {outer : List Env} {A₀ : Around} {base h₀ : Heap} {L : Addr} {m : Str → Option Value} {s : Shared} {RR : Result → Shared → Prop}
    {M dM R RW pl : Addr} {oM oD oR : Obj} {pc st : Int} {rs : List Int} {oP : Obj} {p : Addr} {tn : Tok} {led l1 l2 rest : List (Addr × Obj)}
    (B : Below A₀ base outer h₀) (F : Fr h₀ L s.heap m) (X : (hd.heap_1 w.params).In h₀)
    (N : News h₀ L s.heap led) (Pk1 : Pick M oM led l1) (Pk2 : Pick dM oD l1 l2) (Pk3 : Pick R oR l2 rest) 
    (T : Top qv Lo mean mg mb h₀) (hk : cs.kind = .function) (hp : (pl, oP) ∈ rest) (hP : PileIs oP) (hM1 : oM = instObj 445 dM) (hM2 : MachD RW R pl pc st false oD) (hR : RegsAre rs oR) 
    (hdp : dp + 15 < recursionLimit) (hun : un + 900 < cLine)
    (hret : ∀ oD' h' tk', Fr h₀ L h' m → News h₀ L h' ((M, oM) :: (dM, oD') :: (R, oR) :: rest) → MachD RW R pl pc st true oD' → RR (.ok (.ret (.bool true))) { s with heap := h', toks := tk' }) :
    codeAny (model Challenge.rw_ok0167_01.prog w) (ktrTop dp un gd cn cs L a ccd cl outer) (.call (.ref 421) ⟨[.ref M, .str (Str.ofString "ret") tn, .ref p], []⟩) RR s := by
  obtain ⟨kp, rfl⟩ := hP
  have Pk : Picks [(M, oM), (dM, oD), (R, oR)] led rest := .cons Pk1 (.cons Pk2 (.cons Pk3 .nil))
  have N1 := Pk.news N
  have A1 := Pk.apart
  clear N Pk Pk1 Pk2 Pk3
  obtain ⟨q0, q1, q2, q3, q4, q5, q6, q7, q8, u0, u1, u2, u3, u4, u5, u6, u7, u8, mk, fl, ta, to, ts, rfl⟩ := hM2
  subst hM1
  simp only [List.cons_append, List.nil_append, Apart, AllNe, and_true, true_and] at N1 A1
  obtain ⟨⟨e1, e2⟩, r1, e3, r2, r3⟩ := A1
  have ep1 : @Ne Nat pl M := r1 _ hp
  have ep2 : @Ne Nat pl dM := r2 _ hp
  have ep3 : @Ne Nat pl R := r3 _ hp
  replace N1 := newsIn (.tail _ (.tail _ (.tail _ hp))) N1
  k_dflt cell_enter
  k_steps
  exact hret _ _ _ (by assumption) (by ktr_rel) ⟨_, _, _, _, _, _, _, _, _, _, _, _, _, _, _, _, _, _, _, _, _, _, _, rfl⟩
set_option maxHeartbeats 8000000 in
theorem divF_C {w : World} {mean : ExcName → Option Value} {mg mb : Str → Option Value}
    {dp un : Nat} {gd : Option (List Code)} {cn : Str} {cs : Scope} {a : Addr} {ccd : Value} {cl : List (Str × Addr)} {outer : List Env} {A₀ : Around} {base h₀ : Heap} {L : Addr} {m : Str → Option Value} {s : Shared} {RR : Result → Shared → Prop}
    {M p : Addr} {nm : Str} {tn : Tok} {led : List (Addr × Obj)}
    (B : Below A₀ base outer h₀) (F : Fr h₀ L s.heap m) (X : (hd.heap_1 w.params).In h₀)
    (N : News h₀ L s.heap led) 
    (T : Top qv Lo mean mg mb h₀) (hk : cs.kind = .function)  (n0 : nm ≠ Str.ofString "cqo") (n1 : nm ≠ Str.ofString "div") (n2 : nm ≠ Str.ofString "idiv")
    (hdp : dp + 5 < recursionLimit) (hun : un + 300 < cLine)
    (hret : ∀ h' tk', Fr h₀ L h' m → News h₀ L h' led → RR (.ok (.ret (.bool false))) { s with heap := h', toks := tk' }) :
    codeAny (model Challenge.rw_ok0167_01.prog w) (ktrTop dp un gd cn cs L a ccd cl outer) (.call (.ref 400) ⟨[.ref M, .str nm tn, .ref p], []⟩) RR s := by
  k_dflt cell_enter
  k_steps
  exact hret _ _ (by assumption) (by ktr_rel)
set_option maxHeartbeats 8000000 in
theorem movImm_C {w : World} {mean : ExcName → Option Value} {mg mb : Str → Option Value}
    {dp un : Nat} {gd : Option (List Code)} {cn : Str} {cs : Scope} {a : Addr} {ccd : Value} {cl : List (Str × Addr)} {outer : List Env} {A₀ : Around} {base h₀ : Heap} {L : Addr} {m : Str → Option Value} {s : Shared} {RR : Result → Shared → Prop}
    {M dM R RW pl : Addr} {oM oD oR : Obj} {pc st : Int} {ov : Bool} {rs : List Int} {p : Addr} {tn t1 t2 t3 : Tok} {led l1 l2 rest : List (Addr × Obj)}
    (B : Below A₀ base outer h₀) (F : Fr h₀ L s.heap m) (X : (hd.heap_1 w.params).In h₀)
    (N : News h₀ L s.heap led) (Pk1 : Pick M oM led l1) (Pk2 : Pick dM oD l1 l2) (Pk3 : Pick R oR l2 rest) 
    (T : Top qv Lo mean mg mb h₀) (hk : cs.kind = .function) (hp : (p, tupOf [.int 32 t1, .int 9 t2, .int 5 t3]) ∈ rest) (hM1 : oM = instObj 445 dM) (hM2 : MachD RW R pl pc st ov oD) (hR : RegsAre rs oR) 
    (hdp : dp + 15 < recursionLimit) (hun : un + 900 < cLine)
    (hret : ∀ oR' h' tk', Fr h₀ L h' m → News h₀ L h' ((M, oM) :: (dM, oD) :: (R, oR') :: rest) → RegsAre (rs.set 9 (low 5 32)) oR' → RR (.ok (.ret (.bool true))) { s with heap := h', toks := tk' }) :
    codeAny (model Challenge.rw_ok0167_01.prog w) (ktrTop dp un gd cn cs L a ccd cl outer) (.call (.ref 379) ⟨[.ref M, .str (Str.ofString "mov_imm") tn, .ref p], []⟩) RR s := by
  have Pk : Picks [(M, oM), (dM, oD), (R, oR)] led rest := .cons Pk1 (.cons Pk2 (.cons Pk3 .nil))
  have N1 := Pk.news N
  have A1 := Pk.apart
  clear N Pk Pk1 Pk2 Pk3
  obtain ⟨q0, q1, q2, q3, q4, q5, q6, q7, q8, u0, u1, u2, u3, u4, u5, u6, u7, u8, mk, fl, ta, to, ts, rfl⟩ := hM2
  subst hM1
  simp only [List.cons_append, List.nil_append, Apart, AllNe, and_true, true_and] at N1 A1
  obtain ⟨⟨e1, e2⟩, r1, e3, r2, r3⟩ := A1
  have ep1 : @Ne Nat p M := r1 _ hp
  have ep2 : @Ne Nat p dM := r2 _ hp
  have ep3 : @Ne Nat p R := r3 _ hp
  replace N1 := newsIn (.tail _ (.tail _ (.tail _ hp))) N1
  k_dflt cell_enter
  k_steps
  exact hret _ _ _ (by assumption) (by ktr_rel) (by assumption)
end

-- Kd
theorem zrKd : True := by first | (row_walk; done) | trivial
/-- the kinds of row that the law makes -/
inductive Kd | cqo (n : Int) | mov | ret | dv (sg : Bool) (n i : Int)
def Kd.Row : Kd → Str → List Value → Prop
  | .cqo n, nm, ps => nm = Str.ofString "cqo" ∧ (∃ t, ps = [.int n t]) ∧ (n = 32 ∨ n = 64)
  | .mov, nm, ps => nm = Str.ofString "mov_imm" ∧ ∃ t1 t2 t3, ps = [.int 32 t1, .int 9 t2, .int 5 t3]
  | .ret, nm, ps => nm = Str.ofString "ret" ∧ ps = []
  | .dv sg n i, nm, ps => (nm = if sg then Str.ofString "idiv" else Str.ofString "div") ∧ (∃ t1 t2, ps = [.int n t1, .int i t2]) ∧ (n = 32 ∨ n = 64) ∧ 0 ≤ i ∧ i < 16
/-- the registers behind a row -/
def Kd.out : Kd → List Int → List Int
  | .cqo n, rs => rs.set 2 (low (if 2 ^ (n - 1).toNat ≤ low (rs.getD 0 0) n then -1 else 0) n)
  | .mov, rs => rs.set 9 (low 5 32)
  | .ret, rs => rs
  | .dv sg n i, rs => (rs.set 0 (low (dvQ sg (low (rs.getD 2 0) n) (low (rs.getD 0 0) n) (low (rs.getD i.toNat 0) n) n) 64)).set 2 (low (dvR sg (low (rs.getD 2 0) n) (low (rs.getD 0 0) n) (low (rs.getD i.toNat 0) n) n) 64)
def Kd.ok : Kd → List Int → Prop
  | .dv sg n i, rs => dvOk sg (low (rs.getD 2 0) n) (low (rs.getD 0 0) n) (low (rs.getD i.toNat 0) n) n
  | _, _ => True
def Kd.ov : Kd → Bool
  | .ret => true
  | _ => false
theorem zz30 : True := by
  k_with_none
  k_with "k_all" => ((intro pA hA; refine neN (Nat.ne_of_lt ?_); refine (by assumption : ∀ p ∈ _, p.1 < _) pA ?_; (repeat (first | exact hA | apply List.Mem.tail)); done))
  k_with "k_all" => (with_reducible assumption)
  k_with "k_upd" => ((first | exact Picks.nil | (refine' Picks.cons ?kuc ?kud; (case kuc => k_upd); (case kud => k_upd)) | (refine' Pick.head ?kua; (case kua => k_all)) | (refine' Pick.tail ?kua ?kub; (case kua => k_ne); (case kub => k_upd)) | (refine' Upd.head ?kua; (case kua => k_all)) | (refine' Upd.tail ?kua ?kub; (case kua => k_ne); (case kub => k_upd))))
  k_with "ktr_rel" => ((refine cb_drop (by assumption) ?_; (repeat' (refine fa_cons (by k_mem) ?_)); first | exact List.forall_mem_nil _ | (intro pD hD; repeat (first | exact hD | apply List.Mem.tail))))
  k_with "compareOp NotEq ref ref" => (k_here; k_dflt (refine' ne_K ?k1 ?k2 ?k3 ?k4 ?k5 ?k6 ?_; (case k1 => k_asm); (case k2 => k_mem); (case k3 => k_mem); (case k4 => l_intsC); (case k5 => l_intsC); (case k6 => ktr_units); k_whole))
  k_with "binaryOp FloorDiv int int" => (k_here; (with_reducible refine floordiv_int ?ke ?_ (Or.inl (noPy ?kp ?kq))); (case ke => first | omega | (split <;> omega)); (case kp => first | omega | (split <;> omega)); (case kq => first | omega | (split <;> omega)))
  k_with "call builtin:list.pop" => (k_here; k_dflt (refine' pop0_K ?k1 ?k2 ?k3 ?k4 ?_; (case k1 => k_asm); (case k2 => k_asm); (case k3 => k_upd); (case k4 => omega); k_whole); intro h' F' N')
  k_with "binaryOp Pow int int" => (k_here; first | (with_reducible refine powL_K 18446744073709551616 ?kb1 ?kb2 ?kb3 ?kb4 ?_; (case kb4 => decide +kernel); (case kb1 => decide); (case kb2 => decide); (case kb3 => decide)) | (with_reducible refine powL_K 9223372036854775808 ?kb1 ?kb2 ?kb3 ?kb4 ?_; (case kb4 => decide +kernel); (case kb1 => decide); (case kb2 => decide); (case kb3 => decide)) | (with_reducible refine powL_K 4294967296 ?kb1 ?kb2 ?kb3 ?kb4 ?_; (case kb4 => decide +kernel); (case kb1 => decide); (case kb2 => decide); (case kb3 => decide)) | (with_reducible refine powL_K 2147483648 ?kb1 ?kb2 ?kb3 ?kb4 ?_; (case kb4 => decide +kernel); (case kb1 => decide); (case kb2 => decide); (case kb3 => decide)) | (with_reducible refine powL_K 340282366920938463463374607431768211456 ?kb1 ?kb2 ?kb3 ?kb4 ?_; (case kb4 => decide +kernel); (case kb1 => decide); (case kb2 => decide); (case kb3 => decide)) | (with_reducible refine powL_K 170141183460469231731687303715884105728 ?kb1 ?kb2 ?kb3 ?kb4 ?_; (case kb4 => decide +kernel); (case kb1 => decide); (case kb2 => decide); (case kb3 => decide)))
  k_with "cell_enter" => ((refine' code_def ?k1 ?k2 ?k3 ?k4 ?k5 ?kA ?kF ?kK ?k6 ?k7 ?k8 ?k9 ?kB ?_ ?c2 ?c3 ?c4 ?c5; (case kA => exact rfl); (case kF => exact rfl); (case kK => first | assumption | exact rfl); (case k1 => k_asm); (case k2 => k_asm); (case k3 => k_asm); (case k4 => k_asm); (case k5 => k_asm); (case k6 => k_is); (case k7 => k_is); (case k8 => ktr_room); (case k9 => first | exact BindsTo.of_eq rfl | exact binds_K (by k_in) rfl (by k_is) rfl rfl rfl); (case c5 => decide); (case kB => exact locs rfl); (case c2 => exact rfl); (case c3 => exact rfl); (case c4 => exact rfl); k_whole; intro g' L' h' FG' F' N' B' X' T'; (try dsimp only); (try k_lift B'); (try k_fold)))
  k_with "ktr_units" => (((try simp only [units_in1, units_deeper, units_under_make, Around.mark_units]); (try dsimp only [ktrTop]); omega))
  k_with "ktr_room" => (((try simp only [depth_mark, depth_under_make, depth_under_kw, depth_in1, depth_deeper]); (try dsimp only [ktrTop]); omega))
  k_with "execs cons" => (k_here; (first | ((with_reducible refine gentok fun tk' => ?_); (with_reducible refine wpAny_execs_cons ?_)) | (with_reducible refine wpAny_execs_cons ?_)); (try dsimp only))
  k_with "execs nil" => (k_here; (refine wpAny_execs_nil ?_))
  k_with "call ref" => (k_here; (with_reducible show wpAny _ _ (call (Value.ref 461) [Value.ref _, Value.int _ _]) _ _ _); k_dflt (refine' draw_C ?kB ?kF ?kX ?kN ?kPk ?kT ?kk ?kP ?km ?km2 ?kd ?ku ?_; (case kP => assumption); (case kB => k_asm); (case kF => k_asm); (case kX => k_asm); (case kN => k_asm); (case kPk => k_upd); (case kT => k_asm); (case kk => first | exact rfl | assumption); (case km => first | decide | omega); (case km2 => first | decide | omega); (case kd => ktr_room); (case ku => ktr_units)); intro v' t' oP' oL' h' tk' F' N' hP' hlo' hhi'; (try dsimp only); (try k_sweep); (try k_fold))
  k_with "call ref" => (k_here; (with_reducible show wpAny _ _ (call (Value.ref 468) [Value.ref _, Value.ref _]) _ _ _); k_dflt (refine' pick_C ?kB ?kF ?kX ?kN ?kPk ?kT ?kk ?kP ?kI ?km ?km2 ?kd ?ku ?_; (case kP => assumption); (case kB => k_asm); (case kF => k_asm); (case kX => k_asm); (case kN => k_asm); (case kPk => k_upd); (case kT => k_asm); (case kk => first | exact rfl | assumption); (case kI => first | assumption | l_intsW); (case km => first | decide | omega); (case km2 => first | decide | omega); (case kd => ktr_room); (case ku => ktr_units)); intro v' t' oP' oL' h' tk' F' N' hP' hM'; (try dsimp only); (try k_sweep); (try k_fold))
  k_with "call ref" => (k_here; (with_reducible show wpAny _ _ (call (Value.ref 81) [Value.int _ _, Value.int _ _]) _ _ _); k_dflt (refine' wrap_C ?kB ?kF ?kX ?kN ?kT ?kk ?kn ?kd ?ku ?_; (case kB => k_asm); (case kF => k_asm); (case kX => k_asm); (case kN => k_asm); (case kT => k_asm); (case kk => first | exact rfl | assumption); (case kn => first | omega | decide); (case kd => ktr_room); (case ku => ktr_units)); intro t' h' tk' F' N'; (try dsimp only); (try k_sweep); (try k_fold))
  k_with "ktr_enter" => ((refine' enterX ?k1 ?k2 ?k3 ?kE ?k4 ?k5 ?kXB ?kEB ?kTB ?kA ?kF ?kK ?k6 ?k7 ?k8 ?k9 ?kB ?_ ?c2 ?c3 ?c4 ?c5; (case kA => exact rfl); (case kF => exact rfl); (case kK => assumption); (case k1 => k_asm); (case k2 => k_asm); (case k3 => k_asm); (case kE => k_asm); (case k4 => k_asm); (case k5 => k_asm); (case kXB => k_asm); (case kEB => k_asm); (case kTB => k_asm); (case k6 => k_is); (case k7 => k_is); (case k8 => ktr_room); (case k9 => first | exact BindsTo.of_eq rfl | exact binds_K (by k_in) rfl (by k_is) rfl rfl rfl); (case c5 => decide); (case kB => exact locs rfl); (case c2 => exact rfl); (case c3 => exact rfl); (case c4 => exact rfl); k_whole; intro g' L' h' FG' F' N' B' X' T' E' back'; (try dsimp only); (try k_fold)))
  k_with "leaving ref" => (k_here; (refine' leave_led ?kB ?kF ?kk ?kY ?_; (case kB => k_asm); (case kF => k_asm); (case kY => first | exact Or.inl (by assumption) | exact Or.inr (by assumption)); (case kk => exact rfl); k_whole); intro h' g' T' F' Y' B')
  k_with "exec Raise some none" => (k_here; (refine' raise_K ?kh ?_; (case kh => with_unfolding_all rfl)))
  k_with "call ref" => (k_here; (with_reducible show wpAny _ _ (call (Value.ref 59) [Value.str _ _]) _ _ _); k_dflt (refine' fault_C ?kB ?kF ?kX ?kN ?kT ?kA ?kf ?kK ?kd ?_; (case kA => exact rfl); (case kf => exact rfl); (case kK => first | assumption | exact rfl); (case kB => k_asm); (case kF => k_asm); (case kX => k_asm); (case kN => k_asm); (case kT => k_asm); (case kd => ktr_room)); intro e' dx' t' oe' od' h' tk' F' N' n1' n2' n3' hE'; obtain ⟨⟨sl', hR'⟩, hW'⟩ := hE'; subst hR'; (replace hW' : WhatIs _ _ := (by obtain ⟨q1, q2, t1, t2, t3, n, e⟩ := hW'; exact ⟨q1, q2, t1, t2, t3, n, e⟩)); (have Y' := flyNew_of N' n2' n3'); (try dsimp only); (try k_sweep); (try k_fold))
  k_with "Exists" => (refine ⟨_, _, _, _, rfl, (by k_in), News.get (by k_asm) (by k_mem), ?_⟩)
  k_with "UnrEndW" => (k_here; refine' unrW (off5 (by assumption)) ?uF ?uN ?uI ?us ⟨by k_subL, ?_⟩; (case uF => assumption); (case uN => k_asm); (case uI => ((repeat' (refine fa_cons (by k_mem) ?_)); exact List.forall_mem_nil _)); (case us => ((repeat' (refine fa_cons (by k_mem) ?_)); first | exact List.forall_mem_nil _ | (intro pD hD; repeat (first | exact hD | apply List.Mem.tail)))))
  k_with "UnrEndW" => (k_here; refine' unrW (off1 (by assumption)) ?uF ?uN ?uI ?us ⟨by k_subL, ?_⟩; (case uF => assumption); (case uN => k_asm); (case uI => ((repeat' (refine fa_cons (by k_mem) ?_)); exact List.forall_mem_nil _)); (case us => ((repeat' (refine fa_cons (by k_mem) ?_)); first | exact List.forall_mem_nil _ | (intro pD hD; repeat (first | exact hD | apply List.Mem.tail)))))
  k_with "UnrEnd" => (k_here; refine' unrI ?uo ?uF ?uN ?uI ?us ?_; (case uo => assumption); (case uF => assumption); (case uN => k_asm); (case uI => k_mem); (case us => ((repeat' (refine fa_cons (by k_mem) ?_)); first | exact List.forall_mem_nil _ | (intro pD hD; repeat (first | exact hD | apply List.Mem.tail)))))
  k_with "pyIter ref" => (k_here; (with_reducible show wpAny _ _ (pyIter (Value.ref _)) (fun it s₂ => TurnsAt _ _ _ _ _ _ _ _ _ it s₂) _ _); (rename Fr _ _ _ _ => lF'); (rename News _ _ _ _ => lN'); (with_unfolding_all refine' iter_tupTurns ?h1 lF' lN' ?h2 ?h3 ?h4 ?_; (case h1 => exact rfl); (case h2 => k_mem); (case h3 => exact rfl); (case h4 => exact rfl)); clear lF' lN'; intro i' l1; (try k_lt l1))
  k_with "compareOp Eq str str" => (k_here; k_dflt (refine' eq_no ?ke ?_; (case ke => with_reducible assumption)))
  k_with "compareOp In str ref" => (k_here; (with_reducible show wpAny _ _ (compareOp CmpOp.In (Value.str _ _) (Value.ref _)) _ _ _); (with_unfolding_all refine' tin_no ?k1 ?k2 ?k3 ?_; (case k1 => exact News.isTup (by k_asm) (by news_mem)); (case k2 => kde_strs); (case k3 => assumption); k_whole))
  k_with "compareOp NotIn str ref" => (k_here; (with_reducible show wpAny _ _ (compareOp CmpOp.NotIn (Value.str _ _) (Value.ref _)) _ _ _); (with_unfolding_all refine' tnot_no ?k1 ?k2 ?k3 ?_; (case k1 => exact News.isTup (by k_asm) (by news_mem)); (case k2 => kde_strs); (case k3 => assumption); k_whole))
  k_with "subscriptTail Name Slice str ref" => (k_here; (with_reducible show wpAny _ _ (subscriptTail _ (Expr.Slice (some _) none none _) _ _) _ _ _); (with_reducible rename Fr _ _ _ _ => F'); (with_reducible rename News _ _ _ _ => N'); (refine slice_strN_sn (hsz := ?hsz) (s := ⟨_, _, _, _, _⟩) F' N' ?_); (case hsz => (rw [sizeLine_eq]; omega)); intro h' t' tk' F' N')
  k_with "subscriptTail Name Slice str ref" => (k_here; (with_reducible show wpAny _ _ (subscriptTail _ (Expr.Slice none (some _) none _) _ _) _ _ _); (with_reducible rename Fr _ _ _ _ => F'); (with_reducible rename News _ _ _ _ => N'); (refine slice_strN_ns (hsz := ?hsz) (s := ⟨_, _, _, _, _⟩) F' N' ?_); (case hsz => (rw [sizeLine_eq]; omega)); intro h' t' tk' F' N')
  k_with "compareOp NotEq str str" => (k_here; k_dflt (refine' ne_yes ?ke ?_; (case ke => with_reducible assumption)))
  k_with "call ref" => (k_here; (with_reducible show wpAny _ _ (call (Value.ref 350) [Value.ref _, Value.int _ _, Value.int _ _, Value.int _ _]) _ _ _); k_dflt (refine' put4_C ?kB ?kF ?kX ?kN ?k1 ?k2 ?k3 ?kT ?kk ?kM1 ?kM2 ?kR ?ki0 ?ki1 ?kn ?kd ?ku ?_; (case kB => k_asm); (case kF => k_asm); (case kX => k_asm); (case kN => k_asm); (case k1 => k_upd); (case kM1 => first | exact rfl | assumption); (case k2 => k_upd); (case kM2 => first | assumption | exact ⟨_, _, _, _, _, _, _, _, _, _, _, _, _, _, _, _, _, _, _, _, _, _, _, rfl⟩); (case k3 => k_upd); (case kR => assumption); (case kT => k_asm); (case kk => first | exact rfl | assumption); (case ki0 => first | decide | omega); (case ki1 => first | decide | omega); (case kn => first | assumption | omega | decide); (case kd => ktr_room); (case ku => ktr_units)); intro oR' h' tk' F' N' hR'; (try dsimp only); (try k_sweep); (try k_fold))
  k_with "call ref" => (k_here; (with_reducible show wpAny _ _ (call (Value.ref 350) [Value.ref _, Value.int _ _, Value.int _ _]) _ _ _); k_dflt (refine' put3_C ?kB ?kF ?kX ?kN ?k1 ?k2 ?k3 ?kT ?kk ?kM1 ?kM2 ?kR ?ki0 ?ki1 ?kd ?ku ?_; (case kB => k_asm); (case kF => k_asm); (case kX => k_asm); (case kN => k_asm); (case k1 => k_upd); (case kM1 => first | exact rfl | assumption); (case k2 => k_upd); (case kM2 => first | assumption | exact ⟨_, _, _, _, _, _, _, _, _, _, _, _, _, _, _, _, _, _, _, _, _, _, _, rfl⟩); (case k3 => k_upd); (case kR => assumption); (case kT => k_asm); (case kk => first | exact rfl | assumption); (case ki0 => first | decide | omega); (case ki1 => first | decide | omega); (case kd => ktr_room); (case ku => ktr_units)); intro oR' h' tk' F' N' hR'; (try dsimp only); (try k_sweep); (try k_fold))
  k_with "call ref" => (k_here; (with_reducible show wpAny _ _ (call (Value.ref 358) [Value.ref _, Value.int _ _, Value.int _ _]) _ _ _); k_dflt (refine' take_C ?kB ?kF ?kX ?kN ?k1 ?k2 ?k3 ?kT ?kk ?kM1 ?kM2 ?kR ?ki0 ?ki1 ?kn ?kd ?ku ?_; (case kB => k_asm); (case kF => k_asm); (case kX => k_asm); (case kN => k_asm); (case k1 => k_upd); (case kM1 => first | exact rfl | assumption); (case k2 => k_upd); (case kM2 => first | assumption | exact ⟨_, _, _, _, _, _, _, _, _, _, _, _, _, _, _, _, _, _, _, _, _, _, _, rfl⟩); (case k3 => k_upd); (case kR => assumption); (case kT => k_asm); (case kk => first | exact rfl | assumption); (case ki0 => first | decide | omega); (case ki1 => first | decide | omega); (case kn => first | assumption | omega | decide); (case kd => ktr_room); (case ku => ktr_units)); intro t' h' tk' F' N'; (try dsimp only); (try k_sweep); (try k_fold))
  trivial
theorem kd_head {k : Kd} {nm : Str} {ps : List Value} (h : k.Row nm ps) : nm ≠ Str.ofString "order" ∧ (∀ y ∈ [Str.ofString "order", Str.ofString "label", Str.ofString "entry"], nm ≠ y) := by
  cases k with
  | cqo n => obtain ⟨rfl, -⟩ := h; exact ⟨by decide, by decide⟩
  | mov => obtain ⟨rfl, -⟩ := h; exact ⟨by decide, by decide⟩
  | ret => obtain ⟨rfl, -⟩ := h; exact ⟨by decide, by decide⟩
  | dv sg n i =>
    obtain ⟨rfl, -⟩ := h
    cases sg with
    | false => exact ⟨by decide, by decide⟩
    | true => exact ⟨by decide, by decide⟩
theorem kd_no {k : Kd} {nm : Str} {ps : List Value} (h : k.Row nm ps) (hm : k ≠ .mov) : nm.length ≤ 30 ∧ (∀ y ∈ [Str.ofString "add", Str.ofString "sub", Str.ofString "and", Str.ofString "or", Str.ofString "xor", Str.ofString "cmp", Str.ofString "test"], nm ≠ y) ∧ Txt.slice nm (some (-4)) none ≠ Str.ofString "_imm" ∧ nm ≠ Str.ofString "neg" ∧ (∀ y ∈ [Str.ofString "imul", Str.ofString "imul_imm"], nm ≠ y) ∧ (∀ y ∈ [Str.ofString "shl", Str.ofString "shr", Str.ofString "sar"], Txt.slice nm none (some 3) ≠ y) := by
  cases k with
  | cqo n => obtain ⟨rfl, -⟩ := h; exact ⟨by decide, by decide, by decide, by decide, by decide, by decide⟩
  | mov => exact absurd rfl hm
  | ret => obtain ⟨rfl, -⟩ := h; exact ⟨by decide, by decide, by decide, by decide, by decide, by decide⟩
  | dv sg n i =>
    obtain ⟨rfl, -⟩ := h
    cases sg with
    | false => exact ⟨by decide, by decide, by decide, by decide, by decide, by decide⟩
    | true => exact ⟨by decide, by decide, by decide, by decide, by decide, by decide⟩
theorem kd_mv {k : Kd} {nm : Str} {ps : List Value} (h : k.Row nm ps) (hm : k ≠ .mov) : ∀ y ∈ [Str.ofString "mov", Str.ofString "mov_imm", Str.ofString "movabs", Str.ofString "movzx", Str.ofString "movsx", Str.ofString "bswap", Str.ofString "ror16"], nm ≠ y := by
  cases k with
  | cqo n => obtain ⟨rfl, -⟩ := h; exact by decide
  | mov => exact absurd rfl hm
  | ret => obtain ⟨rfl, -⟩ := h; exact by decide
  | dv sg n i =>
    obtain ⟨rfl, -⟩ := h
    cases sg with
    | false => exact by decide
    | true => exact by decide
theorem moveK_X {w : World} {mean : ExcName → Option Value} {mg mb : Str → Option Value}
    {dp un : Nat} {gd : Option (List Code)} {cn : Str} {cs : Scope} {a : Addr} {ccd : Value} {cl : List (Str × Addr)} {outer : List Env} {A₀ : Around} {base h₀ : Heap} {L : Addr} {m : Str → Option Value} {s : Shared} {RR : Result → Shared → Prop}
    {M dM R RW pl : Addr} {oM oD oR : Obj} {pc st : Int} {rs : List Int} {p : Addr} {k : Kd} {nm : Str} {ps : List Value} {tn : Tok} {led l1 l2 rest : List (Addr × Obj)}
    (B : Below A₀ base outer h₀) (F : Fr h₀ L s.heap m) (X : (hd.heap_1 w.params).In h₀) (XE : Ext w h₀)
    (N : News h₀ L s.heap led) (Pk1 : Pick M oM led l1) (Pk2 : Pick dM oD l1 l2) (Pk3 : Pick R oR l2 rest)
    (T : Top qv Lo mean mg mb h₀) (XB : (hd.heap_1 w.params).In base) (EB : Ext w base) (TB : Top qv Lo mean mg mb base) (hk : cs.kind = .function) (hk9 : k.Row nm ps) (hp : (p, tupOf ps) ∈ rest) (hM1 : oM = instObj 445 dM) (hM2 : MachD RW R pl pc st false oD) (hR : RegsAre rs oR) 
    (hdp : dp + 60 ≤ 500) (hun : un + 1200 ≤ 5000)
    (hno : k ≠ .mov → ∀ h' tk', Fr h₀ L h' m → News h₀ L h' led → RR (.ok (.ret (.bool false))) { s with heap := h', toks := tk' })
    (hyes : ∀ oD' oR' h₀' h' tk', KtsTurn (frs outer) h₀ h₀' → Fr h₀' L h' m → Below A₀ base outer h₀' → (hd.heap_1 w.params).In h₀' → Top qv Lo mean mg mb h₀' → Ext w h₀' → News h₀' L h' ((M, oM) :: (dM, oD') :: (R, oR') :: rest) → MachD RW R pl pc st k.ov oD' → RegsAre (k.out rs) oR' → k.ok rs → RR (.ok (.ret (.bool true))) { s with heap := h', toks := tk' }) :
    codeAny (model Challenge.rw_ok0167_01.prog w) (ktrTop dp un gd cn cs L a ccd cl outer) (.call (.ref 379) ⟨[.ref M, .str nm tn, .ref p], []⟩) RR s := by
  have hrl9 : recursionLimit = 1000 := rfl
  have hcl9 : cLine = 9900 := rfl
  by_cases hm : k = .mov
  · subst hm
    obtain ⟨rfl, t1, t2, t3, rfl⟩ := hk9
    exact movImm_C B F X N Pk1 Pk2 Pk3 T hk hp hM1 hM2 hR (by omega) (by omega) fun oR' h' tk' F' N' hR' => hyes oD oR' _ h' tk' KtsTurn.refl F' B X T XE N' hM2 hR' trivial
  · exact moveF_C B F X N T hk (kd_mv hk9 hm) (by omega) (by omega) (hno hm)
theorem divK_X {w : World} {mean : ExcName → Option Value} {mg mb : Str → Option Value}
    {dp un : Nat} {gd : Option (List Code)} {cn : Str} {cs : Scope} {a : Addr} {ccd : Value} {cl : List (Str × Addr)} {outer : List Env} {A₀ : Around} {base h₀ : Heap} {L : Addr} {m : Str → Option Value} {s : Shared} {RR : Result → Shared → Prop}
    {M dM R RW pl : Addr} {oM oD oR : Obj} {pc st : Int} {rs : List Int} {p : Addr} {k : Kd} {nm : Str} {ps : List Value} {tn : Tok} {led l1 l2 rest : List (Addr × Obj)}
    (B : Below A₀ base outer h₀) (F : Fr h₀ L s.heap m) (X : (hd.heap_1 w.params).In h₀) (XE : Ext w h₀)
    (N : News h₀ L s.heap led) (Pk1 : Pick M oM led l1) (Pk2 : Pick dM oD l1 l2) (Pk3 : Pick R oR l2 rest)
    (T : Top qv Lo mean mg mb h₀) (XB : (hd.heap_1 w.params).In base) (EB : Ext w base) (TB : Top qv Lo mean mg mb base) (hk : cs.kind = .function) (hk9 : k.Row nm ps) (hnm : k ≠ .mov) (hp : (p, tupOf ps) ∈ rest) (hM1 : oM = instObj 445 dM) (hM2 : MachD RW R pl pc st false oD) (hR : RegsAre rs oR) 
    (hdp : dp + 60 ≤ 500) (hun : un + 1200 ≤ 5000)
    (hno : k = .ret → ∀ h' tk', Fr h₀ L h' m → News h₀ L h' led → RR (.ok (.ret (.bool false))) { s with heap := h', toks := tk' })
    (hyes : ∀ oD' oR' h₀' h' tk', KtsTurn (frs outer) h₀ h₀' → Fr h₀' L h' m → Below A₀ base outer h₀' → (hd.heap_1 w.params).In h₀' → Top qv Lo mean mg mb h₀' → Ext w h₀' → News h₀' L h' ((M, oM) :: (dM, oD') :: (R, oR') :: rest) → MachD RW R pl pc st k.ov oD' → RegsAre (k.out rs) oR' → k.ok rs → RR (.ok (.ret (.bool true))) { s with heap := h', toks := tk' })
    (hexc : ∀ e dx od h₀' h' tk', KtsTurn (frs outer) h₀ h₀' → Fr h₀' L h' m → Below A₀ base outer h₀' → (hd.heap_1 w.params).In h₀' → Top qv Lo mean mg mb h₀' → Ext w h₀' → FlyAt .none h₀' L h' ((dx, od) :: (M, oM) :: (dM, oD) :: (R, oR) :: rest) e dx → WhatIs (Str.ofString "divide error") od → (∀ p ∈ (M, oM) :: (dM, oD) :: (R, oR) :: rest, p.1 ≠ dx) → ¬ k.ok rs → RR (.error (.ref e)) { s with heap := h', toks := tk' }) :
    codeAny (model Challenge.rw_ok0167_01.prog w) (ktrTop dp un gd cn cs L a ccd cl outer) (.call (.ref 400) ⟨[.ref M, .str nm tn, .ref p], []⟩) RR s := by
  have hrl9 : recursionLimit = 1000 := rfl
  have hcl9 : cLine = 9900 := rfl
  cases k with
  | mov => exact absurd rfl hnm
  | ret =>
    obtain ⟨rfl, -⟩ := hk9
    exact divF_C B F X N T hk (by decide) (by decide) (by decide) (by omega) (by omega) (hno rfl)
  | cqo n =>
    obtain ⟨rfl, ⟨t, rfl⟩, hn⟩ := hk9
    exact divCqo_C B F X N Pk1 Pk2 Pk3 T hk hp hM1 hM2 hR hn (by omega) (by omega) fun oR' h' tk' F' N' hR' => hyes oD oR' _ h' tk' KtsTurn.refl F' B X T XE N' hM2 hR' trivial
  | dv sg n i =>
    obtain ⟨hnm, ⟨t1, t2, rfl⟩, hn, h0, h1⟩ := hk9
    exact divAll_X B F X XE N Pk1 Pk2 Pk3 T XB EB TB hk hnm hp hM1 hM2 hR hn h0 h1 hdp hun hyes hexc
theorem wayK_X {w : World} {mean : ExcName → Option Value} {mg mb : Str → Option Value}
    {dp un : Nat} {gd : Option (List Code)} {cn : Str} {cs : Scope} {a : Addr} {ccd : Value} {cl : List (Str × Addr)} {outer : List Env} {A₀ : Around} {base h₀ : Heap} {L : Addr} {m : Str → Option Value} {s : Shared} {RR : Result → Shared → Prop}
    {M dM R RW pl : Addr} {oM oD oR oPi : Obj} {pc st : Int} {rs : List Int} {p : Addr} {k : Kd} {nm : Str} {ps : List Value} {tn : Tok} {led l1 l2 rest : List (Addr × Obj)}
    (B : Below A₀ base outer h₀) (F : Fr h₀ L s.heap m) (X : (hd.heap_1 w.params).In h₀) (XE : Ext w h₀)
    (N : News h₀ L s.heap led) (Pk1 : Pick M oM led l1) (Pk2 : Pick dM oD l1 l2) (Pk3 : Pick R oR l2 rest)
    (T : Top qv Lo mean mg mb h₀) (XB : (hd.heap_1 w.params).In base) (EB : Ext w base) (TB : Top qv Lo mean mg mb base) (hk : cs.kind = .function) (hk9 : k.Row nm ps) (hkr : k = .ret) (hpl : (pl, oPi) ∈ rest) (hPi : PileIs oPi) (hM1 : oM = instObj 445 dM) (hM2 : MachD RW R pl pc st false oD) (hR : RegsAre rs oR) 
    (hdp : dp + 60 ≤ 500) (hun : un + 1200 ≤ 5000)
    (hyes : ∀ oD' oR' h₀' h' tk', KtsTurn (frs outer) h₀ h₀' → Fr h₀' L h' m → Below A₀ base outer h₀' → (hd.heap_1 w.params).In h₀' → Top qv Lo mean mg mb h₀' → Ext w h₀' → News h₀' L h' ((M, oM) :: (dM, oD') :: (R, oR') :: rest) → MachD RW R pl pc st k.ov oD' → RegsAre (k.out rs) oR' → k.ok rs → RR (.ok (.ret (.bool true))) { s with heap := h', toks := tk' }) :
    codeAny (model Challenge.rw_ok0167_01.prog w) (ktrTop dp un gd cn cs L a ccd cl outer) (.call (.ref 421) ⟨[.ref M, .str nm tn, .ref p], []⟩) RR s := by
  have hrl9 : recursionLimit = 1000 := rfl
  have hcl9 : cLine = 9900 := rfl
  subst hkr
  obtain ⟨rfl, -⟩ := hk9
  exact wayRet_C B F X N Pk1 Pk2 Pk3 T hk hpl hPi hM1 hM2 hR (by omega) (by omega) fun oD' h' tk' F' N' hM' => hyes oD' oR _ h' tk' KtsTurn.refl F' B X T XE N' hM' hR trivial
section
theorem zz31 : True := by
  k_with "call ref" => (k_here; (with_reducible show wpAny _ _ (call (Value.ref _) _) _ _ _); k_dflt (refine' call_meth ?c1 ?c2 ?_; (case c1 => k_asm); (case c2 => k_mem); k_whole; (refine' moveK_X ?kB ?kF ?kX ?kE ?kN ?k1 ?k2 ?k3 ?kT ?kXB ?kEB ?kTB ?kk ?kK ?kp ?kM1 ?kM2 ?kR ?kd ?ku (fun hm' h' tk' F' N' => ?_) (fun oD' oR' h0' h' tk' T' F' B' X' TT' E' N' hM' hR' ok' => ?_); (case kB => k_asm); (case kF => k_asm); (case kX => k_asm); (case kE => k_asm); (case kN => k_asm); (case k1 => k_upd); (case kM1 => first | exact rfl | assumption); (case k2 => k_upd); (case kM2 => first | assumption | exact ⟨_, _, _, _, _, _, _, _, _, _, _, _, _, _, _, _, _, _, _, _, _, _, _, rfl⟩); (case k3 => k_upd); (case kR => assumption); (case kT => k_asm); (case kXB => k_asm); (case kEB => k_asm); (case kTB => k_asm); (case kk => first | exact rfl | assumption); (case kK => assumption); (case kp => k_mem); (case kd => ktr_room); (case ku => ktr_units))); (all_goals ((try dsimp only); (try k_sweep); (try k_fold))))
  k_with "call ref" => (k_here; (with_reducible show wpAny _ _ (call (Value.ref _) _) _ _ _); k_dflt (refine' call_meth ?c1 ?c2 ?_; (case c1 => k_asm); (case c2 => k_mem); k_whole; (refine' twoF_C ?kB ?kF ?kX ?kN ?kT ?kk ?kl ?kno ?k4 ?kd ?ku ?_; (case kB => k_asm); (case kF => k_asm); (case kX => k_asm); (case kN => k_asm); (case kT => k_asm); (case kk => first | exact rfl | assumption); (case kl => exact (kd_no (by assumption) (by assumption)).1); (case kno => exact (kd_no (by assumption) (by assumption)).2.1); (case k4 => exact (kd_no (by assumption) (by assumption)).2.2.1); (case kd => ktr_room); (case ku => ktr_units))); intro h' tk' F' N'; (all_goals ((try dsimp only); (try k_sweep); (try k_fold))))
  k_with "call ref" => (k_here; (with_reducible show wpAny _ _ (call (Value.ref _) _) _ _ _); k_dflt (refine' call_meth ?c1 ?c2 ?_; (case c1 => k_asm); (case c2 => k_mem); k_whole; (refine' shiftF_C ?kB ?kF ?kX ?kN ?kT ?kk ?kl ?kn ?ki ?ks ?kd ?ku ?_; (case kB => k_asm); (case kF => k_asm); (case kX => k_asm); (case kN => k_asm); (case kT => k_asm); (case kk => first | exact rfl | assumption); (case kl => exact (kd_no (by assumption) (by assumption)).1); (case kn => exact (kd_no (by assumption) (by assumption)).2.2.2.1); (case ki => exact (kd_no (by assumption) (by assumption)).2.2.2.2.1); (case ks => exact (kd_no (by assumption) (by assumption)).2.2.2.2.2); (case kd => ktr_room); (case ku => ktr_units))); intro h' tk' F' N'; (all_goals ((try dsimp only); (try k_sweep); (try k_fold))))
  k_with "call ref" => (k_here; (with_reducible show wpAny _ _ (call (Value.ref _) _) _ _ _); k_dflt (refine' call_meth ?c1 ?c2 ?_; (case c1 => k_asm); (case c2 => k_mem); k_whole; (refine' divK_X ?kB ?kF ?kX ?kE ?kN ?k1 ?k2 ?k3 ?kT ?kXB ?kEB ?kTB ?kk ?kK ?knm ?kp ?kM1 ?kM2 ?kR ?kd ?ku (fun hm' h' tk' F' N' => ?_) (fun oD' oR' h0' h' tk' T' F' B' X' TT' E' N' hM' hR' ok' => ?_) (fun e' dx' od' h0' h' tk' T' F' B' X' TT' E' Y' W' nd' no' => ?_); (case kB => k_asm); (case kF => k_asm); (case kX => k_asm); (case kE => k_asm); (case kN => k_asm); (case k1 => k_upd); (case kM1 => first | exact rfl | assumption); (case k2 => k_upd); (case kM2 => first | assumption | exact ⟨_, _, _, _, _, _, _, _, _, _, _, _, _, _, _, _, _, _, _, _, _, _, _, rfl⟩); (case k3 => k_upd); (case kR => assumption); (case kT => k_asm); (case kXB => k_asm); (case kEB => k_asm); (case kTB => k_asm); (case kk => first | exact rfl | assumption); (case kK => assumption); (case knm => assumption); (case kp => k_mem); (case kd => ktr_room); (case ku => ktr_units))); (all_goals ((try dsimp only); (try k_sweep); (try k_fold))))
  k_with "call ref" => (k_here; (with_reducible show wpAny _ _ (call (Value.ref _) _) _ _ _); k_dflt (refine' call_meth ?c1 ?c2 ?_; (case c1 => k_asm); (case c2 => k_mem); k_whole; (refine' wayK_X ?kB ?kF ?kX ?kE ?kN ?k1 ?k2 ?k3 ?kT ?kXB ?kEB ?kTB ?kk ?kK ?kr ?kpl ?kPi ?kM1 ?kM2 ?kR ?kd ?ku (fun oD' oR' h0' h' tk' T' F' B' X' TT' E' N' hM' hR' ok' => ?_); (case kB => k_asm); (case kF => k_asm); (case kX => k_asm); (case kE => k_asm); (case kN => k_asm); (case k1 => k_upd); (case kM1 => first | exact rfl | assumption); (case k2 => k_upd); (case kM2 => first | assumption | exact ⟨_, _, _, _, _, _, _, _, _, _, _, _, _, _, _, _, _, _, _, _, _, _, _, rfl⟩); (case k3 => k_upd); (case kR => assumption); (case kT => k_asm); (case kXB => k_asm); (case kEB => k_asm); (case kTB => k_asm); (case kk => first | exact rfl | assumption); (case kK => assumption); (case kr => assumption); (case kpl => k_mem); (case kPi => assumption); (case kd => ktr_room); (case ku => ktr_units))); (all_goals ((try dsimp only); (try k_sweep); (try k_fold))))
  trivial
set_option maxHeartbeats 8000000 in
theorem doAny_X {w : World} {mean : ExcName → Option Value} {mg mb : Str → Option Value}
    {dp un : Nat} {gd : Option (List Code)} {cn : Str} {cs : Scope} {a : Addr} {ccd : Value} {cl : List (Str × Addr)} {outer : List Env} {A₀ : Around} {base h₀ : Heap} {L : Addr} {m : Str → Option Value} {s : Shared} {Q E : Value → Shared → Prop}
    {M dM R RW pl : Addr} {oM oD oR : Obj} {pc st : Int} {rs : List Int} {x dx p : Addr} {oX oP oDr oPi : Obj} {k : Kd} {nm : Str} {ps : List Value} {led l1 l2 rest : List (Addr × Obj)}
    (B : Below A₀ base outer h₀) (F : Fr h₀ L s.heap m) (X : (hd.heap_1 w.params).In h₀) (XE : Ext w h₀)
    (N : News h₀ L s.heap led) (Pk1 : Pick M oM led l1) (Pk2 : Pick dM oD l1 l2) (Pk3 : Pick R oR l2 rest) 
    (T : Top qv Lo mean mg mb h₀) (XB : (hd.heap_1 w.params).In base) (EB : Ext w base) (TB : Top qv Lo mean mg mb base) (hk : cs.kind = .function) (m1 : (x, oX) ∈ rest) (m2 : (dx, oDr) ∈ rest) (m3 : (p, oP) ∈ rest) (m4 : (pl, oPi) ∈ rest) (hRow : RowIs nm ps dx p oX oDr oP) (hk9 : k.Row nm ps) (hPi : PileIs oPi) (hM1 : oM = instObj 445 dM) (hM2 : MachD RW R pl pc st false oD) (hR : RegsAre rs oR) 
    (hdp : dp + 80 ≤ 500) (hun : un + 1800 ≤ 5000)
    (hret : ∀ oD' oR' h₀' h' tk', KtsTurn (frs outer) h₀ h₀' → Fr h₀' L h' m → Below A₀ base outer h₀' → (hd.heap_1 w.params).In h₀' → Top qv Lo mean mg mb h₀' → Ext w h₀' → News h₀' L h' ((M, oM) :: (dM, oD') :: (R, oR') :: rest) → MachD RW R pl pc (st + 1) k.ov oD' → RegsAre (k.out rs) oR' → k.ok rs → Q .none { s with heap := h', toks := tk' })
    (hexc : ∀ e dx od oD' h₀' h' tk', KtsTurn (frs outer) h₀ h₀' → Fr h₀' L h' m → Below A₀ base outer h₀' → (hd.heap_1 w.params).In h₀' → Top qv Lo mean mg mb h₀' → Ext w h₀' → FlyAt .none h₀' L h' ((dx, od) :: (M, oM) :: (dM, oD') :: (R, oR) :: rest) e dx → WhatIs (Str.ofString "divide error") od → (∀ p ∈ (M, oM) :: (dM, oD') :: (R, oR) :: rest, p.1 ≠ dx) → MachD RW R pl pc (st + 1) false oD' → ¬ k.ok rs → E (.ref e) { s with heap := h', toks := tk' }) :
    wpAny (model Challenge.rw_ok0167_01.prog w) (ktrTop dp un gd cn cs L a ccd cl outer) (call (.ref 428) [.ref M, .ref x]) Q E s := by
  have hrl9 : recursionLimit = 1000 := rfl
  have hcl9 : cLine = 9900 := rfl
  have Pk : Picks [(M, oM), (dM, oD), (R, oR)] led rest := .cons Pk1 (.cons Pk2 (.cons Pk3 .nil))
  have N1 := Pk.news N
  have A1 := Pk.apart
  clear N Pk Pk1 Pk2 Pk3
  obtain ⟨q0, q1, q2, q3, q4, q5, q6, q7, q8, u0, u1, u2, u3, u4, u5, u6, u7, u8, mk, fl, ta, to, ts, rfl⟩ := hM2
  subst hM1
  simp only [List.cons_append, List.nil_append, Apart, AllNe, and_true, true_and] at N1 A1
  obtain ⟨⟨e1, e2⟩, r1, e3, r2, r3⟩ := A1
  obtain ⟨v1, v2, w1, w2, w3, kr, rfl, rfl, rfl⟩ := hRow
  obtain ⟨f8, f9⟩ := kd_head hk9
  have e_x1 : @Ne Nat x M := r1 _ m1
  have e_x2 : @Ne Nat x dM := r2 _ m1
  have e_x3 : @Ne Nat x R := r3 _ m1
  have e_dx1 : @Ne Nat dx M := r1 _ m2
  have e_dx2 : @Ne Nat dx dM := r2 _ m2
  have e_dx3 : @Ne Nat dx R := r3 _ m2
  have e_p1 : @Ne Nat p M := r1 _ m3
  have e_p2 : @Ne Nat p dM := r2 _ m3
  have e_p3 : @Ne Nat p R := r3 _ m3
  have e_pl1 : @Ne Nat pl M := r1 _ m4
  have e_pl2 : @Ne Nat pl dM := r2 _ m4
  have e_pl3 : @Ne Nat pl R := r3 _ m4
  replace N1 := newsIn (.tail _ (.tail _ (.tail _ m1))) N1
  replace N1 := newsIn (.tail _ (.tail _ (.tail _ (.tail _ m2)))) N1
  replace N1 := newsIn (.tail _ (.tail _ (.tail _ (.tail _ (.tail _ m3))))) N1
  replace N1 := newsIn (.tail _ (.tail _ (.tail _ (.tail _ (.tail _ (.tail _ m4)))))) N1
  refine wpAny_call ?_
  ktr_enter
  k_steps
  all_goals (try dsimp only)
  all_goals (rename Fr _ _ _ _ => F9; rename (∀ (g' h' : Heap) (m' : Str → Option Value), KtsTurn _ _ g' → Fr g' _ h' m' → _) => bk; rename KtsTurn _ _ _ => T9)
  all_goals first
    | (rename FlyAt _ _ _ _ _ _ _ => Y9
       obtain ⟨h9, T1, F1, B1, X1, TT1, XE1, K1⟩ := bk _ _ _ (KtsTurn.trans (by assumption) T9) F9
       rename (∀ p ∈ (_ : List (Addr × Obj)), p.1 ≠ (_ : Addr)) => nd9
       exact hexc _ _ _ _ _ _ _ T1 F1 B1 X1 TT1 XE1 ((Y9.back K1).sub (by (repeat' (refine fa_cons (by k_mem) ?_)); intro pD hD; repeat (first | exact hD | apply List.Mem.tail))) (by assumption) (nd_sub nd9 (by (repeat' (refine fa_cons (by k_mem) ?_)); intro pD hD; repeat (first | exact hD | apply List.Mem.tail))) ⟨_, _, _, _, _, _, _, _, _, _, _, _, _, _, _, _, _, _, _, _, _, _, _, rfl⟩ (by assumption))
    | (obtain ⟨h9, T1, F1, B1, X1, TT1, XE1, K1⟩ := bk _ _ _ T9 F9
       rename News _ _ _ (_ :: _) => N9
       exact hret _ _ _ _ _ T1 F1 B1 X1 TT1 XE1 (cb_drop (K1 _ N9) (by (repeat' (refine fa_cons (by k_mem) ?_)); intro pD hD; repeat (first | exact hD | apply List.Mem.tail))) (by assumption) (by assumption) (by assumption))
end
-- Sy
theorem zrSy : True := by first | (row_walk; done) | trivial
section
theorem zz32 : True := by
  k_with_none
  k_with "k_all" => ((intro pA hA; refine neN (Nat.ne_of_lt ?_); refine (by assumption : ∀ p ∈ _, p.1 < _) pA ?_; (repeat (first | exact hA | apply List.Mem.tail)); done))
  k_with "k_all" => (with_reducible assumption)
  k_with "k_upd" => ((first | exact Picks.nil | (refine' Picks.cons ?kuc ?kud; (case kuc => k_upd); (case kud => k_upd)) | (refine' Pick.head ?kua; (case kua => k_all)) | (refine' Pick.tail ?kua ?kub; (case kua => k_ne); (case kub => k_upd)) | (refine' Upd.head ?kua; (case kua => k_all)) | (refine' Upd.tail ?kua ?kub; (case kua => k_ne); (case kub => k_upd))))
  k_with "ktr_rel" => ((refine cb_drop (by assumption) ?_; (repeat' (refine fa_cons (by k_mem) ?_)); first | exact List.forall_mem_nil _ | (intro pD hD; repeat (first | exact hD | apply List.Mem.tail))))
  k_with "compareOp NotEq ref ref" => (k_here; k_dflt (refine' ne_K ?k1 ?k2 ?k3 ?k4 ?k5 ?k6 ?_; (case k1 => k_asm); (case k2 => k_mem); (case k3 => k_mem); (case k4 => l_intsC); (case k5 => l_intsC); (case k6 => ktr_units); k_whole))
  k_with "binaryOp FloorDiv int int" => (k_here; (with_reducible refine floordiv_int ?ke ?_ (Or.inl (noPy ?kp ?kq))); (case ke => first | omega | (split <;> omega)); (case kp => first | omega | (split <;> omega)); (case kq => first | omega | (split <;> omega)))
  k_with "call builtin:list.pop" => (k_here; k_dflt (refine' pop0_K ?k1 ?k2 ?k3 ?k4 ?_; (case k1 => k_asm); (case k2 => k_asm); (case k3 => k_upd); (case k4 => omega); k_whole); intro h' F' N')
  k_with "binaryOp Pow int int" => (k_here; first | (with_reducible refine powL_K 18446744073709551616 ?kb1 ?kb2 ?kb3 ?kb4 ?_; (case kb4 => decide +kernel); (case kb1 => decide); (case kb2 => decide); (case kb3 => decide)) | (with_reducible refine powL_K 9223372036854775808 ?kb1 ?kb2 ?kb3 ?kb4 ?_; (case kb4 => decide +kernel); (case kb1 => decide); (case kb2 => decide); (case kb3 => decide)) | (with_reducible refine powL_K 4294967296 ?kb1 ?kb2 ?kb3 ?kb4 ?_; (case kb4 => decide +kernel); (case kb1 => decide); (case kb2 => decide); (case kb3 => decide)) | (with_reducible refine powL_K 2147483648 ?kb1 ?kb2 ?kb3 ?kb4 ?_; (case kb4 => decide +kernel); (case kb1 => decide); (case kb2 => decide); (case kb3 => decide)) | (with_reducible refine powL_K 340282366920938463463374607431768211456 ?kb1 ?kb2 ?kb3 ?kb4 ?_; (case kb4 => decide +kernel); (case kb1 => decide); (case kb2 => decide); (case kb3 => decide)) | (with_reducible refine powL_K 170141183460469231731687303715884105728 ?kb1 ?kb2 ?kb3 ?kb4 ?_; (case kb4 => decide +kernel); (case kb1 => decide); (case kb2 => decide); (case kb3 => decide)))
  k_with "cell_enter" => ((refine' code_def ?k1 ?k2 ?k3 ?k4 ?k5 ?kA ?kF ?kK ?k6 ?k7 ?k8 ?k9 ?kB ?_ ?c2 ?c3 ?c4 ?c5; (case kA => exact rfl); (case kF => exact rfl); (case kK => first | assumption | exact rfl); (case k1 => k_asm); (case k2 => k_asm); (case k3 => k_asm); (case k4 => k_asm); (case k5 => k_asm); (case k6 => k_is); (case k7 => k_is); (case k8 => ktr_room); (case k9 => first | exact BindsTo.of_eq rfl | exact binds_K (by k_in) rfl (by k_is) rfl rfl rfl); (case c5 => decide); (case kB => exact locs rfl); (case c2 => exact rfl); (case c3 => exact rfl); (case c4 => exact rfl); k_whole; intro g' L' h' FG' F' N' B' X' T'; (try dsimp only); (try k_lift B'); (try k_fold)))
  k_with "ktr_units" => (((try simp only [units_in1, units_deeper, units_under_make, Around.mark_units]); (try dsimp only [ktrTop]); omega))
  k_with "ktr_room" => (((try simp only [depth_mark, depth_under_make, depth_under_kw, depth_in1, depth_deeper]); (try dsimp only [ktrTop]); omega))
  k_with "execs cons" => (k_here; (first | ((with_reducible refine gentok fun tk' => ?_); (with_reducible refine wpAny_execs_cons ?_)) | (with_reducible refine wpAny_execs_cons ?_)); (try dsimp only))
  k_with "execs nil" => (k_here; (refine wpAny_execs_nil ?_))
  k_with "call ref" => (k_here; (with_reducible show wpAny _ _ (call (Value.ref 461) [Value.ref _, Value.int _ _]) _ _ _); k_dflt (refine' draw_C ?kB ?kF ?kX ?kN ?kPk ?kT ?kk ?kP ?km ?km2 ?kd ?ku ?_; (case kP => assumption); (case kB => k_asm); (case kF => k_asm); (case kX => k_asm); (case kN => k_asm); (case kPk => k_upd); (case kT => k_asm); (case kk => first | exact rfl | assumption); (case km => first | decide | omega); (case km2 => first | decide | omega); (case kd => ktr_room); (case ku => ktr_units)); intro v' t' oP' oL' h' tk' F' N' hP' hlo' hhi'; (try dsimp only); (try k_sweep); (try k_fold))
  k_with "call ref" => (k_here; (with_reducible show wpAny _ _ (call (Value.ref 468) [Value.ref _, Value.ref _]) _ _ _); k_dflt (refine' pick_C ?kB ?kF ?kX ?kN ?kPk ?kT ?kk ?kP ?kI ?km ?km2 ?kd ?ku ?_; (case kP => assumption); (case kB => k_asm); (case kF => k_asm); (case kX => k_asm); (case kN => k_asm); (case kPk => k_upd); (case kT => k_asm); (case kk => first | exact rfl | assumption); (case kI => first | assumption | l_intsW); (case km => first | decide | omega); (case km2 => first | decide | omega); (case kd => ktr_room); (case ku => ktr_units)); intro v' t' oP' oL' h' tk' F' N' hP' hM'; (try dsimp only); (try k_sweep); (try k_fold))
  k_with "call ref" => (k_here; (with_reducible show wpAny _ _ (call (Value.ref 81) [Value.int _ _, Value.int _ _]) _ _ _); k_dflt (refine' wrap_C ?kB ?kF ?kX ?kN ?kT ?kk ?kn ?kd ?ku ?_; (case kB => k_asm); (case kF => k_asm); (case kX => k_asm); (case kN => k_asm); (case kT => k_asm); (case kk => first | exact rfl | assumption); (case kn => first | omega | decide); (case kd => ktr_room); (case ku => ktr_units)); intro t' h' tk' F' N'; (try dsimp only); (try k_sweep); (try k_fold))
  k_with "ktr_enter" => ((refine' enterX ?k1 ?k2 ?k3 ?kE ?k4 ?k5 ?kXB ?kEB ?kTB ?kA ?kF ?kK ?k6 ?k7 ?k8 ?k9 ?kB ?_ ?c2 ?c3 ?c4 ?c5; (case kA => exact rfl); (case kF => exact rfl); (case kK => assumption); (case k1 => k_asm); (case k2 => k_asm); (case k3 => k_asm); (case kE => k_asm); (case k4 => k_asm); (case k5 => k_asm); (case kXB => k_asm); (case kEB => k_asm); (case kTB => k_asm); (case k6 => k_is); (case k7 => k_is); (case k8 => ktr_room); (case k9 => first | exact BindsTo.of_eq rfl | exact binds_K (by k_in) rfl (by k_is) rfl rfl rfl); (case c5 => decide); (case kB => exact locs rfl); (case c2 => exact rfl); (case c3 => exact rfl); (case c4 => exact rfl); k_whole; intro g' L' h' FG' F' N' B' X' T' E' back'; (try dsimp only); (try k_fold)))
  k_with "leaving ref" => (k_here; (refine' leave_led ?kB ?kF ?kk ?kY ?_; (case kB => k_asm); (case kF => k_asm); (case kY => first | exact Or.inl (by assumption) | exact Or.inr (by assumption)); (case kk => exact rfl); k_whole); intro h' g' T' F' Y' B')
  k_with "exec Raise some none" => (k_here; (refine' raise_K ?kh ?_; (case kh => with_unfolding_all rfl)))
  k_with "call ref" => (k_here; (with_reducible show wpAny _ _ (call (Value.ref 59) [Value.str _ _]) _ _ _); k_dflt (refine' fault_C ?kB ?kF ?kX ?kN ?kT ?kA ?kf ?kK ?kd ?_; (case kA => exact rfl); (case kf => exact rfl); (case kK => first | assumption | exact rfl); (case kB => k_asm); (case kF => k_asm); (case kX => k_asm); (case kN => k_asm); (case kT => k_asm); (case kd => ktr_room)); intro e' dx' t' oe' od' h' tk' F' N' n1' n2' n3' hE'; obtain ⟨⟨sl', hR'⟩, hW'⟩ := hE'; subst hR'; (replace hW' : WhatIs _ _ := (by obtain ⟨q1, q2, t1, t2, t3, n, e⟩ := hW'; exact ⟨q1, q2, t1, t2, t3, n, e⟩)); (have Y' := flyNew_of N' n2' n3'); (try dsimp only); (try k_sweep); (try k_fold))
  k_with "Exists" => (refine ⟨_, _, _, _, rfl, (by k_in), News.get (by k_asm) (by k_mem), ?_⟩)
  k_with "UnrEndW" => (k_here; refine' unrW (off5 (by assumption)) ?uF ?uN ?uI ?us ⟨by k_subL, ?_⟩; (case uF => assumption); (case uN => k_asm); (case uI => ((repeat' (refine fa_cons (by k_mem) ?_)); exact List.forall_mem_nil _)); (case us => ((repeat' (refine fa_cons (by k_mem) ?_)); first | exact List.forall_mem_nil _ | (intro pD hD; repeat (first | exact hD | apply List.Mem.tail)))))
  k_with "UnrEndW" => (k_here; refine' unrW (off1 (by assumption)) ?uF ?uN ?uI ?us ⟨by k_subL, ?_⟩; (case uF => assumption); (case uN => k_asm); (case uI => ((repeat' (refine fa_cons (by k_mem) ?_)); exact List.forall_mem_nil _)); (case us => ((repeat' (refine fa_cons (by k_mem) ?_)); first | exact List.forall_mem_nil _ | (intro pD hD; repeat (first | exact hD | apply List.Mem.tail)))))
  k_with "UnrEnd" => (k_here; refine' unrI ?uo ?uF ?uN ?uI ?us ?_; (case uo => assumption); (case uF => assumption); (case uN => k_asm); (case uI => k_mem); (case us => ((repeat' (refine fa_cons (by k_mem) ?_)); first | exact List.forall_mem_nil _ | (intro pD hD; repeat (first | exact hD | apply List.Mem.tail)))))
  k_with "pyIter ref" => (k_here; (with_reducible show wpAny _ _ (pyIter (Value.ref _)) (fun it s₂ => TurnsAt _ _ _ _ _ _ _ _ _ it s₂) _ _); (rename Fr _ _ _ _ => lF'); (rename News _ _ _ _ => lN'); (with_unfolding_all refine' iter_tupTurns ?h1 lF' lN' ?h2 ?h3 ?h4 ?_; (case h1 => exact rfl); (case h2 => k_mem); (case h3 => exact rfl); (case h4 => exact rfl)); clear lF' lN'; intro i' l1; (try k_lt l1))
  k_with "compareOp Eq str str" => (k_here; k_dflt (refine' eq_no ?ke ?_; (case ke => with_reducible assumption)))
  k_with "compareOp In str ref" => (k_here; (with_reducible show wpAny _ _ (compareOp CmpOp.In (Value.str _ _) (Value.ref _)) _ _ _); (with_unfolding_all refine' tin_no ?k1 ?k2 ?k3 ?_; (case k1 => exact News.isTup (by k_asm) (by news_mem)); (case k2 => kde_strs); (case k3 => assumption); k_whole))
  k_with "compareOp NotIn str ref" => (k_here; (with_reducible show wpAny _ _ (compareOp CmpOp.NotIn (Value.str _ _) (Value.ref _)) _ _ _); (with_unfolding_all refine' tnot_no ?k1 ?k2 ?k3 ?_; (case k1 => exact News.isTup (by k_asm) (by news_mem)); (case k2 => kde_strs); (case k3 => assumption); k_whole))
  k_with "subscriptTail Name Slice str ref" => (k_here; (with_reducible show wpAny _ _ (subscriptTail _ (Expr.Slice (some _) none none _) _ _) _ _ _); (with_reducible rename Fr _ _ _ _ => F'); (with_reducible rename News _ _ _ _ => N'); (refine slice_strN_sn (hsz := ?hsz) (s := ⟨_, _, _, _, _⟩) F' N' ?_); (case hsz => (rw [sizeLine_eq]; omega)); intro h' t' tk' F' N')
  k_with "subscriptTail Name Slice str ref" => (k_here; (with_reducible show wpAny _ _ (subscriptTail _ (Expr.Slice none (some _) none _) _ _) _ _ _); (with_reducible rename Fr _ _ _ _ => F'); (with_reducible rename News _ _ _ _ => N'); (refine slice_strN_ns (hsz := ?hsz) (s := ⟨_, _, _, _, _⟩) F' N' ?_); (case hsz => (rw [sizeLine_eq]; omega)); intro h' t' tk' F' N')
  k_with "compareOp NotEq str str" => (k_here; k_dflt (refine' ne_yes ?ke ?_; (case ke => with_reducible assumption)))
  k_with "call ref" => (k_here; (with_reducible show wpAny _ _ (call (Value.ref 350) [Value.ref _, Value.int _ _, Value.int _ _, Value.int _ _]) _ _ _); k_dflt (refine' put4_C ?kB ?kF ?kX ?kN ?k1 ?k2 ?k3 ?kT ?kk ?kM1 ?kM2 ?kR ?ki0 ?ki1 ?kn ?kd ?ku ?_; (case kB => k_asm); (case kF => k_asm); (case kX => k_asm); (case kN => k_asm); (case k1 => k_upd); (case kM1 => first | exact rfl | assumption); (case k2 => k_upd); (case kM2 => first | assumption | exact ⟨_, _, _, _, _, _, _, _, _, _, _, _, _, _, _, _, _, _, _, _, _, _, _, rfl⟩); (case k3 => k_upd); (case kR => assumption); (case kT => k_asm); (case kk => first | exact rfl | assumption); (case ki0 => first | decide | omega); (case ki1 => first | decide | omega); (case kn => first | assumption | omega | decide); (case kd => ktr_room); (case ku => ktr_units)); intro oR' h' tk' F' N' hR'; (try dsimp only); (try k_sweep); (try k_fold))
  k_with "call ref" => (k_here; (with_reducible show wpAny _ _ (call (Value.ref 350) [Value.ref _, Value.int _ _, Value.int _ _]) _ _ _); k_dflt (refine' put3_C ?kB ?kF ?kX ?kN ?k1 ?k2 ?k3 ?kT ?kk ?kM1 ?kM2 ?kR ?ki0 ?ki1 ?kd ?ku ?_; (case kB => k_asm); (case kF => k_asm); (case kX => k_asm); (case kN => k_asm); (case k1 => k_upd); (case kM1 => first | exact rfl | assumption); (case k2 => k_upd); (case kM2 => first | assumption | exact ⟨_, _, _, _, _, _, _, _, _, _, _, _, _, _, _, _, _, _, _, _, _, _, _, rfl⟩); (case k3 => k_upd); (case kR => assumption); (case kT => k_asm); (case kk => first | exact rfl | assumption); (case ki0 => first | decide | omega); (case ki1 => first | decide | omega); (case kd => ktr_room); (case ku => ktr_units)); intro oR' h' tk' F' N' hR'; (try dsimp only); (try k_sweep); (try k_fold))
  k_with "call ref" => (k_here; (with_reducible show wpAny _ _ (call (Value.ref 358) [Value.ref _, Value.int _ _, Value.int _ _]) _ _ _); k_dflt (refine' take_C ?kB ?kF ?kX ?kN ?k1 ?k2 ?k3 ?kT ?kk ?kM1 ?kM2 ?kR ?ki0 ?ki1 ?kn ?kd ?ku ?_; (case kB => k_asm); (case kF => k_asm); (case kX => k_asm); (case kN => k_asm); (case k1 => k_upd); (case kM1 => first | exact rfl | assumption); (case k2 => k_upd); (case kM2 => first | assumption | exact ⟨_, _, _, _, _, _, _, _, _, _, _, _, _, _, _, _, _, _, _, _, _, _, _, rfl⟩); (case k3 => k_upd); (case kR => assumption); (case kT => k_asm); (case kk => first | exact rfl | assumption); (case ki0 => first | decide | omega); (case ki1 => first | decide | omega); (case kn => first | assumption | omega | decide); (case kd => ktr_room); (case ku => ktr_units)); intro t' h' tk' F' N'; (try dsimp only); (try k_sweep); (try k_fold))
  k_with "call ref" => (k_here; (with_reducible show wpAny _ _ (call (Value.ref 428) [Value.ref _, Value.ref _]) _ _ _); k_dflt (refine' doAny_X ?kB ?kF ?kX ?kE ?kN ?k1 ?k2 ?k3 ?kT ?kXB ?kEB ?kTB ?kk ?m1 ?m2 ?m3 ?m4 ?kRow ?kK ?kPi ?kM1 ?kM2 ?kR ?kd ?ku (fun oD' oR' h0' h' tk' T' F' B' X' TT' E' N' hM' hR' ok' => ?_) (fun e' dx' od' oD' h0' h' tk' T' F' B' X' TT' E' Y' W' nd' hM' no' => ?_); (case kB => k_asm); (case kF => k_asm); (case kX => k_asm); (case kE => k_asm); (case kN => k_asm); (case k1 => k_upd); (case kM1 => first | exact rfl | assumption); (case k2 => k_upd); (case kM2 => first | assumption | exact ⟨_, _, _, _, _, _, _, _, _, _, _, _, _, _, _, _, _, _, _, _, _, _, _, rfl⟩); (case k3 => k_upd); (case kR => assumption); (case kT => k_asm); (case kXB => k_asm); (case kEB => k_asm); (case kTB => k_asm); (case kk => first | exact rfl | assumption); (case m1 => k_mem); (case kRow => assumption); (case m2 => k_mem); (case m3 => k_mem); (case m4 => k_mem); (case kK => assumption); (case kPi => assumption); (case kd => ktr_room); (case ku => ktr_units)); (all_goals ((try dsimp only); (try k_sweep); (try k_fold))); rotate_left)
  k_with "subscriptTail" => (k_here; (with_reducible show wpAny _ _ (subscriptTail _ _ (Value.ref _) (Value.int _ _)) _ _ _); k_dflt (refine' row_item ?k1 ?k2 ?k3 ?k4 ?_ ?k5; (case k1 => k_asm); (case k2 => k_mem); (case k3 => with_reducible assumption); (case k4 => omega); (case k5 => with_unfolding_all rfl); k_whole))
  k_with "call builtin:len" => (k_here; (with_reducible show wpAny _ _ (call (Value.builtin "len") [Value.ref _]) _ _ _); k_dflt (refine' row_len ?k1 ?k2 ?k3 ?_; (case k1 => k_asm); (case k2 => k_mem); (case k3 => (show List.length _ ≤ 1000; omega)); k_whole))
  trivial
set_option maxHeartbeats 8000000 in
theorem step_X {w : World} {mean : ExcName → Option Value} {mg mb : Str → Option Value}
    {dp un : Nat} {gd : Option (List Code)} {cn : Str} {cs : Scope} {a : Addr} {ccd : Value} {cl : List (Str × Addr)} {outer : List Env} {A₀ : Around} {base h₀ : Heap} {L : Addr} {m : Str → Option Value} {s : Shared} {Q E : Value → Shared → Prop}
    {M dM R RW pl : Addr} {oM oD oR : Obj} {st : Int} {rs : List Int} {j kk : Nat} {rows : List Value} {x dx p : Addr} {oX oP oDr oPi : Obj} {k : Kd} {nm : Str} {ps : List Value} {led l1 l2 rest : List (Addr × Obj)}
    (B : Below A₀ base outer h₀) (F : Fr h₀ L s.heap m) (X : (hd.heap_1 w.params).In h₀) (XE : Ext w h₀)
    (N : News h₀ L s.heap led) (Pk1 : Pick M oM led l1) (Pk2 : Pick dM oD l1 l2) (Pk3 : Pick R oR l2 rest) 
    (T : Top qv Lo mean mg mb h₀) (XB : (hd.heap_1 w.params).In base) (EB : Ext w base) (TB : Top qv Lo mean mg mb base) (hk : cs.kind = .function) (m0 : (RW, listOf rows.toArray kk) ∈ rest) (m1 : (x, oX) ∈ rest) (m2 : (dx, oDr) ∈ rest) (m3 : (p, oP) ∈ rest) (m4 : (pl, oPi) ∈ rest) (hget : rows[j]? = some (.ref x)) (hlen : rows.length ≤ 8) (hRow : RowIs nm ps dx p oX oDr oP) (hk9 : k.Row nm ps) (hPi : PileIs oPi) (hM1 : oM = instObj 445 dM) (hM2 : MachD RW R pl (j : Int) st false oD) (hR : RegsAre rs oR) 
    (hdp : dp + 100 ≤ 500) (hun : un + 2200 ≤ 5000)
    (hret : ∀ oD' oR' h₀' h' tk', KtsTurn (frs outer) h₀ h₀' → Fr h₀' L h' m → Below A₀ base outer h₀' → (hd.heap_1 w.params).In h₀' → Top qv Lo mean mg mb h₀' → Ext w h₀' → News h₀' L h' ((M, oM) :: (dM, oD') :: (R, oR') :: rest) → MachD RW R pl ((j : Int) + 1) (st + 1) k.ov oD' → RegsAre (k.out rs) oR' → k.ok rs → Q .none { s with heap := h', toks := tk' })
    (hexc : ∀ e dx od oD' h₀' h' tk', KtsTurn (frs outer) h₀ h₀' → Fr h₀' L h' m → Below A₀ base outer h₀' → (hd.heap_1 w.params).In h₀' → Top qv Lo mean mg mb h₀' → Ext w h₀' → FlyAt .none h₀' L h' ((dx, od) :: (M, oM) :: (dM, oD') :: (R, oR) :: rest) e dx → WhatIs (Str.ofString "divide error") od → (∀ p ∈ (M, oM) :: (dM, oD') :: (R, oR) :: rest, p.1 ≠ dx) → MachD RW R pl ((j : Int) + 1) (st + 1) false oD' → ¬ k.ok rs → E (.ref e) { s with heap := h', toks := tk' }) :
    wpAny (model Challenge.rw_ok0167_01.prog w) (ktrTop dp un gd cn cs L a ccd cl outer) (call (.ref 435) [.ref M]) Q E s := by
  have hrl9 : recursionLimit = 1000 := rfl
  have hcl9 : cLine = 9900 := rfl
  have Pk : Picks [(M, oM), (dM, oD), (R, oR)] led rest := .cons Pk1 (.cons Pk2 (.cons Pk3 .nil))
  have N1 := Pk.news N
  have A1 := Pk.apart
  clear N Pk Pk1 Pk2 Pk3
  obtain ⟨q0, q1, q2, q3, q4, q5, q6, q7, q8, u0, u1, u2, u3, u4, u5, u6, u7, u8, mk, fl, ta, to, ts, rfl⟩ := hM2
  subst hM1
  simp only [List.cons_append, List.nil_append, Apart, AllNe, and_true, true_and] at N1 A1
  obtain ⟨⟨e1, e2⟩, r1, e3, r2, r3⟩ := A1
  have hj : j < rows.length := (List.getElem?_eq_some_iff.mp hget).1
  have e_RW1 : @Ne Nat RW M := r1 _ m0
  have e_RW2 : @Ne Nat RW dM := r2 _ m0
  have e_RW3 : @Ne Nat RW R := r3 _ m0
  have e_x1 : @Ne Nat x M := r1 _ m1
  have e_x2 : @Ne Nat x dM := r2 _ m1
  have e_x3 : @Ne Nat x R := r3 _ m1
  have e_dx1 : @Ne Nat dx M := r1 _ m2
  have e_dx2 : @Ne Nat dx dM := r2 _ m2
  have e_dx3 : @Ne Nat dx R := r3 _ m2
  have e_p1 : @Ne Nat p M := r1 _ m3
  have e_p2 : @Ne Nat p dM := r2 _ m3
  have e_p3 : @Ne Nat p R := r3 _ m3
  have e_pl1 : @Ne Nat pl M := r1 _ m4
  have e_pl2 : @Ne Nat pl dM := r2 _ m4
  have e_pl3 : @Ne Nat pl R := r3 _ m4
  replace N1 := newsIn (.tail _ (.tail _ (.tail _ m0))) N1
  replace N1 := newsIn (.tail _ (.tail _ (.tail _ (.tail _ m1)))) N1
  replace N1 := newsIn (.tail _ (.tail _ (.tail _ (.tail _ (.tail _ m2))))) N1
  replace N1 := newsIn (.tail _ (.tail _ (.tail _ (.tail _ (.tail _ (.tail _ m3)))))) N1
  replace N1 := newsIn (.tail _ (.tail _ (.tail _ (.tail _ (.tail _ (.tail _ (.tail _ m4))))))) N1
  refine wpAny_call ?_
  ktr_enter
  k_steps
  all_goals (try dsimp only)
  all_goals (rename Fr _ _ _ _ => F9; rename (∀ (g' h' : Heap) (m' : Str → Option Value), KtsTurn _ _ g' → Fr g' _ h' m' → _) => bk; rename KtsTurn _ _ _ => T9)
  · obtain ⟨h9, T1, F1, B1, X1, TT1, XE1, K1⟩ := bk _ _ _ (KtsTurn.trans (by assumption) T9) F9
    rename FlyAt _ _ _ _ _ _ _ => Y9
    rename (∀ p ∈ (_ : List (Addr × Obj)), p.1 ≠ (_ : Addr)) => nd9
    exact hexc _ _ _ _ _ _ _ T1 F1 B1 X1 TT1 XE1 ((Y9.back K1).sub (by (repeat' (refine fa_cons (by k_mem) ?_)); intro pD hD; repeat (first | exact hD | apply List.Mem.tail))) (by assumption) (nd_sub nd9 (by (repeat' (refine fa_cons (by k_mem) ?_)); intro pD hD; repeat (first | exact hD | apply List.Mem.tail))) (by assumption) (by assumption)
  · obtain ⟨h9, T1, F1, B1, X1, TT1, XE1, K1⟩ := bk _ _ _ T9 F9
    rename News _ _ _ (_ :: _) => N9
    exact hret _ _ _ _ _ T1 F1 B1 X1 TT1 XE1 (cb_drop (K1 _ N9) (by (repeat' (refine fa_cons (by k_mem) ?_)); intro pD hD; repeat (first | exact hD | apply List.Mem.tail))) (by assumption) (by assumption) (by assumption)
end
-- Ct
theorem zrCt : True := by first | (row_walk; done) | trivial
theorem zz33 : True := by
  k_with_none
  k_with "k_all" => ((intro pA hA; refine neN (Nat.ne_of_lt ?_); refine (by assumption : ∀ p ∈ _, p.1 < _) pA ?_; (repeat (first | exact hA | apply List.Mem.tail)); done))
  k_with "k_all" => (with_reducible assumption)
  k_with "k_upd" => ((first | exact Picks.nil | (refine' Picks.cons ?kuc ?kud; (case kuc => k_upd); (case kud => k_upd)) | (refine' Pick.head ?kua; (case kua => k_all)) | (refine' Pick.tail ?kua ?kub; (case kua => k_ne); (case kub => k_upd)) | (refine' Upd.head ?kua; (case kua => k_all)) | (refine' Upd.tail ?kua ?kub; (case kua => k_ne); (case kub => k_upd))))
  k_with "ktr_rel" => ((refine cb_drop (by assumption) ?_; (repeat' (refine fa_cons (by k_mem) ?_)); first | exact List.forall_mem_nil _ | (intro pD hD; repeat (first | exact hD | apply List.Mem.tail))))
  k_with "compareOp NotEq ref ref" => (k_here; k_dflt (refine' ne_K ?k1 ?k2 ?k3 ?k4 ?k5 ?k6 ?_; (case k1 => k_asm); (case k2 => k_mem); (case k3 => k_mem); (case k4 => l_intsC); (case k5 => l_intsC); (case k6 => ktr_units); k_whole))
  k_with "binaryOp FloorDiv int int" => (k_here; (with_reducible refine floordiv_int ?ke ?_ (Or.inl (noPy ?kp ?kq))); (case ke => first | omega | (split <;> omega)); (case kp => first | omega | (split <;> omega)); (case kq => first | omega | (split <;> omega)))
  k_with "call builtin:list.pop" => (k_here; k_dflt (refine' pop0_K ?k1 ?k2 ?k3 ?k4 ?_; (case k1 => k_asm); (case k2 => k_asm); (case k3 => k_upd); (case k4 => omega); k_whole); intro h' F' N')
  k_with "binaryOp Pow int int" => (k_here; first | (with_reducible refine powL_K 18446744073709551616 ?kb1 ?kb2 ?kb3 ?kb4 ?_; (case kb4 => decide +kernel); (case kb1 => decide); (case kb2 => decide); (case kb3 => decide)) | (with_reducible refine powL_K 9223372036854775808 ?kb1 ?kb2 ?kb3 ?kb4 ?_; (case kb4 => decide +kernel); (case kb1 => decide); (case kb2 => decide); (case kb3 => decide)) | (with_reducible refine powL_K 4294967296 ?kb1 ?kb2 ?kb3 ?kb4 ?_; (case kb4 => decide +kernel); (case kb1 => decide); (case kb2 => decide); (case kb3 => decide)) | (with_reducible refine powL_K 2147483648 ?kb1 ?kb2 ?kb3 ?kb4 ?_; (case kb4 => decide +kernel); (case kb1 => decide); (case kb2 => decide); (case kb3 => decide)) | (with_reducible refine powL_K 340282366920938463463374607431768211456 ?kb1 ?kb2 ?kb3 ?kb4 ?_; (case kb4 => decide +kernel); (case kb1 => decide); (case kb2 => decide); (case kb3 => decide)) | (with_reducible refine powL_K 170141183460469231731687303715884105728 ?kb1 ?kb2 ?kb3 ?kb4 ?_; (case kb4 => decide +kernel); (case kb1 => decide); (case kb2 => decide); (case kb3 => decide)))
  k_with "cell_enter" => ((refine' code_def ?k1 ?k2 ?k3 ?k4 ?k5 ?kA ?kF ?kK ?k6 ?k7 ?k8 ?k9 ?kB ?_ ?c2 ?c3 ?c4 ?c5; (case kA => exact rfl); (case kF => exact rfl); (case kK => first | assumption | exact rfl); (case k1 => k_asm); (case k2 => k_asm); (case k3 => k_asm); (case k4 => k_asm); (case k5 => k_asm); (case k6 => k_is); (case k7 => k_is); (case k8 => ktr_room); (case k9 => first | exact BindsTo.of_eq rfl | exact binds_K (by k_in) rfl (by k_is) rfl rfl rfl); (case c5 => decide); (case kB => exact locs rfl); (case c2 => exact rfl); (case c3 => exact rfl); (case c4 => exact rfl); k_whole; intro g' L' h' FG' F' N' B' X' T'; (try dsimp only); (try k_lift B'); (try k_fold)))
  k_with "ktr_units" => (((try simp only [units_in1, units_deeper, units_under_make, Around.mark_units]); (try dsimp only [ktrTop]); omega))
  k_with "ktr_room" => (((try simp only [depth_mark, depth_under_make, depth_under_kw, depth_in1, depth_deeper]); (try dsimp only [ktrTop]); omega))
  k_with "execs cons" => (k_here; (first | ((with_reducible refine gentok fun tk' => ?_); (with_reducible refine wpAny_execs_cons ?_)) | (with_reducible refine wpAny_execs_cons ?_)); (try dsimp only))
  k_with "execs nil" => (k_here; (refine wpAny_execs_nil ?_))
  trivial
theorem exc59 (w : World) : ∃ nm qn N bs bm hdct sn sub ab col dd k0 k1 k2 k3 k5 newId, (hd.heap_1 w.params).lookup 59 = some (excClassObj nm qn 59 N bs bm hdct sn sub ab col dd k0 k1 k2 k3 k5 newId) ∧ bm.contains (.type "BaseException") = true := ⟨_, _, _, _, _, _, _, _, _, _, _, _, _, _, _, _, _, rfl, rfl⟩
section
variable {prog : Program} {w : World} {A₀ : Around} {E : Value → Shared → Prop} {s' : Shared} {base g : Heap} {outer : List Env} {L a e dx : Addr} {m : Str → Option Value} {name : Str} {scope : Scope} {cd : Value} {b₀ : Stmt} {suite : List Stmt} {pos np : Pos} {rest : List ExceptHandler} {Q : Flow → Shared → Prop} {news : List (Addr × Obj)}
  {mean : ExcName → Option Value} {mg mb : Str → Option Value} {x n : Str}
theorem caught_led (B : Below A₀ base outer g) (F : Fr g L s'.heap m) (hk : scope.kind = .function) (Y : FlyAt .none g L s'.heap news e dx) (XB : (hd.heap_1 w.params).In base) (TB : Top qv Lo mean mg mb base)
    (ex : nsIn (hd.heap_1 w.params) mainGlobals x = some (some (.ref 59)))
    (k : ∀ h' g', KtsTurn (frs outer) g g' → Fr g' L h' m → FlyAt .none g' L h' news e dx → Below A₀ base outer g' →
      wpAny (model prog w) ((A₀.deeper (envOf name scope L a cd)).mark (some (.ref e))) (execs (b₀ :: suite) (envOf name scope L a cd)) Q E { s' with heap := h' })
    (hx : (envOf name scope L a cd).kindOf x = some .globalImplicit := by rfl) (hd9 : (x == ("__debug__" : Str)) = false := by decide)
    (hE : PassesOwnAt (model prog w) ((A₀.deeper (envOf name scope L a cd)).mark (some (.ref e))) (A₀.deeper (envOf name scope L a cd)) (envOf name scope L a cd) E := by passes_own) :
    wpAny (model prog w) (A₀.deeper (envOf name scope L a cd)) (noteFrame (.ref e) (envOf name scope L a cd))
      (fun _ s₂ => wpAny (model prog w) (A₀.deeper (envOf name scope L a cd)) (setFlight (.ref e) none) (fun _ s₃ =>
        wpAny (model prog w) (A₀.deeper (envOf name scope L a cd)) (handleBy (.ref e) (envOf name scope L a cd) (.ExceptHandler (some (.Name x np)) none (b₀ :: suite) pos :: rest)) Q E s₃) E s₂) E s' := by
  refine note_led B F hk (Or.inr Y) fun h₁ g₁ T₁ F₁ Y₁ B₁ => ?_
  refine flight_led (s' := { s' with heap := h₁ }) F₁ Y₁ fun h₂ F₂ Y₂ => ?_
  have X₂ : (hd.heap_1 w.params).In g₁ := XB.keeps B₁.stays
  have P₂ : TopRead qv Lo mg mb g₁ := topRead_of (TB.keeps B₁.stays)
  obtain ⟨nm, qn, N, bs, bm, hdct, sn, sub, ab, col, dd, k0, k1, k2, k3, k5, newId, hC, hbase⟩ := exc59 w
  have hC₂ := F₂.keep _ _ (X₂ _ _ hC)
  obtain ⟨oe, vs, T, oT, ts, N, hne, hc, r⟩ := id Y₂
  refine wpAny_handleBy_cons (codeAny_handlers_test (name_K F₂ X₂ P₂ ex ?_ hk hx hd9)) (by intro q; cases q)
  refine wpAny_excMatches_sub_self hC₂ (N (e, oe) (.head _)).1 hc hbase (codeAny_handlers_suite ?_)
  refine flight_led (s' := { s' with heap := h₂ }) F₂ Y₂ fun h₃ F₃ Y₃ => ?_
  exact wpAny_passesOwnAt hE (k h₃ g₁ T₁ F₃ Y₃ B₁)
theorem caught_ledN (B : Below A₀ base outer g) (F : Fr g L s'.heap m) (hk : scope.kind = .function) (Y : FlyAt .none g L s'.heap news e dx) (XB : (hd.heap_1 w.params).In base) (TB : Top qv Lo mean mg mb base)
    (ex : nsIn (hd.heap_1 w.params) mainGlobals x = some (some (.ref 59)))
    (k : ∀ h' g' tk, KtsTurn (frs outer) g g' → Fr g' L h' (fun y => if y = n then some (.ref e) else m y) → FlyAt .none g' L h' news e dx → Below A₀ base outer g' →
      wpAny (model prog w) ((A₀.deeper (envOf name scope L a cd)).mark (some (.ref e))) (execs (b₀ :: suite) (envOf name scope L a cd))
        (fun f s₄ => wpAny (model prog w) (A₀.deeper (envOf name scope L a cd)) (do bindName (envOf name scope L a cd) n .none; unbindBehindTheSuite (envOf name scope L a cd) n pos) (fun _ s₅ => Q f s₅) E s₄)
        (AsSuiteRaised (model prog w) ((A₀.deeper (envOf name scope L a cd)).mark (some (.ref e))) (envOf name scope L a cd) n pos (notedBy (model prog w) ((A₀.deeper (envOf name scope L a cd)).mark (some (.ref e))) (envOf name scope L a cd) (cameBackBy (model prog w) (A₀.deeper (envOf name scope L a cd)) (envOf name scope L a cd) E)))
        { s' with heap := h', toks := tk })
    (hlo : (envOf name scope L a cd).kindOf n = some .local := by rfl) (hx : (envOf name scope L a cd).kindOf x = some .globalImplicit := by rfl) (hd9 : (x == ("__debug__" : Str)) = false := by decide) :
    wpAny (model prog w) (A₀.deeper (envOf name scope L a cd)) (noteFrame (.ref e) (envOf name scope L a cd))
      (fun _ s₂ => wpAny (model prog w) (A₀.deeper (envOf name scope L a cd)) (setFlight (.ref e) none) (fun _ s₃ =>
        wpAny (model prog w) (A₀.deeper (envOf name scope L a cd)) (handleBy (.ref e) (envOf name scope L a cd) (.ExceptHandler (some (.Name x np)) (some n) (b₀ :: suite) pos :: rest)) Q E s₃) E s₂) E s' := by
  refine note_led B F hk (Or.inr Y) fun h₁ g₁ T₁ F₁ Y₁ B₁ => ?_
  refine flight_led (s' := { s' with heap := h₁ }) F₁ Y₁ fun h₂ F₂ Y₂ => ?_
  have X₂ : (hd.heap_1 w.params).In g₁ := XB.keeps B₁.stays
  have P₂ : TopRead qv Lo mg mb g₁ := topRead_of (TB.keeps B₁.stays)
  obtain ⟨nm, qn, N, bs, bm, hdct, sn, sub, ab, col, dd, k0, k1, k2, k3, k5, newId, hC, hbase⟩ := exc59 w
  have hC₂ := F₂.keep _ _ (X₂ _ _ hC)
  obtain ⟨oe, vs, T, oT, ts, N, hne, hc, r⟩ := id Y₂
  refine wpAny_handleBy_cons (codeAny_handlers_test (name_K F₂ X₂ P₂ ex ?_ hk hx hd9)) (by intro q; cases q)
  refine wpAny_excMatches_sub_self hC₂ (N (e, oe) (.head _)).1 hc hbase (codeAny_handlers_suite_as ?_)
  refine flight_led (s' := { s' with heap := h₂ }) F₂ Y₂ fun h₃ F₃ Y₃ => ?_
  obtain ⟨oe, vs, T, oT, ts, N, hne, hc, hdx, hd, h1, NT, hTe, hnT, hdT, h3⟩ := Y₃
  refine stN F₃ (news := ((e, oe) :: news) ++ [(T, oT)]) (fun q hq => (List.mem_append.mp hq).elim (N q) (NT q)) (fun h₇ F₇ N₇ => ?_) hk hlo
  exact k h₇ g₁ _ T₁ F₇ ⟨oe, vs, T, oT, ts, fun q hq => N₇ q (List.mem_append_left _ hq), hne, hc, hdx, hd, h1, fun q hq => N₇ q (List.mem_append_right _ hq), hTe, hnT, hdT, h3⟩ B₁
end
theorem inst_exc {h₀ h : Heap} {L x C dx : Addr} {news : List (Addr × Obj)} {od : Obj} {vs : Array Value} {sl : Array (Option Value)} (N : News h₀ L h news) (h1 : (x, (⟨.ref C, some dx, .fields vs, sl⟩ : Obj)) ∈ news) (h2 : (dx, od) ∈ news) :
    InstAt h x ⟨.ref C, some dx, .fields vs, sl⟩ C (some od) := ⟨(N _ h1).1, rfl, rfl, (N _ h2).1⟩

-- Wh
theorem zrWh : True := by first | (row_walk; done) | trivial
section
variable {prog : Program} {w : World} {A : Around} {E : Value → Shared → Prop} {Q : Flow → Shared → Prop} {s : Shared} {env : Env}
/-- one turn's end -/
def WhEnd (J : Nat → Shared → Prop) (Q : Flow → Shared → Prop) (n : Nat) (f : Flow) (s₃ : Shared) : Prop :=
  match f with
  | .next | .cont => ∃ n', n' < n ∧ J n' s₃
  | .brk => Q .next s₃
  | .ret v => Q (.ret v) s₃
/-- a while, by an invariant on the whole state and a measure -/
theorem zz34 : True := by
  k_with "compareOp Eq str str" => (k_here; k_dflt (refine' eq_no ?ke ?_; (case ke => with_reducible assumption)))
  k_with "compareOp In str ref" => (k_here; (with_reducible show wpAny _ _ (compareOp CmpOp.In (Value.str _ _) (Value.ref _)) _ _ _); (with_unfolding_all refine' tin_no ?k1 ?k2 ?k3 ?_; (case k1 => exact News.isTup (by k_asm) (by news_mem)); (case k2 => kde_strs); (case k3 => assumption); k_whole))
  k_with "compareOp NotIn str ref" => (k_here; (with_reducible show wpAny _ _ (compareOp CmpOp.NotIn (Value.str _ _) (Value.ref _)) _ _ _); (with_unfolding_all refine' tnot_no ?k1 ?k2 ?k3 ?_; (case k1 => exact News.isTup (by k_asm) (by news_mem)); (case k2 => kde_strs); (case k3 => assumption); k_whole))
  k_with "subscriptTail Name Slice str ref" => (k_here; (with_reducible show wpAny _ _ (subscriptTail _ (Expr.Slice (some _) none none _) _ _) _ _ _); (with_reducible rename Fr _ _ _ _ => F'); (with_reducible rename News _ _ _ _ => N'); (refine slice_strN_sn (hsz := ?hsz) (s := ⟨_, _, _, _, _⟩) F' N' ?_); (case hsz => (rw [sizeLine_eq]; omega)); intro h' t' tk' F' N')
  k_with "subscriptTail Name Slice str ref" => (k_here; (with_reducible show wpAny _ _ (subscriptTail _ (Expr.Slice none (some _) none _) _ _) _ _ _); (with_reducible rename Fr _ _ _ _ => F'); (with_reducible rename News _ _ _ _ => N'); (refine slice_strN_ns (hsz := ?hsz) (s := ⟨_, _, _, _, _⟩) F' N' ?_); (case hsz => (rw [sizeLine_eq]; omega)); intro h' t' tk' F' N')
  k_with "compareOp NotEq str str" => (k_here; k_dflt (refine' ne_yes ?ke ?_; (case ke => with_reducible assumption)))
  k_with "call ref" => (k_here; (with_reducible show wpAny _ _ (call (Value.ref 428) [Value.ref _, Value.ref _]) _ _ _); k_dflt (refine' doAny_X ?kB ?kF ?kX ?kE ?kN ?k1 ?k2 ?k3 ?kT ?kXB ?kEB ?kTB ?kk ?m1 ?m2 ?m3 ?m4 ?kRow ?kK ?kPi ?kM1 ?kM2 ?kR ?kd ?ku (fun oD' oR' h0' h' tk' T' F' B' X' TT' E' N' hM' hR' ok' => ?_) (fun e' dx' od' oD' h0' h' tk' T' F' B' X' TT' E' Y' W' nd' hM' no' => ?_); (case kB => k_asm); (case kF => k_asm); (case kX => k_asm); (case kE => k_asm); (case kN => k_asm); (case k1 => k_upd); (case kM1 => first | exact rfl | assumption); (case k2 => k_upd); (case kM2 => first | assumption | exact ⟨_, _, _, _, _, _, _, _, _, _, _, _, _, _, _, _, _, _, _, _, _, _, _, rfl⟩); (case k3 => k_upd); (case kR => assumption); (case kT => k_asm); (case kXB => k_asm); (case kEB => k_asm); (case kTB => k_asm); (case kk => first | exact rfl | assumption); (case m1 => k_mem); (case kRow => assumption); (case m2 => k_mem); (case m3 => k_mem); (case m4 => k_mem); (case kK => assumption); (case kPi => assumption); (case kd => ktr_room); (case ku => ktr_units)); (all_goals ((try dsimp only); (try k_sweep); (try k_fold))); rotate_left)
  k_with "ktr_enter" => ((refine' enterX ?k1 ?k2 ?k3 ?kE ?k4 ?k5 ?kXB ?kEB ?kTB ?kA ?kF ?kK ?k6 ?k7 ?k8 ?k9 ?kB ?_ ?c2 ?c3 ?c4 ?c5; (case kA => exact rfl); (case kF => exact rfl); (case kK => assumption); (case k1 => k_asm); (case k2 => k_asm); (case k3 => k_asm); (case kE => k_asm); (case k4 => k_asm); (case k5 => k_asm); (case kXB => k_asm); (case kEB => k_asm); (case kTB => k_asm); (case k6 => k_is); (case k7 => k_is); (case k8 => ktr_room); (case k9 => first | exact BindsTo.of_eq rfl | exact binds_K (by k_in) rfl (by k_is) rfl rfl rfl); (case c5 => decide); (case kB => exact locs rfl); (case c2 => exact rfl); (case c3 => exact rfl); (case c4 => exact rfl); k_whole; intro g' L' h' FG' F' N' B' X' T' E' back'; (try dsimp only); (try k_fold)))
  k_with "leaving ref" => (k_here; (refine' leave_led ?kB ?kF ?kk ?kY ?_; (case kB => k_asm); (case kF => k_asm); (case kY => first | exact Or.inl (by assumption) | exact Or.inr (by assumption)); (case kk => exact rfl); k_whole); intro h' g' T' F' Y' B')
  k_with "exec Raise some none" => (k_here; (refine' raise_K ?kh ?_; (case kh => with_unfolding_all rfl)))
  k_with "call ref" => (k_here; (with_reducible show wpAny _ _ (call (Value.ref 59) [Value.str _ _]) _ _ _); k_dflt (refine' fault_C ?kB ?kF ?kX ?kN ?kT ?kA ?kf ?kK ?kd ?_; (case kA => exact rfl); (case kf => exact rfl); (case kK => first | assumption | exact rfl); (case kB => k_asm); (case kF => k_asm); (case kX => k_asm); (case kN => k_asm); (case kT => k_asm); (case kd => ktr_room)); intro e' dx' t' oe' od' h' tk' F' N' n1' n2' n3' hE'; obtain ⟨⟨sl', hR'⟩, hW'⟩ := hE'; subst hR'; (replace hW' : WhatIs _ _ := (by obtain ⟨q1, q2, t1, t2, t3, n, e⟩ := hW'; exact ⟨q1, q2, t1, t2, t3, n, e⟩)); (have Y' := flyNew_of N' n2' n3'); (try dsimp only); (try k_sweep); (try k_fold))
  k_with "Exists" => (refine ⟨_, _, _, _, rfl, (by k_in), News.get (by k_asm) (by k_mem), ?_⟩)
  trivial
theorem while_any {test : PySem.Expr} {body : List Stmt} {pos : Pos} (J : Nat → Shared → Prop) {n₀ : Nat} (h0 : J n₀ s)
    (turn : ∀ n s', J n s' → wpAny (model prog w) A (isTrue test env (eval test env)) (fun b s₂ => if b = true then wpAny (model prog w) A (execs body env) (WhEnd J Q n) E s₂ else Q .next s₂) E s')
    (hE : PassesOwn (model prog w) A env E := by passes_own) :
    wpAny (model prog w) A (exec (.While test body [] pos) env) Q E s := by
  refine wpAny_While (codeAny_whileLoop J ?_ n₀ h0)
  intro n s' hJ
  refine wpAny_mono (turn n s' hJ) (fun b s₂ h₂ => ?_) hE
  cases b with
  | false =>
    simp only [Bool.false_eq_true, if_false] at h₂ ⊢
    exact wpAny_execs_nil h₂
  | true =>
    simp only [if_true] at h₂ ⊢
    refine wpAny_mono h₂ (fun f s₃ h₃ => ?_) hE
    cases f with
    | next => exact h₃
    | cont => exact h₃
    | brk => exact h₃
    | ret v => exact h₃
end
/-- what a run of rows does to the registers; whether it ends in a fault -/
def Runs : List Kd → List Int → List Int → Bool → Prop
  | [], rs, rs', fl => rs' = rs ∧ fl = false
  | k :: ks, rs, rs', fl => (k.ok rs ∧ Runs ks (k.out rs) rs' fl) ∨ (¬ k.ok rs ∧ rs' = rs ∧ fl = true)

-- Gx
theorem zrGx : True := by first | (row_walk; done) | trivial
noncomputable abbrev AXh (v : Option Value) : Around := { handled := v, depth := 500, frames := none, guards := none, units := 5000 }
theorem in_AXh {A : Around} (hd : A.depth ≤ 500) (hu : A.units ≤ 5000) : ∀ Γ : Ctx, Γ.In A → Γ.In (AXh A.handled) := fun Γ h => ⟨h.1, Nat.le_trans h.2.1 hd, (fun _ e => nomatch e), (fun _ e => nomatch e), Nat.le_trans h.2.2.2.2 hu⟩
def XGot (s : Shared) (Q : Value → Shared → Prop) (v : Value) : Prop := ∀ tk' : Nat, Q v { s with toks := tk' }
theorem XGot.use {s : Shared} {Q : Value → Shared → Prop} {v : Value} {tk : Nat} (H : XGot s Q v) : Q v ⟨s.heap, s.gens, s.drawn, tk, s.os⟩ := H tk
section
local macro_rules | `(tactic| x_close) => `(tactic| (exact XGot.use (by assumption)))
open PySem.W.X PySem.W.XRun in
set_option maxHeartbeats 0 in
theorem bga_X {prog : Program} {w : World} {hv : Option Value} {s : Shared} {Q E : Value → Shared → Prop} {msg : Str} {tm : Tok} {e dx : Addr} {vs : Array Value} {sl : Array (Option Value)} {q1 q2 : Int} {t1 t2 t3 n : Nat} {v : Value}
    (X : (hd.heap_1 w.params).In s.heap) (x0 : s.heap.get? (nat_lit 0) = some (boot_o_0 w.params)) (he : s.heap.get? e = some (Obj.mk (.ref 59) (some dx) (.fields vs) sl)) (hdx : s.heap.get? dx = some (dictOf [⟨q1, .str (Str.ofString "what") t1, .str msg t3⟩, ⟨q2, .str (Str.ofString "at") t2, v⟩] n))
    (H : XGot s Q (.str msg t3)) :
    wpAny (model prog w) (AXh hv) (call (.builtin "BaseException.__getattribute__") [.ref e, .str (Str.ofString "what") tm]) Q E s := by
  delta boot_o_0 at x0
  delta dictOf at hdx
  x_run
end
theorem bga_bind (self : Value) : bindSpecial (.builtin "BaseException.__getattribute__") self = pure (.builtin "BaseException.__getattribute__", [self]) := rfl
theorem get_what {prog : Program} {w : World} {A : Around} {expr : Bool} {h₀ : Heap} {L : Addr} {m : Str → Option Value} {s : Shared} {Q E : Value → Shared → Prop} {msg : Str} {e dx : Addr} {vs : Array Value} {sl : Array (Option Value)} {q1 q2 : Int} {t1 t2 t3 n : Nat} {v : Value} {led : List (Addr × Obj)}
    (F : Fr h₀ L s.heap m) (X₀ : (hd.heap_1 w.params).In h₀) (XE : Ext w h₀) (N : News h₀ L s.heap led) (h1 : (e, (Obj.mk (.ref 59) (some dx) (.fields vs) sl)) ∈ led) (h2 : (dx, dictOf [⟨q1, .str (Str.ofString "what") t1, .str msg t3⟩, ⟨q2, .str (Str.ofString "at") t2, v⟩] n) ∈ led) (hd9 : A.depth ≤ 500) (hu : A.units ≤ 5000)
    (h : ∀ tk, Q (.str msg t3) { s with toks := tk }) :
    wpAny (model prog w) A (getAttr (.ref e) "what" expr) Q E s := by
  have X := X₀.keeps F.keep
  have L0 := InstAt.type (M := model prog w) (I := (⟨(N _ h1).1, rfl, rfl, (N _ h2).1⟩ : InstAt s.heap e ⟨.ref 59, some dx, .fields vs, sl⟩ 59 (some _)))
  have L1 := looks_findIn (M := model prog w) X (t := .ref 59) (name := Str.ofString "__getattribute__") (r := some (.builtin "BaseException.__getattribute__")) rfl
  have L2 := looks_findIn (M := model prog w) X (t := .ref 59) (name := Str.ofString "__getattr__") (r := none) rfl
  have hc : handedOut (.str msg t3) = pure (.str msg t3) := handedOut_of rfl
  have hx0 : (expr && onTheHeap (Value.builtin "BaseException.__getattribute__")) = false := by cases expr <;> rfl
  have hx1 : (onTheHeap (Value.ref 59) && Value.builtin "BaseException.__getattribute__" == Value.builtin "object.__getattribute__") = false := by decide +kernel
  unfold getAttr
  refine wpAny_bind (wpAny_mkText ?_)
  unfold getAttrBy
  refine wpAny_holding (wpAny_bind (L0.at (wpAny_bind (L1.at ?_))))
  dsimp only
  rw [hx1]
  show wpAny _ _ (getAttrByItsOwn _ _ _ _ _ _) _ _ _
  unfold getAttrByItsOwn
  refine wpAny_bind ?_
  show wpAny _ _ (typeLookup (.ref 59) _) _ _ _
  refine L2.at ?_
  refine wpAny_bind (wpAny_attempt (wpAny_holding ?_))
  unfold callGetattribute
  rw [hx0]
  show wpAny _ _ (boundAndCalled _ _ _) _ _ _
  unfold boundAndCalled
  rw [bga_bind]
  refine wpAny_bind (wpAny_pure ?_)
  refine around_le (in_AXh hd9 hu) (bga_X X (XE.keeps F.keep) (N _ h1).1 (N _ h2).1 fun tk => ?_)
  show wpAny _ _ (handedOut (.str msg t3)) _ _ _
  rw [hc]
  exact wpAny_pure (h _)

-- Rn
theorem zrRn : True := by first | (row_walk; done) | trivial
/-- the rows of a program of such kinds, in the ledger -/
def ProgAt (rest : List (Addr × Obj)) (rows : List Value) (ks : List Kd) : Prop := ∀ (j : Nat) (k : Kd), ks[j]? = some k → ∃ (x dx p : Addr) (oX oDr oP : Obj) (nm : Str) (ps : List Value), rows[j]? = some (.ref x) ∧ (x, oX) ∈ rest ∧ (dx, oDr) ∈ rest ∧ (p, oP) ∈ rest ∧ RowIs nm ps dx p oX oDr oP ∧ k.Row nm ps
/-- what the run gives back -/
inductive OutIs (fl : Bool) (dO : Addr) (oO oDo : Obj) : Prop
  | mk (e0 : oO = instObj 120 dO) (q0 q1 q2 q3 q4 : Int) (u0 u1 u2 u3 u4 : Tok) (v : Value) (tk tw ta : Tok) (a : Int) (ts : Tok) (st : Int)
    (e : oDo = dictOf [⟨q0, .str (Str.ofString "kind") u0, .str (if fl then Str.ofString "fault" else Str.ofString "exit") tk⟩, ⟨q1, .str (Str.ofString "worth") u1, v⟩, ⟨q2, .str (Str.ofString "what") u2, .str (if fl then Str.ofString "divide error" else Str.ofString "") tw⟩, ⟨q3, .str (Str.ofString "at") u3, .int a ta⟩, ⟨q4, .str (Str.ofString "steps") u4, .int st ts⟩] 5)
def RunJ (w : World) (A : Around) (base : Heap) (outer : List Env) (mean : ExcName → Option Value) (mg mb : Str → Option Value) (fs : List Addr) (g₀ : Heap) (L : Addr) (m : Str → Option Value) (M dM R RW pl : Addr) (rest : List (Addr × Obj)) (ks : List Kd) (rs : List Int) (s₀ : Shared) (n : Nat) (s' : Shared) : Prop :=
  ∃ h tk g oD' oR' rs' j, s' = { s₀ with heap := h, toks := tk } ∧ KtsTurn fs g₀ g ∧ Fr g L h m ∧ Below A base outer g ∧ (hd.heap_1 w.params).In g ∧ Top qv Lo mean mg mb g ∧ Ext w g ∧ News g L h ((M, instObj 445 dM) :: (dM, oD') :: (R, oR') :: rest) ∧
    MachD RW R pl (j : Nat) (j : Nat) (decide (j = ks.length)) oD' ∧ RegsAre rs' oR' ∧ j ≤ ks.length ∧ n = ks.length - j ∧ ∀ rsF fl, Runs (ks.drop j) rs' rsF fl → Runs ks rs rsF fl
section
theorem zz35 : True := by
  k_with "call ref" => (k_here; (with_reducible show wpAny _ _ (call (Value.ref 461) [Value.ref _, Value.int _ _]) _ _ _); k_dflt (refine' draw_C ?kB ?kF ?kX ?kN ?kPk ?kT ?kk ?kP ?km ?km2 ?kd ?ku ?_; (case kP => assumption); (case kB => k_asm); (case kF => k_asm); (case kX => k_asm); (case kN => k_asm); (case kPk => k_upd); (case kT => k_asm); (case kk => first | exact rfl | assumption); (case km => first | decide | omega); (case km2 => first | decide | omega); (case kd => ktr_room); (case ku => ktr_units)); intro v' t' oP' oL' h' tk' F' N' hP' hlo' hhi'; (try dsimp only); (try k_sweep); (try k_fold))
  k_with "call ref" => (k_here; (with_reducible show wpAny _ _ (call (Value.ref 468) [Value.ref _, Value.ref _]) _ _ _); k_dflt (refine' pick_C ?kB ?kF ?kX ?kN ?kPk ?kT ?kk ?kP ?kI ?km ?km2 ?kd ?ku ?_; (case kP => assumption); (case kB => k_asm); (case kF => k_asm); (case kX => k_asm); (case kN => k_asm); (case kPk => k_upd); (case kT => k_asm); (case kk => first | exact rfl | assumption); (case kI => first | assumption | l_intsW); (case km => first | decide | omega); (case km2 => first | decide | omega); (case kd => ktr_room); (case ku => ktr_units)); intro v' t' oP' oL' h' tk' F' N' hP' hM'; (try dsimp only); (try k_sweep); (try k_fold))
  k_with "UnrEndW" => (k_here; refine' unrW (off5 (by assumption)) ?uF ?uN ?uI ?us ⟨by k_subL, ?_⟩; (case uF => assumption); (case uN => k_asm); (case uI => ((repeat' (refine fa_cons (by k_mem) ?_)); exact List.forall_mem_nil _)); (case us => ((repeat' (refine fa_cons (by k_mem) ?_)); first | exact List.forall_mem_nil _ | (intro pD hD; repeat (first | exact hD | apply List.Mem.tail)))))
  k_with "UnrEndW" => (k_here; refine' unrW (off1 (by assumption)) ?uF ?uN ?uI ?us ⟨by k_subL, ?_⟩; (case uF => assumption); (case uN => k_asm); (case uI => ((repeat' (refine fa_cons (by k_mem) ?_)); exact List.forall_mem_nil _)); (case us => ((repeat' (refine fa_cons (by k_mem) ?_)); first | exact List.forall_mem_nil _ | (intro pD hD; repeat (first | exact hD | apply List.Mem.tail)))))
  k_with "UnrEnd" => (k_here; refine' unrI ?uo ?uF ?uN ?uI ?us ?_; (case uo => assumption); (case uF => assumption); (case uN => k_asm); (case uI => k_mem); (case us => ((repeat' (refine fa_cons (by k_mem) ?_)); first | exact List.forall_mem_nil _ | (intro pD hD; repeat (first | exact hD | apply List.Mem.tail)))))
  k_with "pyIter ref" => (k_here; (with_reducible show wpAny _ _ (pyIter (Value.ref _)) (fun it s₂ => TurnsAt _ _ _ _ _ _ _ _ _ it s₂) _ _); (rename Fr _ _ _ _ => lF'); (rename News _ _ _ _ => lN'); (with_unfolding_all refine' iter_tupTurns ?h1 lF' lN' ?h2 ?h3 ?h4 ?_; (case h1 => exact rfl); (case h2 => k_mem); (case h3 => exact rfl); (case h4 => exact rfl)); clear lF' lN'; intro i' l1; (try k_lt l1))
  k_with "call ref" => (k_here; (with_reducible show wpAny _ _ (call (Value.ref 244) _) _ _ _); k_dflt (refine' uf_C ?kB ?kF ?kX ?kN ?kT ?kk ?kd ?ku ?_; (case kB => k_asm); (case kF => k_asm); (case kX => k_asm); (case kN => k_asm); (case kT => k_asm); (case kk => first | exact rfl | assumption); (case kd => ktr_room); (case ku => ktr_units)); intro f' h' tk' F' N'; (try dsimp only); (try k_sweep); (try k_fold))
  k_with "call ref" => (k_here; (with_reducible show wpAny _ _ (call (Value.ref 350) [Value.ref _, Value.int _ _, Value.int _ _, Value.int _ _]) _ _ _); k_dflt (refine' put4_C ?kB ?kF ?kX ?kN ?k1 ?k2 ?k3 ?kT ?kk ?kM1 ?kM2 ?kR ?ki0 ?ki1 ?kn ?kd ?ku ?_; (case kB => k_asm); (case kF => k_asm); (case kX => k_asm); (case kN => k_asm); (case k1 => k_upd); (case kM1 => first | exact rfl | assumption); (case k2 => k_upd); (case kM2 => first | assumption | exact ⟨_, _, _, _, _, _, _, _, _, _, _, _, _, _, _, _, _, _, _, _, _, _, _, rfl⟩); (case k3 => k_upd); (case kR => assumption); (case kT => k_asm); (case kk => first | exact rfl | assumption); (case ki0 => first | decide | omega); (case ki1 => first | decide | omega); (case kn => first | assumption | omega | decide); (case kd => ktr_room); (case ku => ktr_units)); intro oR' h' tk' F' N' hR'; (try dsimp only); (try k_sweep); (try k_fold))
  k_with "call ref" => (k_here; (with_reducible show wpAny _ _ (call (Value.ref 350) [Value.ref _, Value.int _ _, Value.int _ _]) _ _ _); k_dflt (refine' put3_C ?kB ?kF ?kX ?kN ?k1 ?k2 ?k3 ?kT ?kk ?kM1 ?kM2 ?kR ?ki0 ?ki1 ?kd ?ku ?_; (case kB => k_asm); (case kF => k_asm); (case kX => k_asm); (case kN => k_asm); (case k1 => k_upd); (case kM1 => first | exact rfl | assumption); (case k2 => k_upd); (case kM2 => first | assumption | exact ⟨_, _, _, _, _, _, _, _, _, _, _, _, _, _, _, _, _, _, _, _, _, _, _, rfl⟩); (case k3 => k_upd); (case kR => assumption); (case kT => k_asm); (case kk => first | exact rfl | assumption); (case ki0 => first | decide | omega); (case ki1 => first | decide | omega); (case kd => ktr_room); (case ku => ktr_units)); intro oR' h' tk' F' N' hR'; (try dsimp only); (try k_sweep); (try k_fold))
  k_with "call ref" => (k_here; (with_reducible show wpAny _ _ (call (Value.ref 358) [Value.ref _, Value.int _ _, Value.int _ _]) _ _ _); k_dflt (refine' take_C ?kB ?kF ?kX ?kN ?k1 ?k2 ?k3 ?kT ?kk ?kM1 ?kM2 ?kR ?ki0 ?ki1 ?kn ?kd ?ku ?_; (case kB => k_asm); (case kF => k_asm); (case kX => k_asm); (case kN => k_asm); (case k1 => k_upd); (case kM1 => first | exact rfl | assumption); (case k2 => k_upd); (case kM2 => first | assumption | exact ⟨_, _, _, _, _, _, _, _, _, _, _, _, _, _, _, _, _, _, _, _, _, _, _, rfl⟩); (case k3 => k_upd); (case kR => assumption); (case kT => k_asm); (case kk => first | exact rfl | assumption); (case ki0 => first | decide | omega); (case ki1 => first | decide | omega); (case kn => first | assumption | omega | decide); (case kd => ktr_room); (case ku => ktr_units)); intro t' h' tk' F' N'; (try dsimp only); (try k_sweep); (try k_fold))
  k_with "call ref" => (k_here; (with_reducible show wpAny _ _ (call (Value.ref 435) _) _ _ _); k_dflt (refine' step_X ?kB ?kF ?kX ?kE ?kN ?k1 ?k2 ?k3 ?kT ?kXB ?kEB ?kTB ?kk ?m0 ?m1 ?m2 ?m3 ?m4 ?kget ?klen ?kRow ?kK ?kPi ?kM1 ?kM2 ?kR ?kd ?ku (fun oD' oR' h0' h' tk' T' F' B' X' TT' E' N' hM' hR' ok' => ?_) (fun e' dx' od' oD' h0' h' tk' T' F' B' X' TT' E' Y' W' nd' hM' no' => ?_); (case kB => k_asm); (case kF => k_asm); (case kX => k_asm); (case kE => k_asm); (case kN => k_asm); (case k1 => k_upd); (case kM1 => first | exact rfl | assumption); (case k2 => k_upd); (case kM2 => first | assumption | exact ⟨_, _, _, _, _, _, _, _, _, _, _, _, _, _, _, _, _, _, _, _, _, _, _, rfl⟩); (case k3 => k_upd); (case kR => assumption); (case kT => k_asm); (case kXB => k_asm); (case kEB => k_asm); (case kTB => k_asm); (case kk => first | exact rfl | assumption); (case m0 => k_mem); (case kget => assumption); (case m1 => k_mem); (case kRow => assumption); (case m2 => k_mem); (case m3 => k_mem); (case m4 => k_mem); (case klen => (show _ ≤ 8; omega)); (case kK => assumption); (case kPi => assumption); (case kd => ktr_room); (case ku => ktr_units)); (all_goals ((try dsimp only); (try k_sweep); (try k_fold))); rotate_left)
  k_with "call ref" => (k_here; k_dflt (refine' call_cls ?k1 ?k2 ?k3 ?k4 ?k5 ?k6 ?_; (case k1 => k_asm); (case k2 => k_asm); (case k3 => k_asm); (case k4 => k_is); (case k5 => k_is); (case k6 => k_is); k_whole; intro x' d' h' F' N' l1 l2; (try k_lt l1); (try k_lt2 l2); (try k_sweep); cell_enter))
  k_with "subscriptTail" => (k_here; (with_reducible show wpAny _ _ (subscriptTail _ _ (Value.ref _) (Value.int _ _)) _ _ _); k_dflt (refine' regs_get ?k1 ?k2 ?k3 ?k4 ?k5 ?_ ?k6; (case k1 => k_asm); (case k2 => k_mem); (case k3 => assumption); (case k4 => omega); (case k5 => omega); (case k6 => with_unfolding_all rfl); k_whole); intro t' b0' b1')
  k_with "getAttr ref" => (k_here; (with_reducible show wpAny _ _ (getAttr _ (Str.ofString "what") _) _ _ _); k_dflt (refine' get_what ?k1 ?k2 ?k3 ?N ?h1 ?h2 ?kd ?ku ?_; (case k1 => k_asm); (case k2 => k_asm); (case k3 => k_asm); (case N => k_asm); (case h1 => k_mem); (case h2 => k_mem); (case kd => (simp only [depth_mark]; ktr_room)); (case ku => ktr_units); k_whole); intro tk')
  trivial
theorem while_run {w : World} {A A₀ : Around} {E : Value → Shared → Prop} {Q : Flow → Shared → Prop} {s : Shared} {env : Env} {test : PySem.Expr} {body : List Stmt} {pos : Pos} {base g₀ : Heap} {outer : List Env} {mean : ExcName → Option Value} {mg mb : Str → Option Value} {L : Addr} {m : Str → Option Value} {M dM R RW pl : Addr} {oD oR : Obj} {rest : List (Addr × Obj)} {ks : List Kd} {rs : List Int}
    (F : Fr g₀ L s.heap m) (B : Below A₀ base outer g₀) (X : (hd.heap_1 w.params).In g₀) (T : Top qv Lo mean mg mb g₀) (XE : Ext w g₀) (N : News g₀ L s.heap ((M, instObj 445 dM) :: (dM, oD) :: (R, oR) :: rest)) (hM : MachD RW R pl 0 0 false oD) (hR : RegsAre rs oR) (hpos : 0 < ks.length)
    (turn : ∀ n s', RunJ w A₀ base outer mean mg mb (frs outer) g₀ L m M dM R RW pl rest ks rs s n s' → wpAny (model Challenge.rw_ok0167_01.prog w) A (isTrue test env (eval test env)) (fun b s₂ => if b = true then wpAny (model Challenge.rw_ok0167_01.prog w) A (execs body env) (WhEnd (RunJ w A₀ base outer mean mg mb (frs outer) g₀ L m M dM R RW pl rest ks rs s) Q n) E s₂ else Q .next s₂) E s')
    (hE : PassesOwn (model Challenge.rw_ok0167_01.prog w) A env E := by passes_own) :
    wpAny (model Challenge.rw_ok0167_01.prog w) A (exec (.While test body [] pos) env) Q E s :=
  while_any _ (n₀ := ks.length) ⟨_, _, _, _, _, rs, 0, rfl, KtsTurn.refl, F, B, X, T, XE, N, by rw [decide_eq_false (by omega)]; exact hM, hR, Nat.zero_le _, rfl, fun _ _ h => h⟩ turn hE
set_option maxHeartbeats 8000000 in
theorem run_X {w : World} {mean : ExcName → Option Value} {mg mb : Str → Option Value}
    {dp un : Nat} {gd : Option (List Code)} {cn : Str} {cs : Scope} {a : Addr} {ccd : Value} {cl : List (Str × Addr)} {outer : List Env} {A₀ : Around} {base h₀ : Heap} {L : Addr} {m : Str → Option Value} {s : Shared} {Q E : Value → Shared → Prop}
    {M dM R RW pl : Addr} {oM oD oR : Obj} {rs : List Int} {t9 : Tok} {kk : Nat} {rows : List Value} {oPi : Obj} {ks : List Kd} {led l1 l2 rest : List (Addr × Obj)}
    (B : Below A₀ base outer h₀) (F : Fr h₀ L s.heap m) (X : (hd.heap_1 w.params).In h₀) (XE : Ext w h₀)
    (N : News h₀ L s.heap led) (Pk1 : Pick M oM led l1) (Pk2 : Pick dM oD l1 l2) (Pk3 : Pick R oR l2 rest) 
    (T : Top qv Lo mean mg mb h₀) (XB : (hd.heap_1 w.params).In base) (EB : Ext w base) (TB : Top qv Lo mean mg mb base) (hk : cs.kind = .function) (m0 : (RW, listOf rows.toArray kk) ∈ rest) (m4 : (pl, oPi) ∈ rest) (hlen : ks.length ≤ 8) (hpos : 0 < ks.length) (hrl : rows.length = ks.length) (hov : ∀ (j : Nat) (k : Kd), ks[j]? = some k → k.ov = decide (j + 1 = ks.length)) (hks : ProgAt rest rows ks) (hPi : PileIs oPi) (hM1 : oM = instObj 445 dM) (hM2 : MachD RW R pl 0 0 false oD) (hR : RegsAre rs oR) 
    (hdp : dp + 120 ≤ 500) (hun : un + 2600 ≤ 5000)
    (hret : ∀ o dO oO oDo oD' oR' rs' fl pc' st' ov' h₀' h' tk', KtsTurn (frs outer) h₀ h₀' → Fr h₀' L h' m → Below A₀ base outer h₀' → (hd.heap_1 w.params).In h₀' → Top qv Lo mean mg mb h₀' → Ext w h₀' → News h₀' L h' ((o, oO) :: (dO, oDo) :: (M, oM) :: (dM, oD') :: (R, oR') :: rest) → MachD RW R pl pc' st' ov' oD' → RegsAre rs' oR' → OutIs fl dO oO oDo → Runs ks rs rs' fl → Q (.ref o) { s with heap := h', toks := tk' }) :
    wpAny (model Challenge.rw_ok0167_01.prog w) (ktrTop dp un gd cn cs L a ccd cl outer) (call (.ref 442) [.ref M, .int 9 t9]) Q E s := by
  have hrl9 : recursionLimit = 1000 := rfl
  have hcl9 : cLine = 9900 := rfl
  have Pk : Picks [(M, oM), (dM, oD), (R, oR)] led rest := .cons Pk1 (.cons Pk2 (.cons Pk3 .nil))
  have N1 := Pk.news N
  have A1 := Pk.apart
  clear N Pk Pk1 Pk2 Pk3
  subst hM1
  simp only [List.cons_append, List.nil_append, Apart, AllNe, and_true, true_and] at N1 A1
  obtain ⟨⟨e1, e2⟩, r1, e3, r2, r3⟩ := A1
  have e_RW1 : @Ne Nat RW M := r1 _ m0
  have e_RW2 : @Ne Nat RW dM := r2 _ m0
  have e_RW3 : @Ne Nat RW R := r3 _ m0
  have e_pl1 : @Ne Nat pl M := r1 _ m4
  have e_pl2 : @Ne Nat pl dM := r2 _ m4
  have e_pl3 : @Ne Nat pl R := r3 _ m4
  refine wpAny_call ?_
  ktr_enter
  (repeat' ((fail_if_success (with_reducible show wpAny _ _ (exec (Stmt.While _ _ _ _) _) _ _ _)); (first | (k_unfold; (try dsimp only)) | walk1 | (dsimp only; walk1))))
  rename Fr _ _ _ _ => F9
  rename News _ _ _ _ => N9
  rename Below _ _ _ _ => B9
  rename (hd.heap_1 w.params).In _ => X9
  rename Top _ _ _ _ _ _ => TT9
  rename Ext _ _ => XE9
  rename (∀ (g' h' : Heap) (m' : Str → Option Value), KtsTurn _ _ g' → Fr g' _ h' m' → _) => bk
  (with_unfolding_all refine' while_run F9 B9 X9 TT9 XE9 N9 hM2 hR hpos ?turn)
  case turn =>
    rintro n s' ⟨h8, tk8, g8, oD8, oR8, rs8, j, rfl, T8, F8, B8, X8, TT8, XE8, N8, hM8, hR8, hj, rfl, hrun⟩
    clear F9 N9 B9 X9 TT9 XE9
    dsimp only [envOf] at F8 N8
    by_cases hjl : j = ks.length
    · rw [decide_eq_true hjl] at hM8
      obtain ⟨_, _, _, _, _, _, _, _, _, _, _, _, _, _, _, _, _, _, _, _, _, _, _, rfl⟩ := hM8
      k_steps
      rename Fr _ _ _ _ => F9
      rename News _ _ _ (_ :: _) => N9
      obtain ⟨h9, T1, F1, B1, X1, TT1, XE1, K1⟩ := bk _ _ _ T8 F9
      exact hret _ _ _ _ _ _ rs8 false _ _ _ _ _ _ T1 F1 B1 X1 TT1 XE1 (cb_drop (K1 _ N9) (by (repeat' (refine fa_cons (by k_mem) ?_)); intro pD hD; repeat (first | exact hD | apply List.Mem.tail))) ⟨_, _, _, _, _, _, _, _, _, _, _, _, _, _, _, _, _, _, _, _, _, _, _, rfl⟩ (by assumption) ⟨rfl, _, _, _, _, _, _, _, _, _, _, _, _, _, _, _, _, _, rfl⟩ (hrun _ _ (by rw [List.drop_of_length_le (by omega)]; exact ⟨rfl, rfl⟩))
    · rw [decide_eq_false hjl] at hM8
      have hjlt : j < ks.length := by omega
      obtain ⟨x, dx, p, oX, oDr, oP, nm, ps, hget, m1, m2, m3, hRow, hk9⟩ := hks j _ (List.getElem?_eq_getElem hjlt)
      have hov9 := hov j _ (List.getElem?_eq_getElem hjlt)
      obtain ⟨q0, q1, q2, q3, q4, q5, q6, q7, q8, u0, u1, u2, u3, u4, u5, u6, u7, u8, mk, fl, ta, to, ts, rfl⟩ := hM8
      have e_x1 : @Ne Nat x M := r1 _ m1
      have e_x2 : @Ne Nat x dM := r2 _ m1
      have e_x3 : @Ne Nat x R := r3 _ m1
      have e_dx1 : @Ne Nat dx M := r1 _ m2
      have e_dx2 : @Ne Nat dx dM := r2 _ m2
      have e_dx3 : @Ne Nat dx R := r3 _ m2
      have e_p1 : @Ne Nat p M := r1 _ m3
      have e_p2 : @Ne Nat p dM := r2 _ m3
      have e_p3 : @Ne Nat p R := r3 _ m3
      have N7 := newsIn (by repeat (first | exact m1 | apply List.Mem.tail)) (newsIn (by repeat (first | exact m2 | apply List.Mem.tail)) (newsIn (by repeat (first | exact m3 | apply List.Mem.tail)) (newsIn (by repeat (first | exact m0 | apply List.Mem.tail)) (newsIn (by repeat (first | exact m4 | apply List.Mem.tail)) N8))))
      clear N8
      k_steps
      · rename Fr _ _ _ _ => F9
        rename Below _ _ _ _ => B9
        rename FlyAt _ _ _ _ _ _ _ => Y9
        rename WhatIs _ _ => W9
        (with_unfolding_all refine' caught_ledN B9 F9 rfl Y9 XB TB ?ex ?k)
        case ex => k_is
        case k =>
          intro h7 g7 tk7 T7 F7 Y7 B7
          clear Y9 F9 B9
          have X7 : (hd.heap_1 w.params).In g7 := XB.keeps B7.stays
          have TT7 : Top qv Lo mean mg mb g7 := TB.keeps B7.stays
          have XE7 : Ext w g7 := EB.keeps B7.stays
          obtain ⟨⟨c9, d9, dt9, sl9⟩, vs9, Tb9, oT9, ts9, N9, hne9, rfl, rfl, rfl, h19, NT9, r9⟩ := Y7
          obtain ⟨v0, v1, w0, w1, w2, kw, rfl⟩ := W9
          clear NT9 r9 h19
          rename MachD _ _ _ _ _ _ _ => hM7
          obtain ⟨_, _, _, _, _, _, _, _, _, _, _, _, _, _, _, _, _, _, _, _, _, _, _, rfl⟩ := hM7
          k_steps
          dsimp only [WhEnd]
          k_steps
          rename Fr _ _ _ _ => F9
          rename News _ _ _ (_ :: _) => N9
          rename KtsTurn _ g8 _ => T5
          obtain ⟨h9, T1, F1, B1, X1, TT1, XE1, K1⟩ := bk _ _ _ ((T8.trans T5).trans T7) F9
          exact hret _ _ _ _ _ _ rs8 true _ _ _ _ _ _ T1 F1 B1 X1 TT1 XE1 (cb_drop (K1 _ N9) (by (repeat' (refine fa_cons (by k_mem) ?_)); intro pD hD; repeat (first | exact hD | apply List.Mem.tail))) ⟨_, _, _, _, _, _, _, _, _, _, _, _, _, _, _, _, _, _, _, _, _, _, _, rfl⟩ (by assumption) ⟨rfl, _, _, _, _, _, _, _, _, _, _, _, _, _, _, _, _, _, rfl⟩ (hrun _ _ (by rw [List.drop_eq_getElem_cons hjlt]; exact Or.inr ⟨by assumption, rfl, rfl⟩))
      · dsimp only [WhEnd]
        rename Fr _ _ _ _ => F9
        rename News _ _ _ (_ :: _) => N9
        rename KtsTurn _ g8 _ => T5
        rename MachD _ _ _ _ _ _ _ => hM9
        rename RegsAre _ _ => hR9
        rw [hov9] at hM9
        refine ⟨ks.length - (j + 1), by omega, _, _, _, _, _, _, j + 1, rfl, T8.trans T5, F9, by assumption, by assumption, by assumption, by assumption, cb_drop N9 (by (repeat' (refine fa_cons (by k_mem) ?_)); intro pD hD; repeat (first | exact hD | apply List.Mem.tail)), hM9, hR9, by omega, rfl, fun rsF fl h => hrun _ _ (by rw [List.drop_eq_getElem_cons hjlt]; exact Or.inl ⟨by assumption, h⟩)⟩
end

-- Wo
theorem zrWo : True := by first | (row_walk; done) | trivial
/-- what the law takes for the dividend -/
def wholeOf (hi lo n : Int) (sg : Bool) : Int := if sg then sgn (low hi n * 2 ^ n.toNat + low lo n) (2 * n) else low hi n * 2 ^ n.toNat + low lo n
theorem zz36 : True := by
  k_with_none
  k_with "k_all" => ((intro pA hA; refine neN (Nat.ne_of_lt ?_); refine (by assumption : ∀ p ∈ _, p.1 < _) pA ?_; (repeat (first | exact hA | apply List.Mem.tail)); done))
  k_with "k_all" => (with_reducible assumption)
  k_with "k_upd" => ((first | exact Picks.nil | (refine' Picks.cons ?kuc ?kud; (case kuc => k_upd); (case kud => k_upd)) | (refine' Pick.head ?kua; (case kua => k_all)) | (refine' Pick.tail ?kua ?kub; (case kua => k_ne); (case kub => k_upd)) | (refine' Upd.head ?kua; (case kua => k_all)) | (refine' Upd.tail ?kua ?kub; (case kua => k_ne); (case kub => k_upd))))
  k_with "ktr_rel" => ((refine cb_drop (by assumption) ?_; (repeat' (refine fa_cons (by k_mem) ?_)); first | exact List.forall_mem_nil _ | (intro pD hD; repeat (first | exact hD | apply List.Mem.tail))))
  k_with "compareOp NotEq ref ref" => (k_here; k_dflt (refine' ne_K ?k1 ?k2 ?k3 ?k4 ?k5 ?k6 ?_; (case k1 => k_asm); (case k2 => k_mem); (case k3 => k_mem); (case k4 => l_intsC); (case k5 => l_intsC); (case k6 => ktr_units); k_whole))
  k_with "binaryOp FloorDiv int int" => (k_here; (with_reducible refine floordiv_int ?ke ?_ (Or.inl (noPy ?kp ?kq))); (case ke => first | omega | (split <;> omega)); (case kp => first | omega | (split <;> omega)); (case kq => first | omega | (split <;> omega)))
  k_with "call builtin:list.pop" => (k_here; k_dflt (refine' pop0_K ?k1 ?k2 ?k3 ?k4 ?_; (case k1 => k_asm); (case k2 => k_asm); (case k3 => k_upd); (case k4 => omega); k_whole); intro h' F' N')
  k_with "binaryOp Pow int int" => (k_here; first | (with_reducible refine powL_K 18446744073709551616 ?kb1 ?kb2 ?kb3 ?kb4 ?_; (case kb4 => decide +kernel); (case kb1 => decide); (case kb2 => decide); (case kb3 => decide)) | (with_reducible refine powL_K 9223372036854775808 ?kb1 ?kb2 ?kb3 ?kb4 ?_; (case kb4 => decide +kernel); (case kb1 => decide); (case kb2 => decide); (case kb3 => decide)) | (with_reducible refine powL_K 4294967296 ?kb1 ?kb2 ?kb3 ?kb4 ?_; (case kb4 => decide +kernel); (case kb1 => decide); (case kb2 => decide); (case kb3 => decide)) | (with_reducible refine powL_K 2147483648 ?kb1 ?kb2 ?kb3 ?kb4 ?_; (case kb4 => decide +kernel); (case kb1 => decide); (case kb2 => decide); (case kb3 => decide)) | (with_reducible refine powL_K 340282366920938463463374607431768211456 ?kb1 ?kb2 ?kb3 ?kb4 ?_; (case kb4 => decide +kernel); (case kb1 => decide); (case kb2 => decide); (case kb3 => decide)) | (with_reducible refine powL_K 170141183460469231731687303715884105728 ?kb1 ?kb2 ?kb3 ?kb4 ?_; (case kb4 => decide +kernel); (case kb1 => decide); (case kb2 => decide); (case kb3 => decide)))
  k_with "cell_enter" => ((refine' code_def ?k1 ?k2 ?k3 ?k4 ?k5 ?kA ?kF ?kK ?k6 ?k7 ?k8 ?k9 ?kB ?_ ?c2 ?c3 ?c4 ?c5; (case kA => exact rfl); (case kF => exact rfl); (case kK => first | assumption | exact rfl); (case k1 => k_asm); (case k2 => k_asm); (case k3 => k_asm); (case k4 => k_asm); (case k5 => k_asm); (case k6 => k_is); (case k7 => k_is); (case k8 => ktr_room); (case k9 => first | exact BindsTo.of_eq rfl | exact binds_K (by k_in) rfl (by k_is) rfl rfl rfl); (case c5 => decide); (case kB => exact locs rfl); (case c2 => exact rfl); (case c3 => exact rfl); (case c4 => exact rfl); k_whole; intro g' L' h' FG' F' N' B' X' T'; (try dsimp only); (try k_lift B'); (try k_fold)))
  k_with "ktr_units" => (((try simp only [units_in1, units_deeper, units_under_make, Around.mark_units]); (try dsimp only [ktrTop]); omega))
  k_with "ktr_room" => (((try simp only [depth_mark, depth_under_make, depth_under_kw, depth_in1, depth_deeper]); (try dsimp only [ktrTop]); omega))
  k_with "execs cons" => (k_here; (first | ((with_reducible refine gentok fun tk' => ?_); (with_reducible refine wpAny_execs_cons ?_)) | (with_reducible refine wpAny_execs_cons ?_)); (try dsimp only))
  k_with "execs nil" => (k_here; (refine wpAny_execs_nil ?_))
  k_with "call ref" => (k_here; (with_reducible show wpAny _ _ (call (Value.ref 482) [Value.int _ _, Value.int _ _]) _ _ _); k_dflt (refine' lsign_C ?kB ?kF ?kX ?kN ?kT ?kk ?kn ?kd ?ku ?_; (case kB => k_asm); (case kF => k_asm); (case kX => k_asm); (case kN => k_asm); (case kT => k_asm); (case kk => first | exact rfl | assumption); (case kn => first | omega | decide); (case kd => ktr_room); (case ku => ktr_units)); intro t' h' tk' F' N'; (try dsimp only); (try k_sweep); (try k_fold))
  k_with "compareOp Eq str str" => (k_here; k_dflt (refine' eq_no ?ke ?_; (case ke => with_reducible assumption)))
  k_with "compareOp In str ref" => (k_here; (with_reducible show wpAny _ _ (compareOp CmpOp.In (Value.str _ _) (Value.ref _)) _ _ _); (with_unfolding_all refine' tin_no ?k1 ?k2 ?k3 ?_; (case k1 => exact News.isTup (by k_asm) (by news_mem)); (case k2 => kde_strs); (case k3 => assumption); k_whole))
  k_with "compareOp NotIn str ref" => (k_here; (with_reducible show wpAny _ _ (compareOp CmpOp.NotIn (Value.str _ _) (Value.ref _)) _ _ _); (with_unfolding_all refine' tnot_no ?k1 ?k2 ?k3 ?_; (case k1 => exact News.isTup (by k_asm) (by news_mem)); (case k2 => kde_strs); (case k3 => assumption); k_whole))
  k_with "subscriptTail Name Slice str ref" => (k_here; (with_reducible show wpAny _ _ (subscriptTail _ (Expr.Slice (some _) none none _) _ _) _ _ _); (with_reducible rename Fr _ _ _ _ => F'); (with_reducible rename News _ _ _ _ => N'); (refine slice_strN_sn (hsz := ?hsz) (s := ⟨_, _, _, _, _⟩) F' N' ?_); (case hsz => (rw [sizeLine_eq]; omega)); intro h' t' tk' F' N')
  k_with "subscriptTail Name Slice str ref" => (k_here; (with_reducible show wpAny _ _ (subscriptTail _ (Expr.Slice none (some _) none _) _ _) _ _ _); (with_reducible rename Fr _ _ _ _ => F'); (with_reducible rename News _ _ _ _ => N'); (refine slice_strN_ns (hsz := ?hsz) (s := ⟨_, _, _, _, _⟩) F' N' ?_); (case hsz => (rw [sizeLine_eq]; omega)); intro h' t' tk' F' N')
  k_with "compareOp NotEq str str" => (k_here; k_dflt (refine' ne_yes ?ke ?_; (case ke => with_reducible assumption)))
  k_with "call ref" => (k_here; (with_reducible show wpAny _ _ (call (Value.ref 350) [Value.ref _, Value.int _ _, Value.int _ _, Value.int _ _]) _ _ _); k_dflt (refine' put4_C ?kB ?kF ?kX ?kN ?k1 ?k2 ?k3 ?kT ?kk ?kM1 ?kM2 ?kR ?ki0 ?ki1 ?kn ?kd ?ku ?_; (case kB => k_asm); (case kF => k_asm); (case kX => k_asm); (case kN => k_asm); (case k1 => k_upd); (case kM1 => first | exact rfl | assumption); (case k2 => k_upd); (case kM2 => first | assumption | exact ⟨_, _, _, _, _, _, _, _, _, _, _, _, _, _, _, _, _, _, _, _, _, _, _, rfl⟩); (case k3 => k_upd); (case kR => assumption); (case kT => k_asm); (case kk => first | exact rfl | assumption); (case ki0 => first | decide | omega); (case ki1 => first | decide | omega); (case kn => first | assumption | omega | decide); (case kd => ktr_room); (case ku => ktr_units)); intro oR' h' tk' F' N' hR'; (try dsimp only); (try k_sweep); (try k_fold))
  k_with "call ref" => (k_here; (with_reducible show wpAny _ _ (call (Value.ref 350) [Value.ref _, Value.int _ _, Value.int _ _]) _ _ _); k_dflt (refine' put3_C ?kB ?kF ?kX ?kN ?k1 ?k2 ?k3 ?kT ?kk ?kM1 ?kM2 ?kR ?ki0 ?ki1 ?kd ?ku ?_; (case kB => k_asm); (case kF => k_asm); (case kX => k_asm); (case kN => k_asm); (case k1 => k_upd); (case kM1 => first | exact rfl | assumption); (case k2 => k_upd); (case kM2 => first | assumption | exact ⟨_, _, _, _, _, _, _, _, _, _, _, _, _, _, _, _, _, _, _, _, _, _, _, rfl⟩); (case k3 => k_upd); (case kR => assumption); (case kT => k_asm); (case kk => first | exact rfl | assumption); (case ki0 => first | decide | omega); (case ki1 => first | decide | omega); (case kd => ktr_room); (case ku => ktr_units)); intro oR' h' tk' F' N' hR'; (try dsimp only); (try k_sweep); (try k_fold))
  k_with "call ref" => (k_here; (with_reducible show wpAny _ _ (call (Value.ref 358) [Value.ref _, Value.int _ _, Value.int _ _]) _ _ _); k_dflt (refine' take_C ?kB ?kF ?kX ?kN ?k1 ?k2 ?k3 ?kT ?kk ?kM1 ?kM2 ?kR ?ki0 ?ki1 ?kn ?kd ?ku ?_; (case kB => k_asm); (case kF => k_asm); (case kX => k_asm); (case kN => k_asm); (case k1 => k_upd); (case kM1 => first | exact rfl | assumption); (case k2 => k_upd); (case kM2 => first | assumption | exact ⟨_, _, _, _, _, _, _, _, _, _, _, _, _, _, _, _, _, _, _, _, _, _, _, rfl⟩); (case k3 => k_upd); (case kR => assumption); (case kT => k_asm); (case kk => first | exact rfl | assumption); (case ki0 => first | decide | omega); (case ki1 => first | decide | omega); (case kn => first | assumption | omega | decide); (case kd => ktr_room); (case ku => ktr_units)); intro t' h' tk' F' N'; (try dsimp only); (try k_sweep); (try k_fold))
  trivial
theorem f32 (x : Int) : x.fmod 4294967296 = low x 32 := fmod_low x 32
theorem f64 (x : Int) : x.fmod 18446744073709551616 = low x 64 := fmod_low x 64
section
theorem zz37 : True := by
  k_with "subscriptTail" => (k_here; (with_reducible show wpAny _ _ (subscriptTail _ _ (Value.ref _) (Value.int _ _)) _ _ _); k_dflt (refine' regs_get ?k1 ?k2 ?k3 ?k4 ?k5 ?_ ?k6; (case k1 => k_asm); (case k2 => k_mem); (case k3 => assumption); (case k4 => omega); (case k5 => omega); (case k6 => with_unfolding_all rfl); k_whole); intro t' b0' b1')
  k_with "binaryOp Pow int int" => (k_here; (with_reducible show wpAny _ _ (binaryOp Operator.Pow (Value.int 2 _) (Value.int _ _)) _ _ _); (with_reducible refine pow_n (by assumption) ?_))
  k_with "binaryOp Pow int int" => (k_here; (with_reducible show wpAny _ _ (binaryOp Operator.Pow (Value.int 2 _) (Value.int (_ - 1) _)) _ _ _); (refine pow_n1 (by assumption) ?_))
  k_with "binaryOp Mod int int" => (k_here; (with_reducible show wpAny _ _ (binaryOp Operator.Mod (Value.int _ _) (Value.int (2 ^ Int.toNat _) _)) _ _ _); (with_reducible refine mod_n ?_))
  k_with "binaryOp Mult int int" => (k_here; (with_reducible show wpAny _ _ (binaryOp Operator.Mult (Value.int (low _ _) _) (Value.int (2 ^ Int.toNat _) _)) _ _ _); (with_reducible refine mul_n (by assumption) ?_))
  trivial
set_option maxHeartbeats 8000000 in
theorem whole_C {w : World} {mean : ExcName → Option Value} {mg mb : Str → Option Value}
    {dp un : Nat} {gd : Option (List Code)} {cn : Str} {cs : Scope} {a : Addr} {ccd : Value} {cl : List (Str × Addr)} {outer : List Env} {A₀ : Around} {base h₀ : Heap} {L : Addr} {m : Str → Option Value} {s : Shared} {Q E : Value → Shared → Prop}
    {R : Addr} {oR : Obj} {rs : List Int} {n : Int} {tn : Tok} {sg : Bool} {led : List (Addr × Obj)}
    (B : Below A₀ base outer h₀) (F : Fr h₀ L s.heap m) (X : (hd.heap_1 w.params).In h₀)
    (N : News h₀ L s.heap led) 
    (T : Top qv Lo mean mg mb h₀) (hk : cs.kind = .function) (M0 : (R, oR) ∈ led) (hR : RegsAre rs oR) (hn : n = 32 ∨ n = 64)
    (hdp : dp + 15 < recursionLimit) (hun : un + 800 < cLine)
    (hret : ∀ t h' tk', Fr h₀ L h' m → News h₀ L h' led → Q (.int (wholeOf (rs.getD 2 0) (rs.getD 0 0) n sg) t) { s with heap := h', toks := tk' }) :
    wpAny (model Challenge.rw_ok0167_01.prog w) (ktrTop dp un gd cn cs L a ccd cl outer) (call (.ref 489) [.ref R, .int n tn, .bool sg]) Q E s := by
  replace N := newsIn M0 N
  cases sg
  all_goals
    refine wpAny_call ?_
    k_dflt cell_enter
    k_steps
  all_goals exact Qint rfl (hret _ _ _ (by assumption) (by ktr_rel))
end

-- Fi
theorem zrFi : True := by first | (row_walk; done) | trivial
def loOf (n : Int) (sg : Bool) : Int := if sg then -2 ^ (n - 1).toNat else 0
def hiOf (n : Int) (sg : Bool) : Int := if sg then 2 ^ (n - 1).toNat - 1 else 2 ^ n.toNat - 1
/-- the law's test, whether the quotient fits -/
def FitsP (wh ot n : Int) (sg : Bool) : Prop := ot ≠ 0 ∧
  (wh < 0 ∧ ot < 0 → loOf n sg ≤ (if wh < 0 then -wh else wh).fdiv (if ot < 0 then -ot else ot) ∧ (if wh < 0 then -wh else wh).fdiv (if ot < 0 then -ot else ot) ≤ hiOf n sg) ∧
  ((wh < 0 ∧ 0 ≤ ot) ∨ (0 ≤ wh ∧ ot < 0) → loOf n sg ≤ -(if wh < 0 then -wh else wh).fdiv (if ot < 0 then -ot else ot) ∧ -(if wh < 0 then -wh else wh).fdiv (if ot < 0 then -ot else ot) ≤ hiOf n sg) ∧
  (0 ≤ wh ∧ 0 ≤ ot → wh.fdiv ot ≤ hiOf n sg)
noncomputable def fitsOf (wh ot n : Int) (sg : Bool) : Bool := @decide (FitsP wh ot n sg) (Classical.propDecidable _)
theorem zz38 : True := by
  k_with_none
  k_with "k_all" => ((intro pA hA; refine neN (Nat.ne_of_lt ?_); refine (by assumption : ∀ p ∈ _, p.1 < _) pA ?_; (repeat (first | exact hA | apply List.Mem.tail)); done))
  k_with "k_all" => (with_reducible assumption)
  k_with "k_upd" => ((first | exact Picks.nil | (refine' Picks.cons ?kuc ?kud; (case kuc => k_upd); (case kud => k_upd)) | (refine' Pick.head ?kua; (case kua => k_all)) | (refine' Pick.tail ?kua ?kub; (case kua => k_ne); (case kub => k_upd)) | (refine' Upd.head ?kua; (case kua => k_all)) | (refine' Upd.tail ?kua ?kub; (case kua => k_ne); (case kub => k_upd))))
  k_with "ktr_rel" => ((refine cb_drop (by assumption) ?_; (repeat' (refine fa_cons (by k_mem) ?_)); first | exact List.forall_mem_nil _ | (intro pD hD; repeat (first | exact hD | apply List.Mem.tail))))
  k_with "compareOp NotEq ref ref" => (k_here; k_dflt (refine' ne_K ?k1 ?k2 ?k3 ?k4 ?k5 ?k6 ?_; (case k1 => k_asm); (case k2 => k_mem); (case k3 => k_mem); (case k4 => l_intsC); (case k5 => l_intsC); (case k6 => ktr_units); k_whole))
  k_with "binaryOp FloorDiv int int" => (k_here; (with_reducible refine floordiv_int ?ke ?_ (Or.inl (noPy ?kp ?kq))); (case ke => first | omega | (split <;> omega)); (case kp => first | omega | (split <;> omega)); (case kq => first | omega | (split <;> omega)))
  k_with "call builtin:list.pop" => (k_here; k_dflt (refine' pop0_K ?k1 ?k2 ?k3 ?k4 ?_; (case k1 => k_asm); (case k2 => k_asm); (case k3 => k_upd); (case k4 => omega); k_whole); intro h' F' N')
  k_with "binaryOp Pow int int" => (k_here; first | (with_reducible refine powL_K 18446744073709551616 ?kb1 ?kb2 ?kb3 ?kb4 ?_; (case kb4 => decide +kernel); (case kb1 => decide); (case kb2 => decide); (case kb3 => decide)) | (with_reducible refine powL_K 9223372036854775808 ?kb1 ?kb2 ?kb3 ?kb4 ?_; (case kb4 => decide +kernel); (case kb1 => decide); (case kb2 => decide); (case kb3 => decide)) | (with_reducible refine powL_K 4294967296 ?kb1 ?kb2 ?kb3 ?kb4 ?_; (case kb4 => decide +kernel); (case kb1 => decide); (case kb2 => decide); (case kb3 => decide)) | (with_reducible refine powL_K 2147483648 ?kb1 ?kb2 ?kb3 ?kb4 ?_; (case kb4 => decide +kernel); (case kb1 => decide); (case kb2 => decide); (case kb3 => decide)) | (with_reducible refine powL_K 340282366920938463463374607431768211456 ?kb1 ?kb2 ?kb3 ?kb4 ?_; (case kb4 => decide +kernel); (case kb1 => decide); (case kb2 => decide); (case kb3 => decide)) | (with_reducible refine powL_K 170141183460469231731687303715884105728 ?kb1 ?kb2 ?kb3 ?kb4 ?_; (case kb4 => decide +kernel); (case kb1 => decide); (case kb2 => decide); (case kb3 => decide)))
  k_with "cell_enter" => ((refine' code_def ?k1 ?k2 ?k3 ?k4 ?k5 ?kA ?kF ?kK ?k6 ?k7 ?k8 ?k9 ?kB ?_ ?c2 ?c3 ?c4 ?c5; (case kA => exact rfl); (case kF => exact rfl); (case kK => first | assumption | exact rfl); (case k1 => k_asm); (case k2 => k_asm); (case k3 => k_asm); (case k4 => k_asm); (case k5 => k_asm); (case k6 => k_is); (case k7 => k_is); (case k8 => ktr_room); (case k9 => first | exact BindsTo.of_eq rfl | exact binds_K (by k_in) rfl (by k_is) rfl rfl rfl); (case c5 => decide); (case kB => exact locs rfl); (case c2 => exact rfl); (case c3 => exact rfl); (case c4 => exact rfl); k_whole; intro g' L' h' FG' F' N' B' X' T'; (try dsimp only); (try k_lift B'); (try k_fold)))
  k_with "ktr_units" => (((try simp only [units_in1, units_deeper, units_under_make, Around.mark_units]); (try dsimp only [ktrTop]); omega))
  k_with "ktr_room" => (((try simp only [depth_mark, depth_under_make, depth_under_kw, depth_in1, depth_deeper]); (try dsimp only [ktrTop]); omega))
  k_with "execs cons" => (k_here; (first | ((with_reducible refine gentok fun tk' => ?_); (with_reducible refine wpAny_execs_cons ?_)) | (with_reducible refine wpAny_execs_cons ?_)); (try dsimp only))
  k_with "execs nil" => (k_here; (refine wpAny_execs_nil ?_))
  trivial
theorem lo_t {n : Int} : loOf n true = -2 ^ (n - 1).toNat := rfl
theorem hi_t {n : Int} : hiOf n true = 2 ^ (n - 1).toNat - 1 := rfl
theorem lo_f {n : Int} : loOf n false = 0 := rfl
theorem hi_f {n : Int} : hiOf n false = 2 ^ n.toNat - 1 := rfl
theorem fits_no {wh ot n : Int} {sg : Bool} (h : ¬ FitsP wh ot n sg) : false = fitsOf wh ot n sg := by unfold fitsOf; exact (@decide_eq_false _ (Classical.propDecidable _) h).symm
theorem fits_is {wh ot n : Int} {sg : Bool} {p : Prop} [Decidable p] (h : p ↔ FitsP wh ot n sg) : decide p = fitsOf wh ot n sg := by
  unfold fitsOf
  by_cases hp : p
  · rw [decide_eq_true hp, @decide_eq_true _ (Classical.propDecidable _) (h.mp hp)]
  · rw [decide_eq_false hp, @decide_eq_false _ (Classical.propDecidable _) (fun x => hp (h.mpr x))]
section
variable {wh ot n : Int} {sg : Bool}
theorem fe_0 (h : ot = 0) : false = fitsOf wh ot n sg := fits_no fun x => x.1 h
theorem fe_A (h0 : ot ≠ 0) (a : wh < 0) (b : ot < 0) : FitsP wh ot n sg ↔ loOf n sg ≤ (if wh < 0 then -wh else wh).fdiv (if ot < 0 then -ot else ot) ∧ (if wh < 0 then -wh else wh).fdiv (if ot < 0 then -ot else ot) ≤ hiOf n sg :=
  ⟨fun h => h.2.1 ⟨a, b⟩, fun h => ⟨h0, fun _ => h, fun q => (q.elim (fun z => Int.not_lt.mpr z.2 b) fun z => Int.not_lt.mpr z.1 a).elim, fun q => (Int.not_lt.mpr q.1 a).elim⟩⟩
theorem fe_B (h0 : ot ≠ 0) (c : (wh < 0 ∧ 0 ≤ ot) ∨ (0 ≤ wh ∧ ot < 0)) : FitsP wh ot n sg ↔ loOf n sg ≤ -(if wh < 0 then -wh else wh).fdiv (if ot < 0 then -ot else ot) ∧ -(if wh < 0 then -wh else wh).fdiv (if ot < 0 then -ot else ot) ≤ hiOf n sg :=
  ⟨fun h => h.2.2.1 c, fun h => ⟨h0, fun q => (c.elim (fun z => Int.not_lt.mpr z.2 q.2) fun z => Int.not_lt.mpr z.1 q.1).elim, fun _ => h, fun q => (c.elim (fun z => Int.not_lt.mpr q.1 z.1) fun z => Int.not_lt.mpr q.2 z.2).elim⟩⟩
theorem fe_C (h0 : ot ≠ 0) (a : ¬ wh < 0) (b : ¬ ot < 0) : decide (wh.fdiv ot ≤ hiOf n sg) = fitsOf wh ot n sg :=
  fits_is ⟨fun h => ⟨h0, fun q => (a q.1).elim, fun q => (q.elim (fun z => a z.1) fun z => b z.2).elim, fun _ => h⟩, fun h => h.2.2.2 ⟨Int.not_lt.mp a, Int.not_lt.mp b⟩⟩
theorem fe_sg (hs : wh < 0 ∨ ot < 0) (hb : (decide (wh < 0) == decide (ot < 0)) = true) : wh < 0 ∧ ot < 0 := by
  rw [beq_iff_eq, decide_eq_decide] at hb
  exact hs.elim (fun h => ⟨h, hb.mp h⟩) fun h => ⟨hb.mpr h, h⟩
theorem fe_df (hb : (decide (wh < 0) == decide (ot < 0)) = false) : (wh < 0 ∧ 0 ≤ ot) ∨ (0 ≤ wh ∧ ot < 0) := by
  rw [beq_eq_false_iff_ne, ne_eq, decide_eq_decide] at hb
  by_cases h : wh < 0 <;> by_cases h' : ot < 0
  · exact absurd ⟨fun _ => h', fun _ => h⟩ hb
  · exact Or.inl ⟨h, Int.not_lt.mp h'⟩
  · exact Or.inr ⟨Int.not_lt.mp h, h'⟩
  · exact absurd ⟨fun q => absurd q h, fun q => absurd q h'⟩ hb
theorem fe_S1 (h0 : ot ≠ 0) (hs : wh < 0 ∨ ot < 0) (hb : (decide (wh < 0) == decide (ot < 0)) = true) (hl : loOf n sg ≤ (if wh < 0 then -wh else wh).fdiv (if ot < 0 then -ot else ot)) : decide ((if wh < 0 then -wh else wh).fdiv (if ot < 0 then -ot else ot) ≤ hiOf n sg) = fitsOf wh ot n sg :=
  fits_is ((fe_A h0 (fe_sg hs hb).1 (fe_sg hs hb).2).trans ⟨fun h => h.2, fun h => ⟨hl, h⟩⟩).symm
theorem fe_S0 (h0 : ot ≠ 0) (hs : wh < 0 ∨ ot < 0) (hb : (decide (wh < 0) == decide (ot < 0)) = true) (hl : ¬ loOf n sg ≤ (if wh < 0 then -wh else wh).fdiv (if ot < 0 then -ot else ot)) : false = fitsOf wh ot n sg :=
  fits_no fun x => hl ((fe_A h0 (fe_sg hs hb).1 (fe_sg hs hb).2).mp x).1
theorem fe_D1 (h0 : ot ≠ 0) (hb : (decide (wh < 0) == decide (ot < 0)) = false) (hl : loOf n sg ≤ -(if wh < 0 then -wh else wh).fdiv (if ot < 0 then -ot else ot)) : decide (-(if wh < 0 then -wh else wh).fdiv (if ot < 0 then -ot else ot) ≤ hiOf n sg) = fitsOf wh ot n sg :=
  fits_is ((fe_B h0 (fe_df hb)).trans ⟨fun h => h.2, fun h => ⟨hl, h⟩⟩).symm
theorem fe_D0 (h0 : ot ≠ 0) (hb : (decide (wh < 0) == decide (ot < 0)) = false) (hl : ¬ loOf n sg ≤ -(if wh < 0 then -wh else wh).fdiv (if ot < 0 then -ot else ot)) : false = fitsOf wh ot n sg :=
  fits_no fun x => hl ((fe_B h0 (fe_df hb)).mp x).1
theorem fe_S2 (h0 : ot ≠ 0) (hs : wh < 0 ∨ ot < 0) (hb : (decide (wh < 0) == decide (ot < 0)) = true) (hl : ¬ loOf n sg ≤ (if wh < 0 then -wh else wh).fdiv (if ot < 0 then -ot else ot)) : decide (loOf n sg ≤ (if wh < 0 then -wh else wh).fdiv (if ot < 0 then -ot else ot)) = fitsOf wh ot n sg := (decide_eq_false hl).trans (fe_S0 h0 hs hb hl)
theorem fe_D2 (h0 : ot ≠ 0) (hb : (decide (wh < 0) == decide (ot < 0)) = false) (hl : ¬ loOf n sg ≤ -(if wh < 0 then -wh else wh).fdiv (if ot < 0 then -ot else ot)) : decide (loOf n sg ≤ -(if wh < 0 then -wh else wh).fdiv (if ot < 0 then -ot else ot)) = fitsOf wh ot n sg := (decide_eq_false hl).trans (fe_D0 h0 hb hl)
end
section
theorem zz39 : True := by
  k_with "binaryOp Pow int int" => (k_here; (with_reducible show wpAny _ _ (binaryOp Operator.Pow (Value.int 2 _) (Value.int _ _)) _ _ _); (with_reducible refine pow_n (by assumption) ?_))
  k_with "binaryOp Pow int int" => (k_here; (with_reducible show wpAny _ _ (binaryOp Operator.Pow (Value.int 2 _) (Value.int (_ - 1) _)) _ _ _); (refine pow_n1 (by assumption) ?_))
  k_with "binaryOp Mod int int" => (k_here; (with_reducible show wpAny _ _ (binaryOp Operator.Mod (Value.int _ _) (Value.int (2 ^ Int.toNat _) _)) _ _ _); (with_reducible refine mod_n ?_))
  k_with "binaryOp Mult int int" => (k_here; (with_reducible show wpAny _ _ (binaryOp Operator.Mult (Value.int (low _ _) _) (Value.int (2 ^ Int.toNat _) _)) _ _ _); (with_reducible refine mul_n (by assumption) ?_))
  trivial
set_option maxHeartbeats 8000000 in
theorem lfits_C {w : World} {mean : ExcName → Option Value} {mg mb : Str → Option Value}
    {dp un : Nat} {gd : Option (List Code)} {cn : Str} {cs : Scope} {a : Addr} {ccd : Value} {cl : List (Str × Addr)} {outer : List Env} {A₀ : Around} {base h₀ : Heap} {L : Addr} {m : Str → Option Value} {s : Shared} {Q E : Value → Shared → Prop}
    {wh ot n : Int} {t1 t2 tn : Tok} {sg : Bool} {led : List (Addr × Obj)}
    (B : Below A₀ base outer h₀) (F : Fr h₀ L s.heap m) (X : (hd.heap_1 w.params).In h₀)
    (N : News h₀ L s.heap led) 
    (T : Top qv Lo mean mg mb h₀) (hk : cs.kind = .function)  (hn : n = 32 ∨ n = 64) (ho : -1180591620717411303424 < ot ∧ ot < 1180591620717411303424)
    (hdp : dp + 15 < recursionLimit) (hun : un + 800 < cLine)
    (hret : ∀ h' tk', Fr h₀ L h' m → News h₀ L h' led → Q (.bool (fitsOf wh ot n sg)) { s with heap := h', toks := tk' }) :
    wpAny (model Challenge.rw_ok0167_01.prog w) (ktrTop dp un gd cn cs L a ccd cl outer) (call (.ref 496) [.int wh t1, .int ot t2, .int n tn, .bool sg]) Q E s := by
  cases sg
  all_goals
    refine wpAny_call ?_
    k_dflt cell_enter
    k_steps
  all_goals (clear hdp hun hn ho)
  all_goals (refine Qbool ?_ (hret _ _ (by assumption) (by ktr_rel)))
  all_goals first
    | exact fe_0 (wh := wh) (ot := ot) (n := n) (sg := true) (by assumption)
    | exact fe_0 (wh := wh) (ot := ot) (n := n) (sg := false) (by assumption)
    | exact fe_C (wh := wh) (ot := ot) (n := n) (sg := true) (by assumption) (by assumption) (by assumption)
    | exact fe_C (wh := wh) (ot := ot) (n := n) (sg := false) (by assumption) (by assumption) (by assumption)
    | exact fe_S1 (wh := wh) (ot := ot) (n := n) (sg := true) (by assumption) (by first | exact Or.inl (by assumption) | exact Or.inr (by assumption)) (by assumption) (by assumption)
    | exact fe_S1 (wh := wh) (ot := ot) (n := n) (sg := false) (by assumption) (by first | exact Or.inl (by assumption) | exact Or.inr (by assumption)) (by assumption) (by assumption)
    | exact fe_S2 (wh := wh) (ot := ot) (n := n) (sg := true) (by assumption) (by first | exact Or.inl (by assumption) | exact Or.inr (by assumption)) (by assumption) (by assumption)
    | exact fe_S2 (wh := wh) (ot := ot) (n := n) (sg := false) (by assumption) (by first | exact Or.inl (by assumption) | exact Or.inr (by assumption)) (by assumption) (by assumption)
    | exact fe_S0 (wh := wh) (ot := ot) (n := n) (sg := true) (by assumption) (by first | exact Or.inl (by assumption) | exact Or.inr (by assumption)) (by assumption) (by assumption)
    | exact fe_S0 (wh := wh) (ot := ot) (n := n) (sg := false) (by assumption) (by first | exact Or.inl (by assumption) | exact Or.inr (by assumption)) (by assumption) (by assumption)
    | exact fe_D1 (wh := wh) (ot := ot) (n := n) (sg := true) (by assumption) (by assumption) (by assumption)
    | exact fe_D1 (wh := wh) (ot := ot) (n := n) (sg := false) (by assumption) (by assumption) (by assumption)
    | exact fe_D2 (wh := wh) (ot := ot) (n := n) (sg := true) (by assumption) (by assumption) (by assumption)
    | exact fe_D2 (wh := wh) (ot := ot) (n := n) (sg := false) (by assumption) (by assumption) (by assumption)
    | exact fe_D0 (wh := wh) (ot := ot) (n := n) (sg := true) (by assumption) (by assumption) (by assumption)
    | exact fe_D0 (wh := wh) (ot := ot) (n := n) (sg := false) (by assumption) (by assumption) (by assumption)
end

-- Ld
theorem zrLd : True := by first | (row_walk; done) | trivial
section
theorem zz40 : True := by
  k_with_none
  k_with "k_all" => ((intro pA hA; refine neN (Nat.ne_of_lt ?_); refine (by assumption : ∀ p ∈ _, p.1 < _) pA ?_; (repeat (first | exact hA | apply List.Mem.tail)); done))
  k_with "k_all" => (with_reducible assumption)
  k_with "k_upd" => ((first | exact Picks.nil | (refine' Picks.cons ?kuc ?kud; (case kuc => k_upd); (case kud => k_upd)) | (refine' Pick.head ?kua; (case kua => k_all)) | (refine' Pick.tail ?kua ?kub; (case kua => k_ne); (case kub => k_upd)) | (refine' Upd.head ?kua; (case kua => k_all)) | (refine' Upd.tail ?kua ?kub; (case kua => k_ne); (case kub => k_upd))))
  k_with "ktr_rel" => ((refine cb_drop (by assumption) ?_; (repeat' (refine fa_cons (by k_mem) ?_)); first | exact List.forall_mem_nil _ | (intro pD hD; repeat (first | exact hD | apply List.Mem.tail))))
  k_with "compareOp NotEq ref ref" => (k_here; k_dflt (refine' ne_K ?k1 ?k2 ?k3 ?k4 ?k5 ?k6 ?_; (case k1 => k_asm); (case k2 => k_mem); (case k3 => k_mem); (case k4 => l_intsC); (case k5 => l_intsC); (case k6 => ktr_units); k_whole))
  k_with "binaryOp FloorDiv int int" => (k_here; (with_reducible refine floordiv_int ?ke ?_ (Or.inl (noPy ?kp ?kq))); (case ke => first | omega | (split <;> omega)); (case kp => first | omega | (split <;> omega)); (case kq => first | omega | (split <;> omega)))
  k_with "call builtin:list.pop" => (k_here; k_dflt (refine' pop0_K ?k1 ?k2 ?k3 ?k4 ?_; (case k1 => k_asm); (case k2 => k_asm); (case k3 => k_upd); (case k4 => omega); k_whole); intro h' F' N')
  k_with "binaryOp Pow int int" => (k_here; first | (with_reducible refine powL_K 18446744073709551616 ?kb1 ?kb2 ?kb3 ?kb4 ?_; (case kb4 => decide +kernel); (case kb1 => decide); (case kb2 => decide); (case kb3 => decide)) | (with_reducible refine powL_K 9223372036854775808 ?kb1 ?kb2 ?kb3 ?kb4 ?_; (case kb4 => decide +kernel); (case kb1 => decide); (case kb2 => decide); (case kb3 => decide)) | (with_reducible refine powL_K 4294967296 ?kb1 ?kb2 ?kb3 ?kb4 ?_; (case kb4 => decide +kernel); (case kb1 => decide); (case kb2 => decide); (case kb3 => decide)) | (with_reducible refine powL_K 2147483648 ?kb1 ?kb2 ?kb3 ?kb4 ?_; (case kb4 => decide +kernel); (case kb1 => decide); (case kb2 => decide); (case kb3 => decide)) | (with_reducible refine powL_K 340282366920938463463374607431768211456 ?kb1 ?kb2 ?kb3 ?kb4 ?_; (case kb4 => decide +kernel); (case kb1 => decide); (case kb2 => decide); (case kb3 => decide)) | (with_reducible refine powL_K 170141183460469231731687303715884105728 ?kb1 ?kb2 ?kb3 ?kb4 ?_; (case kb4 => decide +kernel); (case kb1 => decide); (case kb2 => decide); (case kb3 => decide)))
  k_with "cell_enter" => ((refine' code_def ?k1 ?k2 ?k3 ?k4 ?k5 ?kA ?kF ?kK ?k6 ?k7 ?k8 ?k9 ?kB ?_ ?c2 ?c3 ?c4 ?c5; (case kA => exact rfl); (case kF => exact rfl); (case kK => first | assumption | exact rfl); (case k1 => k_asm); (case k2 => k_asm); (case k3 => k_asm); (case k4 => k_asm); (case k5 => k_asm); (case k6 => k_is); (case k7 => k_is); (case k8 => ktr_room); (case k9 => first | exact BindsTo.of_eq rfl | exact binds_K (by k_in) rfl (by k_is) rfl rfl rfl); (case c5 => decide); (case kB => exact locs rfl); (case c2 => exact rfl); (case c3 => exact rfl); (case c4 => exact rfl); k_whole; intro g' L' h' FG' F' N' B' X' T'; (try dsimp only); (try k_lift B'); (try k_fold)))
  k_with "ktr_units" => (((try simp only [units_in1, units_deeper, units_under_make, Around.mark_units]); (try dsimp only [ktrTop]); omega))
  k_with "ktr_room" => (((try simp only [depth_mark, depth_under_make, depth_under_kw, depth_in1, depth_deeper]); (try dsimp only [ktrTop]); omega))
  k_with "execs cons" => (k_here; (first | ((with_reducible refine gentok fun tk' => ?_); (with_reducible refine wpAny_execs_cons ?_)) | (with_reducible refine wpAny_execs_cons ?_)); (try dsimp only))
  k_with "execs nil" => (k_here; (refine wpAny_execs_nil ?_))
  k_with "ktr_enter" => ((refine' enterX ?k1 ?k2 ?k3 ?kE ?k4 ?k5 ?kXB ?kEB ?kTB ?kA ?kF ?kK ?k6 ?k7 ?k8 ?k9 ?kB ?_ ?c2 ?c3 ?c4 ?c5; (case kA => exact rfl); (case kF => exact rfl); (case kK => assumption); (case k1 => k_asm); (case k2 => k_asm); (case k3 => k_asm); (case kE => k_asm); (case k4 => k_asm); (case k5 => k_asm); (case kXB => k_asm); (case kEB => k_asm); (case kTB => k_asm); (case k6 => k_is); (case k7 => k_is); (case k8 => ktr_room); (case k9 => first | exact BindsTo.of_eq rfl | exact binds_K (by k_in) rfl (by k_is) rfl rfl rfl); (case c5 => decide); (case kB => exact locs rfl); (case c2 => exact rfl); (case c3 => exact rfl); (case c4 => exact rfl); k_whole; intro g' L' h' FG' F' N' B' X' T' E' back'; (try dsimp only); (try k_fold)))
  k_with "leaving ref" => (k_here; (refine' leave_led ?kB ?kF ?kk ?kY ?_; (case kB => k_asm); (case kF => k_asm); (case kY => first | exact Or.inl (by assumption) | exact Or.inr (by assumption)); (case kk => exact rfl); k_whole); intro h' g' T' F' Y' B')
  k_with "exec Raise some none" => (k_here; (refine' raise_K ?kh ?_; (case kh => with_unfolding_all rfl)))
  k_with "call ref" => (k_here; (with_reducible show wpAny _ _ (call (Value.ref 59) [Value.str _ _]) _ _ _); k_dflt (refine' fault_C ?kB ?kF ?kX ?kN ?kT ?kA ?kf ?kK ?kd ?_; (case kA => exact rfl); (case kf => exact rfl); (case kK => first | assumption | exact rfl); (case kB => k_asm); (case kF => k_asm); (case kX => k_asm); (case kN => k_asm); (case kT => k_asm); (case kd => ktr_room)); intro e' dx' t' oe' od' h' tk' F' N' n1' n2' n3' hE'; obtain ⟨⟨sl', hR'⟩, hW'⟩ := hE'; subst hR'; (replace hW' : WhatIs _ _ := (by obtain ⟨q1, q2, t1, t2, t3, n, e⟩ := hW'; exact ⟨q1, q2, t1, t2, t3, n, e⟩)); (have Y' := flyNew_of N' n2' n3'); (try dsimp only); (try k_sweep); (try k_fold))
  k_with "Exists" => (refine ⟨_, _, _, _, rfl, (by k_in), News.get (by k_asm) (by k_mem), ?_⟩)
  k_with "call ref" => (k_here; (with_reducible show wpAny _ _ (call (Value.ref 314) [Value.int _ _, Value.int _ _, Value.int _ _, Value.int _ _]) _ _ _); k_dflt (refine' divided_C ?kB ?kF ?kX ?kE ?kN  ?kT ?kXB ?kEB ?kTB ?kk ?kn ?h1 ?h2 ?h3 ?h4 ?h5 ?h6 ?kd ?ku (fun x' u1' u2' h0' h' tk' T' F' B' X' TT' E' N' l1 c1' c2' => ?_) (fun e' dx' od' h0' h' tk' T' F' B' X' TT' E' Y' W' nd' c1' => ?_); (case kB => k_asm); (case kF => k_asm); (case kX => k_asm); (case kE => k_asm); (case kN => k_asm); (case kT => k_asm); (case kXB => k_asm); (case kEB => k_asm); (case kTB => k_asm); (case kk => first | exact rfl | assumption); (case kn => first | assumption | omega); (case h1 => first | exact low_nn _ _ | omega); (case h2 => first | exact low64 (by assumption) _ | omega); (case h3 => first | exact low_nn _ _ | omega); (case h4 => first | exact low64 (by assumption) _ | omega); (case h5 => first | exact low_nn _ _ | omega); (case h6 => first | exact low64 (by assumption) _ | omega); (case kd => ktr_room); (case ku => ktr_units)); (all_goals ((try k_lt l1); (try dsimp only); (try k_sweep); (try k_fold))); rotate_left)
  k_with "call ref" => (k_here; (with_reducible show wpAny _ _ (call (Value.ref 321) [Value.int _ _, Value.int _ _, Value.int _ _, Value.int _ _]) _ _ _); k_dflt (refine' sdivided_C ?kB ?kF ?kX ?kE ?kN  ?kT ?kXB ?kEB ?kTB ?kk ?kn ?h1 ?h2 ?h3 ?h4 ?h5 ?h6 ?kd ?ku (fun x' u1' u2' h0' h' tk' T' F' B' X' TT' E' N' l1 c1' c2' => ?_) (fun e' dx' od' h0' h' tk' T' F' B' X' TT' E' Y' W' nd' c1' => ?_); (case kB => k_asm); (case kF => k_asm); (case kX => k_asm); (case kE => k_asm); (case kN => k_asm); (case kT => k_asm); (case kXB => k_asm); (case kEB => k_asm); (case kTB => k_asm); (case kk => first | exact rfl | assumption); (case kn => first | assumption | omega); (case h1 => first | exact low_nn _ _ | omega); (case h2 => first | exact low64 (by assumption) _ | omega); (case h3 => first | exact low_nn _ _ | omega); (case h4 => first | exact low64 (by assumption) _ | omega); (case h5 => first | exact low_nn _ _ | omega); (case h6 => first | exact low64 (by assumption) _ | omega); (case kd => ktr_room); (case ku => ktr_units)); (all_goals ((try k_lt l1); (try dsimp only); (try k_sweep); (try k_fold))); rotate_left)
  k_with "compareOp Eq str str" => (k_here; k_dflt (refine' eq_no ?ke ?_; (case ke => with_reducible assumption)))
  k_with "compareOp In str ref" => (k_here; (with_reducible show wpAny _ _ (compareOp CmpOp.In (Value.str _ _) (Value.ref _)) _ _ _); (with_unfolding_all refine' tin_no ?k1 ?k2 ?k3 ?_; (case k1 => exact News.isTup (by k_asm) (by news_mem)); (case k2 => kde_strs); (case k3 => assumption); k_whole))
  k_with "compareOp NotIn str ref" => (k_here; (with_reducible show wpAny _ _ (compareOp CmpOp.NotIn (Value.str _ _) (Value.ref _)) _ _ _); (with_unfolding_all refine' tnot_no ?k1 ?k2 ?k3 ?_; (case k1 => exact News.isTup (by k_asm) (by news_mem)); (case k2 => kde_strs); (case k3 => assumption); k_whole))
  k_with "subscriptTail Name Slice str ref" => (k_here; (with_reducible show wpAny _ _ (subscriptTail _ (Expr.Slice (some _) none none _) _ _) _ _ _); (with_reducible rename Fr _ _ _ _ => F'); (with_reducible rename News _ _ _ _ => N'); (refine slice_strN_sn (hsz := ?hsz) (s := ⟨_, _, _, _, _⟩) F' N' ?_); (case hsz => (rw [sizeLine_eq]; omega)); intro h' t' tk' F' N')
  k_with "subscriptTail Name Slice str ref" => (k_here; (with_reducible show wpAny _ _ (subscriptTail _ (Expr.Slice none (some _) none _) _ _) _ _ _); (with_reducible rename Fr _ _ _ _ => F'); (with_reducible rename News _ _ _ _ => N'); (refine slice_strN_ns (hsz := ?hsz) (s := ⟨_, _, _, _, _⟩) F' N' ?_); (case hsz => (rw [sizeLine_eq]; omega)); intro h' t' tk' F' N')
  k_with "compareOp NotEq str str" => (k_here; k_dflt (refine' ne_yes ?ke ?_; (case ke => with_reducible assumption)))
  k_with "call ref" => (k_here; (with_reducible show wpAny _ _ (call (Value.ref 350) [Value.ref _, Value.int _ _, Value.int _ _, Value.int _ _]) _ _ _); k_dflt (refine' put4_C ?kB ?kF ?kX ?kN ?k1 ?k2 ?k3 ?kT ?kk ?kM1 ?kM2 ?kR ?ki0 ?ki1 ?kn ?kd ?ku ?_; (case kB => k_asm); (case kF => k_asm); (case kX => k_asm); (case kN => k_asm); (case k1 => k_upd); (case kM1 => first | exact rfl | assumption); (case k2 => k_upd); (case kM2 => first | assumption | exact ⟨_, _, _, _, _, _, _, _, _, _, _, _, _, _, _, _, _, _, _, _, _, _, _, rfl⟩); (case k3 => k_upd); (case kR => assumption); (case kT => k_asm); (case kk => first | exact rfl | assumption); (case ki0 => first | decide | omega); (case ki1 => first | decide | omega); (case kn => first | assumption | omega | decide); (case kd => ktr_room); (case ku => ktr_units)); intro oR' h' tk' F' N' hR'; (try dsimp only); (try k_sweep); (try k_fold))
  k_with "call ref" => (k_here; (with_reducible show wpAny _ _ (call (Value.ref 350) [Value.ref _, Value.int _ _, Value.int _ _]) _ _ _); k_dflt (refine' put3_C ?kB ?kF ?kX ?kN ?k1 ?k2 ?k3 ?kT ?kk ?kM1 ?kM2 ?kR ?ki0 ?ki1 ?kd ?ku ?_; (case kB => k_asm); (case kF => k_asm); (case kX => k_asm); (case kN => k_asm); (case k1 => k_upd); (case kM1 => first | exact rfl | assumption); (case k2 => k_upd); (case kM2 => first | assumption | exact ⟨_, _, _, _, _, _, _, _, _, _, _, _, _, _, _, _, _, _, _, _, _, _, _, rfl⟩); (case k3 => k_upd); (case kR => assumption); (case kT => k_asm); (case kk => first | exact rfl | assumption); (case ki0 => first | decide | omega); (case ki1 => first | decide | omega); (case kd => ktr_room); (case ku => ktr_units)); intro oR' h' tk' F' N' hR'; (try dsimp only); (try k_sweep); (try k_fold))
  k_with "call ref" => (k_here; (with_reducible show wpAny _ _ (call (Value.ref 358) [Value.ref _, Value.int _ _, Value.int _ _]) _ _ _); k_dflt (refine' take_C ?kB ?kF ?kX ?kN ?k1 ?k2 ?k3 ?kT ?kk ?kM1 ?kM2 ?kR ?ki0 ?ki1 ?kn ?kd ?ku ?_; (case kB => k_asm); (case kF => k_asm); (case kX => k_asm); (case kN => k_asm); (case k1 => k_upd); (case kM1 => first | exact rfl | assumption); (case k2 => k_upd); (case kM2 => first | assumption | exact ⟨_, _, _, _, _, _, _, _, _, _, _, _, _, _, _, _, _, _, _, _, _, _, _, rfl⟩); (case k3 => k_upd); (case kR => assumption); (case kT => k_asm); (case kk => first | exact rfl | assumption); (case ki0 => first | decide | omega); (case ki1 => first | decide | omega); (case kn => first | assumption | omega | decide); (case kd => ktr_room); (case ku => ktr_units)); intro t' h' tk' F' N'; (try dsimp only); (try k_sweep); (try k_fold))
  trivial
set_option maxHeartbeats 8000000 in
theorem direct_X {w : World} {mean : ExcName → Option Value} {mg mb : Str → Option Value}
    {dp un : Nat} {gd : Option (List Code)} {cn : Str} {cs : Scope} {a : Addr} {ccd : Value} {cl : List (Str × Addr)} {outer : List Env} {A₀ : Around} {base h₀ : Heap} {L : Addr} {m : Str → Option Value} {s : Shared} {Q E : Value → Shared → Prop}
    {hi lo ot n : Int} {t1 t2 t3 t4 : Tok} {sg : Bool} {led : List (Addr × Obj)}
    (B : Below A₀ base outer h₀) (F : Fr h₀ L s.heap m) (X : (hd.heap_1 w.params).In h₀) (XE : Ext w h₀)
    (N : News h₀ L s.heap led) 
    (T : Top qv Lo mean mg mb h₀) (XB : (hd.heap_1 w.params).In base) (EB : Ext w base) (TB : Top qv Lo mean mg mb base) (hk : cs.kind = .function) (hn : n = 32 ∨ n = 64) (h1 : 0 ≤ hi) (h2 : hi < 2 ^ 64) (h3 : 0 ≤ lo) (h4 : lo < 2 ^ 64) (h5 : 0 ≤ ot) (h6 : ot < 2 ^ 64)
    (hdp : dp + 60 ≤ 500) (hun : un + 900 ≤ 5000)
    (hret : ∀ x u1 u2 h₀' h' tk', KtsTurn (frs outer) h₀ h₀' → Fr h₀' L h' m → Below A₀ base outer h₀' → (hd.heap_1 w.params).In h₀' → Top qv Lo mean mg mb h₀' → Ext w h₀' → News h₀' L h' ((x, tupOf [.int (dvQ sg hi lo ot n) u1, .int (dvR sg hi lo ot n) u2]) :: led) → (∀ p ∈ led, p.1 < x) → dvOk sg hi lo ot n → Q (.ref x) { s with heap := h', toks := tk' })
    (hexc : ∀ h₀' h' tk', KtsTurn (frs outer) h₀ h₀' → Fr h₀' L h' m → Below A₀ base outer h₀' → (hd.heap_1 w.params).In h₀' → Top qv Lo mean mg mb h₀' → Ext w h₀' → News h₀' L h' led → ¬ dvOk sg hi lo ot n → Q .none { s with heap := h', toks := tk' }) :
    wpAny (model Challenge.rw_ok0167_01.prog w) (ktrTop dp un gd cn cs L a ccd cl outer) (call (.ref 503) [.int hi t1, .int lo t2, .int ot t3, .int n t4, .bool sg]) Q E s := by
  have hrl9 : recursionLimit = 1000 := rfl
  have hcl9 : cLine = 9900 := rfl
  cases sg
  all_goals
    refine wpAny_call ?_
    ktr_enter
    k_steps
  · rename Fr _ _ _ _ => F9
    rename Below _ _ _ _ => B9
    rename FlyAt _ _ _ _ _ _ _ => Y9
    (with_unfolding_all refine' caught_led B9 F9 rfl Y9 XB TB ?ex ?k)
    case ex => k_is
    case k =>
      intro h7 g7 T7 F7 Y7 B7
      clear Y9 F9 B9
      have X7 : (hd.heap_1 w.params).In g7 := XB.keeps B7.stays
      have TT7 : Top qv Lo mean mg mb g7 := TB.keeps B7.stays
      have XE7 : Ext w g7 := EB.keeps B7.stays
      obtain ⟨⟨c9, d9, dt9, sl9⟩, vs9, Tb9, oT9, ts9, N9, hne9, rfl, rfl, rfl, h19, NT9, r9⟩ := Y7
      clear NT9 r9 h19
      k_steps
      rename Fr _ _ _ _ => F9
      rename News _ _ _ (_ :: _) => N9
      rename (∀ (g' h' : Heap) (m' : Str → Option Value), KtsTurn _ _ g' → Fr g' _ h' m' → _) => bk
      obtain ⟨h9, T1, F1, B1, X1, TT1, XE1, K1⟩ := bk _ _ _ (KtsTurn.trans (by assumption) T7) F9
      exact hexc _ _ _ T1 F1 B1 X1 TT1 XE1 (cb_drop (K1 _ N9) (by (repeat' (refine fa_cons (by k_mem) ?_)); intro pD hD; repeat (first | exact hD | apply List.Mem.tail))) (dvNo_f (by assumption))
  · rename Fr _ _ _ _ => F9
    rename News _ _ _ (_ :: _) => N9
    rename (∀ (g' h' : Heap) (m' : Str → Option Value), KtsTurn _ _ g' → Fr g' _ h' m' → _) => bk
    rename KtsTurn _ _ _ => T9
    obtain ⟨h9, T1, F1, B1, X1, TT1, XE1, K1⟩ := bk _ _ _ T9 F9
    exact hret _ _ _ _ _ _ T1 F1 B1 X1 TT1 XE1 (cb_drop (K1 _ N9) (by (repeat' (refine fa_cons (by k_mem) ?_)); intro pD hD; repeat (first | exact hD | apply List.Mem.tail))) (by assumption) (dvOk_f (by assumption) (by assumption))
  · rename Fr _ _ _ _ => F9
    rename Below _ _ _ _ => B9
    rename FlyAt _ _ _ _ _ _ _ => Y9
    (with_unfolding_all refine' caught_led B9 F9 rfl Y9 XB TB ?ex ?k)
    case ex => k_is
    case k =>
      intro h7 g7 T7 F7 Y7 B7
      clear Y9 F9 B9
      have X7 : (hd.heap_1 w.params).In g7 := XB.keeps B7.stays
      have TT7 : Top qv Lo mean mg mb g7 := TB.keeps B7.stays
      have XE7 : Ext w g7 := EB.keeps B7.stays
      obtain ⟨⟨c9, d9, dt9, sl9⟩, vs9, Tb9, oT9, ts9, N9, hne9, rfl, rfl, rfl, h19, NT9, r9⟩ := Y7
      clear NT9 r9 h19
      k_steps
      rename Fr _ _ _ _ => F9
      rename News _ _ _ (_ :: _) => N9
      rename (∀ (g' h' : Heap) (m' : Str → Option Value), KtsTurn _ _ g' → Fr g' _ h' m' → _) => bk
      obtain ⟨h9, T1, F1, B1, X1, TT1, XE1, K1⟩ := bk _ _ _ (KtsTurn.trans (by assumption) T7) F9
      exact hexc _ _ _ T1 F1 B1 X1 TT1 XE1 (cb_drop (K1 _ N9) (by (repeat' (refine fa_cons (by k_mem) ?_)); intro pD hD; repeat (first | exact hD | apply List.Mem.tail))) (dvNo_t (by assumption))
  · rename Fr _ _ _ _ => F9
    rename News _ _ _ (_ :: _) => N9
    rename (∀ (g' h' : Heap) (m' : Str → Option Value), KtsTurn _ _ g' → Fr g' _ h' m' → _) => bk
    rename KtsTurn _ _ _ => T9
    obtain ⟨h9, T1, F1, B1, X1, TT1, XE1, K1⟩ := bk _ _ _ T9 F9
    exact hret _ _ _ _ _ _ T1 F1 B1 X1 TT1 XE1 (cb_drop (K1 _ N9) (by (repeat' (refine fa_cons (by k_mem) ?_)); intro pD hD; repeat (first | exact hD | apply List.Mem.tail))) (by assumption) (dvOk_t (by assumption) (by assumption))
end

-- Pn
theorem zrPn : True := by first | (row_walk; done) | trivial
theorem pen_nn {ns : List Int} : ∀ x ∈ ns.map (fun k => (2 * if k < 0 then -k else k) + if decide (k < 0) = true then 1 else 0), 0 ≤ x := fun x hx => by
  obtain ⟨k, _, rfl⟩ := List.mem_map.mp hx
  split <;> split <;> omega
section
theorem zz41 : True := by
  k_with "eval ListComp" => (k_here; k_dflt (refine LCg.ListComp_U (F₀ := by k_asm) (by with_unfolding_all rfl) (by decide) (by rfl) (by decide) (by rfl) ?_))
  k_with "CompSrc" => (k_here; (try kcf_lens); k_dflt (refine LCg.CompSrc.ledger (by rfl) (by k_asm) (by k_asm) (by k_mem) (by kcf_size) ?_; intro g'; (refine' kcf_list _ (by assumption) (fun k' t' I' oI' C' oC' D' m' ys' h' tk' E' hk' hC' hx' F' N' off' ne' hMark' => ?_) ?_); (all_goals (try (simp only [LCg.Off3, and_true] at off'))); kcf_last))
  trivial
set_option maxHeartbeats 8000000 in
theorem pen_C {w : World} {mean : ExcName → Option Value} {mg mb : Str → Option Value}
    {dp un : Nat} {gd : Option (List Code)} {cn : Str} {cs : Scope} {a : Addr} {ccd : Value} {cl : List (Str × Addr)} {outer : List Env} {A₀ : Around} {base h₀ : Heap} {L : Addr} {m : Str → Option Value} {s : Shared} {Q E : Value → Shared → Prop}
    {S : Addr} {vs : List Value} {ns : List Int}
    (B : Below A₀ base outer h₀) (F : Fr h₀ L s.heap m) (X : (hd.heap_1 w.params).In h₀)
    (N : News h₀ L s.heap []) 
    (T : Top qv Lo mean mg mb h₀) (hk : cs.kind = .function) (hS : base.IsList S vs.toArray) (hI : IntsAre vs ns) (hlen : ns.length ≤ 63) 
    (hd : dp + 20 < recursionLimit) (hu : un + 600 < cLine)
    (hret : ∀ P l oP oL h' tk', Fr h₀ L h' m → News h₀ L h' [(P, oP), (l, oL)] → @LT.lt Nat _ l P → PenIs l 0 oP oL → Q (.ref P) { s with heap := h', toks := tk' }) :
    wpAny (model Challenge.rw_ok0167_01.prog w) (ktrTop dp un gd cn cs L a ccd cl outer) (call (.ref 454) [.ref S]) Q E s := by
  refine wpAny_call ?_
  k_dflt cell_enter
  k_steps
  rename IntsAre _ (List.map _ _) => hI8
  exact hret _ _ _ _ _ _ (by assumption) (by ktr_rel) (by omega) ⟨_, _, _, _, _, _, _, _, rfl, rfl, hI8, pen_nn, by decide, by rw [List.length_map, List.length_take]; exact Nat.min_le_left _ _, by decide, by decide⟩
end

-- Rw
theorem zrRw : True := by first | (row_walk; done) | trivial
theorem zz42 : True := by
  k_with_none
  k_with "k_all" => ((intro pA hA; refine neN (Nat.ne_of_lt ?_); refine (by assumption : ∀ p ∈ _, p.1 < _) pA ?_; (repeat (first | exact hA | apply List.Mem.tail)); done))
  k_with "k_all" => (with_reducible assumption)
  k_with "k_upd" => ((first | exact Picks.nil | (refine' Picks.cons ?kuc ?kud; (case kuc => k_upd); (case kud => k_upd)) | (refine' Pick.head ?kua; (case kua => k_all)) | (refine' Pick.tail ?kua ?kub; (case kua => k_ne); (case kub => k_upd)) | (refine' Upd.head ?kua; (case kua => k_all)) | (refine' Upd.tail ?kua ?kub; (case kua => k_ne); (case kub => k_upd))))
  k_with "ktr_rel" => ((refine cb_drop (by assumption) ?_; (repeat' (refine fa_cons (by k_mem) ?_)); first | exact List.forall_mem_nil _ | (intro pD hD; repeat (first | exact hD | apply List.Mem.tail))))
  k_with "compareOp NotEq ref ref" => (k_here; k_dflt (refine' ne_K ?k1 ?k2 ?k3 ?k4 ?k5 ?k6 ?_; (case k1 => k_asm); (case k2 => k_mem); (case k3 => k_mem); (case k4 => l_intsC); (case k5 => l_intsC); (case k6 => ktr_units); k_whole))
  k_with "binaryOp FloorDiv int int" => (k_here; (with_reducible refine floordiv_int ?ke ?_ (Or.inl (noPy ?kp ?kq))); (case ke => first | omega | (split <;> omega)); (case kp => first | omega | (split <;> omega)); (case kq => first | omega | (split <;> omega)))
  k_with "call builtin:list.pop" => (k_here; k_dflt (refine' pop0_K ?k1 ?k2 ?k3 ?k4 ?_; (case k1 => k_asm); (case k2 => k_asm); (case k3 => k_upd); (case k4 => omega); k_whole); intro h' F' N')
  k_with "binaryOp Pow int int" => (k_here; first | (with_reducible refine powL_K 18446744073709551616 ?kb1 ?kb2 ?kb3 ?kb4 ?_; (case kb4 => decide +kernel); (case kb1 => decide); (case kb2 => decide); (case kb3 => decide)) | (with_reducible refine powL_K 9223372036854775808 ?kb1 ?kb2 ?kb3 ?kb4 ?_; (case kb4 => decide +kernel); (case kb1 => decide); (case kb2 => decide); (case kb3 => decide)) | (with_reducible refine powL_K 4294967296 ?kb1 ?kb2 ?kb3 ?kb4 ?_; (case kb4 => decide +kernel); (case kb1 => decide); (case kb2 => decide); (case kb3 => decide)) | (with_reducible refine powL_K 2147483648 ?kb1 ?kb2 ?kb3 ?kb4 ?_; (case kb4 => decide +kernel); (case kb1 => decide); (case kb2 => decide); (case kb3 => decide)) | (with_reducible refine powL_K 340282366920938463463374607431768211456 ?kb1 ?kb2 ?kb3 ?kb4 ?_; (case kb4 => decide +kernel); (case kb1 => decide); (case kb2 => decide); (case kb3 => decide)) | (with_reducible refine powL_K 170141183460469231731687303715884105728 ?kb1 ?kb2 ?kb3 ?kb4 ?_; (case kb4 => decide +kernel); (case kb1 => decide); (case kb2 => decide); (case kb3 => decide)))
  k_with "cell_enter" => ((refine' code_def ?k1 ?k2 ?k3 ?k4 ?k5 ?kA ?kF ?kK ?k6 ?k7 ?k8 ?k9 ?kB ?_ ?c2 ?c3 ?c4 ?c5; (case kA => exact rfl); (case kF => exact rfl); (case kK => first | assumption | exact rfl); (case k1 => k_asm); (case k2 => k_asm); (case k3 => k_asm); (case k4 => k_asm); (case k5 => k_asm); (case k6 => k_is); (case k7 => k_is); (case k8 => ktr_room); (case k9 => first | exact BindsTo.of_eq rfl | exact binds_K (by k_in) rfl (by k_is) rfl rfl rfl); (case c5 => decide); (case kB => exact locs rfl); (case c2 => exact rfl); (case c3 => exact rfl); (case c4 => exact rfl); k_whole; intro g' L' h' FG' F' N' B' X' T'; (try dsimp only); (try k_lift B'); (try k_fold)))
  k_with "ktr_units" => (((try simp only [units_in1, units_deeper, units_under_make, Around.mark_units]); (try dsimp only [ktrTop]); omega))
  k_with "ktr_room" => (((try simp only [depth_mark, depth_under_make, depth_under_kw, depth_in1, depth_deeper]); (try dsimp only [ktrTop]); omega))
  k_with "execs cons" => (k_here; (first | ((with_reducible refine gentok fun tk' => ?_); (with_reducible refine wpAny_execs_cons ?_)) | (with_reducible refine wpAny_execs_cons ?_)); (try dsimp only))
  k_with "execs nil" => (k_here; (refine wpAny_execs_nil ?_))
  k_with "compareOp Eq str str" => (k_here; k_dflt (refine' eq_no ?ke ?_; (case ke => with_reducible assumption)))
  k_with "compareOp In str ref" => (k_here; (with_reducible show wpAny _ _ (compareOp CmpOp.In (Value.str _ _) (Value.ref _)) _ _ _); (with_unfolding_all refine' tin_no ?k1 ?k2 ?k3 ?_; (case k1 => exact News.isTup (by k_asm) (by news_mem)); (case k2 => kde_strs); (case k3 => assumption); k_whole))
  k_with "compareOp NotIn str ref" => (k_here; (with_reducible show wpAny _ _ (compareOp CmpOp.NotIn (Value.str _ _) (Value.ref _)) _ _ _); (with_unfolding_all refine' tnot_no ?k1 ?k2 ?k3 ?_; (case k1 => exact News.isTup (by k_asm) (by news_mem)); (case k2 => kde_strs); (case k3 => assumption); k_whole))
  k_with "subscriptTail Name Slice str ref" => (k_here; (with_reducible show wpAny _ _ (subscriptTail _ (Expr.Slice (some _) none none _) _ _) _ _ _); (with_reducible rename Fr _ _ _ _ => F'); (with_reducible rename News _ _ _ _ => N'); (refine slice_strN_sn (hsz := ?hsz) (s := ⟨_, _, _, _, _⟩) F' N' ?_); (case hsz => (rw [sizeLine_eq]; omega)); intro h' t' tk' F' N')
  k_with "subscriptTail Name Slice str ref" => (k_here; (with_reducible show wpAny _ _ (subscriptTail _ (Expr.Slice none (some _) none _) _ _) _ _ _); (with_reducible rename Fr _ _ _ _ => F'); (with_reducible rename News _ _ _ _ => N'); (refine slice_strN_ns (hsz := ?hsz) (s := ⟨_, _, _, _, _⟩) F' N' ?_); (case hsz => (rw [sizeLine_eq]; omega)); intro h' t' tk' F' N')
  k_with "compareOp NotEq str str" => (k_here; k_dflt (refine' ne_yes ?ke ?_; (case ke => with_reducible assumption)))
  trivial
set_option maxHeartbeats 8000000 in
theorem row_C {w : World} {mean : ExcName → Option Value} {mg mb : Str → Option Value}
    {dp un : Nat} {gd : Option (List Code)} {cn : Str} {cs : Scope} {a : Addr} {ccd : Value} {cl : List (Str × Addr)} {outer : List Env} {A₀ : Around} {base h₀ : Heap} {L : Addr} {m : Str → Option Value} {s : Shared} {Q E : Value → Shared → Prop}
    {nm : Str} {tn : Tok} {p : Addr} {led : List (Addr × Obj)}
    (B : Below A₀ base outer h₀) (F : Fr h₀ L s.heap m) (X : (hd.heap_1 w.params).In h₀)
    (N : News h₀ L s.heap led) 
    (T : Top qv Lo mean mg mb h₀) (hk : cs.kind = .function) 
    (hd : dp + 20 < recursionLimit) (hu : un + 300 < cLine)
    (hret : ∀ x dx oX oD h' tk', Fr h₀ L h' m → News h₀ L h' ((x, oX) :: (dx, oD) :: led) → (∀ q ∈ led, q.1 < dx) → @LT.lt Nat _ dx x → (∀ ps, RowIs nm ps dx p oX oD (tupOf ps)) → Q (.ref x) { s with heap := h', toks := tk' }) :
    wpAny (model Challenge.rw_ok0167_01.prog w) (ktrTop dp un gd cn cs L a ccd cl outer) (call (.ref 148) [.str nm tn, .ref p]) Q E s := by
  k_dflt (refine' call_cls ?k1 ?k2 ?k3 ?k4 ?k5 ?k6 ?_; (case k1 => k_asm); (case k2 => k_asm); (case k3 => k_asm); (case k4 => k_is); (case k5 => k_is); (case k6 => k_is); k_whole)
  intro M dM h' F' N' l1 l2
  (try k_lt l1)
  (try k_lt2 l2)
  (try k_sweep)
  k_dflt cell_enter
  k_steps
  exact hret _ _ _ _ _ _ (by assumption) (by ktr_rel) (lt_sub (by assumption) (by intro pD hD; repeat (first | exact hD | apply List.Mem.tail))) (by assumption) (fun ps => ⟨_, _, _, _, _, _, rfl, rfl, rfl⟩)
-- Mr
theorem zrMr : True := by first | (row_walk; done) | trivial
section
variable {prog : Program} {w : World} {A : Around} {E : Value → Shared → Prop} {s : Shared} {h₀ : Heap} {L : Addr} {m : Str → Option Value} {led : List (Addr × Obj)}
theorem zz43 : True := by
  k_with "call ref" => (k_here; (with_reducible show wpAny _ _ (call (Value.ref 350) [Value.ref _, Value.int _ _, Value.int _ _, Value.int _ _]) _ _ _); k_dflt (refine' put4_C ?kB ?kF ?kX ?kN ?k1 ?k2 ?k3 ?kT ?kk ?kM1 ?kM2 ?kR ?ki0 ?ki1 ?kn ?kd ?ku ?_; (case kB => k_asm); (case kF => k_asm); (case kX => k_asm); (case kN => k_asm); (case k1 => k_upd); (case kM1 => first | exact rfl | assumption); (case k2 => k_upd); (case kM2 => first | assumption | exact ⟨_, _, _, _, _, _, _, _, _, _, _, _, _, _, _, _, _, _, _, _, _, _, _, rfl⟩); (case k3 => k_upd); (case kR => assumption); (case kT => k_asm); (case kk => first | exact rfl | assumption); (case ki0 => first | decide | omega); (case ki1 => first | decide | omega); (case kn => first | assumption | omega | decide); (case kd => ktr_room); (case ku => ktr_units)); intro oR' h' tk' F' N' hR'; (try dsimp only); (try k_sweep); (try k_fold))
  k_with "call ref" => (k_here; (with_reducible show wpAny _ _ (call (Value.ref 350) [Value.ref _, Value.int _ _, Value.int _ _]) _ _ _); k_dflt (refine' put3_C ?kB ?kF ?kX ?kN ?k1 ?k2 ?k3 ?kT ?kk ?kM1 ?kM2 ?kR ?ki0 ?ki1 ?kd ?ku ?_; (case kB => k_asm); (case kF => k_asm); (case kX => k_asm); (case kN => k_asm); (case k1 => k_upd); (case kM1 => first | exact rfl | assumption); (case k2 => k_upd); (case kM2 => first | assumption | exact ⟨_, _, _, _, _, _, _, _, _, _, _, _, _, _, _, _, _, _, _, _, _, _, _, rfl⟩); (case k3 => k_upd); (case kR => assumption); (case kT => k_asm); (case kk => first | exact rfl | assumption); (case ki0 => first | decide | omega); (case ki1 => first | decide | omega); (case kd => ktr_room); (case ku => ktr_units)); intro oR' h' tk' F' N' hR'; (try dsimp only); (try k_sweep); (try k_fold))
  k_with "call ref" => (k_here; (with_reducible show wpAny _ _ (call (Value.ref 358) [Value.ref _, Value.int _ _, Value.int _ _]) _ _ _); k_dflt (refine' take_C ?kB ?kF ?kX ?kN ?k1 ?k2 ?k3 ?kT ?kk ?kM1 ?kM2 ?kR ?ki0 ?ki1 ?kn ?kd ?ku ?_; (case kB => k_asm); (case kF => k_asm); (case kX => k_asm); (case kN => k_asm); (case k1 => k_upd); (case kM1 => first | exact rfl | assumption); (case k2 => k_upd); (case kM2 => first | assumption | exact ⟨_, _, _, _, _, _, _, _, _, _, _, _, _, _, _, _, _, _, _, _, _, _, _, rfl⟩); (case k3 => k_upd); (case kR => assumption); (case kT => k_asm); (case kk => first | exact rfl | assumption); (case ki0 => first | decide | omega); (case ki1 => first | decide | omega); (case kn => first | assumption | omega | decide); (case kd => ktr_room); (case ku => ktr_units)); intro t' h' tk' F' N'; (try dsimp only); (try k_sweep); (try k_fold))
  k_with "call ref" => (k_here; (with_reducible show wpAny _ _ (call (Value.ref 428) [Value.ref _, Value.ref _]) _ _ _); k_dflt (refine' doAny_X ?kB ?kF ?kX ?kE ?kN ?k1 ?k2 ?k3 ?kT ?kXB ?kEB ?kTB ?kk ?m1 ?m2 ?m3 ?m4 ?kRow ?kK ?kPi ?kM1 ?kM2 ?kR ?kd ?ku (fun oD' oR' h0' h' tk' T' F' B' X' TT' E' N' hM' hR' ok' => ?_) (fun e' dx' od' oD' h0' h' tk' T' F' B' X' TT' E' Y' W' nd' hM' no' => ?_); (case kB => k_asm); (case kF => k_asm); (case kX => k_asm); (case kE => k_asm); (case kN => k_asm); (case k1 => k_upd); (case kM1 => first | exact rfl | assumption); (case k2 => k_upd); (case kM2 => first | assumption | exact ⟨_, _, _, _, _, _, _, _, _, _, _, _, _, _, _, _, _, _, _, _, _, _, _, rfl⟩); (case k3 => k_upd); (case kR => assumption); (case kT => k_asm); (case kXB => k_asm); (case kEB => k_asm); (case kTB => k_asm); (case kk => first | exact rfl | assumption); (case m1 => k_mem); (case kRow => assumption); (case m2 => k_mem); (case m3 => k_mem); (case m4 => k_mem); (case kK => assumption); (case kPi => assumption); (case kd => ktr_room); (case ku => ktr_units)); (all_goals ((try dsimp only); (try k_sweep); (try k_fold))); rotate_left)
  trivial
theorem get_regs {expr : Bool} {Q : Value → Shared → Prop} {M dM R RW pl : Addr} {pc st : Int} {ov : Bool} {oD : Obj} (F : Fr h₀ L s.heap m) (X : (hd.heap_1 w.params).In h₀) (N : News h₀ L s.heap led) (h1 : (M, instObj 445 dM) ∈ led) (h2 : (dM, oD) ∈ led) (hM : MachD RW R pl pc st ov oD)
    (h : Q (.ref R) { s with toks := s.toks + 1 }) : wpAny (model prog w) A (getAttr (.ref M) (Str.ofString "regs") expr) Q E s := by
  obtain ⟨q0, q1, q2, q3, q4, q5, q6, q7, q8, u0, u1, u2, u3, u4, u5, u6, u7, u8, mk, fl, ta, to, ts, rfl⟩ := hM
  refine' get_own F X (InstAt.of_news N h1 h2) ?a ?b ?c ?d ?e ?f h; (case a => k_is); (case b => k_is); (case c => k_is); (case d => k_is); (case e => k_get); (case f => k_handed)
theorem meth_run {Q : Value × List Value → Shared → Prop} {pq : Sem Bool} {M dM R RW pl : Addr} {pc st : Int} {ov : Bool} {oD : Obj} (F : Fr h₀ L s.heap m) (X : (hd.heap_1 w.params).In h₀) (N : News h₀ L s.heap led) (h1 : (M, instObj 445 dM) ∈ led) (h2 : (dM, oD) ∈ led) (hM : MachD RW R pl pc st ov oD)
    (h : Q (.ref 442, [.ref M]) s) : wpAny (model prog w) A (getMethod (.ref M) (Str.ofString "run") pq) Q E s := by
  obtain ⟨q0, q1, q2, q3, q4, q5, q6, q7, q8, u0, u1, u2, u3, u4, u5, u6, u7, u8, mk, fl, ta, to, ts, rfl⟩ := hM
  refine' method_inst F X (InstAt.of_news N h1 h2) ?a ?b ?c ?d h; (case a => k_is); (case b => k_is); (case c => k_is); (case d => k_get)
theorem get_kind_f {expr : Bool} {Q : Value → Shared → Prop} {o dO : Addr} {oO oDo : Obj} (F : Fr h₀ L s.heap m) (X : (hd.heap_1 w.params).In h₀) (N : News h₀ L s.heap led) (h1 : (o, oO) ∈ led) (h2 : (dO, oDo) ∈ led) (hO : OutIs false dO oO oDo)
    (h : ∀ t, Q (.str (Str.ofString "exit") t) { s with toks := s.toks + 1 }) : wpAny (model prog w) A (getAttr (.ref o) (Str.ofString "kind") expr) Q E s := by
  obtain ⟨rfl, q0, q1, q2, q3, q4, u0, u1, u2, u3, u4, v, tk, tw, ta, a, ts, st, rfl⟩ := hO
  simp only [Bool.false_eq_true, if_false] at h2
  refine' get_own F X (InstAt.of_news N h1 h2) ?a ?b ?c ?d ?e ?f (h tk); (case a => k_is); (case b => k_is); (case c => k_is); (case d => k_is); (case e => k_get); (case f => k_handed)
theorem get_kind_t {expr : Bool} {Q : Value → Shared → Prop} {o dO : Addr} {oO oDo : Obj} (F : Fr h₀ L s.heap m) (X : (hd.heap_1 w.params).In h₀) (N : News h₀ L s.heap led) (h1 : (o, oO) ∈ led) (h2 : (dO, oDo) ∈ led) (hO : OutIs true dO oO oDo)
    (h : ∀ t, Q (.str (Str.ofString "fault") t) { s with toks := s.toks + 1 }) : wpAny (model prog w) A (getAttr (.ref o) (Str.ofString "kind") expr) Q E s := by
  obtain ⟨rfl, q0, q1, q2, q3, q4, u0, u1, u2, u3, u4, v, tk, tw, ta, a, ts, st, rfl⟩ := hO
  simp only [if_true] at h2
  refine' get_own F X (InstAt.of_news N h1 h2) ?a ?b ?c ?d ?e ?f (h tk); (case a => k_is); (case b => k_is); (case c => k_is); (case d => k_is); (case e => k_get); (case f => k_handed)
theorem get_what_t {expr : Bool} {Q : Value → Shared → Prop} {o dO : Addr} {oO oDo : Obj} (F : Fr h₀ L s.heap m) (X : (hd.heap_1 w.params).In h₀) (N : News h₀ L s.heap led) (h1 : (o, oO) ∈ led) (h2 : (dO, oDo) ∈ led) (hO : OutIs true dO oO oDo)
    (h : ∀ t, Q (.str (Str.ofString "divide error") t) { s with toks := s.toks + 1 }) : wpAny (model prog w) A (getAttr (.ref o) (Str.ofString "what") expr) Q E s := by
  obtain ⟨rfl, q0, q1, q2, q3, q4, u0, u1, u2, u3, u4, v, tk, tw, ta, a, ts, st, rfl⟩ := hO
  simp only [if_true] at h2
  refine' get_own F X (InstAt.of_news N h1 h2) ?a ?b ?c ?d ?e ?f (h tw); (case a => k_is); (case b => k_is); (case c => k_is); (case d => k_is); (case e => k_get); (case f => k_handed)
theorem list_regs {Q : Value → Shared → Prop} {R : Addr} {oR : Obj} {rs : List Int} (F : Fr h₀ L s.heap m) (N : News h₀ L s.heap led) (hm : (R, oR) ∈ led) (hR : RegsAre rs oR)
    (h : ∀ D oH h', Fr h₀ L h' m → News h₀ L h' ((D, oH) :: led) → (∀ q ∈ led, q.1 < D) → RegsAre rs oH → Q (.ref D) { s with heap := h' }) : wpAny (model prog w) A (call (.type "list") [.ref R]) Q E s := by
  obtain ⟨vs, k, rfl, hi, hl, hb⟩ := hR
  exact list_copyK F N (PySem.IsL.isList (n := k) (N _ hm).1) (fun D c h' F' N' l1 => h D _ h' F' N' l1 ⟨_, _, rfl, hi, hl, hb⟩) (by rw [List.size_toArray, hi.length, hl, PySem.sizeLine_eq]; decide)
theorem eq_regs {Q : Value → Shared → Prop} {R H : Addr} {oR oH : Obj} {rs qs : List Int} (N : News h₀ L s.heap led) (h1 : (R, oR) ∈ led) (h2 : (H, oH) ∈ led) (hR : RegsAre rs oR) (hH : RegsAre qs oH) (hu : A.units + 64 < cLine)
    (h : Q (.bool (decide (rs = qs))) s) : wpAny (model prog w) A (compareOp .Eq (.ref R) (.ref H)) Q E s := by
  obtain ⟨vs, k, rfl, hi, hl, hb⟩ := hR
  obtain ⟨us, j, rfl, hj, hl', hb'⟩ := hH
  exact eq_intsK (PySem.IsL.isList (n := k) (N _ h1).1) hi (PySem.IsL.isList (n := j) (N _ h2).1) hj hu h
end
theorem rowOK_of {led : List (Addr × Obj)} {rows : List Value} {ks : List Kd} (hl : rows.length = ks.length) (h : ProgAt led rows ks) : ∀ v ∈ rows, RowOK led v := by
  intro v hv
  obtain ⟨j, hj, rfl⟩ := List.mem_iff_getElem.mp hv
  obtain ⟨x, dx, p, oX, oDr, oP, nm, ps, hx, m1, m2, m3, hR, hk⟩ := h j _ (List.getElem?_eq_getElem (hl ▸ hj))
  rw [List.getElem?_eq_getElem hj] at hx
  refine ⟨x, dx, p, oX, oDr, oP, nm, ps, Option.some.inj hx, m1, m2, m3, hR, ?_⟩
  generalize ks[j]'(hl ▸ hj) = k at hk
  cases k with
  | cqo n => obtain ⟨rfl, ⟨t, rfl⟩, hn⟩ := hk; exact .cqo hn
  | mov => obtain ⟨rfl, t1, t2, t3, rfl⟩ := hk; exact .mov
  | ret => obtain ⟨rfl, rfl⟩ := hk; exact .ret
  | dv sg n i =>
    obtain ⟨rfl, ⟨t1, t2, rfl⟩, hn, h0, h1⟩ := hk
    exact .div (by cases sg <;> first | exact Or.inl rfl | exact Or.inr rfl) hn h0 h1
theorem ProgAt.sub {led led' : List (Addr × Obj)} {rows : List Value} {ks : List Kd} (h : ProgAt led rows ks) (s : ∀ p ∈ led, p ∈ led') : ProgAt led' rows ks := by
  intro j k hj
  obtain ⟨x, dx, p, oX, oDr, oP, nm, ps, hx, m1, m2, m3, r⟩ := h j k hj
  exact ⟨x, dx, p, oX, oDr, oP, nm, ps, hx, s _ m1, s _ m2, s _ m3, r⟩
section
open PySem.Spec PySem.SeqAt
variable {prog : Program} {w : World} {A : Around} {E : Value → Shared → Prop} {s : Shared} {h₀ : Heap} {L : Addr} {led : List (Addr × Obj)}
theorem eq_tup3 {Q : Value → Shared → Prop} {x y R H : Addr} {a b : Str} {t1 t2 t3 t4 : Tok} {oR oH : Obj} {rs : List Int} (N : News h₀ L s.heap led) (h1 : (x, tupOf [.str a t1, .str b t2, .ref R]) ∈ led) (h2 : (y, tupOf [.str a t3, .str b t4, .ref H]) ∈ led) (m1 : (R, oR) ∈ led) (m2 : (H, oH) ∈ led) (hR : RegsAre rs oR) (hH : RegsAre rs oH) (sa : PyData.strOk a = true) (sb : PyData.strOk b = true) (hu : A.units + 64 < cLine)
    (h : Q (.bool true) s) : wpAny (model prog w) A (compareOp .Eq (.ref x) (.ref y)) Q E s := by
  obtain ⟨vs, k, rfl, hi, hl, hb⟩ := hR
  obtain ⟨us, j, rfl, hj, hl', hb'⟩ := hH
  have r1 := Reads.tuple (N _ h1).1 rfl rfl (.cons (.str a t1) (.cons (.str b t2) (.cons (reads_of_ints (PySem.IsL.isList (n := k) (N _ m1).1) hi) .nil)))
  have r2 := Reads.tuple (N _ h2).1 rfl rfl (.cons (.str a t3) (.cons (.str b t4) (.cons (reads_of_ints (PySem.IsL.isList (n := j) (N _ m2).1) hj) .nil)))
  have hs : shaped (.tuple [.str a, .str b, .list (rs.map PyData.int)]) = true := by
    have h1 := PyProof.Rows.depthAll_ints rs
    have h2 : PyData.depth (.tuple [.str a, .str b, .list (rs.map PyData.int)]) ≤ 64 := by simp only [PyData.depth, PyData.depthAll]; omega
    show (PyData.canLay0 _ && decide (PyData.depth _ ≤ 64)) = true
    rw [Bool.and_eq_true]
    exact ⟨by simp [PyData.canLay0, PyData.canLayAll0, canLayAll0_ints, sa, sb], decide_eq_true h2⟩
  refine eq_dataH_same r1 r2 hs hs hu (by simp only [noMix, noMixAll, noMix_ints, Bool.and_self]) ?_
  rw [show PySem.Spec.same (.tuple [.str a, .str b, .list (rs.map PyData.int)]) (.tuple [.str a, .str b, .list (rs.map PyData.int)]) = true from by simp only [PySem.Spec.same, PySem.Spec.sameAll, same_ints, decide_true, beq_self_eq_true, Bool.and_self]]
  exact h
theorem ne_tup2 {Q : Value → Shared → Prop} {x y : Addr} {a b : Int} {t1 t2 t3 t4 : Tok} (N : News h₀ L s.heap led) (h1 : (x, tupOf [.int a t1, .int b t2]) ∈ led) (h2 : (y, tupOf [.int a t3, .int b t4]) ∈ led) (hu : A.units + 64 < cLine)
    (h : Q (.bool false) s) : wpAny (model prog w) A (compareOp .NotEq (.ref x) (.ref y)) Q E s := by
  have r1 := Reads.tuple (N _ h1).1 rfl rfl (.cons (.int a t1) (.cons (.int b t2) .nil))
  have r2 := Reads.tuple (N _ h2).1 rfl rfl (.cons (.int a t3) (.cons (.int b t4) .nil))
  have hs : shaped (.tuple [.int a, .int b]) = true := rfl
  refine ne_dataH_same r1 r2 hs hs hu (by simp only [noMix, noMixAll, Bool.and_self]) ?_
  rw [show PySem.Spec.same (.tuple [.int a, .int b]) (.tuple [.int a, .int b]) = true from by simp only [PySem.Spec.same, PySem.Spec.sameAll, beq_self_eq_true, decide_true, Bool.and_self]]
  exact h
end
-- B5
theorem zrB5 : True := by first | (row_walk; done) | trivial
abbrev sc510 : Scope := { kind := ScopeKind.function, names := [(Str.ofString "pen", NameKind.local), (Str.ofString "size", NameKind.local), (Str.ofString "is_signed", NameKind.local), (Str.ofString "has_sign_row", NameKind.local), (Str.ofString "reg", NameKind.local), (Str.ofString "rows", NameKind.local), (Str.ofString "machine", NameKind.local), (Str.ofString "regs", NameKind.local), (Str.ofString "number", NameKind.local), (Str.ofString "held", NameKind.local), (Str.ofString "whole", NameKind.local), (Str.ofString "other", NameKind.local), (Str.ofString "end", NameKind.local), (Str.ofString "plainly", NameKind.local), (Str.ofString "is_known", NameKind.local), (Str.ofString "found", NameKind.local), (Str.ofString "rest", NameKind.local), (Str.ofString "due", NameKind.local), (Str.ofString "_law_pick", NameKind.globalImplicit), (Str.ofString "_law_draw", NameKind.globalImplicit), (Str.ofString "Row", NameKind.globalImplicit), (Str.ofString "PlainRows", NameKind.globalImplicit), (Str.ofString "_law_half", NameKind.globalImplicit), (Str.ofString "list", NameKind.globalImplicit), (Str.ofString "_law_sign", NameKind.globalImplicit), (Str.ofString "_law_whole", NameKind.globalImplicit), (Str.ofString "_law_direct", NameKind.globalImplicit), (Str.ofString "_law_fits", NameKind.globalImplicit), (Str.ofString "abs", NameKind.globalImplicit)], isGenerator := false, isCoroutine := false }
abbrev env510 (L : Addr) : Env := envOf (Str.ofString "_law_case_holds") sc510 L 510 (Value.ref 509)
structure Bod (w : World) (f : Addr) where
  body : List Stmt
  ex : ∃ name qual params scope dV kV doc pm an cdv ct oc od osl, (hd.heap_1 w.params).lookup f = some ⟨oc, od, .func (fnOf name qual params body scope dV kV doc pm an cdv ct), osl⟩
noncomputable def bod510 (w : World) : Bod w 510 := ⟨_, _, _, _, _, _, _, _, _, _, _, _, _, _, _, by k_is⟩
noncomputable def tl510 (w : World) (k : Nat) : List Stmt := (bod510 w).body.drop k
abbrev mNum (vx : Option Value) (m : Str → Option Value) : Str → Option Value := fun y => if y = Str.ofString "number" then vx else m y
theorem zz44 : True := by
  k_with "call ref" => (k_here; (with_reducible show wpAny _ _ (call (Value.ref 461) [Value.ref _, Value.int _ _]) _ _ _); k_dflt (refine' draw_C ?kB ?kF ?kX ?kN ?kPk ?kT ?kk ?kP ?km ?km2 ?kd ?ku ?_; (case kP => assumption); (case kB => k_asm); (case kF => k_asm); (case kX => k_asm); (case kN => k_asm); (case kPk => k_upd); (case kT => k_asm); (case kk => first | exact rfl | assumption); (case km => first | decide | omega); (case km2 => first | decide | omega); (case kd => ktr_room); (case ku => ktr_units)); intro v' t' oP' oL' h' tk' F' N' hP' hlo' hhi'; (try dsimp only); (try k_sweep); (try k_fold))
  trivial
theorem mNum_self (m : Str → Option Value) : m = mNum (m (Str.ofString "number")) m := by
  funext y
  by_cases h : y = Str.ofString "number"
  · rw [h]; exact (if_pos rfl).symm
  · exact (if_neg h).symm
theorem Fr.twice {g h : Heap} {L : Addr} {m : Str → Option Value} {x : Str} {a c : Option Value} (F : Fr g L h (fun y => if y = x then a else if y = x then c else m y)) : Fr g L h (fun y => if y = x then a else m y) := by
  have e : (fun y => if y = x then a else if y = x then c else m y) = fun y => if y = x then a else m y := by
    funext y
    by_cases h : y = x
    · rw [if_pos h, if_pos h]
    · rw [if_neg h, if_neg h, if_neg h]
  exact e ▸ F
/-- a loop that stores into the registers what the pen gives -/
theorem loop_regs {prog : Program} {w : World} {A : Around} {E : Value → Shared → Prop} {h₀ : Heap} {env : Env} {target : PySem.Expr} {body : List Stmt} {Q : Flow → Shared → Prop} {s : Shared} {ax R P l : Addr} {vs : List Value} {m : Str → Option Value} {restM : List (Addr × Obj)} {oR oP oL : Obj} {rs : List Int} {b : Int}
    (hh : A.handled = none) (F : Fr h₀ env.locals s.heap m) (N : News h₀ env.locals s.heap ((ax, tupOf vs) :: (R, oR) :: (P, oP) :: (l, oL) :: restM)) (hR : RegsAre rs oR) (hP : PenIs l b oP oL) (hv : ∀ v ∈ vs, ∃ i t, v = .int i t ∧ 0 ≤ i ∧ i < 16)
    (turn : ∀ i t I oI h tk vx oR oP oL rs c (Z : Flow → Shared → Prop), 0 ≤ i → i < 16 → @LT.lt Nat _ ax I → @LT.lt Nat _ R I → @LT.lt Nat _ P I → @LT.lt Nat _ l I → (∀ q ∈ restM, q.1 ≠ I) → Fr h₀ env.locals h (mNum vx m) → News h₀ env.locals h ((I, oI) :: (ax, tupOf vs) :: (R, oR) :: (P, oP) :: (l, oL) :: restM) → RegsAre rs oR → PenIs l c oP oL →
      (∀ h' tk' oR' oP' oL' rs', Fr h₀ env.locals h' (mNum (some (.int i t)) m) → News h₀ env.locals h' ((I, oI) :: (ax, tupOf vs) :: (R, oR') :: (P, oP') :: (l, oL') :: restM) → RegsAre rs' oR' → PenIs l (c + 2) oP' oL' → Z .next { s with heap := h', toks := tk' }) →
      wpAny (model prog w) A (assign target env (.int i t)) (fun _ s₂ => wpAny (model prog w) A (execs body env) Z E s₂) E { s with heap := h, toks := tk })
    (fin : ∀ h tk vx oR oP oL rs, Fr h₀ env.locals h (mNum vx m) → News h₀ env.locals h ((R, oR) :: (P, oP) :: (l, oL) :: restM) → RegsAre rs oR → PenIs l (b + 2 * vs.length) oP oL → Q .next { s with heap := h, toks := tk }) :
    wpAny (model prog w) A (pyIter (.ref ax)) (fun it s₂ => TurnsAt prog w A h₀ env target body Q E it s₂) E s := by
  refine tup_loop' (fun vs' m' led' => (∀ v ∈ vs', ∃ i t, v = .int i t ∧ 0 ≤ i ∧ i < 16) ∧ (∃ vx, m' = mNum vx m) ∧ ∃ oR oP oL rs c, led' = (R, oR) :: (P, oP) :: (l, oL) :: restM ∧ RegsAre rs oR ∧ c + 2 * (vs'.length : Int) = b + 2 * vs.length ∧ PenIs l c oP oL) hh F N ⟨hv, ⟨_, mNum_self m⟩, oR, oP, oL, rs, b, rfl, hR, rfl, hP⟩ ?_ ?_
  · rintro v r m' l' I oI h tk hlt hax ⟨hv', ⟨vx, rfl⟩, oR1, oP1, oL1, rs1, c, rfl, hR1, hc, hP1⟩ _ hne F1 N1
    obtain ⟨i, t, rfl, h0, h1⟩ := hv' v (.head _)
    refine turn i t I oI h tk vx oR1 oP1 oL1 rs1 c _ h0 h1 hax (hlt _ (.head _)) (hlt _ (.tail _ (.head _))) (hlt _ (.tail _ (.tail _ (.head _)))) (fun q hq => hne q (.tail _ (.tail _ (.tail _ hq)))) F1 N1 hR1 hP1 ?_
    intro h' tk' oR' oP' oL' rs' F' N' hR' hP'
    refine ⟨h', tk', _, _, rfl, F', N', ?_, fun v hv => hv' v (.tail _ hv), ⟨_, rfl⟩, oR', oP', oL', rs', c + 2, rfl, hR', ?_, hP'⟩
    · intro p hp
      rcases List.mem_cons.mp hp with rfl | hp
      · exact hne (_, oR1) (.head _)
      rcases List.mem_cons.mp hp with rfl | hp
      · exact hne (_, oP1) (.tail _ (.head _))
      rcases List.mem_cons.mp hp with rfl | hp
      · exact hne (_, oL1) (.tail _ (.tail _ (.head _)))
      exact hne p (.tail _ (.tail _ (.tail _ hp)))
    · rw [← hc, List.length_cons]; omega
  · rintro m' l' h tk ⟨_, ⟨vx, rfl⟩, oR1, oP1, oL1, rs1, c, rfl, hR1, hc, hP1⟩ F1 N1
    have e : c = b + 2 * vs.length := by rw [← hc, List.length_nil]; omega
    exact fin h tk vx oR1 oP1 oL1 rs1 F1 N1 hR1 (e ▸ hP1)
theorem join {α : Type} {M : Model} {A : Around} {t : Sem α} {Q : α → Shared → Prop} {E : Value → Shared → Prop} {s : Shared} (J : α → Shared → Prop) (h : wpAny M A t J E s) (k : ∀ v s', J v s' → Q v s') : wpAny M A t Q E s := wpAny_mono h k fun _ _ x => x
/-- a value told by letters: the ways that made it meet -/
inductive JVal (V : Value → Prop) (g : Heap) (L : Addr) (m : Str → Option Value) (led : List (Addr × Obj)) (s : Shared) : Value → Shared → Prop
  | mk {v : Value} {h' : Heap} {tk : Nat} (hV : V v) (F : Fr g L h' m) (N : News g L h' led) : JVal V g L m led s v { s with heap := h', toks := tk }
theorem join_val {M : Model} {A : Around} {t : Sem Value} {Q : Value → Shared → Prop} {E : Value → Shared → Prop} {s : Shared} {g : Heap} {L : Addr} {m : Str → Option Value} {led : List (Addr × Obj)} (V : Value → Prop) (F : Fr g L s.heap m) (N : News g L s.heap led)
    (h : wpAny M A t (JVal V g L m led s) E s)
    (k : ∀ v h' tk, V v → Fr g L h' m → News g L h' led → Q v { s with heap := h', toks := tk }) : wpAny M A t Q E s :=
  wpAny_mono h (fun fl s' hj => by cases hj; subst_vars; apply k <;> assumption) fun _ _ x => x
def ksOf (hs sg : Bool) (n r : Int) : List Kd := if hs then [.cqo n, .dv sg n r, .mov, .ret] else [.dv sg n r, .mov, .ret]
theorem progAt_nil {led : List (Addr × Obj)} : ProgAt led [] [] := fun j k h => by simp at h
theorem progAt_cons {led : List (Addr × Obj)} {x dx p : Addr} {oX oDr oP : Obj} {nm : Str} {ps rows : List Value} {k : Kd} {ks : List Kd} (m1 : (x, oX) ∈ led) (hR : RowIs nm ps dx p oX oDr oP) (m2 : (dx, oDr) ∈ led) (m3 : (p, oP) ∈ led) (hk : k.Row nm ps) (h : ProgAt led rows ks) : ProgAt led (.ref x :: rows) (k :: ks) := by
  intro j k' hj
  cases j with
  | zero =>
    have e : k = k' := Option.some.inj hj
    subst e
    exact ⟨x, dx, p, oX, oDr, oP, nm, ps, rfl, m1, m2, m3, hR, hk⟩
  | succ j => exact h j k' hj
theorem mem_nn {v : Int} (h : v ∈ [64, 32]) : v = 32 ∨ v = 64 := by simp only [List.mem_cons, List.not_mem_nil, or_false] at h; omega
theorem mem_rr {v : Int} (h : v ∈ [7, 0, 11, 2, 3]) : 0 ≤ v ∧ v < 16 := by simp only [List.mem_cons, List.not_mem_nil, or_false] at h; omega
/-- behind the rows -/
inductive JRows (g : Heap) (L : Addr) (m : Str → Option Value) (P l : Addr) (rest : List (Addr × Obj)) (b n r : Int) (hs sg : Bool) (s : Shared) : Flow → Shared → Prop
  | mk {h' : Heap} {tk' : Nat} {RW : Addr} {rows : List Value} {kk : Nat} {led' rest' : List (Addr × Obj)} {oP' oL' : Obj} (F : Fr g L h' (fun y => if y = Str.ofString "rows" then some (.ref RW) else m y)) (N : News g L h' led') (Pk : Picks [(P, oP'), (l, oL')] led' rest') (hP : PenIs l b oP' oL') (hsub : ∀ q ∈ rest, q ∈ rest') (hRW : (RW, listOf (List.toArray rows) kk) ∈ rest') (hl : rows.length = (ksOf hs sg n r).length) (hp : ProgAt rest' rows (ksOf hs sg n r)) : JRows g L m P l rest b n r hs sg s .next { s with heap := h', toks := tk' }
theorem join_rows {M : Model} {A : Around} {t : Sem Flow} {Q : Flow → Shared → Prop} {E : Value → Shared → Prop} {s : Shared} {g : Heap} {L : Addr} {m : Str → Option Value} {l : Addr} {oP oL : Obj} {v0 : Option Value} {b n r : Int} (P : Addr) (hs sg : Bool) (rest : List (Addr × Obj))
    (F : Fr g L s.heap (fun y => if y = Str.ofString "rows" then v0 else m y)) (hP : PenIs l b oP oL) (hn : n ∈ [64, 32]) (hr : r ∈ [7, 0, 11, 2, 3])
    (h : wpAny M A t (JRows g L m P l rest b n r hs sg s) E s)
    (k : ∀ h' tk' RW rows kk led' rest' oP' oL', Fr g L h' (fun y => if y = Str.ofString "rows" then some (.ref RW) else m y) → News g L h' led' → Picks [(P, oP'), (l, oL')] led' rest' → (∀ q ∈ rest, q ∈ rest') → PenIs l b oP' oL' → (RW, listOf (List.toArray rows) kk) ∈ rest' → rows.length = (ksOf hs sg n r).length → ProgAt rest' rows (ksOf hs sg n r) → Q .next { s with heap := h', toks := tk' }) : wpAny M A t Q E s :=
  wpAny_mono h (fun fl s' hj => by cases hj; subst_vars; apply k <;> assumption) fun _ _ x => x
theorem eq_letter {prog : Program} {w : World} {A : Around} {E : Value → Shared → Prop} {s : Shared} {Q : Value → Shared → Prop} {a c : Int} {t u : Tok} (h : ∀ b, Q (.bool b) s) : wpAny (model prog w) A (compareOp .Eq (.int a t) (.int c u)) Q E s := eq_int (h _)
/-- behind what stores into the registers -/
inductive JRegs (g : Heap) (L : Addr) (m : Str → Option Value) (R P l : Addr) (restM : List (Addr × Obj)) (b : Int) (s : Shared) : Flow → Shared → Prop
  | mk {h' : Heap} {tk' : Nat} {oR oP oL : Obj} {rs : List Int} (F : Fr g L h' m) (N : News g L h' ((R, oR) :: (P, oP) :: (l, oL) :: restM)) (hR : RegsAre rs oR) (hP : PenIs l b oP oL) : JRegs g L m R P l restM b s .next { s with heap := h', toks := tk' }
theorem join_regs {M : Model} {A : Around} {t : Sem Flow} {Q : Flow → Shared → Prop} {E : Value → Shared → Prop} {s : Shared} {g : Heap} {L : Addr} {m : Str → Option Value} (R P l : Addr) (restM : List (Addr × Obj)) (b : Int) (F : Fr g L s.heap m) (h : wpAny M A t (JRegs g L m R P l restM b s) E s)
    (k : ∀ h' tk' oR oP oL rs, Fr g L h' m → News g L h' ((R, oR) :: (P, oP) :: (l, oL) :: restM) → RegsAre rs oR → PenIs l b oP oL → Q .next { s with heap := h', toks := tk' }) : wpAny M A t Q E s :=
  wpAny_mono h (fun fl s' hj => by cases hj; subst_vars; apply k <;> assumption) fun _ _ x => x
theorem mem3 {v x : Int} (h : v ∈ [0, 1, x]) (h0 : 0 ≤ x) (h1 : x < 2 ^ 64) : 0 ≤ v ∧ v < 2 ^ 64 := by
  simp only [List.mem_cons, List.not_mem_nil, or_false] at h
  rcases h with rfl | rfl | rfl
  · exact ⟨by decide, by decide⟩
  · exact ⟨by decide, by decide⟩
  · exact ⟨h0, h1⟩
theorem pow_bnd {n : Int} (hn : n = 32 ∨ n = 64) : 0 ≤ (2 : Int) ^ n.toNat - 1 ∧ (2 : Int) ^ n.toNat - 1 < 2 ^ 64 := by
  rcases hn with rfl | rfl <;> exact ⟨by decide, by decide⟩
/-- what the law holds the registers to be, behind cqo -/
def hdOf (hs : Bool) (n : Int) (rs : List Int) : List Int := if hs then rs.set 2 (if sgn (rs.getD 0 0) n < 0 then 2 ^ n.toNat - 1 else 0) else rs
def otOf (sg : Bool) (n x : Int) : Int := if sg then sgn x n else low x n
theorem hd_t {n : Int} {rs : List Int} (h : sgn (rs.getD 0 0) n < 0) : hdOf true n rs = rs.set 2 (2 ^ n.toNat - 1) := by simp only [hdOf, if_true, if_pos h]
theorem hd_f {n : Int} {rs : List Int} (h : ¬ sgn (rs.getD 0 0) n < 0) : hdOf true n rs = rs.set 2 0 := by simp only [hdOf, if_true, if_neg h]
inductive JHeld (g : Heap) (L : Addr) (m : Str → Option Value) (H : Addr) (led : List (Addr × Obj)) (rs : List Int) (s : Shared) : Flow → Shared → Prop
  | mk {rs' : List Int} {h' : Heap} {tk' : Nat} {oH : Obj} (F : Fr g L h' m) (N : News g L h' ((H, oH) :: led)) (hR : RegsAre rs' oH) (e : rs = rs') : JHeld g L m H led rs s .next { s with heap := h', toks := tk' }
theorem join_held {M : Model} {A : Around} {t : Sem Flow} {Q : Flow → Shared → Prop} {E : Value → Shared → Prop} {s : Shared} {g : Heap} {L : Addr} {m : Str → Option Value} (H : Addr) (led : List (Addr × Obj)) (rs : List Int) (F : Fr g L s.heap m) (h : wpAny M A t (JHeld g L m H led rs s) E s)
    (k : ∀ h' tk' oH, Fr g L h' m → News g L h' ((H, oH) :: led) → RegsAre rs oH → Q .next { s with heap := h', toks := tk' }) : wpAny M A t Q E s :=
  wpAny_mono h (fun fl s' hj => by cases hj; subst_vars; apply k <;> assumption) fun _ _ x => x
theorem ksOf_ov {hs sg : Bool} {n r : Int} : ∀ (j : Nat) (k : Kd), (ksOf hs sg n r)[j]? = some k → k.ov = decide (j + 1 = (ksOf hs sg n r).length) := by
  intro j k h
  cases hs
  · match j, h with
    | 0, h => cases Option.some.inj h; rfl
    | 1, h => cases Option.some.inj h; rfl
    | 2, h => cases Option.some.inj h; rfl
    | (j + 3), h => cases h
  · match j, h with
    | 0, h => cases Option.some.inj h; rfl
    | 1, h => cases Option.some.inj h; rfl
    | 2, h => cases Option.some.inj h; rfl
    | 3, h => cases Option.some.inj h; rfl
    | (j + 4), h => cases h

-- Pl
theorem zrPl : True := by first | (row_walk; done) | trivial
def qOf (sg : Bool) (n x : Int) : Int := if sg then sgn x n else x
def absI (x : Int) : Int := if x < 0 then -x else x
/-- what the division in the law's case is about -/
structure CaseV (hs sg : Bool) (n r : Int) (hd : List Int) (wh ot : Int) : Prop where
  hn : n = 32 ∨ n = 64
  hr0 : 0 ≤ r
  hr1 : r < 16
  len : hd.length = 16
  bnd : ∀ x ∈ hd, 0 ≤ x ∧ x < 2 ^ 64
  ext : hs = true → hd.getD 2 0 = if sgn (hd.getD 0 0) n < 0 then 2 ^ n.toNat - 1 else 0
  ewh : wh = wholeOf (hd.getD 2 0) (hd.getD 0 0) n sg
  eot : ot = otOf sg n (hd.getD r.toNat 0)
abbrev cOk (sg : Bool) (n r : Int) (hd : List Int) : Prop := dvOk sg (low (hd.getD 2 0) n) (low (hd.getD 0 0) n) (low (hd.getD r.toNat 0) n) n
abbrev cQ (sg : Bool) (n r : Int) (hd : List Int) : Int := dvQ sg (low (hd.getD 2 0) n) (low (hd.getD 0 0) n) (low (hd.getD r.toNat 0) n) n
abbrev cR (sg : Bool) (n r : Int) (hd : List Int) : Int := dvR sg (low (hd.getD 2 0) n) (low (hd.getD 0 0) n) (low (hd.getD r.toNat 0) n) n
/-- what the law asks where the run ends well -/
structure Good (sg : Bool) (n : Int) (hd rs2 : List Int) (wh ot q rr : Int) : Prop where
  q0 : rs2.getD 0 0 = q
  q2 : rs2.getD 2 0 = rr
  fit : fitsOf wh ot n sg = true
  qlt : q < 2 ^ n.toNat
  rlt : rr < 2 ^ n.toNat
  sum : qOf sg n q * ot + qOf sg n rr = wh
  near : absI (qOf sg n rr) < absI ot
  sign : qOf sg n rr ≠ 0 → decide (qOf sg n rr < 0) = decide (wh < 0)
  due : rs2 = ((hd.set 0 (rs2.getD 0 0)).set 2 (rs2.getD 2 0)).set 9 5
  bq : -2 ^ 64 < qOf sg n q ∧ qOf sg n q < 2 ^ 64
  bot : -2 ^ 64 < ot ∧ ot < 2 ^ 64
structure Bad (hs sg : Bool) (n r wh ot : Int) : Prop where
  fit : fitsOf wh ot n sg = false
  known : hs = false ∨ sg = false ∨ r = 2 ∨ ot = 0 ∨ (wh = -2 ^ (n - 1).toNat ∧ ot = -1)
  bot : -2 ^ 64 < ot ∧ ot < 2 ^ 64
theorem p32 : (2 : Int) ^ (32 : Int).toNat = 4294967296 := by decide
theorem p64 : (2 : Int) ^ (64 : Int).toNat = 18446744073709551616 := by decide
theorem h32 : (2 : Int) ^ ((32 : Int) - 1).toNat = 2147483648 := by decide
theorem h64 : (2 : Int) ^ ((64 : Int) - 1).toNat = 9223372036854775808 := by decide
theorem d32 : (2 : Int) ^ (2 * (32 : Int)).toNat = 18446744073709551616 := by decide
theorem d64 : (2 : Int) ^ (2 * (64 : Int)).toNat = 340282366920938463463374607431768211456 := by decide
theorem g32 : (2 : Int) ^ (2 * (32 : Int) - 1).toNat = 9223372036854775808 := by decide
theorem g64 : (2 : Int) ^ (2 * (64 : Int) - 1).toNat = 170141183460469231731687303715884105728 := by decide
theorem e64 : (2 : Int) ^ 64 = 18446744073709551616 := by decide
theorem low_bnd {n : Int} (hn : n = 32 ∨ n = 64) (x : Int) : 0 ≤ low x n ∧ low x n < 2 ^ n.toNat ∧ (2 : Int) ^ n.toNat ≤ 18446744073709551616 ∧ (2 : Int) ^ n.toNat = 2 * 2 ^ (n - 1).toNat ∧ 0 < (2 : Int) ^ (n - 1).toNat := by
  refine ⟨low_nn _ _, low_lt _ _, ?_⟩
  rcases hn with rfl | rfl
  · rw [p32, h32]; omega
  · rw [p64, h64]; omega
theorem low_neg {x n : Int} (h0 : -2 ^ n.toNat ≤ x) (h1 : x < 0) : low x n = x + 2 ^ n.toNat := by
  have e : low x n = low (x + 2 ^ n.toNat) n := (Int.add_emod_right _ _).symm
  rw [e]
  exact low_of (by omega) (by omega)
theorem cqo_out {n : Int} (hn : n = 32 ∨ n = 64) (x : Int) : low (if 2 ^ (n - 1).toNat ≤ low x n then -1 else 0) n = if sgn x n < 0 then 2 ^ n.toNat - 1 else 0 := by
  obtain ⟨y0, y1, _, hp, h0⟩ := low_bnd hn x
  by_cases c : 2 ^ (n - 1).toNat ≤ low x n
  · rw [if_pos c, sgn_pos c, if_pos (Int.sub_neg_of_lt y1), low_neg (by clear c y0 y1; omega) (by decide)]
    clear c y0 y1 h0 hp
    omega
  · rw [if_neg c, sgn_neg c, if_neg (Int.not_lt.mpr y0)]
    exact low_of (Int.le_refl _) (two_pos _)
theorem runs3 {sg fl : Bool} {n r : Int} {hd rs2 : List Int} (h : Runs [.dv sg n r, .mov, .ret] hd rs2 fl) :
    (fl = false ∧ cOk sg n r hd ∧ rs2 = ((hd.set 0 (low (cQ sg n r hd) 64)).set 2 (low (cR sg n r hd) 64)).set 9 5) ∨ (fl = true ∧ ¬ cOk sg n r hd ∧ rs2 = hd) := by
  rcases h with ⟨ok, h⟩ | ⟨no, e, f⟩
  · rcases h with ⟨_, h⟩ | ⟨h, _⟩
    · rcases h with ⟨_, e, f⟩ | ⟨h, _⟩
      · exact Or.inl ⟨f, ok, e⟩
      · exact absurd trivial h
    · exact absurd trivial h
  · exact Or.inr ⟨f, no, e⟩
theorem runs_out {hs sg fl : Bool} {n r : Int} {rs rs2 : List Int} (hn : n = 32 ∨ n = 64) (h : Runs (ksOf hs sg n r) rs rs2 fl) :
    (fl = false ∧ cOk sg n r (hdOf hs n rs) ∧ rs2 = (((hdOf hs n rs).set 0 (low (cQ sg n r (hdOf hs n rs)) 64)).set 2 (low (cR sg n r (hdOf hs n rs)) 64)).set 9 5) ∨ (fl = true ∧ ¬ cOk sg n r (hdOf hs n rs) ∧ rs2 = hdOf hs n rs) := by
  cases hs with
  | false => exact runs3 h
  | true =>
    rcases h with ⟨_, h⟩ | ⟨h, _⟩
    · refine runs3 ?_
      have e : Kd.out (.cqo n) rs = hdOf true n rs := by
        show rs.set 2 _ = rs.set 2 _
        rw [cqo_out hn]
      rw [← e]
      exact h
    · exact absurd trivial h
theorem getD_set_ne {l : List Int} {i j : Nat} {v : Int} (h : i ≠ j) : (l.set i v).getD j 0 = l.getD j 0 := by
  rw [List.getD_eq_getElem?_getD, List.getD_eq_getElem?_getD, List.getElem?_set_ne h]
theorem getD_set_self {l : List Int} {i : Nat} {v : Int} (h : i < l.length) : (l.set i v).getD i 0 = v := by
  rw [List.getD_eq_getElem?_getD, List.getElem?_set_self h]; rfl
theorem caseV_of {hs sg : Bool} {n r wh ot : Int} {hd rs : List Int} {oH : Obj} (hn : n = 32 ∨ n = 64) (hr0 : 0 ≤ r) (hr1 : r < 16) (hH : RegsAre hd oH) (ehd : hd = hdOf hs n rs) (ewh : wh = wholeOf (hd.getD 2 0) (hd.getD 0 0) n sg) (eot : ot = otOf sg n (hd.getD r.toNat 0)) : CaseV hs sg n r hd wh ot := by
  obtain ⟨_, _, _, _, hl, hb⟩ := hH
  refine ⟨hn, hr0, hr1, hl, hb, fun e => ?_, ewh, eot⟩
  subst e
  have e2 : hd = rs.set 2 (if sgn (rs.getD 0 0) n < 0 then 2 ^ n.toNat - 1 else 0) := ehd
  have hl' : rs.length = 16 := by rw [e2, List.length_set] at hl; exact hl
  rw [e2, getD_set_self (by omega), getD_set_ne (by decide)]
/-! truncating division -/
theorem absI_nn (x : Int) : 0 ≤ absI x := by unfold absI; split <;> omega
theorem tr {W D : Int} (hD : D ≠ 0) : ∃ X m, (absI W).fdiv (absI D) = X ∧ 0 ≤ X ∧ 0 ≤ m ∧ m < absI D ∧ X * absI D + m = absI W ∧ sq W D = (if decide (W < 0) == decide (D < 0) then X else -X) ∧ W - sq W D * D = if W < 0 then -m else m := by
  have hd : 0 < absI D := by unfold absI; split <;> omega
  have e0 : (absI W).fdiv (absI D) = (absI W) / (absI D) := Int.fdiv_eq_ediv_of_nonneg _ (Int.le_of_lt hd)
  have e1 : (absI W) / (absI D) * absI D + (absI W) % (absI D) = absI W := by
    have := Int.emod_add_mul_ediv (absI W) (absI D)
    rw [Int.mul_comm (absI D)] at this
    omega
  have es : sq W D = (if decide (W < 0) == decide (D < 0) then (absI W) / (absI D) else -((absI W) / (absI D))) := by rw [← e0]; rfl
  refine ⟨_, _, e0, Int.ediv_nonneg (absI_nn W) (Int.le_of_lt hd), Int.emod_nonneg _ (Int.ne_of_gt hd), Int.emod_lt_of_pos _ hd, e1, es, ?_⟩
  rw [es]
  generalize (absI W) / (absI D) = X at *
  generalize (absI W) % (absI D) = m at *
  clear e0 es
  unfold absI at e1
  by_cases hW : W < 0 <;> by_cases hD' : D < 0
  · rw [if_pos hW, if_pos hD'] at e1
    rw [decide_eq_true hW, decide_eq_true hD', if_pos (show (true == true) = true from rfl), if_pos hW]
    rw [Int.mul_neg] at e1
    omega
  · rw [if_pos hW, if_neg hD'] at e1
    rw [decide_eq_true hW, decide_eq_false hD', if_neg (by decide), if_pos hW, Int.neg_mul]
    omega
  · rw [if_neg hW, if_pos hD'] at e1
    rw [decide_eq_false hW, decide_eq_true hD', if_neg (by decide), if_neg hW, Int.neg_mul]
    rw [Int.mul_neg] at e1
    omega
  · rw [if_neg hW, if_neg hD'] at e1
    rw [decide_eq_false hW, decide_eq_false hD', if_pos (show (false == false) = true from rfl), if_neg hW]
    omega
theorem sgn_rng {x n : Int} (hn : n = 32 ∨ n = 64) : -2 ^ (n - 1).toNat ≤ sgn x n ∧ sgn x n < 2 ^ (n - 1).toNat := by
  obtain ⟨y0, y1, _, hp, h0⟩ := low_bnd hn x
  by_cases c : 2 ^ (n - 1).toNat ≤ low x n
  · rw [sgn_pos c]; omega
  · rw [sgn_neg c]; omega
theorem sgn_id {x n : Int} (hn : n = 32 ∨ n = 64) : sgn x n = x ↔ -2 ^ (n - 1).toNat ≤ x ∧ x < 2 ^ (n - 1).toNat := by
  refine ⟨fun h => h ▸ sgn_rng hn, fun ⟨a, b⟩ => ?_⟩
  obtain ⟨_, _, _, hp, h0⟩ := low_bnd hn x
  by_cases c : 0 ≤ x
  · have e : low x n = x := low_of c (by omega)
    rw [sgn_neg (by rw [e]; exact Int.not_le.mpr b), e]
  · have e : low x n = x + 2 ^ n.toNat := low_neg (by omega) (by omega)
    rw [sgn_pos (by rw [e]; omega), e]
    exact Int.add_sub_cancel _ _
theorem sgn_low {x n : Int} (hn : n = 32 ∨ n = 64) : sgn (low x n) n = sgn x n := by
  unfold sgn
  have e : low (low x n) n = low x n := low_of (low_nn _ _) (low_lt _ _)
  rw [e]
theorem fe_Cp {wh ot n : Int} {sg : Bool} (h0 : ot ≠ 0) (a : ¬ wh < 0) (b : ¬ ot < 0) : FitsP wh ot n sg ↔ wh.fdiv ot ≤ hiOf n sg :=
  ⟨fun h => h.2.2.2 ⟨Int.not_lt.mp a, Int.not_lt.mp b⟩, fun h => ⟨h0, fun q => (a q.1).elim, fun q => (q.elim (fun z => a z.1) fun z => b z.2).elim, fun _ => h⟩⟩
/-- signed: the law's test is that the quotient lies within -/
theorem fit_t {W D n : Int} (hn : n = 32 ∨ n = 64) : FitsP W D n true ↔ D ≠ 0 ∧ -2 ^ (n - 1).toNat ≤ sq W D ∧ sq W D < 2 ^ (n - 1).toNat := by
  by_cases hD : D = 0
  · exact ⟨fun h => absurd hD h.1, fun h => absurd hD h.1⟩
  obtain ⟨X, m, eX, hX, _, _, _, es, _⟩ := tr (W := W) hD
  have eX' : (if W < 0 then -W else W).fdiv (if D < 0 then -D else D) = X := eX
  have hp := (low_bnd hn 0).2.2.2.2
  have hi : ∀ z, z ≤ hiOf n true ↔ z < 2 ^ (n - 1).toNat := fun z => Int.le_sub_one_iff
  rw [es]
  by_cases hW : W < 0 <;> by_cases hD' : D < 0
  · rw [decide_eq_true hW, decide_eq_true hD', if_pos (show (true == true) = true from rfl), fe_A hD hW hD', eX', hi]
    exact ⟨fun h => ⟨hD, h⟩, fun h => h.2⟩
  · rw [decide_eq_true hW, decide_eq_false hD', if_neg (by decide), fe_B hD (Or.inl ⟨hW, Int.not_lt.mp hD'⟩), eX', hi]
    exact ⟨fun h => ⟨hD, h⟩, fun h => h.2⟩
  · rw [decide_eq_false hW, decide_eq_true hD', if_neg (by decide), fe_B hD (Or.inr ⟨Int.not_lt.mp hW, hD'⟩), eX', hi]
    exact ⟨fun h => ⟨hD, h⟩, fun h => h.2⟩
  · rw [decide_eq_false hW, decide_eq_false hD', if_pos (show (false == false) = true from rfl), fe_Cp hD hW hD']
    rw [if_neg hW, if_neg hD'] at eX'
    rw [eX', hi]
    exact ⟨fun h => ⟨hD, Int.le_trans (Int.neg_nonpos_of_nonneg (Int.le_of_lt hp)) hX, h⟩, fun h => h.2.2⟩
theorem fit_f {W D n : Int} (hW : 0 ≤ W) (hD : 0 ≤ D) : FitsP W D n false ↔ D ≠ 0 ∧ W.fdiv D < 2 ^ n.toNat := by
  unfold FitsP
  rw [lo_f, hi_f]
  generalize (2 : Int) ^ n.toNat = p at *
  constructor
  · rintro ⟨a, b, c, d⟩; have := d ⟨hW, hD⟩; exact ⟨a, by omega⟩
  · rintro ⟨a, b⟩; exact ⟨a, fun q => by omega, fun q => by omega, fun _ => by omega⟩
theorem fits_true {W D n : Int} {sg : Bool} (h : FitsP W D n sg) : fitsOf W D n sg = true := by unfold fitsOf; exact @decide_eq_true _ (Classical.propDecidable _) h
theorem fits_false {W D n : Int} {sg : Bool} (h : ¬ FitsP W D n sg) : fitsOf W D n sg = false := by unfold fitsOf; exact @decide_eq_false _ (Classical.propDecidable _) h
section
variable {hs sg : Bool} {n r wh ot : Int} {hd rs2 : List Int}
theorem wh_f (V : CaseV hs false n r hd wh ot) : wh = low (hd.getD 2 0) n * 2 ^ n.toNat + low (hd.getD 0 0) n ∧ 0 ≤ wh := by
  have e : wh = low (hd.getD 2 0) n * 2 ^ n.toNat + low (hd.getD 0 0) n := V.ewh
  refine ⟨e, ?_⟩
  rw [e]
  have h1 := Int.mul_nonneg (low_nn (hd.getD 2 0) n) (Int.le_of_lt (two_pos n.toNat))
  have h2 := low_nn (hd.getD 0 0) n
  omega
theorem cOk_f (V : CaseV hs false n r hd wh ot) : cOk false n r hd ↔ ot ≠ 0 ∧ wh.fdiv ot < 2 ^ n.toNat := by
  have e := (wh_f V).1
  have eo : ot = low (hd.getD r.toNat 0) n := V.eot
  rw [e, eo]
  exact Iff.rfl
theorem cOk_t (V : CaseV hs true n r hd wh ot) : cOk true n r hd ↔ ot ≠ 0 ∧ sgn (sq wh ot) n = sq wh ot := by
  have e : wh = sgn (low (hd.getD 2 0) n * 2 ^ n.toNat + low (hd.getD 0 0) n) (2 * n) := V.ewh
  have eo : ot = sgn (hd.getD r.toNat 0) n := V.eot
  rw [← sgn_low V.hn] at eo
  rw [e, eo]
  exact Iff.rfl
theorem okIff (V : CaseV hs sg n r hd wh ot) : cOk sg n r hd ↔ FitsP wh ot n sg := by
  cases sg with
  | false =>
    have eo : ot = low (hd.getD r.toNat 0) n := V.eot
    rw [cOk_f V, fit_f (wh_f V).2 (eo ▸ low_nn _ _)]
  | true => rw [cOk_t V, fit_t V.hn, sgn_id V.hn]
theorem ot_bnd (V : CaseV hs sg n r hd wh ot) : -2 ^ 64 < ot ∧ ot < 2 ^ 64 := by
  rw [e64]
  cases sg with
  | false =>
    have eo : ot = low (hd.getD r.toNat 0) n := V.eot
    have := low_bnd V.hn (hd.getD r.toNat 0)
    omega
  | true =>
    have eo : ot = sgn (hd.getD r.toNat 0) n := V.eot
    have h1 := sgn_rng V.hn (x := hd.getD r.toNat 0)
    have h2 := low_bnd V.hn (hd.getD r.toNat 0)
    rw [← eo] at h1
    omega
theorem lt_ne {a b : Int} (h : a ≤ b) (k : a ≠ b) : a < b := by omega
theorem h_le {n : Int} (hn : n = 32 ∨ n = 64) : (2 : Int) ^ (n - 1).toNat ≤ 9223372036854775808 := by rcases hn with rfl | rfl <;> decide
theorem bnd64 {h s : Int} (hh : h ≤ 9223372036854775808) (a : -h ≤ s) (b : s < h) : -18446744073709551616 < s ∧ s < 18446744073709551616 := by omega
theorem abs_m {m A W : Int} (h0 : 0 ≤ m) (h1 : m < A) : absI (if W < 0 then -m else m) < A := by unfold absI; split <;> split <;> omega
theorem rng_m {m A W h : Int} (h0 : 0 ≤ m) (h1 : m < A) (h2 : A ≤ h) : -h ≤ (if W < 0 then -m else m) ∧ (if W < 0 then -m else m) < h := by split <;> omega
theorem abs_le {D h : Int} (a : -h ≤ D) (b : D < h) : absI D ≤ h := by unfold absI; split <;> omega
theorem abs_nn {x : Int} (h : 0 ≤ x) : absI x = x := if_neg (Int.not_lt.mpr h)
theorem rng_x {c : Bool} {X h : Int} (h0 : 0 ≤ X) (h1 : X < h) : -h ≤ (if c then X else -X) ∧ (if c then X else -X) < h := by split <;> omega
theorem abs_pos {D : Int} (h : D ≠ 0) : 0 < absI D := by unfold absI; split <;> omega
theorem one_of {X A m V h : Int} (hX : h ≤ X) (h0 : 0 < h) (hs : X * A + m = V) (hV : V ≤ h) (hm : 0 ≤ m) (hA : 0 < A) : A = 1 ∧ V = h := by
  have hA2 : A < 2 := by
    apply Int.not_le.mp
    intro hc
    have := Int.mul_le_mul_of_nonneg_left hc (Int.le_trans (Int.le_of_lt h0) hX)
    omega
  have e : A = 1 := by omega
  rw [e, Int.mul_one] at hs
  exact ⟨e, by omega⟩
theorem neg_of {V h : Int} (h0 : 0 < h) (a : absI V = h) (b : V < h) : V = -h := by unfold absI at a; split at a <;> omega
theorem m1_of {D : Int} (a : absI D = 1) (b : D < 0) : D = -1 := by unfold absI at a; rw [if_pos b] at a; omega
theorem good_of (V : CaseV hs sg n r hd wh ot) (ok : cOk sg n r hd) (e : rs2 = ((hd.set 0 (low (cQ sg n r hd) 64)).set 2 (low (cR sg n r hd) 64)).set 9 5) : Good sg n hd rs2 wh ot (cQ sg n r hd) (cR sg n r hd) := by
  have hl := V.len
  have hfit := (okIff V).mp ok
  have hbo := ot_bnd V
  have hp := (low_bnd V.hn 0).2.2.1
  -- the numbers
  have key : 0 ≤ cQ sg n r hd ∧ cQ sg n r hd < 2 ^ n.toNat ∧ 0 ≤ cR sg n r hd ∧ cR sg n r hd < 2 ^ n.toNat ∧ qOf sg n (cQ sg n r hd) * ot + qOf sg n (cR sg n r hd) = wh ∧ absI (qOf sg n (cR sg n r hd)) < absI ot ∧ (qOf sg n (cR sg n r hd) ≠ 0 → decide (qOf sg n (cR sg n r hd) < 0) = decide (wh < 0)) ∧ -2 ^ 64 < qOf sg n (cQ sg n r hd) ∧ qOf sg n (cQ sg n r hd) < 2 ^ 64 := by
    cases sg with
    | false =>
      obtain ⟨ew, hw⟩ := wh_f V
      have eo : ot = low (hd.getD r.toNat 0) n := V.eot
      obtain ⟨h0, h1⟩ := (cOk_f V).mp ok
      have hb := low_bnd V.hn (hd.getD r.toNat 0)
      rw [← eo] at hb
      have eQ : cQ false n r hd = wh.fdiv ot := by rw [ew, eo]; rfl
      have eR : cR false n r hd = wh.fmod ot := by rw [ew, eo]; rfl
      rw [eQ, eR]
      have hpos : 0 < ot := lt_ne hb.1 (Ne.symm h0)
      have q0 : 0 ≤ wh.fdiv ot := fdiv_nn hw hpos
      have r0 : 0 ≤ wh.fmod ot := fmod_nn hpos
      have r1 : wh.fmod ot < ot := fmod_ltp hpos
      have es : wh.fdiv ot * ot + wh.fmod ot = wh := by rw [Int.mul_comm]; exact Int.mul_fdiv_add_fmod wh ot
      show _ ∧ _ ∧ _ ∧ _ ∧ wh.fdiv ot * ot + wh.fmod ot = wh ∧ absI (wh.fmod ot) < absI ot ∧ (wh.fmod ot ≠ 0 → decide (wh.fmod ot < 0) = decide (wh < 0)) ∧ -2 ^ 64 < wh.fdiv ot ∧ wh.fdiv ot < 2 ^ 64
      rw [e64]
      refine ⟨q0, h1, r0, Int.lt_trans r1 hb.2.1, es, ?_, fun _ => ?_, Int.lt_of_lt_of_le (by decide) q0, Int.lt_of_lt_of_le h1 hp⟩
      · rw [abs_nn r0, abs_nn hb.1]; exact r1
      · rw [decide_eq_false (Int.not_lt.mpr r0), decide_eq_false (Int.not_lt.mpr hw)]
    | true =>
      have ew : wh = sgn (low (hd.getD 2 0) n * 2 ^ n.toNat + low (hd.getD 0 0) n) (2 * n) := V.ewh
      have eo : ot = sgn (hd.getD r.toNat 0) n := V.eot
      have hbr := sgn_rng V.hn (x := hd.getD r.toNat 0)
      rw [← eo] at hbr
      obtain ⟨h0, h1⟩ := (cOk_t V).mp ok
      have h2 := (sgn_id V.hn).mp h1
      have eQ : cQ true n r hd = low (sq wh ot) n := by rw [ew, eo, ← sgn_low V.hn]; rfl
      have eR : cR true n r hd = low (wh - sq wh ot * ot) n := by rw [ew, eo, ← sgn_low V.hn]; rfl
      rw [eQ, eR]
      obtain ⟨X, m, eX, hX, hm0, hm1, hsum, es, er⟩ := tr (W := wh) h0
      have er2 : sgn (wh - sq wh ot * ot) n = wh - sq wh ot * ot := (sgn_id V.hn).mpr (by rw [er]; exact rng_m hm0 hm1 (abs_le hbr.1 hbr.2))
      have b1 := low_bnd V.hn (sq wh ot)
      have b2 := low_bnd V.hn (wh - sq wh ot * ot)
      have c1 : qOf true n (low (sq wh ot) n) = sq wh ot := (sgn_low V.hn).trans h1
      have c2 : qOf true n (low (wh - sq wh ot * ot) n) = wh - sq wh ot * ot := (sgn_low V.hn).trans er2
      rw [c1, c2, e64]
      have b3 := bnd64 (h_le V.hn) h2.1 h2.2
      refine ⟨b1.1, b1.2.1, b2.1, b2.2.1, by rw [Int.add_comm]; exact Int.sub_add_cancel _ _, ?_, ?_, b3.1, b3.2⟩
      · rw [er]; exact abs_m hm0 hm1
      · rw [er]
        intro hne
        by_cases hw : wh < 0
        · rw [if_pos hw] at hne ⊢
          rw [decide_eq_true (show -m < 0 from Int.neg_neg_of_pos (lt_ne hm0 fun z => hne (by rw [← z]; rfl))), decide_eq_true hw]
        · rw [if_neg hw] at hne ⊢
          rw [decide_eq_false (Int.not_lt.mpr hm0), decide_eq_false hw]
  obtain ⟨k0, k1, k2, k3, k4, k5, k6, k7, k8⟩ := key
  have eq64 : low (cQ sg n r hd) 64 = cQ sg n r hd := low_of k0 (by rw [p64]; exact Int.lt_of_lt_of_le k1 hp)
  have er64 : low (cR sg n r hd) 64 = cR sg n r hd := low_of k2 (by rw [p64]; exact Int.lt_of_lt_of_le k3 hp)
  rw [eq64, er64] at e
  generalize cQ sg n r hd = q at *
  generalize cR sg n r hd = rr at *
  have g0 : rs2.getD 0 0 = q := by
    rw [e, getD_set_ne (by decide), getD_set_ne (by decide), getD_set_self (by rw [hl]; decide)]
  have g2 : rs2.getD 2 0 = rr := by
    rw [e, getD_set_ne (by decide), getD_set_self (by rw [List.length_set, hl]; decide)]
  exact ⟨g0, g2, fits_true hfit, k1, k3, k4, k5, k6, by rw [g0, g2]; exact e, ⟨k7, k8⟩, hbo⟩
theorem dbl {n : Int} (hn : n = 32 ∨ n = 64) : (2 : Int) ^ (2 * n).toNat = 2 ^ n.toNat * 2 ^ n.toNat ∧ (2 : Int) ^ (2 * n - 1).toNat = 2 ^ (n - 1).toNat * 2 ^ n.toNat := by
  rcases hn with rfl | rfl <;> exact ⟨by decide, by decide⟩
theorem ext_n {n x : Int} (hn : n = 32 ∨ n = 64) : -2 ^ (n - 1).toNat ≤ sgn (low (if sgn x n < 0 then 2 ^ n.toNat - 1 else 0) n * 2 ^ n.toNat + low x n) (2 * n) ∧ sgn (low (if sgn x n < 0 then 2 ^ n.toNat - 1 else 0) n * 2 ^ n.toNat + low x n) (2 * n) < 2 ^ (n - 1).toNat := by
  obtain ⟨y0, y1, _, hp, h0⟩ := low_bnd hn x
  obtain ⟨e2, e3⟩ := dbl hn
  have hpp : (2 : Int) ^ n.toNat * 2 ^ n.toNat = 2 * (2 ^ (n - 1).toNat * 2 ^ n.toNat) := by rw [← Int.mul_assoc, ← hp]
  have hhp : (2 : Int) ^ n.toNat ≤ 2 ^ (n - 1).toNat * 2 ^ n.toNat := by
    have := Int.mul_le_mul_of_nonneg_right (show (1 : Int) ≤ 2 ^ (n - 1).toNat from h0) (Int.le_of_lt (two_pos n.toNat))
    rw [Int.one_mul] at this
    exact this
  by_cases c : 2 ^ (n - 1).toNat ≤ low x n
  · have s1 := sgn_pos c
    rw [if_pos (show sgn x n < 0 by rw [s1]; exact Int.sub_neg_of_lt y1)]
    have l1 : low ((2 : Int) ^ n.toNat - 1) n = 2 ^ n.toNat - 1 := low_of (Int.sub_nonneg_of_le (two_pos n.toNat)) (Int.sub_lt_self _ (by decide))
    rw [l1, Int.sub_mul, Int.one_mul]
    have l2 : low ((2 : Int) ^ n.toNat * 2 ^ n.toNat - 2 ^ n.toNat + low x n) (2 * n) = (2 : Int) ^ n.toNat * 2 ^ n.toNat - 2 ^ n.toNat + low x n := by
      refine low_of ?_ ?_
      · clear s1 l1 e2 e3 c; omega
      · rw [e2]; clear s1 l1 e2 e3 c hpp hhp; omega
    have l3 : sgn ((2 : Int) ^ n.toNat * 2 ^ n.toNat - 2 ^ n.toNat + low x n) (2 * n) = low x n - 2 ^ n.toNat := by
      rw [sgn_pos (by rw [l2, e3]; clear s1 l1 l2 e2 e3 c; omega), l2, e2]
      clear s1 l1 l2 e2 e3 c hpp hhp
      omega
    rw [l3]
    clear s1 l1 l2 l3 e2 e3 hpp hhp
    omega
  · have s1 := sgn_neg c
    rw [if_neg (show ¬ sgn x n < 0 by rw [s1]; exact Int.not_lt.mpr y0)]
    have l1 : low 0 n = 0 := low_of (Int.le_refl _) (two_pos _)
    rw [l1, Int.zero_mul, Int.zero_add]
    have l2 : low (low x n) (2 * n) = low x n := low_of y0 (by rw [e2]; clear s1 l1 e2 e3 c; omega)
    rw [sgn_neg (by rw [l2, e3]; clear s1 l1 l2 e2 e3 hpp; omega), l2]
    clear s1 l1 l2 e2 e3 hpp hhp
    omega
theorem wh_ext (V : CaseV true true n r hd wh ot) : -2 ^ (n - 1).toNat ≤ wh ∧ wh < 2 ^ (n - 1).toNat := by
  have ew : wh = sgn (low (hd.getD 2 0) n * 2 ^ n.toNat + low (hd.getD 0 0) n) (2 * n) := V.ewh
  rw [ew, V.ext rfl]
  exact ext_n V.hn
theorem bad_of (V : CaseV hs sg n r hd wh ot) (no : ¬ cOk sg n r hd) : Bad hs sg n r wh ot := by
  have hfit : ¬ FitsP wh ot n sg := fun h => no ((okIff V).mpr h)
  refine ⟨fits_false hfit, ?_, ot_bnd V⟩
  cases hs with
  | false => exact Or.inl rfl
  | true =>
    cases sg with
    | false => exact Or.inr (Or.inl rfl)
    | true =>
      by_cases h0 : ot = 0
      · exact Or.inr (Or.inr (Or.inr (Or.inl h0)))
      refine Or.inr (Or.inr (Or.inr (Or.inr ?_)))
      have hw := wh_ext V
      rw [fit_t V.hn] at hfit
      obtain ⟨X, m, eX, hX, hm0, hm1, hsum, es, er⟩ := tr (W := wh) h0
      have hb := (low_bnd V.hn 0).2.2.2.2
      rw [es] at hfit
      have hX2 : (2 : Int) ^ (n - 1).toNat ≤ X := Int.not_lt.mp fun hc => hfit ⟨h0, rng_x hX hc⟩
      obtain ⟨hd2, ha⟩ := one_of hX2 hb hsum (abs_le hw.1 hw.2) hm0 (abs_pos h0)
      have hwm := neg_of hb ha hw.2
      refine ⟨hwm, m1_of hd2 ?_⟩
      apply Classical.byContradiction
      intro hd'
      apply hfit
      have hwn : wh < 0 := by rw [hwm]; exact Int.neg_neg_of_pos hb
      have hXh : X = 2 ^ (n - 1).toNat := by
        rw [hd2, Int.mul_one, ha] at hsum
        exact Int.le_antisymm (Int.le_trans (Int.le_add_of_nonneg_right hm0) (Int.le_of_eq hsum)) hX2
      rw [decide_eq_true hwn, decide_eq_false hd', if_neg (by decide), hXh]
      exact ⟨h0, Int.le_refl _, Int.lt_trans (Int.neg_neg_of_pos hb) hb⟩
end

-- Cf
theorem zrCf : True := by first | (row_walk; done) | trivial
abbrev mFR (a b : Option Value) (m : Str → Option Value) : Str → Option Value := fun y => if y = Str.ofString "found" then b else if y = Str.ofString "rest" then a else m y
theorem zz45 : True := by
  k_with "call ref" => (k_here; (with_reducible show wpAny _ _ (call (Value.ref 482) [Value.int _ _, Value.int _ _]) _ _ _); k_dflt (refine' lsign_C ?kB ?kF ?kX ?kN ?kT ?kk ?kn ?kd ?ku ?_; (case kB => k_asm); (case kF => k_asm); (case kX => k_asm); (case kN => k_asm); (case kT => k_asm); (case kk => first | exact rfl | assumption); (case kn => first | omega | decide); (case kd => ktr_room); (case ku => ktr_units)); intro t' h' tk' F' N'; (try dsimp only); (try k_sweep); (try k_fold))
  k_with "UnrEndW" => (k_here; refine' unrW (off5 (by assumption)) ?uF ?uN ?uI ?us ⟨by k_subL, ?_⟩; (case uF => assumption); (case uN => k_asm); (case uI => ((repeat' (refine fa_cons (by k_mem) ?_)); exact List.forall_mem_nil _)); (case us => ((repeat' (refine fa_cons (by k_mem) ?_)); first | exact List.forall_mem_nil _ | (intro pD hD; repeat (first | exact hD | apply List.Mem.tail)))))
  k_with "UnrEndW" => (k_here; refine' unrW (off1 (by assumption)) ?uF ?uN ?uI ?us ⟨by k_subL, ?_⟩; (case uF => assumption); (case uN => k_asm); (case uI => ((repeat' (refine fa_cons (by k_mem) ?_)); exact List.forall_mem_nil _)); (case us => ((repeat' (refine fa_cons (by k_mem) ?_)); first | exact List.forall_mem_nil _ | (intro pD hD; repeat (first | exact hD | apply List.Mem.tail)))))
  k_with "UnrEnd" => (k_here; refine' unrI ?uo ?uF ?uN ?uI ?us ?_; (case uo => assumption); (case uF => assumption); (case uN => k_asm); (case uI => k_mem); (case us => ((repeat' (refine fa_cons (by k_mem) ?_)); first | exact List.forall_mem_nil _ | (intro pD hD; repeat (first | exact hD | apply List.Mem.tail)))))
  k_with "pyIter ref" => (k_here; (with_reducible show wpAny _ _ (pyIter (Value.ref _)) (fun it s₂ => TurnsAt _ _ _ _ _ _ _ _ _ it s₂) _ _); (rename Fr _ _ _ _ => lF'); (rename News _ _ _ _ => lN'); (with_unfolding_all refine' iter_tupTurns ?h1 lF' lN' ?h2 ?h3 ?h4 ?_; (case h1 => exact rfl); (case h2 => k_mem); (case h3 => exact rfl); (case h4 => exact rfl)); clear lF' lN'; intro i' l1; (try k_lt l1))
  k_with "call ref" => (k_here; (with_reducible show wpAny _ _ (call (Value.ref 468) [Value.ref _, Value.ref _]) _ _ _); k_dflt (refine' pick_C ?kB ?kF ?kX ?kN ?kPk ?kT ?kk ?kP ?kI ?km ?km2 ?kd ?ku ?_; (case kP => assumption); (case kB => k_asm); (case kF => k_asm); (case kX => k_asm); (case kN => k_asm); (case kPk => k_upd); (case kT => k_asm); (case kk => first | exact rfl | assumption); (case kI => first | assumption | l_intsW); (case km => first | decide | omega); (case km2 => first | decide | omega); (case kd => ktr_room); (case ku => ktr_units)); intro v' t' oP' oL' h' tk' F' N' hP' hM'; (try dsimp only); (try k_sweep); (try k_fold))
  k_with "ktr_enter" => ((refine' enterX ?k1 ?k2 ?k3 ?kE ?k4 ?k5 ?kXB ?kEB ?kTB ?kA ?kF ?kK ?k6 ?k7 ?k8 ?k9 ?kB ?_ ?c2 ?c3 ?c4 ?c5; (case kA => exact rfl); (case kF => exact rfl); (case kK => assumption); (case k1 => k_asm); (case k2 => k_asm); (case k3 => k_asm); (case kE => k_asm); (case k4 => k_asm); (case k5 => k_asm); (case kXB => k_asm); (case kEB => k_asm); (case kTB => k_asm); (case k6 => k_is); (case k7 => k_is); (case k8 => ktr_room); (case k9 => first | exact BindsTo.of_eq rfl | exact binds_K (by k_in) rfl (by k_is) rfl rfl rfl); (case c5 => decide); (case kB => exact locs rfl); (case c2 => exact rfl); (case c3 => exact rfl); (case c4 => exact rfl); k_whole; intro g' L' h' FG' F' N' B' X' T' E' back'; (try dsimp only); (try k_fold)))
  k_with "leaving ref" => (k_here; (refine' leave_led ?kB ?kF ?kk ?kY ?_; (case kB => k_asm); (case kF => k_asm); (case kY => first | exact Or.inl (by assumption) | exact Or.inr (by assumption)); (case kk => exact rfl); k_whole); intro h' g' T' F' Y' B')
  k_with "exec Raise some none" => (k_here; (refine' raise_K ?kh ?_; (case kh => with_unfolding_all rfl)))
  k_with "call ref" => (k_here; (with_reducible show wpAny _ _ (call (Value.ref 59) [Value.str _ _]) _ _ _); k_dflt (refine' fault_C ?kB ?kF ?kX ?kN ?kT ?kA ?kf ?kK ?kd ?_; (case kA => exact rfl); (case kf => exact rfl); (case kK => first | assumption | exact rfl); (case kB => k_asm); (case kF => k_asm); (case kX => k_asm); (case kN => k_asm); (case kT => k_asm); (case kd => ktr_room)); intro e' dx' t' oe' od' h' tk' F' N' n1' n2' n3' hE'; obtain ⟨⟨sl', hR'⟩, hW'⟩ := hE'; subst hR'; (replace hW' : WhatIs _ _ := (by obtain ⟨q1, q2, t1, t2, t3, n, e⟩ := hW'; exact ⟨q1, q2, t1, t2, t3, n, e⟩)); (have Y' := flyNew_of N' n2' n3'); (try dsimp only); (try k_sweep); (try k_fold))
  k_with "Exists" => (refine ⟨_, _, _, _, rfl, (by k_in), News.get (by k_asm) (by k_mem), ?_⟩)
  k_with "call ref" => (k_here; (with_reducible show wpAny _ _ (call (Value.ref 435) _) _ _ _); k_dflt (refine' step_X ?kB ?kF ?kX ?kE ?kN ?k1 ?k2 ?k3 ?kT ?kXB ?kEB ?kTB ?kk ?m0 ?m1 ?m2 ?m3 ?m4 ?kget ?klen ?kRow ?kK ?kPi ?kM1 ?kM2 ?kR ?kd ?ku (fun oD' oR' h0' h' tk' T' F' B' X' TT' E' N' hM' hR' ok' => ?_) (fun e' dx' od' oD' h0' h' tk' T' F' B' X' TT' E' Y' W' nd' hM' no' => ?_); (case kB => k_asm); (case kF => k_asm); (case kX => k_asm); (case kE => k_asm); (case kN => k_asm); (case k1 => k_upd); (case kM1 => first | exact rfl | assumption); (case k2 => k_upd); (case kM2 => first | assumption | exact ⟨_, _, _, _, _, _, _, _, _, _, _, _, _, _, _, _, _, _, _, _, _, _, _, rfl⟩); (case k3 => k_upd); (case kR => assumption); (case kT => k_asm); (case kXB => k_asm); (case kEB => k_asm); (case kTB => k_asm); (case kk => first | exact rfl | assumption); (case m0 => k_mem); (case kget => assumption); (case m1 => k_mem); (case kRow => assumption); (case m2 => k_mem); (case m3 => k_mem); (case m4 => k_mem); (case klen => (show _ ≤ 8; omega)); (case kK => assumption); (case kPi => assumption); (case kd => ktr_room); (case ku => ktr_units)); (all_goals ((try dsimp only); (try k_sweep); (try k_fold))); rotate_left)
  k_with "call ref" => (k_here; (with_reducible show wpAny _ _ (call (Value.ref 148) [Value.str _ _, Value.ref _]) _ _ _); k_dflt (refine' row_C ?kB ?kF ?kX ?kN ?kT ?kk ?kd ?ku ?_; (case kB => k_asm); (case kF => k_asm); (case kX => k_asm); (case kN => k_asm); (case kT => k_asm); (case kk => first | exact rfl | assumption); (case kd => ktr_room); (case ku => ktr_units)); intro x' dx' oX' oD' h' tk' F' N' l1 l2 hW'; (try k_lt l1); (try k_lt2 l2); (try dsimp only); (try k_sweep); (try k_fold))
  k_with "getAttr ref" => (k_here; (with_reducible show wpAny _ _ (getAttr (Value.ref _) (Str.ofString "regs") _) _ _ _); k_dflt (refine' get_regs ?k1 ?k2 ?k3 ?k4 ?k5 ?k6 ?_; (case k1 => k_asm); (case k2 => k_asm); (case k3 => k_asm); (case k4 => k_mem); (case k6 => assumption); (case k5 => k_mem); k_whole))
  k_with "getMethod ref" => (k_here; (with_reducible show wpAny _ _ (getMethod (Value.ref _) (Str.ofString "run") _) _ _ _); k_dflt (refine' meth_run ?k1 ?k2 ?k3 ?k4 ?k5 ?k6 ?_; (case k1 => k_asm); (case k2 => k_asm); (case k3 => k_asm); (case k4 => k_mem); (case k6 => assumption); (case k5 => k_mem); k_whole))
  k_with "getAttr ref" => (k_here; (with_reducible show wpAny _ _ (getAttr (Value.ref _) (Str.ofString "kind") _) _ _ _); k_dflt (first | (refine' get_kind_f ?k1 ?k2 ?k3 ?k4 ?k5 ?k6 ?_; (case k1 => k_asm); (case k2 => k_asm); (case k3 => k_asm); (case k6 => assumption); (case k4 => k_mem); (case k5 => k_mem); k_whole) | (refine' get_kind_t ?k1 ?k2 ?k3 ?k4 ?k5 ?k6 ?_; (case k1 => k_asm); (case k2 => k_asm); (case k3 => k_asm); (case k6 => assumption); (case k4 => k_mem); (case k5 => k_mem); k_whole)); intro t')
  k_with "getAttr ref" => (k_here; (with_reducible show wpAny _ _ (getAttr (Value.ref _) (Str.ofString "what") _) _ _ _); k_dflt (refine' get_what_t ?k1 ?k2 ?k3 ?k4 ?k5 ?k6 ?_; (case k1 => k_asm); (case k2 => k_asm); (case k3 => k_asm); (case k6 => assumption); (case k4 => k_mem); (case k5 => k_mem); k_whole); intro t')
  k_with "call type:list" => (k_here; (with_reducible show wpAny _ _ (call (Value.type _) [Value.ref _]) _ _ _); k_dflt (refine' list_regs ?k1 ?k2 ?k3 ?k4 ?_; (case k1 => k_asm); (case k2 => k_asm); (case k3 => k_mem); (case k4 => assumption); k_whole); intro D' oH' h' F' N' l1 hH'; (try k_lt l1); (try k_sweep))
  k_with "compareOp Eq ref ref" => (k_here; k_dflt (refine' eq_regs ?k1 ?k2 ?k3 ?k4 ?k5 ?k6 ?_; (case k1 => k_asm); (case k2 => k_mem); (case k3 => k_mem); (case k4 => assumption); (case k5 => assumption); (case k6 => ktr_units); k_whole))
  trivial
theorem mFR_twice (a b c d : Option Value) (m : Str → Option Value) : mFR a b (mFR c d m) = mFR a b m := by
  funext y
  by_cases h : y = Str.ofString "found"
  · simp only [mFR, if_pos h]
  · by_cases h' : y = Str.ofString "rest"
    · simp only [mFR, if_neg h, if_pos h']
    · simp only [mFR, if_neg h, if_neg h']
theorem Fr.fr2 {g h : Heap} {L : Addr} {a b c d : Option Value} {m : Str → Option Value} (F : Fr g L h (mFR a b (mFR c d m))) : Fr g L h (mFR a b m) := by
  rw [mFR_twice] at F
  exact F
theorem Qret {Q : Flow → Shared → Prop} {b : Bool} {s : Shared} (e : b = true) (h : Q (.ret (.bool true)) s) : Q (.ret (.bool b)) s := e ▸ h
inductive JFR (g : Heap) (L : Addr) (m : Str → Option Value) (led : List (Addr × Obj)) (qv rv : Int) (s : Shared) : Flow → Shared → Prop
  | mk {h' : Heap} {tk' : Nat} {t1 t2 : Tok} (F : Fr g L h' (mFR (some (.int rv t2)) (some (.int qv t1)) m)) (N : News g L h' led) : JFR g L m led qv rv s .next { s with heap := h', toks := tk' }
theorem join_fr {M : Model} {A : Around} {t : Sem Flow} {Q : Flow → Shared → Prop} {E : Value → Shared → Prop} {s : Shared} {g : Heap} {L : Addr} {m : Str → Option Value} {a b : Option Value} {led : List (Addr × Obj)} (qv rv : Int) (F : Fr g L s.heap (mFR a b m)) (N : News g L s.heap led) (h : wpAny M A t (JFR g L m led qv rv s) E s)
    (k : ∀ h' tk' t1 t2, Fr g L h' (mFR (some (.int rv t2)) (some (.int qv t1)) m) → News g L h' led → Q .next { s with heap := h', toks := tk' }) : wpAny M A t Q E s :=
  wpAny_mono h (fun fl s' hj => by cases hj; subst_vars; apply k <;> assumption) fun _ _ x => x
inductive JNx (g : Heap) (L : Addr) (m : Str → Option Value) (led : List (Addr × Obj)) (s : Shared) : Flow → Shared → Prop
  | mk {h' : Heap} {tk' : Nat} (F : Fr g L h' m) (N : News g L h' led) : JNx g L m led s .next { s with heap := h', toks := tk' }
theorem join_nx {M : Model} {A : Around} {t : Sem Flow} {Q : Flow → Shared → Prop} {E : Value → Shared → Prop} {s : Shared} {g : Heap} {L : Addr} {m : Str → Option Value} {led : List (Addr × Obj)} (F : Fr g L s.heap m) (N : News g L s.heap led) (h : wpAny M A t (JNx g L m led s) E s)
    (k : ∀ h' tk', Fr g L h' m → News g L h' led → Q .next { s with heap := h', toks := tk' }) : wpAny M A t Q E s :=
  wpAny_mono h (fun fl s' hj => by cases hj; subst_vars; apply k <;> assumption) fun _ _ x => x
section
theorem zz46 : True := by
  k_with "binaryOp Pow int int" => (k_here; (with_reducible show wpAny _ _ (binaryOp Operator.Pow (Value.int 2 _) (Value.int _ _)) _ _ _); (with_reducible refine pow_n (by assumption) ?_))
  k_with "binaryOp Mod int int" => (k_here; (with_reducible show wpAny _ _ (binaryOp Operator.Mod (Value.int _ _) (Value.int (2 ^ Int.toNat _) _)) _ _ _); (with_reducible refine mod_n ?_))
  k_with "subscriptTail" => (k_here; (with_reducible show wpAny _ _ (subscriptTail _ _ (Value.ref _) (Value.int _ _)) _ _ _); k_dflt (refine' regs_get ?k1 ?k2 ?k3 ?k4 ?k5 ?_ ?k6; (case k1 => k_asm); (case k2 => k_mem); (case k3 => assumption); (case k4 => first | assumption | decide | omega); (case k5 => first | assumption | decide | omega); (case k6 => with_unfolding_all rfl); k_whole); intro t' b0' b1')
  k_with "setItem ref int" => (k_here; (with_reducible show wpAny _ _ (PySem.setItem (Value.ref _) (Value.int _ _) (Value.int _ _)) _ _ _); k_dflt (refine' regs_set ?k1 ?k2 ?k3 ?k4 ?k5 ?k6 ?k7 ?k8 ?_; (case k1 => k_asm); (case k2 => k_asm); (case k3 => k_updF); (case k4 => assumption); (case k5 => first | decide | omega); (case k6 => first | decide | omega); (case k7 => first | decide | assumption | exact (pow_bnd (by assumption)).1); (case k8 => first | decide | assumption | exact (pow_bnd (by assumption)).2); k_whole); intro h' o' F' N' hR'; (try dsimp only at N'); (try k_sweep))
  k_with "call ref" => (k_here; (with_reducible show wpAny _ _ (call (Value.ref 496) [Value.int _ _, Value.int _ _, Value.int _ _, Value.bool _]) _ _ _); k_dflt (refine' lfits_C ?kB ?kF ?kX ?kN ?kT ?kk ?kn ?ko ?kd ?ku ?_; (case kB => k_asm); (case kF => k_asm); (case kX => k_asm); (case kN => k_asm); (case kT => k_asm); (case kk => first | exact rfl | assumption); (case kn => assumption); (case ko => assumption); (case kd => ktr_room); (case ku => ktr_units)); intro h' tk' F' N'; rw [hfit]; (try dsimp only); (try k_sweep); (try k_fold))
  k_with "binaryOp Pow int int" => (k_here; (with_reducible show wpAny _ _ (binaryOp Operator.Pow (Value.int 2 _) (Value.int (_ - 1) _)) _ _ _); (refine pow_n1 (by assumption) ?_))
  k_with "compareOp NotEq ref ref" => (k_here; k_dflt (refine' ne_tup2 ?k1 ?k2 ?k3 ?k4 ?_; (case k1 => k_asm); (case k2 => k_mem); (case k3 => k_mem); (case k4 => ktr_units); k_whole))
  trivial
set_option maxHeartbeats 8000000 in
theorem segF {w : World} {mean : ExcName → Option Value} {mg mb mp : Str → Option Value} {dp un : Nat} {gd : Option (List Code)} {cn : Str} {cs : Scope} {a : Addr} {ccd : Value} {cl : List (Str × Addr)} {outer : List Env} {base g : Heap} {L L' : Addr} {s : Shared} {Q : Flow → Shared → Prop} {E : Value → Shared → Prop}
    {x : Addr} {q rr : Int} {u1 u2 : Tok} {H R M dM o dO RW pl : Addr} {oH oR oD oO oDo : Obj} {restC : List (Addr × Obj)} {vx : Option Value} {n r wh ot pc st : Int} {tn tr tw to : Tok} {sg hs ov : Bool} {hd9 rs2 : List Int}
    (B : Below (ktrTop dp un gd cn cs L a ccd cl outer) base (envX cn cs L a ccd cl :: outer) g) (F : Fr g L' s.heap (fun y => if y = Str.ofString "plainly" then some (.ref x) else if y = Str.ofString "end" then some (.ref o) else if y = Str.ofString "other" then some (.int ot to) else if y = Str.ofString "whole" then some (.int wh tw) else if y = Str.ofString "held" then some (.ref H) else if y = Str.ofString "number" then vx else if y = Str.ofString "regs" then some (.ref R) else if y = Str.ofString "machine" then some (.ref M) else if y = Str.ofString "rows" then some (.ref RW) else if y = Str.ofString "reg" then some (.int r tr) else if y = Str.ofString "size" then some (.int n tn) else if y = Str.ofString "is_signed" then some (.bool sg) else if y = Str.ofString "has_sign_row" then some (.bool hs) else mp y)) (X : (hd.heap_1 w.params).In g) (XE : Ext w g) (N : News g L' s.heap ((x, tupOf [.int q u1, .int rr u2]) :: (o, oO) :: (dO, oDo) :: (M, instObj 445 dM) :: (dM, oD) :: (R, oR) :: (H, oH) :: restC)) (T : Top qv Lo mean mg mb g) (XB : (hd.heap_1 w.params).In base) (EB : Ext w base) (TB : Top qv Lo mean mg mb base)
    (hM : MachD RW R pl pc st ov oD) (hR : RegsAre rs2 oR) (hH : RegsAre hd9 oH) (hn : n = 32 ∨ n = 64) (hr0 : 0 ≤ r) (hr1 : r < 16) (hO : OutIs false dO oO oDo) (G : Good sg n hd9 rs2 wh ot q rr)
    (hE : PassesOwn (model Challenge.rw_ok0167_01.prog w) ((ktrTop dp un gd cn cs L a ccd cl outer).deeper (env510 L')) (env510 L') E) (hdp : dp + 130 ≤ 500) (hun : un + 3400 ≤ 5000)
    (hret : ∀ g' h' tk' m', KtsTurn (frs (envX cn cs L a ccd cl :: outer)) g g' → Fr g' L' h' m' → News g' L' h' restC → Q (.ret (.bool true)) { s with heap := h', toks := tk' }) :
    wpAny (model Challenge.rw_ok0167_01.prog w) ((ktrTop dp un gd cn cs L a ccd cl outer).deeper (env510 L')) (execs (tl510 w 14) (env510 L')) Q E s := by
  have hrl9 : recursionLimit = 1000 := rfl
  have hcl9 : cLine = 9900 := rfl
  have hq0 := G.q0
  have hq2 := G.q2
  subst hq0 hq2
  have hfit := G.fit
  have hb9 : -1180591620717411303424 < ot ∧ ot < 1180591620717411303424 := ⟨by have := G.bot; omega, by have := G.bot; omega⟩
  dsimp only [tl510, bod510, List.drop]
  (repeat' ((fail_if_success (with_reducible show wpAny _ _ (execs (Stmt.Assign [Expr.Tuple [Expr.Name (Str.ofString "found") _, _] _ _] _ _ :: _) _) _ _ _)); (first | (k_unfold; (try dsimp only)) | walk1 | (dsimp only; walk1))))
  (repeat' ((fail_if_success (with_reducible show wpAny _ _ (exec (Stmt.If _ _ _ _) _) _ _ _)); (first | (k_unfold; (try dsimp only)) | walk1 | (dsimp only; walk1))))
  rename Fr _ _ _ _ => F9
  rename News _ _ _ _ => N9
  refine join_nx (led := (o, oO) :: (dO, oDo) :: (M, instObj 445 dM) :: (dM, oD) :: (R, oR) :: (H, oH) :: restC) F9 (cb_drop N9 (by (repeat' (refine fa_cons (by k_mem) ?_)); intro pD hD; repeat (first | exact hD | apply List.Mem.tail))) ?_ ?_
  · k_steps
    all_goals first
      | exact JNx.mk (by assumption) (by ktr_rel)
      | exact absurd (by assumption) (Int.not_le.mpr G.qlt)
      | exact absurd (by assumption) (Int.not_le.mpr G.rlt)
  clear F9 N9
  intro h9 tk9 F9 N9
  (try k_unfold)
  (try dsimp only)
  (repeat' ((fail_if_success (with_reducible show wpAny _ _ (exec (Stmt.If _ _ _ _) _) _ _ _)); (first | (k_unfold; (try dsimp only)) | walk1 | (dsimp only; walk1))))
  refine join_fr (qOf sg n (rs2.getD 0 0)) (qOf sg n (rs2.getD 2 0)) F9 N9 ?_ ?_
  · cases sg
    · k_steps
      exact JFR.mk F9 N9
    · k_steps
      rename Fr _ _ _ _ => F8
      rename News _ _ _ _ => N8
      exact JFR.mk (Fr.fr2 F8) (cb_drop N8 (by (repeat' (refine fa_cons (by k_mem) ?_)); intro pD hD; repeat (first | exact hD | apply List.Mem.tail)))
  clear F9 N9
  have hsum := G.sum
  have hnear := G.near
  have hsign := G.sign
  have hbq := G.bq
  have hbo := G.bot
  have hdue := G.due
  clear G
  generalize qOf sg n (rs2.getD 0 0) = qv at hsum hbq
  generalize qOf sg n (rs2.getD 2 0) = rv at hsum hnear hsign
  intro h9 tk9 t9 u9 F9 N9
  (try k_unfold)
  (try dsimp only)
  (repeat' ((fail_if_success (with_reducible show wpAny _ _ (exec (Stmt.If _ _ _ _) _) _ _ _)); (first | (k_unfold; (try dsimp only)) | walk1 | (dsimp only; walk1))))
  refine join_nx F9 N9 ?_ ?_
  · k_steps
    all_goals first
      | exact JNx.mk (by assumption) (by assumption)
      | exact absurd hsum (by assumption)
      | exact absurd hnear (Int.not_lt.mpr (by assumption))
      | exact absurd (hsign (by assumption)) (bne_iff_ne.mp (by assumption))
  clear F9 N9
  intro h9 tk9 F9 N9
  (try k_unfold)
  (try dsimp only)
  k_steps
  rename Fr _ _ _ _ => F9
  rename News _ _ _ (_ :: _) => N9
  exact Qret (Q := Q) (decide_eq_true hdue) (hret _ _ _ _ KtsTurn.refl F9 (cb_drop N9 (by (repeat' (refine fa_cons (by k_mem) ?_)); intro pD hD; repeat (first | exact hD | apply List.Mem.tail))))
end

-- Cg2
theorem zrCg2 : True := by first | (row_walk; done) | trivial
theorem zz47 : True := by
  k_with_none
  k_with "k_all" => ((intro pA hA; refine neN (Nat.ne_of_lt ?_); refine (by assumption : ∀ p ∈ _, p.1 < _) pA ?_; (repeat (first | exact hA | apply List.Mem.tail)); done))
  k_with "k_all" => (with_reducible assumption)
  k_with "k_upd" => ((first | exact Picks.nil | (refine' Picks.cons ?kuc ?kud; (case kuc => k_upd); (case kud => k_upd)) | (refine' Pick.head ?kua; (case kua => k_all)) | (refine' Pick.tail ?kua ?kub; (case kua => k_ne); (case kub => k_upd)) | (refine' Upd.head ?kua; (case kua => k_all)) | (refine' Upd.tail ?kua ?kub; (case kua => k_ne); (case kub => k_upd))))
  k_with "ktr_rel" => ((refine cb_drop (by assumption) ?_; (repeat' (refine fa_cons (by k_mem) ?_)); first | exact List.forall_mem_nil _ | (intro pD hD; repeat (first | exact hD | apply List.Mem.tail))))
  k_with "compareOp NotEq ref ref" => (k_here; k_dflt (refine' ne_K ?k1 ?k2 ?k3 ?k4 ?k5 ?k6 ?_; (case k1 => k_asm); (case k2 => k_mem); (case k3 => k_mem); (case k4 => l_intsC); (case k5 => l_intsC); (case k6 => ktr_units); k_whole))
  k_with "binaryOp FloorDiv int int" => (k_here; (with_reducible refine floordiv_int ?ke ?_ (Or.inl (noPy ?kp ?kq))); (case ke => first | omega | (split <;> omega)); (case kp => first | omega | (split <;> omega)); (case kq => first | omega | (split <;> omega)))
  k_with "call builtin:list.pop" => (k_here; k_dflt (refine' pop0_K ?k1 ?k2 ?k3 ?k4 ?_; (case k1 => k_asm); (case k2 => k_asm); (case k3 => k_upd); (case k4 => omega); k_whole); intro h' F' N')
  k_with "binaryOp Pow int int" => (k_here; first | (with_reducible refine powL_K 18446744073709551616 ?kb1 ?kb2 ?kb3 ?kb4 ?_; (case kb4 => decide +kernel); (case kb1 => decide); (case kb2 => decide); (case kb3 => decide)) | (with_reducible refine powL_K 9223372036854775808 ?kb1 ?kb2 ?kb3 ?kb4 ?_; (case kb4 => decide +kernel); (case kb1 => decide); (case kb2 => decide); (case kb3 => decide)) | (with_reducible refine powL_K 4294967296 ?kb1 ?kb2 ?kb3 ?kb4 ?_; (case kb4 => decide +kernel); (case kb1 => decide); (case kb2 => decide); (case kb3 => decide)) | (with_reducible refine powL_K 2147483648 ?kb1 ?kb2 ?kb3 ?kb4 ?_; (case kb4 => decide +kernel); (case kb1 => decide); (case kb2 => decide); (case kb3 => decide)) | (with_reducible refine powL_K 340282366920938463463374607431768211456 ?kb1 ?kb2 ?kb3 ?kb4 ?_; (case kb4 => decide +kernel); (case kb1 => decide); (case kb2 => decide); (case kb3 => decide)) | (with_reducible refine powL_K 170141183460469231731687303715884105728 ?kb1 ?kb2 ?kb3 ?kb4 ?_; (case kb4 => decide +kernel); (case kb1 => decide); (case kb2 => decide); (case kb3 => decide)))
  k_with "cell_enter" => ((refine' code_def ?k1 ?k2 ?k3 ?k4 ?k5 ?kA ?kF ?kK ?k6 ?k7 ?k8 ?k9 ?kB ?_ ?c2 ?c3 ?c4 ?c5; (case kA => exact rfl); (case kF => exact rfl); (case kK => first | assumption | exact rfl); (case k1 => k_asm); (case k2 => k_asm); (case k3 => k_asm); (case k4 => k_asm); (case k5 => k_asm); (case k6 => k_is); (case k7 => k_is); (case k8 => ktr_room); (case k9 => first | exact BindsTo.of_eq rfl | exact binds_K (by k_in) rfl (by k_is) rfl rfl rfl); (case c5 => decide); (case kB => exact locs rfl); (case c2 => exact rfl); (case c3 => exact rfl); (case c4 => exact rfl); k_whole; intro g' L' h' FG' F' N' B' X' T'; (try dsimp only); (try k_lift B'); (try k_fold)))
  k_with "ktr_units" => (((try simp only [units_in1, units_deeper, units_under_make, Around.mark_units]); (try dsimp only [ktrTop]); omega))
  k_with "ktr_room" => (((try simp only [depth_mark, depth_under_make, depth_under_kw, depth_in1, depth_deeper]); (try dsimp only [ktrTop]); omega))
  k_with "execs cons" => (k_here; (first | ((with_reducible refine gentok fun tk' => ?_); (with_reducible refine wpAny_execs_cons ?_)) | (with_reducible refine wpAny_execs_cons ?_)); (try dsimp only))
  k_with "execs nil" => (k_here; (refine wpAny_execs_nil ?_))
  k_with "call ref" => (k_here; (with_reducible show wpAny _ _ (call (Value.ref 482) [Value.int _ _, Value.int _ _]) _ _ _); k_dflt (refine' lsign_C ?kB ?kF ?kX ?kN ?kT ?kk ?kn ?kd ?ku ?_; (case kB => k_asm); (case kF => k_asm); (case kX => k_asm); (case kN => k_asm); (case kT => k_asm); (case kk => first | exact rfl | assumption); (case kn => first | omega | decide); (case kd => ktr_room); (case ku => ktr_units)); intro t' h' tk' F' N'; (try dsimp only); (try k_sweep); (try k_fold))
  k_with "compareOp Eq str str" => (k_here; k_dflt (refine' eq_no ?ke ?_; (case ke => with_reducible assumption)))
  k_with "compareOp In str ref" => (k_here; (with_reducible show wpAny _ _ (compareOp CmpOp.In (Value.str _ _) (Value.ref _)) _ _ _); (with_unfolding_all refine' tin_no ?k1 ?k2 ?k3 ?_; (case k1 => exact News.isTup (by k_asm) (by news_mem)); (case k2 => kde_strs); (case k3 => assumption); k_whole))
  k_with "compareOp NotIn str ref" => (k_here; (with_reducible show wpAny _ _ (compareOp CmpOp.NotIn (Value.str _ _) (Value.ref _)) _ _ _); (with_unfolding_all refine' tnot_no ?k1 ?k2 ?k3 ?_; (case k1 => exact News.isTup (by k_asm) (by news_mem)); (case k2 => kde_strs); (case k3 => assumption); k_whole))
  k_with "subscriptTail Name Slice str ref" => (k_here; (with_reducible show wpAny _ _ (subscriptTail _ (Expr.Slice (some _) none none _) _ _) _ _ _); (with_reducible rename Fr _ _ _ _ => F'); (with_reducible rename News _ _ _ _ => N'); (refine slice_strN_sn (hsz := ?hsz) (s := ⟨_, _, _, _, _⟩) F' N' ?_); (case hsz => (rw [sizeLine_eq]; omega)); intro h' t' tk' F' N')
  k_with "subscriptTail Name Slice str ref" => (k_here; (with_reducible show wpAny _ _ (subscriptTail _ (Expr.Slice none (some _) none _) _ _) _ _ _); (with_reducible rename Fr _ _ _ _ => F'); (with_reducible rename News _ _ _ _ => N'); (refine slice_strN_ns (hsz := ?hsz) (s := ⟨_, _, _, _, _⟩) F' N' ?_); (case hsz => (rw [sizeLine_eq]; omega)); intro h' t' tk' F' N')
  k_with "compareOp NotEq str str" => (k_here; k_dflt (refine' ne_yes ?ke ?_; (case ke => with_reducible assumption)))
  k_with "UnrEndW" => (k_here; refine' unrW (off5 (by assumption)) ?uF ?uN ?uI ?us ⟨by k_subL, ?_⟩; (case uF => assumption); (case uN => k_asm); (case uI => ((repeat' (refine fa_cons (by k_mem) ?_)); exact List.forall_mem_nil _)); (case us => ((repeat' (refine fa_cons (by k_mem) ?_)); first | exact List.forall_mem_nil _ | (intro pD hD; repeat (first | exact hD | apply List.Mem.tail)))))
  k_with "UnrEndW" => (k_here; refine' unrW (off1 (by assumption)) ?uF ?uN ?uI ?us ⟨by k_subL, ?_⟩; (case uF => assumption); (case uN => k_asm); (case uI => ((repeat' (refine fa_cons (by k_mem) ?_)); exact List.forall_mem_nil _)); (case us => ((repeat' (refine fa_cons (by k_mem) ?_)); first | exact List.forall_mem_nil _ | (intro pD hD; repeat (first | exact hD | apply List.Mem.tail)))))
  k_with "UnrEnd" => (k_here; refine' unrI ?uo ?uF ?uN ?uI ?us ?_; (case uo => assumption); (case uF => assumption); (case uN => k_asm); (case uI => k_mem); (case us => ((repeat' (refine fa_cons (by k_mem) ?_)); first | exact List.forall_mem_nil _ | (intro pD hD; repeat (first | exact hD | apply List.Mem.tail)))))
  k_with "pyIter ref" => (k_here; (with_reducible show wpAny _ _ (pyIter (Value.ref _)) (fun it s₂ => TurnsAt _ _ _ _ _ _ _ _ _ it s₂) _ _); (rename Fr _ _ _ _ => lF'); (rename News _ _ _ _ => lN'); (with_unfolding_all refine' iter_tupTurns ?h1 lF' lN' ?h2 ?h3 ?h4 ?_; (case h1 => exact rfl); (case h2 => k_mem); (case h3 => exact rfl); (case h4 => exact rfl)); clear lF' lN'; intro i' l1; (try k_lt l1))
  k_with "call ref" => (k_here; (with_reducible show wpAny _ _ (call (Value.ref 350) [Value.ref _, Value.int _ _, Value.int _ _, Value.int _ _]) _ _ _); k_dflt (refine' put4_C ?kB ?kF ?kX ?kN ?k1 ?k2 ?k3 ?kT ?kk ?kM1 ?kM2 ?kR ?ki0 ?ki1 ?kn ?kd ?ku ?_; (case kB => k_asm); (case kF => k_asm); (case kX => k_asm); (case kN => k_asm); (case k1 => k_upd); (case kM1 => first | exact rfl | assumption); (case k2 => k_upd); (case kM2 => first | assumption | exact ⟨_, _, _, _, _, _, _, _, _, _, _, _, _, _, _, _, _, _, _, _, _, _, _, rfl⟩); (case k3 => k_upd); (case kR => assumption); (case kT => k_asm); (case kk => first | exact rfl | assumption); (case ki0 => first | decide | omega); (case ki1 => first | decide | omega); (case kn => first | assumption | omega | decide); (case kd => ktr_room); (case ku => ktr_units)); intro oR' h' tk' F' N' hR'; (try dsimp only); (try k_sweep); (try k_fold))
  k_with "call ref" => (k_here; (with_reducible show wpAny _ _ (call (Value.ref 350) [Value.ref _, Value.int _ _, Value.int _ _]) _ _ _); k_dflt (refine' put3_C ?kB ?kF ?kX ?kN ?k1 ?k2 ?k3 ?kT ?kk ?kM1 ?kM2 ?kR ?ki0 ?ki1 ?kd ?ku ?_; (case kB => k_asm); (case kF => k_asm); (case kX => k_asm); (case kN => k_asm); (case k1 => k_upd); (case kM1 => first | exact rfl | assumption); (case k2 => k_upd); (case kM2 => first | assumption | exact ⟨_, _, _, _, _, _, _, _, _, _, _, _, _, _, _, _, _, _, _, _, _, _, _, rfl⟩); (case k3 => k_upd); (case kR => assumption); (case kT => k_asm); (case kk => first | exact rfl | assumption); (case ki0 => first | decide | omega); (case ki1 => first | decide | omega); (case kd => ktr_room); (case ku => ktr_units)); intro oR' h' tk' F' N' hR'; (try dsimp only); (try k_sweep); (try k_fold))
  k_with "call ref" => (k_here; (with_reducible show wpAny _ _ (call (Value.ref 358) [Value.ref _, Value.int _ _, Value.int _ _]) _ _ _); k_dflt (refine' take_C ?kB ?kF ?kX ?kN ?k1 ?k2 ?k3 ?kT ?kk ?kM1 ?kM2 ?kR ?ki0 ?ki1 ?kn ?kd ?ku ?_; (case kB => k_asm); (case kF => k_asm); (case kX => k_asm); (case kN => k_asm); (case k1 => k_upd); (case kM1 => first | exact rfl | assumption); (case k2 => k_upd); (case kM2 => first | assumption | exact ⟨_, _, _, _, _, _, _, _, _, _, _, _, _, _, _, _, _, _, _, _, _, _, _, rfl⟩); (case k3 => k_upd); (case kR => assumption); (case kT => k_asm); (case kk => first | exact rfl | assumption); (case ki0 => first | decide | omega); (case ki1 => first | decide | omega); (case kn => first | assumption | omega | decide); (case kd => ktr_room); (case ku => ktr_units)); intro t' h' tk' F' N'; (try dsimp only); (try k_sweep); (try k_fold))
  k_with "call ref" => (k_here; (with_reducible show wpAny _ _ (call (Value.ref 461) [Value.ref _, Value.int _ _]) _ _ _); k_dflt (refine' draw_C ?kB ?kF ?kX ?kN ?kPk ?kT ?kk ?kP ?km ?km2 ?kd ?ku ?_; (case kP => assumption); (case kB => k_asm); (case kF => k_asm); (case kX => k_asm); (case kN => k_asm); (case kPk => k_upd); (case kT => k_asm); (case kk => first | exact rfl | assumption); (case km => first | decide | omega); (case km2 => first | decide | omega); (case kd => ktr_room); (case ku => ktr_units)); intro v' t' oP' oL' h' tk' F' N' hP' hlo' hhi'; (try dsimp only); (try k_sweep); (try k_fold))
  k_with "call ref" => (k_here; (with_reducible show wpAny _ _ (call (Value.ref 468) [Value.ref _, Value.ref _]) _ _ _); k_dflt (refine' pick_C ?kB ?kF ?kX ?kN ?kPk ?kT ?kk ?kP ?kI ?km ?km2 ?kd ?ku ?_; (case kP => assumption); (case kB => k_asm); (case kF => k_asm); (case kX => k_asm); (case kN => k_asm); (case kPk => k_upd); (case kT => k_asm); (case kk => first | exact rfl | assumption); (case kI => first | assumption | l_intsW); (case km => first | decide | omega); (case km2 => first | decide | omega); (case kd => ktr_room); (case ku => ktr_units)); intro v' t' oP' oL' h' tk' F' N' hP' hM'; (try dsimp only); (try k_sweep); (try k_fold))
  k_with "ktr_enter" => ((refine' enterX ?k1 ?k2 ?k3 ?kE ?k4 ?k5 ?kXB ?kEB ?kTB ?kA ?kF ?kK ?k6 ?k7 ?k8 ?k9 ?kB ?_ ?c2 ?c3 ?c4 ?c5; (case kA => exact rfl); (case kF => exact rfl); (case kK => assumption); (case k1 => k_asm); (case k2 => k_asm); (case k3 => k_asm); (case kE => k_asm); (case k4 => k_asm); (case k5 => k_asm); (case kXB => k_asm); (case kEB => k_asm); (case kTB => k_asm); (case k6 => k_is); (case k7 => k_is); (case k8 => ktr_room); (case k9 => first | exact BindsTo.of_eq rfl | exact binds_K (by k_in) rfl (by k_is) rfl rfl rfl); (case c5 => decide); (case kB => exact locs rfl); (case c2 => exact rfl); (case c3 => exact rfl); (case c4 => exact rfl); k_whole; intro g' L' h' FG' F' N' B' X' T' E' back'; (try dsimp only); (try k_fold)))
  k_with "leaving ref" => (k_here; (refine' leave_led ?kB ?kF ?kk ?kY ?_; (case kB => k_asm); (case kF => k_asm); (case kY => first | exact Or.inl (by assumption) | exact Or.inr (by assumption)); (case kk => exact rfl); k_whole); intro h' g' T' F' Y' B')
  k_with "exec Raise some none" => (k_here; (refine' raise_K ?kh ?_; (case kh => with_unfolding_all rfl)))
  k_with "call ref" => (k_here; (with_reducible show wpAny _ _ (call (Value.ref 59) [Value.str _ _]) _ _ _); k_dflt (refine' fault_C ?kB ?kF ?kX ?kN ?kT ?kA ?kf ?kK ?kd ?_; (case kA => exact rfl); (case kf => exact rfl); (case kK => first | assumption | exact rfl); (case kB => k_asm); (case kF => k_asm); (case kX => k_asm); (case kN => k_asm); (case kT => k_asm); (case kd => ktr_room)); intro e' dx' t' oe' od' h' tk' F' N' n1' n2' n3' hE'; obtain ⟨⟨sl', hR'⟩, hW'⟩ := hE'; subst hR'; (replace hW' : WhatIs _ _ := (by obtain ⟨q1, q2, t1, t2, t3, n, e⟩ := hW'; exact ⟨q1, q2, t1, t2, t3, n, e⟩)); (have Y' := flyNew_of N' n2' n3'); (try dsimp only); (try k_sweep); (try k_fold))
  k_with "Exists" => (refine ⟨_, _, _, _, rfl, (by k_in), News.get (by k_asm) (by k_mem), ?_⟩)
  k_with "call ref" => (k_here; (with_reducible show wpAny _ _ (call (Value.ref 428) [Value.ref _, Value.ref _]) _ _ _); k_dflt (refine' doAny_X ?kB ?kF ?kX ?kE ?kN ?k1 ?k2 ?k3 ?kT ?kXB ?kEB ?kTB ?kk ?m1 ?m2 ?m3 ?m4 ?kRow ?kK ?kPi ?kM1 ?kM2 ?kR ?kd ?ku (fun oD' oR' h0' h' tk' T' F' B' X' TT' E' N' hM' hR' ok' => ?_) (fun e' dx' od' oD' h0' h' tk' T' F' B' X' TT' E' Y' W' nd' hM' no' => ?_); (case kB => k_asm); (case kF => k_asm); (case kX => k_asm); (case kE => k_asm); (case kN => k_asm); (case k1 => k_upd); (case kM1 => first | exact rfl | assumption); (case k2 => k_upd); (case kM2 => first | assumption | exact ⟨_, _, _, _, _, _, _, _, _, _, _, _, _, _, _, _, _, _, _, _, _, _, _, rfl⟩); (case k3 => k_upd); (case kR => assumption); (case kT => k_asm); (case kXB => k_asm); (case kEB => k_asm); (case kTB => k_asm); (case kk => first | exact rfl | assumption); (case m1 => k_mem); (case kRow => assumption); (case m2 => k_mem); (case m3 => k_mem); (case m4 => k_mem); (case kK => assumption); (case kPi => assumption); (case kd => ktr_room); (case ku => ktr_units)); (all_goals ((try dsimp only); (try k_sweep); (try k_fold))); rotate_left)
  k_with "call ref" => (k_here; (with_reducible show wpAny _ _ (call (Value.ref 435) _) _ _ _); k_dflt (refine' step_X ?kB ?kF ?kX ?kE ?kN ?k1 ?k2 ?k3 ?kT ?kXB ?kEB ?kTB ?kk ?m0 ?m1 ?m2 ?m3 ?m4 ?kget ?klen ?kRow ?kK ?kPi ?kM1 ?kM2 ?kR ?kd ?ku (fun oD' oR' h0' h' tk' T' F' B' X' TT' E' N' hM' hR' ok' => ?_) (fun e' dx' od' oD' h0' h' tk' T' F' B' X' TT' E' Y' W' nd' hM' no' => ?_); (case kB => k_asm); (case kF => k_asm); (case kX => k_asm); (case kE => k_asm); (case kN => k_asm); (case k1 => k_upd); (case kM1 => first | exact rfl | assumption); (case k2 => k_upd); (case kM2 => first | assumption | exact ⟨_, _, _, _, _, _, _, _, _, _, _, _, _, _, _, _, _, _, _, _, _, _, _, rfl⟩); (case k3 => k_upd); (case kR => assumption); (case kT => k_asm); (case kXB => k_asm); (case kEB => k_asm); (case kTB => k_asm); (case kk => first | exact rfl | assumption); (case m0 => k_mem); (case kget => assumption); (case m1 => k_mem); (case kRow => assumption); (case m2 => k_mem); (case m3 => k_mem); (case m4 => k_mem); (case klen => (show _ ≤ 8; omega)); (case kK => assumption); (case kPi => assumption); (case kd => ktr_room); (case ku => ktr_units)); (all_goals ((try dsimp only); (try k_sweep); (try k_fold))); rotate_left)
  k_with "call ref" => (k_here; (with_reducible show wpAny _ _ (call (Value.ref 148) [Value.str _ _, Value.ref _]) _ _ _); k_dflt (refine' row_C ?kB ?kF ?kX ?kN ?kT ?kk ?kd ?ku ?_; (case kB => k_asm); (case kF => k_asm); (case kX => k_asm); (case kN => k_asm); (case kT => k_asm); (case kk => first | exact rfl | assumption); (case kd => ktr_room); (case ku => ktr_units)); intro x' dx' oX' oD' h' tk' F' N' l1 l2 hW'; (try k_lt l1); (try k_lt2 l2); (try dsimp only); (try k_sweep); (try k_fold))
  k_with "getAttr ref" => (k_here; (with_reducible show wpAny _ _ (getAttr (Value.ref _) (Str.ofString "regs") _) _ _ _); k_dflt (refine' get_regs ?k1 ?k2 ?k3 ?k4 ?k5 ?k6 ?_; (case k1 => k_asm); (case k2 => k_asm); (case k3 => k_asm); (case k4 => k_mem); (case k6 => assumption); (case k5 => k_mem); k_whole))
  k_with "getMethod ref" => (k_here; (with_reducible show wpAny _ _ (getMethod (Value.ref _) (Str.ofString "run") _) _ _ _); k_dflt (refine' meth_run ?k1 ?k2 ?k3 ?k4 ?k5 ?k6 ?_; (case k1 => k_asm); (case k2 => k_asm); (case k3 => k_asm); (case k4 => k_mem); (case k6 => assumption); (case k5 => k_mem); k_whole))
  k_with "getAttr ref" => (k_here; (with_reducible show wpAny _ _ (getAttr (Value.ref _) (Str.ofString "kind") _) _ _ _); k_dflt (first | (refine' get_kind_f ?k1 ?k2 ?k3 ?k4 ?k5 ?k6 ?_; (case k1 => k_asm); (case k2 => k_asm); (case k3 => k_asm); (case k6 => assumption); (case k4 => k_mem); (case k5 => k_mem); k_whole) | (refine' get_kind_t ?k1 ?k2 ?k3 ?k4 ?k5 ?k6 ?_; (case k1 => k_asm); (case k2 => k_asm); (case k3 => k_asm); (case k6 => assumption); (case k4 => k_mem); (case k5 => k_mem); k_whole)); intro t')
  k_with "getAttr ref" => (k_here; (with_reducible show wpAny _ _ (getAttr (Value.ref _) (Str.ofString "what") _) _ _ _); k_dflt (refine' get_what_t ?k1 ?k2 ?k3 ?k4 ?k5 ?k6 ?_; (case k1 => k_asm); (case k2 => k_asm); (case k3 => k_asm); (case k6 => assumption); (case k4 => k_mem); (case k5 => k_mem); k_whole); intro t')
  k_with "call type:list" => (k_here; (with_reducible show wpAny _ _ (call (Value.type _) [Value.ref _]) _ _ _); k_dflt (refine' list_regs ?k1 ?k2 ?k3 ?k4 ?_; (case k1 => k_asm); (case k2 => k_asm); (case k3 => k_mem); (case k4 => assumption); k_whole); intro D' oH' h' F' N' l1 hH'; (try k_lt l1); (try k_sweep))
  k_with "compareOp Eq ref ref" => (k_here; k_dflt (refine' eq_regs ?k1 ?k2 ?k3 ?k4 ?k5 ?k6 ?_; (case k1 => k_asm); (case k2 => k_mem); (case k3 => k_mem); (case k4 => assumption); (case k5 => assumption); (case k6 => ktr_units); k_whole))
  trivial
theorem kn2 {hs sg : Bool} {n r wh ot : Int} (h : hs = false ∨ sg = false ∨ r = 2 ∨ ot = 0 ∨ (wh = -2 ^ (n - 1).toNat ∧ ot = -1)) (a : hs = true) (b : sg = true) (c : r ≠ 2) (d : ot ≠ 0) : wh = -2 ^ (n - 1).toNat ∧ ot = -1 := by
  rcases h with h | h | h | h | h
  · rw [a] at h; cases h
  · rw [b] at h; cases h
  · exact absurd h c
  · exact absurd h d
  · exact h
section
theorem zz48 : True := by
  k_with "binaryOp Pow int int" => (k_here; (with_reducible show wpAny _ _ (binaryOp Operator.Pow (Value.int 2 _) (Value.int _ _)) _ _ _); (with_reducible refine pow_n (by assumption) ?_))
  k_with "binaryOp Mod int int" => (k_here; (with_reducible show wpAny _ _ (binaryOp Operator.Mod (Value.int _ _) (Value.int (2 ^ Int.toNat _) _)) _ _ _); (with_reducible refine mod_n ?_))
  k_with "subscriptTail" => (k_here; (with_reducible show wpAny _ _ (subscriptTail _ _ (Value.ref _) (Value.int _ _)) _ _ _); k_dflt (refine' regs_get ?k1 ?k2 ?k3 ?k4 ?k5 ?_ ?k6; (case k1 => k_asm); (case k2 => k_mem); (case k3 => assumption); (case k4 => first | assumption | decide | omega); (case k5 => first | assumption | decide | omega); (case k6 => with_unfolding_all rfl); k_whole); intro t' b0' b1')
  k_with "setItem ref int" => (k_here; (with_reducible show wpAny _ _ (PySem.setItem (Value.ref _) (Value.int _ _) (Value.int _ _)) _ _ _); k_dflt (refine' regs_set ?k1 ?k2 ?k3 ?k4 ?k5 ?k6 ?k7 ?k8 ?_; (case k1 => k_asm); (case k2 => k_asm); (case k3 => k_updF); (case k4 => assumption); (case k5 => first | decide | omega); (case k6 => first | decide | omega); (case k7 => first | decide | assumption | exact (pow_bnd (by assumption)).1); (case k8 => first | decide | assumption | exact (pow_bnd (by assumption)).2); k_whole); intro h' o' F' N' hR'; (try dsimp only at N'); (try k_sweep))
  k_with "call ref" => (k_here; (with_reducible show wpAny _ _ (call (Value.ref 496) [Value.int _ _, Value.int _ _, Value.int _ _, Value.bool _]) _ _ _); k_dflt (refine' lfits_C ?kB ?kF ?kX ?kN ?kT ?kk ?kn ?ko ?kd ?ku ?_; (case kB => k_asm); (case kF => k_asm); (case kX => k_asm); (case kN => k_asm); (case kT => k_asm); (case kk => first | exact rfl | assumption); (case kn => assumption); (case ko => assumption); (case kd => ktr_room); (case ku => ktr_units)); intro h' tk' F' N'; rw [hfit]; (try dsimp only); (try k_sweep); (try k_fold))
  k_with "binaryOp Pow int int" => (k_here; (with_reducible show wpAny _ _ (binaryOp Operator.Pow (Value.int 2 _) (Value.int (_ - 1) _)) _ _ _); (refine pow_n1 (by assumption) ?_))
  k_with "compareOp Eq ref ref" => (k_here; k_dflt (refine' eq_tup3 ?k1 ?k2 ?k3 ?k4 ?k5 ?k6 ?k7 ?sa ?sb ?k8 ?_; (case k1 => k_asm); (case k2 => k_mem); (case k3 => k_mem); (case k4 => k_mem); (case k5 => k_mem); (case k6 => assumption); (case k7 => assumption); (case sa => decide +kernel); (case sb => decide +kernel); (case k8 => ktr_units); k_whole))
  trivial
set_option maxHeartbeats 8000000 in
theorem segG {w : World} {mean : ExcName → Option Value} {mg mb mp : Str → Option Value} {dp un : Nat} {gd : Option (List Code)} {cn : Str} {cs : Scope} {a : Addr} {ccd : Value} {cl : List (Str × Addr)} {outer : List Env} {base g : Heap} {L L' : Addr} {s : Shared} {Q : Flow → Shared → Prop} {E : Value → Shared → Prop}
    {H R M dM o dO RW pl : Addr} {oH oR oD oO oDo : Obj} {restC : List (Addr × Obj)} {vx : Option Value} {n r wh ot pc st : Int} {tn tr tw to : Tok} {sg hs ov : Bool} {hd9 rs2 : List Int}
    (B : Below (ktrTop dp un gd cn cs L a ccd cl outer) base (envX cn cs L a ccd cl :: outer) g) (F : Fr g L' s.heap (fun y => if y = Str.ofString "plainly" then some (.none) else if y = Str.ofString "end" then some (.ref o) else if y = Str.ofString "other" then some (.int ot to) else if y = Str.ofString "whole" then some (.int wh tw) else if y = Str.ofString "held" then some (.ref H) else if y = Str.ofString "number" then vx else if y = Str.ofString "regs" then some (.ref R) else if y = Str.ofString "machine" then some (.ref M) else if y = Str.ofString "rows" then some (.ref RW) else if y = Str.ofString "reg" then some (.int r tr) else if y = Str.ofString "size" then some (.int n tn) else if y = Str.ofString "is_signed" then some (.bool sg) else if y = Str.ofString "has_sign_row" then some (.bool hs) else mp y)) (X : (hd.heap_1 w.params).In g) (XE : Ext w g) (N : News g L' s.heap ((o, oO) :: (dO, oDo) :: (M, instObj 445 dM) :: (dM, oD) :: (R, oR) :: (H, oH) :: restC)) (T : Top qv Lo mean mg mb g) (XB : (hd.heap_1 w.params).In base) (EB : Ext w base) (TB : Top qv Lo mean mg mb base)
    (hM : MachD RW R pl pc st ov oD) (hR : RegsAre rs2 oR) (hH : RegsAre hd9 oH) (hn : n = 32 ∨ n = 64) (hr0 : 0 ≤ r) (hr1 : r < 16) (hO : OutIs true dO oO oDo) (hrs : rs2 = hd9) (G : Bad hs sg n r wh ot)
    (hE : PassesOwn (model Challenge.rw_ok0167_01.prog w) ((ktrTop dp un gd cn cs L a ccd cl outer).deeper (env510 L')) (env510 L') E) (hdp : dp + 130 ≤ 500) (hun : un + 3400 ≤ 5000)
    (hret : ∀ g' h' tk' m', KtsTurn (frs (envX cn cs L a ccd cl :: outer)) g g' → Fr g' L' h' m' → News g' L' h' restC → Q (.ret (.bool true)) { s with heap := h', toks := tk' }) :
    wpAny (model Challenge.rw_ok0167_01.prog w) ((ktrTop dp un gd cn cs L a ccd cl outer).deeper (env510 L')) (execs (tl510 w 14) (env510 L')) Q E s := by
  have hrl9 : recursionLimit = 1000 := rfl
  have hcl9 : cLine = 9900 := rfl
  subst hrs
  have hfit := G.fit
  have hkn := G.known
  have hb9 : -1180591620717411303424 < ot ∧ ot < 1180591620717411303424 := ⟨by have := G.bot; omega, by have := G.bot; omega⟩
  clear G
  dsimp only [tl510, bod510, List.drop]
  (repeat' ((fail_if_success (with_reducible show wpAny _ _ (execs (Stmt.Assign [Expr.Name (Str.ofString "is_known") _] _ _ :: _) _) _ _ _)); (first | (k_unfold; (try dsimp only)) | walk1 | (dsimp only; walk1))))
  (repeat' ((fail_if_success (with_reducible show wpAny _ _ (eval (Expr.BoolOp _ _ _) _) _ _ _)); (first | (k_unfold; (try dsimp only)) | walk1 | (dsimp only; walk1))))
  rename Fr _ _ _ _ => F9
  rename News _ _ _ _ => N9
  refine join_val (fun v => v = .bool true) F9 N9 ?_ ?_
  · k_steps
    all_goals first
      | exact JVal.mk rfl (by assumption) (by assumption)
      | (rename hs = false => z; exact JVal.mk (congrArg Value.bool (by rw [z]; rfl)) (by assumption) (by assumption))
      | (rename sg = false => z; exact JVal.mk (congrArg Value.bool (by rw [z]; rfl)) (by assumption) (by assumption))
      | (rename r = 2 => z; exact JVal.mk (congrArg Value.bool (by rw [z]; rfl)) (by assumption) (by assumption))
      | (rename ot = 0 => z; exact JVal.mk (congrArg Value.bool (by rw [z]; rfl)) (by assumption) (by assumption))
      | (have z := kn2 hkn (by assumption) (by assumption) (by assumption) (by assumption); first | exact absurd z.1 (by assumption) | exact JVal.mk (congrArg Value.bool (by rw [z.2]; rfl)) (by assumption) (by assumption))
  rintro v9 h9 tk9 rfl F' N'
  clear F9 N9
  (try dsimp only)
  k_steps
  rename Fr _ _ _ _ => F9
  rename News _ _ _ (_ :: _) => N9
  exact hret _ _ _ _ KtsTurn.refl F9 (cb_drop N9 (by (repeat' (refine fa_cons (by k_mem) ?_)); intro pD hD; repeat (first | exact hD | apply List.Mem.tail)))
end

-- Ce
theorem zrCe : True := by first | (row_walk; done) | trivial
section
theorem zz49 : True := by
  k_with_none
  k_with "k_all" => ((intro pA hA; refine neN (Nat.ne_of_lt ?_); refine (by assumption : ∀ p ∈ _, p.1 < _) pA ?_; (repeat (first | exact hA | apply List.Mem.tail)); done))
  k_with "k_all" => (with_reducible assumption)
  k_with "k_upd" => ((first | exact Picks.nil | (refine' Picks.cons ?kuc ?kud; (case kuc => k_upd); (case kud => k_upd)) | (refine' Pick.head ?kua; (case kua => k_all)) | (refine' Pick.tail ?kua ?kub; (case kua => k_ne); (case kub => k_upd)) | (refine' Upd.head ?kua; (case kua => k_all)) | (refine' Upd.tail ?kua ?kub; (case kua => k_ne); (case kub => k_upd))))
  k_with "ktr_rel" => ((refine cb_drop (by assumption) ?_; (repeat' (refine fa_cons (by k_mem) ?_)); first | exact List.forall_mem_nil _ | (intro pD hD; repeat (first | exact hD | apply List.Mem.tail))))
  k_with "compareOp NotEq ref ref" => (k_here; k_dflt (refine' ne_K ?k1 ?k2 ?k3 ?k4 ?k5 ?k6 ?_; (case k1 => k_asm); (case k2 => k_mem); (case k3 => k_mem); (case k4 => l_intsC); (case k5 => l_intsC); (case k6 => ktr_units); k_whole))
  k_with "binaryOp FloorDiv int int" => (k_here; (with_reducible refine floordiv_int ?ke ?_ (Or.inl (noPy ?kp ?kq))); (case ke => first | omega | (split <;> omega)); (case kp => first | omega | (split <;> omega)); (case kq => first | omega | (split <;> omega)))
  k_with "call builtin:list.pop" => (k_here; k_dflt (refine' pop0_K ?k1 ?k2 ?k3 ?k4 ?_; (case k1 => k_asm); (case k2 => k_asm); (case k3 => k_upd); (case k4 => omega); k_whole); intro h' F' N')
  k_with "binaryOp Pow int int" => (k_here; first | (with_reducible refine powL_K 18446744073709551616 ?kb1 ?kb2 ?kb3 ?kb4 ?_; (case kb4 => decide +kernel); (case kb1 => decide); (case kb2 => decide); (case kb3 => decide)) | (with_reducible refine powL_K 9223372036854775808 ?kb1 ?kb2 ?kb3 ?kb4 ?_; (case kb4 => decide +kernel); (case kb1 => decide); (case kb2 => decide); (case kb3 => decide)) | (with_reducible refine powL_K 4294967296 ?kb1 ?kb2 ?kb3 ?kb4 ?_; (case kb4 => decide +kernel); (case kb1 => decide); (case kb2 => decide); (case kb3 => decide)) | (with_reducible refine powL_K 2147483648 ?kb1 ?kb2 ?kb3 ?kb4 ?_; (case kb4 => decide +kernel); (case kb1 => decide); (case kb2 => decide); (case kb3 => decide)) | (with_reducible refine powL_K 340282366920938463463374607431768211456 ?kb1 ?kb2 ?kb3 ?kb4 ?_; (case kb4 => decide +kernel); (case kb1 => decide); (case kb2 => decide); (case kb3 => decide)) | (with_reducible refine powL_K 170141183460469231731687303715884105728 ?kb1 ?kb2 ?kb3 ?kb4 ?_; (case kb4 => decide +kernel); (case kb1 => decide); (case kb2 => decide); (case kb3 => decide)))
  k_with "cell_enter" => ((refine' code_def ?k1 ?k2 ?k3 ?k4 ?k5 ?kA ?kF ?kK ?k6 ?k7 ?k8 ?k9 ?kB ?_ ?c2 ?c3 ?c4 ?c5; (case kA => exact rfl); (case kF => exact rfl); (case kK => first | assumption | exact rfl); (case k1 => k_asm); (case k2 => k_asm); (case k3 => k_asm); (case k4 => k_asm); (case k5 => k_asm); (case k6 => k_is); (case k7 => k_is); (case k8 => ktr_room); (case k9 => first | exact BindsTo.of_eq rfl | exact binds_K (by k_in) rfl (by k_is) rfl rfl rfl); (case c5 => decide); (case kB => exact locs rfl); (case c2 => exact rfl); (case c3 => exact rfl); (case c4 => exact rfl); k_whole; intro g' L' h' FG' F' N' B' X' T'; (try dsimp only); (try k_lift B'); (try k_fold)))
  k_with "ktr_units" => (((try simp only [units_in1, units_deeper, units_under_make, Around.mark_units]); (try dsimp only [ktrTop]); omega))
  k_with "ktr_room" => (((try simp only [depth_mark, depth_under_make, depth_under_kw, depth_in1, depth_deeper]); (try dsimp only [ktrTop]); omega))
  k_with "execs cons" => (k_here; (first | ((with_reducible refine gentok fun tk' => ?_); (with_reducible refine wpAny_execs_cons ?_)) | (with_reducible refine wpAny_execs_cons ?_)); (try dsimp only))
  k_with "execs nil" => (k_here; (refine wpAny_execs_nil ?_))
  k_with "call ref" => (k_here; (with_reducible show wpAny _ _ (call (Value.ref 482) [Value.int _ _, Value.int _ _]) _ _ _); k_dflt (refine' lsign_C ?kB ?kF ?kX ?kN ?kT ?kk ?kn ?kd ?ku ?_; (case kB => k_asm); (case kF => k_asm); (case kX => k_asm); (case kN => k_asm); (case kT => k_asm); (case kk => first | exact rfl | assumption); (case kn => first | omega | decide); (case kd => ktr_room); (case ku => ktr_units)); intro t' h' tk' F' N'; (try dsimp only); (try k_sweep); (try k_fold))
  k_with "compareOp Eq str str" => (k_here; k_dflt (refine' eq_no ?ke ?_; (case ke => with_reducible assumption)))
  k_with "compareOp In str ref" => (k_here; (with_reducible show wpAny _ _ (compareOp CmpOp.In (Value.str _ _) (Value.ref _)) _ _ _); (with_unfolding_all refine' tin_no ?k1 ?k2 ?k3 ?_; (case k1 => exact News.isTup (by k_asm) (by news_mem)); (case k2 => kde_strs); (case k3 => assumption); k_whole))
  k_with "compareOp NotIn str ref" => (k_here; (with_reducible show wpAny _ _ (compareOp CmpOp.NotIn (Value.str _ _) (Value.ref _)) _ _ _); (with_unfolding_all refine' tnot_no ?k1 ?k2 ?k3 ?_; (case k1 => exact News.isTup (by k_asm) (by news_mem)); (case k2 => kde_strs); (case k3 => assumption); k_whole))
  k_with "subscriptTail Name Slice str ref" => (k_here; (with_reducible show wpAny _ _ (subscriptTail _ (Expr.Slice (some _) none none _) _ _) _ _ _); (with_reducible rename Fr _ _ _ _ => F'); (with_reducible rename News _ _ _ _ => N'); (refine slice_strN_sn (hsz := ?hsz) (s := ⟨_, _, _, _, _⟩) F' N' ?_); (case hsz => (rw [sizeLine_eq]; omega)); intro h' t' tk' F' N')
  k_with "subscriptTail Name Slice str ref" => (k_here; (with_reducible show wpAny _ _ (subscriptTail _ (Expr.Slice none (some _) none _) _ _) _ _ _); (with_reducible rename Fr _ _ _ _ => F'); (with_reducible rename News _ _ _ _ => N'); (refine slice_strN_ns (hsz := ?hsz) (s := ⟨_, _, _, _, _⟩) F' N' ?_); (case hsz => (rw [sizeLine_eq]; omega)); intro h' t' tk' F' N')
  k_with "compareOp NotEq str str" => (k_here; k_dflt (refine' ne_yes ?ke ?_; (case ke => with_reducible assumption)))
  k_with "UnrEndW" => (k_here; refine' unrW (off5 (by assumption)) ?uF ?uN ?uI ?us ⟨by k_subL, ?_⟩; (case uF => assumption); (case uN => k_asm); (case uI => ((repeat' (refine fa_cons (by k_mem) ?_)); exact List.forall_mem_nil _)); (case us => ((repeat' (refine fa_cons (by k_mem) ?_)); first | exact List.forall_mem_nil _ | (intro pD hD; repeat (first | exact hD | apply List.Mem.tail)))))
  k_with "UnrEndW" => (k_here; refine' unrW (off1 (by assumption)) ?uF ?uN ?uI ?us ⟨by k_subL, ?_⟩; (case uF => assumption); (case uN => k_asm); (case uI => ((repeat' (refine fa_cons (by k_mem) ?_)); exact List.forall_mem_nil _)); (case us => ((repeat' (refine fa_cons (by k_mem) ?_)); first | exact List.forall_mem_nil _ | (intro pD hD; repeat (first | exact hD | apply List.Mem.tail)))))
  k_with "UnrEnd" => (k_here; refine' unrI ?uo ?uF ?uN ?uI ?us ?_; (case uo => assumption); (case uF => assumption); (case uN => k_asm); (case uI => k_mem); (case us => ((repeat' (refine fa_cons (by k_mem) ?_)); first | exact List.forall_mem_nil _ | (intro pD hD; repeat (first | exact hD | apply List.Mem.tail)))))
  k_with "pyIter ref" => (k_here; (with_reducible show wpAny _ _ (pyIter (Value.ref _)) (fun it s₂ => TurnsAt _ _ _ _ _ _ _ _ _ it s₂) _ _); (rename Fr _ _ _ _ => lF'); (rename News _ _ _ _ => lN'); (with_unfolding_all refine' iter_tupTurns ?h1 lF' lN' ?h2 ?h3 ?h4 ?_; (case h1 => exact rfl); (case h2 => k_mem); (case h3 => exact rfl); (case h4 => exact rfl)); clear lF' lN'; intro i' l1; (try k_lt l1))
  k_with "call ref" => (k_here; (with_reducible show wpAny _ _ (call (Value.ref 350) [Value.ref _, Value.int _ _, Value.int _ _, Value.int _ _]) _ _ _); k_dflt (refine' put4_C ?kB ?kF ?kX ?kN ?k1 ?k2 ?k3 ?kT ?kk ?kM1 ?kM2 ?kR ?ki0 ?ki1 ?kn ?kd ?ku ?_; (case kB => k_asm); (case kF => k_asm); (case kX => k_asm); (case kN => k_asm); (case k1 => k_upd); (case kM1 => first | exact rfl | assumption); (case k2 => k_upd); (case kM2 => first | assumption | exact ⟨_, _, _, _, _, _, _, _, _, _, _, _, _, _, _, _, _, _, _, _, _, _, _, rfl⟩); (case k3 => k_upd); (case kR => assumption); (case kT => k_asm); (case kk => first | exact rfl | assumption); (case ki0 => first | decide | omega); (case ki1 => first | decide | omega); (case kn => first | assumption | omega | decide); (case kd => ktr_room); (case ku => ktr_units)); intro oR' h' tk' F' N' hR'; (try dsimp only); (try k_sweep); (try k_fold))
  k_with "call ref" => (k_here; (with_reducible show wpAny _ _ (call (Value.ref 350) [Value.ref _, Value.int _ _, Value.int _ _]) _ _ _); k_dflt (refine' put3_C ?kB ?kF ?kX ?kN ?k1 ?k2 ?k3 ?kT ?kk ?kM1 ?kM2 ?kR ?ki0 ?ki1 ?kd ?ku ?_; (case kB => k_asm); (case kF => k_asm); (case kX => k_asm); (case kN => k_asm); (case k1 => k_upd); (case kM1 => first | exact rfl | assumption); (case k2 => k_upd); (case kM2 => first | assumption | exact ⟨_, _, _, _, _, _, _, _, _, _, _, _, _, _, _, _, _, _, _, _, _, _, _, rfl⟩); (case k3 => k_upd); (case kR => assumption); (case kT => k_asm); (case kk => first | exact rfl | assumption); (case ki0 => first | decide | omega); (case ki1 => first | decide | omega); (case kd => ktr_room); (case ku => ktr_units)); intro oR' h' tk' F' N' hR'; (try dsimp only); (try k_sweep); (try k_fold))
  k_with "call ref" => (k_here; (with_reducible show wpAny _ _ (call (Value.ref 358) [Value.ref _, Value.int _ _, Value.int _ _]) _ _ _); k_dflt (refine' take_C ?kB ?kF ?kX ?kN ?k1 ?k2 ?k3 ?kT ?kk ?kM1 ?kM2 ?kR ?ki0 ?ki1 ?kn ?kd ?ku ?_; (case kB => k_asm); (case kF => k_asm); (case kX => k_asm); (case kN => k_asm); (case k1 => k_upd); (case kM1 => first | exact rfl | assumption); (case k2 => k_upd); (case kM2 => first | assumption | exact ⟨_, _, _, _, _, _, _, _, _, _, _, _, _, _, _, _, _, _, _, _, _, _, _, rfl⟩); (case k3 => k_upd); (case kR => assumption); (case kT => k_asm); (case kk => first | exact rfl | assumption); (case ki0 => first | decide | omega); (case ki1 => first | decide | omega); (case kn => first | assumption | omega | decide); (case kd => ktr_room); (case ku => ktr_units)); intro t' h' tk' F' N'; (try dsimp only); (try k_sweep); (try k_fold))
  k_with "call ref" => (k_here; (with_reducible show wpAny _ _ (call (Value.ref 461) [Value.ref _, Value.int _ _]) _ _ _); k_dflt (refine' draw_C ?kB ?kF ?kX ?kN ?kPk ?kT ?kk ?kP ?km ?km2 ?kd ?ku ?_; (case kP => assumption); (case kB => k_asm); (case kF => k_asm); (case kX => k_asm); (case kN => k_asm); (case kPk => k_upd); (case kT => k_asm); (case kk => first | exact rfl | assumption); (case km => first | decide | omega); (case km2 => first | decide | omega); (case kd => ktr_room); (case ku => ktr_units)); intro v' t' oP' oL' h' tk' F' N' hP' hlo' hhi'; (try dsimp only); (try k_sweep); (try k_fold))
  k_with "call ref" => (k_here; (with_reducible show wpAny _ _ (call (Value.ref 468) [Value.ref _, Value.ref _]) _ _ _); k_dflt (refine' pick_C ?kB ?kF ?kX ?kN ?kPk ?kT ?kk ?kP ?kI ?km ?km2 ?kd ?ku ?_; (case kP => assumption); (case kB => k_asm); (case kF => k_asm); (case kX => k_asm); (case kN => k_asm); (case kPk => k_upd); (case kT => k_asm); (case kk => first | exact rfl | assumption); (case kI => first | assumption | l_intsW); (case km => first | decide | omega); (case km2 => first | decide | omega); (case kd => ktr_room); (case ku => ktr_units)); intro v' t' oP' oL' h' tk' F' N' hP' hM'; (try dsimp only); (try k_sweep); (try k_fold))
  k_with "ktr_enter" => ((refine' enterX ?k1 ?k2 ?k3 ?kE ?k4 ?k5 ?kXB ?kEB ?kTB ?kA ?kF ?kK ?k6 ?k7 ?k8 ?k9 ?kB ?_ ?c2 ?c3 ?c4 ?c5; (case kA => exact rfl); (case kF => exact rfl); (case kK => assumption); (case k1 => k_asm); (case k2 => k_asm); (case k3 => k_asm); (case kE => k_asm); (case k4 => k_asm); (case k5 => k_asm); (case kXB => k_asm); (case kEB => k_asm); (case kTB => k_asm); (case k6 => k_is); (case k7 => k_is); (case k8 => ktr_room); (case k9 => first | exact BindsTo.of_eq rfl | exact binds_K (by k_in) rfl (by k_is) rfl rfl rfl); (case c5 => decide); (case kB => exact locs rfl); (case c2 => exact rfl); (case c3 => exact rfl); (case c4 => exact rfl); k_whole; intro g' L' h' FG' F' N' B' X' T' E' back'; (try dsimp only); (try k_fold)))
  k_with "leaving ref" => (k_here; (refine' leave_led ?kB ?kF ?kk ?kY ?_; (case kB => k_asm); (case kF => k_asm); (case kY => first | exact Or.inl (by assumption) | exact Or.inr (by assumption)); (case kk => exact rfl); k_whole); intro h' g' T' F' Y' B')
  k_with "exec Raise some none" => (k_here; (refine' raise_K ?kh ?_; (case kh => with_unfolding_all rfl)))
  k_with "call ref" => (k_here; (with_reducible show wpAny _ _ (call (Value.ref 59) [Value.str _ _]) _ _ _); k_dflt (refine' fault_C ?kB ?kF ?kX ?kN ?kT ?kA ?kf ?kK ?kd ?_; (case kA => exact rfl); (case kf => exact rfl); (case kK => first | assumption | exact rfl); (case kB => k_asm); (case kF => k_asm); (case kX => k_asm); (case kN => k_asm); (case kT => k_asm); (case kd => ktr_room)); intro e' dx' t' oe' od' h' tk' F' N' n1' n2' n3' hE'; obtain ⟨⟨sl', hR'⟩, hW'⟩ := hE'; subst hR'; (replace hW' : WhatIs _ _ := (by obtain ⟨q1, q2, t1, t2, t3, n, e⟩ := hW'; exact ⟨q1, q2, t1, t2, t3, n, e⟩)); (have Y' := flyNew_of N' n2' n3'); (try dsimp only); (try k_sweep); (try k_fold))
  k_with "Exists" => (refine ⟨_, _, _, _, rfl, (by k_in), News.get (by k_asm) (by k_mem), ?_⟩)
  k_with "call ref" => (k_here; (with_reducible show wpAny _ _ (call (Value.ref 428) [Value.ref _, Value.ref _]) _ _ _); k_dflt (refine' doAny_X ?kB ?kF ?kX ?kE ?kN ?k1 ?k2 ?k3 ?kT ?kXB ?kEB ?kTB ?kk ?m1 ?m2 ?m3 ?m4 ?kRow ?kK ?kPi ?kM1 ?kM2 ?kR ?kd ?ku (fun oD' oR' h0' h' tk' T' F' B' X' TT' E' N' hM' hR' ok' => ?_) (fun e' dx' od' oD' h0' h' tk' T' F' B' X' TT' E' Y' W' nd' hM' no' => ?_); (case kB => k_asm); (case kF => k_asm); (case kX => k_asm); (case kE => k_asm); (case kN => k_asm); (case k1 => k_upd); (case kM1 => first | exact rfl | assumption); (case k2 => k_upd); (case kM2 => first | assumption | exact ⟨_, _, _, _, _, _, _, _, _, _, _, _, _, _, _, _, _, _, _, _, _, _, _, rfl⟩); (case k3 => k_upd); (case kR => assumption); (case kT => k_asm); (case kXB => k_asm); (case kEB => k_asm); (case kTB => k_asm); (case kk => first | exact rfl | assumption); (case m1 => k_mem); (case kRow => assumption); (case m2 => k_mem); (case m3 => k_mem); (case m4 => k_mem); (case kK => assumption); (case kPi => assumption); (case kd => ktr_room); (case ku => ktr_units)); (all_goals ((try dsimp only); (try k_sweep); (try k_fold))); rotate_left)
  k_with "call ref" => (k_here; (with_reducible show wpAny _ _ (call (Value.ref 435) _) _ _ _); k_dflt (refine' step_X ?kB ?kF ?kX ?kE ?kN ?k1 ?k2 ?k3 ?kT ?kXB ?kEB ?kTB ?kk ?m0 ?m1 ?m2 ?m3 ?m4 ?kget ?klen ?kRow ?kK ?kPi ?kM1 ?kM2 ?kR ?kd ?ku (fun oD' oR' h0' h' tk' T' F' B' X' TT' E' N' hM' hR' ok' => ?_) (fun e' dx' od' oD' h0' h' tk' T' F' B' X' TT' E' Y' W' nd' hM' no' => ?_); (case kB => k_asm); (case kF => k_asm); (case kX => k_asm); (case kE => k_asm); (case kN => k_asm); (case k1 => k_upd); (case kM1 => first | exact rfl | assumption); (case k2 => k_upd); (case kM2 => first | assumption | exact ⟨_, _, _, _, _, _, _, _, _, _, _, _, _, _, _, _, _, _, _, _, _, _, _, rfl⟩); (case k3 => k_upd); (case kR => assumption); (case kT => k_asm); (case kXB => k_asm); (case kEB => k_asm); (case kTB => k_asm); (case kk => first | exact rfl | assumption); (case m0 => k_mem); (case kget => assumption); (case m1 => k_mem); (case kRow => assumption); (case m2 => k_mem); (case m3 => k_mem); (case m4 => k_mem); (case klen => (show _ ≤ 8; omega)); (case kK => assumption); (case kPi => assumption); (case kd => ktr_room); (case ku => ktr_units)); (all_goals ((try dsimp only); (try k_sweep); (try k_fold))); rotate_left)
  k_with "call ref" => (k_here; (with_reducible show wpAny _ _ (call (Value.ref 148) [Value.str _ _, Value.ref _]) _ _ _); k_dflt (refine' row_C ?kB ?kF ?kX ?kN ?kT ?kk ?kd ?ku ?_; (case kB => k_asm); (case kF => k_asm); (case kX => k_asm); (case kN => k_asm); (case kT => k_asm); (case kk => first | exact rfl | assumption); (case kd => ktr_room); (case ku => ktr_units)); intro x' dx' oX' oD' h' tk' F' N' l1 l2 hW'; (try k_lt l1); (try k_lt2 l2); (try dsimp only); (try k_sweep); (try k_fold))
  k_with "getAttr ref" => (k_here; (with_reducible show wpAny _ _ (getAttr (Value.ref _) (Str.ofString "regs") _) _ _ _); k_dflt (refine' get_regs ?k1 ?k2 ?k3 ?k4 ?k5 ?k6 ?_; (case k1 => k_asm); (case k2 => k_asm); (case k3 => k_asm); (case k4 => k_mem); (case k6 => assumption); (case k5 => k_mem); k_whole))
  k_with "getMethod ref" => (k_here; (with_reducible show wpAny _ _ (getMethod (Value.ref _) (Str.ofString "run") _) _ _ _); k_dflt (refine' meth_run ?k1 ?k2 ?k3 ?k4 ?k5 ?k6 ?_; (case k1 => k_asm); (case k2 => k_asm); (case k3 => k_asm); (case k4 => k_mem); (case k6 => assumption); (case k5 => k_mem); k_whole))
  k_with "getAttr ref" => (k_here; (with_reducible show wpAny _ _ (getAttr (Value.ref _) (Str.ofString "kind") _) _ _ _); k_dflt (first | (refine' get_kind_f ?k1 ?k2 ?k3 ?k4 ?k5 ?k6 ?_; (case k1 => k_asm); (case k2 => k_asm); (case k3 => k_asm); (case k6 => assumption); (case k4 => k_mem); (case k5 => k_mem); k_whole) | (refine' get_kind_t ?k1 ?k2 ?k3 ?k4 ?k5 ?k6 ?_; (case k1 => k_asm); (case k2 => k_asm); (case k3 => k_asm); (case k6 => assumption); (case k4 => k_mem); (case k5 => k_mem); k_whole)); intro t')
  k_with "getAttr ref" => (k_here; (with_reducible show wpAny _ _ (getAttr (Value.ref _) (Str.ofString "what") _) _ _ _); k_dflt (refine' get_what_t ?k1 ?k2 ?k3 ?k4 ?k5 ?k6 ?_; (case k1 => k_asm); (case k2 => k_asm); (case k3 => k_asm); (case k6 => assumption); (case k4 => k_mem); (case k5 => k_mem); k_whole); intro t')
  k_with "call type:list" => (k_here; (with_reducible show wpAny _ _ (call (Value.type _) [Value.ref _]) _ _ _); k_dflt (refine' list_regs ?k1 ?k2 ?k3 ?k4 ?_; (case k1 => k_asm); (case k2 => k_asm); (case k3 => k_mem); (case k4 => assumption); k_whole); intro D' oH' h' F' N' l1 hH'; (try k_lt l1); (try k_sweep))
  k_with "compareOp Eq ref ref" => (k_here; k_dflt (refine' eq_regs ?k1 ?k2 ?k3 ?k4 ?k5 ?k6 ?_; (case k1 => k_asm); (case k2 => k_mem); (case k3 => k_mem); (case k4 => assumption); (case k5 => assumption); (case k6 => ktr_units); k_whole))
  k_with "binaryOp Pow int int" => (k_here; (with_reducible show wpAny _ _ (binaryOp Operator.Pow (Value.int 2 _) (Value.int _ _)) _ _ _); (with_reducible refine pow_n (by assumption) ?_))
  k_with "binaryOp Mod int int" => (k_here; (with_reducible show wpAny _ _ (binaryOp Operator.Mod (Value.int _ _) (Value.int (2 ^ Int.toNat _) _)) _ _ _); (with_reducible refine mod_n ?_))
  k_with "subscriptTail" => (k_here; (with_reducible show wpAny _ _ (subscriptTail _ _ (Value.ref _) (Value.int _ _)) _ _ _); k_dflt (refine' regs_get ?k1 ?k2 ?k3 ?k4 ?k5 ?_ ?k6; (case k1 => k_asm); (case k2 => k_mem); (case k3 => assumption); (case k4 => first | assumption | decide | omega); (case k5 => first | assumption | decide | omega); (case k6 => with_unfolding_all rfl); k_whole); intro t' b0' b1')
  k_with "setItem ref int" => (k_here; (with_reducible show wpAny _ _ (PySem.setItem (Value.ref _) (Value.int _ _) (Value.int _ _)) _ _ _); k_dflt (refine' regs_set ?k1 ?k2 ?k3 ?k4 ?k5 ?k6 ?k7 ?k8 ?_; (case k1 => k_asm); (case k2 => k_asm); (case k3 => k_updF); (case k4 => assumption); (case k5 => first | decide | omega); (case k6 => first | decide | omega); (case k7 => first | decide | assumption | exact (pow_bnd (by assumption)).1); (case k8 => first | decide | assumption | exact (pow_bnd (by assumption)).2); k_whole); intro h' o' F' N' hR'; (try dsimp only at N'); (try k_sweep))
  trivial
set_option maxHeartbeats 8000000 in
theorem segE {w : World} {mean : ExcName → Option Value} {mg mb mp : Str → Option Value} {dp un : Nat} {gd : Option (List Code)} {cn : Str} {cs : Scope} {a : Addr} {ccd : Value} {cl : List (Str × Addr)} {outer : List Env} {base g : Heap} {L L' : Addr} {s : Shared} {Q : Flow → Shared → Prop} {E : Value → Shared → Prop}
    {H R M dM o dO RW pl : Addr} {oH oR oD oO oDo : Obj} {restC : List (Addr × Obj)} {vx : Option Value} {n r wh ot pc st : Int} {tn tr tw to : Tok} {sg hs fl ov : Bool} {hd9 rs rs2 : List Int}
    (B : Below (ktrTop dp un gd cn cs L a ccd cl outer) base (envX cn cs L a ccd cl :: outer) g) (F : Fr g L' s.heap (fun y => if y = Str.ofString "end" then some (.ref o) else if y = Str.ofString "other" then some (.int ot to) else if y = Str.ofString "whole" then some (.int wh tw) else if y = Str.ofString "held" then some (.ref H) else if y = Str.ofString "number" then vx else if y = Str.ofString "regs" then some (.ref R) else if y = Str.ofString "machine" then some (.ref M) else if y = Str.ofString "rows" then some (.ref RW) else if y = Str.ofString "reg" then some (.int r tr) else if y = Str.ofString "size" then some (.int n tn) else if y = Str.ofString "is_signed" then some (.bool sg) else if y = Str.ofString "has_sign_row" then some (.bool hs) else mp y)) (X : (hd.heap_1 w.params).In g) (XE : Ext w g) (N : News g L' s.heap ((o, oO) :: (dO, oDo) :: (M, instObj 445 dM) :: (dM, oD) :: (R, oR) :: (H, oH) :: restC)) (T : Top qv Lo mean mg mb g) (XB : (hd.heap_1 w.params).In base) (EB : Ext w base) (TB : Top qv Lo mean mg mb base)
    (hM : MachD RW R pl pc st ov oD) (hR : RegsAre rs2 oR) (hH : RegsAre hd9 oH) (hn : n = 32 ∨ n = 64) (hr0 : 0 ≤ r) (hr1 : r < 16) (hO : OutIs fl dO oO oDo) (hruns : Runs (ksOf hs sg n r) rs rs2 fl) (ehd : hd9 = hdOf hs n rs) (ewh : wh = wholeOf (hd9.getD 2 0) (hd9.getD 0 0) n sg) (eot : ot = otOf sg n (hd9.getD r.toNat 0))
    (hE : PassesOwn (model Challenge.rw_ok0167_01.prog w) ((ktrTop dp un gd cn cs L a ccd cl outer).deeper (env510 L')) (env510 L') E) (hdp : dp + 130 ≤ 500) (hun : un + 3400 ≤ 5000)
    (hret : ∀ g' h' tk' m', KtsTurn (frs (envX cn cs L a ccd cl :: outer)) g g' → Fr g' L' h' m' → News g' L' h' restC → Q (.ret (.bool true)) { s with heap := h', toks := tk' }) :
    wpAny (model Challenge.rw_ok0167_01.prog w) ((ktrTop dp un gd cn cs L a ccd cl outer).deeper (env510 L')) (execs (tl510 w 13) (env510 L')) Q E s := by
  have hrl9 : recursionLimit = 1000 := rfl
  have hcl9 : cLine = 9900 := rfl
  have V := caseV_of hn hr0 hr1 hH ehd ewh eot
  dsimp only [tl510, bod510, List.drop]
  (repeat' ((fail_if_success (with_reducible show wpAny _ _ (call (Value.ref 503) _) _ _ _)); (first | (k_unfold; (try dsimp only)) | walk1 | (dsimp only; walk1))))
  rename Fr _ _ _ _ => F9
  rename News _ _ _ _ => N9
  k_dflt (refine' direct_X ?B F9 X XE N9 T XB EB TB ?kc hn (low_nn _ _) (low64 hn _) (low_nn _ _) (low64 hn _) (low_nn _ _) (low64 hn _) ?hx ?hy (fun x u1 u2 g9 h9 tk9 T9 F' B9 X9 TT9 XE9 N' l9 ok9 => ?_) (fun g9 h9 tk9 T9 F' B9 X9 TT9 XE9 N' no9 => ?_))
  case B => k_asm
  case kc => exact rfl
  case hx => ktr_room
  case hy => ktr_units
  · have ho := runs_out hn hruns
    rw [← ehd] at ho
    rcases ho with ⟨rfl, _, hrs⟩ | ⟨rfl, no, _⟩
    · have G := good_of V ok9 hrs
      clear F9 N9 B X XE T
      (try k_unfold)
      (try dsimp only)
      (repeat' ((fail_if_success (with_reducible show wpAny _ _ (execs (Stmt.If _ _ _ _ :: _) _) _ _ _)); (first | (k_unfold; (try dsimp only)) | walk1 | (dsimp only; walk1))))
      rename Fr _ _ _ _ => F9
      rename News _ _ _ _ => N9
      refine segF (H := H) (R := R) (M := M) (dM := dM) (o := o) (dO := dO) (x := x) B9 F9 X9 XE9 N9 TT9 XB EB TB hM hR hH hn hr0 hr1 hO G hE hdp hun ?_
      intro g' h' tk' m' T' F' N'
      exact hret _ _ _ _ (T9.trans T') F' N'
    · exact absurd ok9 no
  · have ho := runs_out hn hruns
    rw [← ehd] at ho
    rcases ho with ⟨rfl, ok, _⟩ | ⟨rfl, _, hrs⟩
    · exact absurd ok no9
    · have G := bad_of V no9
      clear F9 N9 B X XE T
      (try k_unfold)
      (try dsimp only)
      (repeat' ((fail_if_success (with_reducible show wpAny _ _ (execs (Stmt.If _ _ _ _ :: _) _) _ _ _)); (first | (k_unfold; (try dsimp only)) | walk1 | (dsimp only; walk1))))
      rename Fr _ _ _ _ => F9
      rename News _ _ _ _ => N9
      refine segG (H := H) (R := R) (M := M) (dM := dM) (o := o) (dO := dO) B9 F9 X9 XE9 N9 TT9 XB EB TB hM hR hH hn hr0 hr1 hO hrs G hE hdp hun ?_
      intro g' h' tk' m' T' F' N'
      exact hret _ _ _ _ (T9.trans T') F' N'
end

-- Cd
theorem zrCd : True := by first | (row_walk; done) | trivial
section
theorem zz50 : True := by
  k_with_none
  k_with "k_all" => ((intro pA hA; refine neN (Nat.ne_of_lt ?_); refine (by assumption : ∀ p ∈ _, p.1 < _) pA ?_; (repeat (first | exact hA | apply List.Mem.tail)); done))
  k_with "k_all" => (with_reducible assumption)
  k_with "k_upd" => ((first | exact Picks.nil | (refine' Picks.cons ?kuc ?kud; (case kuc => k_upd); (case kud => k_upd)) | (refine' Pick.head ?kua; (case kua => k_all)) | (refine' Pick.tail ?kua ?kub; (case kua => k_ne); (case kub => k_upd)) | (refine' Upd.head ?kua; (case kua => k_all)) | (refine' Upd.tail ?kua ?kub; (case kua => k_ne); (case kub => k_upd))))
  k_with "ktr_rel" => ((refine cb_drop (by assumption) ?_; (repeat' (refine fa_cons (by k_mem) ?_)); first | exact List.forall_mem_nil _ | (intro pD hD; repeat (first | exact hD | apply List.Mem.tail))))
  k_with "compareOp NotEq ref ref" => (k_here; k_dflt (refine' ne_K ?k1 ?k2 ?k3 ?k4 ?k5 ?k6 ?_; (case k1 => k_asm); (case k2 => k_mem); (case k3 => k_mem); (case k4 => l_intsC); (case k5 => l_intsC); (case k6 => ktr_units); k_whole))
  k_with "binaryOp FloorDiv int int" => (k_here; (with_reducible refine floordiv_int ?ke ?_ (Or.inl (noPy ?kp ?kq))); (case ke => first | omega | (split <;> omega)); (case kp => first | omega | (split <;> omega)); (case kq => first | omega | (split <;> omega)))
  k_with "call builtin:list.pop" => (k_here; k_dflt (refine' pop0_K ?k1 ?k2 ?k3 ?k4 ?_; (case k1 => k_asm); (case k2 => k_asm); (case k3 => k_upd); (case k4 => omega); k_whole); intro h' F' N')
  k_with "binaryOp Pow int int" => (k_here; first | (with_reducible refine powL_K 18446744073709551616 ?kb1 ?kb2 ?kb3 ?kb4 ?_; (case kb4 => decide +kernel); (case kb1 => decide); (case kb2 => decide); (case kb3 => decide)) | (with_reducible refine powL_K 9223372036854775808 ?kb1 ?kb2 ?kb3 ?kb4 ?_; (case kb4 => decide +kernel); (case kb1 => decide); (case kb2 => decide); (case kb3 => decide)) | (with_reducible refine powL_K 4294967296 ?kb1 ?kb2 ?kb3 ?kb4 ?_; (case kb4 => decide +kernel); (case kb1 => decide); (case kb2 => decide); (case kb3 => decide)) | (with_reducible refine powL_K 2147483648 ?kb1 ?kb2 ?kb3 ?kb4 ?_; (case kb4 => decide +kernel); (case kb1 => decide); (case kb2 => decide); (case kb3 => decide)) | (with_reducible refine powL_K 340282366920938463463374607431768211456 ?kb1 ?kb2 ?kb3 ?kb4 ?_; (case kb4 => decide +kernel); (case kb1 => decide); (case kb2 => decide); (case kb3 => decide)) | (with_reducible refine powL_K 170141183460469231731687303715884105728 ?kb1 ?kb2 ?kb3 ?kb4 ?_; (case kb4 => decide +kernel); (case kb1 => decide); (case kb2 => decide); (case kb3 => decide)))
  k_with "cell_enter" => ((refine' code_def ?k1 ?k2 ?k3 ?k4 ?k5 ?kA ?kF ?kK ?k6 ?k7 ?k8 ?k9 ?kB ?_ ?c2 ?c3 ?c4 ?c5; (case kA => exact rfl); (case kF => exact rfl); (case kK => first | assumption | exact rfl); (case k1 => k_asm); (case k2 => k_asm); (case k3 => k_asm); (case k4 => k_asm); (case k5 => k_asm); (case k6 => k_is); (case k7 => k_is); (case k8 => ktr_room); (case k9 => first | exact BindsTo.of_eq rfl | exact binds_K (by k_in) rfl (by k_is) rfl rfl rfl); (case c5 => decide); (case kB => exact locs rfl); (case c2 => exact rfl); (case c3 => exact rfl); (case c4 => exact rfl); k_whole; intro g' L' h' FG' F' N' B' X' T'; (try dsimp only); (try k_lift B'); (try k_fold)))
  k_with "ktr_units" => (((try simp only [units_in1, units_deeper, units_under_make, Around.mark_units]); (try dsimp only [ktrTop]); omega))
  k_with "ktr_room" => (((try simp only [depth_mark, depth_under_make, depth_under_kw, depth_in1, depth_deeper]); (try dsimp only [ktrTop]); omega))
  k_with "execs cons" => (k_here; (first | ((with_reducible refine gentok fun tk' => ?_); (with_reducible refine wpAny_execs_cons ?_)) | (with_reducible refine wpAny_execs_cons ?_)); (try dsimp only))
  k_with "execs nil" => (k_here; (refine wpAny_execs_nil ?_))
  k_with "call ref" => (k_here; (with_reducible show wpAny _ _ (call (Value.ref 482) [Value.int _ _, Value.int _ _]) _ _ _); k_dflt (refine' lsign_C ?kB ?kF ?kX ?kN ?kT ?kk ?kn ?kd ?ku ?_; (case kB => k_asm); (case kF => k_asm); (case kX => k_asm); (case kN => k_asm); (case kT => k_asm); (case kk => first | exact rfl | assumption); (case kn => first | omega | decide); (case kd => ktr_room); (case ku => ktr_units)); intro t' h' tk' F' N'; (try dsimp only); (try k_sweep); (try k_fold))
  k_with "compareOp Eq str str" => (k_here; k_dflt (refine' eq_no ?ke ?_; (case ke => with_reducible assumption)))
  k_with "compareOp In str ref" => (k_here; (with_reducible show wpAny _ _ (compareOp CmpOp.In (Value.str _ _) (Value.ref _)) _ _ _); (with_unfolding_all refine' tin_no ?k1 ?k2 ?k3 ?_; (case k1 => exact News.isTup (by k_asm) (by news_mem)); (case k2 => kde_strs); (case k3 => assumption); k_whole))
  k_with "compareOp NotIn str ref" => (k_here; (with_reducible show wpAny _ _ (compareOp CmpOp.NotIn (Value.str _ _) (Value.ref _)) _ _ _); (with_unfolding_all refine' tnot_no ?k1 ?k2 ?k3 ?_; (case k1 => exact News.isTup (by k_asm) (by news_mem)); (case k2 => kde_strs); (case k3 => assumption); k_whole))
  k_with "subscriptTail Name Slice str ref" => (k_here; (with_reducible show wpAny _ _ (subscriptTail _ (Expr.Slice (some _) none none _) _ _) _ _ _); (with_reducible rename Fr _ _ _ _ => F'); (with_reducible rename News _ _ _ _ => N'); (refine slice_strN_sn (hsz := ?hsz) (s := ⟨_, _, _, _, _⟩) F' N' ?_); (case hsz => (rw [sizeLine_eq]; omega)); intro h' t' tk' F' N')
  k_with "subscriptTail Name Slice str ref" => (k_here; (with_reducible show wpAny _ _ (subscriptTail _ (Expr.Slice none (some _) none _) _ _) _ _ _); (with_reducible rename Fr _ _ _ _ => F'); (with_reducible rename News _ _ _ _ => N'); (refine slice_strN_ns (hsz := ?hsz) (s := ⟨_, _, _, _, _⟩) F' N' ?_); (case hsz => (rw [sizeLine_eq]; omega)); intro h' t' tk' F' N')
  k_with "compareOp NotEq str str" => (k_here; k_dflt (refine' ne_yes ?ke ?_; (case ke => with_reducible assumption)))
  k_with "UnrEndW" => (k_here; refine' unrW (off5 (by assumption)) ?uF ?uN ?uI ?us ⟨by k_subL, ?_⟩; (case uF => assumption); (case uN => k_asm); (case uI => ((repeat' (refine fa_cons (by k_mem) ?_)); exact List.forall_mem_nil _)); (case us => ((repeat' (refine fa_cons (by k_mem) ?_)); first | exact List.forall_mem_nil _ | (intro pD hD; repeat (first | exact hD | apply List.Mem.tail)))))
  k_with "UnrEndW" => (k_here; refine' unrW (off1 (by assumption)) ?uF ?uN ?uI ?us ⟨by k_subL, ?_⟩; (case uF => assumption); (case uN => k_asm); (case uI => ((repeat' (refine fa_cons (by k_mem) ?_)); exact List.forall_mem_nil _)); (case us => ((repeat' (refine fa_cons (by k_mem) ?_)); first | exact List.forall_mem_nil _ | (intro pD hD; repeat (first | exact hD | apply List.Mem.tail)))))
  k_with "UnrEnd" => (k_here; refine' unrI ?uo ?uF ?uN ?uI ?us ?_; (case uo => assumption); (case uF => assumption); (case uN => k_asm); (case uI => k_mem); (case us => ((repeat' (refine fa_cons (by k_mem) ?_)); first | exact List.forall_mem_nil _ | (intro pD hD; repeat (first | exact hD | apply List.Mem.tail)))))
  k_with "pyIter ref" => (k_here; (with_reducible show wpAny _ _ (pyIter (Value.ref _)) (fun it s₂ => TurnsAt _ _ _ _ _ _ _ _ _ it s₂) _ _); (rename Fr _ _ _ _ => lF'); (rename News _ _ _ _ => lN'); (with_unfolding_all refine' iter_tupTurns ?h1 lF' lN' ?h2 ?h3 ?h4 ?_; (case h1 => exact rfl); (case h2 => k_mem); (case h3 => exact rfl); (case h4 => exact rfl)); clear lF' lN'; intro i' l1; (try k_lt l1))
  k_with "call ref" => (k_here; (with_reducible show wpAny _ _ (call (Value.ref 350) [Value.ref _, Value.int _ _, Value.int _ _, Value.int _ _]) _ _ _); k_dflt (refine' put4_C ?kB ?kF ?kX ?kN ?k1 ?k2 ?k3 ?kT ?kk ?kM1 ?kM2 ?kR ?ki0 ?ki1 ?kn ?kd ?ku ?_; (case kB => k_asm); (case kF => k_asm); (case kX => k_asm); (case kN => k_asm); (case k1 => k_upd); (case kM1 => first | exact rfl | assumption); (case k2 => k_upd); (case kM2 => first | assumption | exact ⟨_, _, _, _, _, _, _, _, _, _, _, _, _, _, _, _, _, _, _, _, _, _, _, rfl⟩); (case k3 => k_upd); (case kR => assumption); (case kT => k_asm); (case kk => first | exact rfl | assumption); (case ki0 => first | decide | omega); (case ki1 => first | decide | omega); (case kn => first | assumption | omega | decide); (case kd => ktr_room); (case ku => ktr_units)); intro oR' h' tk' F' N' hR'; (try dsimp only); (try k_sweep); (try k_fold))
  k_with "call ref" => (k_here; (with_reducible show wpAny _ _ (call (Value.ref 350) [Value.ref _, Value.int _ _, Value.int _ _]) _ _ _); k_dflt (refine' put3_C ?kB ?kF ?kX ?kN ?k1 ?k2 ?k3 ?kT ?kk ?kM1 ?kM2 ?kR ?ki0 ?ki1 ?kd ?ku ?_; (case kB => k_asm); (case kF => k_asm); (case kX => k_asm); (case kN => k_asm); (case k1 => k_upd); (case kM1 => first | exact rfl | assumption); (case k2 => k_upd); (case kM2 => first | assumption | exact ⟨_, _, _, _, _, _, _, _, _, _, _, _, _, _, _, _, _, _, _, _, _, _, _, rfl⟩); (case k3 => k_upd); (case kR => assumption); (case kT => k_asm); (case kk => first | exact rfl | assumption); (case ki0 => first | decide | omega); (case ki1 => first | decide | omega); (case kd => ktr_room); (case ku => ktr_units)); intro oR' h' tk' F' N' hR'; (try dsimp only); (try k_sweep); (try k_fold))
  k_with "call ref" => (k_here; (with_reducible show wpAny _ _ (call (Value.ref 358) [Value.ref _, Value.int _ _, Value.int _ _]) _ _ _); k_dflt (refine' take_C ?kB ?kF ?kX ?kN ?k1 ?k2 ?k3 ?kT ?kk ?kM1 ?kM2 ?kR ?ki0 ?ki1 ?kn ?kd ?ku ?_; (case kB => k_asm); (case kF => k_asm); (case kX => k_asm); (case kN => k_asm); (case k1 => k_upd); (case kM1 => first | exact rfl | assumption); (case k2 => k_upd); (case kM2 => first | assumption | exact ⟨_, _, _, _, _, _, _, _, _, _, _, _, _, _, _, _, _, _, _, _, _, _, _, rfl⟩); (case k3 => k_upd); (case kR => assumption); (case kT => k_asm); (case kk => first | exact rfl | assumption); (case ki0 => first | decide | omega); (case ki1 => first | decide | omega); (case kn => first | assumption | omega | decide); (case kd => ktr_room); (case ku => ktr_units)); intro t' h' tk' F' N'; (try dsimp only); (try k_sweep); (try k_fold))
  k_with "call ref" => (k_here; (with_reducible show wpAny _ _ (call (Value.ref 461) [Value.ref _, Value.int _ _]) _ _ _); k_dflt (refine' draw_C ?kB ?kF ?kX ?kN ?kPk ?kT ?kk ?kP ?km ?km2 ?kd ?ku ?_; (case kP => assumption); (case kB => k_asm); (case kF => k_asm); (case kX => k_asm); (case kN => k_asm); (case kPk => k_upd); (case kT => k_asm); (case kk => first | exact rfl | assumption); (case km => first | decide | omega); (case km2 => first | decide | omega); (case kd => ktr_room); (case ku => ktr_units)); intro v' t' oP' oL' h' tk' F' N' hP' hlo' hhi'; (try dsimp only); (try k_sweep); (try k_fold))
  k_with "call ref" => (k_here; (with_reducible show wpAny _ _ (call (Value.ref 468) [Value.ref _, Value.ref _]) _ _ _); k_dflt (refine' pick_C ?kB ?kF ?kX ?kN ?kPk ?kT ?kk ?kP ?kI ?km ?km2 ?kd ?ku ?_; (case kP => assumption); (case kB => k_asm); (case kF => k_asm); (case kX => k_asm); (case kN => k_asm); (case kPk => k_upd); (case kT => k_asm); (case kk => first | exact rfl | assumption); (case kI => first | assumption | l_intsW); (case km => first | decide | omega); (case km2 => first | decide | omega); (case kd => ktr_room); (case ku => ktr_units)); intro v' t' oP' oL' h' tk' F' N' hP' hM'; (try dsimp only); (try k_sweep); (try k_fold))
  k_with "ktr_enter" => ((refine' enterX ?k1 ?k2 ?k3 ?kE ?k4 ?k5 ?kXB ?kEB ?kTB ?kA ?kF ?kK ?k6 ?k7 ?k8 ?k9 ?kB ?_ ?c2 ?c3 ?c4 ?c5; (case kA => exact rfl); (case kF => exact rfl); (case kK => assumption); (case k1 => k_asm); (case k2 => k_asm); (case k3 => k_asm); (case kE => k_asm); (case k4 => k_asm); (case k5 => k_asm); (case kXB => k_asm); (case kEB => k_asm); (case kTB => k_asm); (case k6 => k_is); (case k7 => k_is); (case k8 => ktr_room); (case k9 => first | exact BindsTo.of_eq rfl | exact binds_K (by k_in) rfl (by k_is) rfl rfl rfl); (case c5 => decide); (case kB => exact locs rfl); (case c2 => exact rfl); (case c3 => exact rfl); (case c4 => exact rfl); k_whole; intro g' L' h' FG' F' N' B' X' T' E' back'; (try dsimp only); (try k_fold)))
  k_with "leaving ref" => (k_here; (refine' leave_led ?kB ?kF ?kk ?kY ?_; (case kB => k_asm); (case kF => k_asm); (case kY => first | exact Or.inl (by assumption) | exact Or.inr (by assumption)); (case kk => exact rfl); k_whole); intro h' g' T' F' Y' B')
  k_with "exec Raise some none" => (k_here; (refine' raise_K ?kh ?_; (case kh => with_unfolding_all rfl)))
  k_with "call ref" => (k_here; (with_reducible show wpAny _ _ (call (Value.ref 59) [Value.str _ _]) _ _ _); k_dflt (refine' fault_C ?kB ?kF ?kX ?kN ?kT ?kA ?kf ?kK ?kd ?_; (case kA => exact rfl); (case kf => exact rfl); (case kK => first | assumption | exact rfl); (case kB => k_asm); (case kF => k_asm); (case kX => k_asm); (case kN => k_asm); (case kT => k_asm); (case kd => ktr_room)); intro e' dx' t' oe' od' h' tk' F' N' n1' n2' n3' hE'; obtain ⟨⟨sl', hR'⟩, hW'⟩ := hE'; subst hR'; (replace hW' : WhatIs _ _ := (by obtain ⟨q1, q2, t1, t2, t3, n, e⟩ := hW'; exact ⟨q1, q2, t1, t2, t3, n, e⟩)); (have Y' := flyNew_of N' n2' n3'); (try dsimp only); (try k_sweep); (try k_fold))
  k_with "Exists" => (refine ⟨_, _, _, _, rfl, (by k_in), News.get (by k_asm) (by k_mem), ?_⟩)
  k_with "call ref" => (k_here; (with_reducible show wpAny _ _ (call (Value.ref 428) [Value.ref _, Value.ref _]) _ _ _); k_dflt (refine' doAny_X ?kB ?kF ?kX ?kE ?kN ?k1 ?k2 ?k3 ?kT ?kXB ?kEB ?kTB ?kk ?m1 ?m2 ?m3 ?m4 ?kRow ?kK ?kPi ?kM1 ?kM2 ?kR ?kd ?ku (fun oD' oR' h0' h' tk' T' F' B' X' TT' E' N' hM' hR' ok' => ?_) (fun e' dx' od' oD' h0' h' tk' T' F' B' X' TT' E' Y' W' nd' hM' no' => ?_); (case kB => k_asm); (case kF => k_asm); (case kX => k_asm); (case kE => k_asm); (case kN => k_asm); (case k1 => k_upd); (case kM1 => first | exact rfl | assumption); (case k2 => k_upd); (case kM2 => first | assumption | exact ⟨_, _, _, _, _, _, _, _, _, _, _, _, _, _, _, _, _, _, _, _, _, _, _, rfl⟩); (case k3 => k_upd); (case kR => assumption); (case kT => k_asm); (case kXB => k_asm); (case kEB => k_asm); (case kTB => k_asm); (case kk => first | exact rfl | assumption); (case m1 => k_mem); (case kRow => assumption); (case m2 => k_mem); (case m3 => k_mem); (case m4 => k_mem); (case kK => assumption); (case kPi => assumption); (case kd => ktr_room); (case ku => ktr_units)); (all_goals ((try dsimp only); (try k_sweep); (try k_fold))); rotate_left)
  k_with "call ref" => (k_here; (with_reducible show wpAny _ _ (call (Value.ref 435) _) _ _ _); k_dflt (refine' step_X ?kB ?kF ?kX ?kE ?kN ?k1 ?k2 ?k3 ?kT ?kXB ?kEB ?kTB ?kk ?m0 ?m1 ?m2 ?m3 ?m4 ?kget ?klen ?kRow ?kK ?kPi ?kM1 ?kM2 ?kR ?kd ?ku (fun oD' oR' h0' h' tk' T' F' B' X' TT' E' N' hM' hR' ok' => ?_) (fun e' dx' od' oD' h0' h' tk' T' F' B' X' TT' E' Y' W' nd' hM' no' => ?_); (case kB => k_asm); (case kF => k_asm); (case kX => k_asm); (case kE => k_asm); (case kN => k_asm); (case k1 => k_upd); (case kM1 => first | exact rfl | assumption); (case k2 => k_upd); (case kM2 => first | assumption | exact ⟨_, _, _, _, _, _, _, _, _, _, _, _, _, _, _, _, _, _, _, _, _, _, _, rfl⟩); (case k3 => k_upd); (case kR => assumption); (case kT => k_asm); (case kXB => k_asm); (case kEB => k_asm); (case kTB => k_asm); (case kk => first | exact rfl | assumption); (case m0 => k_mem); (case kget => assumption); (case m1 => k_mem); (case kRow => assumption); (case m2 => k_mem); (case m3 => k_mem); (case m4 => k_mem); (case klen => (show _ ≤ 8; omega)); (case kK => assumption); (case kPi => assumption); (case kd => ktr_room); (case ku => ktr_units)); (all_goals ((try dsimp only); (try k_sweep); (try k_fold))); rotate_left)
  k_with "call ref" => (k_here; (with_reducible show wpAny _ _ (call (Value.ref 148) [Value.str _ _, Value.ref _]) _ _ _); k_dflt (refine' row_C ?kB ?kF ?kX ?kN ?kT ?kk ?kd ?ku ?_; (case kB => k_asm); (case kF => k_asm); (case kX => k_asm); (case kN => k_asm); (case kT => k_asm); (case kk => first | exact rfl | assumption); (case kd => ktr_room); (case ku => ktr_units)); intro x' dx' oX' oD' h' tk' F' N' l1 l2 hW'; (try k_lt l1); (try k_lt2 l2); (try dsimp only); (try k_sweep); (try k_fold))
  k_with "getAttr ref" => (k_here; (with_reducible show wpAny _ _ (getAttr (Value.ref _) (Str.ofString "regs") _) _ _ _); k_dflt (refine' get_regs ?k1 ?k2 ?k3 ?k4 ?k5 ?k6 ?_; (case k1 => k_asm); (case k2 => k_asm); (case k3 => k_asm); (case k4 => k_mem); (case k6 => assumption); (case k5 => k_mem); k_whole))
  k_with "getMethod ref" => (k_here; (with_reducible show wpAny _ _ (getMethod (Value.ref _) (Str.ofString "run") _) _ _ _); k_dflt (refine' meth_run ?k1 ?k2 ?k3 ?k4 ?k5 ?k6 ?_; (case k1 => k_asm); (case k2 => k_asm); (case k3 => k_asm); (case k4 => k_mem); (case k6 => assumption); (case k5 => k_mem); k_whole))
  k_with "getAttr ref" => (k_here; (with_reducible show wpAny _ _ (getAttr (Value.ref _) (Str.ofString "kind") _) _ _ _); k_dflt (first | (refine' get_kind_f ?k1 ?k2 ?k3 ?k4 ?k5 ?k6 ?_; (case k1 => k_asm); (case k2 => k_asm); (case k3 => k_asm); (case k6 => assumption); (case k4 => k_mem); (case k5 => k_mem); k_whole) | (refine' get_kind_t ?k1 ?k2 ?k3 ?k4 ?k5 ?k6 ?_; (case k1 => k_asm); (case k2 => k_asm); (case k3 => k_asm); (case k6 => assumption); (case k4 => k_mem); (case k5 => k_mem); k_whole)); intro t')
  k_with "getAttr ref" => (k_here; (with_reducible show wpAny _ _ (getAttr (Value.ref _) (Str.ofString "what") _) _ _ _); k_dflt (refine' get_what_t ?k1 ?k2 ?k3 ?k4 ?k5 ?k6 ?_; (case k1 => k_asm); (case k2 => k_asm); (case k3 => k_asm); (case k6 => assumption); (case k4 => k_mem); (case k5 => k_mem); k_whole); intro t')
  k_with "call type:list" => (k_here; (with_reducible show wpAny _ _ (call (Value.type _) [Value.ref _]) _ _ _); k_dflt (refine' list_regs ?k1 ?k2 ?k3 ?k4 ?_; (case k1 => k_asm); (case k2 => k_asm); (case k3 => k_mem); (case k4 => assumption); k_whole); intro D' oH' h' F' N' l1 hH'; (try k_lt l1); (try k_sweep))
  k_with "compareOp Eq ref ref" => (k_here; k_dflt (refine' eq_regs ?k1 ?k2 ?k3 ?k4 ?k5 ?k6 ?_; (case k1 => k_asm); (case k2 => k_mem); (case k3 => k_mem); (case k4 => assumption); (case k5 => assumption); (case k6 => ktr_units); k_whole))
  k_with "binaryOp Pow int int" => (k_here; (with_reducible show wpAny _ _ (binaryOp Operator.Pow (Value.int 2 _) (Value.int _ _)) _ _ _); (with_reducible refine pow_n (by assumption) ?_))
  k_with "binaryOp Mod int int" => (k_here; (with_reducible show wpAny _ _ (binaryOp Operator.Mod (Value.int _ _) (Value.int (2 ^ Int.toNat _) _)) _ _ _); (with_reducible refine mod_n ?_))
  k_with "subscriptTail" => (k_here; (with_reducible show wpAny _ _ (subscriptTail _ _ (Value.ref _) (Value.int _ _)) _ _ _); k_dflt (refine' regs_get ?k1 ?k2 ?k3 ?k4 ?k5 ?_ ?k6; (case k1 => k_asm); (case k2 => k_mem); (case k3 => assumption); (case k4 => first | assumption | decide | omega); (case k5 => first | assumption | decide | omega); (case k6 => with_unfolding_all rfl); k_whole); intro t' b0' b1')
  k_with "setItem ref int" => (k_here; (with_reducible show wpAny _ _ (PySem.setItem (Value.ref _) (Value.int _ _) (Value.int _ _)) _ _ _); k_dflt (refine' regs_set ?k1 ?k2 ?k3 ?k4 ?k5 ?k6 ?k7 ?k8 ?_; (case k1 => k_asm); (case k2 => k_asm); (case k3 => k_updF); (case k4 => assumption); (case k5 => first | decide | omega); (case k6 => first | decide | omega); (case k7 => first | decide | assumption | exact (pow_bnd (by assumption)).1); (case k8 => first | decide | assumption | exact (pow_bnd (by assumption)).2); k_whole); intro h' o' F' N' hR'; (try dsimp only at N'); (try k_sweep))
  k_with "call ref" => (k_here; (with_reducible show wpAny _ _ (call (Value.ref 489) [Value.ref _, Value.int _ _, Value.bool _]) _ _ _); k_dflt (refine' whole_C ?kB ?kF ?kX ?kN ?kT ?kk ?m0 ?hR ?hn ?hd ?hu ?_; (case kB => k_asm); (case kF => k_asm); (case kX => k_asm); (case kN => k_asm); (case kT => k_asm); (case kk => first | exact rfl | assumption); (case m0 => k_mem); (case hR => assumption); (case hn => assumption); (case hd => ktr_room); (case hu => ktr_units)); intro t' h' tk' F' N'; (try dsimp only); (try k_sweep); (try k_fold))
  trivial
set_option maxHeartbeats 8000000 in
theorem segD {w : World} {mean : ExcName → Option Value} {mg mb mp : Str → Option Value} {dp un : Nat} {gd : Option (List Code)} {cn : Str} {cs : Scope} {a : Addr} {ccd : Value} {cl : List (Str × Addr)} {outer : List Env} {base g : Heap} {L L' : Addr} {s : Shared} {Q : Flow → Shared → Prop} {E : Value → Shared → Prop}
    {H : Addr} {oH : Obj} {hd9 : List Int} {M dM R pl RW : Addr} {oD oR oPl : Obj} {vx : Option Value} {restC : List (Addr × Obj)} {n r : Int} {tn tr : Tok} {sg hs : Bool} {rows : List Value} {kk : Nat} {rs : List Int}
    (B : Below (ktrTop dp un gd cn cs L a ccd cl outer) base (envX cn cs L a ccd cl :: outer) g) (F : Fr g L' s.heap (fun y => if y = Str.ofString "held" then some (.ref H) else if y = Str.ofString "number" then vx else if y = Str.ofString "regs" then some (.ref R) else if y = Str.ofString "machine" then some (.ref M) else if y = Str.ofString "rows" then some (.ref RW) else if y = Str.ofString "reg" then some (.int r tr) else if y = Str.ofString "size" then some (.int n tn) else if y = Str.ofString "is_signed" then some (.bool sg) else if y = Str.ofString "has_sign_row" then some (.bool hs) else mp y)) (X : (hd.heap_1 w.params).In g) (XE : Ext w g) (N : News g L' s.heap ((H, oH) :: (R, oR) :: (M, instObj 445 dM) :: (dM, oD) :: restC)) (T : Top qv Lo mean mg mb g) (XB : (hd.heap_1 w.params).In base) (EB : Ext w base) (TB : Top qv Lo mean mg mb base)
    (hH : RegsAre hd9 oH) (eH1 : @Ne Nat H R) (eH2 : @Ne Nat H M) (eH3 : @Ne Nat H dM) (nH : ∀ q ∈ restC, q.1 ≠ H) (hM : MachD RW R pl 0 0 false oD) (hR : RegsAre rs oR) (hPi : PileIs oPl) (m4 : (pl, oPl) ∈ restC) (hRW : (RW, listOf rows.toArray kk) ∈ restC) (hlen : rows.length = (ksOf hs sg n r).length) (hprog : ProgAt restC rows (ksOf hs sg n r)) (hn : n = 32 ∨ n = 64) (hr0 : 0 ≤ r) (hr1 : r < 16) (e1 : @Ne Nat dM M) (e2 : @Ne Nat R M) (e3 : @Ne Nat R dM) (nM : ∀ q ∈ restC, q.1 ≠ M) (ndM : ∀ q ∈ restC, q.1 ≠ dM) (nR : ∀ q ∈ restC, q.1 ≠ R) (ehd : hd9 = hdOf hs n rs)
    (hE : PassesOwn (model Challenge.rw_ok0167_01.prog w) ((ktrTop dp un gd cn cs L a ccd cl outer).deeper (env510 L')) (env510 L') E) (hdp : dp + 130 ≤ 500) (hun : un + 3400 ≤ 5000)
    (hret : ∀ g' h' tk' m', KtsTurn (frs (envX cn cs L a ccd cl :: outer)) g g' → Fr g' L' h' m' → News g' L' h' restC → Q (.ret (.bool true)) { s with heap := h', toks := tk' }) :
    wpAny (model Challenge.rw_ok0167_01.prog w) ((ktrTop dp un gd cn cs L a ccd cl outer).deeper (env510 L')) (execs (tl510 w 10) (env510 L')) Q E s := by
  have hrl9 : recursionLimit = 1000 := rfl
  have hcl9 : cLine = 9900 := rfl
  dsimp only [tl510, bod510, List.drop]
  (repeat' ((fail_if_success (with_reducible show wpAny _ _ (eval (Expr.IfExp _ _ _ _) _) _ _ _)); (first | (k_unfold; (try dsimp only)) | walk1 | (dsimp only; walk1))))
  rename Fr _ _ _ _ => F9
  rename News _ _ _ _ => N9
  refine join_val (fun v => ∃ t, v = .int (otOf sg n (hd9.getD r.toNat 0)) t) F9 N9 ?_ ?_
  · cases sg
    all_goals
      k_steps
      exact JVal.mk ⟨_, rfl⟩ (by assumption) (by assumption)
  rintro v9 h9 tk9 ⟨t9, rfl⟩ F' N'
  clear F9 N9
  (try dsimp only)
  (repeat' ((fail_if_success (with_reducible show wpAny _ _ (call (Value.ref 442) _) _ _ _)); (first | (k_unfold; (try dsimp only)) | walk1 | (dsimp only; walk1))))
  rename Fr _ _ _ _ => F9
  rename News _ _ _ _ => N9
  k_dflt (refine' run_X (ks := ksOf hs sg n r) (rows := rows) (kk := kk) (RW := RW) (pl := pl) (oPi := oPl) (dM := dM) (R := R) (M := M) (rs := rs) ?B F9 X XE N9 ?p1 ?p2 ?p3 T XB EB TB ?kc ?m0 ?m4 ?ha ?hb ?hc ?hd ?he hPi rfl hM hR ?hx ?hy ?ret)
  case B => k_asm
  case p1 => k_upd
  case p2 => k_upd
  case p3 => k_upd
  case kc => exact rfl
  case m0 => exact .tail _ hRW
  case m4 => exact .tail _ m4
  case ha => cases hs <;> exact Nat.le_of_ble_eq_true rfl
  case hb => cases hs <;> exact Nat.le_of_ble_eq_true rfl
  case hc => exact hlen
  case hd => exact ksOf_ov
  case he => exact hprog.sub fun p hp => .tail _ hp
  case hx => ktr_room
  case hy => ktr_units
  case ret =>
    clear F9 N9
    intro o dO oO oDo oD' oR' rs2 fl pc' st' ov' g9 h9 tk9 T9 F' B9 X9 TT9 XE9 N' hM9 hR9 hO9 hruns9
    clear hM hR B X XE T
    (try k_unfold)
    (try dsimp only)
    (repeat' ((fail_if_success (with_reducible show wpAny _ _ (execs (Stmt.Assign [Expr.Name (Str.ofString "plainly") _] _ _ :: _) _) _ _ _)); (first | (k_unfold; (try dsimp only)) | walk1 | (dsimp only; walk1))))
    rename Fr _ _ _ _ => F9
    rename News _ _ _ _ => N9
    refine segE (H := H) (R := R) (M := M) (dM := dM) (o := o) (dO := dO) B9 F9 X9 XE9 N9 TT9 XB EB TB hM9 hR9 hH hn hr0 hr1 hO9 hruns9 ehd rfl rfl hE hdp hun ?_
    intro g' h' tk' m' T' F' N'
    exact hret _ _ _ _ (T9.trans T') F' N'
end

-- Cc
theorem zrCc : True := by first | (row_walk; done) | trivial
section
theorem zz51 : True := by
  k_with_none
  k_with "k_all" => ((intro pA hA; refine neN (Nat.ne_of_lt ?_); refine (by assumption : ∀ p ∈ _, p.1 < _) pA ?_; (repeat (first | exact hA | apply List.Mem.tail)); done))
  k_with "k_all" => (with_reducible assumption)
  k_with "k_upd" => ((first | exact Picks.nil | (refine' Picks.cons ?kuc ?kud; (case kuc => k_upd); (case kud => k_upd)) | (refine' Pick.head ?kua; (case kua => k_all)) | (refine' Pick.tail ?kua ?kub; (case kua => k_ne); (case kub => k_upd)) | (refine' Upd.head ?kua; (case kua => k_all)) | (refine' Upd.tail ?kua ?kub; (case kua => k_ne); (case kub => k_upd))))
  k_with "ktr_rel" => ((refine cb_drop (by assumption) ?_; (repeat' (refine fa_cons (by k_mem) ?_)); first | exact List.forall_mem_nil _ | (intro pD hD; repeat (first | exact hD | apply List.Mem.tail))))
  k_with "compareOp NotEq ref ref" => (k_here; k_dflt (refine' ne_K ?k1 ?k2 ?k3 ?k4 ?k5 ?k6 ?_; (case k1 => k_asm); (case k2 => k_mem); (case k3 => k_mem); (case k4 => l_intsC); (case k5 => l_intsC); (case k6 => ktr_units); k_whole))
  k_with "binaryOp FloorDiv int int" => (k_here; (with_reducible refine floordiv_int ?ke ?_ (Or.inl (noPy ?kp ?kq))); (case ke => first | omega | (split <;> omega)); (case kp => first | omega | (split <;> omega)); (case kq => first | omega | (split <;> omega)))
  k_with "call builtin:list.pop" => (k_here; k_dflt (refine' pop0_K ?k1 ?k2 ?k3 ?k4 ?_; (case k1 => k_asm); (case k2 => k_asm); (case k3 => k_upd); (case k4 => omega); k_whole); intro h' F' N')
  k_with "binaryOp Pow int int" => (k_here; first | (with_reducible refine powL_K 18446744073709551616 ?kb1 ?kb2 ?kb3 ?kb4 ?_; (case kb4 => decide +kernel); (case kb1 => decide); (case kb2 => decide); (case kb3 => decide)) | (with_reducible refine powL_K 9223372036854775808 ?kb1 ?kb2 ?kb3 ?kb4 ?_; (case kb4 => decide +kernel); (case kb1 => decide); (case kb2 => decide); (case kb3 => decide)) | (with_reducible refine powL_K 4294967296 ?kb1 ?kb2 ?kb3 ?kb4 ?_; (case kb4 => decide +kernel); (case kb1 => decide); (case kb2 => decide); (case kb3 => decide)) | (with_reducible refine powL_K 2147483648 ?kb1 ?kb2 ?kb3 ?kb4 ?_; (case kb4 => decide +kernel); (case kb1 => decide); (case kb2 => decide); (case kb3 => decide)) | (with_reducible refine powL_K 340282366920938463463374607431768211456 ?kb1 ?kb2 ?kb3 ?kb4 ?_; (case kb4 => decide +kernel); (case kb1 => decide); (case kb2 => decide); (case kb3 => decide)) | (with_reducible refine powL_K 170141183460469231731687303715884105728 ?kb1 ?kb2 ?kb3 ?kb4 ?_; (case kb4 => decide +kernel); (case kb1 => decide); (case kb2 => decide); (case kb3 => decide)))
  k_with "cell_enter" => ((refine' code_def ?k1 ?k2 ?k3 ?k4 ?k5 ?kA ?kF ?kK ?k6 ?k7 ?k8 ?k9 ?kB ?_ ?c2 ?c3 ?c4 ?c5; (case kA => exact rfl); (case kF => exact rfl); (case kK => first | assumption | exact rfl); (case k1 => k_asm); (case k2 => k_asm); (case k3 => k_asm); (case k4 => k_asm); (case k5 => k_asm); (case k6 => k_is); (case k7 => k_is); (case k8 => ktr_room); (case k9 => first | exact BindsTo.of_eq rfl | exact binds_K (by k_in) rfl (by k_is) rfl rfl rfl); (case c5 => decide); (case kB => exact locs rfl); (case c2 => exact rfl); (case c3 => exact rfl); (case c4 => exact rfl); k_whole; intro g' L' h' FG' F' N' B' X' T'; (try dsimp only); (try k_lift B'); (try k_fold)))
  k_with "ktr_units" => (((try simp only [units_in1, units_deeper, units_under_make, Around.mark_units]); (try dsimp only [ktrTop]); omega))
  k_with "ktr_room" => (((try simp only [depth_mark, depth_under_make, depth_under_kw, depth_in1, depth_deeper]); (try dsimp only [ktrTop]); omega))
  k_with "execs cons" => (k_here; (first | ((with_reducible refine gentok fun tk' => ?_); (with_reducible refine wpAny_execs_cons ?_)) | (with_reducible refine wpAny_execs_cons ?_)); (try dsimp only))
  k_with "execs nil" => (k_here; (refine wpAny_execs_nil ?_))
  k_with "call ref" => (k_here; (with_reducible show wpAny _ _ (call (Value.ref 482) [Value.int _ _, Value.int _ _]) _ _ _); k_dflt (refine' lsign_C ?kB ?kF ?kX ?kN ?kT ?kk ?kn ?kd ?ku ?_; (case kB => k_asm); (case kF => k_asm); (case kX => k_asm); (case kN => k_asm); (case kT => k_asm); (case kk => first | exact rfl | assumption); (case kn => first | omega | decide); (case kd => ktr_room); (case ku => ktr_units)); intro t' h' tk' F' N'; (try dsimp only); (try k_sweep); (try k_fold))
  k_with "compareOp Eq str str" => (k_here; k_dflt (refine' eq_no ?ke ?_; (case ke => with_reducible assumption)))
  k_with "compareOp In str ref" => (k_here; (with_reducible show wpAny _ _ (compareOp CmpOp.In (Value.str _ _) (Value.ref _)) _ _ _); (with_unfolding_all refine' tin_no ?k1 ?k2 ?k3 ?_; (case k1 => exact News.isTup (by k_asm) (by news_mem)); (case k2 => kde_strs); (case k3 => assumption); k_whole))
  k_with "compareOp NotIn str ref" => (k_here; (with_reducible show wpAny _ _ (compareOp CmpOp.NotIn (Value.str _ _) (Value.ref _)) _ _ _); (with_unfolding_all refine' tnot_no ?k1 ?k2 ?k3 ?_; (case k1 => exact News.isTup (by k_asm) (by news_mem)); (case k2 => kde_strs); (case k3 => assumption); k_whole))
  k_with "subscriptTail Name Slice str ref" => (k_here; (with_reducible show wpAny _ _ (subscriptTail _ (Expr.Slice (some _) none none _) _ _) _ _ _); (with_reducible rename Fr _ _ _ _ => F'); (with_reducible rename News _ _ _ _ => N'); (refine slice_strN_sn (hsz := ?hsz) (s := ⟨_, _, _, _, _⟩) F' N' ?_); (case hsz => (rw [sizeLine_eq]; omega)); intro h' t' tk' F' N')
  k_with "subscriptTail Name Slice str ref" => (k_here; (with_reducible show wpAny _ _ (subscriptTail _ (Expr.Slice none (some _) none _) _ _) _ _ _); (with_reducible rename Fr _ _ _ _ => F'); (with_reducible rename News _ _ _ _ => N'); (refine slice_strN_ns (hsz := ?hsz) (s := ⟨_, _, _, _, _⟩) F' N' ?_); (case hsz => (rw [sizeLine_eq]; omega)); intro h' t' tk' F' N')
  k_with "compareOp NotEq str str" => (k_here; k_dflt (refine' ne_yes ?ke ?_; (case ke => with_reducible assumption)))
  k_with "UnrEndW" => (k_here; refine' unrW (off5 (by assumption)) ?uF ?uN ?uI ?us ⟨by k_subL, ?_⟩; (case uF => assumption); (case uN => k_asm); (case uI => ((repeat' (refine fa_cons (by k_mem) ?_)); exact List.forall_mem_nil _)); (case us => ((repeat' (refine fa_cons (by k_mem) ?_)); first | exact List.forall_mem_nil _ | (intro pD hD; repeat (first | exact hD | apply List.Mem.tail)))))
  k_with "UnrEndW" => (k_here; refine' unrW (off1 (by assumption)) ?uF ?uN ?uI ?us ⟨by k_subL, ?_⟩; (case uF => assumption); (case uN => k_asm); (case uI => ((repeat' (refine fa_cons (by k_mem) ?_)); exact List.forall_mem_nil _)); (case us => ((repeat' (refine fa_cons (by k_mem) ?_)); first | exact List.forall_mem_nil _ | (intro pD hD; repeat (first | exact hD | apply List.Mem.tail)))))
  k_with "UnrEnd" => (k_here; refine' unrI ?uo ?uF ?uN ?uI ?us ?_; (case uo => assumption); (case uF => assumption); (case uN => k_asm); (case uI => k_mem); (case us => ((repeat' (refine fa_cons (by k_mem) ?_)); first | exact List.forall_mem_nil _ | (intro pD hD; repeat (first | exact hD | apply List.Mem.tail)))))
  k_with "pyIter ref" => (k_here; (with_reducible show wpAny _ _ (pyIter (Value.ref _)) (fun it s₂ => TurnsAt _ _ _ _ _ _ _ _ _ it s₂) _ _); (rename Fr _ _ _ _ => lF'); (rename News _ _ _ _ => lN'); (with_unfolding_all refine' iter_tupTurns ?h1 lF' lN' ?h2 ?h3 ?h4 ?_; (case h1 => exact rfl); (case h2 => k_mem); (case h3 => exact rfl); (case h4 => exact rfl)); clear lF' lN'; intro i' l1; (try k_lt l1))
  k_with "call ref" => (k_here; (with_reducible show wpAny _ _ (call (Value.ref 350) [Value.ref _, Value.int _ _, Value.int _ _, Value.int _ _]) _ _ _); k_dflt (refine' put4_C ?kB ?kF ?kX ?kN ?k1 ?k2 ?k3 ?kT ?kk ?kM1 ?kM2 ?kR ?ki0 ?ki1 ?kn ?kd ?ku ?_; (case kB => k_asm); (case kF => k_asm); (case kX => k_asm); (case kN => k_asm); (case k1 => k_upd); (case kM1 => first | exact rfl | assumption); (case k2 => k_upd); (case kM2 => first | assumption | exact ⟨_, _, _, _, _, _, _, _, _, _, _, _, _, _, _, _, _, _, _, _, _, _, _, rfl⟩); (case k3 => k_upd); (case kR => assumption); (case kT => k_asm); (case kk => first | exact rfl | assumption); (case ki0 => first | decide | omega); (case ki1 => first | decide | omega); (case kn => first | assumption | omega | decide); (case kd => ktr_room); (case ku => ktr_units)); intro oR' h' tk' F' N' hR'; (try dsimp only); (try k_sweep); (try k_fold))
  k_with "call ref" => (k_here; (with_reducible show wpAny _ _ (call (Value.ref 350) [Value.ref _, Value.int _ _, Value.int _ _]) _ _ _); k_dflt (refine' put3_C ?kB ?kF ?kX ?kN ?k1 ?k2 ?k3 ?kT ?kk ?kM1 ?kM2 ?kR ?ki0 ?ki1 ?kd ?ku ?_; (case kB => k_asm); (case kF => k_asm); (case kX => k_asm); (case kN => k_asm); (case k1 => k_upd); (case kM1 => first | exact rfl | assumption); (case k2 => k_upd); (case kM2 => first | assumption | exact ⟨_, _, _, _, _, _, _, _, _, _, _, _, _, _, _, _, _, _, _, _, _, _, _, rfl⟩); (case k3 => k_upd); (case kR => assumption); (case kT => k_asm); (case kk => first | exact rfl | assumption); (case ki0 => first | decide | omega); (case ki1 => first | decide | omega); (case kd => ktr_room); (case ku => ktr_units)); intro oR' h' tk' F' N' hR'; (try dsimp only); (try k_sweep); (try k_fold))
  k_with "call ref" => (k_here; (with_reducible show wpAny _ _ (call (Value.ref 358) [Value.ref _, Value.int _ _, Value.int _ _]) _ _ _); k_dflt (refine' take_C ?kB ?kF ?kX ?kN ?k1 ?k2 ?k3 ?kT ?kk ?kM1 ?kM2 ?kR ?ki0 ?ki1 ?kn ?kd ?ku ?_; (case kB => k_asm); (case kF => k_asm); (case kX => k_asm); (case kN => k_asm); (case k1 => k_upd); (case kM1 => first | exact rfl | assumption); (case k2 => k_upd); (case kM2 => first | assumption | exact ⟨_, _, _, _, _, _, _, _, _, _, _, _, _, _, _, _, _, _, _, _, _, _, _, rfl⟩); (case k3 => k_upd); (case kR => assumption); (case kT => k_asm); (case kk => first | exact rfl | assumption); (case ki0 => first | decide | omega); (case ki1 => first | decide | omega); (case kn => first | assumption | omega | decide); (case kd => ktr_room); (case ku => ktr_units)); intro t' h' tk' F' N'; (try dsimp only); (try k_sweep); (try k_fold))
  k_with "call ref" => (k_here; (with_reducible show wpAny _ _ (call (Value.ref 461) [Value.ref _, Value.int _ _]) _ _ _); k_dflt (refine' draw_C ?kB ?kF ?kX ?kN ?kPk ?kT ?kk ?kP ?km ?km2 ?kd ?ku ?_; (case kP => assumption); (case kB => k_asm); (case kF => k_asm); (case kX => k_asm); (case kN => k_asm); (case kPk => k_upd); (case kT => k_asm); (case kk => first | exact rfl | assumption); (case km => first | decide | omega); (case km2 => first | decide | omega); (case kd => ktr_room); (case ku => ktr_units)); intro v' t' oP' oL' h' tk' F' N' hP' hlo' hhi'; (try dsimp only); (try k_sweep); (try k_fold))
  k_with "call ref" => (k_here; (with_reducible show wpAny _ _ (call (Value.ref 468) [Value.ref _, Value.ref _]) _ _ _); k_dflt (refine' pick_C ?kB ?kF ?kX ?kN ?kPk ?kT ?kk ?kP ?kI ?km ?km2 ?kd ?ku ?_; (case kP => assumption); (case kB => k_asm); (case kF => k_asm); (case kX => k_asm); (case kN => k_asm); (case kPk => k_upd); (case kT => k_asm); (case kk => first | exact rfl | assumption); (case kI => first | assumption | l_intsW); (case km => first | decide | omega); (case km2 => first | decide | omega); (case kd => ktr_room); (case ku => ktr_units)); intro v' t' oP' oL' h' tk' F' N' hP' hM'; (try dsimp only); (try k_sweep); (try k_fold))
  k_with "ktr_enter" => ((refine' enterX ?k1 ?k2 ?k3 ?kE ?k4 ?k5 ?kXB ?kEB ?kTB ?kA ?kF ?kK ?k6 ?k7 ?k8 ?k9 ?kB ?_ ?c2 ?c3 ?c4 ?c5; (case kA => exact rfl); (case kF => exact rfl); (case kK => assumption); (case k1 => k_asm); (case k2 => k_asm); (case k3 => k_asm); (case kE => k_asm); (case k4 => k_asm); (case k5 => k_asm); (case kXB => k_asm); (case kEB => k_asm); (case kTB => k_asm); (case k6 => k_is); (case k7 => k_is); (case k8 => ktr_room); (case k9 => first | exact BindsTo.of_eq rfl | exact binds_K (by k_in) rfl (by k_is) rfl rfl rfl); (case c5 => decide); (case kB => exact locs rfl); (case c2 => exact rfl); (case c3 => exact rfl); (case c4 => exact rfl); k_whole; intro g' L' h' FG' F' N' B' X' T' E' back'; (try dsimp only); (try k_fold)))
  k_with "leaving ref" => (k_here; (refine' leave_led ?kB ?kF ?kk ?kY ?_; (case kB => k_asm); (case kF => k_asm); (case kY => first | exact Or.inl (by assumption) | exact Or.inr (by assumption)); (case kk => exact rfl); k_whole); intro h' g' T' F' Y' B')
  k_with "exec Raise some none" => (k_here; (refine' raise_K ?kh ?_; (case kh => with_unfolding_all rfl)))
  k_with "call ref" => (k_here; (with_reducible show wpAny _ _ (call (Value.ref 59) [Value.str _ _]) _ _ _); k_dflt (refine' fault_C ?kB ?kF ?kX ?kN ?kT ?kA ?kf ?kK ?kd ?_; (case kA => exact rfl); (case kf => exact rfl); (case kK => first | assumption | exact rfl); (case kB => k_asm); (case kF => k_asm); (case kX => k_asm); (case kN => k_asm); (case kT => k_asm); (case kd => ktr_room)); intro e' dx' t' oe' od' h' tk' F' N' n1' n2' n3' hE'; obtain ⟨⟨sl', hR'⟩, hW'⟩ := hE'; subst hR'; (replace hW' : WhatIs _ _ := (by obtain ⟨q1, q2, t1, t2, t3, n, e⟩ := hW'; exact ⟨q1, q2, t1, t2, t3, n, e⟩)); (have Y' := flyNew_of N' n2' n3'); (try dsimp only); (try k_sweep); (try k_fold))
  k_with "Exists" => (refine ⟨_, _, _, _, rfl, (by k_in), News.get (by k_asm) (by k_mem), ?_⟩)
  k_with "call ref" => (k_here; (with_reducible show wpAny _ _ (call (Value.ref 428) [Value.ref _, Value.ref _]) _ _ _); k_dflt (refine' doAny_X ?kB ?kF ?kX ?kE ?kN ?k1 ?k2 ?k3 ?kT ?kXB ?kEB ?kTB ?kk ?m1 ?m2 ?m3 ?m4 ?kRow ?kK ?kPi ?kM1 ?kM2 ?kR ?kd ?ku (fun oD' oR' h0' h' tk' T' F' B' X' TT' E' N' hM' hR' ok' => ?_) (fun e' dx' od' oD' h0' h' tk' T' F' B' X' TT' E' Y' W' nd' hM' no' => ?_); (case kB => k_asm); (case kF => k_asm); (case kX => k_asm); (case kE => k_asm); (case kN => k_asm); (case k1 => k_upd); (case kM1 => first | exact rfl | assumption); (case k2 => k_upd); (case kM2 => first | assumption | exact ⟨_, _, _, _, _, _, _, _, _, _, _, _, _, _, _, _, _, _, _, _, _, _, _, rfl⟩); (case k3 => k_upd); (case kR => assumption); (case kT => k_asm); (case kXB => k_asm); (case kEB => k_asm); (case kTB => k_asm); (case kk => first | exact rfl | assumption); (case m1 => k_mem); (case kRow => assumption); (case m2 => k_mem); (case m3 => k_mem); (case m4 => k_mem); (case kK => assumption); (case kPi => assumption); (case kd => ktr_room); (case ku => ktr_units)); (all_goals ((try dsimp only); (try k_sweep); (try k_fold))); rotate_left)
  k_with "call ref" => (k_here; (with_reducible show wpAny _ _ (call (Value.ref 435) _) _ _ _); k_dflt (refine' step_X ?kB ?kF ?kX ?kE ?kN ?k1 ?k2 ?k3 ?kT ?kXB ?kEB ?kTB ?kk ?m0 ?m1 ?m2 ?m3 ?m4 ?kget ?klen ?kRow ?kK ?kPi ?kM1 ?kM2 ?kR ?kd ?ku (fun oD' oR' h0' h' tk' T' F' B' X' TT' E' N' hM' hR' ok' => ?_) (fun e' dx' od' oD' h0' h' tk' T' F' B' X' TT' E' Y' W' nd' hM' no' => ?_); (case kB => k_asm); (case kF => k_asm); (case kX => k_asm); (case kE => k_asm); (case kN => k_asm); (case k1 => k_upd); (case kM1 => first | exact rfl | assumption); (case k2 => k_upd); (case kM2 => first | assumption | exact ⟨_, _, _, _, _, _, _, _, _, _, _, _, _, _, _, _, _, _, _, _, _, _, _, rfl⟩); (case k3 => k_upd); (case kR => assumption); (case kT => k_asm); (case kXB => k_asm); (case kEB => k_asm); (case kTB => k_asm); (case kk => first | exact rfl | assumption); (case m0 => k_mem); (case kget => assumption); (case m1 => k_mem); (case kRow => assumption); (case m2 => k_mem); (case m3 => k_mem); (case m4 => k_mem); (case klen => (show _ ≤ 8; omega)); (case kK => assumption); (case kPi => assumption); (case kd => ktr_room); (case ku => ktr_units)); (all_goals ((try dsimp only); (try k_sweep); (try k_fold))); rotate_left)
  k_with "call ref" => (k_here; (with_reducible show wpAny _ _ (call (Value.ref 148) [Value.str _ _, Value.ref _]) _ _ _); k_dflt (refine' row_C ?kB ?kF ?kX ?kN ?kT ?kk ?kd ?ku ?_; (case kB => k_asm); (case kF => k_asm); (case kX => k_asm); (case kN => k_asm); (case kT => k_asm); (case kk => first | exact rfl | assumption); (case kd => ktr_room); (case ku => ktr_units)); intro x' dx' oX' oD' h' tk' F' N' l1 l2 hW'; (try k_lt l1); (try k_lt2 l2); (try dsimp only); (try k_sweep); (try k_fold))
  k_with "getAttr ref" => (k_here; (with_reducible show wpAny _ _ (getAttr (Value.ref _) (Str.ofString "regs") _) _ _ _); k_dflt (refine' get_regs ?k1 ?k2 ?k3 ?k4 ?k5 ?k6 ?_; (case k1 => k_asm); (case k2 => k_asm); (case k3 => k_asm); (case k4 => k_mem); (case k6 => assumption); (case k5 => k_mem); k_whole))
  k_with "getMethod ref" => (k_here; (with_reducible show wpAny _ _ (getMethod (Value.ref _) (Str.ofString "run") _) _ _ _); k_dflt (refine' meth_run ?k1 ?k2 ?k3 ?k4 ?k5 ?k6 ?_; (case k1 => k_asm); (case k2 => k_asm); (case k3 => k_asm); (case k4 => k_mem); (case k6 => assumption); (case k5 => k_mem); k_whole))
  k_with "getAttr ref" => (k_here; (with_reducible show wpAny _ _ (getAttr (Value.ref _) (Str.ofString "kind") _) _ _ _); k_dflt (first | (refine' get_kind_f ?k1 ?k2 ?k3 ?k4 ?k5 ?k6 ?_; (case k1 => k_asm); (case k2 => k_asm); (case k3 => k_asm); (case k6 => assumption); (case k4 => k_mem); (case k5 => k_mem); k_whole) | (refine' get_kind_t ?k1 ?k2 ?k3 ?k4 ?k5 ?k6 ?_; (case k1 => k_asm); (case k2 => k_asm); (case k3 => k_asm); (case k6 => assumption); (case k4 => k_mem); (case k5 => k_mem); k_whole)); intro t')
  k_with "getAttr ref" => (k_here; (with_reducible show wpAny _ _ (getAttr (Value.ref _) (Str.ofString "what") _) _ _ _); k_dflt (refine' get_what_t ?k1 ?k2 ?k3 ?k4 ?k5 ?k6 ?_; (case k1 => k_asm); (case k2 => k_asm); (case k3 => k_asm); (case k6 => assumption); (case k4 => k_mem); (case k5 => k_mem); k_whole); intro t')
  k_with "call type:list" => (k_here; (with_reducible show wpAny _ _ (call (Value.type _) [Value.ref _]) _ _ _); k_dflt (refine' list_regs ?k1 ?k2 ?k3 ?k4 ?_; (case k1 => k_asm); (case k2 => k_asm); (case k3 => k_mem); (case k4 => assumption); k_whole); intro D' oH' h' F' N' l1 hH'; (try k_lt l1); (try k_sweep))
  k_with "compareOp Eq ref ref" => (k_here; k_dflt (refine' eq_regs ?k1 ?k2 ?k3 ?k4 ?k5 ?k6 ?_; (case k1 => k_asm); (case k2 => k_mem); (case k3 => k_mem); (case k4 => assumption); (case k5 => assumption); (case k6 => ktr_units); k_whole))
  k_with "binaryOp Pow int int" => (k_here; (with_reducible show wpAny _ _ (binaryOp Operator.Pow (Value.int 2 _) (Value.int _ _)) _ _ _); (with_reducible refine pow_n (by assumption) ?_))
  k_with "binaryOp Mod int int" => (k_here; (with_reducible show wpAny _ _ (binaryOp Operator.Mod (Value.int _ _) (Value.int (2 ^ Int.toNat _) _)) _ _ _); (with_reducible refine mod_n ?_))
  k_with "subscriptTail" => (k_here; (with_reducible show wpAny _ _ (subscriptTail _ _ (Value.ref _) (Value.int _ _)) _ _ _); k_dflt (refine' regs_get ?k1 ?k2 ?k3 ?k4 ?k5 ?_ ?k6; (case k1 => k_asm); (case k2 => k_mem); (case k3 => assumption); (case k4 => first | assumption | decide | omega); (case k5 => first | assumption | decide | omega); (case k6 => with_unfolding_all rfl); k_whole); intro t' b0' b1')
  k_with "setItem ref int" => (k_here; (with_reducible show wpAny _ _ (PySem.setItem (Value.ref _) (Value.int _ _) (Value.int _ _)) _ _ _); k_dflt (refine' regs_set ?k1 ?k2 ?k3 ?k4 ?k5 ?k6 ?k7 ?k8 ?_; (case k1 => k_asm); (case k2 => k_asm); (case k3 => k_updF); (case k4 => assumption); (case k5 => first | decide | omega); (case k6 => first | decide | omega); (case k7 => first | decide | assumption | exact (pow_bnd (by assumption)).1); (case k8 => first | decide | assumption | exact (pow_bnd (by assumption)).2); k_whole); intro h' o' F' N' hR'; (try dsimp only at N'); (try k_sweep))
  trivial
set_option maxHeartbeats 8000000 in
theorem segC {w : World} {mean : ExcName → Option Value} {mg mb mp : Str → Option Value} {dp un : Nat} {gd : Option (List Code)} {cn : Str} {cs : Scope} {a : Addr} {ccd : Value} {cl : List (Str × Addr)} {outer : List Env} {base g : Heap} {L L' : Addr} {s : Shared} {Q : Flow → Shared → Prop} {E : Value → Shared → Prop}
    {M dM R pl RW : Addr} {oD oR oPl : Obj} {vx : Option Value} {restC : List (Addr × Obj)} {n r : Int} {tn tr : Tok} {sg hs : Bool} {rows : List Value} {kk : Nat} {rs : List Int}
    (B : Below (ktrTop dp un gd cn cs L a ccd cl outer) base (envX cn cs L a ccd cl :: outer) g) (F : Fr g L' s.heap (fun y => if y = Str.ofString "number" then vx else if y = Str.ofString "regs" then some (.ref R) else if y = Str.ofString "machine" then some (.ref M) else if y = Str.ofString "rows" then some (.ref RW) else if y = Str.ofString "reg" then some (.int r tr) else if y = Str.ofString "size" then some (.int n tn) else if y = Str.ofString "is_signed" then some (.bool sg) else if y = Str.ofString "has_sign_row" then some (.bool hs) else mp y)) (X : (hd.heap_1 w.params).In g) (XE : Ext w g) (N : News g L' s.heap ((R, oR) :: (M, instObj 445 dM) :: (dM, oD) :: restC)) (T : Top qv Lo mean mg mb g) (XB : (hd.heap_1 w.params).In base) (EB : Ext w base) (TB : Top qv Lo mean mg mb base)
    (hM : MachD RW R pl 0 0 false oD) (hR : RegsAre rs oR) (hPi : PileIs oPl) (m4 : (pl, oPl) ∈ restC) (hRW : (RW, listOf rows.toArray kk) ∈ restC) (hlen : rows.length = (ksOf hs sg n r).length) (hprog : ProgAt restC rows (ksOf hs sg n r)) (hn : n = 32 ∨ n = 64) (hr0 : 0 ≤ r) (hr1 : r < 16) (e1 : @Ne Nat dM M) (e2 : @Ne Nat R M) (e3 : @Ne Nat R dM) (nM : ∀ q ∈ restC, q.1 ≠ M) (ndM : ∀ q ∈ restC, q.1 ≠ dM) (nR : ∀ q ∈ restC, q.1 ≠ R)
    (hE : PassesOwn (model Challenge.rw_ok0167_01.prog w) ((ktrTop dp un gd cn cs L a ccd cl outer).deeper (env510 L')) (env510 L') E) (hdp : dp + 130 ≤ 500) (hun : un + 3400 ≤ 5000)
    (hret : ∀ g' h' tk' m', KtsTurn (frs (envX cn cs L a ccd cl :: outer)) g g' → Fr g' L' h' m' → News g' L' h' restC → Q (.ret (.bool true)) { s with heap := h', toks := tk' }) :
    wpAny (model Challenge.rw_ok0167_01.prog w) ((ktrTop dp un gd cn cs L a ccd cl outer).deeper (env510 L')) (execs (tl510 w 8) (env510 L')) Q E s := by
  have hrl9 : recursionLimit = 1000 := rfl
  have hcl9 : cLine = 9900 := rfl
  dsimp only [tl510, bod510, List.drop]
  (repeat' ((fail_if_success (with_reducible show wpAny _ _ (exec (Stmt.If _ _ _ _) _) _ _ _)); (first | (k_unfold; (try dsimp only)) | walk1 | (dsimp only; walk1))))
  rename Fr _ _ _ _ => F9
  have lH : ∀ q ∈ (R, oR) :: (M, instObj 445 dM) :: (dM, oD) :: restC, @LT.lt Nat _ q.1 D' := by assumption
  refine join_held D' ((R, oR) :: (M, instObj 445 dM) :: (dM, oD) :: restC) (hdOf hs n rs) F9 ?_ ?_
  · cases hs
    · k_steps
      exact JHeld.mk (by assumption) (by ktr_rel) (by assumption) rfl
    · k_steps
      · exact JHeld.mk (by assumption) (by ktr_rel) (by assumption) (hd_t (by assumption))
      · exact JHeld.mk (by assumption) (by ktr_rel) (by assumption) (hd_f (by assumption))
  clear F9
  intro h9 tk9 oH9 F9 N9 hH9
  (try k_unfold)
  (try dsimp only)
  exact segD (H := D') (oH := oH9) (M := M) (dM := dM) (R := R) (oD := oD) (oR := oR) (pl := pl) (oPl := oPl) (restC := restC) B F9 X XE N9 T XB EB TB hH9 (Nat.ne_of_gt (lH _ (.head _))) (Nat.ne_of_gt (lH _ (.tail _ (.head _)))) (Nat.ne_of_gt (lH _ (.tail _ (.tail _ (.head _))))) (fun q hq => Nat.ne_of_lt (lH q (.tail _ (.tail _ (.tail _ hq))))) hM hR hPi m4 hRW hlen hprog hn hr0 hr1 e1 e2 e3 nM ndM nR rfl hE hdp hun hret
end

-- Cb
theorem zrCb : True := by first | (row_walk; done) | trivial
section
theorem zz52 : True := by
  k_with_none
  k_with "k_all" => ((intro pA hA; refine neN (Nat.ne_of_lt ?_); refine (by assumption : ∀ p ∈ _, p.1 < _) pA ?_; (repeat (first | exact hA | apply List.Mem.tail)); done))
  k_with "k_all" => (with_reducible assumption)
  k_with "k_upd" => ((first | exact Picks.nil | (refine' Picks.cons ?kuc ?kud; (case kuc => k_upd); (case kud => k_upd)) | (refine' Pick.head ?kua; (case kua => k_all)) | (refine' Pick.tail ?kua ?kub; (case kua => k_ne); (case kub => k_upd)) | (refine' Upd.head ?kua; (case kua => k_all)) | (refine' Upd.tail ?kua ?kub; (case kua => k_ne); (case kub => k_upd))))
  k_with "ktr_rel" => ((refine cb_drop (by assumption) ?_; (repeat' (refine fa_cons (by k_mem) ?_)); first | exact List.forall_mem_nil _ | (intro pD hD; repeat (first | exact hD | apply List.Mem.tail))))
  k_with "compareOp NotEq ref ref" => (k_here; k_dflt (refine' ne_K ?k1 ?k2 ?k3 ?k4 ?k5 ?k6 ?_; (case k1 => k_asm); (case k2 => k_mem); (case k3 => k_mem); (case k4 => l_intsC); (case k5 => l_intsC); (case k6 => ktr_units); k_whole))
  k_with "binaryOp FloorDiv int int" => (k_here; (with_reducible refine floordiv_int ?ke ?_ (Or.inl (noPy ?kp ?kq))); (case ke => first | omega | (split <;> omega)); (case kp => first | omega | (split <;> omega)); (case kq => first | omega | (split <;> omega)))
  k_with "call builtin:list.pop" => (k_here; k_dflt (refine' pop0_K ?k1 ?k2 ?k3 ?k4 ?_; (case k1 => k_asm); (case k2 => k_asm); (case k3 => k_upd); (case k4 => omega); k_whole); intro h' F' N')
  k_with "binaryOp Pow int int" => (k_here; first | (with_reducible refine powL_K 18446744073709551616 ?kb1 ?kb2 ?kb3 ?kb4 ?_; (case kb4 => decide +kernel); (case kb1 => decide); (case kb2 => decide); (case kb3 => decide)) | (with_reducible refine powL_K 9223372036854775808 ?kb1 ?kb2 ?kb3 ?kb4 ?_; (case kb4 => decide +kernel); (case kb1 => decide); (case kb2 => decide); (case kb3 => decide)) | (with_reducible refine powL_K 4294967296 ?kb1 ?kb2 ?kb3 ?kb4 ?_; (case kb4 => decide +kernel); (case kb1 => decide); (case kb2 => decide); (case kb3 => decide)) | (with_reducible refine powL_K 2147483648 ?kb1 ?kb2 ?kb3 ?kb4 ?_; (case kb4 => decide +kernel); (case kb1 => decide); (case kb2 => decide); (case kb3 => decide)) | (with_reducible refine powL_K 340282366920938463463374607431768211456 ?kb1 ?kb2 ?kb3 ?kb4 ?_; (case kb4 => decide +kernel); (case kb1 => decide); (case kb2 => decide); (case kb3 => decide)) | (with_reducible refine powL_K 170141183460469231731687303715884105728 ?kb1 ?kb2 ?kb3 ?kb4 ?_; (case kb4 => decide +kernel); (case kb1 => decide); (case kb2 => decide); (case kb3 => decide)))
  k_with "cell_enter" => ((refine' code_def ?k1 ?k2 ?k3 ?k4 ?k5 ?kA ?kF ?kK ?k6 ?k7 ?k8 ?k9 ?kB ?_ ?c2 ?c3 ?c4 ?c5; (case kA => exact rfl); (case kF => exact rfl); (case kK => first | assumption | exact rfl); (case k1 => k_asm); (case k2 => k_asm); (case k3 => k_asm); (case k4 => k_asm); (case k5 => k_asm); (case k6 => k_is); (case k7 => k_is); (case k8 => ktr_room); (case k9 => first | exact BindsTo.of_eq rfl | exact binds_K (by k_in) rfl (by k_is) rfl rfl rfl); (case c5 => decide); (case kB => exact locs rfl); (case c2 => exact rfl); (case c3 => exact rfl); (case c4 => exact rfl); k_whole; intro g' L' h' FG' F' N' B' X' T'; (try dsimp only); (try k_lift B'); (try k_fold)))
  k_with "ktr_units" => (((try simp only [units_in1, units_deeper, units_under_make, Around.mark_units]); (try dsimp only [ktrTop]); omega))
  k_with "ktr_room" => (((try simp only [depth_mark, depth_under_make, depth_under_kw, depth_in1, depth_deeper]); (try dsimp only [ktrTop]); omega))
  k_with "execs cons" => (k_here; (first | ((with_reducible refine gentok fun tk' => ?_); (with_reducible refine wpAny_execs_cons ?_)) | (with_reducible refine wpAny_execs_cons ?_)); (try dsimp only))
  k_with "execs nil" => (k_here; (refine wpAny_execs_nil ?_))
  k_with "call ref" => (k_here; (with_reducible show wpAny _ _ (call (Value.ref 482) [Value.int _ _, Value.int _ _]) _ _ _); k_dflt (refine' lsign_C ?kB ?kF ?kX ?kN ?kT ?kk ?kn ?kd ?ku ?_; (case kB => k_asm); (case kF => k_asm); (case kX => k_asm); (case kN => k_asm); (case kT => k_asm); (case kk => first | exact rfl | assumption); (case kn => first | omega | decide); (case kd => ktr_room); (case ku => ktr_units)); intro t' h' tk' F' N'; (try dsimp only); (try k_sweep); (try k_fold))
  k_with "compareOp Eq str str" => (k_here; k_dflt (refine' eq_no ?ke ?_; (case ke => with_reducible assumption)))
  k_with "compareOp In str ref" => (k_here; (with_reducible show wpAny _ _ (compareOp CmpOp.In (Value.str _ _) (Value.ref _)) _ _ _); (with_unfolding_all refine' tin_no ?k1 ?k2 ?k3 ?_; (case k1 => exact News.isTup (by k_asm) (by news_mem)); (case k2 => kde_strs); (case k3 => assumption); k_whole))
  k_with "compareOp NotIn str ref" => (k_here; (with_reducible show wpAny _ _ (compareOp CmpOp.NotIn (Value.str _ _) (Value.ref _)) _ _ _); (with_unfolding_all refine' tnot_no ?k1 ?k2 ?k3 ?_; (case k1 => exact News.isTup (by k_asm) (by news_mem)); (case k2 => kde_strs); (case k3 => assumption); k_whole))
  k_with "subscriptTail Name Slice str ref" => (k_here; (with_reducible show wpAny _ _ (subscriptTail _ (Expr.Slice (some _) none none _) _ _) _ _ _); (with_reducible rename Fr _ _ _ _ => F'); (with_reducible rename News _ _ _ _ => N'); (refine slice_strN_sn (hsz := ?hsz) (s := ⟨_, _, _, _, _⟩) F' N' ?_); (case hsz => (rw [sizeLine_eq]; omega)); intro h' t' tk' F' N')
  k_with "subscriptTail Name Slice str ref" => (k_here; (with_reducible show wpAny _ _ (subscriptTail _ (Expr.Slice none (some _) none _) _ _) _ _ _); (with_reducible rename Fr _ _ _ _ => F'); (with_reducible rename News _ _ _ _ => N'); (refine slice_strN_ns (hsz := ?hsz) (s := ⟨_, _, _, _, _⟩) F' N' ?_); (case hsz => (rw [sizeLine_eq]; omega)); intro h' t' tk' F' N')
  k_with "compareOp NotEq str str" => (k_here; k_dflt (refine' ne_yes ?ke ?_; (case ke => with_reducible assumption)))
  k_with "UnrEndW" => (k_here; refine' unrW (off5 (by assumption)) ?uF ?uN ?uI ?us ⟨by k_subL, ?_⟩; (case uF => assumption); (case uN => k_asm); (case uI => ((repeat' (refine fa_cons (by k_mem) ?_)); exact List.forall_mem_nil _)); (case us => ((repeat' (refine fa_cons (by k_mem) ?_)); first | exact List.forall_mem_nil _ | (intro pD hD; repeat (first | exact hD | apply List.Mem.tail)))))
  k_with "UnrEndW" => (k_here; refine' unrW (off1 (by assumption)) ?uF ?uN ?uI ?us ⟨by k_subL, ?_⟩; (case uF => assumption); (case uN => k_asm); (case uI => ((repeat' (refine fa_cons (by k_mem) ?_)); exact List.forall_mem_nil _)); (case us => ((repeat' (refine fa_cons (by k_mem) ?_)); first | exact List.forall_mem_nil _ | (intro pD hD; repeat (first | exact hD | apply List.Mem.tail)))))
  k_with "UnrEnd" => (k_here; refine' unrI ?uo ?uF ?uN ?uI ?us ?_; (case uo => assumption); (case uF => assumption); (case uN => k_asm); (case uI => k_mem); (case us => ((repeat' (refine fa_cons (by k_mem) ?_)); first | exact List.forall_mem_nil _ | (intro pD hD; repeat (first | exact hD | apply List.Mem.tail)))))
  k_with "pyIter ref" => (k_here; (with_reducible show wpAny _ _ (pyIter (Value.ref _)) (fun it s₂ => TurnsAt _ _ _ _ _ _ _ _ _ it s₂) _ _); (rename Fr _ _ _ _ => lF'); (rename News _ _ _ _ => lN'); (with_unfolding_all refine' iter_tupTurns ?h1 lF' lN' ?h2 ?h3 ?h4 ?_; (case h1 => exact rfl); (case h2 => k_mem); (case h3 => exact rfl); (case h4 => exact rfl)); clear lF' lN'; intro i' l1; (try k_lt l1))
  k_with "call ref" => (k_here; (with_reducible show wpAny _ _ (call (Value.ref 350) [Value.ref _, Value.int _ _, Value.int _ _, Value.int _ _]) _ _ _); k_dflt (refine' put4_C ?kB ?kF ?kX ?kN ?k1 ?k2 ?k3 ?kT ?kk ?kM1 ?kM2 ?kR ?ki0 ?ki1 ?kn ?kd ?ku ?_; (case kB => k_asm); (case kF => k_asm); (case kX => k_asm); (case kN => k_asm); (case k1 => k_upd); (case kM1 => first | exact rfl | assumption); (case k2 => k_upd); (case kM2 => first | assumption | exact ⟨_, _, _, _, _, _, _, _, _, _, _, _, _, _, _, _, _, _, _, _, _, _, _, rfl⟩); (case k3 => k_upd); (case kR => assumption); (case kT => k_asm); (case kk => first | exact rfl | assumption); (case ki0 => first | decide | omega); (case ki1 => first | decide | omega); (case kn => first | assumption | omega | decide); (case kd => ktr_room); (case ku => ktr_units)); intro oR' h' tk' F' N' hR'; (try dsimp only); (try k_sweep); (try k_fold))
  k_with "call ref" => (k_here; (with_reducible show wpAny _ _ (call (Value.ref 350) [Value.ref _, Value.int _ _, Value.int _ _]) _ _ _); k_dflt (refine' put3_C ?kB ?kF ?kX ?kN ?k1 ?k2 ?k3 ?kT ?kk ?kM1 ?kM2 ?kR ?ki0 ?ki1 ?kd ?ku ?_; (case kB => k_asm); (case kF => k_asm); (case kX => k_asm); (case kN => k_asm); (case k1 => k_upd); (case kM1 => first | exact rfl | assumption); (case k2 => k_upd); (case kM2 => first | assumption | exact ⟨_, _, _, _, _, _, _, _, _, _, _, _, _, _, _, _, _, _, _, _, _, _, _, rfl⟩); (case k3 => k_upd); (case kR => assumption); (case kT => k_asm); (case kk => first | exact rfl | assumption); (case ki0 => first | decide | omega); (case ki1 => first | decide | omega); (case kd => ktr_room); (case ku => ktr_units)); intro oR' h' tk' F' N' hR'; (try dsimp only); (try k_sweep); (try k_fold))
  k_with "call ref" => (k_here; (with_reducible show wpAny _ _ (call (Value.ref 358) [Value.ref _, Value.int _ _, Value.int _ _]) _ _ _); k_dflt (refine' take_C ?kB ?kF ?kX ?kN ?k1 ?k2 ?k3 ?kT ?kk ?kM1 ?kM2 ?kR ?ki0 ?ki1 ?kn ?kd ?ku ?_; (case kB => k_asm); (case kF => k_asm); (case kX => k_asm); (case kN => k_asm); (case k1 => k_upd); (case kM1 => first | exact rfl | assumption); (case k2 => k_upd); (case kM2 => first | assumption | exact ⟨_, _, _, _, _, _, _, _, _, _, _, _, _, _, _, _, _, _, _, _, _, _, _, rfl⟩); (case k3 => k_upd); (case kR => assumption); (case kT => k_asm); (case kk => first | exact rfl | assumption); (case ki0 => first | decide | omega); (case ki1 => first | decide | omega); (case kn => first | assumption | omega | decide); (case kd => ktr_room); (case ku => ktr_units)); intro t' h' tk' F' N'; (try dsimp only); (try k_sweep); (try k_fold))
  k_with "call ref" => (k_here; (with_reducible show wpAny _ _ (call (Value.ref 461) [Value.ref _, Value.int _ _]) _ _ _); k_dflt (refine' draw_C ?kB ?kF ?kX ?kN ?kPk ?kT ?kk ?kP ?km ?km2 ?kd ?ku ?_; (case kP => assumption); (case kB => k_asm); (case kF => k_asm); (case kX => k_asm); (case kN => k_asm); (case kPk => k_upd); (case kT => k_asm); (case kk => first | exact rfl | assumption); (case km => first | decide | omega); (case km2 => first | decide | omega); (case kd => ktr_room); (case ku => ktr_units)); intro v' t' oP' oL' h' tk' F' N' hP' hlo' hhi'; (try dsimp only); (try k_sweep); (try k_fold))
  k_with "call ref" => (k_here; (with_reducible show wpAny _ _ (call (Value.ref 468) [Value.ref _, Value.ref _]) _ _ _); k_dflt (refine' pick_C ?kB ?kF ?kX ?kN ?kPk ?kT ?kk ?kP ?kI ?km ?km2 ?kd ?ku ?_; (case kP => assumption); (case kB => k_asm); (case kF => k_asm); (case kX => k_asm); (case kN => k_asm); (case kPk => k_upd); (case kT => k_asm); (case kk => first | exact rfl | assumption); (case kI => first | assumption | l_intsW); (case km => first | decide | omega); (case km2 => first | decide | omega); (case kd => ktr_room); (case ku => ktr_units)); intro v' t' oP' oL' h' tk' F' N' hP' hM'; (try dsimp only); (try k_sweep); (try k_fold))
  k_with "ktr_enter" => ((refine' enterX ?k1 ?k2 ?k3 ?kE ?k4 ?k5 ?kXB ?kEB ?kTB ?kA ?kF ?kK ?k6 ?k7 ?k8 ?k9 ?kB ?_ ?c2 ?c3 ?c4 ?c5; (case kA => exact rfl); (case kF => exact rfl); (case kK => assumption); (case k1 => k_asm); (case k2 => k_asm); (case k3 => k_asm); (case kE => k_asm); (case k4 => k_asm); (case k5 => k_asm); (case kXB => k_asm); (case kEB => k_asm); (case kTB => k_asm); (case k6 => k_is); (case k7 => k_is); (case k8 => ktr_room); (case k9 => first | exact BindsTo.of_eq rfl | exact binds_K (by k_in) rfl (by k_is) rfl rfl rfl); (case c5 => decide); (case kB => exact locs rfl); (case c2 => exact rfl); (case c3 => exact rfl); (case c4 => exact rfl); k_whole; intro g' L' h' FG' F' N' B' X' T' E' back'; (try dsimp only); (try k_fold)))
  k_with "leaving ref" => (k_here; (refine' leave_led ?kB ?kF ?kk ?kY ?_; (case kB => k_asm); (case kF => k_asm); (case kY => first | exact Or.inl (by assumption) | exact Or.inr (by assumption)); (case kk => exact rfl); k_whole); intro h' g' T' F' Y' B')
  k_with "exec Raise some none" => (k_here; (refine' raise_K ?kh ?_; (case kh => with_unfolding_all rfl)))
  k_with "call ref" => (k_here; (with_reducible show wpAny _ _ (call (Value.ref 59) [Value.str _ _]) _ _ _); k_dflt (refine' fault_C ?kB ?kF ?kX ?kN ?kT ?kA ?kf ?kK ?kd ?_; (case kA => exact rfl); (case kf => exact rfl); (case kK => first | assumption | exact rfl); (case kB => k_asm); (case kF => k_asm); (case kX => k_asm); (case kN => k_asm); (case kT => k_asm); (case kd => ktr_room)); intro e' dx' t' oe' od' h' tk' F' N' n1' n2' n3' hE'; obtain ⟨⟨sl', hR'⟩, hW'⟩ := hE'; subst hR'; (replace hW' : WhatIs _ _ := (by obtain ⟨q1, q2, t1, t2, t3, n, e⟩ := hW'; exact ⟨q1, q2, t1, t2, t3, n, e⟩)); (have Y' := flyNew_of N' n2' n3'); (try dsimp only); (try k_sweep); (try k_fold))
  k_with "Exists" => (refine ⟨_, _, _, _, rfl, (by k_in), News.get (by k_asm) (by k_mem), ?_⟩)
  k_with "call ref" => (k_here; (with_reducible show wpAny _ _ (call (Value.ref 428) [Value.ref _, Value.ref _]) _ _ _); k_dflt (refine' doAny_X ?kB ?kF ?kX ?kE ?kN ?k1 ?k2 ?k3 ?kT ?kXB ?kEB ?kTB ?kk ?m1 ?m2 ?m3 ?m4 ?kRow ?kK ?kPi ?kM1 ?kM2 ?kR ?kd ?ku (fun oD' oR' h0' h' tk' T' F' B' X' TT' E' N' hM' hR' ok' => ?_) (fun e' dx' od' oD' h0' h' tk' T' F' B' X' TT' E' Y' W' nd' hM' no' => ?_); (case kB => k_asm); (case kF => k_asm); (case kX => k_asm); (case kE => k_asm); (case kN => k_asm); (case k1 => k_upd); (case kM1 => first | exact rfl | assumption); (case k2 => k_upd); (case kM2 => first | assumption | exact ⟨_, _, _, _, _, _, _, _, _, _, _, _, _, _, _, _, _, _, _, _, _, _, _, rfl⟩); (case k3 => k_upd); (case kR => assumption); (case kT => k_asm); (case kXB => k_asm); (case kEB => k_asm); (case kTB => k_asm); (case kk => first | exact rfl | assumption); (case m1 => k_mem); (case kRow => assumption); (case m2 => k_mem); (case m3 => k_mem); (case m4 => k_mem); (case kK => assumption); (case kPi => assumption); (case kd => ktr_room); (case ku => ktr_units)); (all_goals ((try dsimp only); (try k_sweep); (try k_fold))); rotate_left)
  k_with "call ref" => (k_here; (with_reducible show wpAny _ _ (call (Value.ref 148) [Value.str _ _, Value.ref _]) _ _ _); k_dflt (refine' row_C ?kB ?kF ?kX ?kN ?kT ?kk ?kd ?ku ?_; (case kB => k_asm); (case kF => k_asm); (case kX => k_asm); (case kN => k_asm); (case kT => k_asm); (case kk => first | exact rfl | assumption); (case kd => ktr_room); (case ku => ktr_units)); intro x' dx' oX' oD' h' tk' F' N' l1 l2 hW'; (try k_lt l1); (try k_lt2 l2); (try dsimp only); (try k_sweep); (try k_fold))
  k_with "getAttr ref" => (k_here; (with_reducible show wpAny _ _ (getAttr (Value.ref _) (Str.ofString "regs") _) _ _ _); k_dflt (refine' get_regs ?k1 ?k2 ?k3 ?k4 ?k5 ?k6 ?_; (case k1 => k_asm); (case k2 => k_asm); (case k3 => k_asm); (case k4 => k_mem); (case k6 => assumption); (case k5 => k_mem); k_whole))
  k_with "getMethod ref" => (k_here; (with_reducible show wpAny _ _ (getMethod (Value.ref _) (Str.ofString "run") _) _ _ _); k_dflt (refine' meth_run ?k1 ?k2 ?k3 ?k4 ?k5 ?k6 ?_; (case k1 => k_asm); (case k2 => k_asm); (case k3 => k_asm); (case k4 => k_mem); (case k6 => assumption); (case k5 => k_mem); k_whole))
  k_with "getAttr ref" => (k_here; (with_reducible show wpAny _ _ (getAttr (Value.ref _) (Str.ofString "kind") _) _ _ _); k_dflt (first | (refine' get_kind_f ?k1 ?k2 ?k3 ?k4 ?k5 ?k6 ?_; (case k1 => k_asm); (case k2 => k_asm); (case k3 => k_asm); (case k6 => assumption); (case k4 => k_mem); (case k5 => k_mem); k_whole) | (refine' get_kind_t ?k1 ?k2 ?k3 ?k4 ?k5 ?k6 ?_; (case k1 => k_asm); (case k2 => k_asm); (case k3 => k_asm); (case k6 => assumption); (case k4 => k_mem); (case k5 => k_mem); k_whole)); intro t')
  k_with "getAttr ref" => (k_here; (with_reducible show wpAny _ _ (getAttr (Value.ref _) (Str.ofString "what") _) _ _ _); k_dflt (refine' get_what_t ?k1 ?k2 ?k3 ?k4 ?k5 ?k6 ?_; (case k1 => k_asm); (case k2 => k_asm); (case k3 => k_asm); (case k6 => assumption); (case k4 => k_mem); (case k5 => k_mem); k_whole); intro t')
  k_with "call type:list" => (k_here; (with_reducible show wpAny _ _ (call (Value.type _) [Value.ref _]) _ _ _); k_dflt (refine' list_regs ?k1 ?k2 ?k3 ?k4 ?_; (case k1 => k_asm); (case k2 => k_asm); (case k3 => k_mem); (case k4 => assumption); k_whole); intro D' oH' h' F' N' l1 hH'; (try k_lt l1); (try k_sweep))
  k_with "compareOp Eq ref ref" => (k_here; k_dflt (refine' eq_regs ?k1 ?k2 ?k3 ?k4 ?k5 ?k6 ?_; (case k1 => k_asm); (case k2 => k_mem); (case k3 => k_mem); (case k4 => assumption); (case k5 => assumption); (case k6 => ktr_units); k_whole))
  k_with "exec For Name Tuple cons nil" => (k_here; (rename Fr _ _ _ _ => lF'); (with_unfolding_all refine' For_turns lF' ?_ (hE := hE); k_whole))
  k_with "compareOp Eq int int" => (k_here; (with_reducible show wpAny _ _ (compareOp CmpOp.Eq (Value.int _ _) (Value.int 0 _)) _ _ _); (refine eq_letter ?_); intro hz)
  k_with "call ref" => (k_here; (with_reducible show wpAny _ _ (call (Value.ref 445) [Value.ref _, Value.int 77 _]) _ _ _); k_dflt (refine' mach_C (rows := rows) (k := kk) ?kB ?kF ?kX ?kN ?kT ?kk ?km ?kr ?kl ?kd ?ku ?_; (case kB => k_asm); (case kF => k_asm); (case kX => k_asm); (case kN => k_asm); (case kT => k_asm); (case kk => first | exact rfl | assumption); (case km => repeat (first | exact hRW | apply List.Mem.tail)); (case kr => exact fun v hv => (hrows v hv).sub (by intro pD hD; repeat (first | exact hD | apply List.Mem.tail))); (case kl => assumption); (case kd => ktr_room); (case ku => ktr_units)); intro M dM R pl oM oD oR oPl h' tk' F' N' l1 l2 l3 l4 hM' hR' hPl'; (obtain ⟨rfl, hM'⟩ := hM'); (try dsimp only); (try k_sweep); (try k_fold))
  k_with "call ref" => (k_here; (with_reducible show wpAny _ _ (call (Value.ref 475) [Value.ref _]) _ _ _); k_dflt (refine' half_C ?kB ?kF ?kX ?kN ?kPk ?kT ?kk ?kP ?kd ?ku ?_; (case kP => assumption); (case kB => k_asm); (case kF => k_asm); (case kX => k_asm); (case kN => k_asm); (case kPk => k_upd); (case kT => k_asm); (case kk => first | exact rfl | assumption); (case kd => ktr_room); (case ku => ktr_units)); intro v' t' oP' oL' h' tk' F' N' hP' hlo' hhi'; (try dsimp only); (try k_sweep); (try k_fold))
  k_with "setItem ref int" => (k_here; (with_reducible show wpAny _ _ (PySem.setItem (Value.ref _) (Value.int _ _) (Value.int _ _)) _ _ _); k_dflt (refine' regs_set ?k1 ?k2 ?k3 ?k4 ?k5 ?k6 ?k7 ?k8 ?_; (case k1 => k_asm); (case k2 => k_asm); (case k3 => k_updF); (case k4 => assumption); (case k5 => omega); (case k6 => omega); (case k7 => first | omega | exact (mem3 (by assumption) (by decide) (by decide)).1); (case k8 => first | omega | exact (mem3 (by assumption) (by decide) (by decide)).2); k_whole); intro h' o' F' N' hR'; (try dsimp only at N'); (try k_sweep))
  k_with "eval Name" => (k_here; (with_reducible show wpAny _ _ (eval (Expr.Name (Str.ofString "pen") _) _) _ _ _); k_dflt (refine' ld (v := Value.ref P) ?k1 ?k2 ?_; (case k1 => k_asm); (case k2 => exact hmp); k_whole))
  trivial
set_option maxHeartbeats 8000000 in
theorem segB {w : World} {mean : ExcName → Option Value} {mg mb mp : Str → Option Value} {dp un : Nat} {gd : Option (List Code)} {cn : Str} {cs : Scope} {a : Addr} {ccd : Value} {cl : List (Str × Addr)} {outer : List Env} {base g : Heap} {L L' : Addr} {s : Shared} {Q : Flow → Shared → Prop} {E : Value → Shared → Prop}
    {P l RW : Addr} {oP oL : Obj} {rest : List (Addr × Obj)} {b n r : Int} {tn tr : Tok} {sg hs : Bool} {rows : List Value} {kk : Nat}
    (B : Below (ktrTop dp un gd cn cs L a ccd cl outer) base (envX cn cs L a ccd cl :: outer) g) (F : Fr g L' s.heap (fun y => if y = Str.ofString "rows" then some (.ref RW) else if y = Str.ofString "reg" then some (.int r tr) else if y = Str.ofString "size" then some (.int n tn) else if y = Str.ofString "is_signed" then some (.bool sg) else if y = Str.ofString "has_sign_row" then some (.bool hs) else mp y)) (X : (hd.heap_1 w.params).In g) (XE : Ext w g) (N : News g L' s.heap ((P, oP) :: (l, oL) :: rest)) (T : Top qv Lo mean mg mb g) (XB : (hd.heap_1 w.params).In base) (EB : Ext w base) (TB : Top qv Lo mean mg mb base)
    (hmp : mp (Str.ofString "pen") = some (.ref P)) (hPl : @Ne Nat l P) (hrP : ∀ q ∈ rest, q.1 ≠ P) (hrl : ∀ q ∈ rest, q.1 ≠ l) (hP : PenIs l b oP oL) (hRW : (RW, listOf rows.toArray kk) ∈ rest) (hlen : rows.length = (ksOf hs sg n r).length) (hprog : ProgAt rest rows (ksOf hs sg n r)) (hn : n = 32 ∨ n = 64) (hr0 : 0 ≤ r) (hr1 : r < 16)
    (hE : PassesOwn (model Challenge.rw_ok0167_01.prog w) ((ktrTop dp un gd cn cs L a ccd cl outer).deeper (env510 L')) (env510 L') E) (hdp : dp + 130 ≤ 500) (hun : un + 3400 ≤ 5000)
    (hret : ∀ g' h' tk' m' oP' oL', KtsTurn (frs (envX cn cs L a ccd cl :: outer)) g g' → Fr g' L' h' m' → News g' L' h' ((P, oP') :: (l, oL') :: rest) → PenIs l (b + 12) oP' oL' → Q (.ret (.bool true)) { s with heap := h', toks := tk' }) :
    wpAny (model Challenge.rw_ok0167_01.prog w) ((ktrTop dp un gd cn cs L a ccd cl outer).deeper (env510 L')) (execs (tl510 w 4) (env510 L')) Q E s := by
  have hrl9 : recursionLimit = 1000 := rfl
  have hcl9 : cLine = 9900 := rfl
  have hrows : ∀ v ∈ rows, RowOK rest v := rowOK_of hlen hprog
  have hks : rows.length ≤ 8 := by rw [hlen]; cases hs <;> exact Nat.le_of_ble_eq_true rfl
  dsimp only [tl510, bod510, List.drop]
  (repeat' ((fail_if_success (with_reducible show wpAny _ _ (pyIter (Value.ref _)) _ _ _)); (first | (k_unfold; (try dsimp only)) | walk1 | (dsimp only; walk1))))
  rename Fr _ _ _ _ => F9
  rename News _ _ _ _ => N9
  rename RegsAre _ _ => hR9
  have lt9 : ∀ q ∈ rest, @LT.lt Nat _ q.1 dM := fun q hq => l1 q (by repeat (first | exact hq | apply List.Mem.tail))
  have lP9 : @LT.lt Nat _ P dM := l1 _ (.head _)
  have ll9 : @LT.lt Nat _ l dM := l1 _ (.tail _ (.head _))
  have ndM9 : ∀ q ∈ rest, q.1 ≠ dM := fun q hq => Nat.ne_of_lt (lt9 q hq)
  have nM9 : ∀ q ∈ rest, q.1 ≠ M := fun q hq => Nat.ne_of_lt (Nat.lt_trans (lt9 q hq) l2)
  have nR9 : ∀ q ∈ rest, q.1 ≠ R := fun q hq => Nat.ne_of_lt (Nat.lt_trans (Nat.lt_trans (lt9 q hq) l2) l3)
  have npl9 : ∀ q ∈ rest, q.1 ≠ pl := fun q hq => Nat.ne_of_lt (Nat.lt_trans (Nat.lt_trans (Nat.lt_trans (lt9 q hq) l2) l3) l4)
  clear lt9 l1
  (with_unfolding_all refine' loop_regs (vs := [.int 0 _, .int 2 _, .int r _]) (R := R) (P := P) (l := l) (oR := oR) (oP := oP) (oL := oL) (restM := (M, instObj 445 dM) :: (dM, oD) :: (pl, oPl) :: rest) rfl F9 ?lN hR9 hP ?lv ?lt ?lf)
  case lN => ktr_rel
  case lv =>
    intro v hv
    simp only [List.mem_cons, List.not_mem_nil, or_false] at hv
    rcases hv with rfl | rfl | rfl
    · exact ⟨0, _, rfl, by decide, by decide⟩
    · exact ⟨2, _, rfl, by decide, by decide⟩
    · exact ⟨r, _, rfl, hr0, hr1⟩
  case lt =>
    clear F9 N9 hR9
    intro i t I oI h tk vx oR2 oP2 oL2 rs c Z hi0 hi1 x1 x2 x3 x4 x5 F9 N9 hR9 hP9 done
    have x5r : ∀ q ∈ rest, q.1 ≠ I := fun q hq => x5 q (by repeat (first | exact hq | apply List.Mem.tail))
    k_steps
    exact done _ _ _ _ _ _ (Fr.twice (by assumption)) (by ktr_rel) (by assumption) (by assumption)
  case lf =>
    clear F9 N9 hR9
    intro h tk vx oR2 oP2 oL2 rs F' N' hR' hP'
    have hb6 : b + 2 * (([Value.int 0 0, .int 2 0, .int r 0] : List Value).length : Int) = b + 6 := rfl
    replace hP' : PenIs l (b + 6) oP2 oL2 := hP'
    (repeat' ((fail_if_success (with_reducible show wpAny _ _ (exec (Stmt.If _ _ _ _) _) _ _ _)); (first | (k_unfold; (try dsimp only)) | walk1 | (dsimp only; walk1))))
    rename Fr _ _ _ _ => F9
    refine join_regs R P l ((M, instObj 445 dM) :: (dM, oD) :: (pl, oPl) :: rest) (b + 12) F9 ?_ ?_
    · k_steps
      all_goals exact JRegs.mk (by assumption) (by ktr_rel) (by assumption) (PenIs.mono (by assumption) (by omega))
    clear F9 hP' hR'
    intro h9 tk9 oR9 oP9 oL9 rs9 F9 N9 hR9 hP9
    (try k_unfold)
    (try dsimp only)
    refine segC (M := M) (dM := dM) (R := R) (oD := oD) (oR := oR9) (pl := pl) (oPl := oPl) (restC := (pl, oPl) :: (P, oP9) :: (l, oL9) :: rest) B F9 X XE (cb_drop N9 ?_) T XB EB TB hM' hR9 hPl' (.head _) (.tail _ (.tail _ (.tail _ hRW))) hlen (hprog.sub (by intro pD hD; repeat (first | exact hD | apply List.Mem.tail))) hn hr0 hr1 (neN (by omega)) (neN (by omega)) (neN (by omega)) (by k_all) (by k_all) (by k_all) hE hdp hun ?_
    · (repeat' (refine fa_cons (by k_mem) ?_)); intro pD hD; repeat (first | exact hD | apply List.Mem.tail)
    intro g' h' tk' m' T' F' N'
    exact hret _ _ _ _ _ _ T' F' (cb_drop N' (by (repeat' (refine fa_cons (by k_mem) ?_)); intro pD hD; repeat (first | exact hD | apply List.Mem.tail))) hP9
end

-- Ca
theorem zrCa : True := by first | (row_walk; done) | trivial
section
theorem zz53 : True := by
  k_with_none
  k_with "k_all" => ((intro pA hA; refine neN (Nat.ne_of_lt ?_); refine (by assumption : ∀ p ∈ _, p.1 < _) pA ?_; (repeat (first | exact hA | apply List.Mem.tail)); done))
  k_with "k_all" => (with_reducible assumption)
  k_with "k_upd" => ((first | exact Picks.nil | (refine' Picks.cons ?kuc ?kud; (case kuc => k_upd); (case kud => k_upd)) | (refine' Pick.head ?kua; (case kua => k_all)) | (refine' Pick.tail ?kua ?kub; (case kua => k_ne); (case kub => k_upd)) | (refine' Upd.head ?kua; (case kua => k_all)) | (refine' Upd.tail ?kua ?kub; (case kua => k_ne); (case kub => k_upd))))
  k_with "ktr_rel" => ((refine cb_drop (by assumption) ?_; (repeat' (refine fa_cons (by k_mem) ?_)); first | exact List.forall_mem_nil _ | (intro pD hD; repeat (first | exact hD | apply List.Mem.tail))))
  k_with "compareOp NotEq ref ref" => (k_here; k_dflt (refine' ne_K ?k1 ?k2 ?k3 ?k4 ?k5 ?k6 ?_; (case k1 => k_asm); (case k2 => k_mem); (case k3 => k_mem); (case k4 => l_intsC); (case k5 => l_intsC); (case k6 => ktr_units); k_whole))
  k_with "binaryOp FloorDiv int int" => (k_here; (with_reducible refine floordiv_int ?ke ?_ (Or.inl (noPy ?kp ?kq))); (case ke => first | omega | (split <;> omega)); (case kp => first | omega | (split <;> omega)); (case kq => first | omega | (split <;> omega)))
  k_with "call builtin:list.pop" => (k_here; k_dflt (refine' pop0_K ?k1 ?k2 ?k3 ?k4 ?_; (case k1 => k_asm); (case k2 => k_asm); (case k3 => k_upd); (case k4 => omega); k_whole); intro h' F' N')
  k_with "binaryOp Pow int int" => (k_here; first | (with_reducible refine powL_K 18446744073709551616 ?kb1 ?kb2 ?kb3 ?kb4 ?_; (case kb4 => decide +kernel); (case kb1 => decide); (case kb2 => decide); (case kb3 => decide)) | (with_reducible refine powL_K 9223372036854775808 ?kb1 ?kb2 ?kb3 ?kb4 ?_; (case kb4 => decide +kernel); (case kb1 => decide); (case kb2 => decide); (case kb3 => decide)) | (with_reducible refine powL_K 4294967296 ?kb1 ?kb2 ?kb3 ?kb4 ?_; (case kb4 => decide +kernel); (case kb1 => decide); (case kb2 => decide); (case kb3 => decide)) | (with_reducible refine powL_K 2147483648 ?kb1 ?kb2 ?kb3 ?kb4 ?_; (case kb4 => decide +kernel); (case kb1 => decide); (case kb2 => decide); (case kb3 => decide)) | (with_reducible refine powL_K 340282366920938463463374607431768211456 ?kb1 ?kb2 ?kb3 ?kb4 ?_; (case kb4 => decide +kernel); (case kb1 => decide); (case kb2 => decide); (case kb3 => decide)) | (with_reducible refine powL_K 170141183460469231731687303715884105728 ?kb1 ?kb2 ?kb3 ?kb4 ?_; (case kb4 => decide +kernel); (case kb1 => decide); (case kb2 => decide); (case kb3 => decide)))
  k_with "cell_enter" => ((refine' code_def ?k1 ?k2 ?k3 ?k4 ?k5 ?kA ?kF ?kK ?k6 ?k7 ?k8 ?k9 ?kB ?_ ?c2 ?c3 ?c4 ?c5; (case kA => exact rfl); (case kF => exact rfl); (case kK => first | assumption | exact rfl); (case k1 => k_asm); (case k2 => k_asm); (case k3 => k_asm); (case k4 => k_asm); (case k5 => k_asm); (case k6 => k_is); (case k7 => k_is); (case k8 => ktr_room); (case k9 => first | exact BindsTo.of_eq rfl | exact binds_K (by k_in) rfl (by k_is) rfl rfl rfl); (case c5 => decide); (case kB => exact locs rfl); (case c2 => exact rfl); (case c3 => exact rfl); (case c4 => exact rfl); k_whole; intro g' L' h' FG' F' N' B' X' T'; (try dsimp only); (try k_lift B'); (try k_fold)))
  k_with "ktr_units" => (((try simp only [units_in1, units_deeper, units_under_make, Around.mark_units]); (try dsimp only [ktrTop]); omega))
  k_with "ktr_room" => (((try simp only [depth_mark, depth_under_make, depth_under_kw, depth_in1, depth_deeper]); (try dsimp only [ktrTop]); omega))
  k_with "execs cons" => (k_here; (first | ((with_reducible refine gentok fun tk' => ?_); (with_reducible refine wpAny_execs_cons ?_)) | (with_reducible refine wpAny_execs_cons ?_)); (try dsimp only))
  k_with "execs nil" => (k_here; (refine wpAny_execs_nil ?_))
  k_with "compareOp Eq str str" => (k_here; k_dflt (refine' eq_no ?ke ?_; (case ke => with_reducible assumption)))
  k_with "compareOp In str ref" => (k_here; (with_reducible show wpAny _ _ (compareOp CmpOp.In (Value.str _ _) (Value.ref _)) _ _ _); (with_unfolding_all refine' tin_no ?k1 ?k2 ?k3 ?_; (case k1 => exact News.isTup (by k_asm) (by news_mem)); (case k2 => kde_strs); (case k3 => assumption); k_whole))
  k_with "compareOp NotIn str ref" => (k_here; (with_reducible show wpAny _ _ (compareOp CmpOp.NotIn (Value.str _ _) (Value.ref _)) _ _ _); (with_unfolding_all refine' tnot_no ?k1 ?k2 ?k3 ?_; (case k1 => exact News.isTup (by k_asm) (by news_mem)); (case k2 => kde_strs); (case k3 => assumption); k_whole))
  k_with "subscriptTail Name Slice str ref" => (k_here; (with_reducible show wpAny _ _ (subscriptTail _ (Expr.Slice (some _) none none _) _ _) _ _ _); (with_reducible rename Fr _ _ _ _ => F'); (with_reducible rename News _ _ _ _ => N'); (refine slice_strN_sn (hsz := ?hsz) (s := ⟨_, _, _, _, _⟩) F' N' ?_); (case hsz => (rw [sizeLine_eq]; omega)); intro h' t' tk' F' N')
  k_with "subscriptTail Name Slice str ref" => (k_here; (with_reducible show wpAny _ _ (subscriptTail _ (Expr.Slice none (some _) none _) _ _) _ _ _); (with_reducible rename Fr _ _ _ _ => F'); (with_reducible rename News _ _ _ _ => N'); (refine slice_strN_ns (hsz := ?hsz) (s := ⟨_, _, _, _, _⟩) F' N' ?_); (case hsz => (rw [sizeLine_eq]; omega)); intro h' t' tk' F' N')
  k_with "compareOp NotEq str str" => (k_here; k_dflt (refine' ne_yes ?ke ?_; (case ke => with_reducible assumption)))
  k_with "UnrEndW" => (k_here; refine' unrW (off5 (by assumption)) ?uF ?uN ?uI ?us ⟨by k_subL, ?_⟩; (case uF => assumption); (case uN => k_asm); (case uI => ((repeat' (refine fa_cons (by k_mem) ?_)); exact List.forall_mem_nil _)); (case us => ((repeat' (refine fa_cons (by k_mem) ?_)); first | exact List.forall_mem_nil _ | (intro pD hD; repeat (first | exact hD | apply List.Mem.tail)))))
  k_with "UnrEndW" => (k_here; refine' unrW (off1 (by assumption)) ?uF ?uN ?uI ?us ⟨by k_subL, ?_⟩; (case uF => assumption); (case uN => k_asm); (case uI => ((repeat' (refine fa_cons (by k_mem) ?_)); exact List.forall_mem_nil _)); (case us => ((repeat' (refine fa_cons (by k_mem) ?_)); first | exact List.forall_mem_nil _ | (intro pD hD; repeat (first | exact hD | apply List.Mem.tail)))))
  k_with "UnrEnd" => (k_here; refine' unrI ?uo ?uF ?uN ?uI ?us ?_; (case uo => assumption); (case uF => assumption); (case uN => k_asm); (case uI => k_mem); (case us => ((repeat' (refine fa_cons (by k_mem) ?_)); first | exact List.forall_mem_nil _ | (intro pD hD; repeat (first | exact hD | apply List.Mem.tail)))))
  k_with "pyIter ref" => (k_here; (with_reducible show wpAny _ _ (pyIter (Value.ref _)) (fun it s₂ => TurnsAt _ _ _ _ _ _ _ _ _ it s₂) _ _); (rename Fr _ _ _ _ => lF'); (rename News _ _ _ _ => lN'); (with_unfolding_all refine' iter_tupTurns ?h1 lF' lN' ?h2 ?h3 ?h4 ?_; (case h1 => exact rfl); (case h2 => k_mem); (case h3 => exact rfl); (case h4 => exact rfl)); clear lF' lN'; intro i' l1; (try k_lt l1))
  k_with "call ref" => (k_here; (with_reducible show wpAny _ _ (call (Value.ref 461) [Value.ref _, Value.int _ _]) _ _ _); k_dflt (refine' draw_C ?kB ?kF ?kX ?kN ?kPk ?kT ?kk ?kP ?km ?km2 ?kd ?ku ?_; (case kP => assumption); (case kB => k_asm); (case kF => k_asm); (case kX => k_asm); (case kN => k_asm); (case kPk => k_upd); (case kT => k_asm); (case kk => first | exact rfl | assumption); (case km => first | decide | omega); (case km2 => first | decide | omega); (case kd => ktr_room); (case ku => ktr_units)); intro v' t' oP' oL' h' tk' F' N' hP' hlo' hhi'; (try dsimp only); (try k_sweep); (try k_fold))
  k_with "call ref" => (k_here; (with_reducible show wpAny _ _ (call (Value.ref 468) [Value.ref _, Value.ref _]) _ _ _); k_dflt (refine' pick_C ?kB ?kF ?kX ?kN ?kPk ?kT ?kk ?kP ?kI ?km ?km2 ?kd ?ku ?_; (case kP => assumption); (case kB => k_asm); (case kF => k_asm); (case kX => k_asm); (case kN => k_asm); (case kPk => k_upd); (case kT => k_asm); (case kk => first | exact rfl | assumption); (case kI => first | assumption | l_intsW); (case km => first | decide | omega); (case km2 => first | decide | omega); (case kd => ktr_room); (case ku => ktr_units)); intro v' t' oP' oL' h' tk' F' N' hP' hM'; (try dsimp only); (try k_sweep); (try k_fold))
  k_with "ktr_enter" => ((refine' enterX ?k1 ?k2 ?k3 ?kE ?k4 ?k5 ?kXB ?kEB ?kTB ?kA ?kF ?kK ?k6 ?k7 ?k8 ?k9 ?kB ?_ ?c2 ?c3 ?c4 ?c5; (case kA => exact rfl); (case kF => exact rfl); (case kK => assumption); (case k1 => k_asm); (case k2 => k_asm); (case k3 => k_asm); (case kE => k_asm); (case k4 => k_asm); (case k5 => k_asm); (case kXB => k_asm); (case kEB => k_asm); (case kTB => k_asm); (case k6 => k_is); (case k7 => k_is); (case k8 => ktr_room); (case k9 => first | exact BindsTo.of_eq rfl | exact binds_K (by k_in) rfl (by k_is) rfl rfl rfl); (case c5 => decide); (case kB => exact locs rfl); (case c2 => exact rfl); (case c3 => exact rfl); (case c4 => exact rfl); k_whole; intro g' L' h' FG' F' N' B' X' T' E' back'; (try dsimp only); (try k_fold)))
  k_with "leaving ref" => (k_here; (refine' leave_led ?kB ?kF ?kk ?kY ?_; (case kB => k_asm); (case kF => k_asm); (case kY => first | exact Or.inl (by assumption) | exact Or.inr (by assumption)); (case kk => exact rfl); k_whole); intro h' g' T' F' Y' B')
  k_with "exec Raise some none" => (k_here; (refine' raise_K ?kh ?_; (case kh => with_unfolding_all rfl)))
  k_with "call ref" => (k_here; (with_reducible show wpAny _ _ (call (Value.ref 59) [Value.str _ _]) _ _ _); k_dflt (refine' fault_C ?kB ?kF ?kX ?kN ?kT ?kA ?kf ?kK ?kd ?_; (case kA => exact rfl); (case kf => exact rfl); (case kK => first | assumption | exact rfl); (case kB => k_asm); (case kF => k_asm); (case kX => k_asm); (case kN => k_asm); (case kT => k_asm); (case kd => ktr_room)); intro e' dx' t' oe' od' h' tk' F' N' n1' n2' n3' hE'; obtain ⟨⟨sl', hR'⟩, hW'⟩ := hE'; subst hR'; (replace hW' : WhatIs _ _ := (by obtain ⟨q1, q2, t1, t2, t3, n, e⟩ := hW'; exact ⟨q1, q2, t1, t2, t3, n, e⟩)); (have Y' := flyNew_of N' n2' n3'); (try dsimp only); (try k_sweep); (try k_fold))
  k_with "Exists" => (refine ⟨_, _, _, _, rfl, (by k_in), News.get (by k_asm) (by k_mem), ?_⟩)
  k_with "call ref" => (k_here; (with_reducible show wpAny _ _ (call (Value.ref 148) [Value.str _ _, Value.ref _]) _ _ _); k_dflt (refine' row_C ?kB ?kF ?kX ?kN ?kT ?kk ?kd ?ku ?_; (case kB => k_asm); (case kF => k_asm); (case kX => k_asm); (case kN => k_asm); (case kT => k_asm); (case kk => first | exact rfl | assumption); (case kd => ktr_room); (case ku => ktr_units)); intro x' dx' oX' oD' h' tk' F' N' l1 l2 hW'; (try k_lt l1); (try k_lt2 l2); (try dsimp only); (try k_sweep); (try k_fold))
  k_with "getAttr ref" => (k_here; (with_reducible show wpAny _ _ (getAttr (Value.ref _) (Str.ofString "regs") _) _ _ _); k_dflt (refine' get_regs ?k1 ?k2 ?k3 ?k4 ?k5 ?k6 ?_; (case k1 => k_asm); (case k2 => k_asm); (case k3 => k_asm); (case k4 => k_mem); (case k6 => assumption); (case k5 => k_mem); k_whole))
  k_with "getMethod ref" => (k_here; (with_reducible show wpAny _ _ (getMethod (Value.ref _) (Str.ofString "run") _) _ _ _); k_dflt (refine' meth_run ?k1 ?k2 ?k3 ?k4 ?k5 ?k6 ?_; (case k1 => k_asm); (case k2 => k_asm); (case k3 => k_asm); (case k4 => k_mem); (case k6 => assumption); (case k5 => k_mem); k_whole))
  k_with "getAttr ref" => (k_here; (with_reducible show wpAny _ _ (getAttr (Value.ref _) (Str.ofString "kind") _) _ _ _); k_dflt (first | (refine' get_kind_f ?k1 ?k2 ?k3 ?k4 ?k5 ?k6 ?_; (case k1 => k_asm); (case k2 => k_asm); (case k3 => k_asm); (case k6 => assumption); (case k4 => k_mem); (case k5 => k_mem); k_whole) | (refine' get_kind_t ?k1 ?k2 ?k3 ?k4 ?k5 ?k6 ?_; (case k1 => k_asm); (case k2 => k_asm); (case k3 => k_asm); (case k6 => assumption); (case k4 => k_mem); (case k5 => k_mem); k_whole)); intro t')
  k_with "getAttr ref" => (k_here; (with_reducible show wpAny _ _ (getAttr (Value.ref _) (Str.ofString "what") _) _ _ _); k_dflt (refine' get_what_t ?k1 ?k2 ?k3 ?k4 ?k5 ?k6 ?_; (case k1 => k_asm); (case k2 => k_asm); (case k3 => k_asm); (case k6 => assumption); (case k4 => k_mem); (case k5 => k_mem); k_whole); intro t')
  k_with "call type:list" => (k_here; (with_reducible show wpAny _ _ (call (Value.type _) [Value.ref _]) _ _ _); k_dflt (refine' list_regs ?k1 ?k2 ?k3 ?k4 ?_; (case k1 => k_asm); (case k2 => k_asm); (case k3 => k_mem); (case k4 => assumption); k_whole); intro D' oH' h' F' N' l1 hH'; (try k_lt l1); (try k_sweep))
  k_with "compareOp Eq ref ref" => (k_here; k_dflt (refine' eq_regs ?k1 ?k2 ?k3 ?k4 ?k5 ?k6 ?_; (case k1 => k_asm); (case k2 => k_mem); (case k3 => k_mem); (case k4 => assumption); (case k5 => assumption); (case k6 => ktr_units); k_whole))
  k_with "compareOp Eq int int" => (k_here; (with_reducible show wpAny _ _ (compareOp CmpOp.Eq (Value.int _ _) (Value.int 1 _)) _ _ _); (refine eq_letter ?_); intro sg)
  k_with "compareOp Eq int int" => (k_here; (with_reducible show wpAny _ _ (compareOp CmpOp.Eq (Value.int _ _) (Value.int 0 _)) _ _ _); (refine eq_letter ?_); intro hs)
  trivial
set_option maxHeartbeats 8000000 in
theorem case_X {w : World} {mean : ExcName → Option Value} {mg mb : Str → Option Value}
    {dp un : Nat} {gd : Option (List Code)} {cn : Str} {cs : Scope} {a : Addr} {ccd : Value} {cl : List (Str × Addr)} {outer : List Env} {A₀ : Around} {base h₀ : Heap} {L : Addr} {m : Str → Option Value} {s : Shared} {Q E : Value → Shared → Prop}
    {P l : Addr} {b : Int} {oP oL : Obj} {led rest : List (Addr × Obj)}
    (B : Below A₀ base outer h₀) (F : Fr h₀ L s.heap m) (X : (hd.heap_1 w.params).In h₀) (XE : Ext w h₀)
    (N : News h₀ L s.heap led) (Pk : Picks [(P, oP), (l, oL)] led rest) 
    (T : Top qv Lo mean mg mb h₀) (XB : (hd.heap_1 w.params).In base) (EB : Ext w base) (TB : Top qv Lo mean mg mb base) (hk : cs.kind = .function) (hP : PenIs l b oP oL) 
    (hdp : dp + 135 ≤ 500) (hun : un + 3500 ≤ 5000)
    (hret : ∀ oP' oL' h₀' h' tk', KtsTurn (frs outer) h₀ h₀' → Fr h₀' L h' m → Below A₀ base outer h₀' → (hd.heap_1 w.params).In h₀' → Top qv Lo mean mg mb h₀' → Ext w h₀' → News h₀' L h' ((P, oP') :: (l, oL') :: rest) → PenIs l (b + 20) oP' oL' → Q (.bool true) { s with heap := h', toks := tk' }) :
    wpAny (model Challenge.rw_ok0167_01.prog w) (ktrTop dp un gd cn cs L a ccd cl outer) (call (.ref 510) [.ref P]) Q E s := by
  have hrl9 : recursionLimit = 1000 := rfl
  have hcl9 : cLine = 9900 := rfl
  have N1 := Pk.news N
  have A1 := Pk.apart
  clear N Pk
  simp only [List.cons_append, List.nil_append, Apart, AllNe, and_true, true_and] at N1 A1
  obtain ⟨hlP, hrP, hrl⟩ := A1
  refine wpAny_call ?_
  ktr_enter
  (repeat' ((fail_if_success (with_reducible show wpAny _ _ (eval (Expr.IfExp _ _ _ _) _) _ _ _)); (first | (k_unfold; (try dsimp only)) | walk1 | (dsimp only; walk1))))
  rename Fr _ _ _ _ => F9
  rename News _ _ _ _ => N9
  refine join_val (fun v => ∃ t, v = .str (if sg then Str.ofString "idiv" else Str.ofString "div") t) F9 N9 ?_ ?_
  · cases sg
    all_goals
      k_steps
      exact JVal.mk ⟨_, rfl⟩ (by assumption) (by assumption)
  rintro v9 h9 tk9 ⟨t9, rfl⟩ F' N'
  clear F9 N9
  repeat (rename (∀ p ∈ (_ : List (Addr × Obj)), p.1 < _) => zz; clear zz)
  (try dsimp only)
  (repeat' ((fail_if_success (with_reducible show wpAny _ _ (exec (Stmt.If _ _ _ _) _) _ _ _)); (first | (k_unfold; (try dsimp only)) | walk1 | (dsimp only; walk1))))
  rename Fr _ _ _ _ => F9
  rename PenIs _ _ _ _ => hP9
  rename _ ∈ [64, 32] => hn9
  rename _ ∈ [7, 0, 11, 2, 3] => hr9
  have hn := mem_nn hn9
  obtain ⟨hr0, hr1⟩ := mem_rr hr9
  refine join_rows P hs sg rest F9 hP9 hn9 hr9 ?_ ?_
  · cases hs
    · k_steps
      refine' JRows.mk ?F0 ?N0 ?P0 hP9 ?s0 ?R0 ?h0 ?p0
      case F0 => assumption
      case N0 => assumption
      case P0 => k_upd
      case R0 => k_mem
      case s0 => (intro pD hD; repeat (first | exact hD | apply List.Mem.tail))
      case h0 => rfl
      case p0 =>
        show ProgAt _ [_, _, _] [.dv sg _ _, .mov, .ret]
        refine progAt_cons (by k_mem) (by apply_assumption) (by k_mem) (by k_mem) ⟨rfl, ⟨_, _, rfl⟩, hn, hr0, hr1⟩ ?_
        refine progAt_cons (by k_mem) (by apply_assumption) (by k_mem) (by k_mem) ⟨rfl, _, _, _, rfl⟩ ?_
        refine progAt_cons (by k_mem) (by apply_assumption) (by k_mem) (by k_mem) ⟨rfl, rfl⟩ ?_
        exact progAt_nil
    · k_steps
      refine' JRows.mk ?F1 ?N1 ?P1 hP9 ?s1 ?R1 ?h1 ?p1
      case F1 => exact Fr.twice (by assumption)
      case N1 => assumption
      case P1 => k_upd
      case R1 => k_mem
      case s1 => (intro pD hD; repeat (first | exact hD | apply List.Mem.tail))
      case h1 => rfl
      case p1 =>
        show ProgAt _ [_, _, _, _] [.cqo _, .dv sg _ _, .mov, .ret]
        refine progAt_cons (by k_mem) (by apply_assumption) (by k_mem) (by k_mem) ⟨rfl, ⟨_, rfl⟩, hn⟩ ?_
        refine progAt_cons (by k_mem) (by apply_assumption) (by k_mem) (by k_mem) ⟨rfl, ⟨_, _, rfl⟩, hn, hr0, hr1⟩ ?_
        refine progAt_cons (by k_mem) (by apply_assumption) (by k_mem) (by k_mem) ⟨rfl, _, _, _, rfl⟩ ?_
        refine progAt_cons (by k_mem) (by apply_assumption) (by k_mem) (by k_mem) ⟨rfl, rfl⟩ ?_
        exact progAt_nil
  intro h9 tk9 RW rows kk led9 rest9 oP9 oL9 F8 N8 Pk8 hsub9 hP8 hRW9 hlen9 hprog9
  have N9 := Pk8.news N8
  have A9 := Pk8.apart
  clear N8 Pk8
  simp only [List.cons_append, List.nil_append, Apart, AllNe, and_true, true_and] at N9 A9
  obtain ⟨hlP9, hrP9, hrl9'⟩ := A9
  rename Below _ _ (_ :: _) _ => B9
  rename (hd.heap_1 w.params).In _ => X9
  rename Top _ _ _ _ _ _ => TT9
  rename Ext _ _ => XE9
  rename (∀ (g' h' : Heap) (m' : Str → Option Value), KtsTurn _ _ g' → Fr g' _ h' m' → _) => bk
  (try k_unfold)
  (try dsimp only)
  refine segB (P := P) (l := l) B9 F8 X9 XE9 N9 TT9 XB EB TB rfl hlP9 hrP9 hrl9' hP8 hRW9 hlen9 hprog9 hn hr0 hr1 (by passes_own) (by omega) (by omega) ?_
  intro g' h' tk' m' oP' oL' T' F' N' hP'
  (try k_unfold)
  (try dsimp only)
  obtain ⟨h9, T1, F1, B1, X1, TT1, XE1, K1⟩ := bk _ _ _ T' F'
  exact hret _ _ _ _ _ T1 F1 B1 X1 TT1 XE1 (cb_drop (K1 _ N') (List.forall_mem_cons.mpr ⟨.head _, List.forall_mem_cons.mpr ⟨.tail _ (.head _), fun p hp => .tail _ (.tail _ (hsub9 p hp))⟩⟩)) (hP'.mono (by omega))
end

-- La
theorem zrLa : True := by first | (row_walk; done) | trivial
theorem zz54 : True := by
  k_with_none
  k_with "k_all" => ((intro pA hA; refine neN (Nat.ne_of_lt ?_); refine (by assumption : ∀ p ∈ _, p.1 < _) pA ?_; (repeat (first | exact hA | apply List.Mem.tail)); done))
  k_with "k_all" => (with_reducible assumption)
  k_with "k_upd" => ((first | exact Picks.nil | (refine' Picks.cons ?kuc ?kud; (case kuc => k_upd); (case kud => k_upd)) | (refine' Pick.head ?kua; (case kua => k_all)) | (refine' Pick.tail ?kua ?kub; (case kua => k_ne); (case kub => k_upd)) | (refine' Upd.head ?kua; (case kua => k_all)) | (refine' Upd.tail ?kua ?kub; (case kua => k_ne); (case kub => k_upd))))
  k_with "ktr_rel" => ((refine cb_drop (by assumption) ?_; (repeat' (refine fa_cons (by k_mem) ?_)); first | exact List.forall_mem_nil _ | (intro pD hD; repeat (first | exact hD | apply List.Mem.tail))))
  k_with "compareOp NotEq ref ref" => (k_here; k_dflt (refine' ne_K ?k1 ?k2 ?k3 ?k4 ?k5 ?k6 ?_; (case k1 => k_asm); (case k2 => k_mem); (case k3 => k_mem); (case k4 => l_intsC); (case k5 => l_intsC); (case k6 => ktr_units); k_whole))
  k_with "binaryOp FloorDiv int int" => (k_here; (with_reducible refine floordiv_int ?ke ?_ (Or.inl (noPy ?kp ?kq))); (case ke => first | omega | (split <;> omega)); (case kp => first | omega | (split <;> omega)); (case kq => first | omega | (split <;> omega)))
  k_with "call builtin:list.pop" => (k_here; k_dflt (refine' pop0_K ?k1 ?k2 ?k3 ?k4 ?_; (case k1 => k_asm); (case k2 => k_asm); (case k3 => k_upd); (case k4 => omega); k_whole); intro h' F' N')
  k_with "binaryOp Pow int int" => (k_here; first | (with_reducible refine powL_K 18446744073709551616 ?kb1 ?kb2 ?kb3 ?kb4 ?_; (case kb4 => decide +kernel); (case kb1 => decide); (case kb2 => decide); (case kb3 => decide)) | (with_reducible refine powL_K 9223372036854775808 ?kb1 ?kb2 ?kb3 ?kb4 ?_; (case kb4 => decide +kernel); (case kb1 => decide); (case kb2 => decide); (case kb3 => decide)) | (with_reducible refine powL_K 4294967296 ?kb1 ?kb2 ?kb3 ?kb4 ?_; (case kb4 => decide +kernel); (case kb1 => decide); (case kb2 => decide); (case kb3 => decide)) | (with_reducible refine powL_K 2147483648 ?kb1 ?kb2 ?kb3 ?kb4 ?_; (case kb4 => decide +kernel); (case kb1 => decide); (case kb2 => decide); (case kb3 => decide)) | (with_reducible refine powL_K 340282366920938463463374607431768211456 ?kb1 ?kb2 ?kb3 ?kb4 ?_; (case kb4 => decide +kernel); (case kb1 => decide); (case kb2 => decide); (case kb3 => decide)) | (with_reducible refine powL_K 170141183460469231731687303715884105728 ?kb1 ?kb2 ?kb3 ?kb4 ?_; (case kb4 => decide +kernel); (case kb1 => decide); (case kb2 => decide); (case kb3 => decide)))
  k_with "cell_enter" => ((refine' code_def ?k1 ?k2 ?k3 ?k4 ?k5 ?kA ?kF ?kK ?k6 ?k7 ?k8 ?k9 ?kB ?_ ?c2 ?c3 ?c4 ?c5; (case kA => exact rfl); (case kF => exact rfl); (case kK => first | assumption | exact rfl); (case k1 => k_asm); (case k2 => k_asm); (case k3 => k_asm); (case k4 => k_asm); (case k5 => k_asm); (case k6 => k_is); (case k7 => k_is); (case k8 => ktr_room); (case k9 => first | exact BindsTo.of_eq rfl | exact binds_K (by k_in) rfl (by k_is) rfl rfl rfl); (case c5 => decide); (case kB => exact locs rfl); (case c2 => exact rfl); (case c3 => exact rfl); (case c4 => exact rfl); k_whole; intro g' L' h' FG' F' N' B' X' T'; (try dsimp only); (try k_lift B'); (try k_fold)))
  k_with "ktr_units" => (((try simp only [units_in1, units_deeper, units_under_make, Around.mark_units]); (try dsimp only [ktrTop]); omega))
  k_with "ktr_room" => (((try simp only [depth_mark, depth_under_make, depth_under_kw, depth_in1, depth_deeper]); (try dsimp only [ktrTop]); omega))
  k_with "execs cons" => (k_here; (first | ((with_reducible refine gentok fun tk' => ?_); (with_reducible refine wpAny_execs_cons ?_)) | (with_reducible refine wpAny_execs_cons ?_)); (try dsimp only))
  k_with "execs nil" => (k_here; (refine wpAny_execs_nil ?_))
  k_with "compareOp Eq str str" => (k_here; k_dflt (refine' eq_no ?ke ?_; (case ke => with_reducible assumption)))
  k_with "compareOp In str ref" => (k_here; (with_reducible show wpAny _ _ (compareOp CmpOp.In (Value.str _ _) (Value.ref _)) _ _ _); (with_unfolding_all refine' tin_no ?k1 ?k2 ?k3 ?_; (case k1 => exact News.isTup (by k_asm) (by news_mem)); (case k2 => kde_strs); (case k3 => assumption); k_whole))
  k_with "compareOp NotIn str ref" => (k_here; (with_reducible show wpAny _ _ (compareOp CmpOp.NotIn (Value.str _ _) (Value.ref _)) _ _ _); (with_unfolding_all refine' tnot_no ?k1 ?k2 ?k3 ?_; (case k1 => exact News.isTup (by k_asm) (by news_mem)); (case k2 => kde_strs); (case k3 => assumption); k_whole))
  k_with "subscriptTail Name Slice str ref" => (k_here; (with_reducible show wpAny _ _ (subscriptTail _ (Expr.Slice (some _) none none _) _ _) _ _ _); (with_reducible rename Fr _ _ _ _ => F'); (with_reducible rename News _ _ _ _ => N'); (refine slice_strN_sn (hsz := ?hsz) (s := ⟨_, _, _, _, _⟩) F' N' ?_); (case hsz => (rw [sizeLine_eq]; omega)); intro h' t' tk' F' N')
  k_with "subscriptTail Name Slice str ref" => (k_here; (with_reducible show wpAny _ _ (subscriptTail _ (Expr.Slice none (some _) none _) _ _) _ _ _); (with_reducible rename Fr _ _ _ _ => F'); (with_reducible rename News _ _ _ _ => N'); (refine slice_strN_ns (hsz := ?hsz) (s := ⟨_, _, _, _, _⟩) F' N' ?_); (case hsz => (rw [sizeLine_eq]; omega)); intro h' t' tk' F' N')
  k_with "compareOp NotEq str str" => (k_here; k_dflt (refine' ne_yes ?ke ?_; (case ke => with_reducible assumption)))
  k_with "UnrEndW" => (k_here; refine' unrW (off5 (by assumption)) ?uF ?uN ?uI ?us ⟨by k_subL, ?_⟩; (case uF => assumption); (case uN => k_asm); (case uI => ((repeat' (refine fa_cons (by k_mem) ?_)); exact List.forall_mem_nil _)); (case us => ((repeat' (refine fa_cons (by k_mem) ?_)); first | exact List.forall_mem_nil _ | (intro pD hD; repeat (first | exact hD | apply List.Mem.tail)))))
  k_with "UnrEndW" => (k_here; refine' unrW (off1 (by assumption)) ?uF ?uN ?uI ?us ⟨by k_subL, ?_⟩; (case uF => assumption); (case uN => k_asm); (case uI => ((repeat' (refine fa_cons (by k_mem) ?_)); exact List.forall_mem_nil _)); (case us => ((repeat' (refine fa_cons (by k_mem) ?_)); first | exact List.forall_mem_nil _ | (intro pD hD; repeat (first | exact hD | apply List.Mem.tail)))))
  k_with "UnrEnd" => (k_here; refine' unrI ?uo ?uF ?uN ?uI ?us ?_; (case uo => assumption); (case uF => assumption); (case uN => k_asm); (case uI => k_mem); (case us => ((repeat' (refine fa_cons (by k_mem) ?_)); first | exact List.forall_mem_nil _ | (intro pD hD; repeat (first | exact hD | apply List.Mem.tail)))))
  k_with "pyIter ref" => (k_here; (with_reducible show wpAny _ _ (pyIter (Value.ref _)) (fun it s₂ => TurnsAt _ _ _ _ _ _ _ _ _ it s₂) _ _); (rename Fr _ _ _ _ => lF'); (rename News _ _ _ _ => lN'); (with_unfolding_all refine' iter_tupTurns ?h1 lF' lN' ?h2 ?h3 ?h4 ?_; (case h1 => exact rfl); (case h2 => k_mem); (case h3 => exact rfl); (case h4 => exact rfl)); clear lF' lN'; intro i' l1; (try k_lt l1))
  k_with "call ref" => (k_here; (with_reducible show wpAny _ _ (call (Value.ref 461) [Value.ref _, Value.int _ _]) _ _ _); k_dflt (refine' draw_C ?kB ?kF ?kX ?kN ?kPk ?kT ?kk ?kP ?km ?km2 ?kd ?ku ?_; (case kP => assumption); (case kB => k_asm); (case kF => k_asm); (case kX => k_asm); (case kN => k_asm); (case kPk => k_upd); (case kT => k_asm); (case kk => first | exact rfl | assumption); (case km => first | decide | omega); (case km2 => first | decide | omega); (case kd => ktr_room); (case ku => ktr_units)); intro v' t' oP' oL' h' tk' F' N' hP' hlo' hhi'; (try dsimp only); (try k_sweep); (try k_fold))
  k_with "call ref" => (k_here; (with_reducible show wpAny _ _ (call (Value.ref 468) [Value.ref _, Value.ref _]) _ _ _); k_dflt (refine' pick_C ?kB ?kF ?kX ?kN ?kPk ?kT ?kk ?kP ?kI ?km ?km2 ?kd ?ku ?_; (case kP => assumption); (case kB => k_asm); (case kF => k_asm); (case kX => k_asm); (case kN => k_asm); (case kPk => k_upd); (case kT => k_asm); (case kk => first | exact rfl | assumption); (case kI => first | assumption | l_intsW); (case km => first | decide | omega); (case km2 => first | decide | omega); (case kd => ktr_room); (case ku => ktr_units)); intro v' t' oP' oL' h' tk' F' N' hP' hM'; (try dsimp only); (try k_sweep); (try k_fold))
  k_with "ktr_enter" => ((refine' enterX ?k1 ?k2 ?k3 ?kE ?k4 ?k5 ?kXB ?kEB ?kTB ?kA ?kF ?kK ?k6 ?k7 ?k8 ?k9 ?kB ?_ ?c2 ?c3 ?c4 ?c5; (case kA => exact rfl); (case kF => exact rfl); (case kK => assumption); (case k1 => k_asm); (case k2 => k_asm); (case k3 => k_asm); (case kE => k_asm); (case k4 => k_asm); (case k5 => k_asm); (case kXB => k_asm); (case kEB => k_asm); (case kTB => k_asm); (case k6 => k_is); (case k7 => k_is); (case k8 => ktr_room); (case k9 => first | exact BindsTo.of_eq rfl | exact binds_K (by k_in) rfl (by k_is) rfl rfl rfl); (case c5 => decide); (case kB => exact locs rfl); (case c2 => exact rfl); (case c3 => exact rfl); (case c4 => exact rfl); k_whole; intro g' L' h' FG' F' N' B' X' T' E' back'; (try dsimp only); (try k_fold)))
  k_with "leaving ref" => (k_here; (refine' leave_led ?kB ?kF ?kk ?kY ?_; (case kB => k_asm); (case kF => k_asm); (case kY => first | exact Or.inl (by assumption) | exact Or.inr (by assumption)); (case kk => exact rfl); k_whole); intro h' g' T' F' Y' B')
  k_with "exec Raise some none" => (k_here; (refine' raise_K ?kh ?_; (case kh => with_unfolding_all rfl)))
  k_with "call ref" => (k_here; (with_reducible show wpAny _ _ (call (Value.ref 59) [Value.str _ _]) _ _ _); k_dflt (refine' fault_C ?kB ?kF ?kX ?kN ?kT ?kA ?kf ?kK ?kd ?_; (case kA => exact rfl); (case kf => exact rfl); (case kK => first | assumption | exact rfl); (case kB => k_asm); (case kF => k_asm); (case kX => k_asm); (case kN => k_asm); (case kT => k_asm); (case kd => ktr_room)); intro e' dx' t' oe' od' h' tk' F' N' n1' n2' n3' hE'; obtain ⟨⟨sl', hR'⟩, hW'⟩ := hE'; subst hR'; (replace hW' : WhatIs _ _ := (by obtain ⟨q1, q2, t1, t2, t3, n, e⟩ := hW'; exact ⟨q1, q2, t1, t2, t3, n, e⟩)); (have Y' := flyNew_of N' n2' n3'); (try dsimp only); (try k_sweep); (try k_fold))
  k_with "Exists" => (refine ⟨_, _, _, _, rfl, (by k_in), News.get (by k_asm) (by k_mem), ?_⟩)
  k_with "call ref" => (k_here; (with_reducible show wpAny _ _ (call (Value.ref 148) [Value.str _ _, Value.ref _]) _ _ _); k_dflt (refine' row_C ?kB ?kF ?kX ?kN ?kT ?kk ?kd ?ku ?_; (case kB => k_asm); (case kF => k_asm); (case kX => k_asm); (case kN => k_asm); (case kT => k_asm); (case kk => first | exact rfl | assumption); (case kd => ktr_room); (case ku => ktr_units)); intro x' dx' oX' oD' h' tk' F' N' l1 l2 hW'; (try k_lt l1); (try k_lt2 l2); (try dsimp only); (try k_sweep); (try k_fold))
  k_with "getAttr ref" => (k_here; (with_reducible show wpAny _ _ (getAttr (Value.ref _) (Str.ofString "regs") _) _ _ _); k_dflt (refine' get_regs ?k1 ?k2 ?k3 ?k4 ?k5 ?k6 ?_; (case k1 => k_asm); (case k2 => k_asm); (case k3 => k_asm); (case k4 => k_mem); (case k6 => assumption); (case k5 => k_mem); k_whole))
  k_with "getMethod ref" => (k_here; (with_reducible show wpAny _ _ (getMethod (Value.ref _) (Str.ofString "run") _) _ _ _); k_dflt (refine' meth_run ?k1 ?k2 ?k3 ?k4 ?k5 ?k6 ?_; (case k1 => k_asm); (case k2 => k_asm); (case k3 => k_asm); (case k4 => k_mem); (case k6 => assumption); (case k5 => k_mem); k_whole))
  k_with "getAttr ref" => (k_here; (with_reducible show wpAny _ _ (getAttr (Value.ref _) (Str.ofString "kind") _) _ _ _); k_dflt (first | (refine' get_kind_f ?k1 ?k2 ?k3 ?k4 ?k5 ?k6 ?_; (case k1 => k_asm); (case k2 => k_asm); (case k3 => k_asm); (case k6 => assumption); (case k4 => k_mem); (case k5 => k_mem); k_whole) | (refine' get_kind_t ?k1 ?k2 ?k3 ?k4 ?k5 ?k6 ?_; (case k1 => k_asm); (case k2 => k_asm); (case k3 => k_asm); (case k6 => assumption); (case k4 => k_mem); (case k5 => k_mem); k_whole)); intro t')
  k_with "getAttr ref" => (k_here; (with_reducible show wpAny _ _ (getAttr (Value.ref _) (Str.ofString "what") _) _ _ _); k_dflt (refine' get_what_t ?k1 ?k2 ?k3 ?k4 ?k5 ?k6 ?_; (case k1 => k_asm); (case k2 => k_asm); (case k3 => k_asm); (case k6 => assumption); (case k4 => k_mem); (case k5 => k_mem); k_whole); intro t')
  k_with "call type:list" => (k_here; (with_reducible show wpAny _ _ (call (Value.type _) [Value.ref _]) _ _ _); k_dflt (refine' list_regs ?k1 ?k2 ?k3 ?k4 ?_; (case k1 => k_asm); (case k2 => k_asm); (case k3 => k_mem); (case k4 => assumption); k_whole); intro D' oH' h' F' N' l1 hH'; (try k_lt l1); (try k_sweep))
  k_with "compareOp Eq ref ref" => (k_here; k_dflt (refine' eq_regs ?k1 ?k2 ?k3 ?k4 ?k5 ?k6 ?_; (case k1 => k_asm); (case k2 => k_mem); (case k3 => k_mem); (case k4 => assumption); (case k5 => assumption); (case k6 => ktr_units); k_whole))
  trivial
theorem kts_fr {g g' h : Heap} {L : Addr} {m : Str → Option Value} (T : KtsTurn (frs []) g g') (F : Fr g' L h m) : Fr g L h m :=
  ⟨F.ns, fun b o e => F.keep b o (T.other b o e fun h => nomatch h), by rw [← T.size]; exact F.above⟩
theorem kts_news {g g' h : Heap} {L : Addr} {led : List (Addr × Obj)} (T : KtsTurn (frs []) g g') (N : News g' L h led) : News g L h led := fun p hp => by
  obtain ⟨a, b, c⟩ := N p hp
  refine ⟨a, b, ?_⟩
  cases q : g.get? p.1 with
  | none => rfl
  | some o =>
    have := T.other _ o q fun h => nomatch h
    rw [c] at this
    cases this
theorem case_L {w : World} {mean : ExcName → Option Value} {mg mb : Str → Option Value} {dp un : Nat} {gd : Option (List Code)} {cn : Str} {cs : Scope} {a : Addr} {ccd : Value} {cl : List (Str × Addr)} {A₀ : Around} {base h₀ : Heap} {L : Addr} {m : Str → Option Value} {s : Shared} {Q E : Value → Shared → Prop}
    {P l : Addr} {b : Int} {oP oL : Obj} {led rest : List (Addr × Obj)}
    (B : Below A₀ base [] h₀) (F : Fr h₀ L s.heap m) (X : (hd.heap_1 w.params).In h₀) (XE : Ext w h₀) (N : News h₀ L s.heap led) (Pk : Picks [(P, oP), (l, oL)] led rest) (T : Top qv Lo mean mg mb h₀) (XB : (hd.heap_1 w.params).In base) (EB : Ext w base) (TB : Top qv Lo mean mg mb base)
    (hk : cs.kind = .function) (hP : PenIs l b oP oL) (hdp : dp + 135 ≤ 500) (hun : un + 3500 ≤ 5000)
    (hret : ∀ oP' oL' h' tk', Fr h₀ L h' m → News h₀ L h' ((P, oP') :: (l, oL') :: rest) → PenIs l (b + 20) oP' oL' → Q (.bool true) { s with heap := h', toks := tk' }) :
    wpAny (model Challenge.rw_ok0167_01.prog w) (ktrTop dp un gd cn cs L a ccd cl []) (call (.ref 510) [.ref P]) Q E s :=
  case_X B F X XE N Pk T XB EB TB hk hP hdp hun fun oP' oL' h₀' h' tk' T' F' B' X' TT' XE' N' hP' => hret oP' oL' h' tk' (kts_fr T' F') (kts_news T' N') hP'

-- Lt
theorem zrLt : True := by first | (row_walk; done) | trivial
set_option maxHeartbeats 8000000 in
theorem lawT : PySem.Challenge.rw_ok0167_01.Holds := by
  refine hd ?_
  k_with_none
  k_with "k_all" => ((intro pA hA; refine neN (Nat.ne_of_lt ?_); refine (by assumption : ∀ p ∈ _, p.1 < _) pA ?_; (repeat (first | exact hA | apply List.Mem.tail)); done))
  k_with "k_all" => (with_reducible assumption)
  k_with "k_upd" => ((first | exact Picks.nil | (refine' Picks.cons ?kuc ?kud; (case kuc => k_upd); (case kud => k_upd)) | (refine' Pick.head ?kua; (case kua => k_all)) | (refine' Pick.tail ?kua ?kub; (case kua => k_ne); (case kub => k_upd)) | (refine' Upd.head ?kua; (case kua => k_all)) | (refine' Upd.tail ?kua ?kub; (case kua => k_ne); (case kub => k_upd))))
  k_with "ktr_rel" => ((refine cb_drop (by assumption) ?_; (repeat' (refine fa_cons (by k_mem) ?_)); first | exact List.forall_mem_nil _ | (intro pD hD; repeat (first | exact hD | apply List.Mem.tail))))
  k_with "cell_enter" => ((refine' code_def ?k1 ?k2 ?k3 ?k4 ?k5 ?kA ?kF ?kK ?k6 ?k7 ?k8 ?k9 ?kB ?_ ?c2 ?c3 ?c4 ?c5; (case kA => exact rfl); (case kF => exact rfl); (case kK => first | assumption | exact rfl); (case k1 => k_asm); (case k2 => k_asm); (case k3 => k_asm); (case k4 => k_asm); (case k5 => k_asm); (case k6 => k_is); (case k7 => k_is); (case k8 => ktr_room); (case k9 => first | exact BindsTo.of_eq rfl | exact binds_K (by k_in) rfl (by k_is) rfl rfl rfl); (case c5 => decide); (case kB => exact locs rfl); (case c2 => exact rfl); (case c3 => exact rfl); (case c4 => exact rfl); k_whole; intro g' L' h' FG' F' N' B' X' T'; (try dsimp only); (try k_lift B'); (try k_fold)))
  k_with "ktr_units" => (((try simp only [units_in1, units_deeper, units_under_make, Around.mark_units]); (try dsimp only [ktrTop]); omega))
  k_with "ktr_room" => (((try simp only [depth_mark, depth_under_make, depth_under_kw, depth_in1, depth_deeper]); (try dsimp only [ktrTop]); omega))
  k_with "call ref" => (k_here; (with_reducible show wpAny _ _ (call (Value.ref 454) [Value.ref _]) _ _ _); k_dflt (refine' pen_C ?kB ?kF ?kX ?kN ?kT ?kk ?kS ?kI ?kl ?kd ?ku ?_; (case kB => exact K1); (case kF => k_asm); (case kX => k_asm); (case kN => k_asm); (case kT => k_asm); (case kk => exact rfl); (case kS => k_asm); (case kI => k_asm); (case kl => omega); (case kd => exact Nat.le_of_ble_eq_true rfl); (case ku => exact Nat.le_of_ble_eq_true rfl)); intro P' l' oP' oL' h' tk' F' N' l1 hP'; (try dsimp only); (try k_sweep); (try k_fold))
  k_with "call ref" => (k_here; (with_reducible show wpAny _ _ (call (Value.ref 510) [Value.ref _]) _ _ _); k_dflt (refine' case_L ?kB ?kF ?kX ?kE ?kN ?kPk ?kT ?kXB ?kEB ?kTB ?kk ?kP ?kd ?ku ?_; (case kP => assumption); (case kB => exact K1); (case kF => k_asm); (case kX => k_asm); (case kE => exact YE); (case kN => k_asm); (case kPk => k_upd); (case kT => k_asm); (case kXB => k_asm); (case kEB => exact YE); (case kTB => k_asm); (case kk => exact rfl); (case kd => exact Nat.le_of_ble_eq_true rfl); (case ku => exact Nat.le_of_ble_eq_true rfl)); intro oP' oL' h' tk' F' N' hP'; (try dsimp only); (try k_sweep); (try k_fold))
  k_fill
  intro w s₀ s₁ mg mb G Y fa o pm cd doc dV kV ho hdd hcd hD hmg hg args vals as hpre hlay hrd hwl hlo
  obtain ⟨Y, YE⟩ := Y
  have KX := kIn_of Y
  have X := (Ground.X G).1
  have V := (Ground.X G).2
  have GL := glob_more (Ground.glob G (by decide +kernel) (by decide +kernel)) V
  refine Ground.open G ?_
  intro T B D TE TW
  try (refine guard_noD D (by decide +kernel) ?_; clear D)
  obtain ⟨_, _, M⟩ := bmod_of_top T
  have TA := at_of_top T
  try (obtain ⟨_, _, he, B0⟩ := based_of_top T rfl hmg ho hdd; have he' : cd = _ := he; subst he'; clear he)
  clear hmg
  wrow_args hpre hlay hrd hwl hlo
  all_goals
    first | refine callC_kw (enter_call ?_) | refine enter_call ?_
    w_top on
    try refine codeAny_mono ?_ (fun _ _ g => GoodW.toG g)
    have K0 := below_caller (Top.heap T)
    w_call any ho hdd hcd hD T F
    clear hdd TA
    k_drop
  all_goals
    (rename Below _ _ _ _ => K9; have K1 : Below callerA s₁.heap [] s₁.heap := K9)
    (try k_fold)
    k_steps

end Mine
theorem PySem.Challenge.cw_ok0167_01_holds : PySem.Challenge.rw_ok0167_01.Holds := by
  exact Mine.lawT

