import PyProof.Rows.All
import Wide.All
import OpenK.AllK
import Wide.FinOn
import Lean
import PySem.Challenge.RW_nz0470_01
open PySem PySem.W PySem.Calls PyProof.Rows PyProof.V PySem.Spec
set_option Elab.async false
set_option rowWalk.seconds 0
namespace Mine
local macro_rules | `(tactic| walk_at $s:str) => do let t := Lean.Syntax.mkStrLit ("m " ++ s.getString); `(tactic| first | k_extra $t | fail)
local macro_rules | `(tactic| k_all) => `(tactic| first | k_extra "t k_all" | fail)
local macro_rules | `(tactic| k_enter) => `(tactic| first | k_extra "t k_enter" | fail)
local macro_rules | `(tactic| k_mem) => `(tactic| first | k_extra "t k_mem" | fail)
local macro_rules | `(tactic| k_room) => `(tactic| first | k_extra "t k_room" | fail)
local macro_rules | `(tactic| k_units) => `(tactic| first | k_extra "t k_units" | fail)
local macro_rules | `(tactic| tb_rel) => `(tactic| first | k_extra "t tb_rel" | fail)
local macro_rules | `(tactic| tb_start) => `(tactic| first | k_extra "t tb_start" | fail)
local macro_rules | `(tactic| tbn_lt) => `(tactic| first | k_extra "t tbn_lt" | fail)
/-! the top, as its run leaves it: defs by their places in the text -/
def nthS : List Stmt → Nat → Stmt
  | [], _ => .Pass ⟨0, 0, 0, 0⟩
  | s :: _, 0 => s
  | _ :: r, n + 1 => nthS r n
def bodyS : Stmt → List Stmt
  | .ClassDef _ _ _ body _ _ _ _ _ _ _ => body
  | _ => []
noncomputable def stTop (i : Nat) : Stmt := nthS PySem.Challenge.pw_nz0470_01.main.body i
noncomputable def stIn (i j : Nat) : Stmt := nthS (bodyS (stTop i)) j
def fnData (S : Stmt) (qual : Str) (globals : Addr) (closure : List (Str × Addr)) (dV kV doc pm : Value) (an : Option Addr) (cdv ct : Value) (bt : Addr) : FuncData := match S with
  | .FunctionDef name args body _ _ _ scope _ _ _ => { name, qualname := qual, params := args, body := .stmts body, scope, globals, closure, defaults := dV, kwdefaults := kV, doc, pyModule := pm, annotations := an, code := cdv, closureTuple := ct, builtins := bt }
  | _ => default
noncomputable def o2 (P : Params) : Obj := ⟨.none, none, (.dict (List.toArray []) 0), #[]⟩
noncomputable def o3 (P : Params) : Obj := ⟨(.type "dict"), none, (.dict (List.toArray [⟨PyData.keyHash P (Str.ofString "__name__"), (.str (Str.ofString "__name__") 165), (.str (Str.ofString "law_nz0470_01") 600)⟩, ⟨PyData.keyHash P (Str.ofString "__doc__"), (.str (Str.ofString "__doc__") 166), .none⟩, ⟨PyData.keyHash P (Str.ofString "__package__"), (.str (Str.ofString "__package__") 167), .none⟩, ⟨PyData.keyHash P (Str.ofString "__loader__"), (.str (Str.ofString "__loader__") 168), (.builtin "__main__.__loader__#opaque")⟩, ⟨PyData.keyHash P (Str.ofString "__spec__"), (.str (Str.ofString "__spec__") 169), .none⟩, ⟨PyData.keyHash P (Str.ofString "__annotations__"), (.str (Str.ofString "__annotations__") 170), (.ref 6)⟩, ⟨PyData.keyHash P (Str.ofString "__builtins__"), (.str (Str.ofString "__builtins__") 171), (.ref 4)⟩, ⟨PyData.keyHash P (Str.ofString "__file__"), (.str (Str.ofString "__file__") 173), (.str (Str.ofString "/claim/cut.py") 172)⟩, ⟨PyData.keyHash P (Str.ofString "__cached__"), (.str (Str.ofString "__cached__") 174), .none⟩, ⟨PyData.keyHash P (Str.ofString "_wall"), (.str (Str.ofString "_wall") 193), (.ref 21)⟩, ⟨PyData.keyHash P (Str.ofString "attribute_values"), (.str (Str.ofString "attribute_values") 201), (.ref 26)⟩, ⟨PyData.keyHash P (Str.ofString "promise_parts"), (.str (Str.ofString "promise_parts") 208), (.ref 33)⟩, ⟨PyData.keyHash P (Str.ofString "environment_parts"), (.str (Str.ofString "environment_parts") 214), (.ref 38)⟩, ⟨PyData.keyHash P (Str.ofString "closure_parts"), (.str (Str.ofString "closure_parts") 220), (.ref 43)⟩, ⟨PyData.keyHash P (Str.ofString "value_parts"), (.str (Str.ofString "value_parts") 226), (.ref 48)⟩, ⟨PyData.keyHash P (Str.ofString "reached_environments"), (.str (Str.ofString "reached_environments") 237), (.ref 55)⟩, ⟨PyData.keyHash P (Str.ofString "Null"), (.str (Str.ofString "Null") 268), (.ref 72)⟩, ⟨PyData.keyHash P (Str.ofString "Missing"), (.str (Str.ofString "Missing") 297), (.ref 93)⟩, ⟨PyData.keyHash P (Str.ofString "Vector"), (.str (Str.ofString "Vector") 339), (.ref 122)⟩, ⟨PyData.keyHash P (Str.ofString "Symbol"), (.str (Str.ofString "Symbol") 370), (.ref 143)⟩, ⟨PyData.keyHash P (Str.ofString "Call"), (.str (Str.ofString "Call") 405), (.ref 165)⟩, ⟨PyData.keyHash P (Str.ofString "Closure"), (.str (Str.ofString "Closure") 441), (.ref 187)⟩, ⟨PyData.keyHash P (Str.ofString "Environment"), (.str (Str.ofString "Environment") 478), (.ref 209)⟩, ⟨PyData.keyHash P (Str.ofString "Promise"), (.str (Str.ofString "Promise") 513), (.ref 230)⟩, ⟨PyData.keyHash P (Str.ofString "Dots"), (.str (Str.ofString "Dots") 544), (.ref 251)⟩, ⟨PyData.keyHash P (Str.ofString "S4Object"), (.str (Str.ofString "S4Object") 576), (.ref 272)⟩, ⟨PyData.keyHash P (Str.ofString "null"), (.str (Str.ofString "null") 582), (.ref 283)⟩, ⟨PyData.keyHash P (Str.ofString "missing"), (.str (Str.ofString "missing") 588), (.ref 290)⟩, ⟨PyData.keyHash P (Str.ofString "number"), (.str (Str.ofString "number") 599), (.ref 298)⟩, ⟨PyData.keyHash P (Str.ofString "_law_pool"), (.str (Str.ofString "_law_pool") 614), (.ref 305)⟩, ⟨PyData.keyHash P (Str.ofString "_law_pick"), (.str (Str.ofString "_law_pick") 623), (.ref 312)⟩, ⟨PyData.keyHash P (Str.ofString "_law_value"), (.str (Str.ofString "_law_value") 639), (.ref 319)⟩, ⟨PyData.keyHash P (Str.ofString "law"), (.str (Str.ofString "law") 645), (.ref 324)⟩]) 33), #[]⟩
noncomputable def o15 (P : Params) : Obj := ⟨(.type "tuple"), none, (.seq #[] 0), #[]⟩
noncomputable def o17 (P : Params) : Obj := ⟨(.type "tuple"), none, (.seq #[(.str (Str.ofString "k") 190)] 0), #[]⟩
noncomputable def o18 (P : Params) : Obj := ⟨(.type "tuple"), none, (.seq #[] 0), #[]⟩
noncomputable def o20 (P : Params) : Obj := ⟨(.type "code"), none, (.fields #[(.str (Str.ofString "_wall") 187), (.str (Str.ofString "_wall") 188), (.str (Str.ofString "/claim/cut.py") 189), (.int 1 0), (.int 1 0), (.int 0 0), (.int 0 0), (.int 3 0), (.ref 15), (.bool true), (.int 181 0), (.ref 16), .none, (.ref 17), (.ref 18), (.ref 19), (.int 191 0), (.int 1 0), (.str (Str.ofString "/claim/cut.py") 192)]), #[]⟩
noncomputable def o21 (P : Params) : Obj := ⟨(.type "function"), none, (.func (fnData (stTop 0) (Str.ofString "_wall") 3 [] .none .none .none (.str (Str.ofString "__main__") 164) none (.ref 20) .none 0)), #[]⟩
noncomputable def o22 (P : Params) : Obj := ⟨(.type "tuple"), none, (.seq #[] 0), #[]⟩
noncomputable def o25 (P : Params) : Obj := ⟨(.type "code"), none, (.fields #[(.str (Str.ofString "attribute_values") 196), (.str (Str.ofString "attribute_values") 197), (.str (Str.ofString "/claim/cut.py") 198), (.int 5 0), (.int 1 0), (.int 0 0), (.int 0 0), (.int 3 0), (.ref 22), (.bool true), (.int 181 0), (.ref 23), .none, .none, .none, (.ref 24), (.int 199 0), (.int 5 0), (.str (Str.ofString "/claim/cut.py") 200)]), #[]⟩
noncomputable def o26 (P : Params) : Obj := ⟨(.type "function"), none, (.func (fnData (stTop 2) (Str.ofString "attribute_values") 3 [] .none .none .none (.str (Str.ofString "vectorcove.reach") 194) none (.ref 25) .none 0)), #[]⟩
noncomputable def o27 (P : Params) : Obj := ⟨(.type "tuple"), none, (.seq #[] 0), #[]⟩
noncomputable def o29 (P : Params) : Obj := ⟨(.type "tuple"), none, (.seq #[(.str (Str.ofString "promise") 205)] 0), #[]⟩
noncomputable def o30 (P : Params) : Obj := ⟨(.type "tuple"), none, (.seq #[] 0), #[]⟩
noncomputable def o32 (P : Params) : Obj := ⟨(.type "code"), none, (.fields #[(.str (Str.ofString "promise_parts") 202), (.str (Str.ofString "promise_parts") 203), (.str (Str.ofString "/claim/cut.py") 204), (.int 9 0), (.int 1 0), (.int 0 0), (.int 0 0), (.int 3 0), (.ref 27), (.bool true), (.int 181 0), (.ref 28), .none, (.ref 29), (.ref 30), (.ref 31), (.int 206 0), (.int 9 0), (.str (Str.ofString "/claim/cut.py") 207)]), #[]⟩
noncomputable def o33 (P : Params) : Obj := ⟨(.type "function"), none, (.func (fnData (stTop 3) (Str.ofString "promise_parts") 3 [] .none .none .none (.str (Str.ofString "vectorcove.reach") 194) none (.ref 32) .none 0)), #[]⟩
noncomputable def o34 (P : Params) : Obj := ⟨(.type "tuple"), none, (.seq #[] 0), #[]⟩
noncomputable def o37 (P : Params) : Obj := ⟨(.type "code"), none, (.fields #[(.str (Str.ofString "environment_parts") 209), (.str (Str.ofString "environment_parts") 210), (.str (Str.ofString "/claim/cut.py") 211), (.int 15 0), (.int 1 0), (.int 0 0), (.int 0 0), (.int 3 0), (.ref 34), (.bool true), (.int 181 0), (.ref 35), .none, .none, .none, (.ref 36), (.int 212 0), (.int 15 0), (.str (Str.ofString "/claim/cut.py") 213)]), #[]⟩
noncomputable def o38 (P : Params) : Obj := ⟨(.type "function"), none, (.func (fnData (stTop 4) (Str.ofString "environment_parts") 3 [] .none .none .none (.str (Str.ofString "vectorcove.reach") 194) none (.ref 37) .none 0)), #[]⟩
noncomputable def o39 (P : Params) : Obj := ⟨(.type "tuple"), none, (.seq #[] 0), #[]⟩
noncomputable def o42 (P : Params) : Obj := ⟨(.type "code"), none, (.fields #[(.str (Str.ofString "closure_parts") 215), (.str (Str.ofString "closure_parts") 216), (.str (Str.ofString "/claim/cut.py") 217), (.int 20 0), (.int 1 0), (.int 0 0), (.int 0 0), (.int 3 0), (.ref 39), (.bool true), (.int 181 0), (.ref 40), .none, .none, .none, (.ref 41), (.int 218 0), (.int 20 0), (.str (Str.ofString "/claim/cut.py") 219)]), #[]⟩
noncomputable def o43 (P : Params) : Obj := ⟨(.type "function"), none, (.func (fnData (stTop 5) (Str.ofString "closure_parts") 3 [] .none .none .none (.str (Str.ofString "vectorcove.reach") 194) none (.ref 42) .none 0)), #[]⟩
noncomputable def o44 (P : Params) : Obj := ⟨(.type "tuple"), none, (.seq #[] 0), #[]⟩
noncomputable def o47 (P : Params) : Obj := ⟨(.type "code"), none, (.fields #[(.str (Str.ofString "value_parts") 221), (.str (Str.ofString "value_parts") 222), (.str (Str.ofString "/claim/cut.py") 223), (.int 25 0), (.int 1 0), (.int 0 0), (.int 0 0), (.int 3 0), (.ref 44), (.bool true), (.int 181 0), (.ref 45), .none, .none, .none, (.ref 46), (.int 224 0), (.int 25 0), (.str (Str.ofString "/claim/cut.py") 225)]), #[]⟩
noncomputable def o48 (P : Params) : Obj := ⟨(.type "function"), none, (.func (fnData (stTop 6) (Str.ofString "value_parts") 3 [] .none .none .none (.str (Str.ofString "vectorcove.reach") 194) none (.ref 47) .none 0)), #[]⟩
noncomputable def o49 (P : Params) : Obj := ⟨(.type "tuple"), none, (.seq #[] 0), #[]⟩
noncomputable def o51 (P : Params) : Obj := ⟨(.type "tuple"), none, (.seq #[(.str (Str.ofString "roots") 230), (.str (Str.ofString "seen") 231), (.str (Str.ofString "pending") 232), (.str (Str.ofString "value") 233), (.str (Str.ofString "part") 234)] 0), #[]⟩
noncomputable def o52 (P : Params) : Obj := ⟨(.type "tuple"), none, (.seq #[] 0), #[]⟩
noncomputable def o54 (P : Params) : Obj := ⟨(.type "code"), none, (.fields #[(.str (Str.ofString "reached_environments") 227), (.str (Str.ofString "reached_environments") 228), (.str (Str.ofString "/claim/cut.py") 229), (.int 40 0), (.int 1 0), (.int 0 0), (.int 0 0), (.int 3 0), (.ref 49), (.bool true), (.int 181 0), (.ref 50), .none, (.ref 51), (.ref 52), (.ref 53), (.int 235 0), (.int 40 0), (.str (Str.ofString "/claim/cut.py") 236)]), #[]⟩
noncomputable def o55 (P : Params) : Obj := ⟨(.type "function"), none, (.func (fnData (stTop 7) (Str.ofString "reached_environments") 3 [] .none .none .none (.str (Str.ofString "vectorcove.reach") 194) none (.ref 54) .none 0)), #[]⟩
noncomputable def o63 (P : Params) : Obj := ⟨(.type "tuple"), none, (.seq #[] 0), #[]⟩
noncomputable def o65 (P : Params) : Obj := ⟨(.type "tuple"), none, (.seq #[(.str (Str.ofString "self") 255)] 0), #[]⟩
noncomputable def o66 (P : Params) : Obj := ⟨(.type "tuple"), none, (.seq #[] 0), #[]⟩
noncomputable def o68 (P : Params) : Obj := ⟨(.type "code"), none, (.fields #[(.str (Str.ofString "__init__") 252), (.str (Str.ofString "Null.__init__") 253), (.str (Str.ofString "/claim/cut.py") 254), (.int 60 0), (.int 1 0), (.int 0 0), (.int 0 0), (.int 3 0), (.ref 63), (.bool true), (.int 181 0), (.ref 64), .none, (.ref 65), (.ref 66), (.ref 67), (.int 256 0), (.int 60 0), (.str (Str.ofString "/claim/cut.py") 257)]), #[]⟩
noncomputable def o69 (P : Params) : Obj := ⟨(.type "function"), none, (.func (fnData (stIn 9 0) (Str.ofString "Null.__init__") 3 [] .none .none .none (.str (Str.ofString "vectorcove.values") 238) none (.ref 68) .none 0)), #[]⟩
noncomputable def o70 (P : Params) : Obj := ⟨(.type "tuple"), none, (.seq #[(.str (Str.ofString "attrs") 259), (.str (Str.ofString "kind") 260)] 0), #[]⟩
noncomputable def o71 (P : Params) : Obj := ⟨(.type "dict"), none, (.dict (List.toArray [⟨PyData.keyHash P (Str.ofString "__module__"), (.str (Str.ofString "__module__") 247), (.str (Str.ofString "vectorcove.values") 238)⟩, ⟨PyData.keyHash P (Str.ofString "__firstlineno__"), (.str (Str.ofString "__firstlineno__") 251), (.int 58 250)⟩, ⟨PyData.keyHash P (Str.ofString "__init__"), (.str (Str.ofString "__init__") 258), (.ref 69)⟩, ⟨PyData.keyHash P (Str.ofString "__static_attributes__"), (.str (Str.ofString "__static_attributes__") 261), (.ref 70)⟩, ⟨PyData.keyHash P (Str.ofString "__dict__"), (.str (Str.ofString "__dict__") 263), (.ref 73)⟩, ⟨PyData.keyHash P (Str.ofString "__weakref__"), (.str (Str.ofString "__weakref__") 265), (.ref 74)⟩, ⟨PyData.keyHash P (Str.ofString "__doc__"), (.str (Str.ofString "__doc__") 266), .none⟩]) 4), #[]⟩
noncomputable def o72 (P : Params) : Obj := ⟨(.type "type"), none, (.cls { name := (Str.ofString "Null"), bases := [(.type "object")], mro := [(.ref 72), (.type "object")], ns := 71, qualname := (Str.ofString "Null"), hasDict := true, slotNames := [], subclasses := [], abstract := false, collection := none, hasDel := false }), #[none, none, (some (.str (Str.ofString "Null") 240)), (some (.str (Str.ofString "Null") 248)), (some (.builtin "object.__new__")), (some (.bool true))]⟩
noncomputable def o73 (P : Params) : Obj := ⟨(.type "getset_descriptor"), none, (.fields #[(.str (Str.ofString "__dict__") 262), (.ref 72), (.builtin "function.__dict__"), (.builtin "function.__dict__#set")]), #[]⟩
noncomputable def o74 (P : Params) : Obj := ⟨(.type "getset_descriptor"), none, (.fields #[(.str (Str.ofString "__weakref__") 264), (.ref 72), (.builtin "ExceptionGroup.__weakref__"), .none]), #[]⟩
noncomputable def o84 (P : Params) : Obj := ⟨(.type "tuple"), none, (.seq #[] 0), #[]⟩
noncomputable def o86 (P : Params) : Obj := ⟨(.type "tuple"), none, (.seq #[(.str (Str.ofString "self") 284)] 0), #[]⟩
noncomputable def o87 (P : Params) : Obj := ⟨(.type "tuple"), none, (.seq #[] 0), #[]⟩
noncomputable def o89 (P : Params) : Obj := ⟨(.type "code"), none, (.fields #[(.str (Str.ofString "__init__") 281), (.str (Str.ofString "Missing.__init__") 282), (.str (Str.ofString "/claim/cut.py") 283), (.int 65 0), (.int 1 0), (.int 0 0), (.int 0 0), (.int 3 0), (.ref 84), (.bool true), (.int 181 0), (.ref 85), .none, (.ref 86), (.ref 87), (.ref 88), (.int 285 0), (.int 65 0), (.str (Str.ofString "/claim/cut.py") 286)]), #[]⟩
noncomputable def o90 (P : Params) : Obj := ⟨(.type "function"), none, (.func (fnData (stIn 10 0) (Str.ofString "Missing.__init__") 3 [] .none .none .none (.str (Str.ofString "vectorcove.values") 238) none (.ref 89) .none 0)), #[]⟩
noncomputable def o91 (P : Params) : Obj := ⟨(.type "tuple"), none, (.seq #[(.str (Str.ofString "attrs") 288), (.str (Str.ofString "kind") 289)] 0), #[]⟩
noncomputable def o92 (P : Params) : Obj := ⟨(.type "dict"), none, (.dict (List.toArray [⟨PyData.keyHash P (Str.ofString "__module__"), (.str (Str.ofString "__module__") 276), (.str (Str.ofString "vectorcove.values") 238)⟩, ⟨PyData.keyHash P (Str.ofString "__firstlineno__"), (.str (Str.ofString "__firstlineno__") 280), (.int 63 279)⟩, ⟨PyData.keyHash P (Str.ofString "__init__"), (.str (Str.ofString "__init__") 287), (.ref 90)⟩, ⟨PyData.keyHash P (Str.ofString "__static_attributes__"), (.str (Str.ofString "__static_attributes__") 290), (.ref 91)⟩, ⟨PyData.keyHash P (Str.ofString "__dict__"), (.str (Str.ofString "__dict__") 292), (.ref 94)⟩, ⟨PyData.keyHash P (Str.ofString "__weakref__"), (.str (Str.ofString "__weakref__") 294), (.ref 95)⟩, ⟨PyData.keyHash P (Str.ofString "__doc__"), (.str (Str.ofString "__doc__") 295), .none⟩]) 4), #[]⟩
noncomputable def o93 (P : Params) : Obj := ⟨(.type "type"), none, (.cls { name := (Str.ofString "Missing"), bases := [(.type "object")], mro := [(.ref 93), (.type "object")], ns := 92, qualname := (Str.ofString "Missing"), hasDict := true, slotNames := [], subclasses := [], abstract := false, collection := none, hasDel := false }), #[none, none, (some (.str (Str.ofString "Missing") 269)), (some (.str (Str.ofString "Missing") 277)), (some (.builtin "object.__new__")), (some (.bool true))]⟩
noncomputable def o94 (P : Params) : Obj := ⟨(.type "getset_descriptor"), none, (.fields #[(.str (Str.ofString "__dict__") 291), (.ref 93), (.builtin "function.__dict__"), (.builtin "function.__dict__#set")]), #[]⟩
noncomputable def o95 (P : Params) : Obj := ⟨(.type "getset_descriptor"), none, (.fields #[(.str (Str.ofString "__weakref__") 293), (.ref 93), (.builtin "ExceptionGroup.__weakref__"), .none]), #[]⟩
noncomputable def o105 (P : Params) : Obj := ⟨(.type "tuple"), none, (.seq #[.none] 0), #[]⟩
noncomputable def o106 (P : Params) : Obj := ⟨(.type "tuple"), none, (.seq #[] 0), #[]⟩
noncomputable def o108 (P : Params) : Obj := ⟨(.type "tuple"), none, (.seq #[(.str (Str.ofString "self") 313), (.str (Str.ofString "kind") 314), (.str (Str.ofString "items") 315), (.str (Str.ofString "attrs") 316)] 0), #[]⟩
noncomputable def o109 (P : Params) : Obj := ⟨(.type "tuple"), none, (.seq #[] 0), #[]⟩
noncomputable def o111 (P : Params) : Obj := ⟨(.type "code"), none, (.fields #[(.str (Str.ofString "__init__") 310), (.str (Str.ofString "Vector.__init__") 311), (.str (Str.ofString "/claim/cut.py") 312), (.int 70 0), (.int 4 0), (.int 0 0), (.int 0 0), (.int 3 0), (.ref 106), (.bool true), (.int 181 0), (.ref 107), .none, (.ref 108), (.ref 109), (.ref 110), (.int 317 0), (.int 70 0), (.str (Str.ofString "/claim/cut.py") 318)]), #[]⟩
noncomputable def o112 (P : Params) : Obj := ⟨(.type "function"), none, (.func (fnData (stIn 11 0) (Str.ofString "Vector.__init__") 3 [] (.ref 105) .none .none (.str (Str.ofString "vectorcove.values") 238) none (.ref 111) .none 0)), #[]⟩
noncomputable def o113 (P : Params) : Obj := ⟨(.type "tuple"), none, (.seq #[] 0), #[]⟩
noncomputable def o115 (P : Params) : Obj := ⟨(.type "tuple"), none, (.seq #[(.str (Str.ofString "self") 323)] 0), #[]⟩
noncomputable def o116 (P : Params) : Obj := ⟨(.type "tuple"), none, (.seq #[] 0), #[]⟩
noncomputable def o118 (P : Params) : Obj := ⟨(.type "code"), none, (.fields #[(.str (Str.ofString "copy") 320), (.str (Str.ofString "Vector.copy") 321), (.str (Str.ofString "/claim/cut.py") 322), (.int 77 0), (.int 1 0), (.int 0 0), (.int 0 0), (.int 3 0), (.ref 113), (.bool true), (.int 181 0), (.ref 114), .none, (.ref 115), (.ref 116), (.ref 117), (.int 324 0), (.int 77 0), (.str (Str.ofString "/claim/cut.py") 325)]), #[]⟩
noncomputable def o119 (P : Params) : Obj := ⟨(.type "function"), none, (.func (fnData (stIn 11 1) (Str.ofString "Vector.copy") 3 [] .none .none .none (.str (Str.ofString "vectorcove.values") 238) none (.ref 118) .none 0)), #[]⟩
noncomputable def o120 (P : Params) : Obj := ⟨(.type "tuple"), none, (.seq #[(.str (Str.ofString "attrs") 327), (.str (Str.ofString "items") 328), (.str (Str.ofString "kind") 329), (.str (Str.ofString "loose") 330), (.str (Str.ofString "shared") 331)] 0), #[]⟩
noncomputable def o121 (P : Params) : Obj := ⟨(.type "dict"), none, (.dict (List.toArray [⟨PyData.keyHash P (Str.ofString "__module__"), (.str (Str.ofString "__module__") 305), (.str (Str.ofString "vectorcove.values") 238)⟩, ⟨PyData.keyHash P (Str.ofString "__firstlineno__"), (.str (Str.ofString "__firstlineno__") 309), (.int 68 308)⟩, ⟨PyData.keyHash P (Str.ofString "__init__"), (.str (Str.ofString "__init__") 319), (.ref 112)⟩, ⟨PyData.keyHash P (Str.ofString "copy"), (.str (Str.ofString "copy") 326), (.ref 119)⟩, ⟨PyData.keyHash P (Str.ofString "__static_attributes__"), (.str (Str.ofString "__static_attributes__") 332), (.ref 120)⟩, ⟨PyData.keyHash P (Str.ofString "__dict__"), (.str (Str.ofString "__dict__") 334), (.ref 123)⟩, ⟨PyData.keyHash P (Str.ofString "__weakref__"), (.str (Str.ofString "__weakref__") 336), (.ref 124)⟩, ⟨PyData.keyHash P (Str.ofString "__doc__"), (.str (Str.ofString "__doc__") 337), .none⟩]) 4), #[]⟩
noncomputable def o122 (P : Params) : Obj := ⟨(.type "type"), none, (.cls { name := (Str.ofString "Vector"), bases := [(.type "object")], mro := [(.ref 122), (.type "object")], ns := 121, qualname := (Str.ofString "Vector"), hasDict := true, slotNames := [], subclasses := [], abstract := false, collection := none, hasDel := false }), #[none, none, (some (.str (Str.ofString "Vector") 298)), (some (.str (Str.ofString "Vector") 306)), (some (.builtin "object.__new__")), (some (.bool true))]⟩
noncomputable def o123 (P : Params) : Obj := ⟨(.type "getset_descriptor"), none, (.fields #[(.str (Str.ofString "__dict__") 333), (.ref 122), (.builtin "function.__dict__"), (.builtin "function.__dict__#set")]), #[]⟩
noncomputable def o124 (P : Params) : Obj := ⟨(.type "getset_descriptor"), none, (.fields #[(.str (Str.ofString "__weakref__") 335), (.ref 122), (.builtin "ExceptionGroup.__weakref__"), .none]), #[]⟩
noncomputable def o134 (P : Params) : Obj := ⟨(.type "tuple"), none, (.seq #[] 0), #[]⟩
noncomputable def o136 (P : Params) : Obj := ⟨(.type "tuple"), none, (.seq #[(.str (Str.ofString "self") 355), (.str (Str.ofString "name") 356)] 0), #[]⟩
noncomputable def o137 (P : Params) : Obj := ⟨(.type "tuple"), none, (.seq #[] 0), #[]⟩
noncomputable def o139 (P : Params) : Obj := ⟨(.type "code"), none, (.fields #[(.str (Str.ofString "__init__") 352), (.str (Str.ofString "Symbol.__init__") 353), (.str (Str.ofString "/claim/cut.py") 354), (.int 81 0), (.int 2 0), (.int 0 0), (.int 0 0), (.int 3 0), (.ref 134), (.bool true), (.int 181 0), (.ref 135), .none, (.ref 136), (.ref 137), (.ref 138), (.int 357 0), (.int 81 0), (.str (Str.ofString "/claim/cut.py") 358)]), #[]⟩
noncomputable def o140 (P : Params) : Obj := ⟨(.type "function"), none, (.func (fnData (stIn 12 0) (Str.ofString "Symbol.__init__") 3 [] .none .none .none (.str (Str.ofString "vectorcove.values") 238) none (.ref 139) .none 0)), #[]⟩
noncomputable def o141 (P : Params) : Obj := ⟨(.type "tuple"), none, (.seq #[(.str (Str.ofString "attrs") 360), (.str (Str.ofString "kind") 361), (.str (Str.ofString "name") 362)] 0), #[]⟩
noncomputable def o142 (P : Params) : Obj := ⟨(.type "dict"), none, (.dict (List.toArray [⟨PyData.keyHash P (Str.ofString "__module__"), (.str (Str.ofString "__module__") 347), (.str (Str.ofString "vectorcove.values") 238)⟩, ⟨PyData.keyHash P (Str.ofString "__firstlineno__"), (.str (Str.ofString "__firstlineno__") 351), (.int 79 350)⟩, ⟨PyData.keyHash P (Str.ofString "__init__"), (.str (Str.ofString "__init__") 359), (.ref 140)⟩, ⟨PyData.keyHash P (Str.ofString "__static_attributes__"), (.str (Str.ofString "__static_attributes__") 363), (.ref 141)⟩, ⟨PyData.keyHash P (Str.ofString "__dict__"), (.str (Str.ofString "__dict__") 365), (.ref 144)⟩, ⟨PyData.keyHash P (Str.ofString "__weakref__"), (.str (Str.ofString "__weakref__") 367), (.ref 145)⟩, ⟨PyData.keyHash P (Str.ofString "__doc__"), (.str (Str.ofString "__doc__") 368), .none⟩]) 4), #[]⟩
noncomputable def o143 (P : Params) : Obj := ⟨(.type "type"), none, (.cls { name := (Str.ofString "Symbol"), bases := [(.type "object")], mro := [(.ref 143), (.type "object")], ns := 142, qualname := (Str.ofString "Symbol"), hasDict := true, slotNames := [], subclasses := [], abstract := false, collection := none, hasDel := false }), #[none, none, (some (.str (Str.ofString "Symbol") 340)), (some (.str (Str.ofString "Symbol") 348)), (some (.builtin "object.__new__")), (some (.bool true))]⟩
noncomputable def o144 (P : Params) : Obj := ⟨(.type "getset_descriptor"), none, (.fields #[(.str (Str.ofString "__dict__") 364), (.ref 143), (.builtin "function.__dict__"), (.builtin "function.__dict__#set")]), #[]⟩
noncomputable def o145 (P : Params) : Obj := ⟨(.type "getset_descriptor"), none, (.fields #[(.str (Str.ofString "__weakref__") 366), (.ref 143), (.builtin "ExceptionGroup.__weakref__"), .none]), #[]⟩
noncomputable def o155 (P : Params) : Obj := ⟨(.type "tuple"), none, (.seq #[.none] 0), #[]⟩
noncomputable def o156 (P : Params) : Obj := ⟨(.type "tuple"), none, (.seq #[] 0), #[]⟩
noncomputable def o158 (P : Params) : Obj := ⟨(.type "tuple"), none, (.seq #[(.str (Str.ofString "self") 386), (.str (Str.ofString "items") 387), (.str (Str.ofString "tags") 388), (.str (Str.ofString "attrs") 389)] 0), #[]⟩
noncomputable def o159 (P : Params) : Obj := ⟨(.type "tuple"), none, (.seq #[] 0), #[]⟩
noncomputable def o161 (P : Params) : Obj := ⟨(.type "code"), none, (.fields #[(.str (Str.ofString "__init__") 383), (.str (Str.ofString "Call.__init__") 384), (.str (Str.ofString "/claim/cut.py") 385), (.int 87 0), (.int 4 0), (.int 0 0), (.int 0 0), (.int 3 0), (.ref 156), (.bool true), (.int 181 0), (.ref 157), .none, (.ref 158), (.ref 159), (.ref 160), (.int 390 0), (.int 87 0), (.str (Str.ofString "/claim/cut.py") 391)]), #[]⟩
noncomputable def o162 (P : Params) : Obj := ⟨(.type "function"), none, (.func (fnData (stIn 13 0) (Str.ofString "Call.__init__") 3 [] (.ref 155) .none .none (.str (Str.ofString "vectorcove.values") 238) none (.ref 161) .none 0)), #[]⟩
noncomputable def o163 (P : Params) : Obj := ⟨(.type "tuple"), none, (.seq #[(.str (Str.ofString "attrs") 393), (.str (Str.ofString "code") 394), (.str (Str.ofString "items") 395), (.str (Str.ofString "kind") 396), (.str (Str.ofString "tags") 397)] 0), #[]⟩
noncomputable def o164 (P : Params) : Obj := ⟨(.type "dict"), none, (.dict (List.toArray [⟨PyData.keyHash P (Str.ofString "__module__"), (.str (Str.ofString "__module__") 378), (.str (Str.ofString "vectorcove.values") 238)⟩, ⟨PyData.keyHash P (Str.ofString "__firstlineno__"), (.str (Str.ofString "__firstlineno__") 382), (.int 85 381)⟩, ⟨PyData.keyHash P (Str.ofString "__init__"), (.str (Str.ofString "__init__") 392), (.ref 162)⟩, ⟨PyData.keyHash P (Str.ofString "__static_attributes__"), (.str (Str.ofString "__static_attributes__") 398), (.ref 163)⟩, ⟨PyData.keyHash P (Str.ofString "__dict__"), (.str (Str.ofString "__dict__") 400), (.ref 166)⟩, ⟨PyData.keyHash P (Str.ofString "__weakref__"), (.str (Str.ofString "__weakref__") 402), (.ref 167)⟩, ⟨PyData.keyHash P (Str.ofString "__doc__"), (.str (Str.ofString "__doc__") 403), .none⟩]) 4), #[]⟩
noncomputable def o165 (P : Params) : Obj := ⟨(.type "type"), none, (.cls { name := (Str.ofString "Call"), bases := [(.type "object")], mro := [(.ref 165), (.type "object")], ns := 164, qualname := (Str.ofString "Call"), hasDict := true, slotNames := [], subclasses := [], abstract := false, collection := none, hasDel := false }), #[none, none, (some (.str (Str.ofString "Call") 371)), (some (.str (Str.ofString "Call") 379)), (some (.builtin "object.__new__")), (some (.bool true))]⟩
noncomputable def o166 (P : Params) : Obj := ⟨(.type "getset_descriptor"), none, (.fields #[(.str (Str.ofString "__dict__") 399), (.ref 165), (.builtin "function.__dict__"), (.builtin "function.__dict__#set")]), #[]⟩
noncomputable def o167 (P : Params) : Obj := ⟨(.type "getset_descriptor"), none, (.fields #[(.str (Str.ofString "__weakref__") 401), (.ref 165), (.builtin "ExceptionGroup.__weakref__"), .none]), #[]⟩
noncomputable def o177 (P : Params) : Obj := ⟨(.type "tuple"), none, (.seq #[.none] 0), #[]⟩
noncomputable def o178 (P : Params) : Obj := ⟨(.type "tuple"), none, (.seq #[] 0), #[]⟩
noncomputable def o180 (P : Params) : Obj := ⟨(.type "tuple"), none, (.seq #[(.str (Str.ofString "self") 421), (.str (Str.ofString "formals") 422), (.str (Str.ofString "body") 423), (.str (Str.ofString "env") 424), (.str (Str.ofString "attrs") 425)] 0), #[]⟩
noncomputable def o181 (P : Params) : Obj := ⟨(.type "tuple"), none, (.seq #[] 0), #[]⟩
noncomputable def o183 (P : Params) : Obj := ⟨(.type "code"), none, (.fields #[(.str (Str.ofString "__init__") 418), (.str (Str.ofString "Closure.__init__") 419), (.str (Str.ofString "/claim/cut.py") 420), (.int 95 0), (.int 5 0), (.int 0 0), (.int 0 0), (.int 3 0), (.ref 178), (.bool true), (.int 181 0), (.ref 179), .none, (.ref 180), (.ref 181), (.ref 182), (.int 426 0), (.int 95 0), (.str (Str.ofString "/claim/cut.py") 427)]), #[]⟩
noncomputable def o184 (P : Params) : Obj := ⟨(.type "function"), none, (.func (fnData (stIn 14 0) (Str.ofString "Closure.__init__") 3 [] (.ref 177) .none .none (.str (Str.ofString "vectorcove.values") 238) none (.ref 183) .none 0)), #[]⟩
noncomputable def o185 (P : Params) : Obj := ⟨(.type "tuple"), none, (.seq #[(.str (Str.ofString "attrs") 429), (.str (Str.ofString "body") 430), (.str (Str.ofString "env") 431), (.str (Str.ofString "formals") 432), (.str (Str.ofString "kind") 433)] 0), #[]⟩
noncomputable def o186 (P : Params) : Obj := ⟨(.type "dict"), none, (.dict (List.toArray [⟨PyData.keyHash P (Str.ofString "__module__"), (.str (Str.ofString "__module__") 413), (.str (Str.ofString "vectorcove.values") 238)⟩, ⟨PyData.keyHash P (Str.ofString "__firstlineno__"), (.str (Str.ofString "__firstlineno__") 417), (.int 93 416)⟩, ⟨PyData.keyHash P (Str.ofString "__init__"), (.str (Str.ofString "__init__") 428), (.ref 184)⟩, ⟨PyData.keyHash P (Str.ofString "__static_attributes__"), (.str (Str.ofString "__static_attributes__") 434), (.ref 185)⟩, ⟨PyData.keyHash P (Str.ofString "__dict__"), (.str (Str.ofString "__dict__") 436), (.ref 188)⟩, ⟨PyData.keyHash P (Str.ofString "__weakref__"), (.str (Str.ofString "__weakref__") 438), (.ref 189)⟩, ⟨PyData.keyHash P (Str.ofString "__doc__"), (.str (Str.ofString "__doc__") 439), .none⟩]) 4), #[]⟩
noncomputable def o187 (P : Params) : Obj := ⟨(.type "type"), none, (.cls { name := (Str.ofString "Closure"), bases := [(.type "object")], mro := [(.ref 187), (.type "object")], ns := 186, qualname := (Str.ofString "Closure"), hasDict := true, slotNames := [], subclasses := [], abstract := false, collection := none, hasDel := false }), #[none, none, (some (.str (Str.ofString "Closure") 406)), (some (.str (Str.ofString "Closure") 414)), (some (.builtin "object.__new__")), (some (.bool true))]⟩
noncomputable def o188 (P : Params) : Obj := ⟨(.type "getset_descriptor"), none, (.fields #[(.str (Str.ofString "__dict__") 435), (.ref 187), (.builtin "function.__dict__"), (.builtin "function.__dict__#set")]), #[]⟩
noncomputable def o189 (P : Params) : Obj := ⟨(.type "getset_descriptor"), none, (.fields #[(.str (Str.ofString "__weakref__") 437), (.ref 187), (.builtin "ExceptionGroup.__weakref__"), .none]), #[]⟩
noncomputable def o199 (P : Params) : Obj := ⟨(.type "tuple"), none, (.seq #[.none] 0), #[]⟩
noncomputable def o200 (P : Params) : Obj := ⟨(.type "tuple"), none, (.seq #[] 0), #[]⟩
noncomputable def o202 (P : Params) : Obj := ⟨(.type "tuple"), none, (.seq #[(.str (Str.ofString "self") 457), (.str (Str.ofString "number") 458), (.str (Str.ofString "parent") 459), (.str (Str.ofString "attrs") 460)] 0), #[]⟩
noncomputable def o203 (P : Params) : Obj := ⟨(.type "tuple"), none, (.seq #[] 0), #[]⟩
noncomputable def o205 (P : Params) : Obj := ⟨(.type "code"), none, (.fields #[(.str (Str.ofString "__init__") 454), (.str (Str.ofString "Environment.__init__") 455), (.str (Str.ofString "/claim/cut.py") 456), (.int 103 0), (.int 4 0), (.int 0 0), (.int 0 0), (.int 3 0), (.ref 200), (.bool true), (.int 181 0), (.ref 201), .none, (.ref 202), (.ref 203), (.ref 204), (.int 461 0), (.int 103 0), (.str (Str.ofString "/claim/cut.py") 462)]), #[]⟩
noncomputable def o206 (P : Params) : Obj := ⟨(.type "function"), none, (.func (fnData (stIn 15 0) (Str.ofString "Environment.__init__") 3 [] (.ref 199) .none .none (.str (Str.ofString "vectorcove.values") 238) none (.ref 205) .none 0)), #[]⟩
noncomputable def o207 (P : Params) : Obj := ⟨(.type "tuple"), none, (.seq #[(.str (Str.ofString "attrs") 464), (.str (Str.ofString "frame") 465), (.str (Str.ofString "kind") 466), (.str (Str.ofString "locked") 467), (.str (Str.ofString "locks") 468), (.str (Str.ofString "number") 469), (.str (Str.ofString "parent") 470)] 0), #[]⟩
noncomputable def o208 (P : Params) : Obj := ⟨(.type "dict"), none, (.dict (List.toArray [⟨PyData.keyHash P (Str.ofString "__module__"), (.str (Str.ofString "__module__") 449), (.str (Str.ofString "vectorcove.values") 238)⟩, ⟨PyData.keyHash P (Str.ofString "__firstlineno__"), (.str (Str.ofString "__firstlineno__") 453), (.int 101 452)⟩, ⟨PyData.keyHash P (Str.ofString "__init__"), (.str (Str.ofString "__init__") 463), (.ref 206)⟩, ⟨PyData.keyHash P (Str.ofString "__static_attributes__"), (.str (Str.ofString "__static_attributes__") 471), (.ref 207)⟩, ⟨PyData.keyHash P (Str.ofString "__dict__"), (.str (Str.ofString "__dict__") 473), (.ref 210)⟩, ⟨PyData.keyHash P (Str.ofString "__weakref__"), (.str (Str.ofString "__weakref__") 475), (.ref 211)⟩, ⟨PyData.keyHash P (Str.ofString "__doc__"), (.str (Str.ofString "__doc__") 476), .none⟩]) 4), #[]⟩
noncomputable def o209 (P : Params) : Obj := ⟨(.type "type"), none, (.cls { name := (Str.ofString "Environment"), bases := [(.type "object")], mro := [(.ref 209), (.type "object")], ns := 208, qualname := (Str.ofString "Environment"), hasDict := true, slotNames := [], subclasses := [], abstract := false, collection := none, hasDel := false }), #[none, none, (some (.str (Str.ofString "Environment") 442)), (some (.str (Str.ofString "Environment") 450)), (some (.builtin "object.__new__")), (some (.bool true))]⟩
noncomputable def o210 (P : Params) : Obj := ⟨(.type "getset_descriptor"), none, (.fields #[(.str (Str.ofString "__dict__") 472), (.ref 209), (.builtin "function.__dict__"), (.builtin "function.__dict__#set")]), #[]⟩
noncomputable def o211 (P : Params) : Obj := ⟨(.type "getset_descriptor"), none, (.fields #[(.str (Str.ofString "__weakref__") 474), (.ref 209), (.builtin "ExceptionGroup.__weakref__"), .none]), #[]⟩
noncomputable def o221 (P : Params) : Obj := ⟨(.type "tuple"), none, (.seq #[] 0), #[]⟩
noncomputable def o223 (P : Params) : Obj := ⟨(.type "tuple"), none, (.seq #[(.str (Str.ofString "self") 494), (.str (Str.ofString "expr") 495), (.str (Str.ofString "env") 496)] 0), #[]⟩
noncomputable def o224 (P : Params) : Obj := ⟨(.type "tuple"), none, (.seq #[] 0), #[]⟩
noncomputable def o226 (P : Params) : Obj := ⟨(.type "code"), none, (.fields #[(.str (Str.ofString "__init__") 491), (.str (Str.ofString "Promise.__init__") 492), (.str (Str.ofString "/claim/cut.py") 493), (.int 113 0), (.int 3 0), (.int 0 0), (.int 0 0), (.int 3 0), (.ref 221), (.bool true), (.int 181 0), (.ref 222), .none, (.ref 223), (.ref 224), (.ref 225), (.int 497 0), (.int 113 0), (.str (Str.ofString "/claim/cut.py") 498)]), #[]⟩
noncomputable def o227 (P : Params) : Obj := ⟨(.type "function"), none, (.func (fnData (stIn 16 0) (Str.ofString "Promise.__init__") 3 [] .none .none .none (.str (Str.ofString "vectorcove.values") 238) none (.ref 226) .none 0)), #[]⟩
noncomputable def o228 (P : Params) : Obj := ⟨(.type "tuple"), none, (.seq #[(.str (Str.ofString "attrs") 500), (.str (Str.ofString "env") 501), (.str (Str.ofString "expr") 502), (.str (Str.ofString "kind") 503), (.str (Str.ofString "state") 504), (.str (Str.ofString "value") 505)] 0), #[]⟩
noncomputable def o229 (P : Params) : Obj := ⟨(.type "dict"), none, (.dict (List.toArray [⟨PyData.keyHash P (Str.ofString "__module__"), (.str (Str.ofString "__module__") 486), (.str (Str.ofString "vectorcove.values") 238)⟩, ⟨PyData.keyHash P (Str.ofString "__firstlineno__"), (.str (Str.ofString "__firstlineno__") 490), (.int 111 489)⟩, ⟨PyData.keyHash P (Str.ofString "__init__"), (.str (Str.ofString "__init__") 499), (.ref 227)⟩, ⟨PyData.keyHash P (Str.ofString "__static_attributes__"), (.str (Str.ofString "__static_attributes__") 506), (.ref 228)⟩, ⟨PyData.keyHash P (Str.ofString "__dict__"), (.str (Str.ofString "__dict__") 508), (.ref 231)⟩, ⟨PyData.keyHash P (Str.ofString "__weakref__"), (.str (Str.ofString "__weakref__") 510), (.ref 232)⟩, ⟨PyData.keyHash P (Str.ofString "__doc__"), (.str (Str.ofString "__doc__") 511), .none⟩]) 4), #[]⟩
noncomputable def o230 (P : Params) : Obj := ⟨(.type "type"), none, (.cls { name := (Str.ofString "Promise"), bases := [(.type "object")], mro := [(.ref 230), (.type "object")], ns := 229, qualname := (Str.ofString "Promise"), hasDict := true, slotNames := [], subclasses := [], abstract := false, collection := none, hasDel := false }), #[none, none, (some (.str (Str.ofString "Promise") 479)), (some (.str (Str.ofString "Promise") 487)), (some (.builtin "object.__new__")), (some (.bool true))]⟩
noncomputable def o231 (P : Params) : Obj := ⟨(.type "getset_descriptor"), none, (.fields #[(.str (Str.ofString "__dict__") 507), (.ref 230), (.builtin "function.__dict__"), (.builtin "function.__dict__#set")]), #[]⟩
noncomputable def o232 (P : Params) : Obj := ⟨(.type "getset_descriptor"), none, (.fields #[(.str (Str.ofString "__weakref__") 509), (.ref 230), (.builtin "ExceptionGroup.__weakref__"), .none]), #[]⟩
noncomputable def o242 (P : Params) : Obj := ⟨(.type "tuple"), none, (.seq #[] 0), #[]⟩
noncomputable def o244 (P : Params) : Obj := ⟨(.type "tuple"), none, (.seq #[(.str (Str.ofString "self") 529), (.str (Str.ofString "args") 530)] 0), #[]⟩
noncomputable def o245 (P : Params) : Obj := ⟨(.type "tuple"), none, (.seq #[] 0), #[]⟩
noncomputable def o247 (P : Params) : Obj := ⟨(.type "code"), none, (.fields #[(.str (Str.ofString "__init__") 526), (.str (Str.ofString "Dots.__init__") 527), (.str (Str.ofString "/claim/cut.py") 528), (.int 122 0), (.int 2 0), (.int 0 0), (.int 0 0), (.int 3 0), (.ref 242), (.bool true), (.int 181 0), (.ref 243), .none, (.ref 244), (.ref 245), (.ref 246), (.int 531 0), (.int 122 0), (.str (Str.ofString "/claim/cut.py") 532)]), #[]⟩
noncomputable def o248 (P : Params) : Obj := ⟨(.type "function"), none, (.func (fnData (stIn 17 0) (Str.ofString "Dots.__init__") 3 [] .none .none .none (.str (Str.ofString "vectorcove.values") 238) none (.ref 247) .none 0)), #[]⟩
noncomputable def o249 (P : Params) : Obj := ⟨(.type "tuple"), none, (.seq #[(.str (Str.ofString "args") 534), (.str (Str.ofString "attrs") 535), (.str (Str.ofString "kind") 536)] 0), #[]⟩
noncomputable def o250 (P : Params) : Obj := ⟨(.type "dict"), none, (.dict (List.toArray [⟨PyData.keyHash P (Str.ofString "__module__"), (.str (Str.ofString "__module__") 521), (.str (Str.ofString "vectorcove.values") 238)⟩, ⟨PyData.keyHash P (Str.ofString "__firstlineno__"), (.str (Str.ofString "__firstlineno__") 525), (.int 120 524)⟩, ⟨PyData.keyHash P (Str.ofString "__init__"), (.str (Str.ofString "__init__") 533), (.ref 248)⟩, ⟨PyData.keyHash P (Str.ofString "__static_attributes__"), (.str (Str.ofString "__static_attributes__") 537), (.ref 249)⟩, ⟨PyData.keyHash P (Str.ofString "__dict__"), (.str (Str.ofString "__dict__") 539), (.ref 252)⟩, ⟨PyData.keyHash P (Str.ofString "__weakref__"), (.str (Str.ofString "__weakref__") 541), (.ref 253)⟩, ⟨PyData.keyHash P (Str.ofString "__doc__"), (.str (Str.ofString "__doc__") 542), .none⟩]) 4), #[]⟩
noncomputable def o251 (P : Params) : Obj := ⟨(.type "type"), none, (.cls { name := (Str.ofString "Dots"), bases := [(.type "object")], mro := [(.ref 251), (.type "object")], ns := 250, qualname := (Str.ofString "Dots"), hasDict := true, slotNames := [], subclasses := [], abstract := false, collection := none, hasDel := false }), #[none, none, (some (.str (Str.ofString "Dots") 514)), (some (.str (Str.ofString "Dots") 522)), (some (.builtin "object.__new__")), (some (.bool true))]⟩
noncomputable def o252 (P : Params) : Obj := ⟨(.type "getset_descriptor"), none, (.fields #[(.str (Str.ofString "__dict__") 538), (.ref 251), (.builtin "function.__dict__"), (.builtin "function.__dict__#set")]), #[]⟩
noncomputable def o253 (P : Params) : Obj := ⟨(.type "getset_descriptor"), none, (.fields #[(.str (Str.ofString "__weakref__") 540), (.ref 251), (.builtin "ExceptionGroup.__weakref__"), .none]), #[]⟩
noncomputable def o263 (P : Params) : Obj := ⟨(.type "tuple"), none, (.seq #[] 0), #[]⟩
noncomputable def o265 (P : Params) : Obj := ⟨(.type "tuple"), none, (.seq #[(.str (Str.ofString "self") 560), (.str (Str.ofString "name") 561)] 0), #[]⟩
noncomputable def o266 (P : Params) : Obj := ⟨(.type "tuple"), none, (.seq #[] 0), #[]⟩
noncomputable def o268 (P : Params) : Obj := ⟨(.type "code"), none, (.fields #[(.str (Str.ofString "__init__") 557), (.str (Str.ofString "S4Object.__init__") 558), (.str (Str.ofString "/claim/cut.py") 559), (.int 128 0), (.int 2 0), (.int 0 0), (.int 0 0), (.int 3 0), (.ref 263), (.bool true), (.int 181 0), (.ref 264), .none, (.ref 265), (.ref 266), (.ref 267), (.int 562 0), (.int 128 0), (.str (Str.ofString "/claim/cut.py") 563)]), #[]⟩
noncomputable def o269 (P : Params) : Obj := ⟨(.type "function"), none, (.func (fnData (stIn 18 0) (Str.ofString "S4Object.__init__") 3 [] .none .none .none (.str (Str.ofString "vectorcove.values") 238) none (.ref 268) .none 0)), #[]⟩
noncomputable def o270 (P : Params) : Obj := ⟨(.type "tuple"), none, (.seq #[(.str (Str.ofString "attrs") 565), (.str (Str.ofString "kind") 566), (.str (Str.ofString "name") 567), (.str (Str.ofString "slots") 568)] 0), #[]⟩
noncomputable def o271 (P : Params) : Obj := ⟨(.type "dict"), none, (.dict (List.toArray [⟨PyData.keyHash P (Str.ofString "__module__"), (.str (Str.ofString "__module__") 552), (.str (Str.ofString "vectorcove.values") 238)⟩, ⟨PyData.keyHash P (Str.ofString "__firstlineno__"), (.str (Str.ofString "__firstlineno__") 556), (.int 126 555)⟩, ⟨PyData.keyHash P (Str.ofString "__init__"), (.str (Str.ofString "__init__") 564), (.ref 269)⟩, ⟨PyData.keyHash P (Str.ofString "__static_attributes__"), (.str (Str.ofString "__static_attributes__") 569), (.ref 270)⟩, ⟨PyData.keyHash P (Str.ofString "__dict__"), (.str (Str.ofString "__dict__") 571), (.ref 273)⟩, ⟨PyData.keyHash P (Str.ofString "__weakref__"), (.str (Str.ofString "__weakref__") 573), (.ref 274)⟩, ⟨PyData.keyHash P (Str.ofString "__doc__"), (.str (Str.ofString "__doc__") 574), .none⟩]) 4), #[]⟩
noncomputable def o272 (P : Params) : Obj := ⟨(.type "type"), none, (.cls { name := (Str.ofString "S4Object"), bases := [(.type "object")], mro := [(.ref 272), (.type "object")], ns := 271, qualname := (Str.ofString "S4Object"), hasDict := true, slotNames := [], subclasses := [], abstract := false, collection := none, hasDel := false }), #[none, none, (some (.str (Str.ofString "S4Object") 545)), (some (.str (Str.ofString "S4Object") 553)), (some (.builtin "object.__new__")), (some (.bool true))]⟩
noncomputable def o273 (P : Params) : Obj := ⟨(.type "getset_descriptor"), none, (.fields #[(.str (Str.ofString "__dict__") 570), (.ref 272), (.builtin "function.__dict__"), (.builtin "function.__dict__#set")]), #[]⟩
noncomputable def o274 (P : Params) : Obj := ⟨(.type "getset_descriptor"), none, (.fields #[(.str (Str.ofString "__weakref__") 572), (.ref 272), (.builtin "ExceptionGroup.__weakref__"), .none]), #[]⟩
noncomputable def o277 (P : Params) : Obj := ⟨(.type "tuple"), none, (.seq #[] 0), #[]⟩
noncomputable def o279 (P : Params) : Obj := ⟨(.type "tuple"), none, (.seq #[] 0), #[]⟩
noncomputable def o280 (P : Params) : Obj := ⟨(.type "tuple"), none, (.seq #[] 0), #[]⟩
noncomputable def o282 (P : Params) : Obj := ⟨(.type "code"), none, (.fields #[(.str (Str.ofString "null") 577), (.str (Str.ofString "null") 578), (.str (Str.ofString "/claim/cut.py") 579), (.int 133 0), (.int 0 0), (.int 0 0), (.int 0 0), (.int 3 0), (.ref 277), (.bool true), (.int 181 0), (.ref 278), .none, (.ref 279), (.ref 280), (.ref 281), (.int 580 0), (.int 133 0), (.str (Str.ofString "/claim/cut.py") 581)]), #[]⟩
noncomputable def o283 (P : Params) : Obj := ⟨(.type "function"), none, (.func (fnData (stTop 19) (Str.ofString "null") 3 [] .none .none .none (.str (Str.ofString "vectorcove.values") 238) none (.ref 282) .none 0)), #[]⟩
noncomputable def o284 (P : Params) : Obj := ⟨(.type "tuple"), none, (.seq #[] 0), #[]⟩
noncomputable def o286 (P : Params) : Obj := ⟨(.type "tuple"), none, (.seq #[] 0), #[]⟩
noncomputable def o287 (P : Params) : Obj := ⟨(.type "tuple"), none, (.seq #[] 0), #[]⟩
noncomputable def o289 (P : Params) : Obj := ⟨(.type "code"), none, (.fields #[(.str (Str.ofString "missing") 583), (.str (Str.ofString "missing") 584), (.str (Str.ofString "/claim/cut.py") 585), (.int 135 0), (.int 0 0), (.int 0 0), (.int 0 0), (.int 3 0), (.ref 284), (.bool true), (.int 181 0), (.ref 285), .none, (.ref 286), (.ref 287), (.ref 288), (.int 586 0), (.int 135 0), (.str (Str.ofString "/claim/cut.py") 587)]), #[]⟩
noncomputable def o290 (P : Params) : Obj := ⟨(.type "function"), none, (.func (fnData (stTop 20) (Str.ofString "missing") 3 [] .none .none .none (.str (Str.ofString "vectorcove.values") 238) none (.ref 289) .none 0)), #[]⟩
noncomputable def o291 (P : Params) : Obj := ⟨(.type "tuple"), none, (.seq #[(.int 1 589)] 0), #[]⟩
noncomputable def o292 (P : Params) : Obj := ⟨(.type "tuple"), none, (.seq #[] 0), #[]⟩
noncomputable def o294 (P : Params) : Obj := ⟨(.type "tuple"), none, (.seq #[(.str (Str.ofString "n") 593), (.str (Str.ofString "d") 594), (.str (Str.ofString "a") 595), (.str (Str.ofString "b") 596)] 0), #[]⟩
noncomputable def o295 (P : Params) : Obj := ⟨(.type "tuple"), none, (.seq #[] 0), #[]⟩
noncomputable def o297 (P : Params) : Obj := ⟨(.type "code"), none, (.fields #[(.str (Str.ofString "number") 590), (.str (Str.ofString "number") 591), (.str (Str.ofString "/claim/cut.py") 592), (.int 137 0), (.int 2 0), (.int 0 0), (.int 0 0), (.int 3 0), (.ref 292), (.bool true), (.int 181 0), (.ref 293), .none, (.ref 294), (.ref 295), (.ref 296), (.int 597 0), (.int 137 0), (.str (Str.ofString "/claim/cut.py") 598)]), #[]⟩
noncomputable def o298 (P : Params) : Obj := ⟨(.type "function"), none, (.func (fnData (stTop 21) (Str.ofString "number") 3 [] (.ref 291) .none .none (.str (Str.ofString "vectorcove.values") 238) none (.ref 297) .none 0)), #[]⟩
noncomputable def o299 (P : Params) : Obj := ⟨(.type "tuple"), none, (.seq #[] 0), #[]⟩
noncomputable def o301 (P : Params) : Obj := ⟨(.type "tuple"), none, (.seq #[(.str (Str.ofString "script") 605), (.str (Str.ofString "figures") 606), (.str (Str.ofString "mix") 607), (.str (Str.ofString "cell") 608), (.str (Str.ofString "big") 609), (.str (Str.ofString "rest") 610), (.str (Str.ofString "step") 611)] 0), #[]⟩
noncomputable def o302 (P : Params) : Obj := ⟨(.type "tuple"), none, (.seq #[] 0), #[]⟩
noncomputable def o304 (P : Params) : Obj := ⟨(.type "code"), none, (.fields #[(.str (Str.ofString "_law_pool") 602), (.str (Str.ofString "_law_pool") 603), (.str (Str.ofString "/claim/cut.py") 604), (.int 144 0), (.int 1 0), (.int 0 0), (.int 0 0), (.int 3 0), (.ref 299), (.bool true), (.int 181 0), (.ref 300), .none, (.ref 301), (.ref 302), (.ref 303), (.int 612 0), (.int 144 0), (.str (Str.ofString "/claim/cut.py") 613)]), #[]⟩
noncomputable def o305 (P : Params) : Obj := ⟨(.type "function"), none, (.func (fnData (stTop 23) (Str.ofString "_law_pool") 3 [] .none .none .none (.str (Str.ofString "law_nz0470_01") 600) none (.ref 304) .none 0)), #[]⟩
noncomputable def o306 (P : Params) : Obj := ⟨(.type "tuple"), none, (.seq #[] 0), #[]⟩
noncomputable def o308 (P : Params) : Obj := ⟨(.type "tuple"), none, (.seq #[(.str (Str.ofString "pool") 618), (.str (Str.ofString "bound") 619), (.str (Str.ofString "figure") 620)] 0), #[]⟩
noncomputable def o309 (P : Params) : Obj := ⟨(.type "tuple"), none, (.seq #[] 0), #[]⟩
noncomputable def o311 (P : Params) : Obj := ⟨(.type "code"), none, (.fields #[(.str (Str.ofString "_law_pick") 615), (.str (Str.ofString "_law_pick") 616), (.str (Str.ofString "/claim/cut.py") 617), (.int 159 0), (.int 2 0), (.int 0 0), (.int 0 0), (.int 3 0), (.ref 306), (.bool true), (.int 181 0), (.ref 307), .none, (.ref 308), (.ref 309), (.ref 310), (.int 621 0), (.int 159 0), (.str (Str.ofString "/claim/cut.py") 622)]), #[]⟩
noncomputable def o312 (P : Params) : Obj := ⟨(.type "function"), none, (.func (fnData (stTop 24) (Str.ofString "_law_pick") 3 [] .none .none .none (.str (Str.ofString "law_nz0470_01") 600) none (.ref 311) .none 0)), #[]⟩
noncomputable def o313 (P : Params) : Obj := ⟨(.type "tuple"), none, (.seq #[] 0), #[]⟩
noncomputable def o315 (P : Params) : Obj := ⟨(.type "tuple"), none, (.seq #[(.str (Str.ofString "pool") 627), (.str (Str.ofString "homes") 628), (.str (Str.ofString "deep") 629), (.str (Str.ofString "kind") 630), (.str (Str.ofString "spot") 631), (.str (Str.ofString "one") 632), (.str (Str.ofString "first") 633), (.str (Str.ofString "two") 634), (.str (Str.ofString "second") 635), (.str (Str.ofString "made") 636)] 0), #[]⟩
noncomputable def o316 (P : Params) : Obj := ⟨(.type "tuple"), none, (.seq #[] 0), #[]⟩
noncomputable def o318 (P : Params) : Obj := ⟨(.type "code"), none, (.fields #[(.str (Str.ofString "_law_value") 624), (.str (Str.ofString "_law_value") 625), (.str (Str.ofString "/claim/cut.py") 626), (.int 169 0), (.int 3 0), (.int 0 0), (.int 0 0), (.int 3 0), (.ref 313), (.bool true), (.int 181 0), (.ref 314), .none, (.ref 315), (.ref 316), (.ref 317), (.int 637 0), (.int 169 0), (.str (Str.ofString "/claim/cut.py") 638)]), #[]⟩
noncomputable def o319 (P : Params) : Obj := ⟨(.type "function"), none, (.func (fnData (stTop 25) (Str.ofString "_law_value") 3 [] .none .none .none (.str (Str.ofString "law_nz0470_01") 600) none (.ref 318) .none 0)), #[]⟩
noncomputable def o320 (P : Params) : Obj := ⟨(.type "tuple"), none, (.seq #[] 0), #[]⟩
noncomputable def o323 (P : Params) : Obj := ⟨(.type "code"), none, (.fields #[(.str (Str.ofString "law") 640), (.str (Str.ofString "law") 641), (.str (Str.ofString "/claim/cut.py") 642), (.int 207 0), (.int 1 0), (.int 0 0), (.int 0 0), (.int 3 0), (.ref 320), (.bool true), (.int 181 0), (.ref 321), .none, .none, .none, (.ref 322), (.int 643 0), (.int 207 0), (.str (Str.ofString "/claim/cut.py") 644)]), #[]⟩
noncomputable def o324 (P : Params) : Obj := ⟨(.type "function"), none, (.func (fnData (stTop 26) (Str.ofString "law") 3 [] .none .none .none (.str (Str.ofString "law_nz0470_01") 600) none (.ref 323) .none 0)), #[]⟩
set_option maxRecDepth 100000 in
noncomputable def KF (P : Params) : Frag :=
  (nat_lit 2, o2 P) ::
  (nat_lit 3, o3 P) ::
  (nat_lit 15, o15 P) ::
  (nat_lit 17, o17 P) ::
  (nat_lit 18, o18 P) ::
  (nat_lit 20, o20 P) ::
  (nat_lit 21, o21 P) ::
  (nat_lit 22, o22 P) ::
  (nat_lit 25, o25 P) ::
  (nat_lit 26, o26 P) ::
  (nat_lit 27, o27 P) ::
  (nat_lit 29, o29 P) ::
  (nat_lit 30, o30 P) ::
  (nat_lit 32, o32 P) ::
  (nat_lit 33, o33 P) ::
  (nat_lit 34, o34 P) ::
  (nat_lit 37, o37 P) ::
  (nat_lit 38, o38 P) ::
  (nat_lit 39, o39 P) ::
  (nat_lit 42, o42 P) ::
  (nat_lit 43, o43 P) ::
  (nat_lit 44, o44 P) ::
  (nat_lit 47, o47 P) ::
  (nat_lit 48, o48 P) ::
  (nat_lit 49, o49 P) ::
  (nat_lit 51, o51 P) ::
  (nat_lit 52, o52 P) ::
  (nat_lit 54, o54 P) ::
  (nat_lit 55, o55 P) ::
  (nat_lit 63, o63 P) ::
  (nat_lit 65, o65 P) ::
  (nat_lit 66, o66 P) ::
  (nat_lit 68, o68 P) ::
  (nat_lit 69, o69 P) ::
  (nat_lit 70, o70 P) ::
  (nat_lit 71, o71 P) ::
  (nat_lit 72, o72 P) ::
  (nat_lit 73, o73 P) ::
  (nat_lit 74, o74 P) ::
  (nat_lit 84, o84 P) ::
  (nat_lit 86, o86 P) ::
  (nat_lit 87, o87 P) ::
  (nat_lit 89, o89 P) ::
  (nat_lit 90, o90 P) ::
  (nat_lit 91, o91 P) ::
  (nat_lit 92, o92 P) ::
  (nat_lit 93, o93 P) ::
  (nat_lit 94, o94 P) ::
  (nat_lit 95, o95 P) ::
  (nat_lit 105, o105 P) ::
  (nat_lit 106, o106 P) ::
  (nat_lit 108, o108 P) ::
  (nat_lit 109, o109 P) ::
  (nat_lit 111, o111 P) ::
  (nat_lit 112, o112 P) ::
  (nat_lit 113, o113 P) ::
  (nat_lit 115, o115 P) ::
  (nat_lit 116, o116 P) ::
  (nat_lit 118, o118 P) ::
  (nat_lit 119, o119 P) ::
  (nat_lit 120, o120 P) ::
  (nat_lit 121, o121 P) ::
  (nat_lit 122, o122 P) ::
  (nat_lit 123, o123 P) ::
  (nat_lit 124, o124 P) ::
  (nat_lit 134, o134 P) ::
  (nat_lit 136, o136 P) ::
  (nat_lit 137, o137 P) ::
  (nat_lit 139, o139 P) ::
  (nat_lit 140, o140 P) ::
  (nat_lit 141, o141 P) ::
  (nat_lit 142, o142 P) ::
  (nat_lit 143, o143 P) ::
  (nat_lit 144, o144 P) ::
  (nat_lit 145, o145 P) ::
  (nat_lit 155, o155 P) ::
  (nat_lit 156, o156 P) ::
  (nat_lit 158, o158 P) ::
  (nat_lit 159, o159 P) ::
  (nat_lit 161, o161 P) ::
  (nat_lit 162, o162 P) ::
  (nat_lit 163, o163 P) ::
  (nat_lit 164, o164 P) ::
  (nat_lit 165, o165 P) ::
  (nat_lit 166, o166 P) ::
  (nat_lit 167, o167 P) ::
  (nat_lit 177, o177 P) ::
  (nat_lit 178, o178 P) ::
  (nat_lit 180, o180 P) ::
  (nat_lit 181, o181 P) ::
  (nat_lit 183, o183 P) ::
  (nat_lit 184, o184 P) ::
  (nat_lit 185, o185 P) ::
  (nat_lit 186, o186 P) ::
  (nat_lit 187, o187 P) ::
  (nat_lit 188, o188 P) ::
  (nat_lit 189, o189 P) ::
  (nat_lit 199, o199 P) ::
  (nat_lit 200, o200 P) ::
  (nat_lit 202, o202 P) ::
  (nat_lit 203, o203 P) ::
  (nat_lit 205, o205 P) ::
  (nat_lit 206, o206 P) ::
  (nat_lit 207, o207 P) ::
  (nat_lit 208, o208 P) ::
  (nat_lit 209, o209 P) ::
  (nat_lit 210, o210 P) ::
  (nat_lit 211, o211 P) ::
  (nat_lit 221, o221 P) ::
  (nat_lit 223, o223 P) ::
  (nat_lit 224, o224 P) ::
  (nat_lit 226, o226 P) ::
  (nat_lit 227, o227 P) ::
  (nat_lit 228, o228 P) ::
  (nat_lit 229, o229 P) ::
  (nat_lit 230, o230 P) ::
  (nat_lit 231, o231 P) ::
  (nat_lit 232, o232 P) ::
  (nat_lit 242, o242 P) ::
  (nat_lit 244, o244 P) ::
  (nat_lit 245, o245 P) ::
  (nat_lit 247, o247 P) ::
  (nat_lit 248, o248 P) ::
  (nat_lit 249, o249 P) ::
  (nat_lit 250, o250 P) ::
  (nat_lit 251, o251 P) ::
  (nat_lit 252, o252 P) ::
  (nat_lit 253, o253 P) ::
  (nat_lit 263, o263 P) ::
  (nat_lit 265, o265 P) ::
  (nat_lit 266, o266 P) ::
  (nat_lit 268, o268 P) ::
  (nat_lit 269, o269 P) ::
  (nat_lit 270, o270 P) ::
  (nat_lit 271, o271 P) ::
  (nat_lit 272, o272 P) ::
  (nat_lit 273, o273 P) ::
  (nat_lit 274, o274 P) ::
  (nat_lit 277, o277 P) ::
  (nat_lit 279, o279 P) ::
  (nat_lit 280, o280 P) ::
  (nat_lit 282, o282 P) ::
  (nat_lit 283, o283 P) ::
  (nat_lit 284, o284 P) ::
  (nat_lit 286, o286 P) ::
  (nat_lit 287, o287 P) ::
  (nat_lit 289, o289 P) ::
  (nat_lit 290, o290 P) ::
  (nat_lit 291, o291 P) ::
  (nat_lit 292, o292 P) ::
  (nat_lit 294, o294 P) ::
  (nat_lit 295, o295 P) ::
  (nat_lit 297, o297 P) ::
  (nat_lit 298, o298 P) ::
  (nat_lit 299, o299 P) ::
  (nat_lit 301, o301 P) ::
  (nat_lit 302, o302 P) ::
  (nat_lit 304, o304 P) ::
  (nat_lit 305, o305 P) ::
  (nat_lit 306, o306 P) ::
  (nat_lit 308, o308 P) ::
  (nat_lit 309, o309 P) ::
  (nat_lit 311, o311 P) ::
  (nat_lit 312, o312 P) ::
  (nat_lit 313, o313 P) ::
  (nat_lit 315, o315 P) ::
  (nat_lit 316, o316 P) ::
  (nat_lit 318, o318 P) ::
  (nat_lit 319, o319 P) ::
  (nat_lit 320, o320 P) ::
  (nat_lit 323, o323 P) ::
  (nat_lit 324, o324 P) :: []
set_option maxRecDepth 100000 in
def KA : List Nat := nat_lit 2 :: nat_lit 3 :: nat_lit 15 :: nat_lit 17 :: nat_lit 18 :: nat_lit 20 :: nat_lit 21 :: nat_lit 22 :: nat_lit 25 :: nat_lit 26 :: nat_lit 27 :: nat_lit 29 :: nat_lit 30 :: nat_lit 32 :: nat_lit 33 :: nat_lit 34 :: nat_lit 37 :: nat_lit 38 :: nat_lit 39 :: nat_lit 42 :: nat_lit 43 :: nat_lit 44 :: nat_lit 47 :: nat_lit 48 :: nat_lit 49 :: nat_lit 51 :: nat_lit 52 :: nat_lit 54 :: nat_lit 55 :: nat_lit 63 :: nat_lit 65 :: nat_lit 66 :: nat_lit 68 :: nat_lit 69 :: nat_lit 70 :: nat_lit 71 :: nat_lit 72 :: nat_lit 73 :: nat_lit 74 :: nat_lit 84 :: nat_lit 86 :: nat_lit 87 :: nat_lit 89 :: nat_lit 90 :: nat_lit 91 :: nat_lit 92 :: nat_lit 93 :: nat_lit 94 :: nat_lit 95 :: nat_lit 105 :: nat_lit 106 :: nat_lit 108 :: nat_lit 109 :: nat_lit 111 :: nat_lit 112 :: nat_lit 113 :: nat_lit 115 :: nat_lit 116 :: nat_lit 118 :: nat_lit 119 :: nat_lit 120 :: nat_lit 121 :: nat_lit 122 :: nat_lit 123 :: nat_lit 124 :: nat_lit 134 :: nat_lit 136 :: nat_lit 137 :: nat_lit 139 :: nat_lit 140 :: nat_lit 141 :: nat_lit 142 :: nat_lit 143 :: nat_lit 144 :: nat_lit 145 :: nat_lit 155 :: nat_lit 156 :: nat_lit 158 :: nat_lit 159 :: nat_lit 161 :: nat_lit 162 :: nat_lit 163 :: nat_lit 164 :: nat_lit 165 :: nat_lit 166 :: nat_lit 167 :: nat_lit 177 :: nat_lit 178 :: nat_lit 180 :: nat_lit 181 :: nat_lit 183 :: nat_lit 184 :: nat_lit 185 :: nat_lit 186 :: nat_lit 187 :: nat_lit 188 :: nat_lit 189 :: nat_lit 199 :: nat_lit 200 :: nat_lit 202 :: nat_lit 203 :: nat_lit 205 :: nat_lit 206 :: nat_lit 207 :: nat_lit 208 :: nat_lit 209 :: nat_lit 210 :: nat_lit 211 :: nat_lit 221 :: nat_lit 223 :: nat_lit 224 :: nat_lit 226 :: nat_lit 227 :: nat_lit 228 :: nat_lit 229 :: nat_lit 230 :: nat_lit 231 :: nat_lit 232 :: nat_lit 242 :: nat_lit 244 :: nat_lit 245 :: nat_lit 247 :: nat_lit 248 :: nat_lit 249 :: nat_lit 250 :: nat_lit 251 :: nat_lit 252 :: nat_lit 253 :: nat_lit 263 :: nat_lit 265 :: nat_lit 266 :: nat_lit 268 :: nat_lit 269 :: nat_lit 270 :: nat_lit 271 :: nat_lit 272 :: nat_lit 273 :: nat_lit 274 :: nat_lit 277 :: nat_lit 279 :: nat_lit 280 :: nat_lit 282 :: nat_lit 283 :: nat_lit 284 :: nat_lit 286 :: nat_lit 287 :: nat_lit 289 :: nat_lit 290 :: nat_lit 291 :: nat_lit 292 :: nat_lit 294 :: nat_lit 295 :: nat_lit 297 :: nat_lit 298 :: nat_lit 299 :: nat_lit 301 :: nat_lit 302 :: nat_lit 304 :: nat_lit 305 :: nat_lit 306 :: nat_lit 308 :: nat_lit 309 :: nat_lit 311 :: nat_lit 312 :: nat_lit 313 :: nat_lit 315 :: nat_lit 316 :: nat_lit 318 :: nat_lit 319 :: nat_lit 320 :: nat_lit 323 :: nat_lit 324 :: []
noncomputable def VW : Program := { PySem.Challenge.pw_nz0470_01 with main := { PySem.Challenge.pw_nz0470_01.main with body := [stTop 0, stTop 2, stTop 3, stTop 4, stTop 5, stTop 6, stTop 7, stTop 9, stTop 10, stTop 11, stTop 12, stTop 13, stTop 14, stTop 15, stTop 16, stTop 17, stTop 18, stTop 19, stTop 20, stTop 23, stTop 24, stTop 25, stTop 26] } }
theorem ka_is : ∀ P, KA = (KF P).map (·.1) := fun _ => by kernel_rfl
noncomputable abbrev HK : Hook := kHook KF KA ka_is
noncomputable def qpre_12 (P : Params) : Obj := ⟨.none, none, (.fields #[]), #[]⟩
noncomputable def qpre_13 (P : Params) : Obj := ⟨(.type "code"), none, (.fields #[(.str (Str.ofString "<module>") 182), (.str (Str.ofString "<module>") 183), (.str (Str.ofString "/claim/cut.py") 184), (.int 1 0), (.int 0 0), (.int 0 0), (.int 0 0), (.int 0 0), (.ref 11), (.bool false), (.int 181 0), (.ref 12), .none, .none, .none, .none, (.int 185 0), (.int 1 0), (.str (Str.ofString "/claim/cut.py") 186)]), #[]⟩
noncomputable def qpre_14 (P : Params) : Obj := ⟨(.type "frame"), none, .plain, #[(some (.ref 13)), (some (.ref 3)), (some (.ref 3)), none, (some (.str (Str.ofString "__main__") 164)), none, (some (.ref 0))]⟩
set_option maxRecDepth 100000 in
noncomputable def tr_pre (P : Params) : BT := (.node (boot_o_0 P) (.node (boot_o_1 P) (.node (boot_o_3 P) (.node (o15 P) .nil .nil) (.node (o15 P) .nil .nil)) (.node (boot_o_5 P) (.node (boot_o_9 P) .nil .nil) (.node (qpre_13 P) .nil .nil))) (.node (o2 P) (.node (boot_o_4 P) (.node (boot_o_8 P) .nil .nil) (.node (qpre_12 P) .nil .nil)) (.node (boot_o_6 P) (.node (boot_o_10 P) .nil .nil) (.node (qpre_14 P) .nil .nil))))
noncomputable def T_pre (w : World) (os : OsState) : SharedT := ⟨tr_pre w.params, 15, {}, #[], boot_drawn, 187, os⟩
noncomputable def qp8_3 (P : Params) : Obj := ⟨(.type "dict"), none, (.dict (List.toArray [⟨PyData.keyHash P (Str.ofString "__name__"), (.str (Str.ofString "__name__") 165), (.str (Str.ofString "vectorcove.values") 238)⟩, ⟨PyData.keyHash P (Str.ofString "__doc__"), (.str (Str.ofString "__doc__") 166), .none⟩, ⟨PyData.keyHash P (Str.ofString "__package__"), (.str (Str.ofString "__package__") 167), .none⟩, ⟨PyData.keyHash P (Str.ofString "__loader__"), (.str (Str.ofString "__loader__") 168), (.builtin "__main__.__loader__#opaque")⟩, ⟨PyData.keyHash P (Str.ofString "__spec__"), (.str (Str.ofString "__spec__") 169), .none⟩, ⟨PyData.keyHash P (Str.ofString "__annotations__"), (.str (Str.ofString "__annotations__") 170), (.ref 6)⟩, ⟨PyData.keyHash P (Str.ofString "__builtins__"), (.str (Str.ofString "__builtins__") 171), (.ref 4)⟩, ⟨PyData.keyHash P (Str.ofString "__file__"), (.str (Str.ofString "__file__") 173), (.str (Str.ofString "/claim/cut.py") 172)⟩, ⟨PyData.keyHash P (Str.ofString "__cached__"), (.str (Str.ofString "__cached__") 174), .none⟩, ⟨PyData.keyHash P (Str.ofString "_wall"), (.str (Str.ofString "_wall") 193), (.ref 21)⟩, ⟨PyData.keyHash P (Str.ofString "attribute_values"), (.str (Str.ofString "attribute_values") 201), (.ref 26)⟩, ⟨PyData.keyHash P (Str.ofString "promise_parts"), (.str (Str.ofString "promise_parts") 208), (.ref 33)⟩, ⟨PyData.keyHash P (Str.ofString "environment_parts"), (.str (Str.ofString "environment_parts") 214), (.ref 38)⟩, ⟨PyData.keyHash P (Str.ofString "closure_parts"), (.str (Str.ofString "closure_parts") 220), (.ref 43)⟩, ⟨PyData.keyHash P (Str.ofString "value_parts"), (.str (Str.ofString "value_parts") 226), (.ref 48)⟩, ⟨PyData.keyHash P (Str.ofString "reached_environments"), (.str (Str.ofString "reached_environments") 237), (.ref 55)⟩]) 16), #[]⟩
noncomputable def qp8_12 (P : Params) : Obj := ⟨.none, none, (.fields #[(.int 1 0), (.int 0 0), (.ref 20), (.int 5 0), (.int 0 0), (.ref 25), (.int 9 0), (.int 0 0), (.ref 32), (.int 15 0), (.int 0 0), (.ref 37), (.int 20 0), (.int 0 0), (.ref 42), (.int 25 0), (.int 0 0), (.ref 47), (.int 40 0), (.int 0 0), (.ref 54)]), #[]⟩
noncomputable def qp8_19 (P : Params) : Obj := ⟨.none, none, (.func (fnData (stTop 0) (Str.ofString "_wall") 0 [] .none .none .none .none none .none .none 0)), #[]⟩
noncomputable def qp8_24 (P : Params) : Obj := ⟨.none, none, (.func (fnData (stTop 2) (Str.ofString "attribute_values") 0 [] .none .none .none .none none .none .none 0)), #[]⟩
noncomputable def qp8_31 (P : Params) : Obj := ⟨.none, none, (.func (fnData (stTop 3) (Str.ofString "promise_parts") 0 [] .none .none .none .none none .none .none 0)), #[]⟩
noncomputable def qp8_36 (P : Params) : Obj := ⟨.none, none, (.func (fnData (stTop 4) (Str.ofString "environment_parts") 0 [] .none .none .none .none none .none .none 0)), #[]⟩
noncomputable def qp8_41 (P : Params) : Obj := ⟨.none, none, (.func (fnData (stTop 5) (Str.ofString "closure_parts") 0 [] .none .none .none .none none .none .none 0)), #[]⟩
noncomputable def qp8_46 (P : Params) : Obj := ⟨.none, none, (.func (fnData (stTop 6) (Str.ofString "value_parts") 0 [] .none .none .none .none none .none .none 0)), #[]⟩
noncomputable def qp8_53 (P : Params) : Obj := ⟨.none, none, (.func (fnData (stTop 7) (Str.ofString "reached_environments") 0 [] .none .none .none .none none .none .none 0)), #[]⟩
set_option maxRecDepth 100000 in
noncomputable def tr_p8 (P : Params) : BT := (.node (boot_o_0 P) (.node (boot_o_1 P) (.node (qp8_3 P) (.node (o15 P) (.node (o15 P) (.node (qp8_31 P) .nil .nil) (.node (o47 P) .nil .nil)) (.node (qpre_12 P) (.node (o15 P) .nil .nil) (.node (o55 P) .nil .nil))) (.node (o15 P) (.node (qp8_19 P) (.node (qpre_12 P) .nil .nil) (.node (o51 P) .nil .nil)) (.node (o15 P) (.node (o43 P) .nil .nil) .nil))) (.node (boot_o_5 P) (.node (boot_o_9 P) (.node (o17 P) (.node (o33 P) .nil .nil) (.node (o15 P) .nil .nil)) (.node (o25 P) (.node (qp8_41 P) .nil .nil) .nil)) (.node (qpre_13 P) (.node (o21 P) (.node (o37 P) .nil .nil) (.node (qp8_53 P) .nil .nil)) (.node (o29 P) (.node (qpre_12 P) .nil .nil) .nil)))) (.node (o2 P) (.node (boot_o_4 P) (.node (qpre_12 P) (.node (qpre_12 P) (.node (o32 P) .nil .nil) (.node (o48 P) .nil .nil)) (.node (qp8_24 P) (.node (qpre_12 P) .nil .nil) .nil)) (.node (qp8_12 P) (.node (o20 P) (.node (qp8_36 P) .nil .nil) (.node (o15 P) .nil .nil)) (.node (qpre_12 P) (.node (o15 P) .nil .nil) .nil))) (.node (boot_o_6 P) (.node (boot_o_10 P) (.node (o15 P) (.node (o15 P) .nil .nil) (.node (qpre_12 P) .nil .nil)) (.node (o26 P) (.node (o42 P) .nil .nil) .nil)) (.node (qpre_14 P) (.node (o15 P) (.node (o38 P) .nil .nil) (.node (o54 P) .nil .nil)) (.node (o15 P) (.node (qp8_46 P) .nil .nil) .nil)))))
noncomputable def T_p8 (w : World) (os : OsState) : SharedT := ⟨tr_p8 w.params, 56, {}, #[], boot_drawn, 240, os⟩
noncomputable def qp13_3 (P : Params) : Obj := ⟨(.type "dict"), none, (.dict (List.toArray [⟨PyData.keyHash P (Str.ofString "__name__"), (.str (Str.ofString "__name__") 165), (.str (Str.ofString "vectorcove.values") 238)⟩, ⟨PyData.keyHash P (Str.ofString "__doc__"), (.str (Str.ofString "__doc__") 166), .none⟩, ⟨PyData.keyHash P (Str.ofString "__package__"), (.str (Str.ofString "__package__") 167), .none⟩, ⟨PyData.keyHash P (Str.ofString "__loader__"), (.str (Str.ofString "__loader__") 168), (.builtin "__main__.__loader__#opaque")⟩, ⟨PyData.keyHash P (Str.ofString "__spec__"), (.str (Str.ofString "__spec__") 169), .none⟩, ⟨PyData.keyHash P (Str.ofString "__annotations__"), (.str (Str.ofString "__annotations__") 170), (.ref 6)⟩, ⟨PyData.keyHash P (Str.ofString "__builtins__"), (.str (Str.ofString "__builtins__") 171), (.ref 4)⟩, ⟨PyData.keyHash P (Str.ofString "__file__"), (.str (Str.ofString "__file__") 173), (.str (Str.ofString "/claim/cut.py") 172)⟩, ⟨PyData.keyHash P (Str.ofString "__cached__"), (.str (Str.ofString "__cached__") 174), .none⟩, ⟨PyData.keyHash P (Str.ofString "_wall"), (.str (Str.ofString "_wall") 193), (.ref 21)⟩, ⟨PyData.keyHash P (Str.ofString "attribute_values"), (.str (Str.ofString "attribute_values") 201), (.ref 26)⟩, ⟨PyData.keyHash P (Str.ofString "promise_parts"), (.str (Str.ofString "promise_parts") 208), (.ref 33)⟩, ⟨PyData.keyHash P (Str.ofString "environment_parts"), (.str (Str.ofString "environment_parts") 214), (.ref 38)⟩, ⟨PyData.keyHash P (Str.ofString "closure_parts"), (.str (Str.ofString "closure_parts") 220), (.ref 43)⟩, ⟨PyData.keyHash P (Str.ofString "value_parts"), (.str (Str.ofString "value_parts") 226), (.ref 48)⟩, ⟨PyData.keyHash P (Str.ofString "reached_environments"), (.str (Str.ofString "reached_environments") 237), (.ref 55)⟩, ⟨PyData.keyHash P (Str.ofString "Null"), (.str (Str.ofString "Null") 268), (.ref 72)⟩, ⟨PyData.keyHash P (Str.ofString "Missing"), (.str (Str.ofString "Missing") 297), (.ref 93)⟩, ⟨PyData.keyHash P (Str.ofString "Vector"), (.str (Str.ofString "Vector") 339), (.ref 122)⟩, ⟨PyData.keyHash P (Str.ofString "Symbol"), (.str (Str.ofString "Symbol") 370), (.ref 143)⟩, ⟨PyData.keyHash P (Str.ofString "Call"), (.str (Str.ofString "Call") 405), (.ref 165)⟩]) 21), #[]⟩
noncomputable def qp13_12 (P : Params) : Obj := ⟨.none, none, (.fields #[(.int 1 0), (.int 0 0), (.ref 20), (.int 5 0), (.int 0 0), (.ref 25), (.int 9 0), (.int 0 0), (.ref 32), (.int 15 0), (.int 0 0), (.ref 37), (.int 20 0), (.int 0 0), (.ref 42), (.int 25 0), (.int 0 0), (.ref 47), (.int 40 0), (.int 0 0), (.ref 54), (.int 58 0), (.int 0 0), (.ref 61), (.int 63 0), (.int 0 0), (.ref 82), (.int 68 0), (.int 0 0), (.ref 103), (.int 79 0), (.int 0 0), (.ref 132), (.int 85 0), (.int 0 0), (.ref 153)]), #[]⟩
noncomputable def qp13_57 (P : Params) : Obj := ⟨(.type "builtin_function_or_method"), none, (.fields #[(.builtin "type.__prepare__"), (.type "type")]), #[]⟩
noncomputable def qp13_58 (P : Params) : Obj := ⟨(.type "dict"), none, (.dict (List.toArray [⟨PyData.keyHash P (Str.ofString "__module__"), (.str (Str.ofString "__module__") 247), (.str (Str.ofString "vectorcove.values") 238)⟩, ⟨PyData.keyHash P (Str.ofString "__qualname__"), (.str (Str.ofString "__qualname__") 249), (.str (Str.ofString "Null") 248)⟩, ⟨PyData.keyHash P (Str.ofString "__firstlineno__"), (.str (Str.ofString "__firstlineno__") 251), (.int 58 250)⟩, ⟨PyData.keyHash P (Str.ofString "__init__"), (.str (Str.ofString "__init__") 258), (.ref 69)⟩, ⟨PyData.keyHash P (Str.ofString "__static_attributes__"), (.str (Str.ofString "__static_attributes__") 261), (.ref 70)⟩]) 5), #[]⟩
noncomputable def qp13_60 (P : Params) : Obj := ⟨.none, none, (.fields #[(.int 60 0), (.int 4 0), (.ref 68)]), #[]⟩
noncomputable def qp13_61 (P : Params) : Obj := ⟨(.type "code"), none, (.fields #[(.str (Str.ofString "Null") 242), (.str (Str.ofString "Null") 243), (.str (Str.ofString "/claim/cut.py") 244), (.int 58 0), (.int 0 0), (.int 0 0), (.int 0 0), (.int 0 0), (.ref 59), (.bool false), (.int 181 0), (.ref 60), .none, .none, .none, .none, (.int 245 0), (.int 58 0), (.str (Str.ofString "/claim/cut.py") 246)]), #[]⟩
noncomputable def qp13_62 (P : Params) : Obj := ⟨(.type "frame"), none, .plain, #[(some (.ref 61)), (some (.ref 3)), (some (.ref 58)), none, (some (.str (Str.ofString "vectorcove.values") 238)), none, (some (.ref 0))]⟩
noncomputable def qp13_67 (P : Params) : Obj := ⟨.none, none, (.func (fnData (stIn 9 0) (Str.ofString "Null.__init__") 0 [] .none .none .none .none none .none .none 0)), #[]⟩
noncomputable def qp13_75 (P : Params) : Obj := ⟨(.type "super"), none, (.fields #[(.ref 72), (.ref 72), (.ref 72)]), #[]⟩
noncomputable def qp13_76 (P : Params) : Obj := ⟨(.type "builtin_function_or_method"), none, (.fields #[(.builtin "object.__init_subclass__"), (.ref 72)]), #[]⟩
noncomputable def qp13_79 (P : Params) : Obj := ⟨(.type "dict"), none, (.dict (List.toArray [⟨PyData.keyHash P (Str.ofString "__module__"), (.str (Str.ofString "__module__") 276), (.str (Str.ofString "vectorcove.values") 238)⟩, ⟨PyData.keyHash P (Str.ofString "__qualname__"), (.str (Str.ofString "__qualname__") 278), (.str (Str.ofString "Missing") 277)⟩, ⟨PyData.keyHash P (Str.ofString "__firstlineno__"), (.str (Str.ofString "__firstlineno__") 280), (.int 63 279)⟩, ⟨PyData.keyHash P (Str.ofString "__init__"), (.str (Str.ofString "__init__") 287), (.ref 90)⟩, ⟨PyData.keyHash P (Str.ofString "__static_attributes__"), (.str (Str.ofString "__static_attributes__") 290), (.ref 91)⟩]) 5), #[]⟩
noncomputable def qp13_81 (P : Params) : Obj := ⟨.none, none, (.fields #[(.int 65 0), (.int 4 0), (.ref 89)]), #[]⟩
noncomputable def qp13_82 (P : Params) : Obj := ⟨(.type "code"), none, (.fields #[(.str (Str.ofString "Missing") 271), (.str (Str.ofString "Missing") 272), (.str (Str.ofString "/claim/cut.py") 273), (.int 63 0), (.int 0 0), (.int 0 0), (.int 0 0), (.int 0 0), (.ref 80), (.bool false), (.int 181 0), (.ref 81), .none, .none, .none, .none, (.int 274 0), (.int 63 0), (.str (Str.ofString "/claim/cut.py") 275)]), #[]⟩
noncomputable def qp13_83 (P : Params) : Obj := ⟨(.type "frame"), none, .plain, #[(some (.ref 82)), (some (.ref 3)), (some (.ref 79)), none, (some (.str (Str.ofString "vectorcove.values") 238)), none, (some (.ref 0))]⟩
noncomputable def qp13_88 (P : Params) : Obj := ⟨.none, none, (.func (fnData (stIn 10 0) (Str.ofString "Missing.__init__") 0 [] .none .none .none .none none .none .none 0)), #[]⟩
noncomputable def qp13_96 (P : Params) : Obj := ⟨(.type "super"), none, (.fields #[(.ref 93), (.ref 93), (.ref 93)]), #[]⟩
noncomputable def qp13_97 (P : Params) : Obj := ⟨(.type "builtin_function_or_method"), none, (.fields #[(.builtin "object.__init_subclass__"), (.ref 93)]), #[]⟩
noncomputable def qp13_100 (P : Params) : Obj := ⟨(.type "dict"), none, (.dict (List.toArray [⟨PyData.keyHash P (Str.ofString "__module__"), (.str (Str.ofString "__module__") 305), (.str (Str.ofString "vectorcove.values") 238)⟩, ⟨PyData.keyHash P (Str.ofString "__qualname__"), (.str (Str.ofString "__qualname__") 307), (.str (Str.ofString "Vector") 306)⟩, ⟨PyData.keyHash P (Str.ofString "__firstlineno__"), (.str (Str.ofString "__firstlineno__") 309), (.int 68 308)⟩, ⟨PyData.keyHash P (Str.ofString "__init__"), (.str (Str.ofString "__init__") 319), (.ref 112)⟩, ⟨PyData.keyHash P (Str.ofString "copy"), (.str (Str.ofString "copy") 326), (.ref 119)⟩, ⟨PyData.keyHash P (Str.ofString "__static_attributes__"), (.str (Str.ofString "__static_attributes__") 332), (.ref 120)⟩]) 6), #[]⟩
noncomputable def qp13_102 (P : Params) : Obj := ⟨.none, none, (.fields #[(.int 70 0), (.int 4 0), (.ref 111), (.int 77 0), (.int 4 0), (.ref 118)]), #[]⟩
noncomputable def qp13_103 (P : Params) : Obj := ⟨(.type "code"), none, (.fields #[(.str (Str.ofString "Vector") 300), (.str (Str.ofString "Vector") 301), (.str (Str.ofString "/claim/cut.py") 302), (.int 68 0), (.int 0 0), (.int 0 0), (.int 0 0), (.int 0 0), (.ref 101), (.bool false), (.int 181 0), (.ref 102), .none, .none, .none, .none, (.int 303 0), (.int 68 0), (.str (Str.ofString "/claim/cut.py") 304)]), #[]⟩
noncomputable def qp13_104 (P : Params) : Obj := ⟨(.type "frame"), none, .plain, #[(some (.ref 103)), (some (.ref 3)), (some (.ref 100)), none, (some (.str (Str.ofString "vectorcove.values") 238)), none, (some (.ref 0))]⟩
noncomputable def qp13_110 (P : Params) : Obj := ⟨.none, none, (.func (fnData (stIn 11 0) (Str.ofString "Vector.__init__") 0 [] .none .none .none .none none .none .none 0)), #[]⟩
noncomputable def qp13_117 (P : Params) : Obj := ⟨.none, none, (.func (fnData (stIn 11 1) (Str.ofString "Vector.copy") 0 [] .none .none .none .none none .none .none 0)), #[]⟩
noncomputable def qp13_125 (P : Params) : Obj := ⟨(.type "super"), none, (.fields #[(.ref 122), (.ref 122), (.ref 122)]), #[]⟩
noncomputable def qp13_126 (P : Params) : Obj := ⟨(.type "builtin_function_or_method"), none, (.fields #[(.builtin "object.__init_subclass__"), (.ref 122)]), #[]⟩
noncomputable def qp13_129 (P : Params) : Obj := ⟨(.type "dict"), none, (.dict (List.toArray [⟨PyData.keyHash P (Str.ofString "__module__"), (.str (Str.ofString "__module__") 347), (.str (Str.ofString "vectorcove.values") 238)⟩, ⟨PyData.keyHash P (Str.ofString "__qualname__"), (.str (Str.ofString "__qualname__") 349), (.str (Str.ofString "Symbol") 348)⟩, ⟨PyData.keyHash P (Str.ofString "__firstlineno__"), (.str (Str.ofString "__firstlineno__") 351), (.int 79 350)⟩, ⟨PyData.keyHash P (Str.ofString "__init__"), (.str (Str.ofString "__init__") 359), (.ref 140)⟩, ⟨PyData.keyHash P (Str.ofString "__static_attributes__"), (.str (Str.ofString "__static_attributes__") 363), (.ref 141)⟩]) 5), #[]⟩
noncomputable def qp13_131 (P : Params) : Obj := ⟨.none, none, (.fields #[(.int 81 0), (.int 4 0), (.ref 139)]), #[]⟩
noncomputable def qp13_132 (P : Params) : Obj := ⟨(.type "code"), none, (.fields #[(.str (Str.ofString "Symbol") 342), (.str (Str.ofString "Symbol") 343), (.str (Str.ofString "/claim/cut.py") 344), (.int 79 0), (.int 0 0), (.int 0 0), (.int 0 0), (.int 0 0), (.ref 130), (.bool false), (.int 181 0), (.ref 131), .none, .none, .none, .none, (.int 345 0), (.int 79 0), (.str (Str.ofString "/claim/cut.py") 346)]), #[]⟩
noncomputable def qp13_133 (P : Params) : Obj := ⟨(.type "frame"), none, .plain, #[(some (.ref 132)), (some (.ref 3)), (some (.ref 129)), none, (some (.str (Str.ofString "vectorcove.values") 238)), none, (some (.ref 0))]⟩
noncomputable def qp13_138 (P : Params) : Obj := ⟨.none, none, (.func (fnData (stIn 12 0) (Str.ofString "Symbol.__init__") 0 [] .none .none .none .none none .none .none 0)), #[]⟩
noncomputable def qp13_146 (P : Params) : Obj := ⟨(.type "super"), none, (.fields #[(.ref 143), (.ref 143), (.ref 143)]), #[]⟩
noncomputable def qp13_147 (P : Params) : Obj := ⟨(.type "builtin_function_or_method"), none, (.fields #[(.builtin "object.__init_subclass__"), (.ref 143)]), #[]⟩
noncomputable def qp13_150 (P : Params) : Obj := ⟨(.type "dict"), none, (.dict (List.toArray [⟨PyData.keyHash P (Str.ofString "__module__"), (.str (Str.ofString "__module__") 378), (.str (Str.ofString "vectorcove.values") 238)⟩, ⟨PyData.keyHash P (Str.ofString "__qualname__"), (.str (Str.ofString "__qualname__") 380), (.str (Str.ofString "Call") 379)⟩, ⟨PyData.keyHash P (Str.ofString "__firstlineno__"), (.str (Str.ofString "__firstlineno__") 382), (.int 85 381)⟩, ⟨PyData.keyHash P (Str.ofString "__init__"), (.str (Str.ofString "__init__") 392), (.ref 162)⟩, ⟨PyData.keyHash P (Str.ofString "__static_attributes__"), (.str (Str.ofString "__static_attributes__") 398), (.ref 163)⟩]) 5), #[]⟩
noncomputable def qp13_152 (P : Params) : Obj := ⟨.none, none, (.fields #[(.int 87 0), (.int 4 0), (.ref 161)]), #[]⟩
noncomputable def qp13_153 (P : Params) : Obj := ⟨(.type "code"), none, (.fields #[(.str (Str.ofString "Call") 373), (.str (Str.ofString "Call") 374), (.str (Str.ofString "/claim/cut.py") 375), (.int 85 0), (.int 0 0), (.int 0 0), (.int 0 0), (.int 0 0), (.ref 151), (.bool false), (.int 181 0), (.ref 152), .none, .none, .none, .none, (.int 376 0), (.int 85 0), (.str (Str.ofString "/claim/cut.py") 377)]), #[]⟩
noncomputable def qp13_154 (P : Params) : Obj := ⟨(.type "frame"), none, .plain, #[(some (.ref 153)), (some (.ref 3)), (some (.ref 150)), none, (some (.str (Str.ofString "vectorcove.values") 238)), none, (some (.ref 0))]⟩
noncomputable def qp13_160 (P : Params) : Obj := ⟨.none, none, (.func (fnData (stIn 13 0) (Str.ofString "Call.__init__") 0 [] .none .none .none .none none .none .none 0)), #[]⟩
noncomputable def qp13_168 (P : Params) : Obj := ⟨(.type "super"), none, (.fields #[(.ref 165), (.ref 165), (.ref 165)]), #[]⟩
noncomputable def qp13_169 (P : Params) : Obj := ⟨(.type "builtin_function_or_method"), none, (.fields #[(.builtin "object.__init_subclass__"), (.ref 165)]), #[]⟩
set_option maxRecDepth 100000 in
noncomputable def tr_p13 (P : Params) : BT := (.node (boot_o_0 P) (.node (boot_o_1 P) (.node (qp13_3 P) (.node (o15 P) (.node (o15 P) (.node (qp8_31 P) (.node (o15 P) (.node (o15 P) .nil .nil) .nil) (.node (o95 P) (.node (o15 P) .nil .nil) .nil)) (.node (o47 P) (.node (qp13_79 P) (.node (o143 P) .nil .nil) .nil) (.node (o111 P) .nil .nil))) (.node (qpre_12 P) (.node (o15 P) (.node (o71 P) (.node (qpre_12 P) .nil .nil) .nil) (.node (qp13_103 P) (.node (o167 P) .nil .nil) .nil)) (.node (o55 P) (.node (o15 P) (.node (o15 P) .nil .nil) .nil) (.node (o119 P) .nil .nil)))) (.node (o15 P) (.node (qp8_19 P) (.node (qpre_12 P) (.node (qp13_67 P) (.node (qp13_131 P) .nil .nil) .nil) (.node (qp13_57 P) (.node (o163 P) .nil .nil) .nil)) (.node (o51 P) (.node (qp13_83 P) (.node (qp13_147 P) .nil .nil) .nil) (.node (o115 P) .nil .nil))) (.node (o15 P) (.node (o43 P) (.node (qp13_75 P) (.node (o139 P) .nil .nil) .nil) (.node (qpre_12 P) .nil .nil)) (.node (o15 P) (.node (o91 P) (.node (o105 P) .nil .nil) .nil) (.node (o123 P) .nil .nil))))) (.node (boot_o_5 P) (.node (boot_o_9 P) (.node (o17 P) (.node (o33 P) (.node (o65 P) (.node (qp13_129 P) .nil .nil) .nil) (.node (qp13_97 P) (.node (o161 P) .nil .nil) .nil)) (.node (o15 P) (.node (qp13_81 P) (.node (o145 P) .nil .nil) .nil) (.node (o15 P) .nil .nil))) (.node (o25 P) (.node (qp8_41 P) (.node (o73 P) (.node (o15 P) .nil .nil) .nil) (.node (o105 P) (.node (qp13_169 P) .nil .nil) .nil)) (.node (qp13_57 P) (.node (o89 P) (.node (qp13_153 P) .nil .nil) .nil) (.node (o121 P) .nil .nil)))) (.node (qpre_13 P) (.node (o21 P) (.node (o37 P) (.node (o69 P) (.node (qp13_133 P) .nil .nil) .nil) (.node (o15 P) (.node (o165 P) .nil .nil) .nil)) (.node (qp8_53 P) (.node (qpre_12 P) (.node (qp13_57 P) .nil .nil) .nil) (.node (qp13_117 P) .nil .nil))) (.node (o29 P) (.node (qpre_12 P) (.node (o15 P) (.node (o141 P) .nil .nil) .nil) (.node (o15 P) .nil .nil)) (.node (qp13_61 P) (.node (o93 P) (.node (qpre_12 P) .nil .nil) .nil) (.node (qp13_125 P) .nil .nil)))))) (.node (o2 P) (.node (boot_o_4 P) (.node (qpre_12 P) (.node (qpre_12 P) (.node (o32 P) (.node (qpre_12 P) (.node (qp13_57 P) .nil .nil) .nil) (.node (qp13_96 P) (.node (qp13_160 P) .nil .nil) .nil)) (.node (o48 P) (.node (o15 P) (.node (o144 P) .nil .nil) .nil) (.node (o112 P) .nil .nil))) (.node (qp8_24 P) (.node (qpre_12 P) (.node (o72 P) (.node (o136 P) .nil .nil) .nil) (.node (qp13_104 P) (.node (qp13_168 P) .nil .nil) .nil)) (.node (o15 P) (.node (qp13_88 P) (.node (qp13_152 P) .nil .nil) .nil) (.node (o120 P) .nil .nil)))) (.node (qp13_12 P) (.node (o20 P) (.node (qp8_36 P) (.node (o68 P) (.node (qp13_132 P) .nil .nil) .nil) (.node (qp13_100 P) (.node (o164 P) .nil .nil) .nil)) (.node (o15 P) (.node (o15 P) (.node (o15 P) .nil .nil) .nil) (.node (o15 P) .nil .nil))) (.node (qpre_12 P) (.node (o15 P) (.node (qp13_76 P) (.node (o140 P) .nil .nil) .nil) (.node (o108 P) .nil .nil)) (.node (qp13_60 P) (.node (o92 P) (.node (o15 P) .nil .nil) .nil) (.node (o124 P) .nil .nil))))) (.node (boot_o_6 P) (.node (boot_o_10 P) (.node (o15 P) (.node (o15 P) (.node (o15 P) (.node (o15 P) .nil .nil) .nil) (.node (o15 P) (.node (o162 P) .nil .nil) .nil)) (.node (qpre_12 P) (.node (qp13_82 P) (.node (qp13_146 P) .nil .nil) .nil) (.node (qpre_12 P) .nil .nil))) (.node (o26 P) (.node (o42 P) (.node (o74 P) (.node (qp13_138 P) .nil .nil) .nil) (.node (o15 P) .nil .nil)) (.node (qp13_58 P) (.node (o90 P) (.node (qp13_154 P) .nil .nil) .nil) (.node (o122 P) .nil .nil)))) (.node (qpre_14 P) (.node (o15 P) (.node (o38 P) (.node (o70 P) (.node (o15 P) .nil .nil) .nil) (.node (qp13_102 P) (.node (o166 P) .nil .nil) .nil)) (.node (o54 P) (.node (o86 P) (.node (qp13_150 P) .nil .nil) .nil) (.node (o118 P) .nil .nil))) (.node (o15 P) (.node (qp8_46 P) (.node (qp13_57 P) (.node (o142 P) .nil .nil) .nil) (.node (qp13_110 P) .nil .nil)) (.node (qp13_62 P) (.node (o94 P) (.node (o158 P) .nil .nil) .nil) (.node (qp13_126 P) .nil .nil)))))))
noncomputable def T_p13 (w : World) (os : OsState) : SharedT := ⟨tr_p13 w.params, 170, {}, #[], boot_drawn, 406, os⟩
noncomputable def qp18_3 (P : Params) : Obj := ⟨(.type "dict"), none, (.dict (List.toArray [⟨PyData.keyHash P (Str.ofString "__name__"), (.str (Str.ofString "__name__") 165), (.str (Str.ofString "vectorcove.values") 238)⟩, ⟨PyData.keyHash P (Str.ofString "__doc__"), (.str (Str.ofString "__doc__") 166), .none⟩, ⟨PyData.keyHash P (Str.ofString "__package__"), (.str (Str.ofString "__package__") 167), .none⟩, ⟨PyData.keyHash P (Str.ofString "__loader__"), (.str (Str.ofString "__loader__") 168), (.builtin "__main__.__loader__#opaque")⟩, ⟨PyData.keyHash P (Str.ofString "__spec__"), (.str (Str.ofString "__spec__") 169), .none⟩, ⟨PyData.keyHash P (Str.ofString "__annotations__"), (.str (Str.ofString "__annotations__") 170), (.ref 6)⟩, ⟨PyData.keyHash P (Str.ofString "__builtins__"), (.str (Str.ofString "__builtins__") 171), (.ref 4)⟩, ⟨PyData.keyHash P (Str.ofString "__file__"), (.str (Str.ofString "__file__") 173), (.str (Str.ofString "/claim/cut.py") 172)⟩, ⟨PyData.keyHash P (Str.ofString "__cached__"), (.str (Str.ofString "__cached__") 174), .none⟩, ⟨PyData.keyHash P (Str.ofString "_wall"), (.str (Str.ofString "_wall") 193), (.ref 21)⟩, ⟨PyData.keyHash P (Str.ofString "attribute_values"), (.str (Str.ofString "attribute_values") 201), (.ref 26)⟩, ⟨PyData.keyHash P (Str.ofString "promise_parts"), (.str (Str.ofString "promise_parts") 208), (.ref 33)⟩, ⟨PyData.keyHash P (Str.ofString "environment_parts"), (.str (Str.ofString "environment_parts") 214), (.ref 38)⟩, ⟨PyData.keyHash P (Str.ofString "closure_parts"), (.str (Str.ofString "closure_parts") 220), (.ref 43)⟩, ⟨PyData.keyHash P (Str.ofString "value_parts"), (.str (Str.ofString "value_parts") 226), (.ref 48)⟩, ⟨PyData.keyHash P (Str.ofString "reached_environments"), (.str (Str.ofString "reached_environments") 237), (.ref 55)⟩, ⟨PyData.keyHash P (Str.ofString "Null"), (.str (Str.ofString "Null") 268), (.ref 72)⟩, ⟨PyData.keyHash P (Str.ofString "Missing"), (.str (Str.ofString "Missing") 297), (.ref 93)⟩, ⟨PyData.keyHash P (Str.ofString "Vector"), (.str (Str.ofString "Vector") 339), (.ref 122)⟩, ⟨PyData.keyHash P (Str.ofString "Symbol"), (.str (Str.ofString "Symbol") 370), (.ref 143)⟩, ⟨PyData.keyHash P (Str.ofString "Call"), (.str (Str.ofString "Call") 405), (.ref 165)⟩, ⟨PyData.keyHash P (Str.ofString "Closure"), (.str (Str.ofString "Closure") 441), (.ref 187)⟩, ⟨PyData.keyHash P (Str.ofString "Environment"), (.str (Str.ofString "Environment") 478), (.ref 209)⟩, ⟨PyData.keyHash P (Str.ofString "Promise"), (.str (Str.ofString "Promise") 513), (.ref 230)⟩, ⟨PyData.keyHash P (Str.ofString "Dots"), (.str (Str.ofString "Dots") 544), (.ref 251)⟩, ⟨PyData.keyHash P (Str.ofString "S4Object"), (.str (Str.ofString "S4Object") 576), (.ref 272)⟩]) 26), #[]⟩
noncomputable def qp18_12 (P : Params) : Obj := ⟨.none, none, (.fields #[(.int 1 0), (.int 0 0), (.ref 20), (.int 5 0), (.int 0 0), (.ref 25), (.int 9 0), (.int 0 0), (.ref 32), (.int 15 0), (.int 0 0), (.ref 37), (.int 20 0), (.int 0 0), (.ref 42), (.int 25 0), (.int 0 0), (.ref 47), (.int 40 0), (.int 0 0), (.ref 54), (.int 58 0), (.int 0 0), (.ref 61), (.int 63 0), (.int 0 0), (.ref 82), (.int 68 0), (.int 0 0), (.ref 103), (.int 79 0), (.int 0 0), (.ref 132), (.int 85 0), (.int 0 0), (.ref 153), (.int 93 0), (.int 0 0), (.ref 175), (.int 101 0), (.int 0 0), (.ref 197), (.int 111 0), (.int 0 0), (.ref 219), (.int 120 0), (.int 0 0), (.ref 240), (.int 126 0), (.int 0 0), (.ref 261)]), #[]⟩
noncomputable def qp18_172 (P : Params) : Obj := ⟨(.type "dict"), none, (.dict (List.toArray [⟨PyData.keyHash P (Str.ofString "__module__"), (.str (Str.ofString "__module__") 413), (.str (Str.ofString "vectorcove.values") 238)⟩, ⟨PyData.keyHash P (Str.ofString "__qualname__"), (.str (Str.ofString "__qualname__") 415), (.str (Str.ofString "Closure") 414)⟩, ⟨PyData.keyHash P (Str.ofString "__firstlineno__"), (.str (Str.ofString "__firstlineno__") 417), (.int 93 416)⟩, ⟨PyData.keyHash P (Str.ofString "__init__"), (.str (Str.ofString "__init__") 428), (.ref 184)⟩, ⟨PyData.keyHash P (Str.ofString "__static_attributes__"), (.str (Str.ofString "__static_attributes__") 434), (.ref 185)⟩]) 5), #[]⟩
noncomputable def qp18_174 (P : Params) : Obj := ⟨.none, none, (.fields #[(.int 95 0), (.int 4 0), (.ref 183)]), #[]⟩
noncomputable def qp18_175 (P : Params) : Obj := ⟨(.type "code"), none, (.fields #[(.str (Str.ofString "Closure") 408), (.str (Str.ofString "Closure") 409), (.str (Str.ofString "/claim/cut.py") 410), (.int 93 0), (.int 0 0), (.int 0 0), (.int 0 0), (.int 0 0), (.ref 173), (.bool false), (.int 181 0), (.ref 174), .none, .none, .none, .none, (.int 411 0), (.int 93 0), (.str (Str.ofString "/claim/cut.py") 412)]), #[]⟩
noncomputable def qp18_176 (P : Params) : Obj := ⟨(.type "frame"), none, .plain, #[(some (.ref 175)), (some (.ref 3)), (some (.ref 172)), none, (some (.str (Str.ofString "vectorcove.values") 238)), none, (some (.ref 0))]⟩
noncomputable def qp18_182 (P : Params) : Obj := ⟨.none, none, (.func (fnData (stIn 14 0) (Str.ofString "Closure.__init__") 0 [] .none .none .none .none none .none .none 0)), #[]⟩
noncomputable def qp18_190 (P : Params) : Obj := ⟨(.type "super"), none, (.fields #[(.ref 187), (.ref 187), (.ref 187)]), #[]⟩
noncomputable def qp18_191 (P : Params) : Obj := ⟨(.type "builtin_function_or_method"), none, (.fields #[(.builtin "object.__init_subclass__"), (.ref 187)]), #[]⟩
noncomputable def qp18_194 (P : Params) : Obj := ⟨(.type "dict"), none, (.dict (List.toArray [⟨PyData.keyHash P (Str.ofString "__module__"), (.str (Str.ofString "__module__") 449), (.str (Str.ofString "vectorcove.values") 238)⟩, ⟨PyData.keyHash P (Str.ofString "__qualname__"), (.str (Str.ofString "__qualname__") 451), (.str (Str.ofString "Environment") 450)⟩, ⟨PyData.keyHash P (Str.ofString "__firstlineno__"), (.str (Str.ofString "__firstlineno__") 453), (.int 101 452)⟩, ⟨PyData.keyHash P (Str.ofString "__init__"), (.str (Str.ofString "__init__") 463), (.ref 206)⟩, ⟨PyData.keyHash P (Str.ofString "__static_attributes__"), (.str (Str.ofString "__static_attributes__") 471), (.ref 207)⟩]) 5), #[]⟩
noncomputable def qp18_196 (P : Params) : Obj := ⟨.none, none, (.fields #[(.int 103 0), (.int 4 0), (.ref 205)]), #[]⟩
noncomputable def qp18_197 (P : Params) : Obj := ⟨(.type "code"), none, (.fields #[(.str (Str.ofString "Environment") 444), (.str (Str.ofString "Environment") 445), (.str (Str.ofString "/claim/cut.py") 446), (.int 101 0), (.int 0 0), (.int 0 0), (.int 0 0), (.int 0 0), (.ref 195), (.bool false), (.int 181 0), (.ref 196), .none, .none, .none, .none, (.int 447 0), (.int 101 0), (.str (Str.ofString "/claim/cut.py") 448)]), #[]⟩
noncomputable def qp18_198 (P : Params) : Obj := ⟨(.type "frame"), none, .plain, #[(some (.ref 197)), (some (.ref 3)), (some (.ref 194)), none, (some (.str (Str.ofString "vectorcove.values") 238)), none, (some (.ref 0))]⟩
noncomputable def qp18_204 (P : Params) : Obj := ⟨.none, none, (.func (fnData (stIn 15 0) (Str.ofString "Environment.__init__") 0 [] .none .none .none .none none .none .none 0)), #[]⟩
noncomputable def qp18_212 (P : Params) : Obj := ⟨(.type "super"), none, (.fields #[(.ref 209), (.ref 209), (.ref 209)]), #[]⟩
noncomputable def qp18_213 (P : Params) : Obj := ⟨(.type "builtin_function_or_method"), none, (.fields #[(.builtin "object.__init_subclass__"), (.ref 209)]), #[]⟩
noncomputable def qp18_216 (P : Params) : Obj := ⟨(.type "dict"), none, (.dict (List.toArray [⟨PyData.keyHash P (Str.ofString "__module__"), (.str (Str.ofString "__module__") 486), (.str (Str.ofString "vectorcove.values") 238)⟩, ⟨PyData.keyHash P (Str.ofString "__qualname__"), (.str (Str.ofString "__qualname__") 488), (.str (Str.ofString "Promise") 487)⟩, ⟨PyData.keyHash P (Str.ofString "__firstlineno__"), (.str (Str.ofString "__firstlineno__") 490), (.int 111 489)⟩, ⟨PyData.keyHash P (Str.ofString "__init__"), (.str (Str.ofString "__init__") 499), (.ref 227)⟩, ⟨PyData.keyHash P (Str.ofString "__static_attributes__"), (.str (Str.ofString "__static_attributes__") 506), (.ref 228)⟩]) 5), #[]⟩
noncomputable def qp18_218 (P : Params) : Obj := ⟨.none, none, (.fields #[(.int 113 0), (.int 4 0), (.ref 226)]), #[]⟩
noncomputable def qp18_219 (P : Params) : Obj := ⟨(.type "code"), none, (.fields #[(.str (Str.ofString "Promise") 481), (.str (Str.ofString "Promise") 482), (.str (Str.ofString "/claim/cut.py") 483), (.int 111 0), (.int 0 0), (.int 0 0), (.int 0 0), (.int 0 0), (.ref 217), (.bool false), (.int 181 0), (.ref 218), .none, .none, .none, .none, (.int 484 0), (.int 111 0), (.str (Str.ofString "/claim/cut.py") 485)]), #[]⟩
noncomputable def qp18_220 (P : Params) : Obj := ⟨(.type "frame"), none, .plain, #[(some (.ref 219)), (some (.ref 3)), (some (.ref 216)), none, (some (.str (Str.ofString "vectorcove.values") 238)), none, (some (.ref 0))]⟩
noncomputable def qp18_225 (P : Params) : Obj := ⟨.none, none, (.func (fnData (stIn 16 0) (Str.ofString "Promise.__init__") 0 [] .none .none .none .none none .none .none 0)), #[]⟩
noncomputable def qp18_233 (P : Params) : Obj := ⟨(.type "super"), none, (.fields #[(.ref 230), (.ref 230), (.ref 230)]), #[]⟩
noncomputable def qp18_234 (P : Params) : Obj := ⟨(.type "builtin_function_or_method"), none, (.fields #[(.builtin "object.__init_subclass__"), (.ref 230)]), #[]⟩
noncomputable def qp18_237 (P : Params) : Obj := ⟨(.type "dict"), none, (.dict (List.toArray [⟨PyData.keyHash P (Str.ofString "__module__"), (.str (Str.ofString "__module__") 521), (.str (Str.ofString "vectorcove.values") 238)⟩, ⟨PyData.keyHash P (Str.ofString "__qualname__"), (.str (Str.ofString "__qualname__") 523), (.str (Str.ofString "Dots") 522)⟩, ⟨PyData.keyHash P (Str.ofString "__firstlineno__"), (.str (Str.ofString "__firstlineno__") 525), (.int 120 524)⟩, ⟨PyData.keyHash P (Str.ofString "__init__"), (.str (Str.ofString "__init__") 533), (.ref 248)⟩, ⟨PyData.keyHash P (Str.ofString "__static_attributes__"), (.str (Str.ofString "__static_attributes__") 537), (.ref 249)⟩]) 5), #[]⟩
noncomputable def qp18_239 (P : Params) : Obj := ⟨.none, none, (.fields #[(.int 122 0), (.int 4 0), (.ref 247)]), #[]⟩
noncomputable def qp18_240 (P : Params) : Obj := ⟨(.type "code"), none, (.fields #[(.str (Str.ofString "Dots") 516), (.str (Str.ofString "Dots") 517), (.str (Str.ofString "/claim/cut.py") 518), (.int 120 0), (.int 0 0), (.int 0 0), (.int 0 0), (.int 0 0), (.ref 238), (.bool false), (.int 181 0), (.ref 239), .none, .none, .none, .none, (.int 519 0), (.int 120 0), (.str (Str.ofString "/claim/cut.py") 520)]), #[]⟩
noncomputable def qp18_241 (P : Params) : Obj := ⟨(.type "frame"), none, .plain, #[(some (.ref 240)), (some (.ref 3)), (some (.ref 237)), none, (some (.str (Str.ofString "vectorcove.values") 238)), none, (some (.ref 0))]⟩
noncomputable def qp18_246 (P : Params) : Obj := ⟨.none, none, (.func (fnData (stIn 17 0) (Str.ofString "Dots.__init__") 0 [] .none .none .none .none none .none .none 0)), #[]⟩
noncomputable def qp18_254 (P : Params) : Obj := ⟨(.type "super"), none, (.fields #[(.ref 251), (.ref 251), (.ref 251)]), #[]⟩
noncomputable def qp18_255 (P : Params) : Obj := ⟨(.type "builtin_function_or_method"), none, (.fields #[(.builtin "object.__init_subclass__"), (.ref 251)]), #[]⟩
noncomputable def qp18_258 (P : Params) : Obj := ⟨(.type "dict"), none, (.dict (List.toArray [⟨PyData.keyHash P (Str.ofString "__module__"), (.str (Str.ofString "__module__") 552), (.str (Str.ofString "vectorcove.values") 238)⟩, ⟨PyData.keyHash P (Str.ofString "__qualname__"), (.str (Str.ofString "__qualname__") 554), (.str (Str.ofString "S4Object") 553)⟩, ⟨PyData.keyHash P (Str.ofString "__firstlineno__"), (.str (Str.ofString "__firstlineno__") 556), (.int 126 555)⟩, ⟨PyData.keyHash P (Str.ofString "__init__"), (.str (Str.ofString "__init__") 564), (.ref 269)⟩, ⟨PyData.keyHash P (Str.ofString "__static_attributes__"), (.str (Str.ofString "__static_attributes__") 569), (.ref 270)⟩]) 5), #[]⟩
noncomputable def qp18_260 (P : Params) : Obj := ⟨.none, none, (.fields #[(.int 128 0), (.int 4 0), (.ref 268)]), #[]⟩
noncomputable def qp18_261 (P : Params) : Obj := ⟨(.type "code"), none, (.fields #[(.str (Str.ofString "S4Object") 547), (.str (Str.ofString "S4Object") 548), (.str (Str.ofString "/claim/cut.py") 549), (.int 126 0), (.int 0 0), (.int 0 0), (.int 0 0), (.int 0 0), (.ref 259), (.bool false), (.int 181 0), (.ref 260), .none, .none, .none, .none, (.int 550 0), (.int 126 0), (.str (Str.ofString "/claim/cut.py") 551)]), #[]⟩
noncomputable def qp18_262 (P : Params) : Obj := ⟨(.type "frame"), none, .plain, #[(some (.ref 261)), (some (.ref 3)), (some (.ref 258)), none, (some (.str (Str.ofString "vectorcove.values") 238)), none, (some (.ref 0))]⟩
noncomputable def qp18_267 (P : Params) : Obj := ⟨.none, none, (.func (fnData (stIn 18 0) (Str.ofString "S4Object.__init__") 0 [] .none .none .none .none none .none .none 0)), #[]⟩
noncomputable def qp18_275 (P : Params) : Obj := ⟨(.type "super"), none, (.fields #[(.ref 272), (.ref 272), (.ref 272)]), #[]⟩
noncomputable def qp18_276 (P : Params) : Obj := ⟨(.type "builtin_function_or_method"), none, (.fields #[(.builtin "object.__init_subclass__"), (.ref 272)]), #[]⟩
set_option maxRecDepth 100000 in
noncomputable def tr_p18 (P : Params) : BT := (.node (boot_o_0 P) (.node (boot_o_1 P) (.node (qp18_3 P) (.node (o15 P) (.node (o15 P) (.node (qp8_31 P) (.node (o15 P) (.node (o15 P) (.node (qp18_255 P) .nil .nil) .nil) (.node (qp18_191 P) .nil .nil)) (.node (o95 P) (.node (o15 P) .nil .nil) (.node (o223 P) .nil .nil))) (.node (o47 P) (.node (qp13_79 P) (.node (o143 P) (.node (o271 P) .nil .nil) .nil) (.node (o207 P) .nil .nil)) (.node (o111 P) (.node (qp18_175 P) .nil .nil) (.node (qp18_239 P) .nil .nil)))) (.node (qpre_12 P) (.node (o15 P) (.node (o71 P) (.node (qpre_12 P) (.node (o15 P) .nil .nil) .nil) (.node (o105 P) .nil .nil)) (.node (qp13_103 P) (.node (o167 P) .nil .nil) (.node (o231 P) .nil .nil))) (.node (o55 P) (.node (o15 P) (.node (o15 P) .nil .nil) (.node (qp13_57 P) .nil .nil)) (.node (o119 P) (.node (o183 P) .nil .nil) (.node (o247 P) .nil .nil))))) (.node (o15 P) (.node (qp8_19 P) (.node (qpre_12 P) (.node (qp13_67 P) (.node (qp13_131 P) (.node (o15 P) .nil .nil) .nil) (.node (o15 P) .nil .nil)) (.node (qp13_57 P) (.node (o163 P) .nil .nil) (.node (o227 P) .nil .nil))) (.node (o51 P) (.node (qp13_83 P) (.node (qp13_147 P) (.node (qp18_275 P) .nil .nil) .nil) (.node (o211 P) .nil .nil)) (.node (o115 P) (.node (qpre_12 P) .nil .nil) (.node (qpre_12 P) .nil .nil)))) (.node (o15 P) (.node (o43 P) (.node (qp13_75 P) (.node (o139 P) (.node (qp18_267 P) .nil .nil) .nil) (.node (o15 P) .nil .nil)) (.node (qpre_12 P) (.node (qp13_57 P) .nil .nil) (.node (o15 P) .nil .nil))) (.node (o15 P) (.node (o91 P) (.node (o105 P) .nil .nil) (.node (qp18_219 P) .nil .nil)) (.node (o123 P) (.node (o187 P) .nil .nil) (.node (o251 P) .nil .nil)))))) (.node (boot_o_5 P) (.node (boot_o_9 P) (.node (o17 P) (.node (o33 P) (.node (o65 P) (.node (qp13_129 P) (.node (qp13_57 P) .nil .nil) .nil) (.node (qp13_57 P) .nil .nil)) (.node (qp13_97 P) (.node (o161 P) .nil .nil) (.node (qp18_225 P) .nil .nil))) (.node (o15 P) (.node (qp13_81 P) (.node (o145 P) (.node (o273 P) .nil .nil) .nil) (.node (o209 P) .nil .nil)) (.node (o15 P) (.node (o105 P) .nil .nil) (.node (qp18_241 P) .nil .nil)))) (.node (o25 P) (.node (qp8_41 P) (.node (o73 P) (.node (o15 P) (.node (o265 P) .nil .nil) .nil) (.node (qpre_12 P) .nil .nil)) (.node (o105 P) (.node (qp13_169 P) .nil .nil) (.node (qp18_233 P) .nil .nil))) (.node (qp13_57 P) (.node (o89 P) (.node (qp13_153 P) .nil .nil) (.node (o15 P) .nil .nil)) (.node (o121 P) (.node (o185 P) .nil .nil) (.node (o249 P) .nil .nil))))) (.node (qpre_13 P) (.node (o21 P) (.node (o37 P) (.node (o69 P) (.node (qp13_133 P) (.node (qp18_261 P) .nil .nil) .nil) (.node (qp18_197 P) .nil .nil)) (.node (o15 P) (.node (o165 P) .nil .nil) (.node (o229 P) .nil .nil))) (.node (qp8_53 P) (.node (qpre_12 P) (.node (qp13_57 P) .nil .nil) (.node (qp18_213 P) .nil .nil)) (.node (qp13_117 P) (.node (o15 P) .nil .nil) (.node (o15 P) .nil .nil)))) (.node (o29 P) (.node (qpre_12 P) (.node (o15 P) (.node (o141 P) (.node (o269 P) .nil .nil) .nil) (.node (o205 P) .nil .nil)) (.node (o15 P) (.node (o15 P) .nil .nil) (.node (qp18_237 P) .nil .nil))) (.node (qp13_61 P) (.node (o93 P) (.node (qpre_12 P) .nil .nil) (.node (o15 P) .nil .nil)) (.node (qp13_125 P) (.node (o189 P) .nil .nil) (.node (o253 P) .nil .nil))))))) (.node (o2 P) (.node (boot_o_4 P) (.node (qpre_12 P) (.node (qpre_12 P) (.node (o32 P) (.node (qpre_12 P) (.node (qp13_57 P) (.node (o15 P) .nil .nil) .nil) (.node (o15 P) .nil .nil)) (.node (qp13_96 P) (.node (qp13_160 P) .nil .nil) (.node (o15 P) .nil .nil))) (.node (o48 P) (.node (o15 P) (.node (o144 P) (.node (o272 P) .nil .nil) .nil) (.node (o208 P) .nil .nil)) (.node (o112 P) (.node (qp18_176 P) .nil .nil) (.node (qp18_240 P) .nil .nil)))) (.node (qp8_24 P) (.node (qpre_12 P) (.node (o72 P) (.node (o136 P) (.node (qpre_12 P) .nil .nil) .nil) (.node (o15 P) .nil .nil)) (.node (qp13_104 P) (.node (qp13_168 P) .nil .nil) (.node (o232 P) .nil .nil))) (.node (o15 P) (.node (qp13_88 P) (.node (qp13_152 P) .nil .nil) (.node (qp18_216 P) .nil .nil)) (.node (o120 P) (.node (o184 P) .nil .nil) (.node (o248 P) .nil .nil))))) (.node (qp18_12 P) (.node (o20 P) (.node (qp8_36 P) (.node (o68 P) (.node (qp13_132 P) (.node (qp18_260 P) .nil .nil) .nil) (.node (qp18_196 P) .nil .nil)) (.node (qp13_100 P) (.node (o164 P) .nil .nil) (.node (o228 P) .nil .nil))) (.node (o15 P) (.node (o15 P) (.node (o15 P) (.node (qp18_276 P) .nil .nil) .nil) (.node (qp18_212 P) .nil .nil)) (.node (o15 P) (.node (o180 P) .nil .nil) (.node (o244 P) .nil .nil)))) (.node (qpre_12 P) (.node (o15 P) (.node (qp13_76 P) (.node (o140 P) (.node (o268 P) .nil .nil) .nil) (.node (qp18_204 P) .nil .nil)) (.node (o108 P) (.node (qp18_172 P) .nil .nil) (.node (qp13_57 P) .nil .nil))) (.node (qp13_60 P) (.node (o92 P) (.node (o15 P) .nil .nil) (.node (qp18_220 P) .nil .nil)) (.node (o124 P) (.node (o188 P) .nil .nil) (.node (o252 P) .nil .nil)))))) (.node (boot_o_6 P) (.node (boot_o_10 P) (.node (o15 P) (.node (o15 P) (.node (o15 P) (.node (o15 P) (.node (qp18_258 P) .nil .nil) .nil) (.node (qp18_194 P) .nil .nil)) (.node (o15 P) (.node (o162 P) .nil .nil) (.node (o226 P) .nil .nil))) (.node (qpre_12 P) (.node (qp13_82 P) (.node (qp13_146 P) (.node (o274 P) .nil .nil) .nil) (.node (o210 P) .nil .nil)) (.node (qpre_12 P) (.node (o15 P) .nil .nil) (.node (o15 P) .nil .nil)))) (.node (o26 P) (.node (o42 P) (.node (o74 P) (.node (qp13_138 P) (.node (o15 P) .nil .nil) .nil) (.node (o202 P) .nil .nil)) (.node (o15 P) (.node (o15 P) .nil .nil) (.node (qp18_234 P) .nil .nil))) (.node (qp13_58 P) (.node (o90 P) (.node (qp13_154 P) .nil .nil) (.node (qp18_218 P) .nil .nil)) (.node (o122 P) (.node (o186 P) .nil .nil) (.node (o250 P) .nil .nil))))) (.node (qpre_14 P) (.node (o15 P) (.node (o38 P) (.node (o70 P) (.node (o15 P) (.node (qp18_262 P) .nil .nil) .nil) (.node (qp18_198 P) .nil .nil)) (.node (qp13_102 P) (.node (o166 P) .nil .nil) (.node (o230 P) .nil .nil))) (.node (o54 P) (.node (o86 P) (.node (qp13_150 P) .nil .nil) (.node (o15 P) .nil .nil)) (.node (o118 P) (.node (qp18_182 P) .nil .nil) (.node (qp18_246 P) .nil .nil)))) (.node (o15 P) (.node (qp8_46 P) (.node (qp13_57 P) (.node (o142 P) (.node (o270 P) .nil .nil) .nil) (.node (o206 P) .nil .nil)) (.node (qp13_110 P) (.node (qp18_174 P) .nil .nil) (.node (o15 P) .nil .nil))) (.node (qp13_62 P) (.node (o94 P) (.node (o158 P) .nil .nil) (.node (qpre_12 P) .nil .nil)) (.node (qp13_126 P) (.node (qp18_190 P) .nil .nil) (.node (qp18_254 P) .nil .nil))))))))
noncomputable def T_p18 (w : World) (os : OsState) : SharedT := ⟨tr_p18 w.params, 277, {}, #[], boot_drawn, 577, os⟩
noncomputable def qp26_12 (P : Params) : Obj := ⟨.none, none, (.fields #[(.int 1 0), (.int 0 0), (.ref 20), (.int 5 0), (.int 0 0), (.ref 25), (.int 9 0), (.int 0 0), (.ref 32), (.int 15 0), (.int 0 0), (.ref 37), (.int 20 0), (.int 0 0), (.ref 42), (.int 25 0), (.int 0 0), (.ref 47), (.int 40 0), (.int 0 0), (.ref 54), (.int 58 0), (.int 0 0), (.ref 61), (.int 63 0), (.int 0 0), (.ref 82), (.int 68 0), (.int 0 0), (.ref 103), (.int 79 0), (.int 0 0), (.ref 132), (.int 85 0), (.int 0 0), (.ref 153), (.int 93 0), (.int 0 0), (.ref 175), (.int 101 0), (.int 0 0), (.ref 197), (.int 111 0), (.int 0 0), (.ref 219), (.int 120 0), (.int 0 0), (.ref 240), (.int 126 0), (.int 0 0), (.ref 261), (.int 133 0), (.int 0 0), (.ref 282), (.int 135 0), (.int 0 0), (.ref 289), (.int 137 0), (.int 0 0), (.ref 297), (.int 144 0), (.int 0 0), (.ref 304), (.int 159 0), (.int 0 0), (.ref 311), (.int 169 0), (.int 0 0), (.ref 318), (.int 207 0), (.int 0 0), (.ref 323)]), #[]⟩
noncomputable def qp26_281 (P : Params) : Obj := ⟨.none, none, (.func (fnData (stTop 19) (Str.ofString "null") 0 [] .none .none .none .none none .none .none 0)), #[]⟩
noncomputable def qp26_288 (P : Params) : Obj := ⟨.none, none, (.func (fnData (stTop 20) (Str.ofString "missing") 0 [] .none .none .none .none none .none .none 0)), #[]⟩
noncomputable def qp26_296 (P : Params) : Obj := ⟨.none, none, (.func (fnData (stTop 21) (Str.ofString "number") 0 [] .none .none .none .none none .none .none 0)), #[]⟩
noncomputable def qp26_303 (P : Params) : Obj := ⟨.none, none, (.func (fnData (stTop 23) (Str.ofString "_law_pool") 0 [] .none .none .none .none none .none .none 0)), #[]⟩
noncomputable def qp26_310 (P : Params) : Obj := ⟨.none, none, (.func (fnData (stTop 24) (Str.ofString "_law_pick") 0 [] .none .none .none .none none .none .none 0)), #[]⟩
noncomputable def qp26_317 (P : Params) : Obj := ⟨.none, none, (.func (fnData (stTop 25) (Str.ofString "_law_value") 0 [] .none .none .none .none none .none .none 0)), #[]⟩
noncomputable def qp26_322 (P : Params) : Obj := ⟨.none, none, (.func (fnData (stTop 26) (Str.ofString "law") 0 [] .none .none .none .none none .none .none 0)), #[]⟩
set_option maxRecDepth 100000 in
noncomputable def tr_p26 (P : Params) : BT := (.node (boot_o_0 P) (.node (boot_o_1 P) (.node (o3 P) (.node (o15 P) (.node (o15 P) (.node (qp8_31 P) (.node (o15 P) (.node (o15 P) (.node (qp18_255 P) .nil .nil) .nil) (.node (qp18_191 P) (.node (o319 P) .nil .nil) .nil)) (.node (o95 P) (.node (o15 P) (.node (o15 P) .nil .nil) .nil) (.node (o223 P) .nil .nil))) (.node (o47 P) (.node (qp13_79 P) (.node (o143 P) (.node (o271 P) .nil .nil) .nil) (.node (o207 P) .nil .nil)) (.node (o111 P) (.node (qp18_175 P) (.node (qp26_303 P) .nil .nil) .nil) (.node (qp18_239 P) .nil .nil)))) (.node (qpre_12 P) (.node (o15 P) (.node (o71 P) (.node (qpre_12 P) (.node (o15 P) .nil .nil) .nil) (.node (o105 P) .nil .nil)) (.node (qp13_103 P) (.node (o167 P) (.node (o15 P) .nil .nil) .nil) (.node (o231 P) .nil .nil))) (.node (o55 P) (.node (o15 P) (.node (o15 P) (.node (o15 P) .nil .nil) .nil) (.node (qp13_57 P) .nil .nil)) (.node (o119 P) (.node (o183 P) (.node (o311 P) .nil .nil) .nil) (.node (o247 P) .nil .nil))))) (.node (o15 P) (.node (qp8_19 P) (.node (qpre_12 P) (.node (qp13_67 P) (.node (qp13_131 P) (.node (o15 P) .nil .nil) .nil) (.node (o15 P) (.node (o323 P) .nil .nil) .nil)) (.node (qp13_57 P) (.node (o163 P) (.node (o291 P) .nil .nil) .nil) (.node (o227 P) .nil .nil))) (.node (o51 P) (.node (qp13_83 P) (.node (qp13_147 P) (.node (qp18_275 P) .nil .nil) .nil) (.node (o211 P) .nil .nil)) (.node (o115 P) (.node (qpre_12 P) (.node (qpre_12 P) .nil .nil) .nil) (.node (qpre_12 P) .nil .nil)))) (.node (o15 P) (.node (o43 P) (.node (qp13_75 P) (.node (o139 P) (.node (qp18_267 P) .nil .nil) .nil) (.node (o15 P) .nil .nil)) (.node (qpre_12 P) (.node (qp13_57 P) (.node (o15 P) .nil .nil) .nil) (.node (o15 P) .nil .nil))) (.node (o15 P) (.node (o91 P) (.node (o105 P) (.node (o283 P) .nil .nil) .nil) (.node (qp18_219 P) .nil .nil)) (.node (o123 P) (.node (o187 P) (.node (o315 P) .nil .nil) .nil) (.node (o251 P) .nil .nil)))))) (.node (boot_o_5 P) (.node (boot_o_9 P) (.node (o17 P) (.node (o33 P) (.node (o65 P) (.node (qp13_129 P) (.node (qp13_57 P) .nil .nil) .nil) (.node (qp13_57 P) (.node (qpre_12 P) .nil .nil) .nil)) (.node (qp13_97 P) (.node (o161 P) (.node (o289 P) .nil .nil) .nil) (.node (qp18_225 P) .nil .nil))) (.node (o15 P) (.node (qp13_81 P) (.node (o145 P) (.node (o273 P) .nil .nil) .nil) (.node (o209 P) .nil .nil)) (.node (o15 P) (.node (o105 P) (.node (o305 P) .nil .nil) .nil) (.node (qp18_241 P) .nil .nil)))) (.node (o25 P) (.node (qp8_41 P) (.node (o73 P) (.node (o15 P) (.node (o265 P) .nil .nil) .nil) (.node (qpre_12 P) .nil .nil)) (.node (o105 P) (.node (qp13_169 P) (.node (o297 P) .nil .nil) .nil) (.node (qp18_233 P) .nil .nil))) (.node (qp13_57 P) (.node (o89 P) (.node (qp13_153 P) (.node (qp26_281 P) .nil .nil) .nil) (.node (o15 P) .nil .nil)) (.node (o121 P) (.node (o185 P) (.node (o15 P) .nil .nil) .nil) (.node (o249 P) .nil .nil))))) (.node (qpre_13 P) (.node (o21 P) (.node (o37 P) (.node (o69 P) (.node (qp13_133 P) (.node (qp18_261 P) .nil .nil) .nil) (.node (qp18_197 P) .nil .nil)) (.node (o15 P) (.node (o165 P) (.node (qpre_12 P) .nil .nil) .nil) (.node (o229 P) .nil .nil))) (.node (qp8_53 P) (.node (qpre_12 P) (.node (qp13_57 P) (.node (o15 P) .nil .nil) .nil) (.node (qp18_213 P) .nil .nil)) (.node (qp13_117 P) (.node (o15 P) (.node (o15 P) .nil .nil) .nil) (.node (o15 P) .nil .nil)))) (.node (o29 P) (.node (qpre_12 P) (.node (o15 P) (.node (o141 P) (.node (o269 P) .nil .nil) .nil) (.node (o205 P) .nil .nil)) (.node (o15 P) (.node (o15 P) (.node (o301 P) .nil .nil) .nil) (.node (qp18_237 P) .nil .nil))) (.node (qp13_61 P) (.node (o93 P) (.node (qpre_12 P) (.node (qpre_12 P) .nil .nil) .nil) (.node (o15 P) .nil .nil)) (.node (qp13_125 P) (.node (o189 P) (.node (qp26_317 P) .nil .nil) .nil) (.node (o253 P) .nil .nil))))))) (.node (o2 P) (.node (boot_o_4 P) (.node (qpre_12 P) (.node (qpre_12 P) (.node (o32 P) (.node (qpre_12 P) (.node (qp13_57 P) (.node (o15 P) .nil .nil) .nil) (.node (o15 P) (.node (o15 P) .nil .nil) .nil)) (.node (qp13_96 P) (.node (qp13_160 P) (.node (qp26_288 P) .nil .nil) .nil) (.node (o15 P) .nil .nil))) (.node (o48 P) (.node (o15 P) (.node (o144 P) (.node (o272 P) .nil .nil) .nil) (.node (o208 P) .nil .nil)) (.node (o112 P) (.node (qp18_176 P) (.node (o304 P) .nil .nil) .nil) (.node (qp18_240 P) .nil .nil)))) (.node (qp8_24 P) (.node (qpre_12 P) (.node (o72 P) (.node (o136 P) (.node (qpre_12 P) .nil .nil) .nil) (.node (o15 P) .nil .nil)) (.node (qp13_104 P) (.node (qp13_168 P) (.node (qp26_296 P) .nil .nil) .nil) (.node (o232 P) .nil .nil))) (.node (o15 P) (.node (qp13_88 P) (.node (qp13_152 P) (.node (o15 P) .nil .nil) .nil) (.node (qp18_216 P) .nil .nil)) (.node (o120 P) (.node (o184 P) (.node (o312 P) .nil .nil) .nil) (.node (o248 P) .nil .nil))))) (.node (qp26_12 P) (.node (o20 P) (.node (qp8_36 P) (.node (o68 P) (.node (qp13_132 P) (.node (qp18_260 P) .nil .nil) .nil) (.node (qp18_196 P) (.node (o324 P) .nil .nil) .nil)) (.node (qp13_100 P) (.node (o164 P) (.node (o15 P) .nil .nil) .nil) (.node (o228 P) .nil .nil))) (.node (o15 P) (.node (o15 P) (.node (o15 P) (.node (qp18_276 P) .nil .nil) .nil) (.node (qp18_212 P) .nil .nil)) (.node (o15 P) (.node (o180 P) (.node (o308 P) .nil .nil) .nil) (.node (o244 P) .nil .nil)))) (.node (qpre_12 P) (.node (o15 P) (.node (qp13_76 P) (.node (o140 P) (.node (o268 P) .nil .nil) .nil) (.node (qp18_204 P) .nil .nil)) (.node (o108 P) (.node (qp18_172 P) (.node (qpre_12 P) .nil .nil) .nil) (.node (qp13_57 P) .nil .nil))) (.node (qp13_60 P) (.node (o92 P) (.node (o15 P) (.node (o15 P) .nil .nil) .nil) (.node (qp18_220 P) .nil .nil)) (.node (o124 P) (.node (o188 P) (.node (o15 P) .nil .nil) .nil) (.node (o252 P) .nil .nil)))))) (.node (boot_o_6 P) (.node (boot_o_10 P) (.node (o15 P) (.node (o15 P) (.node (o15 P) (.node (o15 P) (.node (qp18_258 P) .nil .nil) .nil) (.node (qp18_194 P) (.node (qp26_322 P) .nil .nil) .nil)) (.node (o15 P) (.node (o162 P) (.node (o290 P) .nil .nil) .nil) (.node (o226 P) .nil .nil))) (.node (qpre_12 P) (.node (qp13_82 P) (.node (qp13_146 P) (.node (o274 P) .nil .nil) .nil) (.node (o210 P) .nil .nil)) (.node (qpre_12 P) (.node (o15 P) (.node (o15 P) .nil .nil) .nil) (.node (o15 P) .nil .nil)))) (.node (o26 P) (.node (o42 P) (.node (o74 P) (.node (qp13_138 P) (.node (o15 P) .nil .nil) .nil) (.node (o202 P) .nil .nil)) (.node (o15 P) (.node (o15 P) (.node (o298 P) .nil .nil) .nil) (.node (qp18_234 P) .nil .nil))) (.node (qp13_58 P) (.node (o90 P) (.node (qp13_154 P) (.node (o282 P) .nil .nil) .nil) (.node (qp18_218 P) .nil .nil)) (.node (o122 P) (.node (o186 P) (.node (qpre_12 P) .nil .nil) .nil) (.node (o250 P) .nil .nil))))) (.node (qpre_14 P) (.node (o15 P) (.node (o38 P) (.node (o70 P) (.node (o15 P) (.node (qp18_262 P) .nil .nil) .nil) (.node (qp18_198 P) .nil .nil)) (.node (qp13_102 P) (.node (o166 P) (.node (o294 P) .nil .nil) .nil) (.node (o230 P) .nil .nil))) (.node (o54 P) (.node (o86 P) (.node (qp13_150 P) (.node (qpre_12 P) .nil .nil) .nil) (.node (o15 P) .nil .nil)) (.node (o118 P) (.node (qp18_182 P) (.node (qp26_310 P) .nil .nil) .nil) (.node (qp18_246 P) .nil .nil)))) (.node (o15 P) (.node (qp8_46 P) (.node (qp13_57 P) (.node (o142 P) (.node (o270 P) .nil .nil) .nil) (.node (o206 P) .nil .nil)) (.node (qp13_110 P) (.node (qp18_174 P) (.node (o15 P) .nil .nil) .nil) (.node (o15 P) .nil .nil))) (.node (qp13_62 P) (.node (o94 P) (.node (o158 P) (.node (o15 P) .nil .nil) .nil) (.node (qpre_12 P) .nil .nil)) (.node (qp13_126 P) (.node (qp18_190 P) (.node (o318 P) .nil .nil) .nil) (.node (qp18_254 P) .nil .nil))))))))
noncomputable def T_p26 (w : World) (os : OsState) : SharedT := ⟨tr_p26 w.params, 325, {}, #[], boot_drawn, 646, os⟩
set_option maxRecDepth 100000 in
noncomputable def hF (P : Params) : Heap := ⟨⟨boot_o_0 P ::
  boot_o_1 P ::
  o2 P ::
  o3 P ::
  boot_o_4 P ::
  boot_o_5 P ::
  boot_o_6 P ::
  o15 P ::
  qpre_12 P ::
  boot_o_9 P ::
  boot_o_10 P ::
  o15 P ::
  qp26_12 P ::
  qpre_13 P ::
  qpre_14 P ::
  o15 P ::
  qpre_12 P ::
  o17 P ::
  o15 P ::
  qp8_19 P ::
  o20 P ::
  o21 P ::
  o15 P ::
  qpre_12 P ::
  qp8_24 P ::
  o25 P ::
  o26 P ::
  o15 P ::
  qpre_12 P ::
  o29 P ::
  o15 P ::
  qp8_31 P ::
  o32 P ::
  o33 P ::
  o15 P ::
  qpre_12 P ::
  qp8_36 P ::
  o37 P ::
  o38 P ::
  o15 P ::
  qpre_12 P ::
  qp8_41 P ::
  o42 P ::
  o43 P ::
  o15 P ::
  qpre_12 P ::
  qp8_46 P ::
  o47 P ::
  o48 P ::
  o15 P ::
  qpre_12 P ::
  o51 P ::
  o15 P ::
  qp8_53 P ::
  o54 P ::
  o55 P ::
  o15 P ::
  qp13_57 P ::
  qp13_58 P ::
  o15 P ::
  qp13_60 P ::
  qp13_61 P ::
  qp13_62 P ::
  o15 P ::
  qpre_12 P ::
  o65 P ::
  o15 P ::
  qp13_67 P ::
  o68 P ::
  o69 P ::
  o70 P ::
  o71 P ::
  o72 P ::
  o73 P ::
  o74 P ::
  qp13_75 P ::
  qp13_76 P ::
  o15 P ::
  qp13_57 P ::
  qp13_79 P ::
  o15 P ::
  qp13_81 P ::
  qp13_82 P ::
  qp13_83 P ::
  o15 P ::
  qpre_12 P ::
  o86 P ::
  o15 P ::
  qp13_88 P ::
  o89 P ::
  o90 P ::
  o91 P ::
  o92 P ::
  o93 P ::
  o94 P ::
  o95 P ::
  qp13_96 P ::
  qp13_97 P ::
  o15 P ::
  qp13_57 P ::
  qp13_100 P ::
  o15 P ::
  qp13_102 P ::
  qp13_103 P ::
  qp13_104 P ::
  o105 P ::
  o15 P ::
  qpre_12 P ::
  o108 P ::
  o15 P ::
  qp13_110 P ::
  o111 P ::
  o112 P ::
  o15 P ::
  qpre_12 P ::
  o115 P ::
  o15 P ::
  qp13_117 P ::
  o118 P ::
  o119 P ::
  o120 P ::
  o121 P ::
  o122 P ::
  o123 P ::
  o124 P ::
  qp13_125 P ::
  qp13_126 P ::
  o15 P ::
  qp13_57 P ::
  qp13_129 P ::
  o15 P ::
  qp13_131 P ::
  qp13_132 P ::
  qp13_133 P ::
  o15 P ::
  qpre_12 P ::
  o136 P ::
  o15 P ::
  qp13_138 P ::
  o139 P ::
  o140 P ::
  o141 P ::
  o142 P ::
  o143 P ::
  o144 P ::
  o145 P ::
  qp13_146 P ::
  qp13_147 P ::
  o15 P ::
  qp13_57 P ::
  qp13_150 P ::
  o15 P ::
  qp13_152 P ::
  qp13_153 P ::
  qp13_154 P ::
  o105 P ::
  o15 P ::
  qpre_12 P ::
  o158 P ::
  o15 P ::
  qp13_160 P ::
  o161 P ::
  o162 P ::
  o163 P ::
  o164 P ::
  o165 P ::
  o166 P ::
  o167 P ::
  qp13_168 P ::
  qp13_169 P ::
  o15 P ::
  qp13_57 P ::
  qp18_172 P ::
  o15 P ::
  qp18_174 P ::
  qp18_175 P ::
  qp18_176 P ::
  o105 P ::
  o15 P ::
  qpre_12 P ::
  o180 P ::
  o15 P ::
  qp18_182 P ::
  o183 P ::
  o184 P ::
  o185 P ::
  o186 P ::
  o187 P ::
  o188 P ::
  o189 P ::
  qp18_190 P ::
  qp18_191 P ::
  o15 P ::
  qp13_57 P ::
  qp18_194 P ::
  o15 P ::
  qp18_196 P ::
  qp18_197 P ::
  qp18_198 P ::
  o105 P ::
  o15 P ::
  qpre_12 P ::
  o202 P ::
  o15 P ::
  qp18_204 P ::
  o205 P ::
  o206 P ::
  o207 P ::
  o208 P ::
  o209 P ::
  o210 P ::
  o211 P ::
  qp18_212 P ::
  qp18_213 P ::
  o15 P ::
  qp13_57 P ::
  qp18_216 P ::
  o15 P ::
  qp18_218 P ::
  qp18_219 P ::
  qp18_220 P ::
  o15 P ::
  qpre_12 P ::
  o223 P ::
  o15 P ::
  qp18_225 P ::
  o226 P ::
  o227 P ::
  o228 P ::
  o229 P ::
  o230 P ::
  o231 P ::
  o232 P ::
  qp18_233 P ::
  qp18_234 P ::
  o15 P ::
  qp13_57 P ::
  qp18_237 P ::
  o15 P ::
  qp18_239 P ::
  qp18_240 P ::
  qp18_241 P ::
  o15 P ::
  qpre_12 P ::
  o244 P ::
  o15 P ::
  qp18_246 P ::
  o247 P ::
  o248 P ::
  o249 P ::
  o250 P ::
  o251 P ::
  o252 P ::
  o253 P ::
  qp18_254 P ::
  qp18_255 P ::
  o15 P ::
  qp13_57 P ::
  qp18_258 P ::
  o15 P ::
  qp18_260 P ::
  qp18_261 P ::
  qp18_262 P ::
  o15 P ::
  qpre_12 P ::
  o265 P ::
  o15 P ::
  qp18_267 P ::
  o268 P ::
  o269 P ::
  o270 P ::
  o271 P ::
  o272 P ::
  o273 P ::
  o274 P ::
  qp18_275 P ::
  qp18_276 P ::
  o15 P ::
  qpre_12 P ::
  o15 P ::
  o15 P ::
  qp26_281 P ::
  o282 P ::
  o283 P ::
  o15 P ::
  qpre_12 P ::
  o15 P ::
  o15 P ::
  qp26_288 P ::
  o289 P ::
  o290 P ::
  o291 P ::
  o15 P ::
  qpre_12 P ::
  o294 P ::
  o15 P ::
  qp26_296 P ::
  o297 P ::
  o298 P ::
  o15 P ::
  qpre_12 P ::
  o301 P ::
  o15 P ::
  qp26_303 P ::
  o304 P ::
  o305 P ::
  o15 P ::
  qpre_12 P ::
  o308 P ::
  o15 P ::
  qp26_310 P ::
  o311 P ::
  o312 P ::
  o15 P ::
  qpre_12 P ::
  o315 P ::
  o15 P ::
  qp26_317 P ::
  o318 P ::
  o319 P ::
  o15 P ::
  qpre_12 P ::
  qp26_322 P ::
  o323 P ::
  o324 P :: []⟩, {}⟩
abbrev rp : Program := PySem.Challenge.rw_nz0470_01.row.prog
noncomputable def tEnv : Env := { scope := rp.main.scope, locals := mainNs, globals := mainNs, cells := [], code := .ref 13, frame := some 14 }
noncomputable def tB : List Stmt := behindTheImports rp
noncomputable def tC : Code := .body tB tEnv
abbrev tA : Option Value := some (.ref 6)
abbrev tQ : Pos := ⟨0, 0, 0, 0⟩
noncomputable def tL0 : List Stmt := tB.take 9
noncomputable def tR0 : List Stmt := tB.drop 9
noncomputable def tL1 : List Stmt := tR0.take 5
noncomputable def tR1 : List Stmt := tR0.drop 5
noncomputable def tL2 : List Stmt := tR1.take 5
noncomputable def tR2 : List Stmt := tR1.drop 5
noncomputable def tL3 : List Stmt := tR2.take 8
noncomputable def tR3 : List Stmt := tR2.drop 8
set_option maxRecDepth 100000 in
set_option maxHeartbeats 8000000 in
theorem t_pre (w : World) : (fun os => topGo treeTable rp w 11 tA 12 ⟨boot_heap w.params, #[], boot_drawn, boot_toks, os⟩ (topStub rp)) = fun os => some ((T_pre w os).abs, ⟨denote treeTable tC, tC, ⟨0, 0, 0, 0⟩, [topFrame tQ]⟩) := by
  kernel_rfl
set_option maxRecDepth 100000 in
set_option maxHeartbeats 8000000 in
theorem t_block (w : World) : (fun os => segRunT treeTable rp w 11 tA 1 1 (T_pre w os) (blockOf tB tEnv tC ⟨0, 0, 0, 0⟩ [topFrame tQ])) = fun os => some (.next, T_pre w os, tC, ⟨0, 0, 0, 0⟩) := by
  kernel_rfl
set_option maxRecDepth 100000 in
set_option maxHeartbeats 8000000 in
theorem t_run0 (w : World) : (fun os => segRunT treeTable rp w 11 tA 1 214 (T_pre w os) (piecesOf tL0 tEnv tC ⟨0, 0, 0, 0⟩ [topFrame tQ])) = fun os => some (.next, T_p8 w os, tC, ⟨57, 0, 57, 8⟩) := by
  kernel_rfl
set_option maxRecDepth 100000 in
set_option maxHeartbeats 8000000 in
theorem t_run1 (w : World) : (fun os => segRunT treeTable rp w 11 tA 1 1158 (T_p8 w os) (piecesOf tL1 tEnv tC ⟨57, 0, 57, 8⟩ [topFrame tQ])) = fun os => some (.next, T_p13 w os, tC, ⟨85, 0, 92, 24⟩) := by
  kernel_rfl
set_option maxRecDepth 100000 in
set_option maxHeartbeats 8000000 in
theorem t_run2 (w : World) : (fun os => segRunT treeTable rp w 11 tA 1 1139 (T_p13 w os) (piecesOf tL2 tEnv tC ⟨85, 0, 92, 24⟩ [topFrame tQ])) = fun os => some (.next, T_p18 w os, tC, ⟨126, 0, 132, 25⟩) := by
  kernel_rfl
set_option maxRecDepth 100000 in
set_option maxHeartbeats 8000000 in
theorem t_run3 (w : World) : (fun os => segRunT treeTable rp w 11 tA 1 230 (T_p18 w os) (piecesOf tL3 tEnv tC ⟨126, 0, 132, 25⟩ [topFrame tQ])) = fun os => some (.next, T_p26 w os, tC, ⟨207, 0, 237, 86⟩) := by
  kernel_rfl
set_option maxRecDepth 100000 in
set_option maxHeartbeats 8000000 in
theorem t_fin (w : World) : (fun os => topRun treeTable rp w 11 tA 2 (T_p26 w os).abs ⟨doneF .next, tC, ⟨207, 0, 237, 86⟩, [topFrame tQ]⟩) = fun os => some ⟨hF w.params, #[], boot_drawn, 646, os⟩ := by
  kernel_rfl
theorem t_run (w : World) (os : OsState) : topRun treeTable rp w 11 tA (12 + (1 + (214 + (1158 + (1139 + (230 + (2))))))) ⟨boot_heap w.params, #[], boot_drawn, boot_toks, os⟩ (topStub rp) = some ⟨hF w.params, #[], boot_drawn, 646, os⟩ := by
  have e3 : tR3 = [] := by kernel_rfl
  have k4 := piece_nil (env := tEnv) (congrFun (t_fin w) os)
  rw [← e3] at k4
  have k3 := piece_app (segRun_of (congrFun (t_run3 w) os)) k4
  rw [show tL3 ++ tR3 = tR2 from List.take_append_drop _ _] at k3
  have k2 := piece_app (segRun_of (congrFun (t_run2 w) os)) k3
  rw [show tL2 ++ tR2 = tR1 from List.take_append_drop _ _] at k2
  have k1 := piece_app (segRun_of (congrFun (t_run1 w) os)) k2
  rw [show tL1 ++ tR1 = tR0 from List.take_append_drop _ _] at k1
  have k0 := piece_app (segRun_of (congrFun (t_run0 w) os)) k1
  rw [show tL0 ++ tR0 = tB from List.take_append_drop _ _] at k0
  exact go_top (congrFun (t_pre w) os) (piece_block (segRun_of (congrFun (t_block w) os)) k0)
set_option maxRecDepth 100000 in
set_option maxHeartbeats 8000000 in
theorem t_looks (w : World) : (fun os => ((staticsOk (importedModules rp.main.body) (boot_heap w.params) (hF w.params) && namesBound rp (hF w.params) && gensDone ⟨hF w.params, #[], boot_drawn, 646, os⟩ && laidKept (boot_heap w.params) (hF w.params)), openSeen VW [Str.ofString "number"] (importedModules rp.main.body) (fun s => xlAt VW [] s && recOk (RowW.records PySem.Challenge.rw_nz0470_01.row.toRowW) s) true ⟨hF w.params, #[], boot_drawn, 646, os⟩, (Hook.obs HK) ⟨hF w.params, #[], boot_drawn, 646, os⟩)) = fun _ => (true, openGood VW [Str.ofString "number"], (Hook.val HK) w) := by
  kernel_rfl
set_option maxRecDepth 100000 in
set_option maxHeartbeats 8000000 in
theorem t_size (w : World) : ((boot_heap w.params).isNs mainGlobals && (#[] : Array GenState).size == 0, (boot_heap w.params).objs.size, (boot_heap w.params).nsMap mainGlobals "__annotations__") = (true, 11, tA) := by
  kernel_rfl
set_option maxRecDepth 100000 in
set_option maxHeartbeats 8000000 in
theorem hlOk : LeftO rp VW [Str.ofString "number"] (fun s => xlAt VW [] s && recOk (RowW.records PySem.Challenge.rw_nz0470_01.row.toRowW) s) (Hook.obs HK) (Hook.val HK) 5600 :=
  LeftO.of_pieces (boot_open rfl (by decide) fun _ => rfl) t_size t_run (by decide) t_looks
theorem fill : (∀ P, KF P = KF P) ∧ PySem.Challenge.rw_nz0470_01 = PySem.Challenge.rw_nz0470_01 := by
  k_fill
  exact ⟨fun _ => rfl, rfl⟩
abbrev Led := List (Addr × Obj)
noncomputable abbrev Lo : List Str := looseW VW [Str.ofString "number"]
def PObj (pl fg : Nat) (fo o : Obj) : Prop :=
  ∃ (i mix : Int) (ti tm : Tok) (n : Nat) (fv : List Value) (figs : List Int) (nf : Nat), o = listOf #[.ref fg, .int i ti, .int mix tm] n ∧ fo = listOf fv.toArray nf ∧ IntsAre fv figs ∧
    0 ≤ i ∧ i ≤ figs.length ∧ figs.length ≤ 1000 ∧ 0 ≤ mix ∧ mix < 1009 ∧ pl ≠ fg
theorem lnM0a : True := by
  k_with "t k_all" => (assumption)
  trivial
set_option maxRecDepth 100000 in
set_option maxHeartbeats 8000000 in
theorem pick_call {w : World} {mean : ExcName → Option Value} {mg mb : Str → Option Value} {dp un : Nat} {gd : Option (List Code)} {cn : Str} {cs : Scope} {a : Addr} {ccd : Value} {cl : List (Str × Addr)} {outer : List Env} {A₀ : Around} {base h₀ : Heap} {L : Addr} {m : Str → Option Value} {s : Shared} {Q E : Value → Shared → Prop}
    {pl fg : Nat} {fo o : Obj} {news : Led} {g : Obj → Led} {b : Int} {tb : Tok}
    (B : Below A₀ base outer h₀) (F : Fr h₀ L s.heap m) (X : (KF w.params).In h₀) (N : News h₀ L s.heap news) (T : Top VW Lo mean mg mb h₀) (hk : cs.kind = .function) (hdp : dp + 3 < 1000)
    (hP : PObj pl fg fo o) (hfg : (fg, fo) ∈ news) (U : UpdF pl o news g) (hb : 0 < b) (hb' : b < 100)
    (ret : ∀ (k : Int) t o' h' tk', 0 ≤ k → k < b → PObj pl fg fo o' → Fr h₀ L h' m → News h₀ L h' (g o') → Q (.int k t) { s with heap := h', toks := tk' }) :
    wpAny (model PySem.Challenge.rw_nz0470_01.row.prog w) (ktrTop dp un gd cn cs L a ccd cl outer) (call (.ref 312) [.ref pl, .int b tb]) Q E s := by
  obtain ⟨pre, post, rfl, hg, hpre, hpost⟩ := U.split
  obtain ⟨i, mix, ti, tm, n, fv, figs, nf, rfl, rfl, hi, h0, h1, h2, h3, h4, hne⟩ := hP
  have hR : ∀ p ∈ pre ++ post, p.1 ≠ pl := fun p hp => (List.mem_append.mp hp).elim (hpre p) (hpost p)
  generalize hRe : pre ++ post = R at hR
  have N0 : News h₀ L s.heap ((pl, listOf #[.ref fg, .int i ti, .int mix tm] n) :: (fg, listOf fv.toArray nf) :: R) := by
    subst hRe
    intro p hp
    rcases List.mem_cons.mp hp with rfl | hp
    · exact N _ (List.mem_append_right _ (.head _))
    · rcases List.mem_cons.mp hp with rfl | hp
      · exact N _ hfg
      · exact N _ ((List.mem_append.mp hp).elim (fun h => List.mem_append_left _ h) fun h => List.mem_append_right _ (.tail _ h))
  have fin : ∀ {k : Int} {t} {i' : Int} {ti'} {mix' : Int} {tm' h' tk'}, Fr h₀ L h' m →
      News h₀ L h' ((pl, listOf #[.ref fg, .int i' ti', .int mix' tm'] n) :: (fg, listOf fv.toArray nf) :: R) → 0 ≤ k → k < b → 0 ≤ i' → i' ≤ figs.length → 0 ≤ mix' → mix' < 1009 → Q (.int k t) { s with heap := h', toks := tk' } := by
    intro k t i' ti' mix' tm' h' tk' F' N' k0 k1 i0 i1 m0 m1
    refine ret k t _ h' tk' k0 k1 ⟨i', mix', ti', tm', n, fv, figs, nf, rfl, rfl, hi, i0, i1, h2, m0, m1, hne⟩ F' ?_
    rw [hg]
    subst hRe
    intro p hp
    rcases List.mem_append.mp hp with hp | hp
    · exact N' p (.tail _ (.tail _ (List.mem_append_left _ hp)))
    · rcases List.mem_cons.mp hp with rfl | hp
      · exact N' _ (.head _)
      · exact N' p (.tail _ (.tail _ (List.mem_append_right _ hp)))
  clear ret N hg hfg hpre hpost U hRe
  have hkf : ∀ x : Int, 0 ≤ x.fmod b ∧ x.fmod b < b := fun x => ⟨Int.fmod_nonneg_of_pos x hb, Int.fmod_lt_of_pos x hb⟩
  refine wpAny_call ?_
  k_dflt ktr_enter
  k_steps
  all_goals exact fin (by k_asm) (by k_asm) (hkf _).1 (hkf _).2 (by omega) (by omega) (by first | omega | exact Int.fmod_nonneg_of_pos _ (by decide)) (by first | omega | exact Int.fmod_lt_of_pos _ (by decide))
theorem lnMD : True := by
  k_with_none
  trivial
/-! the shapes of the values that the law builds -/
def mkEs (hs : Nat → Int × Tok) : Nat → List (Str × Value) → List DictEntry
  | _, [] => []
  | i, (k, v) :: r => ⟨(hs i).1, .str k (hs i).2, v⟩ :: mkEs hs (i + 1) r
def Inst (Z : Led) (x C : Nat) (fs : List (Str × Value)) : Prop :=
  ∃ (dx : Nat) (hs : Nat → Int × Tok) (n : Nat), (x, instObj C dx) ∈ Z ∧ (dx, dictOf (mkEs hs 0 fs) n) ∈ Z
def Lst (Z : Led) (l : Nat) (vs : List Value) : Prop := ∃ n, (l, listOf vs.toArray n) ∈ Z
def Tup (Z : Led) (t : Nat) (vs : List Value) : Prop := ∃ n, (t, ({ cls := .type "tuple", data := .seq vs.toArray n } : Obj)) ∈ Z
def Dct (w : World) (Z : Led) (d : Nat) (kvs : List (Str × Value)) : Prop :=
  ∃ o : Obj, (d, o) ∈ Z ∧ (d == sysModules) = false ∧ o.IsDictOf (PySem.strKind PySem.Challenge.rw_nz0470_01.row.prog w) kvs
inductive Shape (w : World) (Z : Led) : Nat → Str → List Value → List Value → Prop
  | null {x t} : Inst Z x 72 [("kind", .str "NULL" t), ("attrs", .none)] → Shape w Z x "NULL" [] []
  | missing {x t} : Inst Z x 93 [("kind", .str "missing" t), ("attrs", .none)] → Shape w Z x "missing" [] []
  | symbol {x t v} : Inst Z x 143 [("kind", .str "symbol" t), ("name", v), ("attrs", .none)] → Shape w Z x "symbol" [] []
  | double {x t v} : Inst Z x 122 [("kind", .str "double" t), ("items", v), ("attrs", .none), ("shared", .bool false), ("loose", .bool false)] → Shape w Z x "double" [] []
  | list {x t l v1 v2} : Inst Z x 122 [("kind", .str "list" t), ("items", .ref l), ("attrs", .none), ("shared", .bool false), ("loose", .bool false)] → Lst Z l [v1, v2] → Shape w Z x "list" [v1, v2] []
  | expression {x t l v1 v2} : Inst Z x 122 [("kind", .str "expression" t), ("items", .ref l), ("attrs", .none), ("shared", .bool false), ("loose", .bool false)] → Lst Z l [v1, v2] → Shape w Z x "expression" [v1, v2] []
  | pairlist {x t l v1 v2} : Inst Z x 122 [("kind", .str "pairlist" t), ("items", .ref l), ("attrs", .none), ("shared", .bool false), ("loose", .bool false)] → Lst Z l [v1, v2] → Shape w Z x "pairlist" [v1, v2] []
  | integer {x t v d v1 v2} : Inst Z x 122 [("kind", .str "integer" t), ("items", v), ("attrs", .ref d), ("shared", .bool false), ("loose", .bool false)] → Dct w Z d [("names", v1), ("home", v2)] → Shape w Z x "integer" [] [v1, v2]
  | call {x t l v v1 v2} : Inst Z x 165 [("kind", .str "language" t), ("items", .ref l), ("tags", v), ("attrs", .none), ("code", .none)] → Lst Z l [v1, v2] → Shape w Z x "language" [v1, v2] []
  | callA {x t l v d v1 v2} : Inst Z x 165 [("kind", .str "language" t), ("items", .ref l), ("tags", v), ("attrs", .ref d), ("code", .none)] → Lst Z l [v2] → Dct w Z d [(".Environment", v1)] → Shape w Z x "language" [v2] [v1]
  | closure {x t l t1 t2 s1 s2 v1 v2 b e} : Inst Z x 187 [("kind", .str "closure" t), ("formals", .ref l), ("body", .ref b), ("env", .ref e), ("attrs", .none)] → Lst Z l [.ref t1, .ref t2] → Tup Z t1 [s1, v1] → Tup Z t2 [s2, v2] → Shape w Z x "closure" [v1, v2, .ref b, .ref e] []
  | promise0 {x t v e u t'} : Inst Z x 230 [("kind", .str "promise" t), ("expr", v), ("env", .ref e), ("value", u), ("state", .int 0 t'), ("attrs", .none)] → Shape w Z x "promise" [.ref e] []
  | promise1 {x t v e u t'} : Inst Z x 230 [("kind", .str "promise" t), ("expr", v), ("env", .ref e), ("value", u), ("state", .int 1 t'), ("attrs", .none)] → Shape w Z x "promise" [.ref e] []
  | promise2 {x t v e u t'} : Inst Z x 230 [("kind", .str "promise" t), ("expr", v), ("env", e), ("value", .ref u), ("state", .int 2 t'), ("attrs", .none)] → Shape w Z x "promise" [.ref u] []
  | dots {x t l t1 t2 s1 s2 v1 v2} : Inst Z x 251 [("kind", .str "dots" t), ("args", .ref l), ("attrs", .none)] → Lst Z l [.ref t1, .ref t2] → Tup Z t1 [s1, v1] → Tup Z t2 [s2, v2] → Shape w Z x "dots" [v1, v2] []
  | s4 {x t v d v1} : Inst Z x 272 [("kind", .str "S4" t), ("name", v), ("slots", .ref d), ("attrs", .none)] → Dct w Z d [("s", v1)] → Shape w Z x "S4" [v1] []
inductive Val (w : World) (xs : List Nat) (Z : Led) : Value → List Nat → Nat → Prop
  | env {i x : Nat} : xs[i]? = some x → Val w xs Z (.ref x) [i] 1
  | node {x : Nat} {kd : Str} {vs1 vs2 : List Value} {l : List Nat} (its : List (Value × List Nat × Nat)) : Shape w Z x kd vs1 vs2 → vs1 ++ vs2 = its.map (·.1) → (∀ t ∈ its, Val w xs Z t.1 t.2.1 t.2.2) →
      (∀ i, i ∈ l ↔ ∃ t ∈ its, i ∈ t.2.1) → Val w xs Z (.ref x) l (1 + (its.map (·.2.2)).sum)
theorem Inst.mono {Z Z' : Led} {x C : Nat} {fs} (h : Inst Z x C fs) (hs : ∀ p ∈ Z, p ∈ Z') : Inst Z' x C fs := let ⟨a, b, c, d, e⟩ := h; ⟨a, b, c, hs _ d, hs _ e⟩
theorem Lst.mono {Z Z' : Led} {x : Nat} {fs} (h : Lst Z x fs) (hs : ∀ p ∈ Z, p ∈ Z') : Lst Z' x fs := let ⟨a, b⟩ := h; ⟨a, hs _ b⟩
theorem Tup.mono {Z Z' : Led} {x : Nat} {fs} (h : Tup Z x fs) (hs : ∀ p ∈ Z, p ∈ Z') : Tup Z' x fs := let ⟨a, b⟩ := h; ⟨a, hs _ b⟩
theorem Dct.mono {w : World} {Z Z' : Led} {x : Nat} {fs} (h : Dct w Z x fs) (hs : ∀ p ∈ Z, p ∈ Z') : Dct w Z' x fs := let ⟨a, b, c⟩ := h; ⟨a, hs _ b, c⟩
theorem Shape.mono {w : World} {Z Z' : Led} {x : Nat} {kd vs1 vs2} (h : Shape w Z x kd vs1 vs2) (hs : ∀ p ∈ Z, p ∈ Z') : Shape w Z' x kd vs1 vs2 := by
  cases h with
  | null a => exact .null (a.mono hs)
  | missing a => exact .missing (a.mono hs)
  | symbol a => exact .symbol (a.mono hs)
  | double a => exact .double (a.mono hs)
  | list a b => exact .list (a.mono hs) (b.mono hs)
  | expression a b => exact .expression (a.mono hs) (b.mono hs)
  | pairlist a b => exact .pairlist (a.mono hs) (b.mono hs)
  | integer a b => exact .integer (a.mono hs) (b.mono hs)
  | call a b => exact .call (a.mono hs) (b.mono hs)
  | callA a b c => exact .callA (a.mono hs) (b.mono hs) (c.mono hs)
  | closure a b c d => exact .closure (a.mono hs) (b.mono hs) (c.mono hs) (d.mono hs)
  | promise0 a => exact .promise0 (a.mono hs)
  | promise1 a => exact .promise1 (a.mono hs)
  | promise2 a => exact .promise2 (a.mono hs)
  | dots a b c d => exact .dots (a.mono hs) (b.mono hs) (c.mono hs) (d.mono hs)
  | s4 a b => exact .s4 (a.mono hs) (b.mono hs)
theorem Val.mono {w : World} {xs : List Nat} {Z Z' : Led} {v l n} (h : Val w xs Z v l n) (hs : ∀ p ∈ Z, p ∈ Z') : Val w xs Z' v l n := by
  induction h with
  | env h => exact .env h
  | node its a b _ d ih => exact .node its (a.mono hs) b ih d
/-! instances out of the ledger -/
section
variable {Z : Led} {x C d n : Nat} {k0 k1 k2 k3 k4 k5 k6 : Str} {h0 h1 h2 h3 h4 h5 h6 : Int} {t0 t1 t2 t3 t4 t5 t6 : Tok} {v0 v1 v2 v3 v4 v5 v6 : Value}
theorem inst2 (a : (x, instObj C d) ∈ Z) (b : (d, dictOf [⟨h0, .str k0 t0, v0⟩, ⟨h1, .str k1 t1, v1⟩] n) ∈ Z) : Inst Z x C [(k0, v0), (k1, v1)] := ⟨d, fun i => [(h0, t0), (h1, t1)].getD i (0, 0), n, a, b⟩
theorem inst3 (a : (x, instObj C d) ∈ Z) (b : (d, dictOf [⟨h0, .str k0 t0, v0⟩, ⟨h1, .str k1 t1, v1⟩, ⟨h2, .str k2 t2, v2⟩] n) ∈ Z) : Inst Z x C [(k0, v0), (k1, v1), (k2, v2)] := ⟨d, fun i => [(h0, t0), (h1, t1), (h2, t2)].getD i (0, 0), n, a, b⟩
theorem inst4 (a : (x, instObj C d) ∈ Z) (b : (d, dictOf [⟨h0, .str k0 t0, v0⟩, ⟨h1, .str k1 t1, v1⟩, ⟨h2, .str k2 t2, v2⟩, ⟨h3, .str k3 t3, v3⟩] n) ∈ Z) : Inst Z x C [(k0, v0), (k1, v1), (k2, v2), (k3, v3)] := ⟨d, fun i => [(h0, t0), (h1, t1), (h2, t2), (h3, t3)].getD i (0, 0), n, a, b⟩
theorem inst5 (a : (x, instObj C d) ∈ Z) (b : (d, dictOf [⟨h0, .str k0 t0, v0⟩, ⟨h1, .str k1 t1, v1⟩, ⟨h2, .str k2 t2, v2⟩, ⟨h3, .str k3 t3, v3⟩, ⟨h4, .str k4 t4, v4⟩] n) ∈ Z) : Inst Z x C [(k0, v0), (k1, v1), (k2, v2), (k3, v3), (k4, v4)] := ⟨d, fun i => [(h0, t0), (h1, t1), (h2, t2), (h3, t3), (h4, t4)].getD i (0, 0), n, a, b⟩
theorem inst6 (a : (x, instObj C d) ∈ Z) (b : (d, dictOf [⟨h0, .str k0 t0, v0⟩, ⟨h1, .str k1 t1, v1⟩, ⟨h2, .str k2 t2, v2⟩, ⟨h3, .str k3 t3, v3⟩, ⟨h4, .str k4 t4, v4⟩, ⟨h5, .str k5 t5, v5⟩] n) ∈ Z) : Inst Z x C [(k0, v0), (k1, v1), (k2, v2), (k3, v3), (k4, v4), (k5, v5)] := ⟨d, fun i => [(h0, t0), (h1, t1), (h2, t2), (h3, t3), (h4, t4), (h5, t5)].getD i (0, 0), n, a, b⟩
end
/-- what is new lies above what stood -/
def Abv (pl fg hl : Nat) (R tl : Led) : Prop := ∀ p ∈ tl, @LT.lt Nat _ pl p.1 ∧ @LT.lt Nat _ fg p.1 ∧ @LT.lt Nat _ hl p.1 ∧ ∀ q ∈ R, @LT.lt Nat _ q.1 p.1
inductive Led3 (pl fg hl : Nat) (a b c : Obj) (R : Led) : Led → Led → Prop
  | base0 : Led3 pl fg hl a b c R ((pl, a) :: (fg, b) :: (hl, c) :: R) []
  | base1 {T1 : Led} : Abv pl fg hl R T1 → Led3 pl fg hl a b c R ((pl, a) :: (fg, b) :: (hl, c) :: (T1 ++ R)) T1
  | base2 {T1 T2 : Led} : Abv pl fg hl R T1 → Abv pl fg hl (T1 ++ R) T2 → Led3 pl fg hl a b c R ((pl, a) :: (fg, b) :: (hl, c) :: (T2 ++ (T1 ++ R))) (T2 ++ T1)
  | step {x : Nat} {o : Obj} {l tl : Led} : pl < x → fg < x → hl < x → AllLt x R → Led3 pl fg hl a b c R l tl → Led3 pl fg hl a b c R ((x, o) :: l) ((x, o) :: tl)
theorem Led3.mem {pl fg hl : Nat} {a b c : Obj} {R l tl : Led} (h : Led3 pl fg hl a b c R l tl) : ∀ p ∈ (pl, a) :: (fg, b) :: (hl, c) :: (tl ++ R), p ∈ l := by
  induction h with
  | base0 => intro p hp; simpa using hp
  | base1 _ => intro p hp; exact hp
  | base2 _ _ => intro p hp; simpa [List.append_assoc] using hp
  | @step x o l tl h1 h2 h3 h4 _ ih =>
    intro p hp
    simp only [List.cons_append, List.mem_cons] at hp ih ⊢
    rcases hp with h | h | h | h | h
    · exact .inr (ih p (.inl h))
    · exact .inr (ih p (.inr (.inl h)))
    · exact .inr (ih p (.inr (.inr (.inl h))))
    · exact .inl h
    · exact .inr (ih p (.inr (.inr (.inr h))))
theorem allLt_mem {d : Nat} : ∀ {l : Led}, AllLt d l → ∀ p ∈ l, @LT.lt Nat _ p.1 d
  | [], _, _, hp => nomatch hp
  | q :: r, h, p, hp => by
    rcases List.mem_cons.mp hp with rfl | hp
    · exact h.1
    · exact allLt_mem h.2 p hp
theorem allLt_r {d : Nat} {l r : Led} (h : AllLt d (l ++ r)) : AllLt d r := allLt_of fun p hp => allLt_mem h p (List.mem_append_right _ hp)
theorem Led3.abv {pl fg hl : Nat} {a b c : Obj} {R l tl : Led} (h : Led3 pl fg hl a b c R l tl) : Abv pl fg hl R tl := by
  induction h with
  | base0 => intro p hp; exact nomatch hp
  | base1 h => exact h
  | base2 h h2 =>
    intro p hp
    rcases List.mem_append.mp hp with hp | hp
    · obtain ⟨a, b, c, d⟩ := h2 p hp
      exact ⟨a, b, c, fun q hq => d q (List.mem_append_right _ hq)⟩
    · exact h p hp
  | @step x o l tl h1 h2 h3 h4 _ ih =>
    intro p hp
    rcases List.mem_cons.mp hp with rfl | hp
    · exact ⟨h1, h2, h3, allLt_mem h4⟩
    · exact ih p hp
theorem Abv.ne {pl fg hl : Nat} {R tl : Led} (h : Abv pl fg hl R tl) (hR : ∀ p ∈ R, p.1 ≠ pl) : ∀ p ∈ tl ++ R, p.1 ≠ pl := fun p hp => by
  rcases List.mem_append.mp hp with hp | hp
  · exact fun e => absurd (h p hp).1 (by rw [e]; exact Nat.lt_irrefl _)
  · exact hR p hp
def BB : Nat → Nat
  | 0 => 2
  | d + 1 => 2 * BB d
/-- the contract of _law_value, with d levels left -/
def ValueOk (w : World) (mean : ExcName → Option Value) (mg mb : Str → Option Value) (d : Nat) : Prop :=
  ∀ (dp un : Nat) (gd : Option (List Code)) (cn : Str) (cs : Scope) (a : Addr) (ccd : Value) (cl : List (Str × Addr)) (outer : List Env) (A₀ : Around) (base h₀ : Heap) (L : Addr) (m : Str → Option Value) (s : Shared) (Q E : Value → Shared → Prop)
    (pl fg hl : Nat) (fo o : Obj) (xs : List Nat) (nh : Nat) (R : Led) (deep : Int) (td : Tok),
    Below A₀ base outer h₀ → Fr h₀ L s.heap m → (KF w.params).In h₀ → News h₀ L s.heap ((pl, o) :: (fg, fo) :: (hl, listOf (xs.map Value.ref).toArray nh) :: R) → Top VW Lo mean mg mb h₀ → cs.kind = .function →
    dp + 10 + 2 * d < 900 → un + 200 + 40 * d < 9000 → PObj pl fg fo o → pl ≠ hl → fg ≠ hl → (∀ p ∈ R, p.1 ≠ pl) → 0 < xs.length → xs.length ≤ 6 → deep + d = 3 →
    (∀ (tp sp v : Nat) (svs : List Value) (np ns : Nat) (ls : List Nat) (k : Nat) (tl : Led) (o' : Obj) (h' : Heap) (tk' : Nat), Fr h₀ L h' m → News h₀ L h' ((pl, o') :: (fg, fo) :: (hl, listOf (xs.map Value.ref).toArray nh) :: (tl ++ R)) → PObj pl fg fo o' →
      (∀ p ∈ tl ++ R, p.1 ≠ pl) → Abv pl fg hl R tl → (tp, ({ cls := .type "tuple", data := .seq #[.ref v, .ref sp] np } : Obj)) ∈ tl → (sp, listOf svs.toArray ns) ∈ tl → IntsAre svs (ls.map fun i : Nat => (i : Int)) → Val w xs tl (.ref v) ls k →
      ls.length + 1 ≤ BB d ∧ k + 3 ≤ 2 * BB d → (∀ i ∈ ls, i < xs.length) → Q (.ref tp) { s with heap := h', toks := tk' }) →
    wpAny (model PySem.Challenge.rw_nz0470_01.row.prog w) (ktrTop dp un gd cn cs L a ccd cl outer) (call (.ref 319) [.ref pl, .ref hl, .int deep td]) Q E s
theorem ints_spot {k : Int} {t : Tok} (h : 0 ≤ k) : IntsAre [.int k t] ([k.toNat].map fun i : Nat => (i : Int)) := by
  have e : ((k.toNat : Nat) : Int) = k := by omega
  show IntsAre [.int k t] [((k.toNat : Nat) : Int)]
  rw [e]
  exact .cons _ _ .nil
theorem spot_lt {xs : List Nat} {k x : Nat} (h : xs[k]? = some x) : ∀ i ∈ [k], i < xs.length := fun i hi => by
  rw [List.mem_singleton.mp hi]
  exact (List.getElem?_eq_some_iff.mp h).1
theorem value_use {w : World} {mean : ExcName → Option Value} {mg mb : Str → Option Value} {d : Nat} {dp un : Nat} {gd : Option (List Code)} {cn : Str} {cs : Scope} {a : Addr} {ccd : Value} {cl : List (Str × Addr)} {outer : List Env} {A₀ : Around} {base h₀ : Heap} {L : Addr} {m : Str → Option Value} {s : Shared} {Q E : Value → Shared → Prop}
    {pl fg hl : Nat} {fo o : Obj} {xs : List Nat} {nh : Nat} {R : Led} {deep : Int} {td : Tok}
    (B : Below A₀ base outer h₀) (F : Fr h₀ L s.heap m) (X : (KF w.params).In h₀) (N : News h₀ L s.heap ((pl, o) :: (fg, fo) :: (hl, listOf (xs.map Value.ref).toArray nh) :: R)) (T : Top VW Lo mean mg mb h₀) (hk : cs.kind = .function) (C : ValueOk w mean mg mb d)
    (hdp : dp + 10 + 2 * d < 900) (hun : un + 200 + 40 * d < 9000) (hP : PObj pl fg fo o) (h1 : pl ≠ hl) (h2 : fg ≠ hl) (hR : ∀ p ∈ R, p.1 ≠ pl) (hx0 : 0 < xs.length) (hx6 : xs.length ≤ 6) (hdeep : deep + d = 3)
    (ret : ∀ (tp sp v : Nat) (svs : List Value) (np ns : Nat) (ls : List Nat) (k : Nat) (tl : Led) (o' : Obj) (h' : Heap) (tk' : Nat), Fr h₀ L h' m → News h₀ L h' ((pl, o') :: (fg, fo) :: (hl, listOf (xs.map Value.ref).toArray nh) :: (tl ++ R)) → PObj pl fg fo o' →
      (∀ p ∈ tl ++ R, p.1 ≠ pl) → Abv pl fg hl R tl → (tp, ({ cls := .type "tuple", data := .seq #[.ref v, .ref sp] np } : Obj)) ∈ tl → (sp, listOf svs.toArray ns) ∈ tl → IntsAre svs (ls.map fun i : Nat => (i : Int)) → Val w xs tl (.ref v) ls k →
      ls.length + 1 ≤ BB d ∧ k + 3 ≤ 2 * BB d → (∀ i ∈ ls, i < xs.length) → Q (.ref tp) { s with heap := h', toks := tk' }) :
    wpAny (model PySem.Challenge.rw_nz0470_01.row.prog w) (ktrTop dp un gd cn cs L a ccd cl outer) (call (.ref 319) [.ref pl, .ref hl, .int deep td]) Q E s :=
  C _ _ _ _ _ _ _ _ _ _ _ _ _ _ _ _ _ _ _ _ _ _ _ _ _ _ _ B F X N T hk hdp hun hP h1 h2 hR hx0 hx6 hdeep ret
theorem ints_app {us : List Value} {a b : List Nat} (h : IntsAre us ((a.map fun i : Nat => (i : Int)) ++ b.map fun i : Nat => (i : Int))) : IntsAre us ((a ++ b).map fun i : Nat => (i : Int)) := by rw [List.map_append]; exact h
theorem lt_app {n : Nat} {a b : List Nat} (ha : ∀ i ∈ a, i < n) (hb : ∀ i ∈ b, i < n) : ∀ i ∈ a ++ b, i < n := fun i hi => (List.mem_append.mp hi).elim (ha i) (hb i)
/-! values built over parts -/
theorem Val.leaf {w : World} {xs : List Nat} {Z : Led} {x : Nat} {kd : Str} (h : Shape w Z x kd [] []) : Val w xs Z (.ref x) [] 1 := .node [] h rfl (fun _ h => nomatch h) (fun i => by simp)
theorem Val.mk1 {w : World} {xs : List Nat} {Z : Led} {x : Nat} {kd : Str} {vs1 vs2 : List Value} {a : Value} {la : List Nat} {na : Nat} (h : Shape w Z x kd vs1 vs2) (e : vs1 ++ vs2 = [a]) (ha : Val w xs Z a la na) : Val w xs Z (.ref x) la (1 + (na + 0)) :=
  .node [(a, la, na)] h e (fun t ht => by rw [List.mem_singleton.mp ht]; exact ha) (fun i => by simp)
theorem Val.mk2 {w : World} {xs : List Nat} {Z : Led} {x : Nat} {kd : Str} {vs1 vs2 : List Value} {a b : Value} {la lb : List Nat} {na nb : Nat} (h : Shape w Z x kd vs1 vs2) (e : vs1 ++ vs2 = [a, b]) (ha : Val w xs Z a la na) (hb : Val w xs Z b lb nb) :
    Val w xs Z (.ref x) (la ++ lb) (1 + (na + (nb + 0))) :=
  .node [(a, la, na), (b, lb, nb)] h e (fun t ht => by
    rcases List.mem_cons.mp ht with rfl | ht
    · exact ha
    · rw [List.mem_singleton.mp ht]; exact hb) (fun i => by simp)
theorem Val.mkc {w : World} {xs : List Nat} {Z : Led} {x : Nat} {kd : Str} {vs1 vs2 : List Value} {a b c d : Value} {la lc ld : List Nat} {na nb nc nd : Nat} (h : Shape w Z x kd vs1 vs2) (e : vs1 ++ vs2 = [a, b, c, d]) (ha : Val w xs Z a la na) (hb : Val w xs Z b [] nb) (hc : Val w xs Z c lc nc) (hd : Val w xs Z d ld nd) :
    Val w xs Z (.ref x) (la ++ lc ++ ld) (1 + (na + (nb + (nc + (nd + 0))))) :=
  .node [(a, la, na), (b, [], nb), (c, lc, nc), (d, ld, nd)] h e (fun t ht => by
    rcases List.mem_cons.mp ht with rfl | ht
    · exact ha
    rcases List.mem_cons.mp ht with rfl | ht
    · exact hb
    rcases List.mem_cons.mp ht with rfl | ht
    · exact hc
    · rw [List.mem_singleton.mp ht]; exact hd) (fun i => by simp)
theorem ints_app3 {us : List Value} {a b : List Nat} {k : Int} (h : IntsAre us (((a.map fun i : Nat => (i : Int)) ++ b.map fun i : Nat => (i : Int)) ++ [k])) (h0 : 0 ≤ k) : IntsAre us ((a ++ b ++ [k.toNat]).map fun i : Nat => (i : Int)) := by
  have e : ((k.toNat : Nat) : Int) = k := by omega
  simp only [List.map_append, List.map_cons, List.map_nil, e]
  exact h
theorem sub2 {a b : Addr × Obj} {l : Led} (ha : a ∈ l) (hb : b ∈ l) : ∀ p ∈ [a, b], p ∈ l := fun p hp => by
  rcases List.mem_cons.mp hp with rfl | hp
  · exact ha
  · rw [List.mem_singleton.mp hp]; exact hb
theorem isTup_in {h₀ h : Heap} {L t n : Nat} {its : Array Value} {news : Led} (N : News h₀ L h news) (hm : (t, ({ cls := .type "tuple", data := .seq its n } : Obj)) ∈ news) : IsTup h t its := ⟨_, (N _ hm).1, rfl, n, rfl⟩
section
variable {prog : Program} {w : World} {A : Around} {E : Value → Shared → Prop} {s : Shared} {h₀ : Heap} {L hl : Addr} {news : Led} {xs : List Nat} {nh : Nat}
theorem homes_len {Q : Value → Shared → Prop} (N : News h₀ L s.heap news) (hm : (hl, listOf (xs.map Value.ref).toArray nh) ∈ news) (hx : xs.length ≤ 6)
    (h : Q (.int (xs.length : Int) (s.toks + 1)) { s with toks := s.toks + 1 + 1 }) : wpAny (model prog w) A (call (.builtin "len") [.ref hl]) Q E s :=
  kst_len N hm (List.length_map ..) (by omega) h
theorem homes_item {value slice : PySem.Expr} {k : Int} {u : Tok} {Q : Value → Shared → Prop} (N : News h₀ L s.heap news) (hm : (hl, listOf (xs.map Value.ref).toArray nh) ∈ news) (hx : xs.length ≤ 6) (h0 : 0 ≤ k) (h1 : k < (xs.length : Int))
    (h : ∀ x : Nat, xs[k.toNat]? = some x → Q (.ref x) s)
    (hs : subscripted slice false (.ref hl) (.int k u) = operate [.ref hl, .int k u] (getItem (.ref hl) (.int k u)) := by with_unfolding_all rfl) :
    wpAny (model prog w) A (subscriptTail value slice (.ref hl) (.int k u)) Q E s := by
  have hl' : s.heap.IsList hl (xs.map Value.ref).toArray := ⟨_, (N _ hm).1, rfl, nh, rfl⟩
  have hk : k.toNat < xs.length := by omega
  have e : xs[k.toNat]? = some xs[k.toNat] := List.getElem?_eq_getElem hk
  refine tail_any hl'.typeIs slot_list_getitem.lookup (wpAny_getItem_list hl' h0 (by omega) (x := .ref xs[k.toNat]) ?_ (h _ e)) hs
  simp [e]
theorem item_at {l : Nat} {nn : Nat} {vs : List Value} {v : Value} {value slice : PySem.Expr} {k : Int} {u : Tok} {Q : Value → Shared → Prop} (N : News h₀ L s.heap news) (hm : (l, listOf vs.toArray nn) ∈ news) (h0 : 0 ≤ k) (h1 : k < 1000) (hx : vs[k.toNat]? = some v)
    (h : Q v s) (hs : subscripted slice false (.ref l) (.int k u) = operate [.ref l, .int k u] (getItem (.ref l) (.int k u)) := by with_unfolding_all rfl) :
    wpAny (model prog w) A (subscriptTail value slice (.ref l) (.int k u)) Q E s := by
  have hl' : s.heap.IsList l vs.toArray := ⟨_, (N _ hm).1, rfl, nn, rfl⟩
  exact tail_any hl'.typeIs slot_list_getitem.lookup (wpAny_getItem_list hl' h0 (by omega) (by simpa using hx) h) hs
end
theorem fillK : (∀ P, KF P = KF P) ∧ PySem.Challenge.rw_nz0470_01 = PySem.Challenge.rw_nz0470_01 := by
  k_fill
  exact ⟨fun _ => rfl, rfl⟩
/-- a call that makes one object of a class (and what need not be told) -/
def Mk (w : World) (mean : ExcName → Option Value) (mg mb : Str → Option Value) (f : Nat) (vs : List Value) (P : Nat → Nat → Obj → Obj → Prop) : Prop :=
  ∀ {dp un : Nat} {gd : Option (List Code)} {cn : Str} {cs : Scope} {a : Addr} {ccd : Value} {cl : List (Str × Addr)} {outer : List Env} {A₀ : Around} {base h₀ : Heap} {L : Addr} {m : Str → Option Value} {s : Shared} {Q E : Value → Shared → Prop} {news : Led},
    Below A₀ base outer h₀ → Fr h₀ L s.heap m → (KF w.params).In h₀ → News h₀ L s.heap news → Top VW Lo mean mg mb h₀ → cs.kind = .function → dp + 8 < 1000 → un + 60 < 9900 →
    (∀ (x dx : Nat) (ox od : Obj) (h' : Heap) (tk' : Nat), Fr h₀ L h' m → News h₀ L h' ((x, ox) :: (dx, od) :: news) → (∀ p ∈ news, p.1 < dx) → dx < x → P x dx ox od → Q (.ref x) { s with heap := h', toks := tk' }) →
    wpAny (model PySem.Challenge.rw_nz0470_01.row.prog w) (ktrTop dp un gd cn cs L a ccd cl outer) (call (.ref f) vs) Q E s
theorem lnMKa : True := by
  k_with "t k_all" => (assumption)
  k_with "t k_enter" => ((refine' code_def ?w3k1 ?w3k2 ?w3k3 ?w3k4 ?w3k5 ?w3kA ?w3kF ?w3kK ?w3k6 ?w3k7 ?w3k8 ?w3k9 ?w3kB ?_ ?w3c2 ?w3c3 ?w3c4 ?w3c5; (case w3kA => exact rfl); (case w3kF => exact rfl); (case w3kK => first | exact rfl | assumption); (case w3k1 => k_asm); (case w3k2 => k_asm); (case w3k3 => k_asm); (case w3k4 => k_asm); (case w3k5 => k_asm); (case w3k6 => k_is); (case w3k7 => k_is); (case w3k8 => ktr_room); (case w3k9 => first | exact BindsTo.of_eq rfl | exact binds_K (by k_in) rfl (by k_is) rfl rfl rfl); (case w3c5 => decide); (case w3kB => exact locs rfl); (case w3c2 => exact rfl); (case w3c3 => exact rfl); (case w3c4 => exact rfl); k_whole; intro g' L' h' FG' F' N' B' X' T'; (try dsimp only); (try k_fold)))
  k_with "t k_room" => (ktr_room)
  k_with "t k_units" => (ktr_units)
  k_with "m callWith ref" => ((k_here; k_dflt (first
    | (refine' callWith_K ?w6k1 ?w6k2 ?_; (case w6k1 => k_asm); (case w6k2 => k_is); k_whole)
    | (refine' callWith_K0 ?w6k1 ?w6k2 ?_; (case w6k1 => k_in); (case w6k2 => k_is); k_whole))))
  trivial
theorem mk_fin {h₀ : Heap} {L : Addr} {m : Str → Option Value} {s : Shared} {Q : Value → Shared → Prop} {news : Led} {P : Nat → Nat → Obj → Obj → Prop}
    (ret : ∀ (x dx : Nat) (ox od : Obj) (h' : Heap) (tk' : Nat), Fr h₀ L h' m → News h₀ L h' ((x, ox) :: (dx, od) :: news) → (∀ p ∈ news, p.1 < dx) → dx < x → P x dx ox od → Q (.ref x) { s with heap := h', toks := tk' })
    {x C d n : Nat} {es : List DictEntry} {h' : Heap} {tk' : Nat} {l : Led} (F : Fr h₀ L h' m) (N : News h₀ L h' l) (h1 : (x, instObj C d) ∈ l) (h2 : (d, dictOf es n) ∈ l) (h3 : ∀ p ∈ news, p ∈ l) (h4 : AllLt d news) (h5 : @LT.lt Nat _ d x) (h6 : P x d (instObj C d) (dictOf es n)) : Q (.ref x) { s with heap := h', toks := tk' } := by
  refine ret x d _ _ h' tk' F (fun p hp => ?_) (allLt_mem h4) h5 h6
  rcases List.mem_cons.mp hp with rfl | hp
  · exact N _ h1
  · rcases List.mem_cons.mp hp with rfl | hp
    · exact N _ h2
    · exact N _ (h3 p hp)
theorem lnMKb : True := by
  k_with "t tb_rel" => ((intro p hp; first | exact hp | (repeat' (first | exact hp | (refine List.Mem.tail _ ?_)))))
  k_with "t tb_start" => ((
    intro dp un gd cn cs a ccd cl outer A₀ base h₀ L m s Q E news B F X N T hk hdp hun ret
    k_steps
    refine mk_fin ret (by k_asm) (by k_asm) (by k_mem) (by k_mem) (by tb_rel) (by first | tbn_find | exact allLt_of (by assumption)) (by assumption) ?_))
  trivial
section
variable (w : World) (mean : ExcName → Option Value) (mg mb : Str → Option Value)
set_option maxRecDepth 100000 in
set_option maxHeartbeats 8000000 in
theorem mk_null : Mk w mean mg mb 283 [] (fun x dx ox od => Shape w [(x, ox), (dx, od)] x "NULL" [] []) := by
  tb_start
  exact .null (inst2 (by k_mem) (by k_mem))
set_option maxRecDepth 100000 in
set_option maxHeartbeats 8000000 in
theorem mk_missing : Mk w mean mg mb 290 [] (fun x dx ox od => Shape w [(x, ox), (dx, od)] x "missing" [] []) := by
  tb_start
  exact .missing (inst2 (by k_mem) (by k_mem))
set_option maxRecDepth 100000 in
set_option maxHeartbeats 8000000 in
theorem mk_symbol (n : Str) (t : Tok) : Mk w mean mg mb 143 [.str n t] (fun x dx ox od => Shape w [(x, ox), (dx, od)] x "symbol" [] []) := by
  tb_start
  exact .symbol (inst3 (by k_mem) (by k_mem))
set_option maxRecDepth 100000 in
set_option maxHeartbeats 8000000 in
theorem mk_number (t : Tok) : Mk w mean mg mb 298 [.int 1 t] (fun x dx ox od => Shape w [(x, ox), (dx, od)] x "double" [] []) := by
  tb_start
  exact .double (inst5 (by k_mem) (by k_mem))
set_option maxRecDepth 100000 in
set_option maxHeartbeats 8000000 in
theorem mk_vector (k : Str) (t : Tok) (v : Value) : Mk w mean mg mb 122 [.str k t, v] (fun x dx ox od => Inst [(x, ox), (dx, od)] x 122 [("kind", .str k t), ("items", v), ("attrs", .none), ("shared", .bool false), ("loose", .bool false)]) := by
  tb_start
  exact inst5 (by k_mem) (by k_mem)
set_option maxRecDepth 100000 in
set_option maxHeartbeats 8000000 in
theorem mk_vector3 (k : Str) (t : Tok) (v u : Value) : Mk w mean mg mb 122 [.str k t, v, u] (fun x dx ox od => Inst [(x, ox), (dx, od)] x 122 [("kind", .str k t), ("items", v), ("attrs", u), ("shared", .bool false), ("loose", .bool false)]) := by
  tb_start
  exact inst5 (by k_mem) (by k_mem)
set_option maxRecDepth 100000 in
set_option maxHeartbeats 8000000 in
theorem mk_call (v u : Value) : Mk w mean mg mb 165 [v, u] (fun x dx ox od => ∃ t, Inst [(x, ox), (dx, od)] x 165 [("kind", .str "language" t), ("items", v), ("tags", u), ("attrs", .none), ("code", .none)]) := by
  tb_start
  exact ⟨_, inst5 (by k_mem) (by k_mem)⟩
set_option maxRecDepth 100000 in
set_option maxHeartbeats 8000000 in
theorem mk_call3 (v u b : Value) : Mk w mean mg mb 165 [v, u, b] (fun x dx ox od => ∃ t, Inst [(x, ox), (dx, od)] x 165 [("kind", .str "language" t), ("items", v), ("tags", u), ("attrs", b), ("code", .none)]) := by
  tb_start
  exact ⟨_, inst5 (by k_mem) (by k_mem)⟩
set_option maxRecDepth 100000 in
set_option maxHeartbeats 8000000 in
theorem mk_closure (v u b : Value) : Mk w mean mg mb 187 [v, u, b] (fun x dx ox od => ∃ t, Inst [(x, ox), (dx, od)] x 187 [("kind", .str "closure" t), ("formals", v), ("body", u), ("env", b), ("attrs", .none)]) := by
  tb_start
  exact ⟨_, inst5 (by k_mem) (by k_mem)⟩
set_option maxRecDepth 100000 in
set_option maxHeartbeats 8000000 in
theorem mk_dots (v : Value) : Mk w mean mg mb 251 [v] (fun x dx ox od => ∃ t, Inst [(x, ox), (dx, od)] x 251 [("kind", .str "dots" t), ("args", v), ("attrs", .none)]) := by
  tb_start
  exact ⟨_, inst3 (by k_mem) (by k_mem)⟩
set_option maxRecDepth 100000 in
set_option maxHeartbeats 8000000 in
theorem mk_promise (v u : Value) : Mk w mean mg mb 230 [v, u] (fun x dx ox od => ox = instObj 230 dx ∧ ∃ (h0 h1 h2 h3 h4 h5 : Int) (t t0 t1 t2 t3 t4 t5 t6 : Tok), od = dictOf [⟨h0, .str "kind" t0, .str "promise" t⟩, ⟨h1, .str "expr" t1, v⟩, ⟨h2, .str "env" t2, u⟩, ⟨h3, .str "value" t3, .none⟩, ⟨h4, .str "state" t4, .int 0 t6⟩, ⟨h5, .str "attrs" t5, .none⟩] 6) := by
  tb_start
  exact ⟨rfl, _, _, _, _, _, _, _, _, _, _, _, _, _, _, rfl⟩
end
theorem lnM1 : True := by
  k_with_none
  trivial
section
variable {prog : Program} {w : World} {A : Around} {E : Value → Shared → Prop} {s : Shared} {h₀ : Heap} {L : Addr} {m : Str → Option Value} {news : Led}
theorem list_iadd_call {l b : Addr} {its its2 : Array Value} {n n2 : Nat} {Q : Value → Shared → Prop} (hl : s.heap.get? l = some (listOf its n)) (hb : s.heap.get? b = some (listOf its2 n2)) (hz : its.size + its2.size ≤ 100000)
    (h : Q (.ref l) { s with heap := s.heap.update l (Obj.mapSeq fun x => x ++ its2) }) : wpAny (model prog w) A (inplaceOp .Add (.ref l) (.ref b)) Q E s := by
  have hbig : sizeLine = 16777216 := sizeLine_eq
  have ha : s.TypeIs (.ref l) "list" := ⟨_, hl, rfl⟩
  have hbT : s.TypeIs (.ref b) "list" := ⟨_, hb, rfl⟩
  have hfi : fillsInplaceSlot (.type "list") "add" (Operator.Add == .Add) = pure false := by
    unfold fillsInplaceSlot
    show (typeLookup (.type "list") (dunderI "add") >>= fun fi => pure (fi.isSome && !isSeqSlot fi)) = (pure false : Sem Bool)
    rw [PySem.F.slot_list_iadd.lookup]
    show (pure (true && !isSeqSlot (some (.builtin "list.__iadd__"))) : Sem Bool) = _
    rw [show isSeqSlot (some (.builtin "list.__iadd__")) = true by decide +kernel]
    rfl
  unfold inplaceOp
  refine wpAny_holding ?_
  refine wpAny_bind (wpAny_typeOf ha (wpAny_bind (wpAny_of_eq hfi ?_)))
  show wpAny _ A (if false = true then _ else _) Q E s
  rw [if_neg Bool.false_ne_true]
  refine wpAny_bind (PySem.wpAny_binaryOp1_none (nm := "add") ha hbT noFill_list_add ?_)
  refine wpAny_bind (wpAny_of_eq (PySem.seqSlot_of PySem.F.slot_list_iadd.lookup (by decide +kernel)) ?_)
  refine wpAny_bind (wpAny_rule ?_)
  have hcall : wpAny (model prog w) A (call (.builtin "list.__iadd__") [.ref l, .ref b]) Q E s := by
    refine call_meets PySem.F.slot_list_iadd ha PySem.F.entry_list_iadd (PySem.F.args_list_iadd_2 _ _) (AutoSeq1.list___iadd___list_list_0 l its n b its2 n2 ?_ ?_ ?_) ⟨hl, hb, h⟩
    · simp only [Builtin.List.listTooLong]; simp; omega
    · omega
    · omega
  exact hcall
theorem iadd_lists {l b : Addr} {its its2 : Array Value} {n n2 : Nat} {g : Obj → Led} {Q : Value → Shared → Prop} (F : Fr h₀ L s.heap m) (N : News h₀ L s.heap news) (U : UpdF l (listOf its n) news g) (hb : (b, listOf its2 n2) ∈ news) (hz : its.size + its2.size ≤ 100000)
    (h : ∀ n' h', Fr h₀ L h' m → News h₀ L h' (g (listOf (its ++ its2) n')) → Q (.ref l) { s with heap := h' }) : wpAny (model prog w) A (inplaceOp .Add (.ref l) (.ref b)) Q E s := by
  obtain ⟨pre, post, rfl, hg, a, c⟩ := U.split
  have hm := N (l, listOf its n) (List.mem_append_right _ (.head _))
  refine list_iadd_call hm.1 (N _ hb).1 hz ?_
  refine h (if (its ++ its2).size == its.size then n else n + 1) _ (F.change (Heap.SameBut.update ..) hm.2.1 hm.2.2) ?_
  rw [hg]
  exact ki_turn _ N a c rfl rfl
end
/-! loops, by what holds of the frame and the ledger between the turns -/
section
variable {prog : Program} {w : World} {A : Around} {E : Value → Shared → Prop} {s : Shared} {env : Env} {h₀ : Heap} {x : Str} {body : List Stmt} {Q : Flow → Shared → Prop}
def IvEnd (h₀ : Heap) (L : Addr) (J : (Str → Option Value) → Led → Prop) (I : Nat) (oi : Obj) (s₁ s₂ : Shared) : Prop :=
  ∃ h' tk m' nx, s₂ = { s₁ with heap := h', toks := tk } ∧ Fr h₀ L h' m' ∧ News h₀ L h' ((I, oi) :: nx) ∧ (∀ p ∈ nx, p.1 ≠ I) ∧ J m' nx
def IvPost (h₀ : Heap) (L : Addr) (J : (Str → Option Value) → Led → Prop) (I : Nat) (oi : Obj) (s₁ : Shared) (Q : Flow → Shared → Prop) (f : Flow) (s₂ : Shared) : Prop :=
  match f with
  | .ret v => Q (.ret v) s₂
  | .brk => Q .next s₂
  | _ => IvEnd h₀ L J I oi s₁ s₂
theorem IvEnd.intro {L : Addr} {J : (Str → Option Value) → Led → Prop} {I : Nat} {oi : Obj} {s₁ : Shared} {h' : Heap} {tk : Nat} {m' : Str → Option Value} {nx : Led} (F : Fr h₀ L h' m') (N : News h₀ L h' ((I, oi) :: nx)) (hI : ∀ p ∈ nx, p.1 ≠ I) (hj : J m' nx) :
    IvEnd h₀ L J I oi s₁ { s₁ with heap := h', toks := tk } := ⟨h', tk, m', nx, rfl, F, N, hI, hj⟩
theorem iter_vals {l : Nat} {vs : List Value} {nn : Nat} {m₀ : Str → Option Value} {news : Led} (J : Nat → (Str → Option Value) → Led → Prop)
    (hh : A.handled = none) (hl : (l, listOf vs.toArray nn) ∈ news) (F : Fr h₀ env.locals s.heap m₀) (N : News h₀ env.locals s.heap news) (hj : J 0 m₀ news) (hk : ∀ i m nx, J i m nx → (l, listOf vs.toArray nn) ∈ nx)
    (turn : ∀ i v m₁ nx h tk (I : Nat) oi, vs[i]? = some v → J i m₁ nx → (∀ p ∈ nx, p.1 ≠ I) → Fr h₀ env.locals h (fun y => if y = x then some v else m₁ y) → News h₀ env.locals h ((I, oi) :: nx) →
      wpAny (model prog w) A (execs body env) (IvPost h₀ env.locals (J (i + 1)) I oi { s with heap := h, toks := tk } Q) E { s with heap := h, toks := tk })
    (done : ∀ m₁ nx h tk, J vs.length m₁ nx → Fr h₀ env.locals h m₁ → News h₀ env.locals h nx → Q .next { s with heap := h, toks := tk }) :
    wpAny (model prog w) A (pyIter (.ref l)) (fun it s₂ => LoopAtV prog w A h₀ env x body Q E it s₂) E s := by
  have hol : s.heap.get? l = some (listOf vs.toArray nn) := (N _ hl).1
  have hls : s.heap.IsList l vs.toArray := ⟨_, hol, rfl, nn, rfl⟩
  have hne : l ≠ s.heap.objs.size := Nat.ne_of_lt (Heap.lt_size hol)
  refine wpAny_pyIter_list hls ?_
  have W := Walks.list (prog := prog) (w := w) hh s.heap.objs.size l hne vs.toArray
  have hlen : vs.toArray.size = vs.length := by simp
  rw [hlen] at W
  refine ⟨_, _, _, vs.length, _, _, m₀, news, J, rfl, W, ?_, ?_, ?_, ⟨⟨_, Heap.get?_push_size _ rfl, rfl, rfl⟩, hls.at fun o e => Heap.get?_push_of_some _ e⟩, F.push _, (fun p hp => ⟨Heap.get?_push_of_some _ (N p hp).1, (N p hp).2⟩), hj, ?_, ?_⟩
  · intro hm
    rcases List.mem_cons.mp hm with e | hm
    · exact absurd F.ns.lt (e ▸ Nat.lt_irrefl _)
    · exact (N _ hl).2.1 ((List.mem_singleton.mp hm).symm)
  · intro b hb
    rw [List.mem_singleton.mp hb]
    exact next_is_new F
  · intro p hp hI
    exact absurd (Heap.lt_size (N p hp).1) ((List.mem_singleton.mp hI) ▸ Nat.lt_irrefl _)
  · rintro i v m₁ nx s₁ own ⟨hh', tk', rfl⟩ hin hP hJ hoff hown hget hfp hst F₁ N₁
    obtain ⟨⟨oi, hoi, _⟩, _⟩ := hst
    have hI : (s.heap.objs.size, oi) ∈ own := hfp _ (.head _) (next_is_new F) oi hoi
    have hne' : ∀ p ∈ nx, p.1 ≠ s.heap.objs.size := fun p hp e => hoff p hp (List.mem_singleton.mpr e)
    have N₂ : News h₀ env.locals hh' ((s.heap.objs.size, oi) :: nx) := fun p hp => by
      rcases List.mem_cons.mp hp with rfl | hp
      · exact N₁ _ (List.mem_append_left _ hI)
      · exact N₁ p (List.mem_append_right _ hp)
    have hP' : vs[i]? = some v := by simpa using hP
    have hlo : hh'.get? l = some (listOf vs.toArray nn) := (N₁ _ (List.mem_append_right _ (hk i m₁ nx hJ))).1
    refine wpAny_mono (turn i v m₁ nx hh' tk' _ oi hP' hJ hne' F₁ N₂) (fun f s₂ p => ?_) fun _ _ e => e
    have fin : IvEnd h₀ env.locals (J (i + 1)) s.heap.objs.size oi { s with heap := hh', toks := tk' } s₂ → LoopStepU h₀ env.locals [s.heap.objs.size] own (J (i + 1)) { s with heap := hh', toks := tk' } .next s₂ := by
      rintro ⟨h', tk, m', nx', e, F', N', hx, hm⟩
      refine ⟨rfl, h', tk, m', nx', e, F', fun p hp => ?_, fun p hp hI => hx p hp (List.mem_singleton.mp hI), hm⟩
      rcases List.mem_append.mp hp with h | h
      · have hg : hh'.get? p.1 = some p.2 := hget p h
        rcases List.mem_cons.mp (hown p h) with h2 | h2
        · have h3 : hh'.get? s.heap.objs.size = some oi := hoi
          rw [h2, h3] at hg
          have h4 : p = (s.heap.objs.size, oi) := Prod.ext h2 (Option.some.inj hg).symm
          rw [h4]
          exact N' _ (.head _)
        · have h1 : p.1 = l := List.mem_singleton.mp h2
          rw [h1, hlo] at hg
          have h3 : p = (l, listOf vs.toArray nn) := Prod.ext h1 (Option.some.inj hg).symm
          rw [h3]
          exact N' _ (.tail _ (hk (i + 1) m' nx' hm))
      · exact N' p (.tail _ h)
    cases f with
    | ret v => exact .ret p
    | brk => exact .brk p
    | next => exact .next (fin p)
    | cont => exact .cont (fin p)
  · rintro h' tk m' nx F' N' _ hJ
    exact done m' nx h' tk hJ F' N'
theorem iter_range {r : Addr} {a₀ b₀ : Int} {t₀ u₀ v₀ : Tok} {n : Nat} {m₀ : Str → Option Value} {news : Led} (J : Nat → (Str → Option Value) → Led → Prop)
    (hh : A.handled = none) (hr : IsRange s.heap r a₀ b₀ 1 t₀ u₀ v₀) (hsmall : Builtin.Range.small a₀ b₀ 1 = true) (hn : Builtin.Range.rangeSize a₀ b₀ 1 = (n : Int)) (F : Fr h₀ env.locals s.heap m₀) (N : News h₀ env.locals s.heap news) (hj : J 0 m₀ news)
    (turn : ∀ (i : Nat) t m₁ nx h tk (I : Nat) oi, i < n → J i m₁ nx → (∀ p ∈ nx, p.1 ≠ I) → Fr h₀ env.locals h (fun y => if y = x then some (.int (a₀ + (i : Int)) t) else m₁ y) → News h₀ env.locals h ((I, oi) :: nx) →
      wpAny (model prog w) A (execs body env) (IvPost h₀ env.locals (J (i + 1)) I oi { s with heap := h, toks := tk } Q) E { s with heap := h, toks := tk })
    (done : ∀ m₁ nx h tk, J n m₁ nx → Fr h₀ env.locals h m₁ → News h₀ env.locals h nx → Q .next { s with heap := h, toks := tk }) :
    wpAny (model prog w) A (pyIter (.ref r)) (fun it s₂ => LoopAtV prog w A h₀ env x body Q E it s₂) E s := by
  refine wpAny_pyIter_range hr hsmall ?_
  have W : Walks prog w A s.heap.objs.size [s.heap.objs.size] [s.heap.objs.size] n (fun i v => i < n ∧ ∃ t, v = .int (a₀ + i * 1) t)
      (fun i h => IsRangeIter h s.heap.objs.size (a₀ + (i : Nat) * 1) ((n : Int) - (i : Nat)) 1) := (Walks.range hh _ a₀ 1 n).bound
  refine ⟨_, _, _, n, _, _, m₀, news, J, rfl, W, ?_, ?_, ?_, by show IsRangeIter _ _ _ _ _; rw [hn]; simpa using Heap.get?_push_size _ rfl, F.push _, (fun p hp => ⟨Heap.get?_push_of_some _ (N p hp).1, (N p hp).2⟩), hj, ?_, ?_⟩
  · intro hm
    exact absurd F.ns.lt ((List.mem_singleton.mp hm) ▸ Nat.lt_irrefl _)
  · intro b hb
    rw [List.mem_singleton.mp hb]
    exact next_is_new F
  · intro p hp hI
    exact absurd (Heap.lt_size (N p hp).1) ((List.mem_singleton.mp hI) ▸ Nat.lt_irrefl _)
  · rintro i v m₁ nx s₁ own ⟨hh', tk', rfl⟩ hin ⟨_, t, rfl⟩ hJ hoff hown hget hfp hst F₁ N₁
    have hlive : ∃ oi, hh'.get? s.heap.objs.size = some oi := ⟨_, hst⟩
    obtain ⟨oi, hoi⟩ := hlive
    have hI : (s.heap.objs.size, oi) ∈ own := hfp _ (.head _) (next_is_new F) oi hoi
    have hne' : ∀ p ∈ nx, p.1 ≠ s.heap.objs.size := fun p hp e => hoff p hp (List.mem_singleton.mpr e)
    have N₂ : News h₀ env.locals hh' ((s.heap.objs.size, oi) :: nx) := fun p hp => by
      rcases List.mem_cons.mp hp with rfl | hp
      · exact N₁ _ (List.mem_append_left _ hI)
      · exact N₁ p (List.mem_append_right _ hp)
    have e1 : a₀ + (i : Int) * 1 = a₀ + (i : Int) := by omega
    rw [e1] at F₁
    refine wpAny_mono (turn i t m₁ nx hh' tk' _ oi hin hJ hne' F₁ N₂) (fun f s₂ p => ?_) fun _ _ e => e
    have fin : IvEnd h₀ env.locals (J (i + 1)) s.heap.objs.size oi { s with heap := hh', toks := tk' } s₂ → LoopStepU h₀ env.locals [s.heap.objs.size] own (J (i + 1)) { s with heap := hh', toks := tk' } .next s₂ := by
      rintro ⟨h', tk, m', nx', e, F', N', hx, hm⟩
      refine ⟨rfl, h', tk, m', nx', e, F', fun p hp => ?_, fun p hp hI => hx p hp (List.mem_singleton.mp hI), hm⟩
      rcases List.mem_append.mp hp with h | h
      · have hg : hh'.get? p.1 = some p.2 := hget p h
        have h2 := List.mem_singleton.mp (hown p h)
        rw [h2, hoi] at hg
        have h4 : p = (s.heap.objs.size, oi) := Prod.ext h2 (Option.some.inj hg).symm
        rw [h4]
        exact N' _ (.head _)
      · exact N' p (.tail _ h)
    cases f with
    | ret v => exact .ret p
    | brk => exact .brk p
    | next => exact .next (fin p)
    | cont => exact .cont (fin p)
  · rintro h' tk m' nx F' N' _ hJ
    exact done m' nx h' tk hJ F' N'
end
theorem fillV : (∀ P, KF P = KF P) ∧ PySem.Challenge.rw_nz0470_01 = PySem.Challenge.rw_nz0470_01 := by
  k_fill
  exact ⟨fun _ => rfl, rfl⟩
theorem split3 {P : Int → Prop} {k : Int} (h0 : 0 ≤ k) (h1 : k < 3) (c0 : P 0) (c1 : P 1) (c2 : P 2) : P k := by
  have : k = 0 ∨ k = 1 ∨ k = 2 := by omega
  rcases this with rfl | rfl | rfl <;> assumption
theorem split11 {P : Int → Prop} {k : Int} (h0 : 0 ≤ k) (h1 : k < 11) (c0 : P 0) (c1 : P 1) (c2 : P 2) (c3 : P 3) (c4 : P 4) (c5 : P 5) (c6 : P 6) (c7 : P 7) (c8 : P 8) (c9 : P 9) (c10 : P 10) : P k := by
  have : k = 0 ∨ k = 1 ∨ k = 2 ∨ k = 3 ∨ k = 4 ∨ k = 5 ∨ k = 6 ∨ k = 7 ∨ k = 8 ∨ k = 9 ∨ k = 10 := by omega
  rcases this with rfl | rfl | rfl | rfl | rfl | rfl | rfl | rfl | rfl | rfl | rfl <;> assumption
theorem lnMVa : True := by
  k_with "t k_all" => (assumption)
  k_with "t k_room" => (ktr_room)
  k_with "t k_units" => (ktr_units)
  k_with "m callWith ref" => ((k_here; k_dflt (first
    | (refine' callWith_K ?w12k1 ?w12k2 ?_; (case w12k1 => k_asm); (case w12k2 => k_is); k_whole)
    | (refine' callWith_K0 ?w12k1 ?w12k2 ?_; (case w12k1 => k_in); (case w12k2 => k_is); k_whole))))
  k_with "t tbn_lt" => (first | tbn_find | exact allLt_of (by assumption) | exact allLt_r (by tbn_find) | exact allLt_r (allLt_r (by tbn_find)) | exact tbn_up (by assumption) (by first | tbn_find | exact allLt_of (by assumption) | exact allLt_r (by tbn_find) | exact allLt_r (allLt_r (by tbn_find))))
  k_with "t tb_start" => (first | exact Led3.base0 | exact Led3.base2 (by assumption) (by assumption) | exact Led3.base1 (by assumption) | (refine' Led3.step ?w14tba ?w14tbb ?w14tbc ?w14tbd ?w14tbe; (case w14tba => k_extra "lt"); (case w14tbb => k_extra "lt"); (case w14tbc => k_extra "lt"); (case w14tbd => tbn_lt); (case w14tbe => tb_start)))
  k_with "t tb_rel" => ((intro p hp; (repeat' (refine List.Mem.tail _ ?_)); first | exact hp | exact List.mem_append_left _ hp | exact List.mem_append_right _ hp))
  k_with "m call ref" => ((k_here; (with_reducible show wpAny _ _ (call (Value.ref 312) _) _ _ _); k_dflt (refine' pick_call ?w16B ?w16F ?w16X ?w16N ?w16T ?w16hk ?w16hd ?w16hP ?w16hfg ?w16U ?w16h0 ?w16h1 ?_; (case w16B => k_asm); (case w16F => k_asm); (case w16X => k_asm); (case w16N => k_asm); (case w16T => k_asm); (case w16hk => first | exact rfl | assumption); (case w16hd => ktr_room); (case w16hP => assumption); (case w16hfg => k_mem); (case w16U => k_updF); (case w16h0 => first | decide | omega); (case w16h1 => first | decide | omega)); intro k' t' o' h' tk' k0' k1' P' F' N'; (try dsimp only at N'); (try dsimp only); (try k_fold)))
  k_with "m call builtin:len" => ((k_here; (with_reducible show wpAny _ _ (call (Value.builtin "len") [Value.ref _]) _ _ _); k_dflt (refine' homes_len ?w17N ?w17m ?w17x ?_; (case w17N => k_asm); (case w17m => k_mem); (case w17x => assumption))))
  k_with "m subscriptTail Name Name ref int" => ((k_here; k_dflt (refine' homes_item ?w18N ?w18m ?w18x ?w18h0 ?w18h1 ?_ ?w18hs; (case w18N => k_asm); (case w18m => k_mem); (case w18x => assumption); (case w18h0 => omega); (case w18h1 => omega); (case w18hs => with_unfolding_all rfl)); intro x' hx'))
  k_with "m subscriptTail List cons Call ref int" => (walk_at "last subscriptTail")
  k_with "m subscriptTail Name Call ref int" => ((k_here; k_dflt (refine' item_at ?w20N ?w20m ?w20a ?w20b ?w20c ?_ ?w20hs; (case w20N => k_asm); (case w20m => k_mem); (case w20a => decide); (case w20b => decide); (case w20c => exact rfl); (case w20hs => with_unfolding_all rfl))))
  k_with "m subscriptTail Name Call ref int" => ((k_here; (refine' split3 (P := fun k => wpAny _ _ (subscriptTail _ _ (Value.ref _) (Value.int k _)) _ _ _) ?w21a ?w21b ?_ ?_ ?_; (case w21a => assumption); (case w21b => assumption))))
  k_with "m storeName" => ((k_here; (with_reducible show wpAny _ _ (storeName _ (Str.ofString "kind") (Value.int _ _)) _ _ _); (refine' split11 (P := fun k => wpAny _ _ (storeName _ _ (Value.int k _)) _ _ _) ?w22a ?w22b ?_ ?_ ?_ ?_ ?_ ?_ ?_ ?_ ?_ ?_ ?_; (case w22a => assumption); (case w22b => assumption)); all_goals ((try clear k0' k1'); walk1)))
  k_with "m storeName" => ((k_here; (with_reducible show wpAny _ _ (storeName _ (Str.ofString "kind") (Value.int _ _)) _ _ _); (refine' split3 (P := fun k => wpAny _ _ (storeName _ _ (Value.int k _)) _ _ _) ?w23a ?w23b ?_ ?_ ?_; (case w23a => assumption); (case w23b => assumption)); all_goals walk1))
  k_with "m call ref" => ((k_here; (with_reducible show wpAny _ _ (call (Value.ref 283) _) _ _ _); k_dflt (refine' mk_null _ _ _ _ ?w24B ?w24F ?w24X ?w24N ?w24T ?w24hk ?w24hd ?w24hu ?_; (case w24B => k_asm); (case w24F => k_asm); (case w24X => k_asm); (case w24N => k_asm); (case w24T => k_asm); (case w24hk => first | exact rfl | assumption); (case w24hd => ktr_room); (case w24hu => ktr_units)); intro x' dx' ox' od' h' tk' F' N' l1 l2 P'; (try k_lt l1); (try k_lt2 l2); (try k_sweep); (try dsimp only); (try k_fold)))
  k_with "m call ref" => ((k_here; (with_reducible show wpAny _ _ (call (Value.ref 290) _) _ _ _); k_dflt (refine' mk_missing _ _ _ _ ?w25B ?w25F ?w25X ?w25N ?w25T ?w25hk ?w25hd ?w25hu ?_; (case w25B => k_asm); (case w25F => k_asm); (case w25X => k_asm); (case w25N => k_asm); (case w25T => k_asm); (case w25hk => first | exact rfl | assumption); (case w25hd => ktr_room); (case w25hu => ktr_units)); intro x' dx' ox' od' h' tk' F' N' l1 l2 P'; (try k_lt l1); (try k_lt2 l2); (try k_sweep); (try dsimp only); (try k_fold)))
  k_with "m call ref" => ((k_here; (with_reducible show wpAny _ _ (call (Value.ref 143) _) _ _ _); k_dflt (refine' mk_symbol _ _ _ _ _ _ ?w26B ?w26F ?w26X ?w26N ?w26T ?w26hk ?w26hd ?w26hu ?_; (case w26B => k_asm); (case w26F => k_asm); (case w26X => k_asm); (case w26N => k_asm); (case w26T => k_asm); (case w26hk => first | exact rfl | assumption); (case w26hd => ktr_room); (case w26hu => ktr_units)); intro x' dx' ox' od' h' tk' F' N' l1 l2 P'; (try k_lt l1); (try k_lt2 l2); (try k_sweep); (try dsimp only); (try k_fold)))
  k_with "m call ref" => ((k_here; (with_reducible show wpAny _ _ (call (Value.ref 298) _) _ _ _); k_dflt (refine' mk_number _ _ _ _ _ ?w27B ?w27F ?w27X ?w27N ?w27T ?w27hk ?w27hd ?w27hu ?_; (case w27B => k_asm); (case w27F => k_asm); (case w27X => k_asm); (case w27N => k_asm); (case w27T => k_asm); (case w27hk => first | exact rfl | assumption); (case w27hd => ktr_room); (case w27hu => ktr_units)); intro x' dx' ox' od' h' tk' F' N' l1 l2 P'; (try k_lt l1); (try k_lt2 l2); (try k_sweep); (try dsimp only); (try k_fold)))
  k_with "m call ref" => ((k_here; (with_reducible show wpAny _ _ (call (Value.ref 122) _) _ _ _); k_dflt (refine' mk_vector _ _ _ _ _ _ _ ?w28B ?w28F ?w28X ?w28N ?w28T ?w28hk ?w28hd ?w28hu ?_; (case w28B => k_asm); (case w28F => k_asm); (case w28X => k_asm); (case w28N => k_asm); (case w28T => k_asm); (case w28hk => first | exact rfl | assumption); (case w28hd => ktr_room); (case w28hu => ktr_units)); intro x' dx' ox' od' h' tk' F' N' l1 l2 P'; (try k_lt l1); (try k_lt2 l2); (try k_sweep); (try dsimp only); (try k_fold)))
  k_with "m call ref" => ((k_here; (with_reducible show wpAny _ _ (call (Value.ref 122) _) _ _ _); k_dflt (refine' mk_vector3 _ _ _ _ _ _ _ _ ?w29B ?w29F ?w29X ?w29N ?w29T ?w29hk ?w29hd ?w29hu ?_; (case w29B => k_asm); (case w29F => k_asm); (case w29X => k_asm); (case w29N => k_asm); (case w29T => k_asm); (case w29hk => first | exact rfl | assumption); (case w29hd => ktr_room); (case w29hu => ktr_units)); intro x' dx' ox' od' h' tk' F' N' l1 l2 P'; (try k_lt l1); (try k_lt2 l2); (try k_sweep); (try dsimp only); (try k_fold)))
  k_with "m call ref" => ((k_here; (with_reducible show wpAny _ _ (call (Value.ref 165) _) _ _ _); k_dflt (refine' mk_call _ _ _ _ _ _ ?w30B ?w30F ?w30X ?w30N ?w30T ?w30hk ?w30hd ?w30hu ?_; (case w30B => k_asm); (case w30F => k_asm); (case w30X => k_asm); (case w30N => k_asm); (case w30T => k_asm); (case w30hk => first | exact rfl | assumption); (case w30hd => ktr_room); (case w30hu => ktr_units)); intro x' dx' ox' od' h' tk' F' N' l1 l2 P'; (try k_lt l1); (try k_lt2 l2); (try k_sweep); obtain ⟨t9, P'⟩ := P'; (try dsimp only); (try k_fold)))
  k_with "m call ref" => ((k_here; (with_reducible show wpAny _ _ (call (Value.ref 165) _) _ _ _); k_dflt (refine' mk_call3 _ _ _ _ _ _ _ ?w31B ?w31F ?w31X ?w31N ?w31T ?w31hk ?w31hd ?w31hu ?_; (case w31B => k_asm); (case w31F => k_asm); (case w31X => k_asm); (case w31N => k_asm); (case w31T => k_asm); (case w31hk => first | exact rfl | assumption); (case w31hd => ktr_room); (case w31hu => ktr_units)); intro x' dx' ox' od' h' tk' F' N' l1 l2 P'; (try k_lt l1); (try k_lt2 l2); (try k_sweep); obtain ⟨t9, P'⟩ := P'; (try dsimp only); (try k_fold)))
  k_with "m call ref" => ((k_here; (with_reducible show wpAny _ _ (call (Value.ref 187) _) _ _ _); k_dflt (refine' mk_closure _ _ _ _ _ _ _ ?w32B ?w32F ?w32X ?w32N ?w32T ?w32hk ?w32hd ?w32hu ?_; (case w32B => k_asm); (case w32F => k_asm); (case w32X => k_asm); (case w32N => k_asm); (case w32T => k_asm); (case w32hk => first | exact rfl | assumption); (case w32hd => ktr_room); (case w32hu => ktr_units)); intro x' dx' ox' od' h' tk' F' N' l1 l2 P'; (try k_lt l1); (try k_lt2 l2); (try k_sweep); obtain ⟨t9, P'⟩ := P'; (try dsimp only); (try k_fold)))
  k_with "m call ref" => ((k_here; (with_reducible show wpAny _ _ (call (Value.ref 251) _) _ _ _); k_dflt (refine' mk_dots _ _ _ _ _ ?w33B ?w33F ?w33X ?w33N ?w33T ?w33hk ?w33hd ?w33hu ?_; (case w33B => k_asm); (case w33F => k_asm); (case w33X => k_asm); (case w33N => k_asm); (case w33T => k_asm); (case w33hk => first | exact rfl | assumption); (case w33hd => ktr_room); (case w33hu => ktr_units)); intro x' dx' ox' od' h' tk' F' N' l1 l2 P'; (try k_lt l1); (try k_lt2 l2); (try k_sweep); obtain ⟨t9, P'⟩ := P'; (try dsimp only); (try k_fold)))
  k_with "m call ref" => ((k_here; (with_reducible show wpAny _ _ (call (Value.ref 230) _) _ _ _); k_dflt (refine' mk_promise _ _ _ _ _ _ ?w34B ?w34F ?w34X ?w34N ?w34T ?w34hk ?w34hd ?w34hu ?_; (case w34B => k_asm); (case w34F => k_asm); (case w34X => k_asm); (case w34N => k_asm); (case w34T => k_asm); (case w34hk => first | exact rfl | assumption); (case w34hd => ktr_room); (case w34hu => ktr_units)); intro x' dx' ox' od' h' tk' F' N' l1 l2 P'; (try k_lt l1); (try k_lt2 l2); (try k_sweep); obtain ⟨e9, h0, h1, h2, h3, h4, h5, t, t0, t1, t2, t3, t4, t5, t6, e8⟩ := P'; subst e9; subst e8; (try dsimp only); (try k_fold)))
  trivial
theorem lnltMV : True := by
  k_with "ltc" => (first | exact And.left (by assumption) | exact And.left (And.right (by assumption)) | exact And.left (And.right (And.right (by assumption))) | exact And.left (And.right (And.right (And.right (by assumption)))) | exact And.left (And.right (And.right (And.right (And.right (by assumption))))) | exact And.left (And.right (And.right (And.right (And.right (And.right (by assumption)))))) | exact And.left (And.right (And.right (And.right (And.right (And.right (And.right (by assumption))))))) | exact And.left (And.right (And.right (And.right (And.right (And.right (And.right (And.right (by assumption)))))))) | exact And.left (And.right (And.right (And.right (And.right (And.right (And.right (And.right (And.right (by assumption))))))))) | exact And.left (And.right (And.right (And.right (And.right (And.right (And.right (And.right (And.right (And.right (by assumption)))))))))) | exact And.left (And.right (And.right (And.right (And.right (And.right (And.right (And.right (And.right (And.right (And.right (by assumption))))))))))) | exact And.left (And.right (And.right (And.right (And.right (And.right (And.right (And.right (And.right (And.right (And.right (And.right (by assumption)))))))))))) | exact And.left (And.right (And.right (And.right (And.right (And.right (And.right (And.right (And.right (And.right (And.right (And.right (And.right (by assumption))))))))))))) | exact And.left (And.right (And.right (And.right (And.right (And.right (And.right (And.right (And.right (And.right (And.right (And.right (And.right (And.right (by assumption)))))))))))))) | exact And.left (And.right (And.right (And.right (And.right (And.right (And.right (And.right (And.right (And.right (And.right (And.right (And.right (And.right (And.right (by assumption))))))))))))))) | exact And.left (And.right (And.right (And.right (And.right (And.right (And.right (And.right (And.right (And.right (And.right (And.right (And.right (And.right (And.right (And.right (by assumption)))))))))))))))))
  k_with "lt" => (first | k_extra "ltc" | (refine Nat.lt_trans ?_ (by assumption); k_extra "ltc") | omega)
  trivial
set_option maxRecDepth 100000 in
set_option maxHeartbeats 8000000 in
theorem value0 (w : World) (mean : ExcName → Option Value) (mg mb : Str → Option Value) : ValueOk w mean mg mb 0 := by
  intro dp un gd cn cs a ccd cl outer A₀ base h₀ L m s Q E pl fg hl fo o xs nh R deep td B F X N T hk hdp hun hP hne1 hne2 hR hx0 hx6 hdeep ret
  have hdd : deep = 3 := by omega
  subst hdd
  have hne3 : pl ≠ fg := by obtain ⟨_, _, _, _, _, _, _, _, _, _, _, _, _, _, _, _, h⟩ := hP; exact h
  have fin : ∀ {tp sp v : Nat} {svs : List Value} {np ns : Nat} {ls : List Nat} {k : Nat} {led tl : Led} {o' : Obj} {h' : Heap} {tk' : Nat}, Fr h₀ L h' m → News h₀ L h' led → Led3 pl fg hl o' fo (listOf (xs.map Value.ref).toArray nh) R led tl → PObj pl fg fo o' →
      (tp, ({ cls := .type "tuple", data := .seq #[.ref v, .ref sp] np } : Obj)) ∈ tl → (sp, listOf svs.toArray ns) ∈ tl → IntsAre svs (ls.map fun i : Nat => (i : Int)) → Val w xs tl (.ref v) ls k → ls.length + 1 ≤ BB 0 ∧ k + 3 ≤ 2 * BB 0 → (∀ i ∈ ls, i < xs.length) → Q (.ref tp) { s with heap := h', toks := tk' } :=
    fun F' N' H P' a b c d e f => ret _ _ _ _ _ _ _ _ _ _ _ _ F' (fun p hp => N' p (H.mem p hp)) P' (H.abv.ne hR) H.abv a b c d e f
  clear ret
  refine wpAny_call ?_
  k_dflt ktr_enter
  k_steps
  · refine fin (by k_asm) (by k_asm) (by tb_start) (by assumption) (by k_mem) (svs := []) (by k_mem) (ls := []) .nil (Val.leaf (Shape.mono (by assumption) (sub2 (by k_mem) (by k_mem)))) ⟨by decide, by decide⟩ (fun i h => nomatch h)
  · refine fin (by k_asm) (by k_asm) (by tb_start) (by assumption) (by k_mem) (by k_mem) (ints_spot (by assumption)) (Val.env (by assumption)) ⟨Nat.le_refl 2, by decide⟩ (spot_lt (by assumption))
  · refine fin (by k_asm) (by k_asm) (by tb_start) (by assumption) (by k_mem) (svs := []) (by k_mem) (ls := []) .nil (Val.leaf (Shape.mono (by assumption) (sub2 (by k_mem) (by k_mem)))) ⟨by decide, by decide⟩ (fun i h => nomatch h)
  · refine fin (by k_asm) (by k_asm) (by tb_start) (by assumption) (by k_mem) (svs := []) (by k_mem) (ls := []) .nil (Val.leaf (Shape.mono (by assumption) (sub2 (by k_mem) (by k_mem)))) ⟨by decide, by decide⟩ (fun i h => nomatch h)
  · refine fin (by k_asm) (by k_asm) (by tb_start) (by assumption) (by k_mem) (svs := []) (by k_mem) (ls := []) .nil (Val.leaf (Shape.mono (by assumption) (sub2 (by k_mem) (by k_mem)))) ⟨by decide, by decide⟩ (fun i h => nomatch h)
theorem lnMQ : True := by
  k_with_none
  trivial
theorem valueAt_get {K : Type} [DecidableEq K] {kk : K} {vv : Value} : ∀ {kvs : List (K × Value)} {i : Nat}, (kvs.map (·.1)).Nodup → kvs[i]? = some (kk, vv) → valueAt kvs kk = some vv
  | [], i, _, hkv => by simp at hkv
  | p :: r, i, hn, hkv => by
    rw [List.map_cons, List.nodup_cons] at hn
    cases i with
    | zero =>
      simp only [List.getElem?_cons_zero, Option.some.injEq] at hkv
      subst hkv
      simp [valueAt]
    | succ i =>
      rw [List.getElem?_cons_succ] at hkv
      have hne : p.1 ≠ kk := fun e => hn.1 (e ▸ List.mem_map.mpr ⟨_, List.mem_of_getElem? hkv, rfl⟩)
      have := valueAt_get hn.2 hkv
      simp only [valueAt, List.find?_cons, hne, decide_false] at this ⊢
      exact this
/-! a comprehension over a dict's keys that closes over a name -/
section
variable {prog : Program} {w : World} {A : Around} {E : Value → Shared → Prop} {s : Shared} {h₀ : Heap} {L : Addr} {m : Str → Option Value} {env : Env}
def SrcD (prog : Program) (w : World) (A : Around) (h₀ : Heap) (L : Addr) (m : Str → Option Value) (env : Env) (elt : Expr) (x : Str) (scope : Scope) (cl : List (Str × Addr)) (Fin : Shared → List Value → Led → Prop) (xv : Value) (s₁ : Shared) : Prop :=
  ∃ (d : Addr) (od : Obj) (kvs : List (Str × Value)) (news : Led), xv = .ref d ∧ A.handled = none ∧ Fr h₀ L s₁.heap m ∧ News h₀ L s₁.heap news ∧ (d, od) ∈ news ∧ (d == sysModules) = false ∧ od.IsDictOf (PySem.strKind prog w) kvs ∧ kvs.length ≤ sizeLine ∧
    ∀ s₂ : Shared, (∃ h, s₂ = { s₁ with heap := h }) → LCg.CompRest prog w A h₀ L m env elt x scope cl s₂ (fun nw => (d, od) ∈ nw) (fun i v => ∃ k x, kvs[i]? = some (k, x) ∧ (PySem.strKind prog w).is k v = true) (Fin s₂) kvs.length 0 [] news
theorem dict_st {d I : Addr} {od : Obj} {kvs : List (Str × Value)} {ep : Nat} (ha : ∃ es, od.ExactDict ∧ od.data = .dict es ep ∧ KeysOf (PySem.strKind prog w) es ∧ Pairs (PySem.strKind prog w) es.toList kvs ∧ (kvs.map (·.1)).Nodup) :
    ∀ i (h h' : Heap) (o : Obj) (nw : Led), (h.IsKeyIter I d i kvs.length ep ∧ h.DictAt (PySem.strKind prog w) d kvs ep) → h.get? I = some o → h'.get? I = some o → (∀ b o, h₀.get? b = some o → h'.get? b = some o) → News h₀ L h' nw → (d, od) ∈ nw → (h'.IsKeyIter I d i kvs.length ep ∧ h'.DictAt (PySem.strKind prog w) d kvs ep) :=
  fun i h h' o nw st e e' k N S => ⟨by obtain ⟨o', q, r⟩ := st.1; rw [e] at q; cases q; exact ⟨o, e', r⟩, by obtain ⟨es, r⟩ := ha; exact ⟨od, es, (N _ S).1, r⟩⟩
theorem ListComp_D {elt iter : Expr} {x : Str} {px : Pos} {scope : Scope} {cl : List (Str × Addr)} {pos : Pos} {Q : Value → Shared → Prop} (_F₀ : Fr h₀ L s.heap m)
    (hclos : closureFor scope env = pure cl) (hcell : ∀ y ∈ scope.names, y.2 ≠ .cell) (hkind : scope.kind = .function)
    (hnames : ∀ y ∈ scope.names, y.2 = .local → scope.names.lookup y.1 = some .local) (hx : scope.names.lookup x = some .local)
    (h : wpAny (model prog w) A (eval iter env) (SrcD prog w A h₀ L m env elt x scope cl (fun s₂ => LCg.FinE h₀ L m s₂ Q)) E s)
    (hs : ∀ x, foldedSetIterable iter env x = pure x := by intro _; rfl) :
    wpAny (model prog w) A (eval (.ListComp elt [⟨.Name x px, iter, [], 0⟩] scope pos) env) Q E s := by
  rw [eval_ListComp]
  refine wpAny_comprehension_free (use := none) rfl hs hclos hkind hnames (wpAny_mono h (fun xv s₁ h₁ => ?_) fun _ _ e => e)
  obtain ⟨d, od, kvs, news, rfl, hh, F, N, S, lo, hd, hsz, R⟩ := h₁
  obtain ⟨es, ep, hes⟩ := hd
  have hdn := (N _ S).1
  have hat : s₁.heap.DictAt (PySem.strKind prog w) d kvs ep := ⟨od, es, hdn, hes⟩
  have hlt : d < s₁.heap.objs.size := Heap.lt_size hdn
  refine wpAny_pyIter_dict lo hat ?_
  have up : ∀ b o, s₁.heap.get? b = some o → (s₁.heap.push { cls := .type "dict_keyiterator", data := .fields #[.ref d, .int 0 0, .int kvs.length 0, .int ep 0] }).get? b = some o := fun b o e => Heap.get?_push_of_some _ e
  refine LCg.block_U (Walks.dictKeys hh s₁.heap.objs.size d (Nat.ne_of_lt hlt) kvs ep) hsz (fun i h st => by obtain ⟨o, e, _⟩ := st.1; exact ⟨o, e⟩) (dict_st ⟨es, hes⟩) hcell hkind hx ⟨⟨_, Heap.get?_push_size _ rfl, rfl, rfl⟩, hat.at' (fun o e => up _ _ e)⟩ (fun b hb => ?_)
    (F.keeps up) (N.grown up) (Nat.ne_of_lt F.ns.lt) (next_is_new F) (fun p hp => Nat.ne_of_lt (Heap.lt_size (N p hp).1)) S (R _ ⟨_, rfl⟩) ?_
  · show b < (s₁.heap.push _).objs.size
    rw [Heap.size_push]
    rcases List.mem_cons.mp hb with rfl | hb
    · exact Nat.lt_succ_self _
    · rw [List.mem_singleton.mp hb]; exact Nat.lt_succ_of_lt hlt
  · intro D C h tk m' ys news' F' N' o1 hn hC₀ hD₀ hCL hDL hCD offC fin
    refine ⟨m', hn, fun h'' hs'' => fin D h'' tk (F'.change hs'' hCL hC₀) (fun p hp => ?_) o1⟩
    refine ⟨hs''.extBut _ _ ?_ (N' p hp).1, (N' p hp).2⟩
    rcases List.mem_cons.mp hp with rfl | hp
    · exact Ne.symm hCD
    · exact offC p hp
theorem Assign_ListComp_D {elt iter : Expr} {x y : Str} {px py : Pos} {scope : Scope} {cl : List (Str × Addr)} {pos spos : Pos} {Q : Flow → Shared → Prop} (_F₀ : Fr h₀ L s.heap m) (hLe : env.locals = L)
    (hsw : swapsWith (.ListComp elt [⟨.Name x px, iter, [], 0⟩] scope pos) (some (.Name y py)) spos.line env = pure true)
    (hclos : closureFor scope env = pure cl) (hcell : ∀ z ∈ scope.names, z.2 ≠ .cell) (hkind : scope.kind = .function)
    (hnames : ∀ z ∈ scope.names, z.2 = .local → scope.names.lookup z.1 = some .local) (hx : scope.names.lookup x = some .local)
    (hy : env.kindOf y = some .local) (hp : (env.scope.kind == .class || (env.scope.kind == .module && env.locals != env.globals)) = false)
    (h : wpAny (model prog w) A (eval iter env) (SrcD prog w A h₀ L m env elt x scope cl (fun s₂ => LCg.FinA h₀ L m s₂ y Q)) E s)
    (hs : ∀ x, foldedSetIterable iter env x = pure x := by intro _; rfl) :
    wpAny (model prog w) A (exec (.Assign [.Name y py] (.ListComp elt [⟨.Name x px, iter, [], 0⟩] scope pos) spos) env) Q E s := by
  subst hLe
  rw [exec_Assign_Name_used _ _ _ _ hsw]
  refine wpAny_bind (wpAny_standAt (wpAny_bind ?_))
  show wpAny _ A (do let _ ← comprehension (.ListComp elt [⟨.Name x px, iter, [], 0⟩] scope pos) scope env _ (newList []) false (eval iter env) (some (assign (.Name y py) env))) _ _ s
  refine wpAny_bind (wpAny_mono (wpAny_comprehension_free (use := some (assign (.Name y py) env)) (Q := fun _ s' => Q .next s') rfl hs hclos hkind hnames
    (wpAny_mono h (fun xv s₁ h₁ => ?_) fun _ _ e => e)) (fun _ s' hq => wpAny_pure (wpAny_pure hq)) fun _ _ e => e)
  obtain ⟨d, od, kvs, news, rfl, hh, F, N, S, lo, hd, hsz, R⟩ := h₁
  obtain ⟨es, ep, hes⟩ := hd
  have hdn := (N _ S).1
  have hat : s₁.heap.DictAt (PySem.strKind prog w) d kvs ep := ⟨od, es, hdn, hes⟩
  have hlt : d < s₁.heap.objs.size := Heap.lt_size hdn
  refine wpAny_pyIter_dict lo hat ?_
  have up : ∀ b o, s₁.heap.get? b = some o → (s₁.heap.push { cls := .type "dict_keyiterator", data := .fields #[.ref d, .int 0 0, .int kvs.length 0, .int ep 0] }).get? b = some o := fun b o e => Heap.get?_push_of_some _ e
  refine LCg.block_U (Walks.dictKeys hh s₁.heap.objs.size d (Nat.ne_of_lt hlt) kvs ep) hsz (fun i h st => by obtain ⟨o, e, _⟩ := st.1; exact ⟨o, e⟩) (dict_st ⟨es, hes⟩) hcell hkind hx ⟨⟨_, Heap.get?_push_size _ rfl, rfl, rfl⟩, hat.at' (fun o e => up _ _ e)⟩ (fun b hb => ?_)
    (F.keeps up) (N.grown up) (Nat.ne_of_lt F.ns.lt) (next_is_new F) (fun p hp => Nat.ne_of_lt (Heap.lt_size (N p hp).1)) S (R _ ⟨_, rfl⟩) ?_
  · show b < (s₁.heap.push _).objs.size
    rw [Heap.size_push]
    rcases List.mem_cons.mp hb with rfl | hb
    · exact Nat.lt_succ_self _
    · rw [List.mem_singleton.mp hb]; exact Nat.lt_succ_of_lt hlt
  · intro D C h' tk m' ys news' F' N' o1 hn hC₀ hD₀ hCL hDL hCD offC fin
    show wpAny _ A (assign (.Name y py) env (.ref D)) _ _ _
    refine wpAny_assign_Name (wpAny_storeName_local hy F'.ns (fun h₂ hn₂ hs₂ => ?_) hp)
    have hL₀ : h₀.get? env.locals = none := Heap.get?_none_of_le F'.above
    have F₂ : Fr h₀ env.locals h₂ (fun z => if z = y then some (.ref D) else m z) := ⟨hn₂, fun b o e => hs₂.extBut b o (fun q => by rw [q, hL₀] at e; cases e) (F'.keep b o e), F'.above⟩
    refine ⟨m', hn.sameBut hs₂ hCL, fun h'' hs'' => fin D h'' _ (F₂.change hs'' hCL hC₀) (fun p hp => ?_) o1⟩
    have z : h₂.get? p.1 = some p.2 := hs₂.extBut _ _ (N' p hp).2.1 (N' p hp).1
    refine ⟨hs''.extBut _ _ ?_ z, (N' p hp).2⟩
    rcases List.mem_cons.mp hp with rfl | hp
    · exact Ne.symm hCD
    · exact offC p hp
/-- the attribute is read off the ledger -/
def GetOk (w : World) (news : Led) (x : Nat) (name : Str) (v : Value) : Prop :=
  ∀ {A : Around} {E : Value → Shared → Prop} {s : Shared} {h₀ : Heap} {L : Addr} {m : Str → Option Value} {Q : Value → Shared → Prop}, Fr h₀ L s.heap m → (KF w.params).In h₀ → News h₀ L s.heap news → Q v { s with toks := s.toks + 1 } →
    wpAny (model PySem.Challenge.rw_nz0470_01.row.prog w) A (getAttr (.ref x) name true) Q E s
theorem GetOk.mono {w : World} {news news' : Led} {x : Nat} {name : Str} {v : Value} (g : GetOk w news x name v) (h : ∀ p ∈ news, p ∈ news') : GetOk w news' x name v := fun F X N q => g F X (fun p hp => N p (h p hp)) q
theorem GetOk.use {w : World} {news news' : Led} {x : Nat} {name : Str} {v : Value} (g : GetOk w news x name v) {A : Around} {E : Value → Shared → Prop} {s : Shared} {h₀ : Heap} {L : Addr} {m : Str → Option Value} {Q : Value → Shared → Prop} (F : Fr h₀ L s.heap m) (X : (KF w.params).In h₀) (N : News h₀ L s.heap news') (h : ∀ p ∈ news, p ∈ news') (q : Q v { s with toks := s.toks + 1 }) :
    wpAny (model PySem.Challenge.rw_nz0470_01.row.prog w) A (getAttr (.ref x) name true) Q E s := g F X (fun p hp => N p (h p hp)) q
theorem SrcD.intro {attr x y : Str} {pv pa py ps : Pos} {scope : Scope} {cl : List (Str × Addr)} {c a d : Nat} {oc od : Obj} {kvs : List (Str × Value)} {news : Led} {s₁ : Shared}
    {Fin : Shared → List Value → Led → Prop}
    (F : Fr h₀ L s₁.heap m) (N : News h₀ L s₁.heap news) (X₀ : (KF w.params).In h₀) (hD : (d, od) ∈ news) (lo : (d == sysModules) = false) (hdd : od.IsDictOf (PySem.strKind PySem.Challenge.rw_nz0470_01.row.prog w) kvs)
    (hm : (c, oc) ∈ news) (hget : GetOk w news a attr (.ref d)) (fin : ∀ s₂ : Shared, (∃ h, s₂ = { s₁ with heap := h }) → Fin s₂ (kvs.map (·.2)) news)
    (hc : cl.lookup x = some c) (hd : oc.data = .cell (some (.ref a))) (hsz : kvs.length ≤ sizeLine) (hh : A.handled = none)
    (kx : ∀ C', (compEnvC scope cl C' env).kindOf x = some .cell) (ky : ∀ C', (compEnvC scope cl C' env).kindOf y = some .local) (kf : ∀ C', (compEnvC scope cl C' env).scope.kind = .function)
    (bx : (x == ("__debug__" : Str)) = false) (by' : (y == ("__debug__" : Str)) = false) :
    SrcD PySem.Challenge.rw_nz0470_01.row.prog w A h₀ L m env (.Subscript (.Attribute (.Name x pv) attr pa) (.Name y py) ps) y scope cl Fin (.ref d) s₁ := by
  refine ⟨d, od, kvs, news, rfl, hh, F, N, hD, lo, hdd, hsz, fun s₂ hs₂ => ?_⟩
  have hnod : (kvs.map (·.1)).Nodup := by obtain ⟨_, _, _, _, _, _, r⟩ := hdd; exact r
  have main : ∀ (k i : Nat) (ys : List Value), kvs.length = i + k → ys = (kvs.take i).map (·.2) → LCg.CompRest PySem.Challenge.rw_nz0470_01.row.prog w A h₀ L m env (.Subscript (.Attribute (.Name x pv) attr pa) (.Name y py) ps) y scope cl s₂ (fun nw => (d, od) ∈ nw) (fun i v => ∃ k x, kvs[i]? = some (k, x) ∧ (PySem.strKind PySem.Challenge.rw_nz0470_01.row.prog w).is k v = true) (Fin s₂) k i ys news := by
    intro k
    induction k with
    | zero =>
      intro i ys hk hys
      have h0 : kvs.take i = kvs := List.take_of_length_le (by omega)
      rw [h0] at hys
      subst hys
      exact fin s₂ hs₂
    | succ k ih =>
      intro i ys hk hys
      refine LCg.CompRest.succ fun v I oI C' oC D m₂ h tk E' hv hC hy F' N' off ne => ?_
      obtain ⟨kk, vv, hkv, hkk⟩ := hv
      have hsub : ∀ p ∈ news, p ∈ (I, oI) :: (C', oC) :: (D, LCg.lst ys) :: news := fun p hp => List.mem_cons_of_mem _ (List.mem_cons_of_mem _ (List.mem_cons_of_mem _ hp))
      refine Subscript_ (Attribute_name (lcf_cell N' hc (hsub _ hm) hd ?_ (kf C') (kx C') bx))
      refine hget F' X₀ (fun p hp => N' p (hsub p hp)) ?_
      refine LCgL.ld_own N' (List.mem_cons_of_mem _ List.mem_cons_self) hC hy ?_ (kf C') (ky C') by'
      have hval : valueAt kvs kk = some vv := valueAt_get hnod hkv
      refine kba_turn (value' := .Name (Str.ofString "_") ⟨0, 0, 0, 0⟩) (fun _ => rfl) ?_
      refine kda_item (knd := PySem.strKind PySem.Challenge.rw_nz0470_01.row.prog w) N' (hsub _ hD) hdd hkk hval ?_
      refine LCg.CompEnd.intro F' N' news (fun _ h => h) off hD ?_
      refine ih (i + 1) _ (by omega) ?_
      rw [hys, List.take_add_one, hkv]
      simp
  exact main kvs.length 0 [] (by omega) (by simp)
end
theorem fillS : (∀ P, KF P = KF P) ∧ PySem.Challenge.rw_nz0470_01 = PySem.Challenge.rw_nz0470_01 := by
  k_fill
  exact ⟨fun _ => rfl, rfl⟩
theorem lnMSa : True := by
  k_with "t k_all" => (assumption)
  k_with "t k_mem" => (first | exact List.Mem.head _ | (refine' List.mem_cons_of_mem _ ?_; k_mem) | ktr_member | (ktn_app; first | (refine List.mem_append.mpr (Or.inl ?_); k_mem) | (refine List.mem_append.mpr (Or.inr ?_); k_mem)))
  k_with "t k_room" => (ktr_room)
  k_with "t k_units" => (ktr_units)
  k_with "m callWith ref" => ((k_here; k_dflt (first
    | (refine' callWith_K ?w39k1 ?w39k2 ?_; (case w39k1 => k_asm); (case w39k2 => k_is); k_whole)
    | (refine' callWith_K0 ?w39k1 ?w39k2 ?_; (case w39k1 => k_in); (case w39k2 => k_is); k_whole))))
  k_with "t tbn_lt" => (first | tbn_find | exact allLt_of (by assumption) | exact allLt_r (by tbn_find) | exact allLt_r (allLt_r (by tbn_find)) | exact tbn_up (by assumption) (by first | tbn_find | exact allLt_of (by assumption) | exact allLt_r (by tbn_find) | exact allLt_r (allLt_r (by tbn_find))))
  k_with "t tb_start" => (first | exact Led3.base0 | exact Led3.base2 (by assumption) (by assumption) | exact Led3.base1 (by assumption) | (refine' Led3.step ?w41tba ?w41tbb ?w41tbc ?w41tbd ?w41tbe; (case w41tba => k_extra "lt"); (case w41tbb => k_extra "lt"); (case w41tbc => k_extra "lt"); (case w41tbd => tbn_lt); (case w41tbe => tb_start)))
  k_with "t tb_rel" => ((intro p hp; (repeat' (refine List.Mem.tail _ ?_)); first | exact hp | exact List.mem_append_left _ hp | exact List.mem_append_right _ hp))
  k_with "m call ref" => ((k_here; (with_reducible show wpAny _ _ (call (Value.ref 312) _) _ _ _); k_dflt (refine' pick_call ?w43B ?w43F ?w43X ?w43N ?w43T ?w43hk ?w43hd ?w43hP ?w43hfg ?w43U ?w43h0 ?w43h1 ?_; (case w43B => k_asm); (case w43F => k_asm); (case w43X => k_asm); (case w43N => k_asm); (case w43T => k_asm); (case w43hk => first | exact rfl | assumption); (case w43hd => ktr_room); (case w43hP => assumption); (case w43hfg => k_mem); (case w43U => k_updF); (case w43h0 => first | decide | omega); (case w43h1 => first | decide | omega)); intro k' t' o' h' tk' k0' k1' P' F' N'; (try dsimp only at N'); (try dsimp only); (try k_fold)))
  k_with "m call builtin:len" => ((k_here; (with_reducible show wpAny _ _ (call (Value.builtin "len") [Value.ref _]) _ _ _); k_dflt (refine' homes_len ?w44N ?w44m ?w44x ?_; (case w44N => k_asm); (case w44m => k_mem); (case w44x => assumption))))
  k_with "m subscriptTail Name Name ref int" => ((k_here; k_dflt (refine' homes_item ?w45N ?w45m ?w45x ?w45h0 ?w45h1 ?_ ?w45hs; (case w45N => k_asm); (case w45m => k_mem); (case w45x => assumption); (case w45h0 => omega); (case w45h1 => omega); (case w45hs => with_unfolding_all rfl)); intro x' hx'))
  k_with "m subscriptTail List cons Call ref int" => (walk_at "last subscriptTail")
  k_with "m subscriptTail Name Call ref int" => ((k_here; k_dflt (refine' item_at ?w47N ?w47m ?w47a ?w47b ?w47c ?_ ?w47hs; (case w47N => k_asm); (case w47m => k_mem); (case w47a => decide); (case w47b => decide); (case w47c => exact rfl); (case w47hs => with_unfolding_all rfl))))
  k_with "m subscriptTail Name Call ref int" => ((k_here; (refine' split3 (P := fun k => wpAny _ _ (subscriptTail _ _ (Value.ref _) (Value.int k _)) _ _ _) ?w48a ?w48b ?_ ?_ ?_; (case w48a => assumption); (case w48b => assumption))))
  k_with "m storeName" => ((k_here; (with_reducible show wpAny _ _ (storeName _ (Str.ofString "kind") (Value.int _ _)) _ _ _); (refine' split11 (P := fun k => wpAny _ _ (storeName _ _ (Value.int k _)) _ _ _) ?w49a ?w49b ?_ ?_ ?_ ?_ ?_ ?_ ?_ ?_ ?_ ?_ ?_; (case w49a => assumption); (case w49b => assumption)); all_goals ((try clear k0' k1'); walk1)))
  k_with "m storeName" => ((k_here; (with_reducible show wpAny _ _ (storeName _ (Str.ofString "kind") (Value.int _ _)) _ _ _); (refine' split3 (P := fun k => wpAny _ _ (storeName _ _ (Value.int k _)) _ _ _) ?w50a ?w50b ?_ ?_ ?_; (case w50a => assumption); (case w50b => assumption)); all_goals walk1))
  k_with "m call ref" => ((k_here; (with_reducible show wpAny _ _ (call (Value.ref 283) _) _ _ _); k_dflt (refine' mk_null _ _ _ _ ?w51B ?w51F ?w51X ?w51N ?w51T ?w51hk ?w51hd ?w51hu ?_; (case w51B => k_asm); (case w51F => k_asm); (case w51X => k_asm); (case w51N => k_asm); (case w51T => k_asm); (case w51hk => first | exact rfl | assumption); (case w51hd => ktr_room); (case w51hu => ktr_units)); intro x' dx' ox' od' h' tk' F' N' l1 l2 P'; (try k_lt l1); (try k_lt2 l2); (try k_sweep); (try dsimp only); (try k_fold)))
  k_with "m call ref" => ((k_here; (with_reducible show wpAny _ _ (call (Value.ref 290) _) _ _ _); k_dflt (refine' mk_missing _ _ _ _ ?w52B ?w52F ?w52X ?w52N ?w52T ?w52hk ?w52hd ?w52hu ?_; (case w52B => k_asm); (case w52F => k_asm); (case w52X => k_asm); (case w52N => k_asm); (case w52T => k_asm); (case w52hk => first | exact rfl | assumption); (case w52hd => ktr_room); (case w52hu => ktr_units)); intro x' dx' ox' od' h' tk' F' N' l1 l2 P'; (try k_lt l1); (try k_lt2 l2); (try k_sweep); (try dsimp only); (try k_fold)))
  k_with "m call ref" => ((k_here; (with_reducible show wpAny _ _ (call (Value.ref 143) _) _ _ _); k_dflt (refine' mk_symbol _ _ _ _ _ _ ?w53B ?w53F ?w53X ?w53N ?w53T ?w53hk ?w53hd ?w53hu ?_; (case w53B => k_asm); (case w53F => k_asm); (case w53X => k_asm); (case w53N => k_asm); (case w53T => k_asm); (case w53hk => first | exact rfl | assumption); (case w53hd => ktr_room); (case w53hu => ktr_units)); intro x' dx' ox' od' h' tk' F' N' l1 l2 P'; (try k_lt l1); (try k_lt2 l2); (try k_sweep); (try dsimp only); (try k_fold)))
  k_with "m call ref" => ((k_here; (with_reducible show wpAny _ _ (call (Value.ref 298) _) _ _ _); k_dflt (refine' mk_number _ _ _ _ _ ?w54B ?w54F ?w54X ?w54N ?w54T ?w54hk ?w54hd ?w54hu ?_; (case w54B => k_asm); (case w54F => k_asm); (case w54X => k_asm); (case w54N => k_asm); (case w54T => k_asm); (case w54hk => first | exact rfl | assumption); (case w54hd => ktr_room); (case w54hu => ktr_units)); intro x' dx' ox' od' h' tk' F' N' l1 l2 P'; (try k_lt l1); (try k_lt2 l2); (try k_sweep); (try dsimp only); (try k_fold)))
  k_with "m call ref" => ((k_here; (with_reducible show wpAny _ _ (call (Value.ref 122) _) _ _ _); k_dflt (refine' mk_vector _ _ _ _ _ _ _ ?w55B ?w55F ?w55X ?w55N ?w55T ?w55hk ?w55hd ?w55hu ?_; (case w55B => k_asm); (case w55F => k_asm); (case w55X => k_asm); (case w55N => k_asm); (case w55T => k_asm); (case w55hk => first | exact rfl | assumption); (case w55hd => ktr_room); (case w55hu => ktr_units)); intro x' dx' ox' od' h' tk' F' N' l1 l2 P'; (try k_lt l1); (try k_lt2 l2); (try k_sweep); (try dsimp only); (try k_fold)))
  k_with "m call ref" => ((k_here; (with_reducible show wpAny _ _ (call (Value.ref 122) _) _ _ _); k_dflt (refine' mk_vector3 _ _ _ _ _ _ _ _ ?w56B ?w56F ?w56X ?w56N ?w56T ?w56hk ?w56hd ?w56hu ?_; (case w56B => k_asm); (case w56F => k_asm); (case w56X => k_asm); (case w56N => k_asm); (case w56T => k_asm); (case w56hk => first | exact rfl | assumption); (case w56hd => ktr_room); (case w56hu => ktr_units)); intro x' dx' ox' od' h' tk' F' N' l1 l2 P'; (try k_lt l1); (try k_lt2 l2); (try k_sweep); (try dsimp only); (try k_fold)))
  k_with "m call ref" => ((k_here; (with_reducible show wpAny _ _ (call (Value.ref 165) _) _ _ _); k_dflt (refine' mk_call _ _ _ _ _ _ ?w57B ?w57F ?w57X ?w57N ?w57T ?w57hk ?w57hd ?w57hu ?_; (case w57B => k_asm); (case w57F => k_asm); (case w57X => k_asm); (case w57N => k_asm); (case w57T => k_asm); (case w57hk => first | exact rfl | assumption); (case w57hd => ktr_room); (case w57hu => ktr_units)); intro x' dx' ox' od' h' tk' F' N' l1 l2 P'; (try k_lt l1); (try k_lt2 l2); (try k_sweep); obtain ⟨t9, P'⟩ := P'; (try dsimp only); (try k_fold)))
  k_with "m call ref" => ((k_here; (with_reducible show wpAny _ _ (call (Value.ref 165) _) _ _ _); k_dflt (refine' mk_call3 _ _ _ _ _ _ _ ?w58B ?w58F ?w58X ?w58N ?w58T ?w58hk ?w58hd ?w58hu ?_; (case w58B => k_asm); (case w58F => k_asm); (case w58X => k_asm); (case w58N => k_asm); (case w58T => k_asm); (case w58hk => first | exact rfl | assumption); (case w58hd => ktr_room); (case w58hu => ktr_units)); intro x' dx' ox' od' h' tk' F' N' l1 l2 P'; (try k_lt l1); (try k_lt2 l2); (try k_sweep); obtain ⟨t9, P'⟩ := P'; (try dsimp only); (try k_fold)))
  k_with "m call ref" => ((k_here; (with_reducible show wpAny _ _ (call (Value.ref 187) _) _ _ _); k_dflt (refine' mk_closure _ _ _ _ _ _ _ ?w59B ?w59F ?w59X ?w59N ?w59T ?w59hk ?w59hd ?w59hu ?_; (case w59B => k_asm); (case w59F => k_asm); (case w59X => k_asm); (case w59N => k_asm); (case w59T => k_asm); (case w59hk => first | exact rfl | assumption); (case w59hd => ktr_room); (case w59hu => ktr_units)); intro x' dx' ox' od' h' tk' F' N' l1 l2 P'; (try k_lt l1); (try k_lt2 l2); (try k_sweep); obtain ⟨t9, P'⟩ := P'; (try dsimp only); (try k_fold)))
  k_with "m call ref" => ((k_here; (with_reducible show wpAny _ _ (call (Value.ref 251) _) _ _ _); k_dflt (refine' mk_dots _ _ _ _ _ ?w60B ?w60F ?w60X ?w60N ?w60T ?w60hk ?w60hd ?w60hu ?_; (case w60B => k_asm); (case w60F => k_asm); (case w60X => k_asm); (case w60N => k_asm); (case w60T => k_asm); (case w60hk => first | exact rfl | assumption); (case w60hd => ktr_room); (case w60hu => ktr_units)); intro x' dx' ox' od' h' tk' F' N' l1 l2 P'; (try k_lt l1); (try k_lt2 l2); (try k_sweep); obtain ⟨t9, P'⟩ := P'; (try dsimp only); (try k_fold)))
  k_with "m call ref" => ((k_here; (with_reducible show wpAny _ _ (call (Value.ref 230) _) _ _ _); k_dflt (refine' mk_promise _ _ _ _ _ _ ?w61B ?w61F ?w61X ?w61N ?w61T ?w61hk ?w61hd ?w61hu ?_; (case w61B => k_asm); (case w61F => k_asm); (case w61X => k_asm); (case w61N => k_asm); (case w61T => k_asm); (case w61hk => first | exact rfl | assumption); (case w61hd => ktr_room); (case w61hu => ktr_units)); intro x' dx' ox' od' h' tk' F' N' l1 l2 P'; (try k_lt l1); (try k_lt2 l2); (try k_sweep); obtain ⟨e9, h0, h1, h2, h3, h4, h5, t, t0, t1, t2, t3, t4, t5, t6, e8⟩ := P'; subst e9; subst e8; (try dsimp only); (try k_fold)))
  k_with "m call ref" => ((k_here; (with_reducible show wpAny _ _ (call (Value.ref 319) _) _ _ _); k_dflt (refine' value_use ?w62B ?w62F ?w62X ?w62N ?w62T ?w62hk ?w62C ?w62hd ?w62hu ?w62hP ?w62h1 ?w62h2 ?w62hR ?w62x0 ?w62x6 ?w62de ?_; (case w62B => k_asm); (case w62F => k_asm); (case w62X => k_asm); (case w62N => k_asm); (case w62T => k_asm); (case w62hk => first | exact rfl | assumption); (case w62C => assumption); (case w62hd => ktr_room); (case w62hu => ktr_units); (case w62hP => assumption); (case w62h1 => assumption); (case w62h2 => assumption); (case w62hR => assumption); (case w62x0 => assumption); (case w62x6 => assumption); (case w62de => omega)); intro tp' sp' v' svs' np' ns' ls' k' tl' o' h' tk' F' N' P' hne' habv' htp' hsp' hints' hval' hlen' hlt'; (try dsimp only at N'); (try dsimp only); (try k_fold)))
  k_with "m setItem ref str" => ((k_here; k_dflt (refine' kda_set (knd := PySem.strKind _ _) ?w63F ?w63N ?w63U ?w63d (strKind_is _ _ _ _) ?w63z ?_; (case w63F => k_asm); (case w63N => k_asm); (case w63U => k_updF); (case w63d => k_asm); (case w63z => kob_size)); intro h' o' F' N' hd'; (try kob_lit); (try dsimp only at N')))
  k_with "m assign Tuple" => ((k_here; k_dflt (refine' unpackN_ ?w64F ?w64N ?w64T ?w64k1 ?w64k2 ?w64k3 ?_; (case w64F => k_asm); (case w64N => k_asm); (case w64T => exact isTup_in (by k_asm) (by k_mem)); (case w64k1 => exact rfl); (case w64k2 => exact rfl); (case w64k3 => exact rfl)); intro h' F' N'; (try k_sweep)))
  k_with "m binaryOp Add ref ref" => ((k_here; k_dflt (refine' kmk_add_ints ?w65F ?w65N ?w65a ?w65b ?w65i ?w65j ?_ ?w65z; (case w65F => k_asm); (case w65N => k_asm); (case w65a => exact News.isList (by k_asm) (by k_mem)); (case w65b => exact News.isList (by k_asm) (by k_mem)); (case w65i => l_ints); (case w65j => l_ints); (case w65z => (simp only [List.length_map, List.length_append, List.length_cons, List.length_nil]; rw [PySem.sizeLine_eq]; omega))); intro D' ws' h' F' N' l1 hI'; (try k_lt l1); (try k_sweep)))
  trivial
theorem lnltMS : True := by
  k_with "ltc" => (first | exact And.left (by assumption) | exact And.left (And.right (by assumption)) | exact And.left (And.right (And.right (by assumption))) | exact And.left (And.right (And.right (And.right (by assumption)))) | exact And.left (And.right (And.right (And.right (And.right (by assumption))))) | exact And.left (And.right (And.right (And.right (And.right (And.right (by assumption)))))) | exact And.left (And.right (And.right (And.right (And.right (And.right (And.right (by assumption))))))) | exact And.left (And.right (And.right (And.right (And.right (And.right (And.right (And.right (by assumption)))))))) | exact And.left (And.right (And.right (And.right (And.right (And.right (And.right (And.right (And.right (by assumption))))))))) | exact And.left (And.right (And.right (And.right (And.right (And.right (And.right (And.right (And.right (And.right (by assumption)))))))))) | exact And.left (And.right (And.right (And.right (And.right (And.right (And.right (And.right (And.right (And.right (And.right (by assumption))))))))))) | exact And.left (And.right (And.right (And.right (And.right (And.right (And.right (And.right (And.right (And.right (And.right (And.right (by assumption)))))))))))) | exact And.left (And.right (And.right (And.right (And.right (And.right (And.right (And.right (And.right (And.right (And.right (And.right (And.right (by assumption))))))))))))) | exact And.left (And.right (And.right (And.right (And.right (And.right (And.right (And.right (And.right (And.right (And.right (And.right (And.right (And.right (by assumption)))))))))))))) | exact And.left (And.right (And.right (And.right (And.right (And.right (And.right (And.right (And.right (And.right (And.right (And.right (And.right (And.right (And.right (by assumption))))))))))))))) | exact And.left (And.right (And.right (And.right (And.right (And.right (And.right (And.right (And.right (And.right (And.right (And.right (And.right (And.right (And.right (And.right (by assumption)))))))))))))))))
  k_with "lt" => (first | k_extra "ltc" | (refine Nat.lt_trans ?_ (by assumption); k_extra "ltc") | omega)
  trivial
set_option maxRecDepth 100000 in
set_option maxHeartbeats 8000000 in
theorem value_step (w : World) (mean : ExcName → Option Value) (mg mb : Str → Option Value) (d : Nat) (hd3 : d < 3) (C : ValueOk w mean mg mb d) : ValueOk w mean mg mb (d + 1) := by
  intro dp un gd cn cs a ccd cl outer A₀ base h₀ L m s Q E pl fg hl fo o xs nh R deep td B F X N T hk hdp hun hP hne1 hne2 hR hx0 hx6 hdeep ret
  have hdd : 0 ≤ deep ∧ deep < 3 := by omega
  have hB8 : BB d ≤ 8 ∧ 1 ≤ BB d := by
    rcases d with _ | _ | _ | d
    · decide
    · decide
    · decide
    · omega
  have hne3 : pl ≠ fg := by obtain ⟨_, _, _, _, _, _, _, _, _, _, _, _, _, _, _, _, h⟩ := hP; exact h
  have fin : ∀ {tp sp v : Nat} {svs : List Value} {np ns : Nat} {ls : List Nat} {k : Nat} {led tl : Led} {o' : Obj} {h' : Heap} {tk' : Nat}, Fr h₀ L h' m → News h₀ L h' led → Led3 pl fg hl o' fo (listOf (xs.map Value.ref).toArray nh) R led tl → PObj pl fg fo o' →
      (tp, ({ cls := .type "tuple", data := .seq #[.ref v, .ref sp] np } : Obj)) ∈ tl → (sp, listOf svs.toArray ns) ∈ tl → IntsAre svs (ls.map fun i : Nat => (i : Int)) → Val w xs tl (.ref v) ls k → ls.length + 1 ≤ 2 * BB d ∧ k + 3 ≤ 2 * (2 * BB d) → (∀ i ∈ ls, i < xs.length) → Q (.ref tp) { s with heap := h', toks := tk' } :=
    fun F' N' H P' a b c d e f => ret _ _ _ _ _ _ _ _ _ _ _ _ F' (fun p hp => N' p (H.mem p hp)) P' (H.abv.ne hR) H.abv a b c d e f
  clear ret
  refine wpAny_call ?_
  k_dflt ktr_enter
  k_steps
  · refine fin (by k_asm) (by k_asm) (by tb_start) (by assumption) (by k_mem) (svs := []) (by k_mem) (ls := []) .nil (Val.leaf (Shape.mono (by assumption) (sub2 (by k_mem) (by k_mem)))) (by refine ⟨?_, ?_⟩ <;> (first | omega | (simp only [List.length_append, List.length_cons, List.length_nil]; omega))) (fun i h => nomatch h)
  · refine fin (by k_asm) (by k_asm) (by tb_start) (by assumption) (by k_mem) (by k_mem) (ints_spot (by assumption)) (Val.env (by assumption)) (by refine ⟨?_, ?_⟩ <;> (first | omega | (simp only [List.length_append, List.length_cons, List.length_nil]; omega))) (spot_lt (by assumption))
  · refine fin (by k_asm) (by k_asm) (by tb_start) (by assumption) (by k_mem) (svs := []) (by k_mem) (ls := []) .nil (Val.leaf (Shape.mono (by assumption) (sub2 (by k_mem) (by k_mem)))) (by refine ⟨?_, ?_⟩ <;> (first | omega | (simp only [List.length_append, List.length_cons, List.length_nil]; omega))) (fun i h => nomatch h)
  · refine fin (by k_asm) (by k_asm) (by tb_start) (by assumption) (by k_mem) (svs := []) (by k_mem) (ls := []) .nil (Val.leaf (Shape.mono (by assumption) (sub2 (by k_mem) (by k_mem)))) (by refine ⟨?_, ?_⟩ <;> (first | omega | (simp only [List.length_append, List.length_cons, List.length_nil]; omega))) (fun i h => nomatch h)
  · refine fin (by k_asm) (by k_asm) (by tb_start) (by assumption) (by k_mem) (svs := []) (by k_mem) (ls := []) .nil (Val.leaf (Shape.mono (by assumption) (sub2 (by k_mem) (by k_mem)))) (by refine ⟨?_, ?_⟩ <;> (first | omega | (simp only [List.length_append, List.length_cons, List.length_nil]; omega))) (fun i h => nomatch h)
  · refine fin (by k_asm) (by k_asm) (by tb_start) (by assumption) (by k_mem) (by k_mem) (ints_app (by assumption)) (Val.mk2 (.list (Inst.mono (by assumption) (sub2 (by k_mem) (by k_mem))) ⟨_, by k_mem⟩) (by rfl) (Val.mono (by assumption) (by tb_rel)) (Val.mono (by assumption) (by tb_rel))) (by refine ⟨?_, ?_⟩ <;> (first | omega | (simp only [List.length_append, List.length_cons, List.length_nil]; omega))) (lt_app (by assumption) (by assumption))
  · refine fin (by k_asm) (by k_asm) (by tb_start) (by assumption) (by k_mem) (by k_mem) (ints_app (by assumption)) (Val.mk2 (.expression (Inst.mono (by assumption) (sub2 (by k_mem) (by k_mem))) ⟨_, by k_mem⟩) (by rfl) (Val.mono (by assumption) (by tb_rel)) (Val.mono (by assumption) (by tb_rel))) (by refine ⟨?_, ?_⟩ <;> (first | omega | (simp only [List.length_append, List.length_cons, List.length_nil]; omega))) (lt_app (by assumption) (by assumption))
  · refine fin (by k_asm) (by k_asm) (by tb_start) (by assumption) (by k_mem) (by k_mem) (ints_app (by assumption)) (Val.mk2 (.pairlist (Inst.mono (by assumption) (sub2 (by k_mem) (by k_mem))) ⟨_, by k_mem⟩) (by rfl) (Val.mono (by assumption) (by tb_rel)) (Val.mono (by assumption) (by tb_rel))) (by refine ⟨?_, ?_⟩ <;> (first | omega | (simp only [List.length_append, List.length_cons, List.length_nil]; omega))) (lt_app (by assumption) (by assumption))
  · refine fin (by k_asm) (by k_asm) (by tb_start) (by assumption) (by k_mem) (by k_mem) (by assumption) (Val.mk2 (.call (Inst.mono (by assumption) (sub2 (by k_mem) (by k_mem))) ⟨_, by k_mem⟩) (by rfl) (Val.leaf (Shape.mono (by assumption) (sub2 (by k_mem) (by k_mem)))) (Val.mono (by assumption) (by tb_rel))) (by refine ⟨?_, ?_⟩ <;> (first | omega | (simp only [List.length_append, List.length_cons, List.length_nil]; omega))) (by assumption)
  · refine fin (by k_asm) (by k_asm) (by tb_start) (by assumption) (by k_mem) (by k_mem) (ints_app3 (by assumption) (by assumption)) (Val.mkc (.closure (Inst.mono (by assumption) (sub2 (by k_mem) (by k_mem))) ⟨_, by k_mem⟩ ⟨_, by k_mem⟩ ⟨_, by k_mem⟩) (by rfl) (Val.mono (by assumption) (by tb_rel)) (Val.leaf (Shape.mono (by assumption) (sub2 (by k_mem) (by k_mem)))) (Val.mono (by assumption) (by tb_rel)) (Val.env (by assumption))) (by refine ⟨?_, ?_⟩ <;> (first | omega | (simp only [List.length_append, List.length_cons, List.length_nil]; omega))) (lt_app (lt_app (by assumption) (by assumption)) (spot_lt (by assumption)))
  · refine fin (by k_asm) (by k_asm) (by tb_start) (by assumption) (by k_mem) (by k_mem) (ints_spot (by assumption)) (Val.mk1 (.promise0 (inst6 (by k_mem) (by k_mem))) (by rfl) (Val.env (by assumption))) (by refine ⟨?_, ?_⟩ <;> (first | omega | (simp only [List.length_append, List.length_cons, List.length_nil]; omega))) (spot_lt (by assumption))
  · refine fin (by k_asm) (by k_asm) (by tb_start) (by assumption) (by k_mem) (by k_mem) (by assumption) (Val.mk1 (.promise2 (inst6 (by k_mem) (by k_mem))) (by rfl) (Val.mono (by assumption) (by tb_rel))) (by refine ⟨?_, ?_⟩ <;> (first | omega | (simp only [List.length_append, List.length_cons, List.length_nil]; omega))) (by assumption)
  · refine fin (by k_asm) (by k_asm) (by tb_start) (by assumption) (by k_mem) (by k_mem) (ints_spot (by assumption)) (Val.mk1 (.promise1 (inst6 (by k_mem) (by k_mem))) (by rfl) (Val.env (by assumption))) (by refine ⟨?_, ?_⟩ <;> (first | omega | (simp only [List.length_append, List.length_cons, List.length_nil]; omega))) (spot_lt (by assumption))
  · refine fin (by k_asm) (by k_asm) (by tb_start) (by assumption) (by k_mem) (by k_mem) (ints_app (by assumption)) (Val.mk2 (.dots (Inst.mono (by assumption) (sub2 (by k_mem) (by k_mem))) ⟨_, by k_mem⟩ ⟨_, by k_mem⟩ ⟨_, by k_mem⟩) (by rfl) (Val.mono (by assumption) (by tb_rel)) (Val.mono (by assumption) (by tb_rel))) (by refine ⟨?_, ?_⟩ <;> (first | omega | (simp only [List.length_append, List.length_cons, List.length_nil]; omega))) (lt_app (by assumption) (by assumption))
  · refine fin (by k_asm) (by k_asm) (by tb_start) (by assumption) (by k_mem) (by k_mem) (by assumption) (Val.mk1 (.s4 (inst4 (by k_mem) (by k_mem)) ⟨_, by k_mem, by assumption, by assumption⟩) (by rfl) (Val.mono (by assumption) (by tb_rel))) (by refine ⟨?_, ?_⟩ <;> (first | omega | (simp only [List.length_append, List.length_cons, List.length_nil]; omega))) (by assumption)
  · refine fin (by k_asm) (by k_asm) (by tb_start) (by assumption) (by k_mem) (by k_mem) (by assumption) (Val.mk2 (.integer (Inst.mono (by assumption) (sub2 (by k_mem) (by k_mem))) ⟨_, by k_mem, by assumption, by assumption⟩) (by rfl) (Val.leaf (Shape.mono (by assumption) (sub2 (by k_mem) (by k_mem)))) (Val.mono (by assumption) (by tb_rel))) (by refine ⟨?_, ?_⟩ <;> (first | omega | (simp only [List.length_append, List.length_cons, List.length_nil]; omega))) (by assumption)
  · refine fin (by k_asm) (by k_asm) (by tb_start) (by assumption) (by k_mem) (by k_mem) (by assumption) (Val.mk2 (.callA (Inst.mono (by assumption) (sub2 (by k_mem) (by k_mem))) ⟨_, by k_mem⟩ ⟨_, by k_mem, by assumption, by assumption⟩) (by rfl) (Val.leaf (Shape.mono (by assumption) (sub2 (by k_mem) (by k_mem)))) (Val.mono (by assumption) (by tb_rel))) (by refine ⟨?_, ?_⟩ <;> (first | omega | (simp only [List.length_append, List.length_cons, List.length_nil]; omega))) (by assumption)
theorem lnME : True := by
  k_with_none
  trivial
/-! environments -/
def EInst (Z : Led) (x : Nat) (num : Int) (p a : Value) (d : Nat) : Prop :=
  ∃ t tn lk, Inst Z x 209 [("kind", .str "environment" t), ("number", .int num tn), ("parent", p), ("attrs", a), ("frame", .ref d), ("locked", .bool false), ("locks", .ref lk)]
inductive EShape (w : World) (Z : Led) : Nat → Int → List Value → List Value → Prop
  | e0 {x num d kvs} : EInst Z x num .none .none d → Dct w Z d kvs → kvs.length ≤ 2 → EShape w Z x num (kvs.map (·.2)) []
  | e1 {x num d y kvs} : EInst Z x num (.ref y) .none d → Dct w Z d kvs → kvs.length ≤ 2 → EShape w Z x num (kvs.map (·.2) ++ [.ref y]) []
  | a0 {x num d e kvs kvs2} : EInst Z x num .none (.ref e) d → Dct w Z d kvs → kvs.length ≤ 2 → Dct w Z e kvs2 → kvs2.length ≤ 2 → EShape w Z x num (kvs.map (·.2)) (kvs2.map (·.2))
theorem EInst.mono {Z Z' : Led} {x d : Nat} {num : Int} {p a : Value} (h : EInst Z x num p a d) (hs : ∀ q ∈ Z, q ∈ Z') : EInst Z' x num p a d := let ⟨t, tn, lk, i⟩ := h; ⟨t, tn, lk, i.mono hs⟩
theorem EShape.mono {w : World} {Z Z' : Led} {x : Nat} {num : Int} {vs1 vs2 : List Value} (h : EShape w Z x num vs1 vs2) (hs : ∀ q ∈ Z, q ∈ Z') : EShape w Z' x num vs1 vs2 := by
  cases h with
  | e0 a b c => exact .e0 (a.mono hs) (b.mono hs) c
  | e1 a b c => exact .e1 (a.mono hs) (b.mono hs) c
  | a0 a b c d e => exact .a0 (a.mono hs) (b.mono hs) c (d.mono hs) e
theorem off1_ne {D : Nat} : ∀ {l : Led}, LCg.Off1 D l → ∀ p ∈ l, @Ne Nat p.1 D
  | [], _, _, h => nomatch h
  | _ :: _, x, p, h => by
    rcases List.mem_cons.mp h with rfl | h
    · exact x.1
    · exact off1_ne x.2 p h
theorem ltNe {D : Nat} {l : Led} (h : AllLt D l) : ∀ p ∈ l, @Ne Nat p.1 D := fun p hp => Nat.ne_of_lt (allLt_mem h p hp)
def ReadOk (w : World) (mean : ExcName → Option Value) (mg mb : Str → Option Value) (f : Nat) (v : Value) (news : Led) (vs : List Value) : Prop :=
  ∀ {dp un : Nat} {gd : Option (List Code)} {cn : Str} {cs : Scope} {a : Addr} {ccd : Value} {cl : List (Str × Addr)} {outer : List Env} {A₀ : Around} {base h₀ : Heap} {L : Addr} {m : Str → Option Value} {s : Shared} {Q E : Value → Shared → Prop},
    Below A₀ base outer h₀ → Fr h₀ L s.heap m → (KF w.params).In h₀ → News h₀ L s.heap news → Top VW Lo mean mg mb h₀ → cs.kind = .function → dp + 12 < 1000 → un + 150 < 9900 →
    (∀ (l n : Nat) (h' : Heap) (tk' : Nat), Fr h₀ L h' m → News h₀ L h' ((l, listOf vs.toArray n) :: news) → (∀ p ∈ news, @Ne Nat p.1 l) → Q (.ref l) { s with heap := h', toks := tk' }) →
    wpAny (model PySem.Challenge.rw_nz0470_01.row.prog w) (ktrTop dp un gd cn cs L a ccd cl outer) (call (.ref f) [v]) Q E s
theorem read_fin {h₀ : Heap} {L : Addr} {m : Str → Option Value} {s : Shared} {Q : Value → Shared → Prop} {news : Led} {vs : List Value}
    (ret : ∀ (l n : Nat) (h' : Heap) (tk' : Nat), Fr h₀ L h' m → News h₀ L h' ((l, listOf vs.toArray n) :: news) → (∀ p ∈ news, @Ne Nat p.1 l) → Q (.ref l) { s with heap := h', toks := tk' })
    {l n : Nat} {h' : Heap} {tk' : Nat} {led : Led} (F : Fr h₀ L h' m) (N : News h₀ L h' led) (h1 : (l, listOf vs.toArray n) ∈ led) (h3 : ∀ p ∈ news, p ∈ led) (h4 : ∀ p ∈ news, @Ne Nat p.1 l) : Q (.ref l) { s with heap := h', toks := tk' } := by
  refine ret l n h' tk' F (fun p hp => ?_) h4
  rcases List.mem_cons.mp hp with rfl | hp
  · exact N _ h1
  · exact N _ (h3 p hp)
theorem read_fin2 {h₀ : Heap} {L : Addr} {m : Str → Option Value} {s : Shared} {Q : Value → Shared → Prop} {news : Led} {vs : List Value}
    (ret : ∀ (l n : Nat) (h' : Heap) (tk' : Nat), Fr h₀ L h' m → News h₀ L h' ((l, listOf vs.toArray n) :: news) → (∀ p ∈ news, @Ne Nat p.1 l) → Q (.ref l) { s with heap := h', toks := tk' })
    {l n : Nat} {h' : Heap} {tk' : Nat} {led : Led} {its : Array Value} (F : Fr h₀ L h' m) (N : News h₀ L h' led) (h1 : (l, listOf its n) ∈ led) (e9 : its = vs.toArray) (h3 : ∀ p ∈ news, p ∈ led) (h4 : ∀ p ∈ news, @Ne Nat p.1 l) : Q (.ref l) { s with heap := h', toks := tk' } := by
  subst e9
  refine ret l n h' tk' F (fun p hp => ?_) h4
  rcases List.mem_cons.mp hp with rfl | hp
  · exact N _ h1
  · exact N _ (h3 p hp)
theorem fillP : (∀ P, KF P = KF P) ∧ PySem.Challenge.rw_nz0470_01 = PySem.Challenge.rw_nz0470_01 := by
  k_fill
  exact ⟨fun _ => rfl, rfl⟩
theorem lnMPa : True := by
  k_with "t k_all" => (assumption)
  k_with "t k_mem" => (first | exact List.Mem.head _ | (refine' List.mem_cons_of_mem _ ?_; k_mem) | ktr_member | (ktn_app; first | (refine List.mem_append.mpr (Or.inl ?_); k_mem) | (refine List.mem_append.mpr (Or.inr ?_); k_mem)))
  k_with "t k_room" => (ktr_room)
  k_with "t k_units" => (ktr_units)
  k_with "m callWith ref" => ((k_here; k_dflt (first
    | (refine' callWith_K ?w70k1 ?w70k2 ?_; (case w70k1 => k_asm); (case w70k2 => k_is); k_whole)
    | (refine' callWith_K0 ?w70k1 ?w70k2 ?_; (case w70k1 => k_in); (case w70k2 => k_is); k_whole))))
  k_with "t tbn_lt" => (first | tbn_find | exact allLt_of (by assumption) | exact allLt_r (by tbn_find) | exact allLt_r (allLt_r (by tbn_find)) | exact tbn_up (by assumption) (by first | tbn_find | exact allLt_of (by assumption) | exact allLt_r (by tbn_find) | exact allLt_r (allLt_r (by tbn_find))))
  k_with "t tb_start" => (first | exact Led3.base0 | exact Led3.base2 (by assumption) (by assumption) | exact Led3.base1 (by assumption) | (refine' Led3.step ?w72tba ?w72tbb ?w72tbc ?w72tbd ?w72tbe; (case w72tba => omega); (case w72tbb => omega); (case w72tbc => omega); (case w72tbd => tbn_lt); (case w72tbe => tb_start)))
  k_with "t tb_rel" => ((intro p hp; (repeat' (refine List.Mem.tail _ ?_)); first | exact hp | exact List.mem_append_left _ hp | exact List.mem_append_right _ hp))
  k_with "t k_enter" => ((refine' code_def ?w74k1 ?w74k2 ?w74k3 ?w74k4 ?w74k5 ?w74kA ?w74kF ?w74kK ?w74k6 ?w74k7 ?w74k8 ?w74k9 ?w74kB ?_ ?w74c2 ?w74c3 ?w74c4 ?w74c5; (case w74kA => exact rfl); (case w74kF => exact rfl); (case w74kK => first | exact rfl | assumption); (case w74k1 => k_asm); (case w74k2 => k_asm); (case w74k3 => k_asm); (case w74k4 => k_asm); (case w74k5 => k_asm); (case w74k6 => k_is); (case w74k7 => k_is); (case w74k8 => ktr_room); (case w74k9 => first | exact BindsTo.of_eq rfl | exact binds_K (by k_in) rfl (by k_is) rfl rfl rfl); (case w74c5 => decide); (case w74kB => exact locs rfl); (case w74c2 => exact rfl); (case w74c3 => exact rfl); (case w74c4 => exact rfl); k_whole; intro g' L' h' FG' F' N' B' X' T'; (try dsimp only); (try k_fold)))
  k_with "t k_enter" => ((refine' code_defC ?w75k1 ?w75k2 ?w75k3 ?w75k4 ?w75k5 ?w75kA ?w75kF ?w75kK ?w75k6 ?w75k7 ?w75k8 ?w75k9 ?w75kB ?w75kD ?_ ?w75c2 ?w75c3 ?w75c4; (case w75kA => exact rfl); (case w75kF => exact rfl); (case w75kK => first | exact rfl | assumption); (case w75k1 => k_asm); (case w75k2 => k_asm); (case w75k3 => k_asm); (case w75k4 => k_asm); (case w75k5 => k_asm); (case w75k6 => k_is); (case w75k7 => k_is); (case w75k8 => ktr_room); (case w75k9 => first | exact BindsTo.of_eq rfl | exact binds_K (by k_in) rfl (by k_is) rfl rfl rfl); (case w75kB => exact rfl); (case w75kD => decide +kernel); (case w75c2 => exact rfl); (case w75c3 => exact rfl); (case w75c4 => exact rfl); k_whole; intro g' L' h' tk' cells' FG' F' N' Y' B' X' T' l1; (try k_lt l1); k_cells Y'; (try simp only [List.cons_append, List.nil_append] at N'); (try dsimp only); (try k_fold)))
  k_with "m CompEnd" => ((k_dflt (refine LCg.CompEnd.intro (by assumption) (by assumption) _ (fun _ h => h) (by assumption) (by lcg_src) ?_)))
  k_with "m eval ListComp" => ((k_here; lcf_look; lcg_calm; k_dflt (refine ListComp_D (by k_asm) (by with_unfolding_all rfl) (by decide) (by rfl) (by decide) (by rfl) ?_)))
  k_with "m exec Assign cons ListComp" => ((k_here; lcf_look; lcg_calm; k_dflt (refine Assign_ListComp_D (by k_asm) (by rfl) (by with_unfolding_all rfl) (by with_unfolding_all rfl) (by decide) (by rfl) (by decide) (by rfl) (by rfl) (by rfl) ?_)))
  k_with "m SrcD" => ((k_dflt (refine' SrcD.intro ?w79F ?w79N ?w79X ?w79D ?w79lo ?w79dd ?w79m ?w79gt ?_ ?w79c ?w79d ?w79z ?w79hh ?w79kx ?w79ky ?w79kf ?w79bx ?w79by_; (case w79F => k_asm); (case w79N => k_asm); (case w79X => k_asm); (case w79D => k_mem); (case w79lo => assumption); (case w79dd => assumption); (case w79c => rfl); (case w79m => k_mem); (case w79d => k_asm); (case w79gt => (first | (refine GetOk.mono (by assumption) ?_; tb_rel) | (intro A1 E1 s1 h1 L1 m1 Q1 F1 X1 N1 q1; refine' get_own F1 X1 ?w79k3 ?w79k4 ?w79k5 ?w79k6 ?w79k7 ?w79k8 ?w79k9 q1; (case w79k3 => k_inst); (case w79k4 => k_is); (case w79k5 => k_is); (case w79k6 => k_is); (case w79k7 => k_is); (case w79k8 => k_get); (case w79k9 => k_handed)))); (case w79z => first | exact Nat.le_of_ble_eq_true rfl | (rw [sizeLine_eq]; omega)); (case w79hh => rfl); (case w79kx => intro _; rfl); (case w79ky => intro _; rfl); (case w79kf => intro _; rfl); (case w79bx => decide); (case w79by_ => decide)); intro s2' hs2'; obtain ⟨g', eg'⟩ := hs2'; subst eg'; dsimp only [List.map]))
  k_with "m call builtin:list.append" => ((k_here; (with_reducible show wpAny _ _ (call (Value.builtin _) [Value.ref _, _]) _ _ _); k_dflt (refine' append_K ?w80k1 ?w80k2 ?w80k3 ?_ ?w80z; (case w80k1 => k_asm); (case w80k2 => k_asm); (case w80k3 => exact Upd.head (off1_ne (by assumption))); (case w80z => size_fits); k_whole); intro h' F' N'; (try k_sweep)))
  k_with "t tb_rel" => ((intro p hp; first | exact hp | (repeat' (first | exact hp | (refine List.Mem.tail _ ?_)))))
  k_with "t tb_start" => ((refine read_fin ret (by k_asm) (by k_asm) (by k_mem) (by tb_rel) (by first | exact ltNe (by first | tbn_find | exact allLt_of (by assumption)) | exact off1_ne (by assumption) | exact off1_ne (And.right (And.right (by assumption))) | exact off1_ne (And.right (by assumption)))))
  trivial
set_option maxRecDepth 100000 in
set_option maxHeartbeats 8000000 in
theorem parts_ok (w : World) (mean : ExcName → Option Value) (mg mb : Str → Option Value) {news : Led} {x : Nat} {kd : Str} {vs1 vs2 : List Value} (S : Shape w news x kd vs1 vs2) : ReadOk w mean mg mb 48 (.ref x) news vs1 := by
  intro dp un gd cn cs a ccd cl outer A₀ base h₀ L m s Q E B F X N T hk hdp hun ret
  cases S
  case null i => (obtain ⟨dx, hs, n, hx, hd⟩ := i; simp only [mkEs] at hd; k_steps; all_goals (refine read_fin ret (by k_asm) (by k_asm) (by k_mem) (by tb_rel) (by first | exact ltNe (by first | tbn_find | exact allLt_of (by assumption)) | exact off1_ne (by assumption) | exact off1_ne (And.right (And.right (by assumption))) | exact off1_ne (And.right (by assumption)))))
  case missing i => (obtain ⟨dx, hs, n, hx, hd⟩ := i; simp only [mkEs] at hd; k_steps; all_goals (refine read_fin ret (by k_asm) (by k_asm) (by k_mem) (by tb_rel) (by first | exact ltNe (by first | tbn_find | exact allLt_of (by assumption)) | exact off1_ne (by assumption) | exact off1_ne (And.right (And.right (by assumption))) | exact off1_ne (And.right (by assumption)))))
  case symbol i => (obtain ⟨dx, hs, n, hx, hd⟩ := i; simp only [mkEs] at hd; k_steps; all_goals (refine read_fin ret (by k_asm) (by k_asm) (by k_mem) (by tb_rel) (by first | exact ltNe (by first | tbn_find | exact allLt_of (by assumption)) | exact off1_ne (by assumption) | exact off1_ne (And.right (And.right (by assumption))) | exact off1_ne (And.right (by assumption)))))
  case double i => (obtain ⟨dx, hs, n, hx, hd⟩ := i; simp only [mkEs] at hd; k_steps; all_goals (refine read_fin ret (by k_asm) (by k_asm) (by k_mem) (by tb_rel) (by first | exact ltNe (by first | tbn_find | exact allLt_of (by assumption)) | exact off1_ne (by assumption) | exact off1_ne (And.right (And.right (by assumption))) | exact off1_ne (And.right (by assumption)))))
  case list i l => (obtain ⟨dx, hs, n, hx, hd⟩ := i; obtain ⟨nl, hl⟩ := l; simp only [mkEs] at hd; k_steps; all_goals (refine read_fin ret (by k_asm) (by k_asm) (by k_mem) (by tb_rel) (by first | exact ltNe (by first | tbn_find | exact allLt_of (by assumption)) | exact off1_ne (by assumption) | exact off1_ne (And.right (And.right (by assumption))) | exact off1_ne (And.right (by assumption)))))
  case expression i l => (obtain ⟨dx, hs, n, hx, hd⟩ := i; obtain ⟨nl, hl⟩ := l; simp only [mkEs] at hd; k_steps; all_goals (refine read_fin ret (by k_asm) (by k_asm) (by k_mem) (by tb_rel) (by first | exact ltNe (by first | tbn_find | exact allLt_of (by assumption)) | exact off1_ne (by assumption) | exact off1_ne (And.right (And.right (by assumption))) | exact off1_ne (And.right (by assumption)))))
  case pairlist i l => (obtain ⟨dx, hs, n, hx, hd⟩ := i; obtain ⟨nl, hl⟩ := l; simp only [mkEs] at hd; k_steps; all_goals (refine read_fin ret (by k_asm) (by k_asm) (by k_mem) (by tb_rel) (by first | exact ltNe (by first | tbn_find | exact allLt_of (by assumption)) | exact off1_ne (by assumption) | exact off1_ne (And.right (And.right (by assumption))) | exact off1_ne (And.right (by assumption)))))
  case integer i d => (obtain ⟨dx, hs, n, hx, hd⟩ := i; obtain ⟨od, ho, hm9, hi9⟩ := d; simp only [mkEs] at hd; k_steps; all_goals (refine read_fin ret (by k_asm) (by k_asm) (by k_mem) (by tb_rel) (by first | exact ltNe (by first | tbn_find | exact allLt_of (by assumption)) | exact off1_ne (by assumption) | exact off1_ne (And.right (And.right (by assumption))) | exact off1_ne (And.right (by assumption)))))
  case call i l => (obtain ⟨dx, hs, n, hx, hd⟩ := i; obtain ⟨nl, hl⟩ := l; simp only [mkEs] at hd; k_steps; all_goals (refine read_fin ret (by k_asm) (by k_asm) (by k_mem) (by tb_rel) (by first | exact ltNe (by first | tbn_find | exact allLt_of (by assumption)) | exact off1_ne (by assumption) | exact off1_ne (And.right (And.right (by assumption))) | exact off1_ne (And.right (by assumption)))))
  case callA i l d => (obtain ⟨dx, hs, n, hx, hd⟩ := i; obtain ⟨nl, hl⟩ := l; obtain ⟨od, ho, hm9, hi9⟩ := d; simp only [mkEs] at hd; k_steps; all_goals (refine read_fin ret (by k_asm) (by k_asm) (by k_mem) (by tb_rel) (by first | exact ltNe (by first | tbn_find | exact allLt_of (by assumption)) | exact off1_ne (by assumption) | exact off1_ne (And.right (And.right (by assumption))) | exact off1_ne (And.right (by assumption)))))
  case closure i l t u => (obtain ⟨dx, hs, n, hx, hd⟩ := i; obtain ⟨nl, hl⟩ := l; obtain ⟨n1, h1⟩ := t; obtain ⟨n2, h2⟩ := u; simp only [mkEs] at hd; k_steps; all_goals (refine read_fin ret (by k_asm) (by k_asm) (by k_mem) (by tb_rel) (by first | exact ltNe (by first | tbn_find | exact allLt_of (by assumption)) | exact off1_ne (by assumption) | exact off1_ne (And.right (And.right (by assumption))) | exact off1_ne (And.right (by assumption)))))
  case promise0 i => (obtain ⟨dx, hs, n, hx, hd⟩ := i; simp only [mkEs] at hd; k_steps; all_goals (refine read_fin ret (by k_asm) (by k_asm) (by k_mem) (by tb_rel) (by first | exact ltNe (by first | tbn_find | exact allLt_of (by assumption)) | exact off1_ne (by assumption) | exact off1_ne (And.right (And.right (by assumption))) | exact off1_ne (And.right (by assumption)))))
  case promise1 i => (obtain ⟨dx, hs, n, hx, hd⟩ := i; simp only [mkEs] at hd; k_steps; all_goals (refine read_fin ret (by k_asm) (by k_asm) (by k_mem) (by tb_rel) (by first | exact ltNe (by first | tbn_find | exact allLt_of (by assumption)) | exact off1_ne (by assumption) | exact off1_ne (And.right (And.right (by assumption))) | exact off1_ne (And.right (by assumption)))))
  case promise2 i => (obtain ⟨dx, hs, n, hx, hd⟩ := i; simp only [mkEs] at hd; k_steps; all_goals (refine read_fin ret (by k_asm) (by k_asm) (by k_mem) (by tb_rel) (by first | exact ltNe (by first | tbn_find | exact allLt_of (by assumption)) | exact off1_ne (by assumption) | exact off1_ne (And.right (And.right (by assumption))) | exact off1_ne (And.right (by assumption)))))
  case dots i l t u => (obtain ⟨dx, hs, n, hx, hd⟩ := i; obtain ⟨nl, hl⟩ := l; obtain ⟨n1, h1⟩ := t; obtain ⟨n2, h2⟩ := u; simp only [mkEs] at hd; k_steps; all_goals (refine read_fin ret (by k_asm) (by k_asm) (by k_mem) (by tb_rel) (by first | exact ltNe (by first | tbn_find | exact allLt_of (by assumption)) | exact off1_ne (by assumption) | exact off1_ne (And.right (And.right (by assumption))) | exact off1_ne (And.right (by assumption)))))
  case s4 i d => (obtain ⟨dx, hs, n, hx, hd⟩ := i; obtain ⟨od, ho, hm9, hi9⟩ := d; simp only [mkEs] at hd; k_steps; all_goals (refine read_fin ret (by k_asm) (by k_asm) (by k_mem) (by tb_rel) (by first | exact ltNe (by first | tbn_find | exact allLt_of (by assumption)) | exact off1_ne (by assumption) | exact off1_ne (And.right (And.right (by assumption))) | exact off1_ne (And.right (by assumption)))))
theorem fillPE : (∀ P, KF P = KF P) ∧ PySem.Challenge.rw_nz0470_01 = PySem.Challenge.rw_nz0470_01 := by
  k_fill
  exact ⟨fun _ => rfl, rfl⟩
theorem lnMPEa : True := by
  k_with_none
  k_with "t k_all" => (assumption)
  k_with "t k_mem" => (first | exact List.Mem.head _ | (refine' List.mem_cons_of_mem _ ?_; k_mem) | ktr_member | (ktn_app; first | (refine List.mem_append.mpr (Or.inl ?_); k_mem) | (refine List.mem_append.mpr (Or.inr ?_); k_mem)))
  k_with "t k_room" => (ktr_room)
  k_with "t k_units" => (ktr_units)
  k_with "m callWith ref" => ((k_here; k_dflt (first
    | (refine' callWith_K ?w87k1 ?w87k2 ?_; (case w87k1 => k_asm); (case w87k2 => k_is); k_whole)
    | (refine' callWith_K0 ?w87k1 ?w87k2 ?_; (case w87k1 => k_in); (case w87k2 => k_is); k_whole))))
  k_with "t tbn_lt" => (first | tbn_find | exact allLt_of (by assumption) | exact allLt_r (by tbn_find) | exact allLt_r (allLt_r (by tbn_find)) | exact tbn_up (by assumption) (by first | tbn_find | exact allLt_of (by assumption) | exact allLt_r (by tbn_find) | exact allLt_r (allLt_r (by tbn_find))))
  k_with "t tb_start" => (first | exact Led3.base0 | exact Led3.base2 (by assumption) (by assumption) | exact Led3.base1 (by assumption) | (refine' Led3.step ?w89tba ?w89tbb ?w89tbc ?w89tbd ?w89tbe; (case w89tba => omega); (case w89tbb => omega); (case w89tbc => omega); (case w89tbd => tbn_lt); (case w89tbe => tb_start)))
  k_with "t tb_rel" => ((intro p hp; (repeat' (refine List.Mem.tail _ ?_)); first | exact hp | exact List.mem_append_left _ hp | exact List.mem_append_right _ hp))
  k_with "t k_enter" => ((refine' code_def ?w91k1 ?w91k2 ?w91k3 ?w91k4 ?w91k5 ?w91kA ?w91kF ?w91kK ?w91k6 ?w91k7 ?w91k8 ?w91k9 ?w91kB ?_ ?w91c2 ?w91c3 ?w91c4 ?w91c5; (case w91kA => exact rfl); (case w91kF => exact rfl); (case w91kK => first | exact rfl | assumption); (case w91k1 => k_asm); (case w91k2 => k_asm); (case w91k3 => k_asm); (case w91k4 => k_asm); (case w91k5 => k_asm); (case w91k6 => k_is); (case w91k7 => k_is); (case w91k8 => ktr_room); (case w91k9 => first | exact BindsTo.of_eq rfl | exact binds_K (by k_in) rfl (by k_is) rfl rfl rfl); (case w91c5 => decide); (case w91kB => exact locs rfl); (case w91c2 => exact rfl); (case w91c3 => exact rfl); (case w91c4 => exact rfl); k_whole; intro g' L' h' FG' F' N' B' X' T'; (try dsimp only); (try k_fold)))
  k_with "t k_enter" => ((refine' code_defC ?w92k1 ?w92k2 ?w92k3 ?w92k4 ?w92k5 ?w92kA ?w92kF ?w92kK ?w92k6 ?w92k7 ?w92k8 ?w92k9 ?w92kB ?w92kD ?_ ?w92c2 ?w92c3 ?w92c4; (case w92kA => exact rfl); (case w92kF => exact rfl); (case w92kK => first | exact rfl | assumption); (case w92k1 => k_asm); (case w92k2 => k_asm); (case w92k3 => k_asm); (case w92k4 => k_asm); (case w92k5 => k_asm); (case w92k6 => k_is); (case w92k7 => k_is); (case w92k8 => ktr_room); (case w92k9 => first | exact BindsTo.of_eq rfl | exact binds_K (by k_in) rfl (by k_is) rfl rfl rfl); (case w92kB => exact rfl); (case w92kD => decide +kernel); (case w92c2 => exact rfl); (case w92c3 => exact rfl); (case w92c4 => exact rfl); k_whole; intro g' L' h' tk' cells' FG' F' N' Y' B' X' T' l1; (try k_lt l1); k_cells Y'; (try simp only [List.cons_append, List.nil_append] at N'); (try dsimp only); (try k_fold)))
  k_with "m CompEnd" => ((k_dflt (refine LCg.CompEnd.intro (by assumption) (by assumption) _ (fun _ h => h) (by assumption) (by lcg_src) ?_)))
  k_with "m eval ListComp" => ((k_here; lcf_look; lcg_calm; k_dflt (refine ListComp_D (by k_asm) (by with_unfolding_all rfl) (by decide) (by rfl) (by decide) (by rfl) ?_)))
  k_with "m exec Assign cons ListComp" => ((k_here; lcf_look; lcg_calm; k_dflt (refine Assign_ListComp_D (by k_asm) (by rfl) (by with_unfolding_all rfl) (by with_unfolding_all rfl) (by decide) (by rfl) (by decide) (by rfl) (by rfl) (by rfl) ?_)))
  k_with "m SrcD" => ((k_dflt (refine' SrcD.intro ?w96F ?w96N ?w96X ?w96D ?w96lo ?w96dd ?w96m ?w96gt ?_ ?w96c ?w96d ?w96z ?w96hh ?w96kx ?w96ky ?w96kf ?w96bx ?w96by_; (case w96F => k_asm); (case w96N => k_asm); (case w96X => k_asm); (case w96D => k_mem); (case w96lo => assumption); (case w96dd => assumption); (case w96c => rfl); (case w96m => k_mem); (case w96d => k_asm); (case w96gt => (first | (refine GetOk.mono (by assumption) ?_; tb_rel) | (intro A1 E1 s1 h1 L1 m1 Q1 F1 X1 N1 q1; refine' get_own F1 X1 ?w96k3 ?w96k4 ?w96k5 ?w96k6 ?w96k7 ?w96k8 ?w96k9 q1; (case w96k3 => k_inst); (case w96k4 => k_is); (case w96k5 => k_is); (case w96k6 => k_is); (case w96k7 => k_is); (case w96k8 => k_get); (case w96k9 => k_handed)))); (case w96z => first | exact Nat.le_of_ble_eq_true rfl | (rw [sizeLine_eq]; omega)); (case w96hh => rfl); (case w96kx => intro _; rfl); (case w96ky => intro _; rfl); (case w96kf => intro _; rfl); (case w96bx => decide); (case w96by_ => decide)); intro s2' hs2'; obtain ⟨g', eg'⟩ := hs2'; subst eg'; dsimp only [List.map]))
  k_with "m call builtin:list.append" => ((k_here; (with_reducible show wpAny _ _ (call (Value.builtin _) [Value.ref _, _]) _ _ _); k_dflt (refine' append_K ?w97k1 ?w97k2 ?w97k3 ?_ ?w97z; (case w97k1 => k_asm); (case w97k2 => k_asm); (case w97k3 => exact Upd.head (off1_ne (by assumption))); (case w97z => size_fits); k_whole); intro h' F' N'; (try k_sweep)))
  k_with "t tb_rel" => ((intro p hp; first | exact hp | (repeat' (first | exact hp | (refine List.Mem.tail _ ?_)))))
  k_with "t tb_start" => ((refine read_fin ret (by k_asm) (by k_asm) (by k_mem) (by tb_rel) (by first | exact ltNe (by first | tbn_find | exact allLt_of (by assumption)) | exact off1_ne (by assumption) | exact off1_ne (And.right (And.right (by assumption))) | exact off1_ne (And.right (by assumption)))))
  trivial
set_option maxRecDepth 100000 in
set_option maxHeartbeats 8000000 in
theorem eparts_ok (w : World) (mean : ExcName → Option Value) (mg mb : Str → Option Value) {news : Led} {x : Nat} {num : Int} {vs1 vs2 : List Value} (S : EShape w news x num vs1 vs2) : ReadOk w mean mg mb 48 (.ref x) news vs1 := by
  intro dp un gd cn cs a ccd cl outer A₀ base h₀ L m s Q E B F X N T hk hdp hun ret
  cases S
  case e0 i d hkl => (obtain ⟨t9, tn9, lk9, i⟩ := i; obtain ⟨dx, hs, n, hx, hd⟩ := i; simp only [mkEs] at hd; obtain ⟨od, ho, hm9, hi9⟩ := d; k_steps; all_goals (refine read_fin ret (by k_asm) (by k_asm) (by k_mem) (by tb_rel) (by first | exact ltNe (by first | tbn_find | exact allLt_of (by assumption)) | exact off1_ne (by assumption) | exact off1_ne (And.right (And.right (by assumption))) | exact off1_ne (And.right (by assumption)))))
  case e1 i d hkl => (obtain ⟨t9, tn9, lk9, i⟩ := i; obtain ⟨dx, hs, n, hx, hd⟩ := i; simp only [mkEs] at hd; obtain ⟨od, ho, hm9, hi9⟩ := d; k_steps; all_goals (refine read_fin2 ret (by k_asm) (by k_asm) (by k_mem) (by simp) (by tb_rel) (by first | exact ltNe (by first | tbn_find | exact allLt_of (by assumption)) | exact off1_ne (by assumption) | exact off1_ne (And.right (And.right (by assumption))) | exact off1_ne (And.right (by assumption)))))
  case a0 i d hkl e hkl2 => (obtain ⟨t9, tn9, lk9, i⟩ := i; obtain ⟨dx, hs, n, hx, hd⟩ := i; simp only [mkEs] at hd; obtain ⟨od, ho, hm9, hi9⟩ := d; obtain ⟨od2, ho2, hm8, hi8⟩ := e; k_steps; all_goals (refine read_fin ret (by k_asm) (by k_asm) (by k_mem) (by tb_rel) (by first | exact ltNe (by first | tbn_find | exact allLt_of (by assumption)) | exact off1_ne (by assumption) | exact off1_ne (And.right (And.right (by assumption))) | exact off1_ne (And.right (by assumption)))))
theorem fillPG : (∀ P, KF P = KF P) ∧ PySem.Challenge.rw_nz0470_01 = PySem.Challenge.rw_nz0470_01 := by
  k_fill
  exact ⟨fun _ => rfl, rfl⟩
theorem lnMPGa : True := by
  k_with_none
  k_with "t k_all" => (assumption)
  k_with "t k_mem" => (first | exact List.Mem.head _ | (refine' List.mem_cons_of_mem _ ?_; k_mem) | ktr_member | (ktn_app; first | (refine List.mem_append.mpr (Or.inl ?_); k_mem) | (refine List.mem_append.mpr (Or.inr ?_); k_mem)))
  k_with "t k_room" => (ktr_room)
  k_with "t k_units" => (ktr_units)
  k_with "m callWith ref" => ((k_here; k_dflt (first
    | (refine' callWith_K ?w104k1 ?w104k2 ?_; (case w104k1 => k_asm); (case w104k2 => k_is); k_whole)
    | (refine' callWith_K0 ?w104k1 ?w104k2 ?_; (case w104k1 => k_in); (case w104k2 => k_is); k_whole))))
  k_with "t tbn_lt" => (first | tbn_find | exact allLt_of (by assumption) | exact allLt_r (by tbn_find) | exact allLt_r (allLt_r (by tbn_find)) | exact tbn_up (by assumption) (by first | tbn_find | exact allLt_of (by assumption) | exact allLt_r (by tbn_find) | exact allLt_r (allLt_r (by tbn_find))))
  k_with "t tb_start" => (first | exact Led3.base0 | exact Led3.base2 (by assumption) (by assumption) | exact Led3.base1 (by assumption) | (refine' Led3.step ?w106tba ?w106tbb ?w106tbc ?w106tbd ?w106tbe; (case w106tba => omega); (case w106tbb => omega); (case w106tbc => omega); (case w106tbd => tbn_lt); (case w106tbe => tb_start)))
  k_with "t tb_rel" => ((intro p hp; (repeat' (refine List.Mem.tail _ ?_)); first | exact hp | exact List.mem_append_left _ hp | exact List.mem_append_right _ hp))
  k_with "t k_enter" => ((refine' code_def ?w108k1 ?w108k2 ?w108k3 ?w108k4 ?w108k5 ?w108kA ?w108kF ?w108kK ?w108k6 ?w108k7 ?w108k8 ?w108k9 ?w108kB ?_ ?w108c2 ?w108c3 ?w108c4 ?w108c5; (case w108kA => exact rfl); (case w108kF => exact rfl); (case w108kK => first | exact rfl | assumption); (case w108k1 => k_asm); (case w108k2 => k_asm); (case w108k3 => k_asm); (case w108k4 => k_asm); (case w108k5 => k_asm); (case w108k6 => k_is); (case w108k7 => k_is); (case w108k8 => ktr_room); (case w108k9 => first | exact BindsTo.of_eq rfl | exact binds_K (by k_in) rfl (by k_is) rfl rfl rfl); (case w108c5 => decide); (case w108kB => exact locs rfl); (case w108c2 => exact rfl); (case w108c3 => exact rfl); (case w108c4 => exact rfl); k_whole; intro g' L' h' FG' F' N' B' X' T'; (try dsimp only); (try k_fold)))
  k_with "t k_enter" => ((refine' code_defC ?w109k1 ?w109k2 ?w109k3 ?w109k4 ?w109k5 ?w109kA ?w109kF ?w109kK ?w109k6 ?w109k7 ?w109k8 ?w109k9 ?w109kB ?w109kD ?_ ?w109c2 ?w109c3 ?w109c4; (case w109kA => exact rfl); (case w109kF => exact rfl); (case w109kK => first | exact rfl | assumption); (case w109k1 => k_asm); (case w109k2 => k_asm); (case w109k3 => k_asm); (case w109k4 => k_asm); (case w109k5 => k_asm); (case w109k6 => k_is); (case w109k7 => k_is); (case w109k8 => ktr_room); (case w109k9 => first | exact BindsTo.of_eq rfl | exact binds_K (by k_in) rfl (by k_is) rfl rfl rfl); (case w109kB => exact rfl); (case w109kD => decide +kernel); (case w109c2 => exact rfl); (case w109c3 => exact rfl); (case w109c4 => exact rfl); k_whole; intro g' L' h' tk' cells' FG' F' N' Y' B' X' T' l1; (try k_lt l1); k_cells Y'; (try simp only [List.cons_append, List.nil_append] at N'); (try dsimp only); (try k_fold)))
  k_with "m CompEnd" => ((k_dflt (refine LCg.CompEnd.intro (by assumption) (by assumption) _ (fun _ h => h) (by assumption) (by lcg_src) ?_)))
  k_with "m eval ListComp" => ((k_here; lcf_look; lcg_calm; k_dflt (refine ListComp_D (by k_asm) (by with_unfolding_all rfl) (by decide) (by rfl) (by decide) (by rfl) ?_)))
  k_with "m exec Assign cons ListComp" => ((k_here; lcf_look; lcg_calm; k_dflt (refine Assign_ListComp_D (by k_asm) (by rfl) (by with_unfolding_all rfl) (by with_unfolding_all rfl) (by decide) (by rfl) (by decide) (by rfl) (by rfl) (by rfl) ?_)))
  k_with "m SrcD" => ((k_dflt (refine' SrcD.intro ?w113F ?w113N ?w113X ?w113D ?w113lo ?w113dd ?w113m ?w113gt ?_ ?w113c ?w113d ?w113z ?w113hh ?w113kx ?w113ky ?w113kf ?w113bx ?w113by_; (case w113F => k_asm); (case w113N => k_asm); (case w113X => k_asm); (case w113D => k_mem); (case w113lo => assumption); (case w113dd => assumption); (case w113c => rfl); (case w113m => k_mem); (case w113d => k_asm); (case w113gt => (first | (refine GetOk.mono (by assumption) ?_; tb_rel) | (intro A1 E1 s1 h1 L1 m1 Q1 F1 X1 N1 q1; refine' get_own F1 X1 ?w113k3 ?w113k4 ?w113k5 ?w113k6 ?w113k7 ?w113k8 ?w113k9 q1; (case w113k3 => k_inst); (case w113k4 => k_is); (case w113k5 => k_is); (case w113k6 => k_is); (case w113k7 => k_is); (case w113k8 => k_get); (case w113k9 => k_handed)))); (case w113z => first | exact Nat.le_of_ble_eq_true rfl | (rw [sizeLine_eq]; omega)); (case w113hh => rfl); (case w113kx => intro _; rfl); (case w113ky => intro _; rfl); (case w113kf => intro _; rfl); (case w113bx => decide); (case w113by_ => decide)); intro s2' hs2'; obtain ⟨g', eg'⟩ := hs2'; subst eg'; dsimp only [List.map]))
  k_with "m call builtin:list.append" => ((k_here; (with_reducible show wpAny _ _ (call (Value.builtin _) [Value.ref _, _]) _ _ _); k_dflt (refine' append_K ?w114k1 ?w114k2 ?w114k3 ?_ ?w114z; (case w114k1 => k_asm); (case w114k2 => k_asm); (case w114k3 => exact Upd.head (off1_ne (by assumption))); (case w114z => size_fits); k_whole); intro h' F' N'; (try k_sweep)))
  k_with "t tb_rel" => ((intro p hp; first | exact hp | (repeat' (first | exact hp | (refine List.Mem.tail _ ?_)))))
  k_with "t tb_start" => ((refine read_fin ret (by k_asm) (by k_asm) (by k_mem) (by tb_rel) (by first | exact ltNe (by first | tbn_find | exact allLt_of (by assumption)) | exact off1_ne (by assumption) | exact off1_ne (And.right (And.right (by assumption))) | exact off1_ne (And.right (by assumption)))))
  trivial
set_option maxRecDepth 100000 in
set_option maxHeartbeats 8000000 in
theorem eattrs_ok (w : World) (mean : ExcName → Option Value) (mg mb : Str → Option Value) {news : Led} {x : Nat} {num : Int} {vs1 vs2 : List Value} (S : EShape w news x num vs1 vs2) : ReadOk w mean mg mb 26 (.ref x) news vs2 := by
  intro dp un gd cn cs a ccd cl outer A₀ base h₀ L m s Q E B F X N T hk hdp hun ret
  cases S
  case e0 i d hkl => (obtain ⟨t9, tn9, lk9, i⟩ := i; obtain ⟨dx, hs, n, hx, hd⟩ := i; simp only [mkEs] at hd; obtain ⟨od, ho, hm9, hi9⟩ := d; k_steps; all_goals (refine read_fin ret (by k_asm) (by k_asm) (by k_mem) (by tb_rel) (by first | exact ltNe (by first | tbn_find | exact allLt_of (by assumption)) | exact off1_ne (by assumption) | exact off1_ne (And.right (And.right (by assumption))) | exact off1_ne (And.right (by assumption)))))
  case e1 i d hkl => (obtain ⟨t9, tn9, lk9, i⟩ := i; obtain ⟨dx, hs, n, hx, hd⟩ := i; simp only [mkEs] at hd; obtain ⟨od, ho, hm9, hi9⟩ := d; k_steps; all_goals (refine read_fin ret (by k_asm) (by k_asm) (by k_mem) (by tb_rel) (by first | exact ltNe (by first | tbn_find | exact allLt_of (by assumption)) | exact off1_ne (by assumption) | exact off1_ne (And.right (And.right (by assumption))) | exact off1_ne (And.right (by assumption)))))
  case a0 i d hkl e hkl2 => (obtain ⟨t9, tn9, lk9, i⟩ := i; obtain ⟨dx, hs, n, hx, hd⟩ := i; simp only [mkEs] at hd; obtain ⟨od, ho, hm9, hi9⟩ := d; obtain ⟨od2, ho2, hm8, hi8⟩ := e; k_steps; all_goals (refine read_fin ret (by k_asm) (by k_asm) (by k_mem) (by tb_rel) (by first | exact ltNe (by first | tbn_find | exact allLt_of (by assumption)) | exact off1_ne (by assumption) | exact off1_ne (And.right (And.right (by assumption))) | exact off1_ne (And.right (by assumption)))))
set_option maxRecDepth 100000 in
set_option maxHeartbeats 8000000 in
theorem attrs_ok (w : World) (mean : ExcName → Option Value) (mg mb : Str → Option Value) {news : Led} {x : Nat} {kd : Str} {vs1 vs2 : List Value} (S : Shape w news x kd vs1 vs2) : ReadOk w mean mg mb 26 (.ref x) news vs2 := by
  intro dp un gd cn cs a ccd cl outer A₀ base h₀ L m s Q E B F X N T hk hdp hun ret
  cases S
  case null i => (obtain ⟨dx, hs, n, hx, hd⟩ := i; simp only [mkEs] at hd; k_steps; all_goals (refine read_fin ret (by k_asm) (by k_asm) (by k_mem) (by tb_rel) (by first | exact ltNe (by first | tbn_find | exact allLt_of (by assumption)) | exact off1_ne (by assumption) | exact off1_ne (And.right (And.right (by assumption))) | exact off1_ne (And.right (by assumption)))))
  case missing i => (obtain ⟨dx, hs, n, hx, hd⟩ := i; simp only [mkEs] at hd; k_steps; all_goals (refine read_fin ret (by k_asm) (by k_asm) (by k_mem) (by tb_rel) (by first | exact ltNe (by first | tbn_find | exact allLt_of (by assumption)) | exact off1_ne (by assumption) | exact off1_ne (And.right (And.right (by assumption))) | exact off1_ne (And.right (by assumption)))))
  case symbol i => (obtain ⟨dx, hs, n, hx, hd⟩ := i; simp only [mkEs] at hd; k_steps; all_goals (refine read_fin ret (by k_asm) (by k_asm) (by k_mem) (by tb_rel) (by first | exact ltNe (by first | tbn_find | exact allLt_of (by assumption)) | exact off1_ne (by assumption) | exact off1_ne (And.right (And.right (by assumption))) | exact off1_ne (And.right (by assumption)))))
  case double i => (obtain ⟨dx, hs, n, hx, hd⟩ := i; simp only [mkEs] at hd; k_steps; all_goals (refine read_fin ret (by k_asm) (by k_asm) (by k_mem) (by tb_rel) (by first | exact ltNe (by first | tbn_find | exact allLt_of (by assumption)) | exact off1_ne (by assumption) | exact off1_ne (And.right (And.right (by assumption))) | exact off1_ne (And.right (by assumption)))))
  case list i l => (obtain ⟨dx, hs, n, hx, hd⟩ := i; simp only [mkEs] at hd; k_steps; all_goals (refine read_fin ret (by k_asm) (by k_asm) (by k_mem) (by tb_rel) (by first | exact ltNe (by first | tbn_find | exact allLt_of (by assumption)) | exact off1_ne (by assumption) | exact off1_ne (And.right (And.right (by assumption))) | exact off1_ne (And.right (by assumption)))))
  case expression i l => (obtain ⟨dx, hs, n, hx, hd⟩ := i; simp only [mkEs] at hd; k_steps; all_goals (refine read_fin ret (by k_asm) (by k_asm) (by k_mem) (by tb_rel) (by first | exact ltNe (by first | tbn_find | exact allLt_of (by assumption)) | exact off1_ne (by assumption) | exact off1_ne (And.right (And.right (by assumption))) | exact off1_ne (And.right (by assumption)))))
  case pairlist i l => (obtain ⟨dx, hs, n, hx, hd⟩ := i; simp only [mkEs] at hd; k_steps; all_goals (refine read_fin ret (by k_asm) (by k_asm) (by k_mem) (by tb_rel) (by first | exact ltNe (by first | tbn_find | exact allLt_of (by assumption)) | exact off1_ne (by assumption) | exact off1_ne (And.right (And.right (by assumption))) | exact off1_ne (And.right (by assumption)))))
  case integer i d => (obtain ⟨dx, hs, n, hx, hd⟩ := i; simp only [mkEs] at hd; obtain ⟨od, ho, hm9, hi9⟩ := d; k_steps; all_goals (refine read_fin ret (by k_asm) (by k_asm) (by k_mem) (by tb_rel) (by first | exact ltNe (by first | tbn_find | exact allLt_of (by assumption)) | exact off1_ne (by assumption) | exact off1_ne (And.right (And.right (by assumption))) | exact off1_ne (And.right (by assumption)))))
  case call i l => (obtain ⟨dx, hs, n, hx, hd⟩ := i; simp only [mkEs] at hd; k_steps; all_goals (refine read_fin ret (by k_asm) (by k_asm) (by k_mem) (by tb_rel) (by first | exact ltNe (by first | tbn_find | exact allLt_of (by assumption)) | exact off1_ne (by assumption) | exact off1_ne (And.right (And.right (by assumption))) | exact off1_ne (And.right (by assumption)))))
  case callA i l d => (obtain ⟨dx, hs, n, hx, hd⟩ := i; simp only [mkEs] at hd; obtain ⟨od, ho, hm9, hi9⟩ := d; k_steps; all_goals (refine read_fin ret (by k_asm) (by k_asm) (by k_mem) (by tb_rel) (by first | exact ltNe (by first | tbn_find | exact allLt_of (by assumption)) | exact off1_ne (by assumption) | exact off1_ne (And.right (And.right (by assumption))) | exact off1_ne (And.right (by assumption)))))
  case closure i l t u => (obtain ⟨dx, hs, n, hx, hd⟩ := i; simp only [mkEs] at hd; k_steps; all_goals (refine read_fin ret (by k_asm) (by k_asm) (by k_mem) (by tb_rel) (by first | exact ltNe (by first | tbn_find | exact allLt_of (by assumption)) | exact off1_ne (by assumption) | exact off1_ne (And.right (And.right (by assumption))) | exact off1_ne (And.right (by assumption)))))
  case promise0 i => (obtain ⟨dx, hs, n, hx, hd⟩ := i; simp only [mkEs] at hd; k_steps; all_goals (refine read_fin ret (by k_asm) (by k_asm) (by k_mem) (by tb_rel) (by first | exact ltNe (by first | tbn_find | exact allLt_of (by assumption)) | exact off1_ne (by assumption) | exact off1_ne (And.right (And.right (by assumption))) | exact off1_ne (And.right (by assumption)))))
  case promise1 i => (obtain ⟨dx, hs, n, hx, hd⟩ := i; simp only [mkEs] at hd; k_steps; all_goals (refine read_fin ret (by k_asm) (by k_asm) (by k_mem) (by tb_rel) (by first | exact ltNe (by first | tbn_find | exact allLt_of (by assumption)) | exact off1_ne (by assumption) | exact off1_ne (And.right (And.right (by assumption))) | exact off1_ne (And.right (by assumption)))))
  case promise2 i => (obtain ⟨dx, hs, n, hx, hd⟩ := i; simp only [mkEs] at hd; k_steps; all_goals (refine read_fin ret (by k_asm) (by k_asm) (by k_mem) (by tb_rel) (by first | exact ltNe (by first | tbn_find | exact allLt_of (by assumption)) | exact off1_ne (by assumption) | exact off1_ne (And.right (And.right (by assumption))) | exact off1_ne (And.right (by assumption)))))
  case dots i l t u => (obtain ⟨dx, hs, n, hx, hd⟩ := i; simp only [mkEs] at hd; k_steps; all_goals (refine read_fin ret (by k_asm) (by k_asm) (by k_mem) (by tb_rel) (by first | exact ltNe (by first | tbn_find | exact allLt_of (by assumption)) | exact off1_ne (by assumption) | exact off1_ne (And.right (And.right (by assumption))) | exact off1_ne (And.right (by assumption)))))
  case s4 i d => (obtain ⟨dx, hs, n, hx, hd⟩ := i; simp only [mkEs] at hd; k_steps; all_goals (refine read_fin ret (by k_asm) (by k_asm) (by k_mem) (by tb_rel) (by first | exact ltNe (by first | tbn_find | exact allLt_of (by assumption)) | exact off1_ne (by assumption) | exact off1_ne (And.right (And.right (by assumption))) | exact off1_ne (And.right (by assumption)))))
theorem lnMM : True := by
  k_with_none
  trivial
/-! plain: a search comes to what can be reached -/
inductive Reach (W : Nat → List Nat) (r : List Nat) : Nat → Prop
  | root {i : Nat} : i ∈ r → Reach W r i
  | step {i j : Nat} : Reach W r i → j ∈ W i → Reach W r j
theorem Reach.within {W : Nat → List Nat} {r : List Nat} {S : Nat → Prop} (h0 : ∀ i ∈ r, S i) (h1 : ∀ i, S i → ∀ j ∈ W i, S j) {i : Nat} (h : Reach W r i) : S i := by
  induction h with
  | root h => exact h0 _ h
  | step _ hj ih => exact h1 _ ih _ hj
/-- what is not seen yet, weighed -/
def unseen (K : Nat → Nat) (sl : List Nat) : Nat → Nat
  | 0 => 0
  | n + 1 => unseen K sl n + if n ∈ sl then 0 else K n
theorem unseen_mono {K : Nat → Nat} {sl : List Nat} : ∀ {n : Nat}, unseen K sl n ≤ unseen K [] n
  | 0 => Nat.le_refl _
  | n + 1 => by
    have := unseen_mono (K := K) (sl := sl) (n := n)
    simp only [unseen, List.not_mem_nil, if_false]
    split <;> omega
theorem unseen_off {K : Nat → Nat} {sl : List Nat} {i : Nat} : ∀ {n : Nat}, n ≤ i → unseen K (sl ++ [i]) n = unseen K sl n
  | 0, _ => rfl
  | n + 1, h => by
    have h1 := unseen_off (K := K) (sl := sl) (i := i) (n := n) (by omega)
    have h2 : (n ∈ sl ++ [i]) ↔ n ∈ sl := by
      rw [List.mem_append, List.mem_singleton]
      exact ⟨fun h => h.elim id (fun e => by omega), .inl⟩
    simp only [unseen, h1, h2]
theorem unseen_take {K : Nat → Nat} {sl : List Nat} {i : Nat} (hi : i ∉ sl) : ∀ {n : Nat}, i < n → unseen K (sl ++ [i]) n + K i = unseen K sl n
  | 0, h => absurd h (Nat.not_lt_zero _)
  | n + 1, h => by
    by_cases e : i = n
    · subst e
      have h1 := unseen_off (K := K) (sl := sl) (i := i) (n := i) (Nat.le_refl _)
      simp only [unseen, h1, List.mem_append, List.mem_singleton, or_true, if_true, hi, if_false]
      omega
    · have h1 := unseen_take (K := K) hi (n := n) (by omega)
      have h2 : (n ∈ sl ++ [i]) ↔ n ∈ sl := by
        rw [List.mem_append, List.mem_singleton]
        exact ⟨fun h => h.elim id (fun e => by omega), .inl⟩
      simp only [unseen, h2]
      omega
/-- the state of the search: seen and waiting; each that waits names some -/
structure Srch (W : Nat → List Nat) (r sl : List Nat) (P : List Nat) : Prop where
  nd : sl.Nodup
  sok : ∀ i ∈ sl, Reach W r i
  pok : ∀ i ∈ P, Reach W r i
  root : ∀ i ∈ r, i ∈ sl ∨ i ∈ P
  clo : ∀ i ∈ sl, ∀ j ∈ W i, j ∈ sl ∨ j ∈ P
theorem Srch.start {W : Nat → List Nat} {r P : List Nat} (h : ∀ i, i ∈ P ↔ i ∈ r) : Srch W r [] P :=
  ⟨.nil, (fun _ h => nomatch h), fun i hi => .root ((h i).mp hi), fun i hi => .inr ((h i).mpr hi), fun _ h => nomatch h⟩
theorem Srch.move {W : Nat → List Nat} {r sl P P' : List Nat} (S : Srch W r sl P) (h : ∀ i, i ∈ P' ↔ i ∈ P) : Srch W r sl P' :=
  ⟨S.nd, S.sok, fun i hi => S.pok i ((h i).mp hi), fun i hi => (S.root i hi).imp_right (h i).mpr, fun i hi j hj => (S.clo i hi j hj).imp_right (h j).mpr⟩
theorem Srch.again {W : Nat → List Nat} {r sl P P' : List Nat} (S : Srch W r sl P) {i : Nat} (hi : i ∈ sl) (h : ∀ j, j ∈ P ↔ j = i ∨ j ∈ P') : Srch W r sl P' :=
  ⟨S.nd, S.sok, fun j hj => S.pok j ((h j).mpr (.inr hj)),
    fun j hj => (S.root j hj).elim .inl fun hp => ((h j).mp hp).elim (fun e => .inl (e ▸ hi)) .inr,
    fun k hk j hj => (S.clo k hk j hj).elim .inl fun hp => ((h j).mp hp).elim (fun e => .inl (e ▸ hi)) .inr⟩
theorem Srch.take {W : Nat → List Nat} {r sl P P' : List Nat} (S : Srch W r sl P) {i : Nat} (hi : i ∉ sl) (h : ∀ j, j ∈ P ↔ j = i ∨ j ∈ P') (P'' : List Nat) (h2 : ∀ j, j ∈ P'' ↔ j ∈ P' ∨ j ∈ W i) : Srch W r (sl ++ [i]) P'' := by
  have ri : Reach W r i := S.pok i ((h i).mpr (.inl rfl))
  refine ⟨?_, fun j hj => ?_, fun j hj => ?_, fun j hj => ?_, fun k hk j hj => ?_⟩
  · rw [List.nodup_append]
    exact ⟨S.nd, by simp, fun a ha b hb e => hi (by rw [List.mem_singleton.mp hb] at e; exact e ▸ ha)⟩
  · rcases List.mem_append.mp hj with hj | hj
    · exact S.sok j hj
    · rw [List.mem_singleton.mp hj]; exact ri
  · rcases (h2 j).mp hj with hj | hj
    · exact S.pok j ((h j).mpr (.inr hj))
    · exact .step ri hj
  · rcases S.root j hj with hp | hp
    · exact .inl (List.mem_append_left _ hp)
    · rcases (h j).mp hp with e | hp
      · exact .inl (List.mem_append_right _ (List.mem_singleton.mpr e))
      · exact .inr ((h2 j).mpr (.inl hp))
  · rcases List.mem_append.mp hk with hk | hk
    · rcases S.clo k hk j hj with hp | hp
      · exact .inl (List.mem_append_left _ hp)
      · rcases (h j).mp hp with e | hp
        · exact .inl (List.mem_append_right _ (List.mem_singleton.mpr e))
        · exact .inr ((h2 j).mpr (.inl hp))
    · rw [List.mem_singleton.mp hk] at hj
      exact .inr ((h2 j).mpr (.inr hj))
theorem Srch.fin {W : Nat → List Nat} {r sl : List Nat} (S : Srch W r sl []) (i : Nat) : i ∈ sl ↔ Reach W r i :=
  ⟨S.sok i, fun h => h.within (S := fun i => i ∈ sl) (fun i hi => (S.root i hi).elim id fun h => nomatch h) fun i hi j hj => (S.clo i hi j hj).elim id fun h => nomatch h⟩
theorem Srch.lt {W : Nat → List Nat} {r sl P : List Nat} {n : Nat} (S : Srch W r sl P) (h0 : ∀ i ∈ r, i < n) (h1 : ∀ i, i < n → ∀ j ∈ W i, j < n) : ∀ i ∈ sl, i < n :=
  fun i hi => (S.sok i hi).within (S := fun i => i < n) h0 fun i hi j hj => h1 i hi j hj
theorem nodup_lt {n : Nat} : ∀ {l : List Nat}, l.Nodup → (∀ i ∈ l, i < n) → l.length ≤ n := by
  induction n with
  | zero =>
    intro l _ h
    cases l with
    | nil => exact Nat.le_refl _
    | cons a r => exact absurd (h a (.head _)) (Nat.not_lt_zero _)
  | succ n ih =>
    intro l hn h
    have h1 : (l.erase n).Nodup := hn.erase _
    have h2 : ∀ i ∈ l.erase n, i < n := fun i hi => by
      have := h i (List.mem_of_mem_erase hi)
      have h3 : i ≠ n := fun e => by
        subst e
        exact absurd hi (List.Nodup.not_mem_erase hn)
      omega
    have h4 := ih h1 h2
    have h5 : l.length ≤ (l.erase n).length + 1 := by
      by_cases hm : n ∈ l
      · rw [List.length_erase_of_mem hm]; omega
      · rw [List.erase_of_not_mem hm]; omega
    omega
/-- two lists in order, of the same numbers -/
theorem two_sorted {f : Nat → Int} {a b : List Nat} {x y : List Int} (ha : a.Nodup) (hb : b.Nodup) (hm : ∀ i, i ∈ a ↔ i ∈ b) (px : x.Perm (a.map f)) (py : y.Perm (b.map f)) (ox : x.Pairwise (· ≤ ·)) (oy : y.Pairwise (· ≤ ·)) : x = y := by
  have hp : a.Perm b := (List.perm_ext_iff_of_nodup ha hb).mpr hm
  exact lks_uniq (px.trans ((hp.map f).trans py.symm)) ox oy
theorem fillPH : (∀ P, KF P = KF P) ∧ PySem.Challenge.rw_nz0470_01 = PySem.Challenge.rw_nz0470_01 := by
  k_fill
  exact ⟨fun _ => rfl, rfl⟩
theorem lnMPHa : True := by
  k_with "t k_all" => (assumption)
  k_with "t k_mem" => (first | exact List.Mem.head _ | (refine' List.mem_cons_of_mem _ ?_; k_mem) | ktr_member | (ktn_app; first | (refine List.mem_append.mpr (Or.inl ?_); k_mem) | (refine List.mem_append.mpr (Or.inr ?_); k_mem)))
  k_with "t k_room" => (ktr_room)
  k_with "t k_units" => (ktr_units)
  k_with "m callWith ref" => ((k_here; k_dflt (first
    | (refine' callWith_K ?w121k1 ?w121k2 ?_; (case w121k1 => k_asm); (case w121k2 => k_is); k_whole)
    | (refine' callWith_K0 ?w121k1 ?w121k2 ?_; (case w121k1 => k_in); (case w121k2 => k_is); k_whole))))
  k_with "t tbn_lt" => (first | tbn_find | exact allLt_of (by assumption) | exact allLt_r (by tbn_find) | exact allLt_r (allLt_r (by tbn_find)) | exact tbn_up (by assumption) (by first | tbn_find | exact allLt_of (by assumption) | exact allLt_r (by tbn_find) | exact allLt_r (allLt_r (by tbn_find))))
  k_with "t tb_start" => (first | exact Led3.base0 | exact Led3.base2 (by assumption) (by assumption) | exact Led3.base1 (by assumption) | (refine' Led3.step ?w123tba ?w123tbb ?w123tbc ?w123tbd ?w123tbe; (case w123tba => omega); (case w123tbb => omega); (case w123tbc => omega); (case w123tbd => tbn_lt); (case w123tbe => tb_start)))
  k_with "t tb_rel" => ((intro p hp; (repeat' (refine List.Mem.tail _ ?_)); first | exact hp | exact List.mem_append_left _ hp | exact List.mem_append_right _ hp))
  k_with "t k_enter" => ((refine' code_def ?w125k1 ?w125k2 ?w125k3 ?w125k4 ?w125k5 ?w125kA ?w125kF ?w125kK ?w125k6 ?w125k7 ?w125k8 ?w125k9 ?w125kB ?_ ?w125c2 ?w125c3 ?w125c4 ?w125c5; (case w125kA => exact rfl); (case w125kF => exact rfl); (case w125kK => first | exact rfl | assumption); (case w125k1 => k_asm); (case w125k2 => k_asm); (case w125k3 => k_asm); (case w125k4 => k_asm); (case w125k5 => k_asm); (case w125k6 => k_is); (case w125k7 => k_is); (case w125k8 => ktr_room); (case w125k9 => first | exact BindsTo.of_eq rfl | exact binds_K (by k_in) rfl (by k_is) rfl rfl rfl); (case w125c5 => decide); (case w125kB => exact locs rfl); (case w125c2 => exact rfl); (case w125c3 => exact rfl); (case w125c4 => exact rfl); k_whole; intro g' L' h' FG' F' N' B' X' T'; (try dsimp only); (try k_fold)))
  k_with "t k_enter" => ((refine' code_defC ?w126k1 ?w126k2 ?w126k3 ?w126k4 ?w126k5 ?w126kA ?w126kF ?w126kK ?w126k6 ?w126k7 ?w126k8 ?w126k9 ?w126kB ?w126kD ?_ ?w126c2 ?w126c3 ?w126c4; (case w126kA => exact rfl); (case w126kF => exact rfl); (case w126kK => first | exact rfl | assumption); (case w126k1 => k_asm); (case w126k2 => k_asm); (case w126k3 => k_asm); (case w126k4 => k_asm); (case w126k5 => k_asm); (case w126k6 => k_is); (case w126k7 => k_is); (case w126k8 => ktr_room); (case w126k9 => first | exact BindsTo.of_eq rfl | exact binds_K (by k_in) rfl (by k_is) rfl rfl rfl); (case w126kB => exact rfl); (case w126kD => decide +kernel); (case w126c2 => exact rfl); (case w126c3 => exact rfl); (case w126c4 => exact rfl); k_whole; intro g' L' h' tk' cells' FG' F' N' Y' B' X' T' l1; (try k_lt l1); k_cells Y'; (try simp only [List.cons_append, List.nil_append] at N'); (try dsimp only); (try k_fold)))
  k_with "m CompEnd" => ((k_dflt (refine LCg.CompEnd.intro (by assumption) (by assumption) _ (fun _ h => h) (by assumption) (by lcg_src) ?_)))
  k_with "m eval ListComp" => ((k_here; lcf_look; lcg_calm; k_dflt (refine ListComp_D (by k_asm) (by with_unfolding_all rfl) (by decide) (by rfl) (by decide) (by rfl) ?_)))
  k_with "m exec Assign cons ListComp" => ((k_here; lcf_look; lcg_calm; k_dflt (refine Assign_ListComp_D (by k_asm) (by rfl) (by with_unfolding_all rfl) (by with_unfolding_all rfl) (by decide) (by rfl) (by decide) (by rfl) (by rfl) (by rfl) ?_)))
  k_with "m SrcD" => ((k_dflt (refine' SrcD.intro ?w130F ?w130N ?w130X ?w130D ?w130lo ?w130dd ?w130m ?w130gt ?_ ?w130c ?w130d ?w130z ?w130hh ?w130kx ?w130ky ?w130kf ?w130bx ?w130by_; (case w130F => k_asm); (case w130N => k_asm); (case w130X => k_asm); (case w130D => k_mem); (case w130lo => assumption); (case w130dd => assumption); (case w130c => rfl); (case w130m => k_mem); (case w130d => k_asm); (case w130gt => (first | (refine GetOk.mono (by assumption) ?_; tb_rel) | (intro A1 E1 s1 h1 L1 m1 Q1 F1 X1 N1 q1; refine' get_own F1 X1 ?w130k3 ?w130k4 ?w130k5 ?w130k6 ?w130k7 ?w130k8 ?w130k9 q1; (case w130k3 => k_inst); (case w130k4 => k_is); (case w130k5 => k_is); (case w130k6 => k_is); (case w130k7 => k_is); (case w130k8 => k_get); (case w130k9 => k_handed)))); (case w130z => first | exact Nat.le_of_ble_eq_true rfl | (rw [sizeLine_eq]; omega)); (case w130hh => rfl); (case w130kx => intro _; rfl); (case w130ky => intro _; rfl); (case w130kf => intro _; rfl); (case w130bx => decide); (case w130by_ => decide)); intro s2' hs2'; obtain ⟨g', eg'⟩ := hs2'; subst eg'; dsimp only [List.map]))
  k_with "m call builtin:list.append" => ((k_here; (with_reducible show wpAny _ _ (call (Value.builtin _) [Value.ref _, _]) _ _ _); k_dflt (refine' append_K ?w131k1 ?w131k2 ?w131k3 ?_ ?w131z; (case w131k1 => k_asm); (case w131k2 => k_asm); (case w131k3 => exact Upd.head (off1_ne (by assumption))); (case w131z => size_fits); k_whole); intro h' F' N'; (try k_sweep)))
  k_with "t tb_rel" => ((intro p hp; first | exact hp | (repeat' (first | exact hp | (refine List.Mem.tail _ ?_)))))
  k_with "t tb_start" => ((refine read_fin ret (by k_asm) (by k_asm) (by k_mem) (by tb_rel) (by first | exact ltNe (by first | tbn_find | exact allLt_of (by assumption)) | exact off1_ne (by assumption) | exact off1_ne (And.right (And.right (by assumption))) | exact off1_ne (And.right (by assumption)))))
  trivial
set_option maxRecDepth 100000 in
set_option maxHeartbeats 8000000 in
theorem kind_ok (w : World) {news : Led} {x : Nat} {kd : Str} {vs1 vs2 : List Value} (S : Shape w news x kd vs1 vs2) : ∃ t, GetOk w news x (Str.ofString "kind") (.str kd t) := by
  cases S
  case null i => (obtain ⟨dx, hs, n, hx, hd⟩ := i; simp only [mkEs] at hd; apply Exists.intro; (intro A1 E1 s1 h1 L1 m1 Q1 F1 X1 N1 q1; refine' get_own F1 X1 ?k3 ?k4 ?k5 ?k6 ?k7 ?k8 ?k9 q1; (case k3 => k_inst); (case k4 => k_is); (case k5 => k_is); (case k6 => k_is); (case k7 => k_is); (case k8 => k_get); (case k9 => k_handed)))
  case missing i => (obtain ⟨dx, hs, n, hx, hd⟩ := i; simp only [mkEs] at hd; apply Exists.intro; (intro A1 E1 s1 h1 L1 m1 Q1 F1 X1 N1 q1; refine' get_own F1 X1 ?k3 ?k4 ?k5 ?k6 ?k7 ?k8 ?k9 q1; (case k3 => k_inst); (case k4 => k_is); (case k5 => k_is); (case k6 => k_is); (case k7 => k_is); (case k8 => k_get); (case k9 => k_handed)))
  case symbol i => (obtain ⟨dx, hs, n, hx, hd⟩ := i; simp only [mkEs] at hd; apply Exists.intro; (intro A1 E1 s1 h1 L1 m1 Q1 F1 X1 N1 q1; refine' get_own F1 X1 ?k3 ?k4 ?k5 ?k6 ?k7 ?k8 ?k9 q1; (case k3 => k_inst); (case k4 => k_is); (case k5 => k_is); (case k6 => k_is); (case k7 => k_is); (case k8 => k_get); (case k9 => k_handed)))
  case double i => (obtain ⟨dx, hs, n, hx, hd⟩ := i; simp only [mkEs] at hd; apply Exists.intro; (intro A1 E1 s1 h1 L1 m1 Q1 F1 X1 N1 q1; refine' get_own F1 X1 ?k3 ?k4 ?k5 ?k6 ?k7 ?k8 ?k9 q1; (case k3 => k_inst); (case k4 => k_is); (case k5 => k_is); (case k6 => k_is); (case k7 => k_is); (case k8 => k_get); (case k9 => k_handed)))
  case list i l => (obtain ⟨dx, hs, n, hx, hd⟩ := i; simp only [mkEs] at hd; apply Exists.intro; (intro A1 E1 s1 h1 L1 m1 Q1 F1 X1 N1 q1; refine' get_own F1 X1 ?k3 ?k4 ?k5 ?k6 ?k7 ?k8 ?k9 q1; (case k3 => k_inst); (case k4 => k_is); (case k5 => k_is); (case k6 => k_is); (case k7 => k_is); (case k8 => k_get); (case k9 => k_handed)))
  case expression i l => (obtain ⟨dx, hs, n, hx, hd⟩ := i; simp only [mkEs] at hd; apply Exists.intro; (intro A1 E1 s1 h1 L1 m1 Q1 F1 X1 N1 q1; refine' get_own F1 X1 ?k3 ?k4 ?k5 ?k6 ?k7 ?k8 ?k9 q1; (case k3 => k_inst); (case k4 => k_is); (case k5 => k_is); (case k6 => k_is); (case k7 => k_is); (case k8 => k_get); (case k9 => k_handed)))
  case pairlist i l => (obtain ⟨dx, hs, n, hx, hd⟩ := i; simp only [mkEs] at hd; apply Exists.intro; (intro A1 E1 s1 h1 L1 m1 Q1 F1 X1 N1 q1; refine' get_own F1 X1 ?k3 ?k4 ?k5 ?k6 ?k7 ?k8 ?k9 q1; (case k3 => k_inst); (case k4 => k_is); (case k5 => k_is); (case k6 => k_is); (case k7 => k_is); (case k8 => k_get); (case k9 => k_handed)))
  case integer i d => (obtain ⟨dx, hs, n, hx, hd⟩ := i; simp only [mkEs] at hd; apply Exists.intro; (intro A1 E1 s1 h1 L1 m1 Q1 F1 X1 N1 q1; refine' get_own F1 X1 ?k3 ?k4 ?k5 ?k6 ?k7 ?k8 ?k9 q1; (case k3 => k_inst); (case k4 => k_is); (case k5 => k_is); (case k6 => k_is); (case k7 => k_is); (case k8 => k_get); (case k9 => k_handed)))
  case call i l => (obtain ⟨dx, hs, n, hx, hd⟩ := i; simp only [mkEs] at hd; apply Exists.intro; (intro A1 E1 s1 h1 L1 m1 Q1 F1 X1 N1 q1; refine' get_own F1 X1 ?k3 ?k4 ?k5 ?k6 ?k7 ?k8 ?k9 q1; (case k3 => k_inst); (case k4 => k_is); (case k5 => k_is); (case k6 => k_is); (case k7 => k_is); (case k8 => k_get); (case k9 => k_handed)))
  case callA i l d => (obtain ⟨dx, hs, n, hx, hd⟩ := i; simp only [mkEs] at hd; apply Exists.intro; (intro A1 E1 s1 h1 L1 m1 Q1 F1 X1 N1 q1; refine' get_own F1 X1 ?k3 ?k4 ?k5 ?k6 ?k7 ?k8 ?k9 q1; (case k3 => k_inst); (case k4 => k_is); (case k5 => k_is); (case k6 => k_is); (case k7 => k_is); (case k8 => k_get); (case k9 => k_handed)))
  case closure i l t u => (obtain ⟨dx, hs, n, hx, hd⟩ := i; simp only [mkEs] at hd; apply Exists.intro; (intro A1 E1 s1 h1 L1 m1 Q1 F1 X1 N1 q1; refine' get_own F1 X1 ?k3 ?k4 ?k5 ?k6 ?k7 ?k8 ?k9 q1; (case k3 => k_inst); (case k4 => k_is); (case k5 => k_is); (case k6 => k_is); (case k7 => k_is); (case k8 => k_get); (case k9 => k_handed)))
  case promise0 i => (obtain ⟨dx, hs, n, hx, hd⟩ := i; simp only [mkEs] at hd; apply Exists.intro; (intro A1 E1 s1 h1 L1 m1 Q1 F1 X1 N1 q1; refine' get_own F1 X1 ?k3 ?k4 ?k5 ?k6 ?k7 ?k8 ?k9 q1; (case k3 => k_inst); (case k4 => k_is); (case k5 => k_is); (case k6 => k_is); (case k7 => k_is); (case k8 => k_get); (case k9 => k_handed)))
  case promise1 i => (obtain ⟨dx, hs, n, hx, hd⟩ := i; simp only [mkEs] at hd; apply Exists.intro; (intro A1 E1 s1 h1 L1 m1 Q1 F1 X1 N1 q1; refine' get_own F1 X1 ?k3 ?k4 ?k5 ?k6 ?k7 ?k8 ?k9 q1; (case k3 => k_inst); (case k4 => k_is); (case k5 => k_is); (case k6 => k_is); (case k7 => k_is); (case k8 => k_get); (case k9 => k_handed)))
  case promise2 i => (obtain ⟨dx, hs, n, hx, hd⟩ := i; simp only [mkEs] at hd; apply Exists.intro; (intro A1 E1 s1 h1 L1 m1 Q1 F1 X1 N1 q1; refine' get_own F1 X1 ?k3 ?k4 ?k5 ?k6 ?k7 ?k8 ?k9 q1; (case k3 => k_inst); (case k4 => k_is); (case k5 => k_is); (case k6 => k_is); (case k7 => k_is); (case k8 => k_get); (case k9 => k_handed)))
  case dots i l t u => (obtain ⟨dx, hs, n, hx, hd⟩ := i; simp only [mkEs] at hd; apply Exists.intro; (intro A1 E1 s1 h1 L1 m1 Q1 F1 X1 N1 q1; refine' get_own F1 X1 ?k3 ?k4 ?k5 ?k6 ?k7 ?k8 ?k9 q1; (case k3 => k_inst); (case k4 => k_is); (case k5 => k_is); (case k6 => k_is); (case k7 => k_is); (case k8 => k_get); (case k9 => k_handed)))
  case s4 i d => (obtain ⟨dx, hs, n, hx, hd⟩ := i; simp only [mkEs] at hd; apply Exists.intro; (intro A1 E1 s1 h1 L1 m1 Q1 F1 X1 N1 q1; refine' get_own F1 X1 ?k3 ?k4 ?k5 ?k6 ?k7 ?k8 ?k9 q1; (case k3 => k_inst); (case k4 => k_is); (case k5 => k_is); (case k6 => k_is); (case k7 => k_is); (case k8 => k_get); (case k9 => k_handed)))
set_option maxRecDepth 100000 in
set_option maxHeartbeats 8000000 in
theorem ekind_ok (w : World) {news : Led} {x d : Nat} {num : Int} {p a : Value} (i : EInst news x num p a d) : ∃ t, GetOk w news x (Str.ofString "kind") (.str (Str.ofString "environment") t) := by
  obtain ⟨t9, tn9, lk9, i⟩ := i
  obtain ⟨dx, hs, n, hx, hd⟩ := i; simp only [mkEs] at hd; 
  apply Exists.intro
  (intro A1 E1 s1 h1 L1 m1 Q1 F1 X1 N1 q1; refine' get_own F1 X1 ?k3 ?k4 ?k5 ?k6 ?k7 ?k8 ?k9 q1; (case k3 => k_inst); (case k4 => k_is); (case k5 => k_is); (case k6 => k_is); (case k7 => k_is); (case k8 => k_get); (case k9 => k_handed))
set_option maxRecDepth 100000 in
set_option maxHeartbeats 8000000 in
theorem enum_ok (w : World) {news : Led} {x d : Nat} {num : Int} {p a : Value} (i : EInst news x num p a d) : ∃ t, GetOk w news x (Str.ofString "number") (.int num t) := by
  obtain ⟨t9, tn9, lk9, i⟩ := i
  obtain ⟨dx, hs, n, hx, hd⟩ := i; simp only [mkEs] at hd; 
  apply Exists.intro
  (intro A1 E1 s1 h1 L1 m1 Q1 F1 X1 N1 q1; refine' get_own F1 X1 ?k3 ?k4 ?k5 ?k6 ?k7 ?k8 ?k9 q1; (case k3 => k_inst); (case k4 => k_is); (case k5 => k_is); (case k6 => k_is); (case k7 => k_is); (case k8 => k_get); (case k9 => k_handed))
set_option maxRecDepth 100000 in
set_option maxHeartbeats 8000000 in
theorem eframe_ok (w : World) {news : Led} {x d : Nat} {num : Int} {p a : Value} (i : EInst news x num p a d) : GetOk w news x (Str.ofString "frame") (.ref d) := by
  obtain ⟨t9, tn9, lk9, i⟩ := i
  obtain ⟨dx, hs, n, hx, hd⟩ := i; simp only [mkEs] at hd; 
  (intro A1 E1 s1 h1 L1 m1 Q1 F1 X1 N1 q1; refine' get_own F1 X1 ?k3 ?k4 ?k5 ?k6 ?k7 ?k8 ?k9 q1; (case k3 => k_inst); (case k4 => k_is); (case k5 => k_is); (case k6 => k_is); (case k7 => k_is); (case k8 => k_get); (case k9 => k_handed))
theorem EShape.inst {w : World} {news : Led} {x : Nat} {num : Int} {vs1 vs2 : List Value} (S : EShape w news x num vs1 vs2) : ∃ p a d, EInst news x num p a d := by
  cases S with
  | e0 i _ _ => exact ⟨_, _, _, i⟩
  | e1 i _ _ => exact ⟨_, _, _, i⟩
  | a0 i _ _ _ _ => exact ⟨_, _, _, i⟩
theorem Shape.kinds {w : World} {news : Led} {x : Nat} {kd : Str} {vs1 vs2 : List Value} (S : Shape w news x kd vs1 vs2) : kd ≠ Str.ofString "environment" ∧ (kd = Str.ofString "promise" ∧ vs2 = [] ∨ kd = Str.ofString "dots" ∧ vs2 = [] ∨ kd ≠ Str.ofString "promise" ∧ kd ≠ Str.ofString "dots") := by
  cases S <;> refine ⟨by decide, ?_⟩ <;> first | exact .inl ⟨rfl, rfl⟩ | exact .inr (.inl ⟨rfl, rfl⟩) | exact .inr (.inr ⟨by decide, by decide⟩)
theorem lnMY : True := by
  k_with_none
  trivial
def spots (P : List (Value × List Nat × Nat)) : List Nat := P.flatMap (·.2.1)
def weight (P : List (Value × List Nat × Nat)) : Nat := (P.map (·.2.2)).sum
theorem spots_app (a b : List (Value × List Nat × Nat)) : spots (a ++ b) = spots a ++ spots b := List.flatMap_append
theorem weight_app (a b : List (Value × List Nat × Nat)) : weight (a ++ b) = weight a + weight b := by simp [weight, List.map_append]
theorem mem_spots {P : List (Value × List Nat × Nat)} {i : Nat} : i ∈ spots P ↔ ∃ t ∈ P, i ∈ t.2.1 := List.mem_flatMap
structure Graph (w : World) (xs : List Nat) (Z : Led) (W : Nat → List Nat) (K : Nat → Nat) : Prop where
  env : ∀ (i x : Nat), xs[i]? = some x → ∃ vs1 vs2 its1 its2, EShape w Z x (10 + 3 * (i : Int)) vs1 vs2 ∧ vs1 = its1.map (·.1) ∧ vs2 = its2.map (·.1) ∧ (∀ t ∈ its1 ++ its2, Val w xs Z t.1 t.2.1 t.2.2) ∧ (∀ j, j ∈ W i ↔ j ∈ spots (its1 ++ its2)) ∧ weight (its1 ++ its2) ≤ K i
theorem Val.pos {w : World} {xs : List Nat} {Z : Led} {v : Value} {l : List Nat} {k : Nat} (h : Val w xs Z v l k) : 1 ≤ k := by
  cases h with
  | env _ => exact Nat.le_refl _
  | node its _ _ _ _ => omega
theorem length_le_weight : ∀ {P : List (Value × List Nat × Nat)}, (∀ t ∈ P, 1 ≤ t.2.2) → P.length ≤ weight P
  | [], _ => Nat.le_refl _
  | t :: r, h => by
    have h1 := h t (.head _)
    have h2 := length_le_weight (P := r) fun u hu => h u (.tail _ hu)
    simp only [weight, List.map_cons, List.sum_cons, List.length_cons] at h2 ⊢
    omega
/-! for part in ..: pending.append(part) -/
section
variable {prog : Program} {w : World} {A : Around} {E : Value → Shared → Prop} {s : Shared} {env : Env} {h₀ : Heap} {x : Str} {body : List Stmt} {Q : Flow → Shared → Prop}
def PushEnd (h₀ : Heap) (L : Addr) (m : Str → Option Value) (pd : Nat) (us : List Value) (v : Value) (rest : Led) (I : Nat) (oi : Obj) (s₁ : Shared) (f : Flow) (s₂ : Shared) : Prop :=
  f = .next ∧ ∃ h' tk n, s₂ = { s₁ with heap := h', toks := tk } ∧ Fr h₀ L h' m ∧ News h₀ L h' ((I, oi) :: (pd, listOf (us ++ [v]).toArray n) :: rest)
theorem PushEnd.intro {L : Addr} {m : Str → Option Value} {pd : Nat} {us : List Value} {v : Value} {rest : Led} {I : Nat} {oi : Obj} {s₁ : Shared} {h' : Heap} {tk n : Nat} (F : Fr h₀ L h' m) (N : News h₀ L h' ((I, oi) :: (pd, listOf (us.toArray.push v) n) :: rest)) :
    PushEnd h₀ L m pd us v rest I oi s₁ .next { s₁ with heap := h', toks := tk } := ⟨rfl, h', tk, n, rfl, F, by rw [List.push_toArray] at N; exact N⟩
theorem push_all {l pd : Nat} {vs us : List Value} {nn pn : Nat} {m₀ : Str → Option Value} {rest : Led} (hh : A.handled = none) (F : Fr h₀ env.locals s.heap m₀) (N : News h₀ env.locals s.heap ((pd, listOf us.toArray pn) :: rest)) (hl : (l, listOf vs.toArray nn) ∈ rest)
    (turn : ∀ v us' pn' h tk (I : Nat) oi, v ∈ vs → us'.length ≤ us.length + vs.length → (∀ p ∈ rest, @Ne Nat p.1 I) → @Ne Nat pd I → Fr h₀ env.locals h (fun y => if y = x then some v else m₀ y) → News h₀ env.locals h ((I, oi) :: (pd, listOf us'.toArray pn') :: rest) →
      wpAny (model prog w) A (execs body env) (PushEnd h₀ env.locals (fun y => if y = x then some v else m₀ y) pd us' v rest I oi { s with heap := h, toks := tk }) E { s with heap := h, toks := tk })
    (done : ∀ u n' h tk, Fr h₀ env.locals h (fun y => if y = x then u else m₀ y) → News h₀ env.locals h ((pd, listOf (us ++ vs).toArray n') :: rest) → Q .next { s with heap := h, toks := tk }) :
    wpAny (model prog w) A (pyIter (.ref l)) (fun it s₂ => LoopAtV prog w A h₀ env x body Q E it s₂) E s := by
  refine iter_vals (nn := nn) (vs := vs) (fun i m nx => (∀ z, z ≠ x → m z = m₀ z) ∧ ∃ n', nx = (pd, listOf (us ++ vs.take i).toArray n') :: rest) hh (List.mem_cons_of_mem _ hl) F N ⟨fun _ _ => rfl, pn, by simp⟩ ?_ ?_ ?_
  · rintro i m nx ⟨_, n', rfl⟩
    exact List.mem_cons_of_mem _ hl
  · rintro i v m₁ nx h tk I oi hv ⟨hm, n', rfl⟩ hne F₁ N₁
    have e : (fun y => if y = x then some v else m₁ y) = fun y => if y = x then some v else m₀ y := by
      funext y
      by_cases h1 : y = x
      · simp [h1]
      · simp only [if_neg h1]; exact hm y h1
    rw [e] at F₁
    have hlen : (us ++ vs.take i).length ≤ us.length + vs.length := by
      rw [List.length_append, List.length_take]; omega
    refine wpAny_mono (turn v _ n' h tk I oi (List.mem_of_getElem? hv) hlen (fun p hp => hne p (.tail _ hp)) (hne _ (.head _)) F₁ N₁) (fun f s₂ p => ?_) fun _ _ e => e
    obtain ⟨rfl, h', tk', n2, rfl, F₂, N₂⟩ := p
    refine IvEnd.intro F₂ N₂ (fun p hp => ?_) ⟨fun z hz => if_neg hz, n2, ?_⟩
    · rcases List.mem_cons.mp hp with rfl | hp
      · exact hne (pd, listOf (us ++ List.take i vs).toArray n') (.head _)
      · exact hne p (.tail _ hp)
    · rw [List.take_add_one, hv]
      simp
  · rintro m₁ nx h tk ⟨hm, n', rfl⟩ F₁ N₁
    rw [List.take_length] at N₁
    refine done (m₁ x) n' h tk ?_ N₁
    have e : (fun y => if y = x then m₁ x else m₀ y) = m₁ := by
      funext y
      by_cases h1 : y = x
      · simp [h1]
      · simp only [if_neg h1]; exact (hm y h1).symm
    rw [e]; exact F₁
end
/-! the search's loop -/
abbrev RSt := List (Value × List Nat × Nat) × Nat × Obj × List Nat
def rLed (pd sd : Nat) (news : Led) (c : RSt) : Led := (pd, listOf (c.1.map (·.1)).toArray c.2.1) :: (sd, c.2.2.1) :: news
def rKvs (sl : List Nat) : List (Int × Value) := sl.map fun i : Nat => (10 + 3 * (i : Int), Value.bool true)
def rFacts (w : World) (xs : List Nat) (news : Led) (c : RSt) : Prop := c.2.2.1.IsDictOf (PySem.intKind PySem.Challenge.rw_nz0470_01.row.prog w) (rKvs c.2.2.2) ∧ ∀ t ∈ c.1, Val w xs news t.1 t.2.1 t.2.2
def rMu (K : Nat → Nat) (n : Nat) (c : RSt) : Nat := weight c.1 + unseen K c.2.2.2 n
def rP (W : Nat → List Nat) (K : Nat → Nat) (n : Nat) (r : List Nat) (c : RSt) : Prop := Srch W r c.2.2.2 (spots c.1) ∧ rMu K n c ≤ 10000
/-- the turn's end -/
def RPost (w : World) (xs : List Nat) (W : Nat → List Nat) (K : Nat → Nat) (r : List Nat) (h₀ : Heap) (L : Addr) (pd sd : Nat) (news : Led) (stored : List Str) (m₀ : Str → Option Value) (c : RSt) (s : Shared) (f : Flow) (s₂ : Shared) : Prop :=
  (f = .next ∨ f = .cont) ∧ KswEnd h₀ L s (rLed pd sd news) (fun _ => []) (rFacts w xs news) stored m₀ (rP W K xs.length r) (rMu K xs.length) c s₂
theorem kvs_in {sl : List Nat} {i : Nat} (b : Bool) (h : b = true ↔ i ∈ sl) : (valueAt (rKvs sl) (10 + 3 * (i : Int))).isSome = b := by
  have : (valueAt (rKvs sl) (10 + 3 * (i : Int))).isSome = true ↔ i ∈ sl := by
    simp only [valueAt, rKvs, Option.isSome_map, List.find?_isSome, List.mem_map, decide_eq_true_eq]
    constructor
    · rintro ⟨p, ⟨j, hj, rfl⟩, e⟩
      have : j = i := by simp only at e; omega
      exact this ▸ hj
    · intro h
      exact ⟨_, ⟨i, h, rfl⟩, rfl⟩
  cases b with
  | true => exact this.mpr (h.mp rfl)
  | false =>
    cases h2 : (valueAt (rKvs sl) (10 + 3 * (i : Int))).isSome with
    | false => rfl
    | true => exact absurd (h.mpr (this.mp h2)) Bool.false_ne_true
theorem kvs_store {sl : List Nat} {i : Nat} (h : i ∉ sl) : stored (rKvs sl) (10 + 3 * (i : Int)) (.bool true) = rKvs (sl ++ [i]) := by
  have h1 : (rKvs sl).any (fun kv => decide (kv.1 = 10 + 3 * (i : Int))) = false := by
    rw [List.any_eq_false]
    intro p hp
    obtain ⟨j, hj, rfl⟩ := List.mem_map.mp hp
    have : (10 + 3 * (j : Int)) ≠ 10 + 3 * (i : Int) := fun e => h (by
      have : j = i := by omega
      exact this ▸ hj)
    simpa using this
  unfold PySem.stored
  rw [h1]
  simp [rKvs]
theorem ints_of : ∀ {vs : List Value} {ns : List Int}, vs.length = ns.length → (∀ (j : Nat) (v : Value), vs[j]? = some v → ∃ t, v = Value.int (ns.getD j 0) t) → IntsAre vs ns
  | [], [], _, _ => .nil
  | [], _ :: _, e, _ => nomatch e
  | _ :: _, [], e, _ => nomatch e
  | v :: vs, n :: ns, e, h => by
    obtain ⟨t, ht⟩ := h 0 v rfl
    have : n = (n :: ns).getD 0 0 := rfl
    rw [ht]
    exact .cons n t (ints_of (by simpa using e) fun j v hv => h (j + 1) v hv)
section
variable {prog : Program} {w : World} {A : Around} {E : Value → Shared → Prop} {s : Shared} {h₀ : Heap} {L sd : Addr} {m : Str → Option Value} {news : Led} {Q : Value → Shared → Prop}
theorem seen_sorted {so : Obj} {sl : List Nat} (hh : A.handled = none) (F : Fr h₀ L s.heap m) (N : News h₀ L s.heap news) (hm : (sd, so) ∈ news) (hd : so.IsDictOf (PySem.intKind prog w) (rKvs sl)) (lo : (sd == sysModules) = false) (h6 : sl.length ≤ 6)
    (h : ∀ (B : Addr) vs ns c h' tk, Fr h₀ L h' m → News h₀ L h' ((B, listOf (List.toArray vs) c) :: news) → (∀ q ∈ news, q.1 < B) → IntsAre vs ns → ns.Perm (sl.map fun i : Nat => 10 + 3 * (i : Int)) → ns.Pairwise (fun x y => x ≤ y) → Q (.ref B) { s with heap := h', toks := tk }) :
    wpAny (model prog w) A (call (.builtin "sorted") [.ref sd]) Q E s := by
  have hbig : sizeLine = 16777216 := sizeLine_eq
  have hk : (rKvs sl).length = sl.length := List.length_map ..
  have hD : s.heap.DictOf (PySem.intKind prog w) sd (rKvs sl) := Heap.dictOf_iff.mpr ⟨so, (N _ hm).1, hd⟩
  obtain ⟨ep, hat⟩ := hD.dictAt
  refine kdu_sorted (kdl_dict (knd := PySem.intKind prog w) (kvs := rKvs sl) (ep := ep) lo) hh F N hat (by omega) fun D h' tk vs F' N' l1 hlen hP => ?_
  have hI : IntsAre vs (sl.map fun i : Nat => 10 + 3 * (i : Int)) := by
    refine ints_of (by rw [hlen, hk, List.length_map]) fun j v hv => ?_
    obtain ⟨k, x, hx, hki⟩ := hP j v hv
    obtain ⟨t, rfl⟩ := Value.isInt_shape hki
    refine ⟨t, ?_⟩
    simp only [rKvs, List.getElem?_map, Option.map_eq_some_iff] at hx
    obtain ⟨i, hi, e⟩ := hx
    simp only [Prod.mk.injEq] at e
    simp [List.getD, hi, e.1]
  refine ksk_lsort (news' := fun o => (D, o) :: news) F' N' (fun o => Upd.head fun p hp => Nat.ne_of_lt (l1 p hp)) rfl hI (by rw [List.length_map]; omega) fun vs' ns' c h2 F2 N2 hI2 _ hp hs _ => ?_
  exact h D vs' ns' c h2 tk F2 N2 l1 hI2 hp hs
end
theorem parts_use {w : World} {mean : ExcName → Option Value} {mg mb : Str → Option Value} {f : Nat} {v : Value} {rest : Led} {pd : Nat} {po : Obj} {vs : List Value} {dp un : Nat} {gd : Option (List Code)} {cn : Str} {cs : Scope} {a : Addr} {ccd : Value} {cl : List (Str × Addr)} {outer : List Env} {A₀ : Around} {base h₀ : Heap} {L : Addr} {m : Str → Option Value} {s : Shared} {Q E : Value → Shared → Prop}
    (R : ReadOk w mean mg mb f v ((pd, po) :: rest) vs) (B : Below A₀ base outer h₀) (F : Fr h₀ L s.heap m) (X : (KF w.params).In h₀) (N : News h₀ L s.heap ((pd, po) :: rest)) (T : Top VW Lo mean mg mb h₀) (hk : cs.kind = .function) (hd : dp + 12 < 1000) (hu : un + 150 < 9900)
    (ret : ∀ (l n : Nat) (h' : Heap) (tk' : Nat), Fr h₀ L h' m → News h₀ L h' ((pd, po) :: (l, listOf vs.toArray n) :: rest) → @Ne Nat l pd → (∀ p ∈ rest, @Ne Nat p.1 l) → Q (.ref l) { s with heap := h', toks := tk' }) :
    wpAny (model PySem.Challenge.rw_nz0470_01.row.prog w) (ktrTop dp un gd cn cs L a ccd cl outer) (call (.ref f) [v]) Q E s :=
  R B F X N T hk hd hu fun l n h' tk' F' N' hne => ret l n h' tk' F' (fun p hp => N' p (by
    rcases List.mem_cons.mp hp with rfl | hp
    · exact .tail _ (.head _)
    · rcases List.mem_cons.mp hp with rfl | hp
      · exact .head _
      · exact .tail _ (.tail _ hp))) (fun e => hne _ (.head _) e.symm) fun p hp => hne p (.tail _ hp)
/-- what a turn leaves -/
def RTurn (w : World) (h₀ : Heap) (L : Addr) (pd sd : Nat) (news : Led) (m₀ : Str → Option Value) (us : List Value) (sl : List Nat) (s : Shared) (f : Flow) (s₂ : Shared) : Prop :=
  (f = .next ∨ f = .cont) ∧ ∃ h' tk m' pn' so', s₂ = { s with heap := h', toks := tk } ∧ Fr h₀ L h' m' ∧ News h₀ L h' ((pd, listOf us.toArray pn') :: (sd, so') :: news) ∧ so'.IsDictOf (PySem.intKind PySem.Challenge.rw_nz0470_01.row.prog w) (rKvs sl) ∧
    (∀ z, [Str.ofString "value", Str.ofString "part"].contains z = false → m' z = m₀ z)
theorem RTurn.intro {w : World} {h₀ : Heap} {L : Addr} {pd sd : Nat} {news led : Led} {m₀ m' : Str → Option Value} {us : List Value} {its : Array Value} {sl : List Nat} {s : Shared} {f : Flow} {h' : Heap} {tk pn' : Nat} {so' : Obj} (hf : f = .next ∨ f = .cont) (F : Fr h₀ L h' m') (N : News h₀ L h' led) (h1 : (pd, listOf its pn') ∈ led) (h2 : (sd, so') ∈ led) (h3 : ∀ p ∈ news, p ∈ led) (e : its = us.toArray) (hd : so'.IsDictOf (PySem.intKind PySem.Challenge.rw_nz0470_01.row.prog w) (rKvs sl)) (hm : ∀ z, z ≠ Str.ofString "value" → z ≠ Str.ofString "part" → [Str.ofString "value", Str.ofString "part"].contains z = false → m' z = m₀ z) :
    RTurn w h₀ L pd sd news m₀ us sl s f { s with heap := h', toks := tk } := by
  subst e
  refine ⟨hf, h', tk, m', pn', so', rfl, F, fun p hp => N p ?_, hd, fun z hz => hm z ?_ ?_ hz⟩
  · rcases List.mem_cons.mp hp with rfl | hp
    · exact h1
    · rcases List.mem_cons.mp hp with rfl | hp
      · exact h2
      · exact h3 p hp
  · rintro rfl
    exact absurd hz (by decide)
  · rintro rfl
    exact absurd hz (by decide)
abbrev rFrame (u m₀ : Str → Option Value) : Str → Option Value := fun z => if [Str.ofString "value", Str.ofString "part"].contains z then u z else m₀ z
theorem reach_while {w : World} {A : Around} {E : Value → Shared → Prop} {Q : Flow → Shared → Prop} {s : Shared} {env : Env} {h₀ : Heap} {L : Addr} {test : Expr} {body : List Stmt} {pos : Pos} {m₀ : Str → Option Value} {pd sd pn : Nat} {so : Obj} {news : Led} {xs : List Nat} {W : Nat → List Nat} {K : Nat → Nat} {rts : List (Value × List Nat × Nat)}
    (G : Graph w xs news W K) (hrv : ∀ t ∈ rts, Val w xs news t.1 t.2.1 t.2.2) (hw : weight rts + unseen K [] xs.length ≤ 10000)
    (F : Fr h₀ L s.heap m₀) (N : News h₀ L s.heap ((pd, listOf (rts.map (·.1)).toArray pn) :: (sd, so) :: news)) (hso : so.IsDictOf (PySem.intKind PySem.Challenge.rw_nz0470_01.row.prog w) [])
    (fin : ∀ sl so pn u h tk, so.IsDictOf (PySem.intKind PySem.Challenge.rw_nz0470_01.row.prog w) (rKvs sl) → Srch W (spots rts) sl [] → sl.length ≤ 6 → Fr h₀ L h (rFrame u m₀) → News h₀ L h ((pd, listOf ([] : List Value).toArray pn) :: (sd, so) :: news) →
      wpAny (model PySem.Challenge.rw_nz0470_01.row.prog w) A (isTrue test env (eval test env)) (fun b s₂ => if b = true then wpAny (model PySem.Challenge.rw_nz0470_01.row.prog w) A (execs body env) (fun _ _ => False) E s₂ else Q .next s₂) E { s with heap := h, toks := tk })
    (seen : ∀ us i x vs1 vs2 sl so pn u h tk, EShape w news x (10 + 3 * ((i : Nat) : Int)) vs1 vs2 → us.length ≤ 10000 → i ∈ sl → so.IsDictOf (PySem.intKind PySem.Challenge.rw_nz0470_01.row.prog w) (rKvs sl) → Fr h₀ L h (rFrame u m₀) → News h₀ L h ((pd, listOf (us ++ [Value.ref x]).toArray pn) :: (sd, so) :: news) →
      wpAny (model PySem.Challenge.rw_nz0470_01.row.prog w) A (isTrue test env (eval test env)) (fun b s₂ => if b = true then wpAny (model PySem.Challenge.rw_nz0470_01.row.prog w) A (execs body env) (RTurn w h₀ L pd sd news m₀ us sl s) E s₂ else Q .next s₂) E { s with heap := h, toks := tk })
    (fresh : ∀ us i x vs1 vs2 sl so pn u h tk, EShape w news x (10 + 3 * ((i : Nat) : Int)) vs1 vs2 → us.length ≤ 10000 → vs1.length ≤ 10000 → vs2.length ≤ 10000 → i ∉ sl → sl.length ≤ 10000 → so.IsDictOf (PySem.intKind PySem.Challenge.rw_nz0470_01.row.prog w) (rKvs sl) → Fr h₀ L h (rFrame u m₀) → News h₀ L h ((pd, listOf (us ++ [Value.ref x]).toArray pn) :: (sd, so) :: news) →
      wpAny (model PySem.Challenge.rw_nz0470_01.row.prog w) A (isTrue test env (eval test env)) (fun b s₂ => if b = true then wpAny (model PySem.Challenge.rw_nz0470_01.row.prog w) A (execs body env) (RTurn w h₀ L pd sd news m₀ (us ++ vs1 ++ vs2) (sl ++ [i]) s) E s₂ else Q .next s₂) E { s with heap := h, toks := tk })
    (node : ∀ us x kd vs1 vs2 sl so pn u h tk, Shape w news x kd vs1 vs2 → us.length ≤ 10000 → vs1.length ≤ 10000 → vs2.length ≤ 10000 → so.IsDictOf (PySem.intKind PySem.Challenge.rw_nz0470_01.row.prog w) (rKvs sl) → Fr h₀ L h (rFrame u m₀) → News h₀ L h ((pd, listOf (us ++ [Value.ref x]).toArray pn) :: (sd, so) :: news) →
      wpAny (model PySem.Challenge.rw_nz0470_01.row.prog w) A (isTrue test env (eval test env)) (fun b s₂ => if b = true then wpAny (model PySem.Challenge.rw_nz0470_01.row.prog w) A (execs body env) (RTurn w h₀ L pd sd news m₀ (us ++ vs1 ++ vs2) sl s) E s₂ else Q .next s₂) E { s with heap := h, toks := tk })
    (hin : ∀ i ∈ spots rts, i < xs.length) (hW : ∀ i, i < xs.length → ∀ j ∈ W i, j < xs.length) (hx6 : xs.length ≤ 6)
    (hE : PassesOwn (model PySem.Challenge.rw_nz0470_01.row.prog w) A env E := by passes_own) :
    wpAny (model PySem.Challenge.rw_nz0470_01.row.prog w) A (exec (.While test body [] pos) env) Q E s := by
  have c0 : rMu K xs.length (rts, pn, so, []) ≤ 10000 := hw
  refine ksw_while (rLed pd sd news) (fun _ => []) (rFacts w xs news) [Str.ofString "value", Str.ofString "part"] (rP W K xs.length (spots rts)) (rMu K xs.length) (rts, pn, so, []) F N ⟨hso, hrv⟩ (fun _ h => nomatch h) ⟨Srch.start fun _ => Iff.rfl, c0⟩ ?_ hE
  rintro ⟨pend, pn, so, sl⟩ u h tk ⟨hd, hv⟩ ⟨hS, hmu⟩ F₁ N₁
  have F₂ : Fr h₀ L h (rFrame u m₀) := F₁
  have endT : ∀ {us : List Value} {sl' : List Nat} {pend' : List (Value × List Nat × Nat)}, us = pend'.map (·.1) → (∀ t ∈ pend', Val w xs news t.1 t.2.1 t.2.2) → Srch W (spots rts) sl' (spots pend') → weight pend' + unseen K sl' xs.length < weight pend + unseen K sl xs.length →
      ∀ f s₂, RTurn w h₀ L pd sd news m₀ us sl' s f s₂ → KswPost h₀ L s (rLed pd sd news) (fun _ => []) (rFacts w xs news) [Str.ofString "value", Str.ofString "part"] m₀ (rP W K xs.length (spots rts)) (rMu K xs.length) Q (pend, pn, so, sl) f s₂ := by
    intro us sl' pend' e hv' hS' hlt f s₂ hT
    subst e
    obtain ⟨hf, h', tk', m', pn', so', rfl, F', N', hd', hm'⟩ := hT
    have k : KswEnd h₀ L s (rLed pd sd news) (fun _ => []) (rFacts w xs news) [Str.ofString "value", Str.ofString "part"] m₀ (rP W K xs.length (spots rts)) (rMu K xs.length) (pend, pn, so, sl) { s with heap := h', toks := tk' } :=
      ksw_end (pend', pn', so', sl') F' N' (fun _ h => h) ⟨hd', hv'⟩ (fun _ h => nomatch h) (fun z _ hz => hm' z hz) ⟨hS', Nat.le_of_lt (Nat.lt_of_lt_of_le hlt hmu)⟩ hlt
    rcases hf with rfl | rfl <;> exact k
  have hlt := hS.lt hin hW
  have hsl : sl.length ≤ 10000 := Nat.le_trans (nodup_lt hS.nd hlt) (by omega)
  rcases List.eq_nil_or_concat pend with rfl | ⟨P, t, rfl⟩
  · refine wpAny_mono (fin sl so pn u h tk hd hS (Nat.le_trans (nodup_lt hS.nd hlt) hx6) F₂ N₁) (fun b s₂ p => ?_) fun _ _ e => e
    cases b with
    | false => exact p
    | true => exact wpAny_mono p (fun _ _ e => e.elim) fun _ _ e => e
  · rw [List.concat_eq_append] at *
    have hvt := hv t (List.mem_append_right _ (.head _))
    have hvP : ∀ q ∈ P, Val w xs news q.1 q.2.1 q.2.2 := fun q hq => hv q (List.mem_append_left _ hq)
    have hpw := length_le_weight (P := P) fun q hq => (hvP q hq).pos
    have hmu' : weight P + t.2.2 + unseen K sl xs.length ≤ 10000 := by
      have : rMu K xs.length (P ++ [t], pn, so, sl) = weight P + t.2.2 + unseen K sl xs.length := by simp [rMu, weight]
      omega
    have hPl : (P.map (·.1)).length ≤ 10000 := by rw [List.length_map]; omega
    have hwt : weight (P ++ [t]) = weight P + t.2.2 := by simp [weight]
    have hsp : ∀ j, j ∈ spots (P ++ [t]) ↔ j ∈ t.2.1 ∨ j ∈ spots P := fun j => by
      rw [spots_app, List.mem_append]
      simp only [spots, List.flatMap_cons, List.flatMap_nil, List.append_nil]
      exact Or.comm
    have N₂ : News h₀ L h ((pd, listOf (P.map (·.1) ++ [t.1]).toArray pn) :: (sd, so) :: news) := by
      have := N₁
      simp only [rLed, List.map_append, List.map_cons, List.map_nil] at this
      exact this
    obtain ⟨v, lt, kt⟩ := t
    simp only at hvt hsp hwt hmu' N₂
    cases hvt with
    | @env i x hx =>
      obtain ⟨vs1, vs2, its1, its2, hE1, e1, e2, hits, hWi, hKi⟩ := G.env i x hx
      have hix : i < xs.length := (List.getElem?_eq_some_iff.mp hx).1
      by_cases hi : i ∈ sl
      · refine wpAny_mono (seen _ i x vs1 vs2 sl so pn u h tk hE1 hPl hi hd F₂ N₂) (fun b s₂ p => ?_) fun _ _ e => e
        cases b with
        | false => exact p
        | true =>
          refine wpAny_mono p (endT rfl hvP (hS.again hi fun j => by rw [hsp j, List.mem_singleton]) ?_) fun _ _ e => e
          omega
      · have hun := unseen_take (K := K) hi hix
        have hl12 := length_le_weight (P := its1 ++ its2) fun q hq => (hits q hq).pos
        rw [List.length_append] at hl12
        refine wpAny_mono (fresh _ i x vs1 vs2 sl so pn u h tk hE1 hPl (by rw [e1, List.length_map]; omega) (by rw [e2, List.length_map]; omega) hi hsl hd F₂ N₂) (fun b s₂ p => ?_) fun _ _ e => e
        cases b with
        | false => exact p
        | true =>
          refine wpAny_mono p (endT (pend' := P ++ (its1 ++ its2)) (by simp [e1, e2]) (fun q hq => (List.mem_append.mp hq).elim (hvP q) (hits q)) (hS.take (P' := spots P) hi (fun j => by rw [hsp j, List.mem_singleton]) _ fun j => by rw [spots_app, List.mem_append, hWi j]) ?_) fun _ _ e => e
          rw [weight_app]
          omega
    | @node x kd vs1 vs2 l its hSh e hits hl =>
      obtain ⟨its1, its2, rfl, e1, e2⟩ := List.map_eq_append_iff.mp e.symm
      have hl12 := length_le_weight (P := its1 ++ its2) fun q hq => (hits q hq).pos
      rw [List.length_append] at hl12
      have hws : ((its1 ++ its2).map (·.2.2)).sum = weight (its1 ++ its2) := rfl
      rw [hws] at hmu'
      refine wpAny_mono (node _ x kd vs1 vs2 sl so pn u h tk hSh hPl (by rw [← e1, List.length_map]; omega) (by rw [← e2, List.length_map]; omega) hd F₂ N₂) (fun b s₂ p => ?_) fun _ _ e => e
      cases b with
      | false => exact p
      | true =>
        refine wpAny_mono p (endT (pend' := P ++ (its1 ++ its2)) (by simp [← e1, ← e2]) (fun q hq => (List.mem_append.mp hq).elim (hvP q) (hits q)) (hS.move fun j => ?_) ?_) fun _ _ e => e
        · rw [spots_app, List.mem_append, hsp j, hl j, ← mem_spots]
          exact Or.comm
        · rw [weight_app, hwt]
          omega
theorem EShape.kindOk {w : World} {news : Led} {x : Nat} {num : Int} {vs1 vs2 : List Value} (S : EShape w news x num vs1 vs2) : ∃ t, GetOk w news x (Str.ofString "kind") (.str (Str.ofString "environment") t) := by
  obtain ⟨_, _, _, i⟩ := S.inst
  exact ekind_ok w i
theorem EShape.numOk {w : World} {news : Led} {x : Nat} {num : Int} {vs1 vs2 : List Value} (S : EShape w news x num vs1 vs2) : ∃ t, GetOk w news x (Str.ofString "number") (.int num t) := by
  obtain ⟨_, _, _, i⟩ := S.inst
  exact enum_ok w i
theorem fillX : (∀ P, KF P = KF P) ∧ PySem.Challenge.rw_nz0470_01 = PySem.Challenge.rw_nz0470_01 := by
  k_fill
  exact ⟨fun _ => rfl, rfl⟩
theorem lnMXa : True := by
  k_with "t k_all" => (assumption)
  k_with "t k_mem" => (first | exact List.Mem.head _ | (refine' List.mem_cons_of_mem _ ?_; k_mem) | ktr_member | (ktn_app; first | (refine List.mem_append.mpr (Or.inl ?_); k_mem) | (refine List.mem_append.mpr (Or.inr ?_); k_mem)))
  k_with "t k_room" => (ktr_room)
  k_with "t k_units" => (ktr_units)
  k_with "m callWith ref" => ((k_here; k_dflt (first
    | (refine' callWith_K ?w138k1 ?w138k2 ?_; (case w138k1 => k_asm); (case w138k2 => k_is); k_whole)
    | (refine' callWith_K0 ?w138k1 ?w138k2 ?_; (case w138k1 => k_in); (case w138k2 => k_is); k_whole))))
  k_with "t tbn_lt" => (first | tbn_find | exact allLt_of (by assumption) | exact allLt_r (by tbn_find) | exact allLt_r (allLt_r (by tbn_find)) | exact tbn_up (by assumption) (by first | tbn_find | exact allLt_of (by assumption) | exact allLt_r (by tbn_find) | exact allLt_r (allLt_r (by tbn_find))))
  k_with "t tb_start" => (first | exact Led3.base0 | exact Led3.base2 (by assumption) (by assumption) | exact Led3.base1 (by assumption) | (refine' Led3.step ?w140tba ?w140tbb ?w140tbc ?w140tbd ?w140tbe; (case w140tba => omega); (case w140tbb => omega); (case w140tbc => omega); (case w140tbd => tbn_lt); (case w140tbe => tb_start)))
  k_with "t tb_rel" => ((intro p hp; (repeat' (refine List.Mem.tail _ ?_)); first | exact hp | exact List.mem_append_left _ hp | exact List.mem_append_right _ hp))
  k_with "t k_enter" => ((refine' code_def ?w142k1 ?w142k2 ?w142k3 ?w142k4 ?w142k5 ?w142kA ?w142kF ?w142kK ?w142k6 ?w142k7 ?w142k8 ?w142k9 ?w142kB ?_ ?w142c2 ?w142c3 ?w142c4 ?w142c5; (case w142kA => exact rfl); (case w142kF => exact rfl); (case w142kK => first | exact rfl | assumption); (case w142k1 => k_asm); (case w142k2 => k_asm); (case w142k3 => k_asm); (case w142k4 => k_asm); (case w142k5 => k_asm); (case w142k6 => k_is); (case w142k7 => k_is); (case w142k8 => ktr_room); (case w142k9 => first | exact BindsTo.of_eq rfl | exact binds_K (by k_in) rfl (by k_is) rfl rfl rfl); (case w142c5 => decide); (case w142kB => exact locs rfl); (case w142c2 => exact rfl); (case w142c3 => exact rfl); (case w142c4 => exact rfl); k_whole; intro g' L' h' FG' F' N' B' X' T'; (try dsimp only); (try k_fold)))
  k_with "t k_enter" => ((refine' code_defC ?w143k1 ?w143k2 ?w143k3 ?w143k4 ?w143k5 ?w143kA ?w143kF ?w143kK ?w143k6 ?w143k7 ?w143k8 ?w143k9 ?w143kB ?w143kD ?_ ?w143c2 ?w143c3 ?w143c4; (case w143kA => exact rfl); (case w143kF => exact rfl); (case w143kK => first | exact rfl | assumption); (case w143k1 => k_asm); (case w143k2 => k_asm); (case w143k3 => k_asm); (case w143k4 => k_asm); (case w143k5 => k_asm); (case w143k6 => k_is); (case w143k7 => k_is); (case w143k8 => ktr_room); (case w143k9 => first | exact BindsTo.of_eq rfl | exact binds_K (by k_in) rfl (by k_is) rfl rfl rfl); (case w143kB => exact rfl); (case w143kD => decide +kernel); (case w143c2 => exact rfl); (case w143c3 => exact rfl); (case w143c4 => exact rfl); k_whole; intro g' L' h' tk' cells' FG' F' N' Y' B' X' T' l1; (try k_lt l1); k_cells Y'; (try simp only [List.cons_append, List.nil_append] at N'); (try dsimp only); (try k_fold)))
  k_with "m CompEnd" => ((k_dflt (refine LCg.CompEnd.intro (by assumption) (by assumption) _ (fun _ h => h) (by assumption) (by lcg_src) ?_)))
  k_with "m eval ListComp" => ((k_here; lcf_look; lcg_calm; k_dflt (refine ListComp_D (by k_asm) (by with_unfolding_all rfl) (by decide) (by rfl) (by decide) (by rfl) ?_)))
  k_with "m exec Assign cons ListComp" => ((k_here; lcf_look; lcg_calm; k_dflt (refine Assign_ListComp_D (by k_asm) (by rfl) (by with_unfolding_all rfl) (by with_unfolding_all rfl) (by decide) (by rfl) (by decide) (by rfl) (by rfl) (by rfl) ?_)))
  k_with "m SrcD" => ((k_dflt (refine' SrcD.intro ?w147F ?w147N ?w147X ?w147D ?w147lo ?w147dd ?w147m ?w147gt ?_ ?w147c ?w147d ?w147z ?w147hh ?w147kx ?w147ky ?w147kf ?w147bx ?w147by_; (case w147F => k_asm); (case w147N => k_asm); (case w147X => k_asm); (case w147D => k_mem); (case w147lo => assumption); (case w147dd => assumption); (case w147c => rfl); (case w147m => k_mem); (case w147d => k_asm); (case w147gt => (first | (refine GetOk.mono (by assumption) ?_; tb_rel) | (intro A1 E1 s1 h1 L1 m1 Q1 F1 X1 N1 q1; refine' get_own F1 X1 ?w147k3 ?w147k4 ?w147k5 ?w147k6 ?w147k7 ?w147k8 ?w147k9 q1; (case w147k3 => k_inst); (case w147k4 => k_is); (case w147k5 => k_is); (case w147k6 => k_is); (case w147k7 => k_is); (case w147k8 => k_get); (case w147k9 => k_handed)))); (case w147z => first | exact Nat.le_of_ble_eq_true rfl | (rw [sizeLine_eq]; omega)); (case w147hh => rfl); (case w147kx => intro _; rfl); (case w147ky => intro _; rfl); (case w147kf => intro _; rfl); (case w147bx => decide); (case w147by_ => decide)); intro s2' hs2'; obtain ⟨g', eg'⟩ := hs2'; subst eg'; dsimp only [List.map]))
  k_with "m call builtin:list.append" => ((k_here; (with_reducible show wpAny _ _ (call (Value.builtin _) [Value.ref _, _]) _ _ _); k_dflt (refine' append_K ?w148k1 ?w148k2 ?w148k3 ?_ ?w148z; (case w148k1 => k_asm); (case w148k2 => k_asm); (case w148k3 => exact Upd.head (off1_ne (by assumption))); (case w148z => size_fits); k_whole); intro h' F' N'; (try k_sweep)))
  k_with "t tb_rel" => ((intro p hp; first | exact hp | (repeat' (first | exact hp | (refine List.Mem.tail _ ?_)))))
  k_with "t tb_start" => ((refine read_fin ret (by k_asm) (by k_asm) (by k_mem) (by tb_rel) (by first | exact ltNe (by first | tbn_find | exact allLt_of (by assumption)) | exact off1_ne (by assumption) | exact off1_ne (And.right (And.right (by assumption))) | exact off1_ne (And.right (by assumption)))))
  trivial
section
variable {prog : Program} {w : World} {A : Around} {E : Value → Shared → Prop} {s : Shared} {h₀ : Heap} {L pd : Addr} {m : Str → Option Value} {rest : Led}
theorem reached_fin {m : Str → Option Value} {s : Shared} {Q : Value → Shared → Prop} {news : Led} {W : Nat → List Nat} {r : List Nat}
    (ret : ∀ (l n : Nat) (h' : Heap) (tk' : Nat) (vs : List Value) (ns : List Int) (sl : List Nat), Fr h₀ L h' m → News h₀ L h' ((l, listOf vs.toArray n) :: news) → (∀ p ∈ news, @Ne Nat p.1 l) → IntsAre vs ns → ns.Perm (sl.map fun i : Nat => 10 + 3 * (i : Int)) → ns.Pairwise (· ≤ ·) → sl.Nodup → (∀ i, i ∈ sl ↔ Reach W r i) → Q (.ref l) { s with heap := h', toks := tk' })
    {l n : Nat} {h' : Heap} {tk' : Nat} {led : Led} {vs : List Value} {ns : List Int} {sl : List Nat} (F : Fr h₀ L h' m) (N : News h₀ L h' led) (h1 : (l, listOf vs.toArray n) ∈ led) (h3 : ∀ p ∈ news, p ∈ led) (h4 : ∀ p ∈ news, @Ne Nat p.1 l)
    (a : IntsAre vs ns) (b : ns.Perm (sl.map fun i : Nat => 10 + 3 * (i : Int))) (c : ns.Pairwise (· ≤ ·)) (d : sl.Nodup) (e : ∀ i, i ∈ sl ↔ Reach W r i) : Q (.ref l) { s with heap := h', toks := tk' } := by
  refine ret l n h' tk' vs ns sl F (fun p hp => ?_) h4 a b c d e
  rcases List.mem_cons.mp hp with rfl | hp
  · exact N _ h1
  · exact N _ (h3 p hp)
theorem list_pop {us : List Value} {v : Value} {n : Nat} {Q : Value → Shared → Prop} (F : Fr h₀ L s.heap m) (N : News h₀ L s.heap ((pd, listOf (us ++ [v]).toArray n) :: rest)) (hp : ∀ p ∈ rest, @Ne Nat p.1 pd) (hl : us.length ≤ 10000)
    (h : ∀ h' n', Fr h₀ L h' m → News h₀ L h' ((pd, listOf us.toArray n') :: rest) → Q v { s with heap := h' }) : wpAny (model prog w) A (call (.builtin "list.pop") [.ref pd]) Q E s := by
  have hbig : sizeLine = 16777216 := sizeLine_eq
  exact kl_pop F N (p := us) (y := v) (by simpa using kpa_last v us) (Upd.head hp) (by simp; omega) fun h' F' N' => h h' _ F' N'
theorem seen_set {w : World} {sd : Nat} {so : Obj} {led : Led} {g : Obj → Led} {sl : List Nat} {i : Nat} {t : Tok} {Q : Unit → Shared → Prop} (F : Fr h₀ L s.heap m) (N : News h₀ L s.heap led) (U : UpdF sd so led g) (hd : so.IsDictOf (PySem.intKind prog w) (rKvs sl)) (hi : i ∉ sl) (hs : sl.length ≤ 10000)
    (h : ∀ h' o', Fr h₀ L h' m → News h₀ L h' (g o') → o'.IsDictOf (PySem.intKind prog w) (rKvs (sl ++ [i])) → Q () { s with heap := h', toks := s.toks + 1 }) : wpAny (model prog w) A (setItem (.ref sd) (.int (10 + 3 * (i : Int)) t) (.bool true)) Q E s := by
  have hbig : sizeLine = 16777216 := sizeLine_eq
  have hk : (rKvs sl).length = sl.length := List.length_map ..
  exact kda_set (knd := PySem.intKind prog w) F N U hd (intKind_is _ _ _ _) (by omega) fun h' o' F' N' hd' => h h' o' F' N' (kvs_store hi ▸ hd')
theorem eq_str_no {x y : Str} {t u : Tok} {Q : Value → Shared → Prop} (e : x ≠ y) (h : Q (.bool false) s) : wpAny (model prog w) A (compareOp .Eq (.str x t) (.str y u)) Q E s := PyProof.Rows.eq_str (by rw [beq_false_of_ne e]; exact h)
theorem ne_str_yes {x y : Str} {t u : Tok} {Q : Value → Shared → Prop} (e : x ≠ y) (h : Q (.bool true) s) : wpAny (model prog w) A (compareOp .NotEq (.str x t) (.str y u)) Q E s := PyProof.Rows.ne_str (by
  have : (x != y) = true := bne_iff_ne.mpr e
  rw [this]; exact h)
end
theorem len_snoc {us : List Value} {v : Value} : (us ++ [v]).length = us.length + 1 := by simp
theorem lnMXb : True := by
  k_with "m call builtin:len" => ((k_here; (with_reducible show wpAny _ _ (call (Value.builtin "len") [Value.ref _]) _ _ _); k_dflt (refine' kst_len ?w151N ?w151m ?w151e ?w151f ?_; (case w151N => k_asm); (case w151m => k_mem); (case w151e => first | exact len_snoc | exact rfl); (case w151f => first | omega | decide))))
  k_with "m call builtin:sorted" => ((k_here; k_dflt (refine' seen_sorted ?w152hh ?w152F ?w152N ?w152m ?w152d ?w152lo ?w152h6 ?_; (case w152hh => exact rfl); (case w152F => k_asm); (case w152N => k_asm); (case w152m => k_mem); (case w152d => assumption); (case w152lo => assumption); (case w152h6 => assumption)); intro B' vs' ns' c' h' tk' F' N' l1 hI' hp' hs'; (try k_lt l1); (try k_sweep)))
  k_with "m call ref" => ((k_here; (with_reducible show wpAny _ _ (call (Value.ref 48) _) _ _ _); k_dflt (refine' parts_use ?w153R ?w153B ?w153F ?w153X ?w153N ?w153T ?w153hk ?w153hd ?w153hu ?_; (case w153B => k_asm); (case w153F => k_asm); (case w153X => k_asm); (case w153N => k_asm); (case w153T => k_asm); (case w153hk => first | exact rfl | assumption); (case w153hd => ktr_room); (case w153hu => ktr_units); (case w153R => first | (refine' parts_ok _ _ _ _ (Shape.mono ?w153S ?w153s); (case w153S => assumption); (case w153s => tb_rel)) | (refine' eparts_ok _ _ _ _ (EShape.mono ?w153S ?w153s); (case w153S => assumption); (case w153s => tb_rel)))); intro lv' nv' h' tk' F' N' hne' hal'; (try k_sweep)))
  k_with "m call ref" => ((k_here; (with_reducible show wpAny _ _ (call (Value.ref 26) _) _ _ _); k_dflt (refine' parts_use ?w154R ?w154B ?w154F ?w154X ?w154N ?w154T ?w154hk ?w154hd ?w154hu ?_; (case w154B => k_asm); (case w154F => k_asm); (case w154X => k_asm); (case w154N => k_asm); (case w154T => k_asm); (case w154hk => first | exact rfl | assumption); (case w154hd => ktr_room); (case w154hu => ktr_units); (case w154R => first | (refine' attrs_ok _ _ _ _ (Shape.mono ?w154S ?w154s); (case w154S => assumption); (case w154s => tb_rel)) | (refine' eattrs_ok _ _ _ _ (EShape.mono ?w154S ?w154s); (case w154S => assumption); (case w154s => tb_rel)))); intro lv' nv' h' tk' F' N' hne' hal'; (try k_sweep)))
  k_with "m pyIter ref" => ((k_here; k_dflt (refine' push_all ?w155hh ?w155F ?w155N ?w155hl ?_ ?_; (case w155hh => exact rfl); (case w155F => k_asm); (case w155N => k_asm); (case w155hl => k_mem)); (intro v9 us8 pn8 h' tk' I8 oi8 hv8 hu8 hI8 hpI8 F' N'); rotate_left; (intro u8 n8 h' tk' F' N'); rotate_right))
  k_with "m PushEnd" => ((k_dflt (refine' PushEnd.intro ?w156F ?w156N; (case w156F => k_asm); (case w156N => k_asm))))
  k_with "m compareOp In int ref" => ((k_here; k_dflt (first
    | (refine' kda_in (knd := PySem.intKind _ _) ?w157N ?w157m ?w157d ?w157lo (intKind_is _ _ _ _) true (kvs_in true (iff_of_true rfl ?w157hi)) ?_; (case w157N => k_asm); (case w157m => k_mem); (case w157d => assumption); (case w157lo => assumption); (case w157hi => assumption))
    | (refine' kda_in (knd := PySem.intKind _ _) ?w157N ?w157m ?w157d ?w157lo (intKind_is _ _ _ _) false (kvs_in false (iff_of_false Bool.false_ne_true ?w157hi)) ?_; (case w157N => k_asm); (case w157m => k_mem); (case w157d => assumption); (case w157lo => assumption); (case w157hi => assumption)))))
  k_with "m setItem ref int" => ((k_here; k_dflt (refine' seen_set ?w158F ?w158N ?w158U ?w158d ?w158hi ?w158hs ?_; (case w158F => k_asm); (case w158N => k_asm); (case w158U => k_updF); (case w158d => assumption); (case w158hi => assumption); (case w158hs => assumption)); intro h' o' F' N' hd'; (try dsimp only at N')))
  k_with "m compareOp Eq str str" => ((k_here; refine' eq_str_no ?w159a ?_; (case w159a => assumption)))
  k_with "m compareOp NotEq str str" => ((k_here; refine' ne_str_yes ?w160a ?_; (case w160a => assumption)))
  k_with "m call type:list" => ((k_here; (with_reducible show wpAny _ _ (call (Value.type _) [Value.ref _]) _ _ _); k_dflt (refine' list_copyK ?w161k1 ?w161k2 ?w161k3 ?_ ?w161z; (case w161k1 => k_asm); (case w161k2 => k_asm); (case w161k3 => exact News.isList (by k_asm) (by k_mem)); (case w161z => (rw [sizeLine_eq]; simp only [List.size_toArray, List.length_map]; omega))); intro D' c' h' F' N' l1; (try k_lt l1); (try k_sweep)))
  k_with "m exec While Compare cons nil" => ((k_here; k_dflt (refine' reach_while ?w162G ?w162rv ?w162w ?w162F ?w162N ?w162so ?w162fin ?w162seen ?w162fresh ?w162node ?w162hin ?w162hW ?w162h6 ?w162hE; (case w162G => assumption); (case w162rv => assumption); (case w162w => assumption); (case w162F => k_asm); (case w162N => k_asm); (case w162so => assumption); (case w162hin => assumption); (case w162hW => assumption); (case w162h6 => assumption); (case w162hE => passes_own)); (case' w162fin => (intro sl9 so9 pn9 u9 h' tk9 hd9 hS9 h69 F' N'; skip)); (case' w162seen => (intro us9 i9 x9 vs19 vs29 sl9 so9 pn9 u9 h' tk9 hE9 hu9 hi9 hd9 F' N'; obtain ⟨t9, hK9⟩ := hE9.kindOk; obtain ⟨tn9, hNn9⟩ := hE9.numOk)); (case' w162fresh => (intro us9 i9 x9 vs19 vs29 sl9 so9 pn9 u9 h' tk9 hE9 hu9 hv19 hv29 hi9 hsl9 hd9 F' N'; obtain ⟨t9, hK9⟩ := hE9.kindOk; obtain ⟨tn9, hNn9⟩ := hE9.numOk)); (case' w162node => (intro us9 x9 kd9 vs19 vs29 sl9 so9 pn9 u9 h' tk9 hE9 hu9 hv19 hv29 hd9 F' N'; obtain ⟨t9, hK9⟩ := kind_ok _ hE9; obtain ⟨ke9, ⟨kp9, ev9⟩ | ⟨kp9, ev9⟩ | ⟨kp9, kq9⟩⟩ := hE9.kinds <;> (try subst kp9) <;> (try subst ev9)))))
  k_with "m getAttr ref" => ((k_here; k_dflt (first | (refine' GetOk.use ?w163G ?w163F ?w163X ?w163N ?w163s ?_; (case w163G => assumption); (case w163F => k_asm); (case w163X => k_asm); (case w163N => k_asm); (case w163s => tb_rel)))))
  k_with "m call builtin:list.pop" => ((k_here; k_dflt (refine' list_pop ?w164F ?w164N ?w164p ?w164l ?_; (case w164F => k_asm); (case w164N => k_asm); (case w164p => k_all); (case w164l => assumption)); intro h' n' F' N'; (try k_sweep)))
  trivial
set_option maxRecDepth 100000 in
set_option maxHeartbeats 8000000 in
theorem reached_ok (w : World) (mean : ExcName → Option Value) (mg mb : Str → Option Value) {news : Led} {xs : List Nat} {W : Nat → List Nat} {K : Nat → Nat} (G : Graph w xs news W K) {rl rn : Nat} {rts : List (Value × List Nat × Nat)} (hrl : (rl, listOf (rts.map (·.1)).toArray rn) ∈ news)
    (hrv : ∀ t ∈ rts, Val w xs news t.1 t.2.1 t.2.2) (hx6 : xs.length ≤ 6) (hin : ∀ i ∈ spots rts, i < xs.length) (hW : ∀ i, i < xs.length → ∀ j ∈ W i, j < xs.length) (hw : weight rts + unseen K [] xs.length ≤ 10000) :
  ∀ {dp un : Nat} {gd : Option (List Code)} {cn : Str} {cs : Scope} {a : Addr} {ccd : Value} {cl : List (Str × Addr)} {outer : List Env} {A₀ : Around} {base h₀ : Heap} {L : Addr} {m : Str → Option Value} {s : Shared} {Q E : Value → Shared → Prop},
    Below A₀ base outer h₀ → Fr h₀ L s.heap m → (KF w.params).In h₀ → News h₀ L s.heap news → Top VW Lo mean mg mb h₀ → cs.kind = .function → dp + 14 < 1000 → un + 200 < 9900 →
    (∀ (l n : Nat) (h' : Heap) (tk' : Nat) (vs : List Value) (ns : List Int) (sl : List Nat), Fr h₀ L h' m → News h₀ L h' ((l, listOf vs.toArray n) :: news) → (∀ p ∈ news, @Ne Nat p.1 l) → IntsAre vs ns → ns.Perm (sl.map fun i : Nat => 10 + 3 * (i : Int)) → ns.Pairwise (· ≤ ·) → sl.Nodup → (∀ i, i ∈ sl ↔ Reach W (spots rts) i) → Q (.ref l) { s with heap := h', toks := tk' }) →
    wpAny (model PySem.Challenge.rw_nz0470_01.row.prog w) (ktrTop dp un gd cn cs L a ccd cl outer) (call (.ref 55) [.ref rl]) Q E s := by
  intro dp un gd cn cs a ccd cl outer A₀ base h₀ L m s Q E B F X N T hk hdp hun ret
  have hrlen : rts.length ≤ 10000 := by
    have := length_le_weight (P := rts) fun q hq => (hrv q hq).pos
    omega
  k_steps
  all_goals first
    | (refine RTurn.intro (by first | exact .inl rfl | exact .inr rfl) (by k_asm) (by k_asm) (by k_mem) (by k_mem) (by tb_rel) (by first | rfl | simp) (by assumption) ?_
       intro z h1 h2 h3
       simp only [rFrame, h1, h2, h3, if_false, Bool.false_eq_true]
       try rfl)
    | (have hS := (‹Srch W (spots rts) _ []›)
       exact reached_fin ret (by k_asm) (by k_asm) (by k_mem) (by tb_rel) (by exact ltNe (by first | tbn_find | exact allLt_of (by assumption))) (by assumption) (by assumption) (by assumption) hS.nd hS.fin)
theorem lnMN : True := by
  k_with_none
  trivial
/-! a loop that fills a list of ints and turns one int; it may end early -/
section
variable {prog : Program} {w : World} {A : Around} {E : Value → Shared → Prop} {s : Shared} {env : Env} {h₀ : Heap} {x : Str} {body : List Stmt} {Q : Flow → Shared → Prop}
def GrowJ (fg : Nat) (rst : Led) (nm : Str) (stored : List Str) (m₀ : Str → Option Value) (P : Int → Prop) (b : Nat) (m : Str → Option Value) (nx : Led) : Prop :=
  ∃ (fv : List Value) (figs : List Int) (nf : Nat) (z : Int) (t : Tok), nx = (fg, listOf fv.toArray nf) :: rst ∧ IntsAre fv figs ∧ figs.length ≤ b ∧ m nm = some (.int z t) ∧ P z ∧ ∀ y, y ≠ nm → stored.contains y = false → m y = m₀ y
def GrowEnd (h₀ : Heap) (L : Addr) (fg : Nat) (rst : Led) (nm : Str) (stored : List Str) (m₀ : Str → Option Value) (P : Int → Prop) (b bd : Nat) (I : Nat) (oi : Obj) (s₁ : Shared) (f : Flow) (s₂ : Shared) : Prop :=
  ∃ h' tk m' fv figs nf z t, s₂ = { s₁ with heap := h', toks := tk } ∧ Fr h₀ L h' m' ∧ News h₀ L h' ((I, oi) :: (fg, listOf fv.toArray nf) :: rst) ∧ IntsAre fv figs ∧ m' nm = some (.int z t) ∧ P z ∧ (∀ y, y ≠ nm → stored.contains y = false → m' y = m₀ y) ∧
    (f = .next ∧ figs.length ≤ b ∨ f = .brk ∧ figs.length ≤ bd)
theorem GrowEnd.intro {L : Addr} {fg : Nat} {rst : Led} {nm : Str} {stored : List Str} {m₀ m' : Str → Option Value} {P : Int → Prop} {b bd : Nat} {I : Nat} {oi : Obj} {s₁ : Shared} {f : Flow} {h' : Heap} {tk nf : Nat} {fv : List Value} {figs : List Int} {z : Int} {t : Tok} {led : Led} {its : Array Value}
    (F : Fr h₀ L h' m') (N : News h₀ L h' led) (h1 : (I, oi) ∈ led) (h2 : (fg, listOf its nf) ∈ led) (h3 : ∀ p ∈ rst, p ∈ led) (e : its = fv.toArray) (hi : IntsAre fv figs) (hz : m' nm = some (.int z t)) (hP : P z) (hf : f = .next ∧ figs.length ≤ b ∨ f = .brk ∧ figs.length ≤ bd) (hm : ∀ y, y ≠ nm → stored.contains y = false → m' y = m₀ y) :
    GrowEnd h₀ L fg rst nm stored m₀ P b bd I oi s₁ f { s₁ with heap := h', toks := tk } := by
  subst e
  refine ⟨h', tk, m', fv, figs, nf, z, t, rfl, F, fun p hp => N p ?_, hi, hz, hP, hm, hf⟩
  rcases List.mem_cons.mp hp with rfl | hp
  · exact h1
  · rcases List.mem_cons.mp hp with rfl | hp
    · exact h2
    · exact h3 p hp
/-- the frame between the turns -/
abbrev growF (nm : Str) (stored : List Str) (u m₀ : Str → Option Value) (z : Int) (t : Tok) : Str → Option Value := fun y => if y = nm then some (.int z t) else if stored.contains y then u y else m₀ y
theorem growF_eq {nm : Str} {stored : List Str} {m m₀ : Str → Option Value} {z : Int} {t : Tok} (h1 : m nm = some (.int z t)) (h2 : ∀ y, y ≠ nm → stored.contains y = false → m y = m₀ y) : m = growF nm stored m m₀ z t := by
  funext y
  by_cases e : y = nm
  · simp [growF, e, h1]
  · cases h3 : stored.contains y with
    | true => simp only [growF, e, h3, if_false, if_true]
    | false => simp only [growF, e, h3, if_false, Bool.false_eq_true]; exact h2 y e h3
theorem grow_post {L : Addr} {fg : Nat} {rst : Led} {nm : Str} {stored : List Str} {m₀ : Str → Option Value} {P : Int → Prop} {b bd : Nat} {I : Nat} {oi : Obj} {s s₁ : Shared} {f : Flow} {s₂ : Shared} (hs : ∃ h tk, s₁ = { s with heap := h, toks := tk }) (hfI : @Ne Nat fg I) (hrI : ∀ p ∈ rst, @Ne Nat p.1 I)
    (fin : ∀ fv figs nf z t u h tk, IntsAre fv figs → figs.length ≤ bd → P z → Fr h₀ L h (growF nm stored u m₀ z t) → News h₀ L h ((fg, listOf fv.toArray nf) :: rst) → Q .next { s with heap := h, toks := tk })
    (p : GrowEnd h₀ L fg rst nm stored m₀ P b bd I oi s₁ f s₂) : IvPost h₀ L (GrowJ fg rst nm stored m₀ P b) I oi s₁ Q f s₂ := by
  obtain ⟨h', tk, m', fv, figs, nf, z, t, rfl, F', N', hi, hz, hP, hm, ⟨rfl, hl⟩ | ⟨rfl, hl⟩⟩ := p
  · refine IvEnd.intro F' N' (fun p hp => ?_) ⟨fv, figs, nf, z, t, rfl, hi, hl, hz, hP, hm⟩
    rcases List.mem_cons.mp hp with rfl | hp
    · exact hfI
    · exact hrI p hp
  · obtain ⟨h, tk₁, rfl⟩ := hs
    have e := growF_eq hz hm
    rw [e] at F'
    exact fin fv figs nf z t m' h' tk hi hl hP F' fun p hp => N' p (.tail _ hp)
theorem grow_range {r : Addr} {b₀ : Int} {t₀ u₀ v₀ : Tok} {n : Nat} {m₀ : Str → Option Value} {fg nf : Nat} {fv : List Value} {figs : List Int} {rst : Led} {nm : Str} {z : Int} {t : Tok} (stored : List Str) (P : Int → Prop) (bd : Nat)
    (hh : A.handled = none) (hr : IsRange s.heap r 0 b₀ 1 t₀ u₀ v₀) (hsmall : Builtin.Range.small 0 b₀ 1 = true) (hn : Builtin.Range.rangeSize 0 b₀ 1 = (n : Int)) (F : Fr h₀ env.locals s.heap m₀) (N : News h₀ env.locals s.heap ((fg, listOf fv.toArray nf) :: rst))
    (hi : IntsAre fv figs) (hx : x ≠ nm) (hsx : stored.contains x = true) (hz : m₀ nm = some (.int z t)) (hP : P z) (hbd : figs.length + n ≤ bd)
    (turn : ∀ (i : Nat) fv figs nf z t u tx h tk (I : Nat) oi, i < n → IntsAre fv figs → figs.length < bd → P z → @Ne Nat fg I → (∀ p ∈ rst, @Ne Nat p.1 I) → Fr h₀ env.locals h (fun y => if y = x then some (.int (0 + (i : Int)) tx) else growF nm stored u m₀ z t y) → News h₀ env.locals h ((I, oi) :: (fg, listOf fv.toArray nf) :: rst) →
      wpAny (model prog w) A (execs body env) (GrowEnd h₀ env.locals fg rst nm stored m₀ P (figs.length + 1) bd I oi { s with heap := h, toks := tk }) E { s with heap := h, toks := tk })
    (done : ∀ fv figs nf z t u h tk, IntsAre fv figs → figs.length ≤ bd → P z → Fr h₀ env.locals h (growF nm stored u m₀ z t) → News h₀ env.locals h ((fg, listOf fv.toArray nf) :: rst) → Q .next { s with heap := h, toks := tk }) :
    wpAny (model prog w) A (pyIter (.ref r)) (fun it s₂ => LoopAtV prog w A h₀ env x body Q E it s₂) E s := by
  refine iter_range (fun i => GrowJ fg rst nm stored m₀ P (figs.length + i)) hh hr hsmall hn F N ⟨fv, figs, nf, z, t, rfl, hi, Nat.le_refl _, hz, hP, fun _ _ _ => rfl⟩ ?_ ?_
  · rintro i tx m₁ nx h tk I oi hin ⟨fv', figs', nf', z', t', rfl, hi', hl', hz', hP', hm'⟩ hne F₁ N₁
    have e := growF_eq hz' hm'
    rw [e] at F₁
    have hI : ∀ p ∈ rst, @Ne Nat p.1 I := fun p hp => hne p (.tail _ hp)
    have hfI : @Ne Nat fg I := hne (fg, listOf fv'.toArray nf') (.head _)
    refine wpAny_mono (turn i fv' figs' nf' z' t' m₁ tx h tk I oi hin hi' (by omega) hP' hfI hI F₁ N₁) (fun f s₂ p => ?_) fun _ _ e => e
    refine grow_post (s := s) (b := figs.length + (i + 1)) ⟨h, tk, rfl⟩ hfI hI done ?_
    obtain ⟨h2, tk2, m2, fv2, figs2, nf2, z2, t2, q1, q2, q3, q4, q5, q6, q7, q8⟩ := p
    exact ⟨h2, tk2, m2, fv2, figs2, nf2, z2, t2, q1, q2, q3, q4, q5, q6, q7, q8.imp_left fun q => ⟨q.1, by omega⟩⟩
  · rintro m₁ nx h tk ⟨fv', figs', nf', z', t', rfl, hi', hl', hz', hP', hm'⟩ F₁ N₁
    have e := growF_eq hz' hm'
    rw [e] at F₁
    exact done fv' figs' nf' z' t' m₁ h tk hi' (by omega) hP' F₁ N₁
theorem grow_vals {l : Nat} {vs : List Value} {ns : List Int} {nn : Nat} {m₀ : Str → Option Value} {fg nf : Nat} {fv : List Value} {figs : List Int} {rst : Led} {nm : Str} {z : Int} {t : Tok} (stored : List Str) (P : Int → Prop) (b bd : Nat)
    (hh : A.handled = none) (hl : (l, listOf vs.toArray nn) ∈ rst) (hv : IntsAre vs ns) (F : Fr h₀ env.locals s.heap m₀) (N : News h₀ env.locals s.heap ((fg, listOf fv.toArray nf) :: rst))
    (hi : IntsAre fv figs) (hx : x ≠ nm) (hsx : stored.contains x = true) (hz : m₀ nm = some (.int z t)) (hP : P z) (hb : figs.length ≤ b) (hbd : b ≤ bd)
    (turn : ∀ (c : Int) fv figs nf z t u tx h tk (I : Nat) oi, IntsAre fv figs → figs.length ≤ b → P z → @Ne Nat fg I → (∀ p ∈ rst, @Ne Nat p.1 I) → Fr h₀ env.locals h (fun y => if y = x then some (.int c tx) else growF nm stored u m₀ z t y) → News h₀ env.locals h ((I, oi) :: (fg, listOf fv.toArray nf) :: rst) →
      wpAny (model prog w) A (execs body env) (GrowEnd h₀ env.locals fg rst nm stored m₀ P b bd I oi { s with heap := h, toks := tk }) E { s with heap := h, toks := tk })
    (done : ∀ fv figs nf z t u h tk, IntsAre fv figs → figs.length ≤ bd → P z → Fr h₀ env.locals h (growF nm stored u m₀ z t) → News h₀ env.locals h ((fg, listOf fv.toArray nf) :: rst) → Q .next { s with heap := h, toks := tk }) :
    wpAny (model prog w) A (pyIter (.ref l)) (fun it s₂ => LoopAtV prog w A h₀ env x body Q E it s₂) E s := by
  refine iter_vals (vs := vs) (nn := nn) (fun i => GrowJ fg rst nm stored m₀ P b) hh (.tail _ hl) F N ⟨fv, figs, nf, z, t, rfl, hi, hb, hz, hP, fun _ _ _ => rfl⟩ ?_ ?_ ?_
  · rintro i m₁ nx ⟨_, _, _, _, _, rfl, _⟩
    exact .tail _ hl
  · rintro i v m₁ nx h tk I oi hvi ⟨fv', figs', nf', z', t', rfl, hi', hl', hz', hP', hm'⟩ hne F₁ N₁
    obtain ⟨c, hc⟩ : ∃ c, ns[i]? = some c := by
      have h1 := (List.getElem?_eq_some_iff.mp hvi).1
      have h2 := hv.length
      exact ⟨ns[i]'(by omega), List.getElem?_eq_getElem _⟩
    obtain ⟨tc, htc⟩ := hv.get i c hc
    rw [htc] at hvi
    cases hvi
    have e := growF_eq hz' hm'
    rw [e] at F₁
    have hI : ∀ p ∈ rst, @Ne Nat p.1 I := fun p hp => hne p (.tail _ hp)
    have hfI : @Ne Nat fg I := hne (fg, listOf fv'.toArray nf') (.head _)
    exact wpAny_mono (turn c fv' figs' nf' z' t' m₁ tc h tk I oi hi' hl' hP' hfI hI F₁ N₁) (fun f s₂ p => grow_post (s := s) ⟨h, tk, rfl⟩ hfI hI done p) fun _ _ e => e
  · rintro m₁ nx h tk ⟨fv', figs', nf', z', t', rfl, hi', hl', hz', hP', hm'⟩ F₁ N₁
    have e := growF_eq hz' hm'
    rw [e] at F₁
    exact done fv' figs' nf' z' t' m₁ h tk hi' (by omega) hP' F₁ N₁
end
theorem fillL : (∀ P, KF P = KF P) ∧ PySem.Challenge.rw_nz0470_01 = PySem.Challenge.rw_nz0470_01 := by
  k_fill
  exact ⟨fun _ => rfl, rfl⟩
theorem lnMLa : True := by
  k_with "t k_all" => (assumption)
  k_with "t k_mem" => (first | exact List.Mem.head _ | (refine' List.mem_cons_of_mem _ ?_; k_mem) | ktr_member | (ktn_app; first | (refine List.mem_append.mpr (Or.inl ?_); k_mem) | (refine List.mem_append.mpr (Or.inr ?_); k_mem)))
  k_with "t k_room" => (ktr_room)
  k_with "t k_units" => (ktr_units)
  k_with "m callWith ref" => ((k_here; k_dflt (first
    | (refine' callWith_K ?w169k1 ?w169k2 ?_; (case w169k1 => k_asm); (case w169k2 => k_is); k_whole)
    | (refine' callWith_K0 ?w169k1 ?w169k2 ?_; (case w169k1 => k_in); (case w169k2 => k_is); k_whole))))
  k_with "t tbn_lt" => (first | tbn_find | exact allLt_of (by assumption) | exact allLt_r (by tbn_find) | exact allLt_r (allLt_r (by tbn_find)) | exact tbn_up (by assumption) (by first | tbn_find | exact allLt_of (by assumption) | exact allLt_r (by tbn_find) | exact allLt_r (allLt_r (by tbn_find))))
  k_with "t tb_start" => (first | exact Led3.base0 | exact Led3.base2 (by assumption) (by assumption) | exact Led3.base1 (by assumption) | (refine' Led3.step ?w171tba ?w171tbb ?w171tbc ?w171tbd ?w171tbe; (case w171tba => omega); (case w171tbb => omega); (case w171tbc => omega); (case w171tbd => tbn_lt); (case w171tbe => tb_start)))
  k_with "t tb_rel" => ((intro p hp; (repeat' (refine List.Mem.tail _ ?_)); first | exact hp | exact List.mem_append_left _ hp | exact List.mem_append_right _ hp))
  k_with "t k_enter" => ((refine' code_def ?w173k1 ?w173k2 ?w173k3 ?w173k4 ?w173k5 ?w173kA ?w173kF ?w173kK ?w173k6 ?w173k7 ?w173k8 ?w173k9 ?w173kB ?_ ?w173c2 ?w173c3 ?w173c4 ?w173c5; (case w173kA => exact rfl); (case w173kF => exact rfl); (case w173kK => first | exact rfl | assumption); (case w173k1 => k_asm); (case w173k2 => k_asm); (case w173k3 => k_asm); (case w173k4 => k_asm); (case w173k5 => k_asm); (case w173k6 => k_is); (case w173k7 => k_is); (case w173k8 => ktr_room); (case w173k9 => first | exact BindsTo.of_eq rfl | exact binds_K (by k_in) rfl (by k_is) rfl rfl rfl); (case w173c5 => decide); (case w173kB => exact locs rfl); (case w173c2 => exact rfl); (case w173c3 => exact rfl); (case w173c4 => exact rfl); k_whole; intro g' L' h' FG' F' N' B' X' T'; (try dsimp only); (try k_fold)))
  k_with "t k_enter" => ((refine' code_defC ?w174k1 ?w174k2 ?w174k3 ?w174k4 ?w174k5 ?w174kA ?w174kF ?w174kK ?w174k6 ?w174k7 ?w174k8 ?w174k9 ?w174kB ?w174kD ?_ ?w174c2 ?w174c3 ?w174c4; (case w174kA => exact rfl); (case w174kF => exact rfl); (case w174kK => first | exact rfl | assumption); (case w174k1 => k_asm); (case w174k2 => k_asm); (case w174k3 => k_asm); (case w174k4 => k_asm); (case w174k5 => k_asm); (case w174k6 => k_is); (case w174k7 => k_is); (case w174k8 => ktr_room); (case w174k9 => first | exact BindsTo.of_eq rfl | exact binds_K (by k_in) rfl (by k_is) rfl rfl rfl); (case w174kB => exact rfl); (case w174kD => decide +kernel); (case w174c2 => exact rfl); (case w174c3 => exact rfl); (case w174c4 => exact rfl); k_whole; intro g' L' h' tk' cells' FG' F' N' Y' B' X' T' l1; (try k_lt l1); k_cells Y'; (try simp only [List.cons_append, List.nil_append] at N'); (try dsimp only); (try k_fold)))
  k_with "m CompEnd" => ((k_dflt (refine LCg.CompEnd.intro (by assumption) (by assumption) _ (fun _ h => h) (by assumption) (by lcg_src) ?_)))
  k_with "m eval ListComp" => ((k_here; lcf_look; lcg_calm; k_dflt (refine ListComp_D (by k_asm) (by with_unfolding_all rfl) (by decide) (by rfl) (by decide) (by rfl) ?_)))
  k_with "m exec Assign cons ListComp" => ((k_here; lcf_look; lcg_calm; k_dflt (refine Assign_ListComp_D (by k_asm) (by rfl) (by with_unfolding_all rfl) (by with_unfolding_all rfl) (by decide) (by rfl) (by decide) (by rfl) (by rfl) (by rfl) ?_)))
  k_with "m SrcD" => ((k_dflt (refine' SrcD.intro ?w178F ?w178N ?w178X ?w178D ?w178lo ?w178dd ?w178m ?w178gt ?_ ?w178c ?w178d ?w178z ?w178hh ?w178kx ?w178ky ?w178kf ?w178bx ?w178by_; (case w178F => k_asm); (case w178N => k_asm); (case w178X => k_asm); (case w178D => k_mem); (case w178lo => assumption); (case w178dd => assumption); (case w178c => rfl); (case w178m => k_mem); (case w178d => k_asm); (case w178gt => (first | (refine GetOk.mono (by assumption) ?_; tb_rel) | (intro A1 E1 s1 h1 L1 m1 Q1 F1 X1 N1 q1; refine' get_own F1 X1 ?w178k3 ?w178k4 ?w178k5 ?w178k6 ?w178k7 ?w178k8 ?w178k9 q1; (case w178k3 => k_inst); (case w178k4 => k_is); (case w178k5 => k_is); (case w178k6 => k_is); (case w178k7 => k_is); (case w178k8 => k_get); (case w178k9 => k_handed)))); (case w178z => first | exact Nat.le_of_ble_eq_true rfl | (rw [sizeLine_eq]; omega)); (case w178hh => rfl); (case w178kx => intro _; rfl); (case w178ky => intro _; rfl); (case w178kf => intro _; rfl); (case w178bx => decide); (case w178by_ => decide)); intro s2' hs2'; obtain ⟨g', eg'⟩ := hs2'; subst eg'; dsimp only [List.map]))
  k_with "t tb_rel" => ((intro p hp; first | exact hp | (repeat' (first | exact hp | (refine List.Mem.tail _ ?_)))))
  k_with "t tb_start" => ((refine read_fin ret (by k_asm) (by k_asm) (by k_mem) (by tb_rel) (by first | exact ltNe (by first | tbn_find | exact allLt_of (by assumption)) | exact off1_ne (by assumption) | exact off1_ne (And.right (And.right (by assumption))) | exact off1_ne (And.right (by assumption)))))
  trivial
theorem pool_fin {h₀ : Heap} {L : Addr} {m : Str → Option Value} {s : Shared} {Q : Value → Shared → Prop} {news : Led}
    (ret : ∀ (pl fg : Nat) (fo o : Obj) (h' : Heap) (tk' : Nat), Fr h₀ L h' m → News h₀ L h' ((pl, o) :: (fg, fo) :: news) → (∀ p ∈ news, @LT.lt Nat _ p.1 fg) → (∀ p ∈ news, @LT.lt Nat _ p.1 pl) → PObj pl fg fo o → Q (.ref pl) { s with heap := h', toks := tk' })
    {pl fg : Nat} {fo o : Obj} {h' : Heap} {tk' : Nat} {led : Led} (F : Fr h₀ L h' m) (N : News h₀ L h' led) (h1 : (pl, o) ∈ led) (h2 : (fg, fo) ∈ led) (h3 : ∀ p ∈ news, p ∈ led) (h4 : ∀ p ∈ news, @LT.lt Nat _ p.1 fg) (h5 : ∀ p ∈ news, @LT.lt Nat _ p.1 pl) (P : PObj pl fg fo o) : Q (.ref pl) { s with heap := h', toks := tk' } := by
  refine ret pl fg fo o h' tk' F (fun p hp => ?_) h4 h5 P
  rcases List.mem_cons.mp hp with rfl | hp
  · exact N _ h1
  · rcases List.mem_cons.mp hp with rfl | hp
    · exact N _ h2
    · exact N _ (h3 p hp)
theorem ints_snoc {us : List Value} {l : List Int} {n : Int} {t : Tok} (h : IntsAre us l) : IntsAre (us ++ [.int n t]) (l ++ [n]) := by
  induction h with
  | nil => exact .cons n t .nil
  | cons a b _ ih => exact .cons a b ih
theorem News.swap {h₀ h : Heap} {L : Addr} {a b : Addr × Obj} {r : Led} (N : News h₀ L h (a :: b :: r)) : News h₀ L h (b :: a :: r) := fun p hp => N p (by
  rcases List.mem_cons.mp hp with rfl | hp
  · exact .tail _ (.head _)
  · rcases List.mem_cons.mp hp with rfl | hp
    · exact .head _
    · exact .tail _ (.tail _ hp))
theorem lnMLb : True := by
  k_with "m exec For Name Subscript cons nil" => ((k_here; (rename Fr _ _ _ _ => lF'); (with_unfolding_all refine' For_invVF lF' ?w181k1 ?w181k2 ?_; (case w181k1 => exact rfl); (case w181k2 => exact rfl); k_whole)))
  k_with "m pyIter ref" => ((k_here; k_dflt (((refine' grow_vals (nm := Str.ofString "mix") [Str.ofString "cell", Str.ofString "big", Str.ofString "rest", Str.ofString "step"] (fun z => 0 ≤ z ∧ z < 1009) 400 460 ?w182hh ?w182hl ?w182hv ?w182F ?w182N ?w182hi ?w182hx ?w182hs ?w182hz ?w182hP ?w182hb ?w182hd ?_ ?_)); (case w182hh => exact rfl); ((case w182F => k_asm)); ((case w182N => exact News.swap (by k_asm))); ((case w182hl => k_mem)); ((case w182hv => assumption)); ((case w182hi => exact .nil)); ((case w182hx => decide)); ((case w182hs => decide)); ((case w182hz => exact rfl)); ((case w182hP => decide)); ((case w182hb => decide)); ((case w182hd => decide))); (intro c9 fv9 figs9 nf9 z9 t9 u9 tx9 h' tk' I9 oi9 hi9 hl9 hP9 hfI9 hrI9 F' N'); rotate_left; (intro fv9 figs9 nf9 z9 t9 u9 h' tk' hi9 hl9 hP9 F' N'); rotate_right))
  k_with "m pyIter ref" => ((k_here; k_dflt ((refine' grow_range (nm := Str.ofString "rest") [Str.ofString "step"] (fun z => 0 ≤ z) 460 ?w183hh ?w183hr ?w183hm ?w183hn ?w183F ?w183N ?w183hi ?w183hx ?w183hs ?w183hz ?w183hP ?w183hd ?_ ?_); (case w183hh => exact rfl); (case w183hr => assumption); (case w183F => k_asm); ((case w183N => exact News.swap (by k_asm))); ((case w183hi => assumption)); (case w183hx => decide); (case w183hs => decide); ((case w183hz => exact rfl)); ((case w183hP => first | omega | exact Int.natCast_nonneg _)); ((case w183hm => exact small_one (by decide) (by decide) (by decide) (by decide))); ((case w183hn => exact (rfl : _ = ((60 : Nat) : Int)))); ((case w183hd => omega))); (intro i9 fv9 figs9 nf9 z9 t9 u9 tx9 h' tk' I9 oi9 hi99 hi9 hl9 hP9 hfI9 hrI9 F' N'); rotate_left; (intro fv9 figs9 nf9 z9 t9 u9 h' tk' hi9 hl9 hP9 F' N'); rotate_right))
  trivial
set_option maxRecDepth 100000 in
set_option maxHeartbeats 8000000 in
theorem pool_ok (w : World) (mean : ExcName → Option Value) (mg mb : Str → Option Value) {dp un : Nat} {gd : Option (List Code)} {cn : Str} {cs : Scope} {a : Addr} {ccd : Value} {cl : List (Str × Addr)} {outer : List Env} {A₀ : Around} {base h₀ : Heap} {L : Addr} {m : Str → Option Value} {s : Shared} {Q E : Value → Shared → Prop} {news : Led} {sc : Addr} {vs : List Value} {ns : List Int}
    (B : Below A₀ base outer h₀) (F : Fr h₀ L s.heap m) (X : (KF w.params).In h₀) (N : News h₀ L s.heap news) (T : Top VW Lo mean mg mb h₀) (hk : cs.kind = .function) (hdp : dp + 8 < 1000) (hun : un + 60 < 9900)
    (hl : h₀.IsList sc vs.toArray) (hi : IntsAre vs ns) (h63 : ns.length ≤ 63)
    (ret : ∀ (pl fg : Nat) (fo o : Obj) (h' : Heap) (tk' : Nat), Fr h₀ L h' m → News h₀ L h' ((pl, o) :: (fg, fo) :: news) → (∀ p ∈ news, @LT.lt Nat _ p.1 fg) → (∀ p ∈ news, @LT.lt Nat _ p.1 pl) → PObj pl fg fo o → Q (.ref pl) { s with heap := h', toks := tk' }) :
    wpAny (model PySem.Challenge.rw_nz0470_01.row.prog w) (ktrTop dp un gd cn cs L a ccd cl outer) (call (.ref 305) [.ref sc]) Q E s := by
  refine wpAny_call ?_
  k_dflt ktr_enter
  rename Fr h₀ L _ m => FG9
  have hl9 := hl.at fun o e => FG9.keep sc o e
  k_steps
  all_goals try first
    | (refine GrowEnd.intro (by k_asm) (by k_asm) (by k_mem) (by k_mem) (by tb_rel) (List.push_toArray ..) (ints_snoc (by assumption)) rfl (Int.fdiv_nonneg (by assumption) (by decide)) (by first | exact .inl ⟨rfl, by rw [List.length_append]; exact Nat.le_refl _⟩ | exact .inr ⟨rfl, by rw [List.length_append]; show _ + 1 ≤ _; omega⟩) ?_
       intro y h1 h2
       have h3 : y ≠ Str.ofString "step" := fun e => by rw [e] at h2; exact absurd h2 (by decide)
       simp only [growF, h1, h2, h3, if_false, Bool.false_eq_true])
    | (refine GrowEnd.intro (by k_asm) (by k_asm) (by k_mem) (by k_mem) (by tb_rel) rfl (by assumption) rfl ⟨Int.fmod_nonneg_of_pos _ (by decide), Int.fmod_lt_of_pos _ (by decide)⟩ (by first | exact .inl ⟨rfl, by omega⟩ | exact .inr ⟨rfl, by omega⟩) ?_
       intro y h1 h2
       have h3 : y ≠ Str.ofString "step" := fun e => by rw [e] at h2; exact absurd h2 (by decide)
       have h4 : y ≠ Str.ofString "rest" := fun e => by rw [e] at h2; exact absurd h2 (by decide)
       have h5 : y ≠ Str.ofString "big" := fun e => by rw [e] at h2; exact absurd h2 (by decide)
       have h6 : y ≠ Str.ofString "cell" := fun e => by rw [e] at h2; exact absurd h2 (by decide)
       have h7 : [Str.ofString "step"].contains y = false := by simp [h3]
       simp only [growF, h1, h2, h3, h4, h5, h6, h7, if_false, Bool.false_eq_true])
  refine pool_fin ret (by k_asm) (by k_asm) (by k_mem) (by k_mem) (by tb_rel) (allLt_mem (by first | tbn_find | exact allLt_of (by assumption))) (allLt_mem (by first | tbn_find | exact allLt_of (by assumption))) ⟨0, _, _, _, _, _, _, _, rfl, rfl, by assumption, by decide, by omega, by omega, by omega, by omega, by omega⟩
theorem lnMU : True := by
  k_with_none
  trivial
/-! the law's own loops -/
structure Rec where
  x : Nat
  dx : Nat
  fr : Nat
  wy : Nat
  par : Option Nat
  kvs : List (Str × Value)
  its : List (Value × List Nat × Nat)
  ls : List Nat
def parV (xs : List Nat) : Option Nat → Value
  | none => .none
  | some q => .ref (xs.getD q 0)
def Rec.ads (r : Rec) : List Nat := [r.x, r.dx, r.fr, r.wy]
structure EnvG (w : World) (xs : List Nat) (V Z : Led) (j : Nat) (r : Rec) : Prop where
  inst : (r.x, instObj 209 r.dx) ∈ Z
  flds : ∃ t tn lk hs n, (r.dx, dictOf (mkEs hs 0 [("kind", .str "environment" t), ("number", .int (10 + 3 * (j : Int)) tn), ("parent", parV xs r.par), ("attrs", .none), ("frame", .ref r.fr), ("locked", .bool false), ("locks", .ref lk)]) n) ∈ Z
  frame : Dct w Z r.fr r.kvs
  way : ∃ svs ns, (r.wy, listOf (List.toArray svs) ns) ∈ Z ∧ IntsAre svs (r.ls.map fun i : Nat => (i : Int))
  vals : r.kvs.map (·.2) = r.its.map (·.1)
  keys : ∀ p ∈ r.kvs, p.1 = Str.ofString "a" ∨ p.1 = Str.ofString "b"
  its : ∀ t ∈ r.its, Val w xs V t.1 t.2.1 t.2.2 ∧ t.2.2 ≤ 29
  par : ∀ q, r.par = some q → q < j ∧ q < xs.length
  ls : ∀ i, i ∈ r.ls ↔ r.par = some i ∨ i ∈ spots r.its
  lt : ∀ i ∈ r.ls, i < xs.length
  len : r.ls.length ≤ 1 + 16 * r.its.length
section
variable {prog : Program} {w : World} {A : Around} {E : Value → Shared → Prop} {s : Shared} {env : Env} {h₀ : Heap} {x : Str} {body : List Stmt} {Q : Flow → Shared → Prop}
abbrev stF (stored : List Str) (u m₀ : Str → Option Value) : Str → Option Value := fun z => if stored.contains z then u z else m₀ z
theorem stF_eq {stored : List Str} {m m₀ : Str → Option Value} (h : ∀ y, stored.contains y = false → m y = m₀ y) : m = stF stored m m₀ := by
  funext y
  cases h3 : stored.contains y with
  | true => simp only [stF, h3, if_true]
  | false => simp only [stF, h3, if_false, Bool.false_eq_true]; exact h y h3
def StEnd {σ : Type} (h₀ : Heap) (L : Addr) (Ld : σ → Led) (Ok : σ → Prop) (stored : List Str) (m₀ : Str → Option Value) (I : Nat) (oi : Obj) (s₁ : Shared) (f : Flow) (s₂ : Shared) : Prop :=
  f = .next ∧ ∃ c' h' tk m', s₂ = { s₁ with heap := h', toks := tk } ∧ Fr h₀ L h' m' ∧ News h₀ L h' ((I, oi) :: Ld c') ∧ (∀ p ∈ Ld c', @Ne Nat p.1 I) ∧ Ok c' ∧ (∀ y, stored.contains y = false → m' y = m₀ y)
theorem StEnd.intro {σ : Type} {L : Addr} {Ld : σ → Led} {Ok : σ → Prop} {stored : List Str} {m₀ m' : Str → Option Value} {I : Nat} {oi : Obj} {s₁ : Shared} {h' : Heap} {tk : Nat} {led : Led} (c' : σ) (F : Fr h₀ L h' m') (N : News h₀ L h' led) (h1 : (I, oi) ∈ led) (h2 : ∀ p ∈ Ld c', p ∈ led) (h3 : ∀ p ∈ Ld c', @Ne Nat p.1 I) (h4 : Ok c') (h5 : ∀ y, stored.contains y = false → m' y = m₀ y) :
    StEnd h₀ L Ld Ok stored m₀ I oi s₁ .next { s₁ with heap := h', toks := tk } := by
  refine ⟨rfl, c', h', tk, m', rfl, F, fun p hp => N p ?_, h3, h4, h5⟩
  rcases List.mem_cons.mp hp with rfl | hp
  · exact h1
  · exact h2 p hp
theorem range_state {σ : Type} {r : Addr} {b₀ : Int} {t₀ u₀ v₀ : Tok} {n : Nat} {m₀ : Str → Option Value} {led : Led} (Ld : σ → Led) (Ok : Nat → σ → Prop) (stored : List Str) (c₀ : σ)
    (hh : A.handled = none) (hr : IsRange s.heap r 0 b₀ 1 t₀ u₀ v₀) (hsmall : Builtin.Range.small 0 b₀ 1 = true) (hn : Builtin.Range.rangeSize 0 b₀ 1 = (n : Int)) (F : Fr h₀ env.locals s.heap m₀) (N : News h₀ env.locals s.heap led) (hsub : ∀ p ∈ Ld c₀, p ∈ led) (ok : Ok 0 c₀)
    (turn : ∀ (i : Nat) c u tx h tk (I : Nat) oi, i < n → Ok i c → (∀ p ∈ Ld c, @Ne Nat p.1 I) → Fr h₀ env.locals h (fun y => if y = x then some (.int (0 + (i : Int)) tx) else stF stored u m₀ y) → News h₀ env.locals h ((I, oi) :: Ld c) →
      wpAny (model prog w) A (execs body env) (StEnd h₀ env.locals Ld (Ok (i + 1)) stored m₀ I oi { s with heap := h, toks := tk }) E { s with heap := h, toks := tk })
    (done : ∀ c u h tk, Ok n c → Fr h₀ env.locals h (stF stored u m₀) → News h₀ env.locals h (Ld c) → Q .next { s with heap := h, toks := tk }) :
    wpAny (model prog w) A (pyIter (.ref r)) (fun it s₂ => LoopAtV prog w A h₀ env x body Q E it s₂) E s := by
  refine iter_range (fun i m nx => ∃ c : σ, nx = Ld c ∧ Ok i c ∧ ∀ y, stored.contains y = false → m y = m₀ y) hh hr hsmall hn F (fun p hp => N p (hsub p hp)) ⟨c₀, rfl, ok, fun _ _ => rfl⟩ ?_ ?_
  · rintro i tx m₁ nx h tk I oi hin ⟨c, rfl, hok, hm⟩ hne F₁ N₁
    have e := stF_eq hm
    rw [e] at F₁
    refine wpAny_mono (turn i c m₁ tx h tk I oi hin hok hne F₁ N₁) (fun f s₂ p => ?_) fun _ _ e => e
    obtain ⟨rfl, c', h', tk', m', rfl, F', N', h3, h4, h5⟩ := p
    exact IvEnd.intro F' N' h3 ⟨c', rfl, h4, h5⟩
  · rintro m₁ nx h tk ⟨c, rfl, hok, hm⟩ F₁ N₁
    have e := stF_eq hm
    rw [e] at F₁
    exact done c m₁ h tk hok F₁ N₁
end
/-- off the named addresses -/
def Ap (cc pl fg hl wl : Nat) (Z : Led) : Prop := ∀ p ∈ Z, @Ne Nat p.1 cc ∧ @Ne Nat p.1 pl ∧ @Ne Nat p.1 fg ∧ @Ne Nat p.1 hl ∧ @Ne Nat p.1 wl
structure St1 where
  recs : List Rec
  o : Obj
  nh : Nat
  nw : Nat
  Z : Led
def refsOf (f : Rec → Nat) (recs : List Rec) : Array Value := (recs.map fun r => Value.ref (f r)).toArray
def led1 (cc pl fg hl wl : Nat) (oc fo : Obj) (c : St1) : Led := (cc, oc) :: (pl, c.o) :: (fg, fo) :: (hl, listOf ((c.recs.map fun r => Value.ref r.x)).toArray c.nh) :: (wl, listOf ((c.recs.map fun r => Value.ref r.wy)).toArray c.nw) :: c.Z
structure Ok1 (w : World) (cc pl fg hl wl : Nat) (fo : Obj) (i : Nat) (c : St1) : Prop where
  len : c.recs.length = i
  pool : PObj pl fg fo c.o
  ap : Ap cc pl fg hl wl c.Z
  env : ∀ (j : Nat) (r : Rec), c.recs[j]? = some r → EnvG w (c.recs.map (·.x)) [] c.Z j r
  nd : (c.recs.flatMap Rec.ads).Nodup
theorem EnvG.grow {w : World} {xs : List Nat} {V Z Z' : Led} {j x' : Nat} {r : Rec} (h : EnvG w xs V Z j r) (hZ : ∀ p ∈ Z, p ∈ Z') (hV : r.its = []) : EnvG w (xs ++ [x']) V Z' j r := by
  obtain ⟨t, tn, lk, hs, n, hf⟩ := h.flds
  obtain ⟨svs, ns, hw, hi⟩ := h.way
  have e : parV (xs ++ [x']) r.par = parV xs r.par := by
    cases hp : r.par with
    | none => rfl
    | some q =>
      have := (h.par q hp).2
      simp [parV, List.getD, List.getElem?_append_left this]
  refine ⟨hZ _ h.inst, ⟨t, tn, lk, hs, n, by rw [e]; exact hZ _ hf⟩, h.frame.mono hZ, ⟨svs, ns, hZ _ hw, hi⟩, h.vals, h.keys, ?_, ?_, h.ls, ?_, h.len⟩
  · rw [hV]
    intro t ht
    exact nomatch ht
  · intro q hq
    have := h.par q hq
    rw [List.length_append]; exact ⟨this.1, by omega⟩
  · intro i hi
    have := h.lt i hi
    rw [List.length_append]; omega
theorem fillW : (∀ P, KF P = KF P) ∧ PySem.Challenge.rw_nz0470_01 = PySem.Challenge.rw_nz0470_01 := by
  k_fill
  exact ⟨fun _ => rfl, rfl⟩
theorem lnMWa : True := by
  k_with "t k_all" => (assumption)
  k_with "t k_mem" => (first | exact List.Mem.head _ | (refine' List.mem_cons_of_mem _ ?_; k_mem) | ktr_member | (ktn_app; first | (refine List.mem_append.mpr (Or.inl ?_); k_mem) | (refine List.mem_append.mpr (Or.inr ?_); k_mem)))
  k_with "t k_room" => (ktr_room)
  k_with "t k_units" => (ktr_units)
  k_with "m callWith ref" => ((k_here; k_dflt (first
    | (refine' callWith_K ?w188k1 ?w188k2 ?_; (case w188k1 => k_asm); (case w188k2 => k_is); k_whole)
    | (refine' callWith_K0 ?w188k1 ?w188k2 ?_; (case w188k1 => k_in); (case w188k2 => k_is); k_whole))))
  k_with "t tbn_lt" => (first | tbn_find | exact allLt_of (by assumption) | exact allLt_r (by tbn_find) | exact allLt_r (allLt_r (by tbn_find)) | exact tbn_up (by assumption) (by first | tbn_find | exact allLt_of (by assumption) | exact allLt_r (by tbn_find) | exact allLt_r (allLt_r (by tbn_find))))
  k_with "t tb_start" => (first | exact Led3.base0 | exact Led3.base2 (by assumption) (by assumption) | exact Led3.base1 (by assumption) | (refine' Led3.step ?w190tba ?w190tbb ?w190tbc ?w190tbd ?w190tbe; (case w190tba => omega); (case w190tbb => omega); (case w190tbc => omega); (case w190tbd => tbn_lt); (case w190tbe => tb_start)))
  k_with "t tb_rel" => ((intro p hp; (repeat' (refine List.Mem.tail _ ?_)); first | exact hp | exact List.mem_append_left _ hp | exact List.mem_append_right _ hp))
  k_with "t k_enter" => ((refine' code_def ?w192k1 ?w192k2 ?w192k3 ?w192k4 ?w192k5 ?w192kA ?w192kF ?w192kK ?w192k6 ?w192k7 ?w192k8 ?w192k9 ?w192kB ?_ ?w192c2 ?w192c3 ?w192c4 ?w192c5; (case w192kA => exact rfl); (case w192kF => exact rfl); (case w192kK => first | exact rfl | assumption); (case w192k1 => k_asm); (case w192k2 => k_asm); (case w192k3 => k_asm); (case w192k4 => k_asm); (case w192k5 => k_asm); (case w192k6 => k_is); (case w192k7 => k_is); (case w192k8 => ktr_room); (case w192k9 => first | exact BindsTo.of_eq rfl | exact binds_K (by k_in) rfl (by k_is) rfl rfl rfl); (case w192c5 => decide); (case w192kB => exact locs rfl); (case w192c2 => exact rfl); (case w192c3 => exact rfl); (case w192c4 => exact rfl); k_whole; intro g' L' h' FG' F' N' B' X' T'; (try dsimp only); (try k_fold)))
  k_with "t k_enter" => ((refine' code_defC ?w193k1 ?w193k2 ?w193k3 ?w193k4 ?w193k5 ?w193kA ?w193kF ?w193kK ?w193k6 ?w193k7 ?w193k8 ?w193k9 ?w193kB ?w193kD ?_ ?w193c2 ?w193c3 ?w193c4; (case w193kA => exact rfl); (case w193kF => exact rfl); (case w193kK => first | exact rfl | assumption); (case w193k1 => k_asm); (case w193k2 => k_asm); (case w193k3 => k_asm); (case w193k4 => k_asm); (case w193k5 => k_asm); (case w193k6 => k_is); (case w193k7 => k_is); (case w193k8 => ktr_room); (case w193k9 => first | exact BindsTo.of_eq rfl | exact binds_K (by k_in) rfl (by k_is) rfl rfl rfl); (case w193kB => exact rfl); (case w193kD => decide +kernel); (case w193c2 => exact rfl); (case w193c3 => exact rfl); (case w193c4 => exact rfl); k_whole; intro g' L' h' tk' cells' FG' F' N' Y' B' X' T' l1; (try k_lt l1); k_cells Y'; (try simp only [List.cons_append, List.nil_append] at N'); (try dsimp only); (try k_fold)))
  k_with "m CompEnd" => ((k_dflt (refine LCg.CompEnd.intro (by assumption) (by assumption) _ (fun _ h => h) (by assumption) (by lcg_src) ?_)))
  k_with "m eval ListComp" => ((k_here; lcf_look; lcg_calm; k_dflt (refine ListComp_D (by k_asm) (by with_unfolding_all rfl) (by decide) (by rfl) (by decide) (by rfl) ?_)))
  k_with "m exec Assign cons ListComp" => ((k_here; lcf_look; lcg_calm; k_dflt (refine Assign_ListComp_D (by k_asm) (by rfl) (by with_unfolding_all rfl) (by with_unfolding_all rfl) (by decide) (by rfl) (by decide) (by rfl) (by rfl) (by rfl) ?_)))
  k_with "m SrcD" => ((k_dflt (refine' SrcD.intro ?w197F ?w197N ?w197X ?w197D ?w197lo ?w197dd ?w197m ?w197gt ?_ ?w197c ?w197d ?w197z ?w197hh ?w197kx ?w197ky ?w197kf ?w197bx ?w197by_; (case w197F => k_asm); (case w197N => k_asm); (case w197X => k_asm); (case w197D => k_mem); (case w197lo => assumption); (case w197dd => assumption); (case w197c => rfl); (case w197m => k_mem); (case w197d => k_asm); (case w197gt => (first | (refine GetOk.mono (by assumption) ?_; tb_rel) | (intro A1 E1 s1 h1 L1 m1 Q1 F1 X1 N1 q1; refine' get_own F1 X1 ?w197k3 ?w197k4 ?w197k5 ?w197k6 ?w197k7 ?w197k8 ?w197k9 q1; (case w197k3 => k_inst); (case w197k4 => k_is); (case w197k5 => k_is); (case w197k6 => k_is); (case w197k7 => k_is); (case w197k8 => k_get); (case w197k9 => k_handed)))); (case w197z => first | exact Nat.le_of_ble_eq_true rfl | (rw [sizeLine_eq]; omega)); (case w197hh => rfl); (case w197kx => intro _; rfl); (case w197ky => intro _; rfl); (case w197kf => intro _; rfl); (case w197bx => decide); (case w197by_ => decide)); intro s2' hs2'; obtain ⟨g', eg'⟩ := hs2'; subst eg'; dsimp only [List.map]))
  k_with "m call builtin:list.append" => ((k_here; (with_reducible show wpAny _ _ (call (Value.builtin _) [Value.ref _, _]) _ _ _); k_dflt (refine' append_K ?w198k1 ?w198k2 ?w198k3 ?_ ?w198z; (case w198k1 => k_asm); (case w198k2 => k_asm); (case w198k3 => exact Upd.head (off1_ne (by assumption))); (case w198z => size_fits); k_whole); intro h' F' N'; (try k_sweep)))
  k_with "t tb_rel" => ((intro p hp; first | exact hp | (repeat' (first | exact hp | (refine List.Mem.tail _ ?_)))))
  k_with "t tb_start" => ((refine read_fin ret (by k_asm) (by k_asm) (by k_mem) (by tb_rel) (by first | exact ltNe (by first | tbn_find | exact allLt_of (by assumption)) | exact off1_ne (by assumption) | exact off1_ne (And.right (And.right (by assumption))) | exact off1_ne (And.right (by assumption)))))
  trivial
theorem env_fin {w : World} {h₀ : Heap} {L : Addr} {m : Str → Option Value} {s : Shared} {Q : Value → Shared → Prop} {news : Led} {num : Int} {tn : Tok} {p : Value}
    (ret : ∀ (x dx fr lk n : Nat) (hs : Nat → Int × Tok) (t : Tok) (of : Obj) (h' : Heap) (tk' : Nat), Fr h₀ L h' m → News h₀ L h' ((x, instObj 209 dx) :: (dx, dictOf (mkEs hs 0 [("kind", .str "environment" t), ("number", .int num tn), ("parent", p), ("attrs", .none), ("frame", .ref fr), ("locked", .bool false), ("locks", .ref lk)]) n) :: (fr, of) :: news) →
      AllLt x news → AllLt dx news → AllLt fr news → @LT.lt Nat _ dx x → @LT.lt Nat _ x fr → (fr == sysModules) = false → of.IsDictOf (PySem.strKind PySem.Challenge.rw_nz0470_01.row.prog w) [] → Q (.ref x) { s with heap := h', toks := tk' })
    {x dx fr lk n : Nat} {h0 h1 h2 h3 h4 h5 h6 : Int} {t t0 t1 t2 t3 t4 t5 t6 : Tok} {of : Obj} {h' : Heap} {tk' : Nat} {led : Led} (F : Fr h₀ L h' m) (N : News h₀ L h' led) (m1 : (x, instObj 209 dx) ∈ led)
    (m2 : (dx, dictOf [⟨h0, .str "kind" t0, .str "environment" t⟩, ⟨h1, .str "number" t1, .int num tn⟩, ⟨h2, .str "parent" t2, p⟩, ⟨h3, .str "attrs" t3, .none⟩, ⟨h4, .str "frame" t4, .ref fr⟩, ⟨h5, .str "locked" t5, .bool false⟩, ⟨h6, .str "locks" t6, .ref lk⟩] n) ∈ led)
    (m3 : (fr, of) ∈ led) (m4 : ∀ p ∈ news, p ∈ led) (a1 : AllLt x news) (a2 : AllLt dx news) (a3 : AllLt fr news) (a4 : @LT.lt Nat _ dx x) (a5 : @LT.lt Nat _ x fr) (lo : (fr == sysModules) = false) (hd : of.IsDictOf (PySem.strKind PySem.Challenge.rw_nz0470_01.row.prog w) []) : Q (.ref x) { s with heap := h', toks := tk' } := by
  refine ret x dx fr lk n (fun i => [(h0, t0), (h1, t1), (h2, t2), (h3, t3), (h4, t4), (h5, t5), (h6, t6)].getD i (0, 0)) t of h' tk' F (fun p hp => N p ?_) a1 a2 a3 a4 a5 lo hd
  rcases List.mem_cons.mp hp with rfl | hp
  · exact m1
  rcases List.mem_cons.mp hp with rfl | hp
  · exact m2
  rcases List.mem_cons.mp hp with rfl | hp
  · exact m3
  · exact m4 p hp
set_option maxRecDepth 100000 in
set_option maxHeartbeats 8000000 in
theorem mk_env (w : World) (mean : ExcName → Option Value) (mg mb : Str → Option Value) (num : Int) (tn : Tok) (p : Value) {dp un : Nat} {gd : Option (List Code)} {cn : Str} {cs : Scope} {a : Addr} {ccd : Value} {cl : List (Str × Addr)} {outer : List Env} {A₀ : Around} {base h₀ : Heap} {L : Addr} {m : Str → Option Value} {s : Shared} {Q E : Value → Shared → Prop} {news : Led}
    (B : Below A₀ base outer h₀) (F : Fr h₀ L s.heap m) (X : (KF w.params).In h₀) (N : News h₀ L s.heap news) (T : Top VW Lo mean mg mb h₀) (hk : cs.kind = .function) (hdp : dp + 8 < 1000) (hun : un + 60 < 9900)
    (ret : ∀ (x dx fr lk n : Nat) (hs : Nat → Int × Tok) (t : Tok) (of : Obj) (h' : Heap) (tk' : Nat), Fr h₀ L h' m → News h₀ L h' ((x, instObj 209 dx) :: (dx, dictOf (mkEs hs 0 [("kind", .str "environment" t), ("number", .int num tn), ("parent", p), ("attrs", .none), ("frame", .ref fr), ("locked", .bool false), ("locks", .ref lk)]) n) :: (fr, of) :: news) →
      AllLt x news → AllLt dx news → AllLt fr news → @LT.lt Nat _ dx x → @LT.lt Nat _ x fr → (fr == sysModules) = false → of.IsDictOf (PySem.strKind PySem.Challenge.rw_nz0470_01.row.prog w) [] → Q (.ref x) { s with heap := h', toks := tk' }) :
    wpAny (model PySem.Challenge.rw_nz0470_01.row.prog w) (ktrTop dp un gd cn cs L a ccd cl outer) (call (.ref 209) [.int num tn, p]) Q E s := by
  k_steps
  exact env_fin ret (by k_asm) (by k_asm) (by k_mem) (by k_mem) (by k_mem) (by tb_rel) (by first | tbn_find | exact tbn_up (by assumption) (allLt_of (by assumption))) (by first | tbn_find | exact allLt_of (by assumption)) (by first | tbn_find | exact allLt_of (by assumption)) (by omega) (by omega) (by assumption) (by assumption)
theorem lnM2 : True := by
  k_with_none
  trivial
theorem PObj.ne {pl fg : Nat} {fo o : Obj} (h : PObj pl fg fo o) : pl ≠ fg := by
  obtain ⟨_, _, _, _, _, _, _, _, _, _, _, _, _, _, _, _, h⟩ := h
  exact h
theorem small0 {b : Int} (h : 0 ≤ b) (h2 : b < 1000) : Builtin.Range.small 0 b 1 = true := small_one (by decide) (by decide) (by omega) (by omega)
theorem size0 {b : Int} (h : 0 ≤ b) : Builtin.Range.rangeSize 0 b 1 = ((b.toNat : Nat) : Int) := by
  rw [rangeSize_one]; omega
abbrev xsOf (recs : List Rec) : List Value := recs.map fun r => Value.ref r.x
abbrev wsOf (recs : List Rec) : List Value := recs.map fun r => Value.ref r.wy
/-- the state between the turns of the first loop, opened -/
structure Open1 (w : World) (cc pl fg hl wl : Nat) (fo : Obj) (i : Nat) (recs : List Rec) (o : Obj) (Z : Led) : Prop where
  len : recs.length = i
  pool : PObj pl fg fo o
  cc' : ∀ p ∈ Z, @Ne Nat p.1 cc
  pl' : ∀ p ∈ Z, @Ne Nat p.1 pl
  fg' : ∀ p ∈ Z, @Ne Nat p.1 fg
  hl' : ∀ p ∈ Z, @Ne Nat p.1 hl
  wl' : ∀ p ∈ Z, @Ne Nat p.1 wl
  env : ∀ (j : Nat) (r : Rec), recs[j]? = some r → EnvG w (recs.map (·.x)) [] Z j r
  nd : (recs.flatMap Rec.ads).Nodup
  old : ∀ a ∈ recs.flatMap Rec.ads, ∃ o, (a, o) ∈ Z
  bare : ∀ r ∈ recs, r.its = []
abbrev St1' := List Rec × Obj × Nat × Nat × Led
def led2 (cc pl fg hl wl : Nat) (oc fo : Obj) (c : St1') : Led := (cc, oc) :: (pl, c.2.1) :: (fg, fo) :: (hl, listOf (xsOf c.1).toArray c.2.2.1) :: (wl, listOf (wsOf c.1).toArray c.2.2.2.1) :: c.2.2.2.2
def Turn1 (w : World) (h₀ : Heap) (L : Addr) (cc pl fg hl wl : Nat) (oc fo : Obj) (m₀ : Str → Option Value) (i I : Nat) (oi : Obj) (s₁ : Shared) (f : Flow) (s₂ : Shared) : Prop :=
  StEnd h₀ L (led2 cc pl fg hl wl oc fo) (fun c => Open1 w cc pl fg hl wl fo (i + 1) c.1 c.2.1 c.2.2.2.2) [Str.ofString "step", Str.ofString "above"] m₀ I oi s₁ f s₂
section
variable {prog : Program} {w : World} {A : Around} {E : Value → Shared → Prop} {s : Shared} {env : Env} {h₀ : Heap} {x : Str} {body : List Stmt} {Q : Flow → Shared → Prop}
theorem loop1 {r : Addr} {b₀ : Int} {t₀ u₀ v₀ : Tok} {m₀ : Str → Option Value} {led : Led} {cc pl fg hl wl nh nw : Nat} {oc fo o : Obj}
    (hh : A.handled = none) (hr : IsRange s.heap r 0 b₀ 1 t₀ u₀ v₀) (hb0 : 0 ≤ b₀) (hb1 : b₀ < 1000) (F : Fr h₀ env.locals s.heap m₀) (N : News h₀ env.locals s.heap led) (_hp : m₀ (Str.ofString "pool") = some (.ref pl)) (_hw : m₀ (Str.ofString "ways") = some (.ref wl)) (_hc : oc.data = .cell (some (.ref hl)))
    (P : PObj pl fg fo o) (c1 : (cc, oc) ∈ led) (c2 : (pl, o) ∈ led) (c3 : (fg, fo) ∈ led) (c4 : (hl, listOf (List.toArray ([] : List Value)) nh) ∈ led) (c5 : (wl, listOf (List.toArray ([] : List Value)) nw) ∈ led)
    (turn : ∀ (i : Nat) recs o nh nw Z u tx h tk (I : Nat) oi, i < b₀.toNat → Open1 w cc pl fg hl wl fo i recs o Z → @Ne Nat cc I → @Ne Nat pl I → @Ne Nat fg I → @Ne Nat hl I → @Ne Nat wl I → (∀ p ∈ Z, @Ne Nat p.1 I) → Fr h₀ env.locals h (fun y => if y = x then some (.int (i : Int) tx) else stF [Str.ofString "step", Str.ofString "above"] u m₀ y) →
      News h₀ env.locals h ((I, oi) :: (cc, oc) :: (pl, o) :: (fg, fo) :: (hl, listOf (xsOf recs).toArray nh) :: (wl, listOf (wsOf recs).toArray nw) :: Z) →
      wpAny (model prog w) A (execs body env) (Turn1 w h₀ env.locals cc pl fg hl wl oc fo m₀ i I oi { s with heap := h, toks := tk }) E { s with heap := h, toks := tk })
    (done : ∀ recs o nh nw Z u h tk, Open1 w cc pl fg hl wl fo b₀.toNat recs o Z → Fr h₀ env.locals h (stF [Str.ofString "step", Str.ofString "above"] u m₀) → News h₀ env.locals h ((cc, oc) :: (pl, o) :: (fg, fo) :: (hl, listOf (xsOf recs).toArray nh) :: (wl, listOf (wsOf recs).toArray nw) :: Z) → Q .next { s with heap := h, toks := tk }) :
    wpAny (model prog w) A (pyIter (.ref r)) (fun it s₂ => LoopAtV prog w A h₀ env x body Q E it s₂) E s := by
  refine range_state (led2 cc pl fg hl wl oc fo) (fun i c => Open1 w cc pl fg hl wl fo i c.1 c.2.1 c.2.2.2.2) [Str.ofString "step", Str.ofString "above"] ([], o, nh, nw, []) hh hr (small0 hb0 hb1) (size0 hb0) F N ?_ ?_ ?_ ?_
  · intro p hp
    simp only [led2, List.map_nil, List.mem_cons, List.not_mem_nil, or_false] at hp
    rcases hp with rfl | rfl | rfl | rfl | rfl
    · exact c1
    · exact c2
    · exact c3
    · exact c4
    · exact c5
  · exact ⟨rfl, P, (fun _ h => nomatch h), (fun _ h => nomatch h), (fun _ h => nomatch h), (fun _ h => nomatch h), (fun _ h => nomatch h), (fun j r h => by simp at h), by simp, (fun _ h => by simp at h), (fun _ h => nomatch h)⟩
  · rintro i ⟨recs, o, nh, nw, Z⟩ u tx h tk I oi hi hO hne F' N'
    rw [Int.zero_add] at F'
    exact turn i recs o nh nw Z u tx h tk I oi hi hO (hne _ (.head _)) (hne _ (.tail _ (.head _))) (hne _ (.tail _ (.tail _ (.head _)))) (hne _ (.tail _ (.tail _ (.tail _ (.head _))))) (hne _ (.tail _ (.tail _ (.tail _ (.tail _ (.head _)))))) (fun p hp => hne p (.tail _ (.tail _ (.tail _ (.tail _ (.tail _ hp)))))) F' N'
  · rintro ⟨recs, o, nh, nw, Z⟩ u h tk hO F' N'
    exact done recs o nh nw Z u h tk hO F' N'
end
section
variable {prog : Program} {w : World} {A : Around} {E : Value → Shared → Prop} {s : Shared} {h₀ : Heap} {L l : Addr} {news : Led}
theorem rec_item {f : Rec → Nat} {recs : List Rec} {nh : Nat} {value slice : PySem.Expr} {k : Int} {u : Tok} {Q : Value → Shared → Prop} (N : News h₀ L s.heap news) (hm : (l, listOf (recs.map fun r => Value.ref (f r)).toArray nh) ∈ news) (h0 : 0 ≤ k) (h1 : k < (recs.length : Int)) (h2 : k < 1000)
    (h : ∀ r : Rec, recs[k.toNat]? = some r → Q (.ref (f r)) s)
    (hs : subscripted slice false (.ref l) (.int k u) = operate [.ref l, .int k u] (getItem (.ref l) (.int k u)) := by with_unfolding_all rfl) :
    wpAny (model prog w) A (subscriptTail value slice (.ref l) (.int k u)) Q E s := by
  have hk : k.toNat < recs.length := by omega
  have e : recs[k.toNat]? = some recs[k.toNat] := List.getElem?_eq_getElem hk
  exact item_at N hm h0 h2 (by simp [e]) (h _ e) hs
end
/-- one more environment -/
theorem Open1.snoc {w : World} {cc pl fg hl wl : Nat} {fo o o' : Obj} {i : Nat} {recs : List Rec} {Z : Led} (H : Open1 w cc pl fg hl wl fo i recs o Z) (P : PObj pl fg fo o')
    {x dx fr wy lk n ny : Nat} {hs : Nat → Int × Tok} {t tn : Tok} {of : Obj} {svs : List Value} {par : Option Nat} {pv : Value}
    (hpv : pv = parV (recs.map (·.x)) par) (hpar : ∀ q, par = some q → q < recs.length) (hsv : IntsAre svs (par.toList.map fun i : Nat => (i : Int)))
    (lo : (fr == sysModules) = false) (hd : of.IsDictOf (PySem.strKind PySem.Challenge.rw_nz0470_01.row.prog w) [])
    (ax : AllLt x Z) (adx : AllLt dx Z) (afr : AllLt fr Z) (awy : AllLt wy Z) (d1 : dx < x) (d2 : x < fr) (d3 : fr < wy) (e1 : cc < dx) (e2 : pl < dx) (e3 : fg < dx) (e4 : hl < dx) (e5 : wl < dx) :
    Open1 w cc pl fg hl wl fo (i + 1) (recs ++ [⟨x, dx, fr, wy, par, [], [], par.toList⟩]) o' ((x, instObj 209 dx) :: (dx, dictOf (mkEs hs 0 [("kind", .str "environment" t), ("number", .int (10 + 3 * (i : Int)) tn), ("parent", pv), ("attrs", .none), ("frame", .ref fr), ("locked", .bool false), ("locks", .ref lk)]) n) :: (fr, of) :: (wy, listOf svs.toArray ny) :: Z) := by
  have off : ∀ (b : Nat), b < dx → (∀ p ∈ Z, @Ne Nat p.1 b) → ∀ p ∈ ((x, instObj 209 dx) :: (dx, dictOf (mkEs hs 0 [("kind", .str "environment" t), ("number", .int (10 + 3 * (i : Int)) tn), ("parent", pv), ("attrs", .none), ("frame", .ref fr), ("locked", .bool false), ("locks", .ref lk)]) n) :: (fr, of) :: (wy, listOf svs.toArray ny) :: Z : Led), @Ne Nat p.1 b := by
    intro b hb h p hp
    rcases List.mem_cons.mp hp with rfl | hp
    · show x ≠ b; omega
    rcases List.mem_cons.mp hp with rfl | hp
    · show dx ≠ b; omega
    rcases List.mem_cons.mp hp with rfl | hp
    · show fr ≠ b; omega
    rcases List.mem_cons.mp hp with rfl | hp
    · show wy ≠ b; omega
    · exact h p hp
  have sub : ∀ p ∈ Z, p ∈ ((x, instObj 209 dx) :: (dx, dictOf (mkEs hs 0 [("kind", .str "environment" t), ("number", .int (10 + 3 * (i : Int)) tn), ("parent", pv), ("attrs", .none), ("frame", .ref fr), ("locked", .bool false), ("locks", .ref lk)]) n) :: (fr, of) :: (wy, listOf svs.toArray ny) :: Z : Led) := fun p hp => .tail _ (.tail _ (.tail _ (.tail _ hp)))
  have hxs : (recs ++ [(⟨x, dx, fr, wy, par, [], [], par.toList⟩ : Rec)]).map (·.x) = recs.map (·.x) ++ [x] := by simp
  refine ⟨by rw [List.length_append, H.len]; rfl, P, off cc e1 H.cc', off pl e2 H.pl', off fg e3 H.fg', off hl e4 H.hl', off wl e5 H.wl', ?_, ?_, ?_, ?_⟩
  · intro j r hj
    rw [hxs]
    rcases Nat.lt_or_ge j recs.length with hlt | hge
    · rw [List.getElem?_append_left hlt] at hj
      have hE := H.env j r hj
      exact hE.grow sub (H.bare r (List.mem_of_getElem? hj))
    · rw [List.getElem?_append_right hge] at hj
      have hj0 : j - recs.length = 0 := by
        rcases Nat.eq_zero_or_pos (j - recs.length) with h | h
        · exact h
        · rw [List.getElem?_eq_none (by simp; omega)] at hj; cases hj
      rw [hj0] at hj
      simp only [List.getElem?_cons_zero, Option.some.injEq] at hj
      subst hj
      have hji : j = i := by have := H.len; omega
      subst hji
      have hpv' : parV (recs.map (·.x) ++ [x]) par = pv := by
        rw [hpv]
        cases hp : par with
        | none => rfl
        | some q =>
          have := hpar q hp
          simp [parV, List.getD, List.getElem?_append_left, this]
      refine ⟨.head _, ⟨t, tn, lk, hs, n, by rw [hpv']; exact .tail _ (.head _)⟩, ⟨of, .tail _ (.tail _ (.head _)), lo, hd⟩, ⟨svs, ny, .tail _ (.tail _ (.tail _ (.head _))), hsv⟩, rfl, (fun _ h => nomatch h), (fun _ h => nomatch h), ?_, ?_, ?_, ?_⟩
      · intro q hq
        have := hpar q hq
        have h9 := H.len
        rw [List.length_append, List.length_map]; exact ⟨by omega, by omega⟩
      · intro k
        simp [spots]
      · intro k hk
        have hk' : par = some k := by simpa using hk
        have := hpar k hk'
        rw [List.length_append, List.length_map]; omega
      · show par.toList.length ≤ 1 + 16 * 0
        cases par <;> simp
  · rw [List.flatMap_append, List.nodup_append]
    refine ⟨H.nd, ?_, ?_⟩
    · simp only [List.flatMap_cons, List.flatMap_nil, List.append_nil, Rec.ads, List.nodup_cons, List.mem_cons, List.not_mem_nil, or_false, not_or, List.nodup_nil, not_false_eq_true, and_true]
      refine ⟨⟨?_, ?_, ?_⟩, ⟨?_, ?_⟩, ?_⟩ <;> omega
    · intro a ha b hb e
      obtain ⟨oa, hoa⟩ := H.old a ha
      have l1 := allLt_mem ax _ hoa
      have l2 := allLt_mem adx _ hoa
      have l3 := allLt_mem afr _ hoa
      have l4 := allLt_mem awy _ hoa
      simp only [List.flatMap_cons, List.flatMap_nil, List.append_nil, Rec.ads, List.mem_cons, List.not_mem_nil, or_false] at hb
      simp only at l1 l2 l3 l4
      subst e
      rcases hb with rfl | rfl | rfl | rfl <;> omega
  · intro a ha
    rw [List.flatMap_append, List.mem_append] at ha
    rcases ha with ha | ha
    · obtain ⟨oa, hoa⟩ := H.old a ha
      exact ⟨oa, sub _ hoa⟩
    · simp only [List.flatMap_cons, List.flatMap_nil, List.append_nil, Rec.ads, List.mem_cons, List.not_mem_nil, or_false] at ha
      rcases ha with rfl | rfl | rfl | rfl
      · exact ⟨_, .head _⟩
      · exact ⟨_, .tail _ (.head _)⟩
      · exact ⟨_, .tail _ (.tail _ (.head _))⟩
      · exact ⟨_, .tail _ (.tail _ (.tail _ (.head _)))⟩
  · intro r hr
    rcases List.mem_append.mp hr with hr | hr
    · exact H.bare r hr
    · rw [List.mem_singleton.mp hr]
theorem turn1_fin {w : World} {h₀ : Heap} {L : Addr} {cc pl fg hl wl : Nat} {oc fo o o' : Obj} {m₀ m' : Str → Option Value} {i I : Nat} {oi : Obj} {s₁ : Shared} {recs : List Rec} {Z : Led} (H : Open1 w cc pl fg hl wl fo i recs o Z) (P : PObj pl fg fo o')
    {x dx fr wy lk n ny nh nw tk : Nat} {hs : Nat → Int × Tok} {t tn : Tok} {of : Obj} {svs : List Value} (par : Option Nat) {pv : Value} {h' : Heap} {led : Led}
    (F : Fr h₀ L h' m') (N : News h₀ L h' led) (mx : (x, instObj 209 dx) ∈ led)
    (mdx : (dx, dictOf (mkEs hs 0 [("kind", .str "environment" t), ("number", .int (10 + 3 * (i : Int)) tn), ("parent", pv), ("attrs", .none), ("frame", .ref fr), ("locked", .bool false), ("locks", .ref lk)]) n) ∈ led)
    (mfr : (fr, of) ∈ led) (mI : (I, oi) ∈ led) (mcc : (cc, oc) ∈ led) (mpl : (pl, o') ∈ led) (mfg : (fg, fo) ∈ led) (mhl : (hl, listOf ((xsOf recs).toArray.push (.ref x)) nh) ∈ led) (mwl : (wl, listOf ((wsOf recs).toArray.push (.ref wy)) nw) ∈ led)
    (mwy : (wy, listOf (List.toArray svs) ny) ∈ led) (mZ : ∀ p ∈ Z, p ∈ led)
    (hpv : pv = parV (recs.map (·.x)) par) (hpar : ∀ q, par = some q → q < recs.length) (hsv : IntsAre svs (par.toList.map fun i : Nat => (i : Int)))
    (lo : (fr == sysModules) = false) (hd : of.IsDictOf (PySem.strKind PySem.Challenge.rw_nz0470_01.row.prog w) [])
    (ax : AllLt x Z) (adx : AllLt dx Z) (afr : AllLt fr Z) (awy : AllLt wy Z) (dd : dx < x ∧ x < fr ∧ fr < wy ∧ cc < dx ∧ pl < dx ∧ fg < dx ∧ hl < dx ∧ wl < dx ∧ I < dx ∧ cc ≠ I ∧ pl ≠ I ∧ fg ≠ I ∧ hl ≠ I ∧ wl ≠ I) (hI : ∀ p ∈ Z, @Ne Nat p.1 I)
    (hm : ∀ y, y ≠ Str.ofString "step" → y ≠ Str.ofString "above" → [Str.ofString "step", Str.ofString "above"].contains y = false → m' y = m₀ y) :
    Turn1 w h₀ L cc pl fg hl wl oc fo m₀ i I oi s₁ .next { s₁ with heap := h', toks := tk } := by
  obtain ⟨d1, d2, d3, e1, e2, e3, e4, e5, eI, n1, n2, n3, n4, n5⟩ := dd
  have K := H.snoc P (lk := lk) (n := n) (ny := ny) (hs := hs) (t := t) (tn := tn) hpv hpar hsv lo hd ax adx afr awy d1 d2 d3 e1 e2 e3 e4 e5
  refine StEnd.intro (recs ++ [⟨x, dx, fr, wy, par, [], [], par.toList⟩], o', nh, nw, _) F N mI ?_ ?_ K (fun y hy => hm y ?_ ?_ hy)
  · intro p hp
    simp only [led2, xsOf, wsOf, List.map_append, List.map_cons, List.map_nil] at hp
    rcases List.mem_cons.mp hp with rfl | hp
    · exact mcc
    rcases List.mem_cons.mp hp with rfl | hp
    · exact mpl
    rcases List.mem_cons.mp hp with rfl | hp
    · exact mfg
    rcases List.mem_cons.mp hp with rfl | hp
    · rw [← List.push_toArray]; exact mhl
    rcases List.mem_cons.mp hp with rfl | hp
    · rw [← List.push_toArray]; exact mwl
    rcases List.mem_cons.mp hp with rfl | hp
    · exact mx
    rcases List.mem_cons.mp hp with rfl | hp
    · exact mdx
    rcases List.mem_cons.mp hp with rfl | hp
    · exact mfr
    rcases List.mem_cons.mp hp with rfl | hp
    · exact mwy
    · exact mZ p hp
  · intro p hp
    simp only [led2] at hp
    rcases List.mem_cons.mp hp with rfl | hp
    · exact n1
    rcases List.mem_cons.mp hp with rfl | hp
    · exact n2
    rcases List.mem_cons.mp hp with rfl | hp
    · exact n3
    rcases List.mem_cons.mp hp with rfl | hp
    · exact n4
    rcases List.mem_cons.mp hp with rfl | hp
    · exact n5
    rcases List.mem_cons.mp hp with rfl | hp
    · show x ≠ I; omega
    rcases List.mem_cons.mp hp with rfl | hp
    · show dx ≠ I; omega
    rcases List.mem_cons.mp hp with rfl | hp
    · show fr ≠ I; omega
    rcases List.mem_cons.mp hp with rfl | hp
    · show wy ≠ I; omega
    · exact hI p hp
  · rintro rfl
    exact absurd hy (by decide)
  · rintro rfl
    exact absurd hy (by decide)
theorem parV_of {recs : List Rec} {r : Rec} {q : Nat} (h : recs[q]? = some r) : Value.ref r.x = parV (recs.map (·.x)) (some q) := by simp [parV, List.getD, h]
theorem lt_of_get {recs : List Rec} {r : Rec} {q : Nat} (h : recs[q]? = some r) : ∀ q', some q = some q' → q' < recs.length := fun q' e => by
  cases e
  exact (List.getElem?_eq_some_iff.mp h).1
/-! an object of the hidden part is turned -/
def offL (a : Nat) (Z : Led) : Led := Z.filter fun p => decide (@Ne Nat p.1 a)
theorem mem_offL {a : Nat} {Z : Led} {p : Addr × Obj} : p ∈ offL a Z ↔ p ∈ Z ∧ @Ne Nat p.1 a := by simp [offL]
theorem updF_mid {a : Nat} {o : Obj} {Z : Led} (hZ : ∀ p ∈ Z, @Ne Nat p.1 a) : ∀ {pre : Led}, (∀ p ∈ pre, @Ne Nat p.1 a) → UpdF a o (pre ++ (a, o) :: Z) (fun o' => pre ++ (a, o') :: Z)
  | [], _ => .head hZ
  | p :: r, h => .tail (h p (.head _)) (updF_mid hZ fun q hq => h q (.tail _ hq))
theorem news_mid {h₀ h : Heap} {L : Addr} {a : Nat} {o : Obj} {pre Z : Led} (N : News h₀ L h (pre ++ Z)) (hm : (a, o) ∈ Z) : News h₀ L h (pre ++ (a, o) :: offL a Z) := fun p hp => N p (by
  rcases List.mem_append.mp hp with hp | hp
  · exact List.mem_append_left _ hp
  · rcases List.mem_cons.mp hp with rfl | hp
    · exact List.mem_append_right _ hm
    · exact List.mem_append_right _ (mem_offL.mp hp).1)
theorem ki_same : ∀ {vs : List Value} {k : Nat} {v : Value}, vs[k]? = some v → ki_setL vs k v = some vs
  | [], k, v, h => by simp at h
  | x :: r, 0, v, h => by
    simp only [List.getElem?_cons_zero, Option.some.injEq] at h
    rw [h]; rfl
  | x :: r, k + 1, v, h => by
    rw [List.getElem?_cons_succ] at h
    show (match ki_setL r k v with | some q => some (x :: q) | none => none) = _
    rw [ki_same h]
section
variable {prog : Program} {w : World} {A : Around} {E : Value → Shared → Prop} {s : Shared} {h₀ : Heap} {L l : Addr} {m : Str → Option Value} {news : Led}
theorem set_frame {d : Nat} {od : Obj} {kvs : List (Str × Value)} {key : Str} {t : Tok} {v : Value} {Q : Unit → Shared → Prop} (pre Z : Led) (F : Fr h₀ L s.heap m) (N : News h₀ L s.heap (pre ++ Z)) (hm : (d, od) ∈ Z) (hd : od.IsDictOf (PySem.strKind prog w) kvs) (hp : ∀ p ∈ pre, @Ne Nat p.1 d) (hk : kvs.any (fun kv => decide (kv.1 = key)) = false) (hl : kvs.length ≤ 2)
    (h : ∀ h' o', Fr h₀ L h' m → News h₀ L h' (pre ++ (d, o') :: offL d Z) → o'.IsDictOf (PySem.strKind prog w) (kvs ++ [(key, v)]) → Q () { s with heap := h', toks := s.toks + 1 }) : wpAny (model prog w) A (setItem (.ref d) (.str key t) v) Q E s := by
  have hbig : sizeLine = 16777216 := sizeLine_eq
  refine kda_set (knd := PySem.strKind prog w) F (news_mid N hm) (updF_mid (fun p hp => (mem_offL.mp hp).2) hp) hd (strKind_is _ _ _ _) (by omega) fun h' o' F' N' hd' => h h' o' F' N' ?_
  unfold PySem.stored at hd'
  rw [hk] at hd'
  exact hd'
theorem name_off {d : Nat} {od : Obj} {kvs : List (Str × Value)} {key : Str} {t : Tok} {Q : Value → Shared → Prop} (N : News h₀ L s.heap news) (hm : (d, od) ∈ news) (lo : (d == sysModules) = false) (hd : od.IsDictOf (PySem.strKind prog w) kvs)
    (h1 : kvs.any (fun kv => decide (kv.1 = key)) = false → Q (.bool true) { s with toks := s.toks + 1 }) (h2 : Q (.bool false) { s with toks := s.toks + 1 }) : wpAny (model prog w) A (compareOp .NotIn (.str key t) (.ref d)) Q E s := by
  refine wpAny_notIn_of (knd := PySem.strKind prog w) (strKind_is _ _ _ _) lo (kda_dict N hm hd).mapOf ?_
  have e : (valueAt kvs key).isSome = kvs.any (fun kv => decide (kv.1 = key)) := by
    unfold valueAt
    rw [Option.isSome_map]
    cases hf : kvs.find? (fun kv => decide (kv.1 = key)) with
    | none =>
      have := List.find?_eq_none.mp hf
      symm
      show kvs.any _ = false
      rw [List.any_eq_false]
      exact this
    | some p =>
      symm
      show kvs.any _ = true
      rw [List.any_eq_true]
      exact ⟨p, List.mem_of_find?_eq_some hf, List.find?_some (p := fun kv : Str × Value => decide (kv.1 = key)) hf⟩
  rw [e]
  cases hb : kvs.any (fun kv => decide (kv.1 = key)) with
  | false => exact h1 hb
  | true => exact h2
theorem iadd_mid {a b : Nat} {its its2 : List Value} {n n2 : Nat} {Q : Value → Shared → Prop} (pre Z : Led) (F : Fr h₀ L s.heap m) (N : News h₀ L s.heap (pre ++ Z)) (hm : (a, listOf its.toArray n) ∈ Z) (hb : (b, listOf its2.toArray n2) ∈ Z) (hne : @Ne Nat b a) (hp : ∀ p ∈ pre, @Ne Nat p.1 a) (hz : its.length + its2.length ≤ 100000)
    (h : ∀ n' h', Fr h₀ L h' m → News h₀ L h' (pre ++ (a, listOf (its ++ its2).toArray n') :: offL a Z) → Q (.ref a) { s with heap := h' }) : wpAny (model prog w) A (inplaceOp .Add (.ref a) (.ref b)) Q E s := by
  refine iadd_lists F (news_mid N hm) (updF_mid (fun p hp => (mem_offL.mp hp).2) hp) (List.mem_append_right _ (.tail _ (mem_offL.mpr ⟨hb, hne⟩))) (by simp only [List.size_toArray]; exact hz) fun n' h' F' N' => h n' h' F' ?_
  simpa using N'
theorem set_same {vs : List Value} {n : Nat} {k : Int} {t : Tok} {v : Value} {Q : Unit → Shared → Prop} (F : Fr h₀ L s.heap m) (N : News h₀ L s.heap news) (h0 : 0 ≤ k) (h1 : k < 1000) (e : vs[k.toNat]? = some v) (U : Upd l (listOf vs.toArray n) (listOf vs.toArray n) news news)
    (h : ∀ h', Fr h₀ L h' m → News h₀ L h' news → Q () { s with heap := h' }) : wpAny (model prog w) A (setItem (.ref l) (.int k t) v) Q E s :=
  ki_set F N h0 (by omega) (by simpa using ki_same e) U h
end
theorem app_ne {a : Nat} {tl Z : Led} (h1 : ∀ p ∈ tl, @LT.lt Nat _ a p.1) (h2 : ∀ p ∈ Z, @Ne Nat p.1 a) : ∀ p ∈ tl ++ Z, @Ne Nat p.1 a := fun p hp => (List.mem_append.mp hp).elim (fun h => Nat.ne_of_gt (h1 p h)) (h2 p)
/-- the value's call, at the law's ledger -/
theorem value_law {w : World} {mean : ExcName → Option Value} {mg mb : Str → Option Value} {d : Nat} {dp un : Nat} {gd : Option (List Code)} {cn : Str} {cs : Scope} {a : Addr} {ccd : Value} {cl : List (Str × Addr)} {outer : List Env} {A₀ : Around} {base h₀ : Heap} {L : Addr} {m : Str → Option Value} {s : Shared} {Q E : Value → Shared → Prop}
    {I cc pl fg hl : Nat} {oi oc fo o : Obj} {xs : List Nat} {nh : Nat} {deep : Int} {td : Tok} (mid : Led) {Z : Led}
    (B : Below A₀ base outer h₀) (F : Fr h₀ L s.heap m) (X : (KF w.params).In h₀) (N : News h₀ L s.heap ((I, oi) :: (cc, oc) :: (pl, o) :: (fg, fo) :: (hl, listOf (xs.map Value.ref).toArray nh) :: (mid ++ Z))) (T : Top VW Lo mean mg mb h₀) (hk : cs.kind = .function) (C : ValueOk w mean mg mb d)
    (hdp : dp + 10 + 2 * d < 900) (hun : un + 200 + 40 * d < 9000) (hP : PObj pl fg fo o) (h1 : pl ≠ hl) (h2 : fg ≠ hl) (h3 : pl ≠ I) (h4 : pl ≠ cc) (h5 : ∀ p ∈ mid, @Ne Nat p.1 pl) (hZ : ∀ p ∈ Z, @Ne Nat p.1 pl) (g1 : ∀ p ∈ Z, @Ne Nat p.1 cc) (g2 : ∀ p ∈ Z, @Ne Nat p.1 fg) (g3 : ∀ p ∈ Z, @Ne Nat p.1 hl) (g4 : ∀ p ∈ Z, @Ne Nat p.1 I) (g5 : ∀ q ∈ mid, ∀ p ∈ Z, @Ne Nat p.1 q.1) (hx0 : 0 < xs.length) (hx6 : xs.length ≤ 6) (hdeep : deep + d = 3)
    (ret : ∀ (tp sp v : Nat) (svs : List Value) (np ns : Nat) (ls : List Nat) (k : Nat) (tl : Led) (o' : Obj) (h' : Heap) (tk' : Nat), Fr h₀ L h' m → News h₀ L h' ((I, oi) :: (cc, oc) :: (pl, o') :: (fg, fo) :: (hl, listOf (xs.map Value.ref).toArray nh) :: (mid ++ (tl ++ Z))) → PObj pl fg fo o' →
      (∀ p ∈ tl, @LT.lt Nat _ I p.1 ∧ @LT.lt Nat _ cc p.1 ∧ @LT.lt Nat _ pl p.1 ∧ @LT.lt Nat _ fg p.1 ∧ @LT.lt Nat _ hl p.1) → (∀ p ∈ tl, ∀ q ∈ mid, @LT.lt Nat _ q.1 p.1) → (∀ p ∈ tl, ∀ q ∈ Z, @LT.lt Nat _ q.1 p.1) → (∀ p ∈ tl ++ Z, @Ne Nat p.1 pl) → (∀ p ∈ tl ++ Z, @Ne Nat p.1 cc) → (∀ p ∈ tl ++ Z, @Ne Nat p.1 fg) → (∀ p ∈ tl ++ Z, @Ne Nat p.1 hl) → (∀ p ∈ tl ++ Z, @Ne Nat p.1 I) → (∀ q ∈ mid, ∀ p ∈ tl ++ Z, @Ne Nat p.1 q.1) →
      (tp, ({ cls := .type "tuple", data := .seq #[.ref v, .ref sp] np } : Obj)) ∈ tl → (sp, listOf svs.toArray ns) ∈ tl → IntsAre svs (ls.map fun i : Nat => (i : Int)) → Val w xs tl (.ref v) ls k →
      ls.length + 1 ≤ BB d ∧ k + 3 ≤ 2 * BB d → (∀ i ∈ ls, i < xs.length) → Q (.ref tp) { s with heap := h', toks := tk' }) :
    wpAny (model PySem.Challenge.rw_nz0470_01.row.prog w) (ktrTop dp un gd cn cs L a ccd cl outer) (call (.ref 319) [.ref pl, .ref hl, .int deep td]) Q E s := by
  have N1 : News h₀ L s.heap ((pl, o) :: (fg, fo) :: (hl, listOf (xs.map Value.ref).toArray nh) :: ((I, oi) :: (cc, oc) :: (mid ++ Z))) := fun p hp => N p (by
    simp only [List.mem_cons, List.mem_append] at hp ⊢
    rcases hp with h | h | h | h | h | h | h <;> simp [h])
  have hR : ∀ p ∈ ((I, oi) :: (cc, oc) :: (mid ++ Z) : Led), @Ne Nat p.1 pl := by
    intro p hp
    rcases List.mem_cons.mp hp with rfl | hp
    · exact h3.symm
    rcases List.mem_cons.mp hp with rfl | hp
    · exact h4.symm
    rcases List.mem_append.mp hp with hp | hp
    · exact h5 p hp
    · exact hZ p hp
  refine value_use B F X N1 T hk C hdp hun hP h1 h2 hR hx0 hx6 hdeep fun tp sp v svs np ns ls k tl o' h' tk' F' N' P' _ habv htp hsp hints hval hlen hlt => ?_
  refine ret tp sp v svs np ns ls k tl o' h' tk' F' (fun p hp => N' p ?_) P' (fun p hp => ?_) (fun p hp q hq => ?_) (fun p hp q hq => ?_) (app_ne (fun p hp => (habv p hp).1) hZ) (app_ne (fun p hp => (habv p hp).2.2.2 (cc, oc) (.tail _ (.head _))) g1) (app_ne (fun p hp => (habv p hp).2.1) g2) (app_ne (fun p hp => (habv p hp).2.2.1) g3) (app_ne (fun p hp => (habv p hp).2.2.2 (I, oi) (.head _)) g4) (fun q hq => app_ne (fun p hp => (habv p hp).2.2.2 q (.tail _ (.tail _ (List.mem_append_left _ hq)))) (g5 q hq)) htp hsp hints hval hlen hlt
  · simp only [List.mem_cons, List.mem_append] at hp ⊢
    rcases hp with h | h | h | h | h | h | h | h <;> simp [h]
  · obtain ⟨a1, a2, a3, a4⟩ := habv p hp
    exact ⟨a4 (I, oi) (.head _), a4 (cc, oc) (.tail _ (.head _)), a1, a2, a3⟩
  · exact (habv p hp).2.2.2 q (.tail _ (.tail _ (List.mem_append_left _ hq)))
  · exact (habv p hp).2.2.2 q (.tail _ (.tail _ (List.mem_append_right _ hq)))
section
variable {prog : Program} {w : World} {A : Around} {E : Value → Shared → Prop} {s : Shared} {value slice : PySem.Expr}
theorem ab_item {t u : Tok} {k : Int} {Q : Value → Shared → Prop} (h0 : 0 ≤ k) (h1 : k < 2)
    (h : ∀ nm, nm = Str.ofString "a" ∨ nm = Str.ofString "b" → Q (.str nm s.toks) { s with toks := s.toks + 1 })
    (hs : subscripted slice false (.str (Str.ofString "ab") t) (.int k u) = operate [.str (Str.ofString "ab") t, .int k u] (getItem (.str (Str.ofString "ab") t) (.int k u)))
    (ht : ∀ r, letTemporaryGo value (.str (Str.ofString "ab") t) r = pure ()) :
    wpAny (model prog w) A (subscriptTail value slice (.str (Str.ofString "ab") t) (.int k u)) Q E s := by
  have e2 : (Str.ofString "ab").length = 2 := by decide
  have hk : k = 0 ∨ k = 1 := by omega
  rcases hk with rfl | rfl
  · exact item_str (by decide) (by rw [e2]; decide) (by rw [e2]; decide) (fun _ => h _ (.inl (by decide))) hs ht
  · exact item_str (by decide) (by rw [e2]; decide) (by rw [e2]; decide) (fun _ => h _ (.inr (by decide))) hs ht
end
/-- the state between the turns of the second loop -/
structure Open2 (w : World) (cc pl fg hl wl : Nat) (fo : Obj) (xs ws : List Nat) (recs : List Rec) (o : Obj) (V Z : Led) : Prop where
  hx : recs.map (·.x) = xs
  hw : recs.map (·.wy) = ws
  pool : PObj pl fg fo o
  cc' : ∀ p ∈ Z, @Ne Nat p.1 cc
  pl' : ∀ p ∈ Z, @Ne Nat p.1 pl
  fg' : ∀ p ∈ Z, @Ne Nat p.1 fg
  hl' : ∀ p ∈ Z, @Ne Nat p.1 hl
  wl' : ∀ p ∈ Z, @Ne Nat p.1 wl
  env : ∀ (j : Nat) (r : Rec), recs[j]? = some r → EnvG w xs V Z j r
  nd : (recs.flatMap Rec.ads).Nodup
  old : ∀ a ∈ recs.flatMap Rec.ads, ∃ o, (a, o) ∈ Z
  sub : ∀ p ∈ V, p ∈ Z
  off : ∀ p ∈ V, p.1 ∉ recs.flatMap Rec.ads
theorem Open1.to2 {w : World} {cc pl fg hl wl : Nat} {fo o : Obj} {i : Nat} {recs : List Rec} {Z : Led} (H : Open1 w cc pl fg hl wl fo i recs o Z) : Open2 w cc pl fg hl wl fo (recs.map (·.x)) (recs.map (·.wy)) recs o [] Z :=
  ⟨rfl, rfl, H.pool, H.cc', H.pl', H.fg', H.hl', H.wl', H.env, H.nd, H.old, (fun _ h => nomatch h), (fun _ h => nomatch h)⟩
abbrev St2 := List Rec × Obj × Nat × Led × Led
def led3 (cc pl fg hl wl : Nat) (oc fo : Obj) (xs ws : List Nat) (nh : Nat) (c : St2) : Led := (cc, oc) :: (pl, c.2.1) :: (fg, fo) :: (hl, listOf (xs.map Value.ref).toArray nh) :: (wl, listOf (ws.map Value.ref).toArray c.2.2.1) :: c.2.2.2.2
abbrev st2names : List Str := [Str.ofString "step", Str.ofString "spot", Str.ofString "value", Str.ofString "more", Str.ofString "name"]
def Turn2 (w : World) (h₀ : Heap) (L : Addr) (cc pl fg hl wl : Nat) (oc fo : Obj) (xs ws : List Nat) (nh : Nat) (m₀ : Str → Option Value) (I : Nat) (oi : Obj) (s₁ : Shared) (f : Flow) (s₂ : Shared) : Prop :=
  StEnd h₀ L (led3 cc pl fg hl wl oc fo xs ws nh) (fun c => Open2 w cc pl fg hl wl fo xs ws c.1 c.2.1 c.2.2.2.1 c.2.2.2.2) st2names m₀ I oi s₁ f s₂
section
variable {prog : Program} {w : World} {A : Around} {E : Value → Shared → Prop} {s : Shared} {env : Env} {h₀ : Heap} {x : Str} {body : List Stmt} {Q : Flow → Shared → Prop}
theorem loop2 {r : Addr} {b₀ : Int} {t₀ u₀ v₀ : Tok} {m₀ : Str → Option Value} {cc pl fg hl wl nh nw i : Nat} {oc fo o o' : Obj} {recs : List Rec} {Z : Led}
    (hh : A.handled = none) (hr : IsRange s.heap r 0 b₀ 1 t₀ u₀ v₀) (hb0 : 0 ≤ b₀) (hb1 : b₀ < 1000) (F : Fr h₀ env.locals s.heap m₀) (H : Open1 w cc pl fg hl wl fo i recs o Z) (P : PObj pl fg fo o')
    (N : News h₀ env.locals s.heap ((cc, oc) :: (pl, o') :: (fg, fo) :: (hl, listOf (xsOf recs).toArray nh) :: (wl, listOf (wsOf recs).toArray nw) :: Z))
    (turn : ∀ recs' o nw V Z u (j : Nat) tx h tk (I : Nat) oi, Open2 w cc pl fg hl wl fo (recs.map (·.x)) (recs.map (·.wy)) recs' o V Z → recs'.length = i → @Ne Nat cc I → @Ne Nat pl I → @Ne Nat fg I → @Ne Nat hl I → @Ne Nat wl I → (∀ p ∈ Z, @Ne Nat p.1 I) → Fr h₀ env.locals h (fun y => if y = x then some (.int (j : Int) tx) else stF st2names u m₀ y) →
      News h₀ env.locals h ((I, oi) :: (cc, oc) :: (pl, o) :: (fg, fo) :: (hl, listOf ((recs.map (·.x)).map Value.ref).toArray nh) :: (wl, listOf ((recs.map (·.wy)).map Value.ref).toArray nw) :: Z) →
      wpAny (model prog w) A (execs body env) (Turn2 w h₀ env.locals cc pl fg hl wl oc fo (recs.map (·.x)) (recs.map (·.wy)) nh m₀ I oi { s with heap := h, toks := tk }) E { s with heap := h, toks := tk })
    (done : ∀ recs' o nw V Z u h tk, Open2 w cc pl fg hl wl fo (recs.map (·.x)) (recs.map (·.wy)) recs' o V Z → recs'.length = i → Fr h₀ env.locals h (stF st2names u m₀) →
      News h₀ env.locals h ((cc, oc) :: (pl, o) :: (fg, fo) :: (hl, listOf ((recs.map (·.x)).map Value.ref).toArray nh) :: (wl, listOf ((recs.map (·.wy)).map Value.ref).toArray nw) :: Z) → Q .next { s with heap := h, toks := tk }) :
    wpAny (model prog w) A (pyIter (.ref r)) (fun it s₂ => LoopAtV prog w A h₀ env x body Q E it s₂) E s := by
  have hlen : ∀ {recs' : List Rec} {o V Z}, Open2 w cc pl fg hl wl fo (recs.map (·.x)) (recs.map (·.wy)) recs' o V Z → recs'.length = i := fun K => by
    have := congrArg List.length K.hx
    rw [List.length_map, List.length_map] at this
    rw [this, H.len]
  have H2 := H.to2
  have K2 : Open2 w cc pl fg hl wl fo (recs.map (·.x)) (recs.map (·.wy)) recs o' [] Z := { H2 with pool := P }
  refine range_state (led3 cc pl fg hl wl oc fo (recs.map (·.x)) (recs.map (·.wy)) nh) (fun _ c => Open2 w cc pl fg hl wl fo (recs.map (·.x)) (recs.map (·.wy)) c.1 c.2.1 c.2.2.2.1 c.2.2.2.2) st2names (recs, o', nw, [], Z) hh hr (small0 hb0 hb1) (size0 hb0) F N ?_ K2 ?_ ?_
  · intro p hp
    simp only [led3, List.map_map] at hp
    exact hp
  · rintro j ⟨recs', o, nw, V, Z⟩ u tx h tk I oi hi hO hne F' N'
    rw [Int.zero_add] at F'
    exact turn recs' o nw V Z u j tx h tk I oi hO (hlen hO) (hne _ (.head _)) (hne _ (.tail _ (.head _))) (hne _ (.tail _ (.tail _ (.head _)))) (hne _ (.tail _ (.tail _ (.tail _ (.head _))))) (hne _ (.tail _ (.tail _ (.tail _ (.tail _ (.head _)))))) (fun p hp => hne p (.tail _ (.tail _ (.tail _ (.tail _ (.tail _ hp)))))) F' N'
  · rintro ⟨recs', o, nw, V, Z⟩ u h tk hO F' N'
    exact done recs' o nw V Z u h tk hO (hlen hO) F' N'
end
section
variable {prog : Program} {w : World} {A : Around} {E : Value → Shared → Prop} {s : Shared} {h₀ : Heap} {L l : Addr} {news : Led}
theorem rec2 {I cc pl fg hl wl : Nat} {oi fo o : Obj} {xs ws : List Nat} {recs : List Rec} {V Z : Led} {nh : Nat} {value slice : PySem.Expr} {k : Int} {u : Tok} {Q : Value → Shared → Prop} (H : Open2 w cc pl fg hl wl fo xs ws recs o V Z) (N : News h₀ L s.heap ((I, oi) :: news)) (hI : ∀ p ∈ Z, @Ne Nat p.1 I) (hm : (l, listOf (xs.map Value.ref).toArray nh) ∈ (I, oi) :: news) (h0 : 0 ≤ k) (h1 : k < (xs.length : Int)) (h2 : k < 1000)
    (h : ∀ r : Rec, recs[k.toNat]? = some r → EnvG w xs V Z k.toNat r → (r.fr ≠ I ∧ r.fr ≠ cc ∧ r.fr ≠ pl ∧ r.fr ≠ fg ∧ r.fr ≠ hl ∧ r.fr ≠ wl) → (r.wy ≠ r.fr ∧ r.wy ≠ I ∧ r.wy ≠ cc ∧ r.wy ≠ pl ∧ r.wy ≠ fg ∧ r.wy ≠ hl ∧ r.wy ≠ wl) → Q (.ref r.x) s)
    (hs : subscripted slice false (.ref l) (.int k u) = operate [.ref l, .int k u] (getItem (.ref l) (.int k u)) := by with_unfolding_all rfl) :
    wpAny (model prog w) A (subscriptTail value slice (.ref l) (.int k u)) Q E s := by
  have hx := H.hx
  have hlen : recs.length = xs.length := by rw [← hx, List.length_map]
  have hk : k.toNat < recs.length := by omega
  have e : recs[k.toNat]? = some recs[k.toNat] := List.getElem?_eq_getElem hk
  have hE := H.env _ _ e
  obtain ⟨od, hfr, _, _⟩ := hE.frame
  obtain ⟨svs, ns, hw, _⟩ := hE.way
  have hnd := (List.pairwise_flatMap.mp H.nd).1 _ (List.mem_of_getElem? e)
  have hne : recs[k.toNat].wy ≠ recs[k.toNat].fr := by
    simp only [Rec.ads, List.pairwise_cons, List.mem_cons, List.not_mem_nil, or_false] at hnd
    exact fun q => hnd.2.2.1 _ rfl q.symm
  refine item_at N hm h0 h2 (v := .ref recs[k.toNat].x) ?_ (h _ e hE ⟨hI _ hfr, H.cc' _ hfr, H.pl' _ hfr, H.fg' _ hfr, H.hl' _ hfr, H.wl' _ hfr⟩ ⟨hne, hI _ hw, H.cc' _ hw, H.pl' _ hw, H.fg' _ hw, H.hl' _ hw, H.wl' _ hw⟩) hs
  rw [← hx]
  simp [e]
theorem way2 {cc pl fg hl wl : Nat} {fo o : Obj} {xs ws : List Nat} {recs : List Rec} {V Z : Led} {nw : Nat} {value slice : PySem.Expr} {k : Int} {u : Tok} {r : Rec} {Q : Value → Shared → Prop} (H : Open2 w cc pl fg hl wl fo xs ws recs o V Z) (hr : recs[k.toNat]? = some r) (N : News h₀ L s.heap news) (hm : (l, listOf (ws.map Value.ref).toArray nw) ∈ news) (h0 : 0 ≤ k) (h2 : k < 1000)
    (h : ws[k.toNat]? = some r.wy → Q (.ref r.wy) s)
    (hs : subscripted slice false (.ref l) (.int k u) = operate [.ref l, .int k u] (getItem (.ref l) (.int k u)) := by with_unfolding_all rfl) :
    wpAny (model prog w) A (subscriptTail value slice (.ref l) (.int k u)) Q E s := by
  have hw := H.hw
  have ew : ws[k.toNat]? = some r.wy := by rw [← hw]; simp [hr]
  refine item_at N hm h0 h2 (v := .ref r.wy) ?_ (h ew) hs
  rw [List.getElem?_map, ew]
  rfl
theorem way3 {cc pl fg hl wl : Nat} {fo o : Obj} {xs ws : List Nat} {recs : List Rec} {V Z : Led} {nw : Nat} {k : Int} {u : Tok} {r : Rec} {Q : Value → Shared → Prop} (H : Open2 w cc pl fg hl wl fo xs ws recs o V Z) (hr : recs[k.toNat]? = some r) (N : News h₀ L s.heap news) (hm : (l, listOf (ws.map Value.ref).toArray nw) ∈ news) (h0 : 0 ≤ k) (h2 : k < 1000)
    (h : ws[k.toNat]? = some r.wy → Q (.ref r.wy) s) : wpAny (model prog w) A (getItem (.ref l) (.int k u)) Q E s := by
  have hw := H.hw
  have ew : ws[k.toNat]? = some r.wy := by rw [← hw]; simp [hr]
  have hl' : s.heap.IsList l (ws.map Value.ref).toArray := ⟨_, (N _ hm).1, rfl, nw, rfl⟩
  refine wpAny_getItem_list hl' h0 (by omega) (x := .ref r.wy) ?_ (h ew)
  have : (ws.map Value.ref)[k.toNat]? = some (.ref r.wy) := by rw [List.getElem?_map, ew]; rfl
  simpa using this
theorem rec3 {cc pl fg hl wl : Nat} {fo o : Obj} {xs ws : List Nat} {recs : List Rec} {V Z : Led} {nh : Nat} {value slice : PySem.Expr} {k : Int} {u : Tok} {r : Rec} {Q : Value → Shared → Prop} (H : Open2 w cc pl fg hl wl fo xs ws recs o V Z) (hr : recs[k.toNat]? = some r) (N : News h₀ L s.heap news) (hm : (l, listOf (xs.map Value.ref).toArray nh) ∈ news) (h0 : 0 ≤ k) (h2 : k < 1000)
    (h : Q (.ref r.x) s)
    (hs : subscripted slice false (.ref l) (.int k u) = operate [.ref l, .int k u] (getItem (.ref l) (.int k u)) := by with_unfolding_all rfl) :
    wpAny (model prog w) A (subscriptTail value slice (.ref l) (.int k u)) Q E s := by
  have hx := H.hx
  have ew : xs[k.toNat]? = some r.x := by rw [← hx]; simp [hr]
  refine item_at N hm h0 h2 (v := .ref r.x) ?_ h hs
  rw [List.getElem?_map, ew]
  rfl
theorem set_way {ws : List Nat} {n wy : Nat} {k : Int} {t : Tok} {m : Str → Option Value} {Q : Unit → Shared → Prop} (F : Fr h₀ L s.heap m) (N : News h₀ L s.heap news) (h0 : 0 ≤ k) (h1 : k < 1000) (e : ws[k.toNat]? = some wy) (U : Upd l (listOf (ws.map Value.ref).toArray n) (listOf (ws.map Value.ref).toArray n) news news)
    (h : ∀ h', Fr h₀ L h' m → News h₀ L h' news → Q () { s with heap := h' }) : wpAny (model prog w) A (setItem (.ref l) (.int k t) (.ref wy)) Q E s :=
  set_same F N h0 h1 (by rw [List.getElem?_map, e]; rfl) U h
end
theorem EnvG.einst {w : World} {xs : List Nat} {V Z : Led} {j : Nat} {r : Rec} (h : EnvG w xs V Z j r) : EInst Z r.x (10 + 3 * (j : Int)) (parV xs r.par) .none r.fr := by
  obtain ⟨t, tn, lk, hs, n, hf⟩ := h.flds
  exact ⟨t, tn, lk, r.dx, hs, n, h.inst, hf⟩
theorem EnvG.frameGet {w : World} {xs : List Nat} {V Z : Led} {j : Nat} {r : Rec} (h : EnvG w xs V Z j r) : True ∧ GetOk w Z r.x (Str.ofString "frame") (.ref r.fr) := ⟨trivial, eframe_ok w h.einst⟩
theorem two_keys {a b : Str} : ∀ {l : List Str}, l.Nodup → (∀ x ∈ l, x = a ∨ x = b) → l.length ≤ 2
  | [], _, _ => by decide
  | [_], _, _ => by simp
  | [_, _], _, _ => by simp
  | x :: y :: z :: r, hn, h => by
    have hx := h x (by simp)
    have hy := h y (by simp)
    have hz := h z (by simp)
    simp only [List.nodup_cons, List.mem_cons, not_or] at hn
    obtain ⟨⟨h1, h2, _⟩, ⟨h3, _⟩, _⟩ := hn
    rcases hx with rfl | rfl <;> rcases hy with rfl | rfl <;> rcases hz with rfl | rfl <;> simp_all
theorem EnvG.keys2 {w : World} {xs : List Nat} {V Z : Led} {j : Nat} {r : Rec} (h : EnvG w xs V Z j r) : r.kvs.length ≤ 2 := by
  obtain ⟨od, _, _, hd⟩ := h.frame
  obtain ⟨_, _, _, _, _, _, hn⟩ := hd
  have := two_keys (a := Str.ofString "a") (b := Str.ofString "b") hn fun x hx => by
    obtain ⟨p, hp, rfl⟩ := List.mem_map.mp hx
    exact h.keys p hp
  rwa [List.length_map] at this
theorem EnvG.lsLen {w : World} {xs : List Nat} {V Z : Led} {j : Nat} {r : Rec} (h : EnvG w xs V Z j r) : r.ls.length ≤ 33 := by
  have h1 := h.len
  have h2 := h.keys2
  have h3 := congrArg List.length h.vals
  rw [List.length_map, List.length_map] at h3
  omega
theorem EnvG.move {w : World} {xs : List Nat} {V V' Z Z' : Led} {j : Nat} {r : Rec} (h : EnvG w xs V Z j r) (hV : ∀ p ∈ V, p ∈ V') (hZ : ∀ p ∈ Z, p.1 ∈ r.ads → p ∈ Z') : EnvG w xs V' Z' j r := by
  obtain ⟨t, tn, lk, hs, n, hf⟩ := h.flds
  obtain ⟨svs, ns, hw, hi⟩ := h.way
  obtain ⟨od, ho, lo, hd⟩ := h.frame
  exact ⟨hZ _ h.inst (by simp [Rec.ads]), ⟨t, tn, lk, hs, n, hZ _ hf (by simp [Rec.ads])⟩, ⟨od, hZ _ ho (by simp [Rec.ads]), lo, hd⟩, ⟨svs, ns, hZ _ hw (by simp [Rec.ads]), hi⟩, h.vals, h.keys, fun t ht => ⟨(h.its t ht).1.mono hV, (h.its t ht).2⟩, h.par, h.ls, h.lt, h.len⟩
theorem ads_off {recs : List Rec} (hn : (recs.flatMap Rec.ads).Nodup) {j k : Nat} {r r' : Rec} (hj : recs[j]? = some r) (hk : recs[k]? = some r') (hne : j ≠ k) {a : Nat} (ha : a ∈ r.ads) : a ∉ r'.ads := by
  have h2 := (List.pairwise_flatMap.mp hn).2
  rw [List.pairwise_iff_getElem] at h2
  obtain ⟨lj, ej⟩ := List.getElem?_eq_some_iff.mp hj
  obtain ⟨lk, ek⟩ := List.getElem?_eq_some_iff.mp hk
  intro hb
  rcases Nat.lt_or_gt_of_ne hne with h | h
  · exact h2 j k lj lk h a (ej ▸ ha) a (ek ▸ hb) rfl
  · exact h2 k j lk lj h a (ek ▸ hb) a (ej ▸ ha) rfl
theorem ads_nd {recs : List Rec} (hn : (recs.flatMap Rec.ads).Nodup) {k : Nat} {r : Rec} (hk : recs[k]? = some r) : r.ads.Nodup := (List.pairwise_flatMap.mp hn).1 r (List.mem_of_getElem? hk)
theorem ads_set {recs : List Rec} {k : Nat} {r r' : Rec} (hk : recs[k]? = some r) (e : r'.ads = r.ads) : (recs.set k r').flatMap Rec.ads = recs.flatMap Rec.ads := by
  rw [List.flatMap_def, List.flatMap_def, List.map_set, e]
  congr 1
  apply List.ext_getElem?
  intro i
  rw [List.getElem?_set]
  split
  · subst_vars
    obtain ⟨l, e2⟩ := List.getElem?_eq_some_iff.mp hk
    simp [l, e2]
  · rfl
theorem map_same {α : Type} {f : Rec → α} {recs : List Rec} {k : Nat} {r r' : Rec} (hk : recs[k]? = some r) (e : f r' = f r) : (recs.set k r').map f = recs.map f := by
  rw [List.map_set, e]
  apply List.ext_getElem?
  intro i
  rw [List.getElem?_set]
  split
  · subst_vars
    obtain ⟨l, e2⟩ := List.getElem?_eq_some_iff.mp hk
    simp [l, e2]
  · rfl
/-- a value was made and dropped -/
theorem Open2.keep {w : World} {cc pl fg hl wl : Nat} {fo o o' : Obj} {xs ws : List Nat} {recs : List Rec} {V Z tl : Led} (H : Open2 w cc pl fg hl wl fo xs ws recs o V Z) (P : PObj pl fg fo o')
    (r1 : ∀ p ∈ tl ++ Z, @Ne Nat p.1 pl) (r2 : ∀ p ∈ tl ++ Z, @Ne Nat p.1 cc) (r3 : ∀ p ∈ tl ++ Z, @Ne Nat p.1 fg) (r4 : ∀ p ∈ tl ++ Z, @Ne Nat p.1 hl) (r6 : ∀ p ∈ tl ++ Z, @Ne Nat p.1 wl) : Open2 w cc pl fg hl wl fo xs ws recs o' V (tl ++ Z) :=
  ⟨H.hx, H.hw, P, r2, r1, r3, r4, r6, fun j r hj => (H.env j r hj).move (fun _ h => h) fun p hp _ => List.mem_append_right _ hp, H.nd, fun a ha => let ⟨o, h⟩ := H.old a ha; ⟨o, List.mem_append_right _ h⟩, fun p hp => List.mem_append_right _ (H.sub p hp), H.off⟩
/-- a value was made and stored -/
theorem Open2.put {w : World} {cc pl fg hl wl : Nat} {fo o o' : Obj} {xs ws : List Nat} {recs : List Rec} {V Z tl : Led} (H : Open2 w cc pl fg hl wl fo xs ws recs o V Z) (P : PObj pl fg fo o')
    (r1 : ∀ p ∈ tl ++ Z, @Ne Nat p.1 pl) (r2 : ∀ p ∈ tl ++ Z, @Ne Nat p.1 cc) (r3 : ∀ p ∈ tl ++ Z, @Ne Nat p.1 fg) (r4 : ∀ p ∈ tl ++ Z, @Ne Nat p.1 hl) (r6 : ∀ p ∈ tl ++ Z, @Ne Nat p.1 wl) (b3 : ∀ p ∈ tl, ∀ q ∈ Z, @LT.lt Nat _ q.1 p.1)
    {k : Nat} {r : Rec} (hr : recs[k]? = some r) {nm : Str} {v : Nat} {ls : List Nat} {kk : Nat} (hnm : nm = Str.ofString "a" ∨ nm = Str.ofString "b") (hval : Val w xs tl (.ref v) ls kk) (hlen : ls.length + 1 ≤ BB 3 ∧ kk + 3 ≤ 2 * BB 3) (hlt : ∀ i ∈ ls, i < xs.length)
    {of : Obj} (hof : of.IsDictOf (PySem.strKind PySem.Challenge.rw_nz0470_01.row.prog w) (r.kvs ++ [(nm, .ref v)])) {svs svs2 : List Value} {n' ns : Nat} (hw : (r.wy, listOf svs.toArray ns) ∈ Z) (hi1 : IntsAre svs (r.ls.map fun i : Nat => (i : Int))) (hi2 : IntsAre svs2 (ls.map fun i : Nat => (i : Int))) :
    Open2 w cc pl fg hl wl fo xs ws (recs.set k { r with kvs := r.kvs ++ [(nm, .ref v)], its := r.its ++ [(.ref v, ls, kk)], ls := r.ls ++ ls }) o' (tl ++ V) ((r.fr, of) :: (r.wy, listOf (svs ++ svs2).toArray n') :: offL r.wy (offL r.fr (tl ++ Z))) := by
  have hE := H.env k r hr
  have hnd := ads_nd H.nd hr
  simp only [Rec.ads, List.nodup_cons, List.mem_cons, List.not_mem_nil, or_false, not_or, List.nodup_nil, not_false_eq_true, and_true] at hnd
  obtain ⟨⟨x1, x2, x3⟩, ⟨x4, x5⟩, x6⟩ := hnd
  have inZ : ∀ {a : Nat} {oa : Obj}, (a, oa) ∈ Z → a ≠ r.fr → a ≠ r.wy → (a, oa) ∈ ((r.fr, of) :: (r.wy, listOf (svs ++ svs2).toArray n') :: offL r.wy (offL r.fr (tl ++ Z)) : Led) := fun h h1 h2 =>
    .tail _ (.tail _ (mem_offL.mpr ⟨mem_offL.mpr ⟨List.mem_append_right _ h, h1⟩, h2⟩))
  obtain ⟨od, hfr, lo, _⟩ := hE.frame
  have ne : ∀ {b : Nat}, (∀ p ∈ tl ++ Z, @Ne Nat p.1 b) → ∀ p ∈ ((r.fr, of) :: (r.wy, listOf (svs ++ svs2).toArray n') :: offL r.wy (offL r.fr (tl ++ Z)) : Led), @Ne Nat p.1 b := by
    intro b h p hp
    rcases List.mem_cons.mp hp with rfl | hp
    · exact h (r.fr, od) (List.mem_append_right _ hfr)
    rcases List.mem_cons.mp hp with rfl | hp
    · exact h (r.wy, listOf svs.toArray ns) (List.mem_append_right _ hw)
    · exact h p (mem_offL.mp (mem_offL.mp hp).1).1
  have hads : ({ r with kvs := r.kvs ++ [(nm, .ref v)], its := r.its ++ [(.ref v, ls, kk)], ls := r.ls ++ ls } : Rec).ads = r.ads := rfl
  have hfa := ads_set hr hads
  refine ⟨?_, ?_, P, ne r2, ne r1, ne r3, ne r4, ne r6, ?_, ?_, ?_, ?_, ?_⟩
  · rw [← H.hx]; exact map_same (f := fun r : Rec => r.x) hr rfl
  · rw [← H.hw]; exact map_same (f := fun r : Rec => r.wy) hr rfl
  · intro j q hj
    rw [List.getElem?_set] at hj
    split at hj
    · rename_i hjk
      subst hjk
      split at hj
      · cases hj
        obtain ⟨t, tn, lk, hs, n, hf⟩ := hE.flds
        refine ⟨inZ hE.inst x2 x3, ⟨t, tn, lk, hs, n, inZ hf x4 x5⟩, ⟨of, .head _, lo, hof⟩, ⟨svs ++ svs2, n', .tail _ (.head _), ?_⟩, ?_, ?_, ?_, hE.par, ?_, ?_, ?_⟩
        · rw [List.map_append]; exact hi1.append hi2
        · simp [hE.vals]
        · intro p hp
          rcases List.mem_append.mp hp with hp | hp
          · exact hE.keys p hp
          · rw [List.mem_singleton.mp hp]; exact hnm
        · intro t ht
          rcases List.mem_append.mp ht with ht | ht
          · exact ⟨(hE.its t ht).1.mono fun p hp => List.mem_append_right _ hp, (hE.its t ht).2⟩
          · rw [List.mem_singleton.mp ht]
            refine ⟨hval.mono fun p hp => List.mem_append_left _ hp, ?_⟩
            have : BB 3 = 16 := rfl
            show kk ≤ 29
            omega
        · intro i
          show i ∈ r.ls ++ ls ↔ r.par = some i ∨ i ∈ spots (r.its ++ [(.ref v, ls, kk)])
          rw [List.mem_append, hE.ls i, spots_app, List.mem_append]
          simp only [spots, List.flatMap_cons, List.flatMap_nil, List.append_nil]
          exact or_assoc
        · intro i hi
          rcases List.mem_append.mp hi with hi | hi
          · exact hE.lt i hi
          · exact hlt i hi
        · have h1 := hE.len
          have : BB 3 = 16 := rfl
          show (r.ls ++ ls).length ≤ 1 + 16 * (r.its ++ [(Value.ref v, ls, kk)]).length
          simp only [List.length_append, List.length_cons, List.length_nil]
          omega
      · cases hj
    · rename_i hjk
      refine (H.env j q hj).move (fun p hp => List.mem_append_right _ hp) fun p hp ha => ?_
      have hoff := ads_off H.nd hj hr (Ne.symm hjk) ha
      simp only [Rec.ads, List.mem_cons, List.not_mem_nil, or_false, not_or] at hoff
      exact inZ hp hoff.2.2.1 hoff.2.2.2
  · rw [hfa]; exact H.nd
  · intro a ha
    rw [hfa] at ha
    by_cases h1 : a = r.fr
    · subst h1; exact ⟨_, .head _⟩
    by_cases h2 : a = r.wy
    · subst h2; exact ⟨_, .tail _ (.head _)⟩
    obtain ⟨oa, h3⟩ := H.old a ha
    exact ⟨oa, inZ h3 h1 h2⟩
  · intro p hp
    have hrin : ∀ a, a ∈ r.ads → a ∈ recs.flatMap Rec.ads := fun a ha => List.mem_flatMap.mpr ⟨r, List.mem_of_getElem? hr, ha⟩
    rcases List.mem_append.mp hp with hp | hp
    · have l1 := b3 p hp _ hfr
      have l2 := b3 p hp _ hw
      refine .tail _ (.tail _ (mem_offL.mpr ⟨mem_offL.mpr ⟨List.mem_append_left _ hp, ?_⟩, ?_⟩))
      · exact Nat.ne_of_gt l1
      · exact Nat.ne_of_gt l2
    · have h0 := H.off p hp
      refine .tail _ (.tail _ (mem_offL.mpr ⟨mem_offL.mpr ⟨List.mem_append_right _ (H.sub p hp), ?_⟩, ?_⟩))
      · intro e
        exact h0 (hrin _ (by rw [e]; simp [Rec.ads]))
      · intro e
        exact h0 (hrin _ (by rw [e]; simp [Rec.ads]))
  · intro p hp
    rw [hfa]
    rcases List.mem_append.mp hp with hp | hp
    · intro ha
      obtain ⟨oa, h3⟩ := H.old _ ha
      exact absurd (b3 p hp _ h3) (Nat.lt_irrefl _)
    · exact H.off p hp
section
variable {prog : Program} {w : World} {A : Around} {E : Value → Shared → Prop} {s : Shared} {h₀ : Heap} {L : Addr} {m : Str → Option Value}
/-- the way's list grows -/
theorem way_iadd {I cc pl fg hl wl fr wy sp ns ns2 : Nat} {oi oc o fo ohl owl of od : Obj} {tl Z : Led} {svs svs2 : List Value} {Q : Value → Shared → Prop} (F : Fr h₀ L s.heap m)
    (N : News h₀ L s.heap ((I, oi) :: (cc, oc) :: (pl, o) :: (fg, fo) :: (hl, ohl) :: (wl, owl) :: (fr, of) :: offL fr (tl ++ Z))) (hw : (wy, listOf svs.toArray ns) ∈ Z) (hs : (sp, listOf svs2.toArray ns2) ∈ tl) (b3 : ∀ p ∈ tl, ∀ q ∈ Z, @LT.lt Nat _ q.1 p.1) (hfr : (fr, od) ∈ Z)
    (hne : wy ≠ fr ∧ wy ≠ I ∧ wy ≠ cc ∧ wy ≠ pl ∧ wy ≠ fg ∧ wy ≠ hl ∧ wy ≠ wl) (hz : svs.length + svs2.length ≤ 100000) (r6 : ∀ p ∈ tl ++ Z, @Ne Nat p.1 wl)
    (h : ∀ n' h', (∀ p ∈ offL wy (offL fr (tl ++ Z)), @Ne Nat p.1 wl) → Fr h₀ L h' m → News h₀ L h' ((I, oi) :: (cc, oc) :: (pl, o) :: (fg, fo) :: (hl, ohl) :: (wl, owl) :: (fr, of) :: (wy, listOf (svs ++ svs2).toArray n') :: offL wy (offL fr (tl ++ Z))) → Q (.ref wy) { s with heap := h' }) :
    wpAny (model prog w) A (inplaceOp .Add (.ref wy) (.ref sp)) Q E s := by
  obtain ⟨e0, e1, e2, e3, e4, e5, e6⟩ := hne
  have l1 := b3 _ hs _ hw
  have l2 := b3 _ hs _ hfr
  refine iadd_mid [(I, oi), (cc, oc), (pl, o), (fg, fo), (hl, ohl), (wl, owl), (fr, of)] (offL fr (tl ++ Z)) F N (mem_offL.mpr ⟨List.mem_append_right _ hw, e0⟩) (mem_offL.mpr ⟨List.mem_append_left _ hs, Nat.ne_of_gt l2⟩) (Nat.ne_of_gt l1) ?_ hz fun n' h' F' N' => h n' h' (fun p hp => r6 p (mem_offL.mp (mem_offL.mp hp).1).1) F' N'
  intro p hp
  simp only [List.mem_cons, List.not_mem_nil, or_false] at hp
  rcases hp with rfl | rfl | rfl | rfl | rfl | rfl | rfl
  · exact e1.symm
  · exact e2.symm
  · exact e3.symm
  · exact e4.symm
  · exact e5.symm
  · exact e6.symm
  · exact e0.symm
end
theorem turn2_keep {w : World} {h₀ : Heap} {L : Addr} {I cc pl fg hl wl nh nw tk : Nat} {oi oc fo o o' : Obj} {xs ws : List Nat} {recs : List Rec} {V Z tl : Led} {m₀ m' : Str → Option Value} {s₁ : Shared} {h' : Heap} (H : Open2 w cc pl fg hl wl fo xs ws recs o V Z) (P : PObj pl fg fo o') (F : Fr h₀ L h' m')
    (N : News h₀ L h' ((I, oi) :: (cc, oc) :: (pl, o') :: (fg, fo) :: (hl, listOf (xs.map Value.ref).toArray nh) :: (wl, listOf (ws.map Value.ref).toArray nw) :: (tl ++ Z))) (n1 : @Ne Nat cc I) (n2 : @Ne Nat pl I) (n3 : @Ne Nat fg I) (n4 : @Ne Nat hl I) (n5 : @Ne Nat wl I)
    (r1 : ∀ p ∈ tl ++ Z, @Ne Nat p.1 pl) (r2 : ∀ p ∈ tl ++ Z, @Ne Nat p.1 cc) (r3 : ∀ p ∈ tl ++ Z, @Ne Nat p.1 fg) (r4 : ∀ p ∈ tl ++ Z, @Ne Nat p.1 hl) (r5 : ∀ p ∈ tl ++ Z, @Ne Nat p.1 I) (r6 : ∀ p ∈ tl ++ Z, @Ne Nat p.1 wl)
    (hm : ∀ y, st2names.contains y = false → m' y = m₀ y) : Turn2 w h₀ L cc pl fg hl wl oc fo xs ws nh m₀ I oi s₁ .next { s₁ with heap := h', toks := tk } := by
  refine StEnd.intro (recs, o', nw, V, tl ++ Z) F N (.head _) (fun p hp => .tail _ hp) (fun p hp => ?_) (H.keep P r1 r2 r3 r4 r6) hm
  simp only [led3] at hp
  rcases List.mem_cons.mp hp with rfl | hp
  · exact n1
  rcases List.mem_cons.mp hp with rfl | hp
  · exact n2
  rcases List.mem_cons.mp hp with rfl | hp
  · exact n3
  rcases List.mem_cons.mp hp with rfl | hp
  · exact n4
  rcases List.mem_cons.mp hp with rfl | hp
  · exact n5
  · exact r5 p hp
theorem turn2_put {w : World} {h₀ : Heap} {L : Addr} {I cc pl fg hl wl nh nw tk : Nat} {oi oc fo o o' : Obj} {xs ws : List Nat} {recs : List Rec} {V Z tl : Led} {m₀ m' : Str → Option Value} {s₁ : Shared} {h' : Heap} (H : Open2 w cc pl fg hl wl fo xs ws recs o V Z) (P : PObj pl fg fo o') (F : Fr h₀ L h' m')
    {k : Nat} {r : Rec} (hr : recs[k]? = some r) {nm : Str} {v n' ns : Nat} {ls : List Nat} {kk : Nat} {of : Obj} {svs svs2 : List Value}
    (N : News h₀ L h' ((I, oi) :: (cc, oc) :: (pl, o') :: (fg, fo) :: (hl, listOf (xs.map Value.ref).toArray nh) :: (wl, listOf (ws.map Value.ref).toArray nw) :: (r.fr, of) :: (r.wy, listOf (svs ++ svs2).toArray n') :: offL r.wy (offL r.fr (tl ++ Z)))) (n1 : @Ne Nat cc I) (n2 : @Ne Nat pl I) (n3 : @Ne Nat fg I) (n4 : @Ne Nat hl I) (n5 : @Ne Nat wl I)
    (r1 : ∀ p ∈ tl ++ Z, @Ne Nat p.1 pl) (r2 : ∀ p ∈ tl ++ Z, @Ne Nat p.1 cc) (r3 : ∀ p ∈ tl ++ Z, @Ne Nat p.1 fg) (r4 : ∀ p ∈ tl ++ Z, @Ne Nat p.1 hl) (r5 : ∀ p ∈ tl ++ Z, @Ne Nat p.1 I) (r6 : ∀ p ∈ tl ++ Z, @Ne Nat p.1 wl) (b3 : ∀ p ∈ tl, ∀ q ∈ Z, @LT.lt Nat _ q.1 p.1)
    (hnm : nm = Str.ofString "a" ∨ nm = Str.ofString "b") (hval : Val w xs tl (.ref v) ls kk) (hlen : ls.length + 1 ≤ BB 3 ∧ kk + 3 ≤ 2 * BB 3) (hlt : ∀ i ∈ ls, i < xs.length)
    (hof : of.IsDictOf (PySem.strKind PySem.Challenge.rw_nz0470_01.row.prog w) (r.kvs ++ [(nm, .ref v)])) (hw : (r.wy, listOf svs.toArray ns) ∈ Z) (hi1 : IntsAre svs (r.ls.map fun i : Nat => (i : Int))) (hi2 : IntsAre svs2 (ls.map fun i : Nat => (i : Int)))
    (hm : ∀ y, st2names.contains y = false → m' y = m₀ y) : Turn2 w h₀ L cc pl fg hl wl oc fo xs ws nh m₀ I oi s₁ .next { s₁ with heap := h', toks := tk } := by
  have K := H.put P r1 r2 r3 r4 r6 b3 hr hnm hval hlen hlt hof (n' := n') hw hi1 hi2
  obtain ⟨od, hfr, _, _⟩ := (H.env k r hr).frame
  refine StEnd.intro (_, o', nw, _, _) F N (.head _) (fun p hp => .tail _ hp) (fun p hp => ?_) K hm
  simp only [led3] at hp
  rcases List.mem_cons.mp hp with rfl | hp
  · exact n1
  rcases List.mem_cons.mp hp with rfl | hp
  · exact n2
  rcases List.mem_cons.mp hp with rfl | hp
  · exact n3
  rcases List.mem_cons.mp hp with rfl | hp
  · exact n4
  rcases List.mem_cons.mp hp with rfl | hp
  · exact n5
  rcases List.mem_cons.mp hp with rfl | hp
  · exact r5 (r.fr, od) (List.mem_append_right _ hfr)
  rcases List.mem_cons.mp hp with rfl | hp
  · exact r5 (r.wy, listOf svs.toArray ns) (List.mem_append_right _ hw)
  · exact r5 p (mem_offL.mp (mem_offL.mp hp).1).1
theorem st2_ne {y : Str} (h : st2names.contains y = false) : y ≠ Str.ofString "step" ∧ y ≠ Str.ofString "spot" ∧ y ≠ Str.ofString "value" ∧ y ≠ Str.ofString "more" ∧ y ≠ Str.ofString "name" := by
  refine ⟨?_, ?_, ?_, ?_, ?_⟩ <;> rintro rfl <;> exact absurd h (by decide)
/-- the environments are whole -/
structure Fin (w : World) (cc pl fg hl wl : Nat) (fo : Obj) (xs ws : List Nat) (W : Nat → List Nat) (o : Obj) (Z : Led) : Prop where
  graph : Graph w xs Z W (fun _ => 100)
  num : xs.length = ws.length
  pool : PObj pl fg fo o
  cc' : ∀ p ∈ Z, @Ne Nat p.1 cc
  pl' : ∀ p ∈ Z, @Ne Nat p.1 pl
  fg' : ∀ p ∈ Z, @Ne Nat p.1 fg
  hl' : ∀ p ∈ Z, @Ne Nat p.1 hl
  wl' : ∀ p ∈ Z, @Ne Nat p.1 wl
  way : ∀ (i wy : Nat), ws[i]? = some wy → ∃ svs ns, (wy, listOf (List.toArray svs) ns) ∈ Z ∧ IntsAre svs ((W i).map fun i : Nat => (i : Int))
  lt : ∀ (i j : Nat), j ∈ W i → j < xs.length
  len : ∀ i, (W i).length ≤ 40
theorem weight_le {P : List (Value × List Nat × Nat)} (h : ∀ t ∈ P, t.2.2 ≤ 29) : weight P ≤ 29 * P.length := by
  induction P with
  | nil => exact Nat.le_refl _
  | cons t r ih =>
    have h1 := h t (.head _)
    have h2 := ih fun u hu => h u (.tail _ hu)
    simp only [weight, List.map_cons, List.sum_cons, List.length_cons] at h2 ⊢
    omega
/-- an environment's parts -/
def parIts (xs : List Nat) : Option Nat → List (Value × List Nat × Nat)
  | none => []
  | some q => [(.ref (xs.getD q 0), [q], 1)]
def WOf (recs : List Rec) (i : Nat) : List Nat := (recs[i]?.map (·.ls)).getD []
theorem Open2.fin {w : World} {cc pl fg hl wl : Nat} {fo o o' : Obj} {xs ws : List Nat} {recs : List Rec} {V Z : Led} (H : Open2 w cc pl fg hl wl fo xs ws recs o V Z) (P : PObj pl fg fo o') : Fin w cc pl fg hl wl fo xs ws (WOf recs) o' Z := by
  have hlen : recs.length = xs.length := by rw [← H.hx, List.length_map]
  have hlen2 : recs.length = ws.length := by rw [← H.hw, List.length_map]
  refine ⟨⟨?_⟩, by rw [← hlen, hlen2], P, H.cc', H.pl', H.fg', H.hl', H.wl', ?_, ?_, ?_⟩
  · intro i x hx
    obtain ⟨r, hr, rfl⟩ : ∃ r, recs[i]? = some r ∧ r.x = x := by
      rw [← H.hx, List.getElem?_map, Option.map_eq_some_iff] at hx
      exact hx
    have hE := H.env i r hr
    obtain ⟨od, hod, lo, hd⟩ := hE.frame
    have hk2 := hE.keys2
    have hvl := congrArg List.length hE.vals
    rw [List.length_map, List.length_map] at hvl
    have hw29 := weight_le (P := r.its) fun t ht => (hE.its t ht).2
    have hvv : ∀ t ∈ r.its, Val w xs Z t.1 t.2.1 t.2.2 := fun t ht => (hE.its t ht).1.mono H.sub
    have hWi : WOf recs i = r.ls := by simp [WOf, hr]
    have hei := hE.einst
    cases hp : r.par with
    | none =>
      rw [hp] at hei
      refine ⟨_, _, r.its, [], .e0 hei ⟨od, hod, lo, hd⟩ hk2, hE.vals, rfl, fun t ht => hvv t (by simpa using ht), fun j => ?_, ?_⟩
      · rw [hWi, hE.ls j, hp]; simp
      · rw [List.append_nil]; omega
    | some q =>
      rw [hp] at hei
      have hq := (hE.par q hp).2
      refine ⟨_, _, r.its ++ [(.ref (xs.getD q 0), [q], 1)], [], .e1 (y := xs.getD q 0) hei ⟨od, hod, lo, hd⟩ hk2, ?_, rfl, fun t ht => ?_, fun j => ?_, ?_⟩
      · rw [List.map_append, hE.vals]; rfl
      · rw [List.append_nil] at ht
        rcases List.mem_append.mp ht with ht | ht
        · exact hvv t ht
        · rw [List.mem_singleton.mp ht]
          exact .env (by simp [List.getD, hq])
      · rw [hWi, hE.ls j, hp, List.append_nil, spots_app, List.mem_append]
        simp only [spots, List.flatMap_cons, List.flatMap_nil, List.append_nil, List.mem_singleton, Option.some.injEq]
        constructor
        · rintro (h | h)
          · exact .inr h.symm
          · exact .inl h
        · rintro (h | h)
          · exact .inr h
          · exact .inl h.symm
      · rw [List.append_nil, weight_app]
        have : weight [((Value.ref (xs.getD q 0)), [q], 1)] = 1 := rfl
        omega
  · intro i wy hwy
    obtain ⟨r, hr, rfl⟩ : ∃ r, recs[i]? = some r ∧ r.wy = wy := by
      rw [← H.hw, List.getElem?_map, Option.map_eq_some_iff] at hwy
      exact hwy
    have hWi : WOf recs i = r.ls := by simp [WOf, hr]
    rw [hWi]
    exact (H.env i r hr).way
  · intro i j hj
    unfold WOf at hj
    cases hr : recs[i]? with
    | none => rw [hr] at hj; cases hj
    | some r => rw [hr] at hj; exact (H.env i r hr).lt j hj
  · intro i
    unfold WOf
    cases hr : recs[i]? with
    | none => exact Nat.zero_le _
    | some r =>
      have := (H.env i r hr).lsLen
      show r.ls.length ≤ 40
      omega
/-- the first environment bears the last as an attribute -/
theorem Open2.finA {w : World} {cc pl fg hl wl : Nat} {fo o o' : Obj} {xs ws : List Nat} {recs : List Rec} {V Z Z' : Led} (H : Open2 w cc pl fg hl wl fo xs ws recs o V Z) (P : PObj pl fg fo o')
    {r : Rec} (hr : recs[0]? = some r) {e n ny lk q : Nat} {oe : Obj} {hs : Nat → Int × Tok} {t tn tq : Tok} {svs : List Value} {nq : Int} (hq : q + 1 = xs.length) (hnq : nq = (q : Int))
    (hZ : ∀ p ∈ Z, @Ne Nat p.1 r.dx → @Ne Nat p.1 r.wy → p ∈ Z') (he : (e, oe) ∈ Z') (lo : (e == sysModules) = false) (hoe : oe.IsDictOf (PySem.strKind PySem.Challenge.rw_nz0470_01.row.prog w) [(Str.ofString "name", .ref (xs.getD q 0))])
    (hdx : (r.dx, dictOf (mkEs hs 0 [("kind", .str "environment" t), ("number", .int (10 + 3 * ((0 : Nat) : Int)) tn), ("parent", .none), ("attrs", .ref e), ("frame", .ref r.fr), ("locked", .bool false), ("locks", .ref lk)]) n) ∈ Z')
    (hwy : (r.wy, listOf (List.toArray (svs ++ [.int nq tq])) ny) ∈ Z') (hi : IntsAre svs (r.ls.map fun i : Nat => (i : Int)))
    (q1 : ∀ p ∈ Z', @Ne Nat p.1 cc) (q2 : ∀ p ∈ Z', @Ne Nat p.1 pl) (q3 : ∀ p ∈ Z', @Ne Nat p.1 fg) (q4 : ∀ p ∈ Z', @Ne Nat p.1 hl) (q5 : ∀ p ∈ Z', @Ne Nat p.1 wl) :
    Fin w cc pl fg hl wl fo xs ws (fun i => if i = 0 then r.ls ++ [q] else WOf recs i) o' Z' := by
  have B := H.fin P
  have hVZ : ∀ p ∈ V, p ∈ Z' := fun p hp => hZ p (H.sub p hp) (fun e => H.off p hp (by rw [e]; exact List.mem_flatMap.mpr ⟨r, List.mem_of_getElem? hr, by simp [Rec.ads]⟩)) (fun e => H.off p hp (by rw [e]; exact List.mem_flatMap.mpr ⟨r, List.mem_of_getElem? hr, by simp [Rec.ads]⟩))
  have hE0 := H.env 0 r hr
  have hnd := ads_nd H.nd hr
  simp only [Rec.ads, List.nodup_cons, List.mem_cons, List.not_mem_nil, or_false, not_or, List.nodup_nil, not_false_eq_true, and_true] at hnd
  obtain ⟨⟨x1, x2, x3⟩, ⟨x4, x5⟩, x6⟩ := hnd
  refine ⟨⟨?_⟩, B.num, P, q1, q2, q3, q4, q5, ?_, ?_, ?_⟩
  · intro i x hx
    obtain ⟨r', hr', rfl⟩ : ∃ r, recs[i]? = some r ∧ r.x = x := by
      rw [← H.hx, List.getElem?_map, Option.map_eq_some_iff] at hx
      exact hx
    by_cases hi0 : i = 0
    · subst hi0
      have hrr : r' = r := by rw [hr] at hr'; exact (Option.some.inj hr').symm
      subst hrr
      have hpn : r'.par = none := by
        cases hp : r'.par with
        | none => rfl
        | some q => exact absurd (hE0.par q hp).1 (Nat.not_lt_zero _)
      obtain ⟨od, hod, lo', hd⟩ := hE0.frame
      have hk2 := hE0.keys2
      have hvl := congrArg List.length hE0.vals
      rw [List.length_map, List.length_map] at hvl
      have hw29 := weight_le (P := r'.its) fun t ht => (hE0.its t ht).2
      refine ⟨_, _, r'.its, [(.ref (xs.getD q 0), [q], 1)], .a0 (e := e) ⟨t, tn, lk, r'.dx, hs, n, hZ _ hE0.inst x1 x3, hdx⟩ ⟨od, hZ _ hod (Ne.symm x4) x6, lo', hd⟩ hk2 ⟨oe, he, lo, hoe⟩ (by simp), hE0.vals, rfl, fun t ht => ?_, fun j => ?_, ?_⟩
      · rcases List.mem_append.mp ht with ht | ht
        · exact (hE0.its t ht).1.mono hVZ
        · rw [List.mem_singleton.mp ht]
          exact .env (by simp [List.getD, show q < xs.length by omega])
      · rw [if_pos rfl, List.mem_append, hE0.ls j, hpn, spots_app, List.mem_append]
        simp [spots]
      · rw [weight_app]
        have : weight [((Value.ref (xs.getD q 0)), [q], 1)] = 1 := rfl
        omega
    · obtain ⟨vs1, vs2, its1, its2, hS, e1, e2, hv, hW, hK⟩ := B.graph.env i r'.x hx
      have hE := H.env i r' hr'
      have hmv : EnvG w xs V Z' i r' := hE.move (fun _ h => h) fun p hp ha => by
        have := ads_off H.nd hr' hr hi0 ha
        simp only [Rec.ads, List.mem_cons, List.not_mem_nil, or_false, not_or] at this
        exact hZ p hp this.2.1 this.2.2.2
      obtain ⟨od, hod, lo', hd⟩ := hmv.frame
      have hk2 := hmv.keys2
      have hvl := congrArg List.length hE.vals
      rw [List.length_map, List.length_map] at hvl
      have hw29 := weight_le (P := r'.its) fun t ht => (hE.its t ht).2
      have hvv : ∀ t ∈ r'.its, Val w xs Z' t.1 t.2.1 t.2.2 := fun t ht => (hE.its t ht).1.mono hVZ
      have hWi : WOf recs i = r'.ls := by simp [WOf, hr']
      have hei := hmv.einst
      cases hp : r'.par with
      | none =>
        rw [hp] at hei
        refine ⟨_, _, r'.its, [], .e0 hei ⟨od, hod, lo', hd⟩ hk2, hE.vals, rfl, fun t ht => hvv t (by simpa using ht), fun j => ?_, ?_⟩
        · rw [if_neg hi0, hWi, hE.ls j, hp]; simp
        · rw [List.append_nil]; omega
      | some q =>
        rw [hp] at hei
        have hq := (hE.par q hp).2
        refine ⟨_, _, r'.its ++ [(.ref (xs.getD q 0), [q], 1)], [], .e1 (y := xs.getD q 0) hei ⟨od, hod, lo', hd⟩ hk2, ?_, rfl, fun t ht => ?_, fun j => ?_, ?_⟩
        · rw [List.map_append, hE.vals]; rfl
        · rw [List.append_nil] at ht
          rcases List.mem_append.mp ht with ht | ht
          · exact hvv t ht
          · rw [List.mem_singleton.mp ht]
            exact .env (by simp [List.getD, hq])
        · rw [if_neg hi0, hWi, hE.ls j, hp, List.append_nil, spots_app, List.mem_append]
          simp only [spots, List.flatMap_cons, List.flatMap_nil, List.append_nil, List.mem_singleton, Option.some.injEq]
          constructor
          · rintro (h | h)
            · exact .inr h.symm
            · exact .inl h
          · rintro (h | h)
            · exact .inr h
            · exact .inl h.symm
        · rw [List.append_nil, weight_app]
          have : weight [((Value.ref (xs.getD q 0)), [q], 1)] = 1 := rfl
          omega
  · intro i wy hwy'
    by_cases hi0 : i = 0
    · subst hi0
      obtain ⟨r', hr', rfl⟩ : ∃ r, recs[0]? = some r ∧ r.wy = wy := by
        rw [← H.hw, List.getElem?_map, Option.map_eq_some_iff] at hwy'
        exact hwy'
      have hrr : r' = r := by rw [hr] at hr'; exact (Option.some.inj hr').symm
      subst hrr
      refine ⟨_, ny, hwy, ?_⟩
      rw [if_pos rfl, List.map_append]
      refine hi.append ?_
      rw [hnq]
      exact .cons _ _ .nil
    · obtain ⟨r', hr', rfl⟩ : ∃ r, recs[i]? = some r ∧ r.wy = wy := by
        rw [← H.hw, List.getElem?_map, Option.map_eq_some_iff] at hwy'
        exact hwy'
      have hE := H.env i r' hr'
      obtain ⟨sv, ns, hm, hi2⟩ := hE.way
      have hWi : WOf recs i = r'.ls := by simp [WOf, hr']
      have hoff := ads_off H.nd hr' hr hi0 (a := r'.wy) (by simp [Rec.ads])
      simp only [Rec.ads, List.mem_cons, List.not_mem_nil, or_false, not_or] at hoff
      refine ⟨sv, ns, hZ _ hm hoff.2.1 hoff.2.2.2, ?_⟩
      rw [if_neg hi0, hWi]
      exact hi2
  · intro i j hj
    by_cases hi0 : i = 0
    · rw [if_pos hi0] at hj
      rcases List.mem_append.mp hj with hj | hj
      · exact hE0.lt j hj
      · rw [List.mem_singleton.mp hj]; omega
    · rw [if_neg hi0] at hj
      exact B.lt i j hj
  · intro i
    show (if i = 0 then r.ls ++ [q] else WOf recs i).length ≤ 40
    by_cases hi0 : i = 0
    · rw [if_pos hi0, List.length_append]
      have := hE0.lsLen
      show r.ls.length + 1 ≤ 40
      omega
    · rw [if_neg hi0]; exact B.len i
section
variable {prog : Program} {w : World} {A : Around} {E : Value → Shared → Prop} {s : Shared} {env : Env} {h₀ : Heap} {L : Addr} {m : Str → Option Value} {Q : Flow → Shared → Prop}
def led4 (cc pl fg hl wl : Nat) (oc fo : Obj) (xs ws : List Nat) (nh nw : Nat) (o : Obj) (Z : Led) : Led := (cc, oc) :: (pl, o) :: (fg, fo) :: (hl, listOf (xs.map Value.ref).toArray nh) :: (wl, listOf (ws.map Value.ref).toArray nw) :: Z
def JoinP (w : World) (h₀ : Heap) (L : Addr) (cc pl fg hl wl : Nat) (oc fo : Obj) (xs ws : List Nat) (nh nw : Nat) (m : Str → Option Value) (s₁ : Shared) (f : Flow) (s₂ : Shared) : Prop :=
  f = .next ∧ ∃ W o Z h tk, s₂ = { s₁ with heap := h, toks := tk } ∧ Fin w cc pl fg hl wl fo xs ws W o Z ∧ Fr h₀ L h m ∧ News h₀ L h (led4 cc pl fg hl wl oc fo xs ws nh nw o Z)
theorem JoinP.intro {w : World} {cc pl fg hl wl : Nat} {oc fo o : Obj} {xs ws : List Nat} {nh nw : Nat} {s₁ : Shared} {W : Nat → List Nat} {Z : Led} {h : Heap} {tk : Nat} (B : Fin w cc pl fg hl wl fo xs ws W o Z) (F : Fr h₀ L h m) (N : News h₀ L h (led4 cc pl fg hl wl oc fo xs ws nh nw o Z)) :
    JoinP w h₀ L cc pl fg hl wl oc fo xs ws nh nw m s₁ .next { s₁ with heap := h, toks := tk } := ⟨rfl, W, o, Z, h, tk, rfl, B, F, N⟩
theorem join_if {cc pl fg hl wl : Nat} {oc fo o : Obj} {xs ws : List Nat} {recs : List Rec} {V Z : Led} {nh nw : Nat} {test : Expr} {body orelse : List Stmt} {pos : Pos} (H : Open2 w cc pl fg hl wl fo xs ws recs o V Z) (F : Fr h₀ L s.heap m)
    (N : News h₀ L s.heap ((cc, oc) :: (pl, o) :: (fg, fo) :: (hl, listOf (xs.map Value.ref).toArray nh) :: (wl, listOf (ws.map Value.ref).toArray nw) :: Z))
    (body' : wpAny (model prog w) A (isTrue test env (eval test env)) (fun b s₂ => if b then wpAny (model prog w) A (execs body env) (JoinP w h₀ L cc pl fg hl wl oc fo xs ws nh nw m s) E s₂ else wpAny (model prog w) A (execs orelse env) (JoinP w h₀ L cc pl fg hl wl oc fo xs ws nh nw m s) E s₂) E s)
    (rest : ∀ W o Z h tk, Fin w cc pl fg hl wl fo xs ws W o Z → Fr h₀ L h m → News h₀ L h ((cc, oc) :: (pl, o) :: (fg, fo) :: (hl, listOf (xs.map Value.ref).toArray nh) :: (wl, listOf (ws.map Value.ref).toArray nw) :: Z) → Q .next { s with heap := h, toks := tk }) :
    wpAny (model prog w) A (exec (.If test body orelse pos) env) Q E s := by
  refine wpAny_mono (wpAny_If body') (fun f s₂ p => ?_) fun _ _ e => e
  obtain ⟨rfl, W, o, Z, h, tk, rfl, B, F', N'⟩ := p
  exact rest W o Z h tk B F' N'
end
theorem fillSix : (∀ P, KF P = KF P) ∧ PySem.Challenge.rw_nz0470_01 = PySem.Challenge.rw_nz0470_01 := by
  k_fill
  exact ⟨fun _ => rfl, rfl⟩
theorem lnM6a : True := by
  k_with "t k_all" => (assumption)
  k_with "t k_mem" => (first | exact List.Mem.head _ | (refine' List.mem_cons_of_mem _ ?_; k_mem) | ktr_member | (ktn_app; first | (refine List.mem_append.mpr (Or.inl ?_); k_mem) | (refine List.mem_append.mpr (Or.inr ?_); k_mem)))
  k_with "t k_room" => (ktr_room)
  k_with "t k_units" => (ktr_units)
  k_with "m callWith ref" => ((k_here; k_dflt (first
    | (refine' callWith_K ?w205k1 ?w205k2 ?_; (case w205k1 => k_asm); (case w205k2 => k_is); k_whole)
    | (refine' callWith_K0 ?w205k1 ?w205k2 ?_; (case w205k1 => k_in); (case w205k2 => k_is); k_whole))))
  k_with "t tbn_lt" => (first | tbn_find | exact allLt_of (by assumption) | exact allLt_r (by tbn_find) | exact allLt_r (allLt_r (by tbn_find)) | exact tbn_up (by assumption) (by first | tbn_find | exact allLt_of (by assumption) | exact allLt_r (by tbn_find) | exact allLt_r (allLt_r (by tbn_find))))
  k_with "t tb_start" => (first | exact Led3.base0 | exact Led3.base2 (by assumption) (by assumption) | exact Led3.base1 (by assumption) | (refine' Led3.step ?w207tba ?w207tbb ?w207tbc ?w207tbd ?w207tbe; (case w207tba => omega); (case w207tbb => omega); (case w207tbc => omega); (case w207tbd => tbn_lt); (case w207tbe => tb_start)))
  k_with "t tb_rel" => ((intro p hp; (repeat' (refine List.Mem.tail _ ?_)); first | exact hp | exact List.mem_append_left _ hp | exact List.mem_append_right _ hp))
  k_with "t k_enter" => ((refine' code_def ?w209k1 ?w209k2 ?w209k3 ?w209k4 ?w209k5 ?w209kA ?w209kF ?w209kK ?w209k6 ?w209k7 ?w209k8 ?w209k9 ?w209kB ?_ ?w209c2 ?w209c3 ?w209c4 ?w209c5; (case w209kA => exact rfl); (case w209kF => exact rfl); (case w209kK => first | exact rfl | assumption); (case w209k1 => k_asm); (case w209k2 => k_asm); (case w209k3 => k_asm); (case w209k4 => k_asm); (case w209k5 => k_asm); (case w209k6 => k_is); (case w209k7 => k_is); (case w209k8 => ktr_room); (case w209k9 => first | exact BindsTo.of_eq rfl | exact binds_K (by k_in) rfl (by k_is) rfl rfl rfl); (case w209c5 => decide); (case w209kB => exact locs rfl); (case w209c2 => exact rfl); (case w209c3 => exact rfl); (case w209c4 => exact rfl); k_whole; intro g' L' h' FG' F' N' B' X' T'; (try dsimp only); (try k_fold)))
  k_with "t k_enter" => ((refine' code_defC ?w210k1 ?w210k2 ?w210k3 ?w210k4 ?w210k5 ?w210kA ?w210kF ?w210kK ?w210k6 ?w210k7 ?w210k8 ?w210k9 ?w210kB ?w210kD ?_ ?w210c2 ?w210c3 ?w210c4; (case w210kA => exact rfl); (case w210kF => exact rfl); (case w210kK => first | exact rfl | assumption); (case w210k1 => k_asm); (case w210k2 => k_asm); (case w210k3 => k_asm); (case w210k4 => k_asm); (case w210k5 => k_asm); (case w210k6 => k_is); (case w210k7 => k_is); (case w210k8 => ktr_room); (case w210k9 => first | exact BindsTo.of_eq rfl | exact binds_K (by k_in) rfl (by k_is) rfl rfl rfl); (case w210kB => exact rfl); (case w210kD => decide +kernel); (case w210c2 => exact rfl); (case w210c3 => exact rfl); (case w210c4 => exact rfl); k_whole; intro g' L' h' tk' cells' FG' F' N' Y' B' X' T' l1; (try k_lt l1); k_cells Y'; (try simp only [List.cons_append, List.nil_append] at N'); (try dsimp only); (try k_fold)))
  k_with "m CompEnd" => ((k_dflt (refine LCg.CompEnd.intro (by assumption) (by assumption) _ (fun _ h => h) (by assumption) (by lcg_src) ?_)))
  k_with "m eval ListComp" => ((k_here; lcf_look; lcg_calm; k_dflt (refine ListComp_D (by k_asm) (by with_unfolding_all rfl) (by decide) (by rfl) (by decide) (by rfl) ?_)))
  k_with "m exec Assign cons ListComp" => ((k_here; lcf_look; lcg_calm; k_dflt (refine Assign_ListComp_D (by k_asm) (by rfl) (by with_unfolding_all rfl) (by with_unfolding_all rfl) (by decide) (by rfl) (by decide) (by rfl) (by rfl) (by rfl) ?_)))
  k_with "m SrcD" => ((k_dflt (refine' SrcD.intro ?w214F ?w214N ?w214X ?w214D ?w214lo ?w214dd ?w214m ?w214gt ?_ ?w214c ?w214d ?w214z ?w214hh ?w214kx ?w214ky ?w214kf ?w214bx ?w214by_; (case w214F => k_asm); (case w214N => k_asm); (case w214X => k_asm); (case w214D => k_mem); (case w214lo => assumption); (case w214dd => assumption); (case w214c => rfl); (case w214m => k_mem); (case w214d => k_asm); (case w214gt => (first | (refine GetOk.mono (by assumption) ?_; tb_rel) | (intro A1 E1 s1 h1 L1 m1 Q1 F1 X1 N1 q1; refine' get_own F1 X1 ?w214k3 ?w214k4 ?w214k5 ?w214k6 ?w214k7 ?w214k8 ?w214k9 q1; (case w214k3 => k_inst); (case w214k4 => k_is); (case w214k5 => k_is); (case w214k6 => k_is); (case w214k7 => k_is); (case w214k8 => k_get); (case w214k9 => k_handed)))); (case w214z => first | exact Nat.le_of_ble_eq_true rfl | (rw [sizeLine_eq]; omega)); (case w214hh => rfl); (case w214kx => intro _; rfl); (case w214ky => intro _; rfl); (case w214kf => intro _; rfl); (case w214bx => decide); (case w214by_ => decide)); intro s2' hs2'; obtain ⟨g', eg'⟩ := hs2'; subst eg'; dsimp only [List.map]))
  k_with "m call builtin:list.append" => ((k_here; (with_reducible show wpAny _ _ (call (Value.builtin _) [Value.ref _, _]) _ _ _); k_dflt (refine' append_K ?w215k1 ?w215k2 ?w215k3 ?_ ?w215z; (case w215k1 => k_asm); (case w215k2 => k_asm); (case w215k3 => exact Upd.head (off1_ne (by assumption))); (case w215z => size_fits); k_whole); intro h' F' N'; (try k_sweep)))
  k_with "t tb_rel" => ((intro p hp; first | exact hp | (repeat' (first | exact hp | (refine List.Mem.tail _ ?_)))))
  k_with "t tb_start" => ((refine read_fin ret (by k_asm) (by k_asm) (by k_mem) (by tb_rel) (by first | exact ltNe (by first | tbn_find | exact allLt_of (by assumption)) | exact off1_ne (by assumption) | exact off1_ne (And.right (And.right (by assumption))) | exact off1_ne (And.right (by assumption)))))
  trivial
set_option maxRecDepth 100000 in
set_option maxHeartbeats 8000000 in
theorem attrs_set {w : World} {A : Around} {E : Value → Shared → Prop} {s : Shared} {h₀ : Heap} {L : Addr} {m : Str → Option Value} {rest : Led} {x dx fr lk n : Nat} {num : Int} {hs : Nat → Int × Tok} {t tn : Tok} {p v : Value} {Q : Unit → Shared → Prop} (F : Fr h₀ L s.heap m) (X : (KF w.params).In h₀)
    (N : News h₀ L s.heap ((dx, dictOf (mkEs hs 0 [("kind", .str "environment" t), ("number", .int num tn), ("parent", p), ("attrs", .none), ("frame", .ref fr), ("locked", .bool false), ("locks", .ref lk)]) n) :: rest)) (hx : (x, instObj 209 dx) ∈ rest) (hp : ∀ p ∈ rest, @Ne Nat p.1 dx)
    (h : ∀ h' hs' n' tk', Fr h₀ L h' m → News h₀ L h' ((dx, dictOf (mkEs hs' 0 [("kind", .str "environment" t), ("number", .int num tn), ("parent", p), ("attrs", v), ("frame", .ref fr), ("locked", .bool false), ("locks", .ref lk)]) n') :: rest) → Q () { s with heap := h', toks := tk' }) :
    wpAny (model PySem.Challenge.rw_nz0470_01.row.prog w) A (setAttr (.ref x) (Str.ofString "attrs") v) Q E s := by
  have hx' : (x, instObj 209 dx) ∈ (dx, dictOf (mkEs hs 0 [("kind", .str "environment" t), ("number", .int num tn), ("parent", p), ("attrs", .none), ("frame", .ref fr), ("locked", .bool false), ("locks", .ref lk)]) n) :: rest := .tail _ hx
  simp only [mkEs] at N hx'
  refine' set_dict ?k1 ?k2 ?k3 ?k4 ?k5 ?k6 ?k7 ?k8 ?k9 ?k10 ?k11 ?k12 ?k13 ?_
  case k1 => k_asm
  case k2 => k_asm
  case k3 => k_asm
  case k4 => k_inst
  case k5 => exact rfl
  case k6 => k_is
  case k7 => k_is
  case k8 => k_is
  case k9 => k_is
  case k10 => k_get
  case k11 => exact rfl
  case k12 => k_upd
  case k13 => exact Nat.le_of_ble_eq_true rfl
  intro h' F' N'
  exact h h' hs _ _ F' N'
theorem lnM7 : True := by
  k_with_none
  trivial
section
variable {prog : Program} {w : World} {A : Around} {E : Value → Shared → Prop} {s : Shared} {h₀ : Heap} {L l : Addr} {news : Led}
theorem last_item {xs : List Nat} {nh : Nat} {value slice : PySem.Expr} {u : Tok} {Q : Value → Shared → Prop} (N : News h₀ L s.heap news) (hm : (l, listOf (xs.map Value.ref).toArray nh) ∈ news) (h0 : 0 < xs.length) (h6 : xs.length ≤ 6)
    (h : Q (.ref (xs.getD (xs.length - 1) 0)) s) (hs : subscripted slice false (.ref l) (.int (-1) u) = operate [.ref l, .int (-1) u] (getItem (.ref l) (.int (-1) u)) := by with_unfolding_all rfl) :
    wpAny (model prog w) A (subscriptTail value slice (.ref l) (.int (-1) u)) Q E s := by
  have hl' : s.heap.IsList l (xs.map Value.ref).toArray := ⟨_, (N _ hm).1, rfl, nh, rfl⟩
  have hsz : (xs.map Value.ref).toArray.size = xs.length := by simp
  refine tail_any hl'.typeIs slot_list_getitem.lookup (wpAny_getItem_list_neg hl' (by decide) (by rw [hsz]; omega) (by decide) (x := .ref (xs.getD (xs.length - 1) 0)) ?_ h) hs
  have e : ((-1 : Int) + ((xs.map Value.ref).toArray.size : Int)).toNat = xs.length - 1 := by rw [hsz]; omega
  first
    | (rw [e]; simp [List.getD, show xs.length - 1 < xs.length by omega])
    | (simp [List.getD, show xs.length - 1 < xs.length by omega])
theorem rec0 {cc pl fg hl wl : Nat} {fo o : Obj} {xs ws : List Nat} {recs : List Rec} {V Z : Led} {nh : Nat} {value slice : PySem.Expr} {u : Tok} {Q : Value → Shared → Prop} (H : Open2 w cc pl fg hl wl fo xs ws recs o V Z) (N : News h₀ L s.heap news) (hm : (l, listOf (xs.map Value.ref).toArray nh) ∈ news) (h0 : 0 < xs.length)
    (h : ∀ r : Rec, recs[0]? = some r → r.par = none → Q (.ref r.x) s)
    (hs : subscripted slice false (.ref l) (.int 0 u) = operate [.ref l, .int 0 u] (getItem (.ref l) (.int 0 u)) := by with_unfolding_all rfl) :
    wpAny (model prog w) A (subscriptTail value slice (.ref l) (.int 0 u)) Q E s := by
  have hx := H.hx
  have hlen : recs.length = xs.length := by rw [← hx, List.length_map]
  have hk : 0 < recs.length := by omega
  have e : recs[0]? = some recs[0] := List.getElem?_eq_getElem hk
  have hE := H.env _ _ e
  have hp : recs[0].par = none := by
    cases hp : recs[0].par with
    | none => rfl
    | some q => exact absurd (hE.par q hp).1 (Nat.not_lt_zero _)
  refine item_at N hm (by decide) (by decide) (v := .ref recs[0].x) ?_ (h _ e hp) hs
  rw [← hx]
  show (List.map Value.ref (List.map (fun r => r.x) recs))[0]? = _
  simp [e]
theorem way0 {cc pl fg hl wl : Nat} {fo o : Obj} {xs ws : List Nat} {recs : List Rec} {V Z : Led} {nw : Nat} {value slice : PySem.Expr} {u : Tok} {r : Rec} {Q : Value → Shared → Prop} (H : Open2 w cc pl fg hl wl fo xs ws recs o V Z) (hr : recs[0]? = some r) (N : News h₀ L s.heap news) (hm : (l, listOf (ws.map Value.ref).toArray nw) ∈ news)
    (h : Q (.ref r.wy) s) (hs : subscripted slice false (.ref l) (.int 0 u) = operate [.ref l, .int 0 u] (getItem (.ref l) (.int 0 u)) := by with_unfolding_all rfl) :
    wpAny (model prog w) A (subscriptTail value slice (.ref l) (.int 0 u)) Q E s := by
  have hw := H.hw
  have ew : ws[0]? = some r.wy := by rw [← hw]; simp [hr]
  refine item_at N hm (by decide) (by decide) (v := .ref r.wy) ?_ h hs
  show (List.map Value.ref ws)[0]? = _
  rw [List.getElem?_map, ew]
  rfl
end
/-- homes[0].attrs = .. -/
theorem attrs_law {w : World} {A : Around} {E : Value → Shared → Prop} {s : Shared} {h₀ : Heap} {L : Addr} {m : Str → Option Value} {e cc pl fg hl wl : Nat} {oe oc fo o o' ohl owl : Obj} {xs ws : List Nat} {recs : List Rec} {V Z : Led} {r : Rec} {v : Value} {Q : Unit → Shared → Prop} (F : Fr h₀ L s.heap m) (X : (KF w.params).In h₀)
    (H : Open2 w cc pl fg hl wl fo xs ws recs o V Z) (hr : recs[0]? = some r) (hpar : r.par = none) (N : News h₀ L s.heap ((e, oe) :: (cc, oc) :: (pl, o') :: (fg, fo) :: (hl, ohl) :: (wl, owl) :: Z)) (he : ∀ p ∈ Z, @LT.lt Nat _ p.1 e)
    (h : ∀ h' hs' n' lk t tn tk' svs ns, Fr h₀ L h' m → News h₀ L h' ((e, oe) :: (cc, oc) :: (pl, o') :: (fg, fo) :: (hl, ohl) :: (wl, owl) :: (r.wy, listOf (List.toArray svs) ns) :: (r.dx, dictOf (mkEs hs' 0 [("kind", .str "environment" t), ("number", .int (10 + 3 * ((0 : Nat) : Int)) tn), ("parent", .none), ("attrs", v), ("frame", .ref r.fr), ("locked", .bool false), ("locks", .ref lk)]) n') :: offL r.wy (offL r.dx Z)) →
      IntsAre svs (r.ls.map fun i : Nat => (i : Int)) → r.ls.length ≤ 33 → (r.wy ≠ e ∧ r.wy ≠ cc ∧ r.wy ≠ pl ∧ r.wy ≠ fg ∧ r.wy ≠ hl ∧ r.wy ≠ wl ∧ r.wy ≠ r.dx) → (r.dx ≠ e ∧ r.dx ≠ cc ∧ r.dx ≠ pl ∧ r.dx ≠ fg ∧ r.dx ≠ hl ∧ r.dx ≠ wl) → (∀ p ∈ offL r.wy (offL r.dx Z), @Ne Nat p.1 r.wy) → Q () { s with heap := h', toks := tk' }) :
    wpAny (model PySem.Challenge.rw_nz0470_01.row.prog w) A (setAttr (.ref r.x) (Str.ofString "attrs") v) Q E s := by
  have hE := H.env 0 r hr
  obtain ⟨t, tn, lk, hs, n, hf⟩ := hE.flds
  obtain ⟨svs, ns, hw, hi⟩ := hE.way
  rw [hpar] at hf
  have hnd := ads_nd H.nd hr
  simp only [Rec.ads, List.nodup_cons, List.mem_cons, List.not_mem_nil, or_false, not_or, List.nodup_nil, not_false_eq_true, and_true] at hnd
  obtain ⟨⟨x1, x2, x3⟩, ⟨x4, x5⟩, x6⟩ := hnd
  have dxe : r.dx ≠ e := Nat.ne_of_lt (he _ hf)
  have wye : r.wy ≠ e := Nat.ne_of_lt (he _ hw)
  have N1 := news_mid (pre := [(e, oe), (cc, oc), (pl, o'), (fg, fo), (hl, ohl), (wl, owl)]) N hf
  refine attrs_set (hs := hs) (t := t) (tn := tn) (p := .none) (lk := lk) (n := n) (fr := r.fr) (num := 10 + 3 * ((0 : Nat) : Int)) F X (rest := [(e, oe), (cc, oc), (pl, o'), (fg, fo), (hl, ohl), (wl, owl)] ++ offL r.dx Z) (fun p hp => N1 p ?_) (x := r.x) (List.mem_append_right _ (mem_offL.mpr ⟨hE.inst, x1⟩)) ?_ fun h' hs' n' tk' F' N' => h h' hs' n' lk t tn tk' svs ns F' (fun p hp => N' p ?_) hi hE.lsLen ⟨wye, H.cc' _ hw, H.pl' _ hw, H.fg' _ hw, H.hl' _ hw, H.wl' _ hw, Ne.symm x5⟩ ⟨dxe, H.cc' _ hf, H.pl' _ hf, H.fg' _ hf, H.hl' _ hf, H.wl' _ hf⟩ fun p hp => (mem_offL.mp hp).2
  · rcases List.mem_cons.mp hp with rfl | hp
    · exact List.mem_append_right _ (.head _)
    · rcases List.mem_append.mp hp with hp | hp
      · exact List.mem_append_left _ hp
      · exact List.mem_append_right _ (.tail _ hp)
  · intro p hp
    rcases List.mem_append.mp hp with hp | hp
    · simp only [List.mem_cons, List.not_mem_nil, or_false] at hp
      rcases hp with rfl | rfl | rfl | rfl | rfl | rfl
      · exact dxe.symm
      · exact (H.cc' _ hf).symm
      · exact (H.pl' _ hf).symm
      · exact (H.fg' _ hf).symm
      · exact (H.hl' _ hf).symm
      · exact (H.wl' _ hf).symm
    · exact (mem_offL.mp hp).2
  · have hw2 : (r.wy, listOf (List.toArray svs) ns) ∈ offL r.dx Z := mem_offL.mpr ⟨hw, Ne.symm x5⟩
    have hp' : p ∈ ([(e, oe), (cc, oc), (pl, o'), (fg, fo), (hl, ohl), (wl, owl)] : Led) ++ _ := hp
    rcases List.mem_append.mp hp' with hp | hp
    · exact .tail _ (List.mem_append_left _ hp)
    rcases List.mem_cons.mp hp with rfl | hp
    · exact .tail _ (List.mem_append_right _ hw2)
    rcases List.mem_cons.mp hp with rfl | hp
    · exact .head _
    · exact .tail _ (List.mem_append_right _ (mem_offL.mp hp).1)
theorem join_attrs {w : World} {h₀ : Heap} {L : Addr} {m : Str → Option Value} {e cc pl fg hl wl n ny lk nh nw tk : Nat} {oe oc fo o o' : Obj} {xs ws : List Nat} {recs : List Rec} {V Z : Led} {r : Rec} {s₁ : Shared} {h' : Heap} {hs : Nat → Int × Tok} {t tn tq : Tok} {svs : List Value} {nq : Int} (H : Open2 w cc pl fg hl wl fo xs ws recs o V Z) (P : PObj pl fg fo o') (hr : recs[0]? = some r) (F : Fr h₀ L h' m)
    (N : News h₀ L h' ((e, oe) :: (cc, oc) :: (pl, o') :: (fg, fo) :: (hl, listOf (xs.map Value.ref).toArray nh) :: (wl, listOf (ws.map Value.ref).toArray nw) :: (r.wy, listOf (svs.toArray.push (.int nq tq)) ny) :: (r.dx, dictOf (mkEs hs 0 [("kind", .str "environment" t), ("number", .int (10 + 3 * ((0 : Nat) : Int)) tn), ("parent", .none), ("attrs", .ref e), ("frame", .ref r.fr), ("locked", .bool false), ("locks", .ref lk)]) n) :: offL r.wy (offL r.dx Z)))
    (lo : (e == sysModules) = false) (hoe : oe.IsDictOf (PySem.strKind PySem.Challenge.rw_nz0470_01.row.prog w) [(Str.ofString "name", .ref (xs.getD (xs.length - 1) 0))]) (hi : IntsAre svs (r.ls.map fun i : Nat => (i : Int))) (hnq : nq = (xs.length : Int) - 1) (hx0 : 0 < xs.length)
    (he : cc < e ∧ pl < e ∧ fg < e ∧ hl < e ∧ wl < e) : JoinP w h₀ L cc pl fg hl wl oc fo xs ws nh nw m s₁ .next { s₁ with heap := h', toks := tk } := by
  rw [List.push_toArray] at N
  obtain ⟨e1, e2, e3, e4, e5⟩ := he
  have hE := H.env 0 r hr
  obtain ⟨_, _, _, _, _, hf⟩ := hE.flds
  obtain ⟨_, _, hw, _⟩ := hE.way
  have ne : ∀ {b : Nat}, b < e → (∀ p ∈ Z, @Ne Nat p.1 b) → ∀ p ∈ ((e, oe) :: (r.wy, listOf (svs ++ [Value.int nq tq]).toArray ny) :: (r.dx, dictOf (mkEs hs 0 [("kind", .str "environment" t), ("number", .int (10 + 3 * ((0 : Nat) : Int)) tn), ("parent", .none), ("attrs", .ref e), ("frame", .ref r.fr), ("locked", .bool false), ("locks", .ref lk)]) n) :: offL r.wy (offL r.dx Z) : Led), @Ne Nat p.1 b := by
    intro b hb h p hp
    rcases List.mem_cons.mp hp with rfl | hp
    · exact Nat.ne_of_gt hb
    rcases List.mem_cons.mp hp with rfl | hp
    · have := h _ hw; exact this
    rcases List.mem_cons.mp hp with rfl | hp
    · have := h _ hf; exact this
    · exact h p (mem_offL.mp (mem_offL.mp hp).1).1
  refine JoinP.intro (H.finA P hr (q := xs.length - 1) (by omega) (by omega) (fun p hp h1 h2 => .tail _ (.tail _ (.tail _ (mem_offL.mpr ⟨mem_offL.mpr ⟨hp, h1⟩, h2⟩)))) (.head _) lo hoe (.tail _ (.tail _ (.head _))) (.tail _ (.head _)) hi (ne e1 H.cc') (ne e2 H.pl') (ne e3 H.fg') (ne e4 H.hl') (ne e5 H.wl')) F fun p hp => N p ?_
  simp only [led4] at hp
  rcases List.mem_cons.mp hp with rfl | hp
  · exact .tail _ (.head _)
  rcases List.mem_cons.mp hp with rfl | hp
  · exact .tail _ (.tail _ (.head _))
  rcases List.mem_cons.mp hp with rfl | hp
  · exact .tail _ (.tail _ (.tail _ (.head _)))
  rcases List.mem_cons.mp hp with rfl | hp
  · exact .tail _ (.tail _ (.tail _ (.tail _ (.head _))))
  rcases List.mem_cons.mp hp with rfl | hp
  · exact .tail _ (.tail _ (.tail _ (.tail _ (.tail _ (.head _)))))
  rcases List.mem_cons.mp hp with rfl | hp
  · exact .head _
  · exact .tail _ (.tail _ (.tail _ (.tail _ (.tail _ (.tail _ hp)))))
theorem Graph.mono {w : World} {xs : List Nat} {Z Z' : Led} {W : Nat → List Nat} {K : Nat → Nat} (G : Graph w xs Z W K) (h : ∀ p ∈ Z, p ∈ Z') : Graph w xs Z' W K := ⟨fun i x hx => by
  obtain ⟨vs1, vs2, its1, its2, hS, e1, e2, hv, hW, hK⟩ := G.env i x hx
  exact ⟨vs1, vs2, its1, its2, hS.mono h, e1, e2, fun t ht => (hv t ht).mono h, hW, hK⟩⟩
/-- the state between the turns of the third loop -/
structure Open3 (w : World) (cc pl fg hl wl rl pd : Nat) (fo : Obj) (xs ws : List Nat) (nw : Nat) (W : Nat → List Nat) (i : Nat) (o : Obj) (rts : List (Value × List Nat × Nat)) (P : List Nat) (pv : List Value) (Z : Led) : Prop where
  graph : Graph w xs Z W (fun _ => 100)
  num : xs.length = ws.length
  pool : PObj pl fg fo o
  cc' : ∀ p ∈ Z, @Ne Nat p.1 cc
  pl' : ∀ p ∈ Z, @Ne Nat p.1 pl
  fg' : ∀ p ∈ Z, @Ne Nat p.1 fg
  hl' : ∀ p ∈ Z, @Ne Nat p.1 hl
  rl' : ∀ p ∈ Z, @Ne Nat p.1 rl
  pd' : ∀ p ∈ Z, @Ne Nat p.1 pd
  wl' : (wl, listOf (ws.map Value.ref).toArray nw) ∈ Z
  way : ∀ (i wy : Nat), ws[i]? = some wy → ∃ svs ns, (wy, listOf (List.toArray svs) ns) ∈ Z ∧ IntsAre svs ((W i).map fun i : Nat => (i : Int))
  wlt : ∀ (i j : Nat), j ∈ W i → j < xs.length
  wlen : ∀ i, (W i).length ≤ 40
  vals : ∀ t ∈ rts, Val w xs Z t.1 t.2.1 t.2.2 ∧ t.2.2 ≤ 29
  mem : ∀ i, i ∈ P ↔ i ∈ spots rts
  lt : ∀ i ∈ P, i < xs.length
  nr : rts.length ≤ i
  np : P.length ≤ 16 * i
  pints : IntsAre pv (P.map fun i : Nat => (i : Int))
abbrev St3 := Obj × List (Value × List Nat × Nat) × Nat × List Nat × List Value × Nat × Led
def led5 (cc pl fg hl rl pd : Nat) (oc fo : Obj) (xs : List Nat) (nh : Nat) (c : St3) : Led := (cc, oc) :: (pl, c.1) :: (fg, fo) :: (hl, listOf (xs.map Value.ref).toArray nh) :: (rl, listOf (c.2.1.map (·.1)).toArray c.2.2.1) :: (pd, listOf c.2.2.2.2.1.toArray c.2.2.2.2.2.1) :: c.2.2.2.2.2.2
abbrev st3names : List Str := [Str.ofString "step", Str.ofString "value", Str.ofString "more", Str.ofString "pending"]
def Turn3 (w : World) (h₀ : Heap) (L : Addr) (cc pl fg hl wl rl pd : Nat) (oc fo : Obj) (xs ws : List Nat) (nh nw : Nat) (W : Nat → List Nat) (m₀ : Str → Option Value) (i I : Nat) (oi : Obj) (s₁ : Shared) (f : Flow) (s₂ : Shared) : Prop :=
  StEnd h₀ L (led5 cc pl fg hl rl pd oc fo xs nh) (fun c => Open3 w cc pl fg hl wl rl pd fo xs ws nw W (i + 1) c.1 c.2.1 c.2.2.2.1 c.2.2.2.2.1 c.2.2.2.2.2.2) [Str.ofString "step", Str.ofString "value", Str.ofString "more"] m₀ I oi s₁ f s₂
section
variable {prog : Program} {w : World} {A : Around} {E : Value → Shared → Prop} {s : Shared} {env : Env} {h₀ : Heap} {x : Str} {body : List Stmt} {Q : Flow → Shared → Prop}
theorem loop3 {r : Addr} {b₀ : Int} {t₀ u₀ v₀ : Tok} {m₀ : Str → Option Value} {cc pl fg hl wl rl pd nh nw rn pn : Nat} {oc fo o o' : Obj} {xs ws : List Nat} {W : Nat → List Nat} {Z : Led}
    (hh : A.handled = none) (hr : IsRange s.heap r 0 b₀ 1 t₀ u₀ v₀) (hb0 : 0 ≤ b₀) (hb1 : b₀ < 1000) (F : Fr h₀ env.locals s.heap m₀) (H : Fin w cc pl fg hl wl fo xs ws W o Z) (P : PObj pl fg fo o')
    (N : News h₀ env.locals s.heap ((pd, listOf (List.toArray ([] : List Value)) pn) :: (rl, listOf (List.toArray ([] : List Value)) rn) :: (cc, oc) :: (pl, o') :: (fg, fo) :: (hl, listOf (xs.map Value.ref).toArray nh) :: (wl, listOf (ws.map Value.ref).toArray nw) :: Z))
    (apart : wl ≠ cc ∧ wl ≠ pl ∧ wl ≠ fg ∧ wl ≠ hl ∧ wl < rl ∧ wl < pd) (hZr : ∀ p ∈ Z, @LT.lt Nat _ p.1 rl) (hZp : ∀ p ∈ Z, @LT.lt Nat _ p.1 pd)
    (turn : ∀ (i : Nat) o rts rn P pv pn Z u tx h tk (I : Nat) oi, i < b₀.toNat → Open3 w cc pl fg hl wl rl pd fo xs ws nw W i o rts P pv Z → @Ne Nat cc I → @Ne Nat pl I → @Ne Nat fg I → @Ne Nat hl I → @Ne Nat rl I → @Ne Nat pd I → (∀ p ∈ Z, @Ne Nat p.1 I) → Fr h₀ env.locals h (fun y => if y = x then some (.int (i : Int) tx) else stF [Str.ofString "step", Str.ofString "value", Str.ofString "more"] u m₀ y) →
      News h₀ env.locals h ((I, oi) :: (cc, oc) :: (pl, o) :: (fg, fo) :: (hl, listOf (xs.map Value.ref).toArray nh) :: (rl, listOf (rts.map (·.1)).toArray rn) :: (pd, listOf (List.toArray pv) pn) :: Z) →
      wpAny (model prog w) A (execs body env) (Turn3 w h₀ env.locals cc pl fg hl wl rl pd oc fo xs ws nh nw W m₀ i I oi { s with heap := h, toks := tk }) E { s with heap := h, toks := tk })
    (done : ∀ o rts rn P pv pn Z u h tk, Open3 w cc pl fg hl wl rl pd fo xs ws nw W b₀.toNat o rts P pv Z → Fr h₀ env.locals h (stF [Str.ofString "step", Str.ofString "value", Str.ofString "more"] u m₀) →
      News h₀ env.locals h ((cc, oc) :: (pl, o) :: (fg, fo) :: (hl, listOf (xs.map Value.ref).toArray nh) :: (rl, listOf (rts.map (·.1)).toArray rn) :: (pd, listOf (List.toArray pv) pn) :: Z) → Q .next { s with heap := h, toks := tk }) :
    wpAny (model prog w) A (pyIter (.ref r)) (fun it s₂ => LoopAtV prog w A h₀ env x body Q E it s₂) E s := by
  obtain ⟨a1, a2, a3, a4, a5, a6⟩ := apart
  have cons : ∀ {b : Nat}, wl ≠ b → (∀ p ∈ Z, @Ne Nat p.1 b) → ∀ p ∈ ((wl, listOf (ws.map Value.ref).toArray nw) :: Z : Led), @Ne Nat p.1 b := fun h1 h2 => List.forall_mem_cons.mpr ⟨h1, h2⟩
  have K : Open3 w cc pl fg hl wl rl pd fo xs ws nw W 0 o' [] [] [] ((wl, listOf (ws.map Value.ref).toArray nw) :: Z) :=
    ⟨H.graph.mono fun p hp => .tail _ hp, H.num, P, cons a1 H.cc', cons a2 H.pl', cons a3 H.fg', cons a4 H.hl', cons (Nat.ne_of_lt a5) fun p hp => Nat.ne_of_lt (hZr p hp), cons (Nat.ne_of_lt a6) fun p hp => Nat.ne_of_lt (hZp p hp), .head _,
      fun i wy h => let ⟨svs, ns, h1, h2⟩ := H.way i wy h; ⟨svs, ns, .tail _ h1, h2⟩, H.lt, H.len, (fun _ h => nomatch h), (fun i => Iff.rfl), (fun _ h => nomatch h), Nat.le_refl _, Nat.le_refl _, .nil⟩
  refine range_state (led5 cc pl fg hl rl pd oc fo xs nh) (fun i c => Open3 w cc pl fg hl wl rl pd fo xs ws nw W i c.1 c.2.1 c.2.2.2.1 c.2.2.2.2.1 c.2.2.2.2.2.2) [Str.ofString "step", Str.ofString "value", Str.ofString "more"] (o', [], rn, [], [], pn, (wl, listOf (ws.map Value.ref).toArray nw) :: Z) hh hr (small0 hb0 hb1) (size0 hb0) F N ?_ K ?_ ?_
  · intro p hp
    simp only [led5, List.map_nil] at hp
    simp only [List.mem_cons] at hp ⊢
    rcases hp with h | h | h | h | h | h | h | h <;> simp [h]
  · rintro i ⟨o, rts, rn, P, pv, pn, Z⟩ u tx h tk I oi hi hO hne F' N'
    rw [Int.zero_add] at F'
    exact turn i o rts rn P pv pn Z u tx h tk I oi hi hO (hne _ (.head _)) (hne _ (.tail _ (.head _))) (hne _ (.tail _ (.tail _ (.head _)))) (hne _ (.tail _ (.tail _ (.tail _ (.head _))))) (hne _ (.tail _ (.tail _ (.tail _ (.tail _ (.head _)))))) (hne _ (.tail _ (.tail _ (.tail _ (.tail _ (.tail _ (.head _))))))) (fun p hp => hne p (.tail _ (.tail _ (.tail _ (.tail _ (.tail _ (.tail _ hp))))))) F' N'
  · rintro ⟨o, rts, rn, P, pv, pn, Z⟩ u h tk hO F' N'
    exact done o rts rn P pv pn Z u h tk hO F' N'
end
/-- a root is taken in -/
theorem Open3.put {w : World} {cc pl fg hl wl rl pd : Nat} {fo o o' : Obj} {xs ws : List Nat} {nw i : Nat} {W : Nat → List Nat} {rts : List (Value × List Nat × Nat)} {P : List Nat} {pv svs : List Value} {Z tl : Led} (H : Open3 w cc pl fg hl wl rl pd fo xs ws nw W i o rts P pv Z) (hP : PObj pl fg fo o')
    (r1 : ∀ p ∈ tl ++ Z, @Ne Nat p.1 pl) (r2 : ∀ p ∈ tl ++ Z, @Ne Nat p.1 cc) (r3 : ∀ p ∈ tl ++ Z, @Ne Nat p.1 fg) (r4 : ∀ p ∈ tl ++ Z, @Ne Nat p.1 hl) (r6 : ∀ p ∈ tl ++ Z, @Ne Nat p.1 rl) (r7 : ∀ p ∈ tl ++ Z, @Ne Nat p.1 pd)
    {v : Nat} {ls : List Nat} {kk : Nat} (hval : Val w xs tl (.ref v) ls kk) (hlen : ls.length + 1 ≤ BB 2 ∧ kk + 3 ≤ 2 * BB 2) (hlt : ∀ i ∈ ls, i < xs.length) (hi : IntsAre svs (ls.map fun i : Nat => (i : Int))) :
    Open3 w cc pl fg hl wl rl pd fo xs ws nw W (i + 1) o' (rts ++ [(.ref v, ls, kk)]) (P ++ ls) (pv ++ svs) (tl ++ Z) := by
  have hB : BB 2 = 8 := rfl
  have up : ∀ p ∈ Z, p ∈ tl ++ Z := fun p hp => List.mem_append_right _ hp
  refine ⟨H.graph.mono up, H.num, hP, r2, r1, r3, r4, r6, r7, up _ H.wl', fun i wy h => let ⟨svs, ns, h1, h2⟩ := H.way i wy h; ⟨svs, ns, up _ h1, h2⟩, H.wlt, H.wlen, fun t ht => ?_, fun j => ?_, fun j hj => ?_, ?_, ?_, ?_⟩
  · rcases List.mem_append.mp ht with ht | ht
    · exact ⟨(H.vals t ht).1.mono up, (H.vals t ht).2⟩
    · rw [List.mem_singleton.mp ht]
      exact ⟨hval.mono fun p hp => List.mem_append_left _ hp, by show kk ≤ 29; omega⟩
  · rw [List.mem_append, H.mem j, spots_app, List.mem_append]
    simp [spots]
  · rcases List.mem_append.mp hj with hj | hj
    · exact H.lt j hj
    · exact hlt j hj
  · have := H.nr
    rw [List.length_append]
    show rts.length + 1 ≤ i + 1
    omega
  · have := H.np
    rw [List.length_append]
    omega
  · rw [List.map_append]; exact H.pints.append hi
theorem turn3_put {w : World} {h₀ : Heap} {L : Addr} {I cc pl fg hl wl rl pd nh nw rn pn tk i : Nat} {oi oc fo o o' : Obj} {xs ws : List Nat} {W : Nat → List Nat} {rts : List (Value × List Nat × Nat)} {P : List Nat} {pv svs : List Value} {Z tl : Led} {m₀ m' : Str → Option Value} {s₁ : Shared} {h' : Heap} (H : Open3 w cc pl fg hl wl rl pd fo xs ws nw W i o rts P pv Z) (hP : PObj pl fg fo o') (F : Fr h₀ L h' m')
    {v : Nat} {ls : List Nat} {kk : Nat} (N : News h₀ L h' ((I, oi) :: (cc, oc) :: (pl, o') :: (fg, fo) :: (hl, listOf (xs.map Value.ref).toArray nh) :: (rl, listOf ((rts.map (·.1)).toArray.push (.ref v)) rn) :: (pd, listOf (pv.toArray ++ svs.toArray) pn) :: (tl ++ Z)))
    (n1 : @Ne Nat cc I) (n2 : @Ne Nat pl I) (n3 : @Ne Nat fg I) (n4 : @Ne Nat hl I) (n5 : @Ne Nat rl I) (n6 : @Ne Nat pd I)
    (r1 : ∀ p ∈ tl ++ Z, @Ne Nat p.1 pl) (r2 : ∀ p ∈ tl ++ Z, @Ne Nat p.1 cc) (r3 : ∀ p ∈ tl ++ Z, @Ne Nat p.1 fg) (r4 : ∀ p ∈ tl ++ Z, @Ne Nat p.1 hl) (r5 : ∀ p ∈ tl ++ Z, @Ne Nat p.1 I) (r6 : ∀ p ∈ tl ++ Z, @Ne Nat p.1 rl) (r7 : ∀ p ∈ tl ++ Z, @Ne Nat p.1 pd)
    (hval : Val w xs tl (.ref v) ls kk) (hlen : ls.length + 1 ≤ BB 2 ∧ kk + 3 ≤ 2 * BB 2) (hlt : ∀ i ∈ ls, i < xs.length) (hi : IntsAre svs (ls.map fun i : Nat => (i : Int)))
    (hm : ∀ y, [Str.ofString "step", Str.ofString "value", Str.ofString "more"].contains y = false → m' y = m₀ y) : Turn3 w h₀ L cc pl fg hl wl rl pd oc fo xs ws nh nw W m₀ i I oi s₁ .next { s₁ with heap := h', toks := tk } := by
  have K := H.put hP r1 r2 r3 r4 r6 r7 hval hlen hlt hi
  have N2 : News h₀ L h' ((I, oi) :: led5 cc pl fg hl rl pd oc fo xs nh (o', rts ++ [(.ref v, ls, kk)], rn, P ++ ls, pv ++ svs, pn, tl ++ Z)) := by
    have e1 : (rts ++ [((Value.ref v), ls, kk)]).map (·.1) = rts.map (·.1) ++ [Value.ref v] := by simp
    have e2 : (pv ++ svs).toArray = pv.toArray ++ svs.toArray := by simp
    simp only [led5, e1, e2]
    rw [List.push_toArray] at N
    exact N
  refine StEnd.intro (o', rts ++ [(.ref v, ls, kk)], rn, P ++ ls, pv ++ svs, pn, tl ++ Z) F N2 (.head _) (fun p hp => .tail _ hp) (fun p hp => ?_) K hm
  simp only [led5] at hp
  rcases List.mem_cons.mp hp with rfl | hp
  · exact n1
  rcases List.mem_cons.mp hp with rfl | hp
  · exact n2
  rcases List.mem_cons.mp hp with rfl | hp
  · exact n3
  rcases List.mem_cons.mp hp with rfl | hp
  · exact n4
  rcases List.mem_cons.mp hp with rfl | hp
  · exact n5
  rcases List.mem_cons.mp hp with rfl | hp
  · exact n6
  · exact r5 p hp
theorem st3_ne {y : Str} (h : [Str.ofString "step", Str.ofString "value", Str.ofString "more"].contains y = false) : y ≠ Str.ofString "step" ∧ y ≠ Str.ofString "value" ∧ y ≠ Str.ofString "more" := by
  refine ⟨?_, ?_, ?_⟩ <;> rintro rfl <;> exact absurd h (by decide)
/-! the law's own search -/
abbrev toI (l : List Nat) : List Int := l.map fun i : Nat => (i : Int)
abbrev WSt := List Nat × List Value × Nat × List Nat × List Value × Nat
def wLed (pd ml : Nat) (rest : Led) (c : WSt) : Led := (pd, listOf c.2.1.toArray c.2.2.1) :: (ml, listOf c.2.2.2.2.1.toArray c.2.2.2.2.2) :: rest
def wFacts (c : WSt) : Prop := IntsAre c.2.1 (toI c.1) ∧ IntsAre c.2.2.2.2.1 (toI c.2.2.2.1)
def wMu (W : Nat → List Nat) (n : Nat) (c : WSt) : Nat := c.1.length + unseen (fun i => (W i).length) c.2.2.2.1 n
def wP (W : Nat → List Nat) (n : Nat) (r : List Nat) (c : WSt) : Prop := Srch W r c.2.2.2.1 c.1 ∧ wMu W n c ≤ 10000
def WTurn (h₀ : Heap) (L : Addr) (pd ml : Nat) (rest : Led) (m₀ : Str → Option Value) (P ML : List Nat) (s : Shared) (f : Flow) (s₂ : Shared) : Prop :=
  (f = .next ∨ f = .cont) ∧ ∃ h' tk m' pv pn mv mn, s₂ = { s with heap := h', toks := tk } ∧ Fr h₀ L h' m' ∧ News h₀ L h' ((pd, listOf (List.toArray pv) pn) :: (ml, listOf (List.toArray mv) mn) :: rest) ∧ IntsAre pv (toI P) ∧ IntsAre mv (toI ML) ∧ (∀ z, [Str.ofString "spot"].contains z = false → m' z = m₀ z)
theorem WTurn.intro {h₀ : Heap} {L : Addr} {pd ml pn mn tk : Nat} {rest led : Led} {m₀ m' : Str → Option Value} {P ML : List Nat} {pv mv : List Value} {its its2 : Array Value} {s : Shared} {f : Flow} {h' : Heap} (hf : f = .next ∨ f = .cont) (F : Fr h₀ L h' m') (N : News h₀ L h' led) (h1 : (pd, listOf its pn) ∈ led) (h2 : (ml, listOf its2 mn) ∈ led) (h3 : ∀ p ∈ rest, p ∈ led) (e1 : its = pv.toArray) (e2 : its2 = mv.toArray) (i1 : IntsAre pv (toI P)) (i2 : IntsAre mv (toI ML)) (hm : ∀ z, [Str.ofString "spot"].contains z = false → m' z = m₀ z) :
    WTurn h₀ L pd ml rest m₀ P ML s f { s with heap := h', toks := tk } := by
  subst e1
  subst e2
  refine ⟨hf, h', tk, m', pv, pn, mv, mn, rfl, F, fun p hp => N p ?_, i1, i2, hm⟩
  rcases List.mem_cons.mp hp with rfl | hp
  · exact h1
  rcases List.mem_cons.mp hp with rfl | hp
  · exact h2
  · exact h3 p hp
theorem ints_last {us : List Value} {P : List Nat} {j : Nat} (h : IntsAre us (toI (P ++ [j]))) : ∃ vs t, us = vs ++ [Value.int (j : Int) t] ∧ IntsAre vs (toI P) := by
  induction P generalizing us with
  | nil =>
    cases h with
    | cons n t h => cases h; exact ⟨[], t, rfl, .nil⟩
  | cons a r ih =>
    cases h with
    | cons n t h =>
      obtain ⟨vs, t', rfl, h2⟩ := ih h
      exact ⟨_ :: vs, t', rfl, .cons _ t h2⟩
theorem law_while {w : World} {A : Around} {E : Value → Shared → Prop} {Q : Flow → Shared → Prop} {s : Shared} {env : Env} {h₀ : Heap} {L : Addr} {test : Expr} {body : List Stmt} {pos : Pos} {m₀ : Str → Option Value} {pd ml pn mn n : Nat} {rest : Led} {W : Nat → List Nat} {P₀ : List Nat} {pv : List Value}
    (F : Fr h₀ L s.heap m₀) (N : News h₀ L s.heap ((pd, listOf pv.toArray pn) :: (ml, listOf (List.toArray ([] : List Value)) mn) :: rest)) (hi : IntsAre pv (toI P₀)) (hw : P₀.length + unseen (fun i => (W i).length) [] n ≤ 10000) (hin : ∀ i ∈ P₀, i < n) (hW : ∀ i, i < n → ∀ j ∈ W i, j < n)
    (fin : ∀ ML mv mn pn u h tk, IntsAre mv (toI ML) → Srch W P₀ ML [] → Fr h₀ L h (stF [Str.ofString "spot"] u m₀) → News h₀ L h ((pd, listOf (List.toArray ([] : List Value)) pn) :: (ml, listOf (List.toArray mv) mn) :: rest) →
      wpAny (model PySem.Challenge.rw_nz0470_01.row.prog w) A (isTrue test env (eval test env)) (fun b s₂ => if b = true then wpAny (model PySem.Challenge.rw_nz0470_01.row.prog w) A (execs body env) (fun _ _ => False) E s₂ else Q .next s₂) E { s with heap := h, toks := tk })
    (turn : ∀ P j tj pv mv ML mn pn u h tk, j < n → P.length ≤ 10000 → (W j).length ≤ 10000 → ML.length ≤ n → IntsAre pv (toI P) → IntsAre mv (toI ML) → Fr h₀ L h (stF [Str.ofString "spot"] u m₀) → News h₀ L h ((pd, listOf (List.toArray (pv ++ [Value.int (j : Int) tj])) pn) :: (ml, listOf (List.toArray mv) mn) :: rest) →
      wpAny (model PySem.Challenge.rw_nz0470_01.row.prog w) A (isTrue test env (eval test env)) (fun b s₂ => if b = true then wpAny (model PySem.Challenge.rw_nz0470_01.row.prog w) A (execs body env) (fun f s₃ => (j ∈ ML ∧ WTurn h₀ L pd ml rest m₀ P ML s f s₃) ∨ (j ∉ ML ∧ WTurn h₀ L pd ml rest m₀ (P ++ W j) (ML ++ [j]) s f s₃)) E s₂ else Q .next s₂) E { s with heap := h, toks := tk })
    (hE : PassesOwn (model PySem.Challenge.rw_nz0470_01.row.prog w) A env E := by passes_own) :
    wpAny (model PySem.Challenge.rw_nz0470_01.row.prog w) A (exec (.While test body [] pos) env) Q E s := by
  refine ksw_while (wLed pd ml rest) (fun _ => []) wFacts [Str.ofString "spot"] (wP W n P₀) (wMu W n) (P₀, pv, pn, [], [], mn) F N ⟨hi, .nil⟩ (fun _ h => nomatch h) ⟨Srch.start fun _ => Iff.rfl, hw⟩ ?_ hE
  rintro ⟨P, pv, pn, ML, mv, mn⟩ u h tk ⟨hp, hm⟩ ⟨hS, hmu⟩ F₁ N₁
  have F₂ : Fr h₀ L h (stF [Str.ofString "spot"] u m₀) := F₁
  have hlt := hS.lt hin hW
  have hML : ML.length ≤ n := nodup_lt hS.nd hlt
  have endT : ∀ {P' ML' : List Nat}, Srch W P₀ ML' P' → P'.length + unseen (fun i => (W i).length) ML' n < P.length + unseen (fun i => (W i).length) ML n → ∀ f s₂, WTurn h₀ L pd ml rest m₀ P' ML' s f s₂ →
      KswPost h₀ L s (wLed pd ml rest) (fun _ => []) wFacts [Str.ofString "spot"] m₀ (wP W n P₀) (wMu W n) Q (P, pv, pn, ML, mv, mn) f s₂ := by
    intro P' ML' hS' hl f s₂ hT
    obtain ⟨hf, h', tk', m', pv', pn', mv', mn', rfl, F', N', i1, i2, hm'⟩ := hT
    have k : KswEnd h₀ L s (wLed pd ml rest) (fun _ => []) wFacts [Str.ofString "spot"] m₀ (wP W n P₀) (wMu W n) (P, pv, pn, ML, mv, mn) { s with heap := h', toks := tk' } :=
      ksw_end (P', pv', pn', ML', mv', mn') F' N' (fun _ h => h) ⟨i1, i2⟩ (fun _ h => nomatch h) (fun z _ hz => hm' z hz) ⟨hS', Nat.le_of_lt (Nat.lt_of_lt_of_le hl hmu)⟩ hl
    rcases hf with rfl | rfl <;> exact k
  rcases List.eq_nil_or_concat P with rfl | ⟨P', j, rfl⟩
  · have e : pv = [] := by cases hp; rfl
    subst e
    refine wpAny_mono (fin ML mv mn pn u h tk hm hS F₂ N₁) (fun b s₂ p => ?_) fun _ _ e => e
    cases b with
    | false => exact p
    | true => exact wpAny_mono p (fun _ _ e => e.elim) fun _ _ e => e
  · rw [List.concat_eq_append] at *
    obtain ⟨vs, tj, rfl, hvs⟩ := ints_last hp
    have hj : j < n := (hS.pok j (by simp)).within (S := fun i => i < n) hin fun i hi k hk => hW i hi k hk
    have hmu' : P'.length + 1 + unseen (fun i => (W i).length) ML n ≤ 10000 := by
      have : wMu W n (P' ++ [j], vs ++ [Value.int (j : Int) tj], pn, ML, mv, mn) = P'.length + 1 + unseen (fun i => (W i).length) ML n := by simp [wMu]
      omega
    have hWj : (W j).length ≤ 10000 := by
      have h1 := unseen_take (K := fun i => (W i).length) (sl := []) (i := j) (by simp) hj
      have h2 : (W j).length ≤ unseen (fun i => (W i).length) [] n := by
        have : (fun i => (W i).length) j = (W j).length := rfl
        omega
      omega
    refine wpAny_mono (turn P' j tj vs mv ML mn pn u h tk hj (by omega) hWj hML hvs hm F₂ N₁) (fun b s₂ p => ?_) fun _ _ e => e
    cases b with
    | false => exact p
    | true =>
      refine wpAny_mono p (fun f s₃ q => ?_) fun _ _ e => e
      have hsp : ∀ k, k ∈ P' ++ [j] ↔ k = j ∨ k ∈ P' := fun k => by
        rw [List.mem_append, List.mem_singleton]; exact Or.comm
      rcases q with ⟨hin', hT⟩ | ⟨hni, hT⟩
      · refine endT (hS.again hin' hsp) ?_ f s₃ hT
        have hl : (P' ++ [j]).length = P'.length + 1 := by simp
        rw [hl]
        exact Nat.add_lt_add_right (Nat.lt_succ_self _) _
      · refine endT (hS.take (P' := P') hni hsp _ fun k => by rw [List.mem_append]) ?_ f s₃ hT
        have h1 := unseen_take (K := fun i => (W i).length) hni hj
        have : (fun i => (W i).length) j = (W j).length := rfl
        have hl : (P' ++ [j]).length = P'.length + 1 := by simp
        have hl2 : (P' ++ W j).length = P'.length + (W j).length := List.length_append
        rw [hl, hl2]
        generalize hu1 : unseen (fun i => (W i).length) (ML ++ [j]) n = a1 at *
        generalize hu2 : unseen (fun i => (W i).length) ML n = a2 at *
        have h3 : a1 + (W j).length = a2 := h1
        omega
theorem perm4 {h₀ h : Heap} {L : Addr} {a b c d e f g : Addr × Obj} {Z : Led} (N : News h₀ L h (a :: b :: c :: d :: e :: f :: g :: Z)) : News h₀ L h (g :: a :: b :: c :: d :: e :: f :: Z) := fun p hp => N p (by
  simp only [List.mem_cons] at hp ⊢
  rcases hp with h | h | h | h | h | h | h | h <;> simp [h])
section
variable {prog : Program} {w : World} {A : Around} {E : Value → Shared → Prop} {s : Shared} {h₀ : Heap} {L l : Addr} {news : Led}
/-- spot not in met -/
theorem spot_off {mv : List Value} {ML : List Nat} {mn j : Nat} {t : Tok} {Q : Value → Shared → Prop} (N : News h₀ L s.heap news) (hm : (l, listOf mv.toArray mn) ∈ news) (hi : IntsAre mv (toI ML))
    (h1 : j ∉ ML → Q (.bool true) s) (h2 : j ∈ ML → Q (.bool false) s) : wpAny (model prog w) A (compareOp .NotIn (.int (j : Int) t) (.ref l)) Q E s := by
  have hl : s.heap.IsList l mv.toArray := ⟨_, (N _ hm).1, rfl, mn, rfl⟩
  refine PySem.SeqAt.notIn_listAt (fun y => match y with | .int k _ => k == (j : Int) | _ => false) hl (fun y hy => ?_) ?_
  · have hm' : ∀ {us : List Value} {ns : List Int}, IntsAre us ns → ∀ y ∈ us, ∃ k t, y = Value.int k t := by
      intro us ns h
      induction h with
      | nil => intro y hy; cases hy
      | cons n t _ ih =>
        intro y hy
        rcases List.mem_cons.mp hy with rfl | hy
        · exact ⟨n, t, rfl⟩
        · exact ih y hy
    obtain ⟨k, t', rfl⟩ := hm' hi y (List.mem_toArray.mp hy)
    exact PySem.SeqAt.EqAt.int_int _ _ _ _
  · have key : ∀ {us : List Value} {P : List Nat}, IntsAre us (toI P) → (us.any (fun y => match y with | .int k _ => k == (j : Int) | _ => false) = true ↔ j ∈ P) := by
      intro us P
      induction P generalizing us with
      | nil => intro h; cases h; simp
      | cons a r ih =>
        intro h
        cases h with
        | cons n t h =>
          rw [List.any_cons, Bool.or_eq_true, ih h, List.mem_cons]
          constructor
          · rintro (h | h)
            · have : ((a : Nat) : Int) = j := by simpa using h
              exact .inl (by omega)
            · exact .inr h
          · rintro (h | h)
            · exact .inl (by simp [h])
            · exact .inr h
    have e : mv.toArray.any (fun y => match y with | .int k _ => k == (j : Int) | _ => false) = mv.any (fun y => match y with | .int k _ => k == (j : Int) | _ => false) := by simp
    rw [e]
    cases hb : mv.any (fun y => match y with | .int k _ => k == (j : Int) | _ => false) with
    | true => exact h2 ((key hi).mp hb)
    | false => exact h1 fun hj => absurd ((key hi).mpr hj) (by rw [hb]; exact Bool.false_ne_true)
end
theorem unseen_le {K : Nat → Nat} {b : Nat} (h : ∀ i, K i ≤ b) : ∀ n, unseen K [] n ≤ b * n
  | 0 => Nat.zero_le _
  | n + 1 => by
    have h1 := unseen_le h n
    have h2 := h n
    simp only [unseen, List.not_mem_nil, if_false]
    rw [Nat.mul_succ]
    omega
theorem reach_congr {W : Nat → List Nat} {r r' : List Nat} (h : ∀ i, i ∈ r ↔ i ∈ r') {i : Nat} (a : Reach W r i) : Reach W r' i := by
  induction a with
  | root hi => exact .root ((h _).mp hi)
  | step _ hj ih => exact .step ih hj
theorem reach_iff {W : Nat → List Nat} {r r' : List Nat} (h : ∀ i, i ∈ r ↔ i ∈ r') (i : Nat) : Reach W r i ↔ Reach W r' i := ⟨reach_congr h, reach_congr fun i => (h i).symm⟩
theorem law_loop {w : World} {A : Around} {E : Value → Shared → Prop} {Q : Flow → Shared → Prop} {s : Shared} {env : Env} {h₀ : Heap} {L : Addr} {test : Expr} {body : List Stmt} {pos : Pos} {m₀ : Str → Option Value} {cc pl fg hl wl rl pd ml pn mn nw i : Nat} {oc fo o ohl orl : Obj} {xs ws : List Nat} {W : Nat → List Nat} {rts : List (Value × List Nat × Nat)} {P : List Nat} {pv : List Value} {Z : Led}
    (H : Open3 w cc pl fg hl wl rl pd fo xs ws nw W i o rts P pv Z) (hi3 : i ≤ 3) (hx6 : xs.length ≤ 6) (F : Fr h₀ L s.heap m₀) (N : News h₀ L s.heap ((ml, listOf (List.toArray ([] : List Value)) mn) :: (cc, oc) :: (pl, o) :: (fg, fo) :: (hl, ohl) :: (rl, orl) :: (pd, listOf pv.toArray pn) :: Z))
    (fin : ∀ ML mv mn pn u h tk, IntsAre mv (toI ML) → Srch W P ML [] → Fr h₀ L h (stF [Str.ofString "spot"] u m₀) → News h₀ L h ((pd, listOf (List.toArray ([] : List Value)) pn) :: (ml, listOf (List.toArray mv) mn) :: ((cc, oc) :: (pl, o) :: (fg, fo) :: (hl, ohl) :: (rl, orl) :: Z)) →
      wpAny (model PySem.Challenge.rw_nz0470_01.row.prog w) A (isTrue test env (eval test env)) (fun b s₂ => if b = true then wpAny (model PySem.Challenge.rw_nz0470_01.row.prog w) A (execs body env) (fun _ _ => False) E s₂ else Q .next s₂) E { s with heap := h, toks := tk })
    (turn : ∀ P' j tj pv mv ML mn pn u h tk, j < xs.length → P'.length ≤ 10000 → (W j).length ≤ 10000 → ML.length ≤ xs.length → IntsAre pv (toI P') → IntsAre mv (toI ML) → Fr h₀ L h (stF [Str.ofString "spot"] u m₀) → News h₀ L h ((pd, listOf (List.toArray (pv ++ [Value.int (j : Int) tj])) pn) :: (ml, listOf (List.toArray mv) mn) :: ((cc, oc) :: (pl, o) :: (fg, fo) :: (hl, ohl) :: (rl, orl) :: Z)) →
      wpAny (model PySem.Challenge.rw_nz0470_01.row.prog w) A (isTrue test env (eval test env)) (fun b s₂ => if b = true then wpAny (model PySem.Challenge.rw_nz0470_01.row.prog w) A (execs body env) (fun f s₃ => (j ∈ ML ∧ WTurn h₀ L pd ml ((cc, oc) :: (pl, o) :: (fg, fo) :: (hl, ohl) :: (rl, orl) :: Z) m₀ P' ML s f s₃) ∨ (j ∉ ML ∧ WTurn h₀ L pd ml ((cc, oc) :: (pl, o) :: (fg, fo) :: (hl, ohl) :: (rl, orl) :: Z) m₀ (P' ++ W j) (ML ++ [j]) s f s₃)) E s₂ else Q .next s₂) E { s with heap := h, toks := tk })
    (hE : PassesOwn (model PySem.Challenge.rw_nz0470_01.row.prog w) A env E := by passes_own) :
    wpAny (model PySem.Challenge.rw_nz0470_01.row.prog w) A (exec (.While test body [] pos) env) Q E s := by
  have h1 := unseen_le (K := fun i => (W i).length) (b := 40) H.wlen xs.length
  have h2 := H.np
  exact law_while (n := xs.length) F (perm4 N) H.pints (by omega) H.lt (fun i _ j hj => H.wlt i j hj) fin turn hE
section
variable {prog : Program} {w : World} {A : Around} {E : Value → Shared → Prop} {s : Shared} {h₀ : Heap} {L a b : Addr} {news : Led} {Q : Value → Shared → Prop}
theorem ne_nil_yes {us : List Value} {n k : Nat} (N : News h₀ L s.heap news) (ha : (a, listOf (List.toArray us) n) ∈ news) (hb : (b, listOf (List.toArray ([] : List Value)) k) ∈ news) (h0 : 0 < us.length) (hu : A.units < cLine) (h : Q (.bool true) s) : wpAny (model prog w) A (compareOp .NotEq (.ref a) (.ref b)) Q E s := by
  have hl : s.heap.IsList a us.toArray := ⟨_, (N _ ha).1, rfl, n, rfl⟩
  have hr : s.heap.IsList b (List.toArray ([] : List Value)) := ⟨_, (N _ hb).1, rfl, k, rfl⟩
  exact EqBoolInt.of_rcne (SeqAt.RcNeAt.lists_lengths hl hr (by rw [List.size_toArray, List.size_toArray]; exact bne_iff_ne.mpr (Nat.ne_of_gt h0)) hu) h
theorem ne_nil_no {n k : Nat} (N : News h₀ L s.heap news) (ha : (a, listOf (List.toArray ([] : List Value)) n) ∈ news) (hb : (b, listOf (List.toArray ([] : List Value)) k) ∈ news) (hu : A.units < cLine) (h : Q (.bool false) s) : wpAny (model prog w) A (compareOp .NotEq (.ref a) (.ref b)) Q E s := by
  have hl : s.heap.IsList a (List.toArray ([] : List Value)) := ⟨_, (N _ ha).1, rfl, n, rfl⟩
  have hr : s.heap.IsList b (List.toArray ([] : List Value)) := ⟨_, (N _ hb).1, rfl, k, rfl⟩
  exact EqBoolInt.of_rcne (SeqAt.RcNeAt.lists (e := fun _ => true) hl hr rfl hu (fun j h1 => absurd h1 (by simp))) (by simpa using h)
end
/-! the last line: the numbers of what was met -/
theorem ints_get {us : List Value} {ns : List Int} (h : IntsAre us ns) : ∀ {i : Nat} {v : Value}, us[i]? = some v → ∃ k t, ns[i]? = some k ∧ v = Value.int k t := by
  induction h with
  | nil => intro i v h; simp at h
  | cons n t _ ih =>
    intro i v h
    cases i with
    | zero =>
      simp only [List.getElem?_cons_zero, Option.some.injEq] at h
      exact ⟨n, t, rfl, h.symm⟩
    | succ i =>
      rw [List.getElem?_cons_succ] at h
      simpa using ih h
section
variable {w : World} {A : Around} {E : Value → Shared → Prop} {s : Shared} {h₀ : Heap} {L : Addr} {m : Str → Option Value} {env : Env}
theorem numbers_src {x y : Str} {pv py ps pa : Pos} {scope : Scope} {cl : List (Str × Addr)} {c hl l nh n : Nat} {oc : Obj} {xs : List Nat} {news Z : Led} {s₁ : Shared} {W : Nat → List Nat} {K : Nat → Nat} {ML : List Nat} {mv : List Value} {Fin : Shared → List Value → Led → Prop}
    (F : Fr h₀ L s₁.heap m) (N : News h₀ L s₁.heap news) (X₀ : (KF w.params).In h₀) (G : Graph w xs Z W K) (hZ : ∀ p ∈ Z, p ∈ news)
    (hm : (l, listOf mv.toArray n) ∈ news) (hi : IntsAre mv (toI ML)) (hlt : ∀ i ∈ ML, i < xs.length) (hx6 : xs.length ≤ 6) (hML : ML.length ≤ 6)
    (hl' : (hl, listOf (xs.map Value.ref).toArray nh) ∈ news) (hcm : (c, oc) ∈ news) (hc : cl.lookup x = some c) (hd : oc.data = .cell (some (.ref hl))) (hh : A.handled = none)
    (kx : ∀ C', (compEnvC scope cl C' env).kindOf x = some .cell) (ky : ∀ C', (compEnvC scope cl C' env).kindOf y = some .local) (kf : ∀ C', (compEnvC scope cl C' env).scope.kind = .function)
    (bx : (x == ("__debug__" : Str)) = false) (by' : (y == ("__debug__" : Str)) = false)
    (fin : ∀ g vs, IntsAre vs (ML.map fun i : Nat => 10 + 3 * (i : Int)) → Fin { s₁ with heap := g } vs news) :
    LCg.CompSrc PySem.Challenge.rw_nz0470_01.row.prog w A h₀ L m env (.Attribute (.Subscript (.Name x pv) (.Name y py) ps) (Str.ofString "number") pa) y scope cl Fin (.ref l) s₁ := by
  have hbig : sizeLine = 16777216 := sizeLine_eq
  have hlen : mv.length = ML.length := by have := hi.length; rw [List.length_map] at this; exact this
  refine LCg.CompSrc.ledger hh F N hm (by rw [List.size_toArray]; omega) fun g => ?_
  have main : ∀ (k i : Nat) (ys : List Value), ML.length = i + k → IntsAre ys ((ML.take i).map fun i : Nat => 10 + 3 * (i : Int)) →
      LCg.CompRest PySem.Challenge.rw_nz0470_01.row.prog w A h₀ L m env (.Attribute (.Subscript (.Name x pv) (.Name y py) ps) (Str.ofString "number") pa) y scope cl { s₁ with heap := g } (LCg.SrcAt h₀ l mv.toArray) (fun i v => mv.toArray[i]? = some v) (Fin { s₁ with heap := g }) k i ys news := by
    intro k
    induction k with
    | zero =>
      intro i ys hk hys
      rw [List.take_of_length_le (by omega)] at hys
      exact fin g ys hys
    | succ k ih =>
      intro i ys hk hys
      refine LCg.CompRest.succ fun v I oI C' oC D m₂ h tk E' hv hC hy F' N' off ne => ?_
      have hv' : mv[i]? = some v := by simpa using hv
      obtain ⟨z, t, hz, rfl⟩ := ints_get hi hv'
      rw [List.getElem?_map] at hz
      cases hj : ML[i]? with
      | none => rw [hj] at hz; cases hz
      | some j =>
        rw [hj] at hz
        simp only [Option.map_some, Option.some.injEq] at hz
        subst hz
        have hjx : j < xs.length := hlt j (List.mem_of_getElem? hj)
        have hx : xs[j]? = some xs[j] := List.getElem?_eq_getElem hjx
        obtain ⟨vs1, vs2, its1, its2, hS, _⟩ := G.env j _ hx
        obtain ⟨tn, hG⟩ := hS.numOk
        have hsub : ∀ p ∈ news, p ∈ (I, oI) :: (C', oC) :: (D, LCg.lst ys) :: news := fun p hp => List.mem_cons_of_mem _ (List.mem_cons_of_mem _ (List.mem_cons_of_mem _ hp))
        refine Attribute_any_ (Subscript_ (lcf_cell N' hc (hsub _ hcm) hd ?_ (kf C') (kx C') bx))
        refine LCgL.ld_own N' (List.mem_cons_of_mem _ List.mem_cons_self) hC hy ?_ (kf C') (ky C') by'
        refine item_at (v := .ref xs[j]) N' (hsub _ hl') (Int.natCast_nonneg _) (by omega) (by rw [Int.toNat_natCast, List.getElem?_map, hx]; rfl) ?_
        refine hG F' X₀ (fun p hp => N' p (hsub p (hZ p hp))) ?_
        refine LCg.CompEnd.intro F' N' news (fun _ h => h) off (.inr ⟨_, hm, rfl, _, rfl⟩) ?_
        refine ih (i + 1) _ (by omega) ?_
        rw [List.take_add_one, hj, List.map_append]
        exact hys.append (.cons _ tn .nil)
  have hs : mv.toArray.size = ML.length := by rw [List.size_toArray]; exact hlen
  rw [hs]
  exact main ML.length 0 [] (by omega) .nil
theorem sorted_nums {prog : Program} {D : Nat} {ys : List Value} {ML : List Nat} {news : Led} {Q : Value → Shared → Prop} (F : Fr h₀ L s.heap m) (N : News h₀ L s.heap news) (hm : (D, LCg.lst ys) ∈ news) (hi : IntsAre ys (ML.map fun i : Nat => 10 + 3 * (i : Int))) (h6 : ML.length ≤ 6)
    (h : ∀ D vs' ns' c h', Fr h₀ L h' m → News h₀ L h' ((D, PySem.W.listOf vs'.toArray c) :: news) → IntsAre vs' ns' → ns'.Perm (ML.map fun i : Nat => 10 + 3 * (i : Int)) → ns'.Pairwise (· ≤ ·) → Q (.ref D) { s with heap := h' }) :
    wpAny (model prog w) A (call (.builtin "sorted") [.ref D]) Q E s :=
  kso_sorted F N ⟨_, (N _ hm).1, rfl, _, rfl⟩ hi (by rw [List.length_map]; omega) fun D vs' ns' c h' F' N' _ a1 _ a2 a3 _ => h D vs' ns' c h' F' N' a1 a2 a3
theorem eq_ints {prog : Program} {a b n k : Nat} {us vs : List Value} {ns : List Int} {news : Led} {Q : Value → Shared → Prop} (N : News h₀ L s.heap news) (ha : (a, listOf (List.toArray us) n) ∈ news) (hb : (b, listOf (List.toArray vs) k) ∈ news) (h1 : IntsAre us ns) (h2 : IntsAre vs ns) (hu : A.units < cLine) (h : Q (.bool true) s) :
    wpAny (model prog w) A (compareOp .Eq (.ref a) (.ref b)) Q E s := by
  have hl : s.heap.IsList a us.toArray := ⟨_, (N _ ha).1, rfl, n, rfl⟩
  have hr : s.heap.IsList b vs.toArray := ⟨_, (N _ hb).1, rfl, k, rfl⟩
  have e1 := h1.length
  have e2 := h2.length
  refine EqBoolInt.of_rc (k := true) ?_ h
  have := SeqAt.RcAt.lists (A := A) (e := fun _ => true) hl hr (by rw [List.size_toArray, List.size_toArray, e1, e2]) hu (fun j g1 g2 => ?_)
  · rwa [List.all_eq_true.mpr fun _ _ => rfl] at this
  · have f1 : us[j]? = some us.toArray[j] := by simp
    have f2 : vs[j]? = some vs.toArray[j] := by simp
    obtain ⟨x, t, hx, q1⟩ := ints_get h1 f1
    obtain ⟨y, u, hy, q2⟩ := ints_get h2 f2
    rw [hx] at hy
    cases hy
    rw [q1, q2]
    have := PySem.SeqAt.EqAt.int_int (A := A.in1) (s := s) x t x u
    rwa [beq_self_eq_true] at this
end
theorem Open3.met {w : World} {cc pl fg hl wl rl pd nw i : Nat} {fo o : Obj} {xs ws : List Nat} {W : Nat → List Nat} {rts : List (Value × List Nat × Nat)} {P : List Nat} {pv : List Value} {Z : Led} {ML : List Nat} (H : Open3 w cc pl fg hl wl rl pd fo xs ws nw W i o rts P pv Z) (S : Srch W P ML []) (hx6 : xs.length ≤ 6) : (∀ i ∈ ML, i < xs.length) ∧ ML.length ≤ 6 := by
  have h := S.lt H.lt fun i _ j hj => H.wlt i j hj
  exact ⟨h, Nat.le_trans (nodup_lt S.nd h) hx6⟩
theorem reached_law {w : World} {mean : ExcName → Option Value} {mg mb : Str → Option Value} {cc pl fg hl wl rl pd nw i rn : Nat} {fo o : Obj} {xs ws : List Nat} {W : Nat → List Nat} {rts : List (Value × List Nat × Nat)} {P : List Nat} {pv : List Value} {Z news : Led}
    {dp un : Nat} {gd : Option (List Code)} {cn : Str} {cs : Scope} {a : Addr} {ccd : Value} {cl : List (Str × Addr)} {outer : List Env} {A₀ : Around} {base h₀ : Heap} {L : Addr} {m : Str → Option Value} {s : Shared} {Q E : Value → Shared → Prop}
    (H : Open3 w cc pl fg hl wl rl pd fo xs ws nw W i o rts P pv Z) (hi3 : i ≤ 3) (hx6 : xs.length ≤ 6) (B : Below A₀ base outer h₀) (F : Fr h₀ L s.heap m) (X : (KF w.params).In h₀) (N : News h₀ L s.heap news) (T : Top VW Lo mean mg mb h₀) (hk : cs.kind = .function) (hdp : dp + 14 < 1000) (hun : un + 200 < 9900)
    (hZ : ∀ p ∈ Z, p ∈ news) (hrl : (rl, listOf (rts.map (·.1)).toArray rn) ∈ news)
    (ret : ∀ (l n : Nat) (h' : Heap) (tk' : Nat) (vs : List Value) (ns : List Int) (sl : List Nat), Fr h₀ L h' m → News h₀ L h' ((l, listOf vs.toArray n) :: news) → (∀ p ∈ news, @Ne Nat p.1 l) → IntsAre vs ns → ns.Perm (sl.map fun i : Nat => 10 + 3 * (i : Int)) → ns.Pairwise (· ≤ ·) → sl.Nodup → (∀ i, i ∈ sl ↔ Reach W P i) → Q (.ref l) { s with heap := h', toks := tk' }) :
    wpAny (model PySem.Challenge.rw_nz0470_01.row.prog w) (ktrTop dp un gd cn cs L a ccd cl outer) (call (.ref 55) [.ref rl]) Q E s := by
  have h1 := weight_le fun t ht => (H.vals t ht).2
  have h2 := unseen_le (K := fun _ => 100) (b := 100) (fun _ => Nat.le_refl _) xs.length
  have h3 := H.nr
  exact reached_ok w mean mg mb (H.graph.mono hZ) hrl (fun t ht => (H.vals t ht).1.mono hZ) hx6 (fun j hj => H.lt j ((H.mem j).mpr hj)) (fun i _ j hj => H.wlt i j hj) (by omega) B F X N T hk hdp hun
    fun l n h' tk' vs ns sl F' N' ne a1 a2 a3 a4 a5 => ret l n h' tk' vs ns sl F' N' ne a1 a2 a3 a4 fun j => (a5 j).trans (reach_iff (fun k => (H.mem k).symm) j)
section
variable {prog : Program} {w : World} {A : Around} {E : Value → Shared → Prop} {s : Shared} {h₀ : Heap} {L : Addr} {m : Str → Option Value} {news : Led}
theorem list_popU {pd n : Nat} {us : List Value} {v : Value} {news' : Led} {Q : Value → Shared → Prop} (F : Fr h₀ L s.heap m) (N : News h₀ L s.heap news) (U : Upd pd (listOf (us ++ [v]).toArray n) (listOf us.toArray (n + 1)) news news') (hl : us.length ≤ 10000)
    (h : ∀ h', Fr h₀ L h' m → News h₀ L h' news' → Q v { s with heap := h' }) : wpAny (model prog w) A (call (.builtin "list.pop") [.ref pd]) Q E s := by
  have hbig : sizeLine = 16777216 := sizeLine_eq
  exact kl_pop F N (p := us) (y := v) (by simpa using kpa_last v us) U (by simp; omega) h
theorem way_item {cc pl fg hl wl rl pd nw i j : Nat} {fo o : Obj} {xs ws : List Nat} {W : Nat → List Nat} {rts : List (Value × List Nat × Nat)} {P : List Nat} {pv : List Value} {Z : Led} {value slice : PySem.Expr} {u : Tok} {Q : Value → Shared → Prop}
    (H : Open3 w cc pl fg hl wl rl pd fo xs ws nw W i o rts P pv Z) (hx6 : xs.length ≤ 6) (N : News h₀ L s.heap news) (hZ : ∀ p ∈ Z, p ∈ news) (hj : j < xs.length)
    (h : ∀ wy svs ns, (wy, listOf (List.toArray svs) ns) ∈ Z → IntsAre svs (toI (W j)) → Q (.ref wy) s)
    (hs : subscripted slice false (.ref wl) (.int (j : Int) u) = operate [.ref wl, .int (j : Int) u] (getItem (.ref wl) (.int (j : Int) u)) := by with_unfolding_all rfl) :
    wpAny (model prog w) A (subscriptTail value slice (.ref wl) (.int (j : Int) u)) Q E s := by
  have hw : j < ws.length := H.num ▸ hj
  have e : ws[j]? = some ws[j] := List.getElem?_eq_getElem hw
  obtain ⟨svs, ns, h1, h2⟩ := H.way j _ e
  exact item_at N (hZ _ H.wl') (Int.natCast_nonneg _) (by omega) (by rw [Int.toNat_natCast, List.getElem?_map, e]; rfl) (h _ svs ns h1 h2) hs
theorem law_eq {a b n k : Nat} {us vs : List Value} {ns ns' : List Int} {W : Nat → List Nat} {P sl ML : List Nat} {Q : Value → Shared → Prop} (N : News h₀ L s.heap news) (ha : (a, listOf (List.toArray us) n) ∈ news) (hb : (b, listOf (List.toArray vs) k) ∈ news) (h1 : IntsAre us ns) (h2 : IntsAre vs ns')
    (p1 : ns.Perm (sl.map fun i : Nat => 10 + 3 * (i : Int))) (o1 : ns.Pairwise (· ≤ ·)) (nd : sl.Nodup) (r1 : ∀ i, i ∈ sl ↔ Reach W P i) (S : Srch W P ML []) (p2 : ns'.Perm (ML.map fun i : Nat => 10 + 3 * (i : Int))) (o2 : ns'.Pairwise (· ≤ ·)) (hu : A.units < cLine) (h : Q (.bool true) s) :
    wpAny (model prog w) A (compareOp .Eq (.ref a) (.ref b)) Q E s := by
  have e : ns = ns' := two_sorted (f := fun i : Nat => 10 + 3 * (i : Int)) nd S.nd (fun i => (r1 i).trans (S.fin i).symm) p1 p2 o1 o2
  subst e
  exact eq_ints N ha hb h1 h2 hu h
end
theorem wturn_old {h₀ : Heap} {L : Addr} {pd ml pn mn tk j : Nat} {rest led : Led} {m₀ m' : Str → Option Value} {P ML : List Nat} {us mv : List Value} {s : Shared} {f : Flow} {h' : Heap} {B : Prop} (hj : j ∈ ML) (hf : f = .next ∨ f = .cont) (F : Fr h₀ L h' m') (N : News h₀ L h' led) (h1 : (pd, listOf us.toArray pn) ∈ led) (h2 : (ml, listOf mv.toArray mn) ∈ led) (h3 : ∀ p ∈ rest, p ∈ led) (i1 : IntsAre us (toI P)) (i2 : IntsAre mv (toI ML)) (hm : ∀ z, [Str.ofString "spot"].contains z = false → m' z = m₀ z) :
    (j ∈ ML ∧ WTurn h₀ L pd ml rest m₀ P ML s f { s with heap := h', toks := tk }) ∨ B := .inl ⟨hj, WTurn.intro hf F N h1 h2 h3 rfl rfl i1 i2 hm⟩
theorem wturn_new {h₀ : Heap} {L : Addr} {pd ml pn mn tk j : Nat} {t : Tok} {rest led : Led} {m₀ m' : Str → Option Value} {P ML Wj : List Nat} {us mv svs : List Value} {s : Shared} {f : Flow} {h' : Heap} {B : Prop} (hj : j ∉ ML) (hf : f = .next ∨ f = .cont) (F : Fr h₀ L h' m') (N : News h₀ L h' led) (h1 : (pd, listOf (us.toArray ++ svs.toArray) pn) ∈ led) (h2 : (ml, listOf (mv.toArray.push (.int (j : Int) t)) mn) ∈ led) (h3 : ∀ p ∈ rest, p ∈ led) (i1 : IntsAre us (toI P)) (i2 : IntsAre mv (toI ML)) (i3 : IntsAre svs (toI Wj)) (hm : ∀ z, [Str.ofString "spot"].contains z = false → m' z = m₀ z) :
    B ∨ (j ∉ ML ∧ WTurn h₀ L pd ml rest m₀ (P ++ Wj) (ML ++ [j]) s f { s with heap := h', toks := tk }) :=
  .inr ⟨hj, WTurn.intro (pv := us ++ svs) (mv := mv ++ [.int (j : Int) t]) hf F N h1 h2 h3 (by simp) (by simp) (by rw [toI, List.map_append]; exact i1.append i3) (by rw [toI, List.map_append]; exact i2.append (.cons _ t .nil)) hm⟩
theorem stw_ne {y : Str} (h : [Str.ofString "spot"].contains y = false) : y ≠ Str.ofString "spot" := by
  rintro rfl; exact absurd h (by decide)
theorem fillT : (∀ P, KF P = KF P) ∧ PySem.Challenge.rw_nz0470_01 = PySem.Challenge.rw_nz0470_01 := by
  k_fill
  exact ⟨fun _ => rfl, rfl⟩
theorem lnMTa : True := by
  k_with "t k_all" => (assumption)
  k_with "t k_mem" => (first | exact List.Mem.head _ | (refine' List.mem_cons_of_mem _ ?_; k_mem) | ktr_member | (ktn_app; first | (refine List.mem_append.mpr (Or.inl ?_); k_mem) | (refine List.mem_append.mpr (Or.inr ?_); k_mem)))
  k_with "t k_room" => (ktr_room)
  k_with "t k_units" => (ktr_units)
  k_with "m callWith ref" => ((k_here; k_dflt (first
    | (refine' callWith_K ?w222k1 ?w222k2 ?_; (case w222k1 => k_asm); (case w222k2 => k_is); k_whole)
    | (refine' callWith_K0 ?w222k1 ?w222k2 ?_; (case w222k1 => k_in); (case w222k2 => k_is); k_whole))))
  k_with "t tbn_lt" => (first | tbn_find | exact allLt_of (by assumption) | exact allLt_r (by tbn_find) | exact allLt_r (allLt_r (by tbn_find)) | exact tbn_up (by assumption) (by first | tbn_find | exact allLt_of (by assumption) | exact allLt_r (by tbn_find) | exact allLt_r (allLt_r (by tbn_find))))
  k_with "t tb_start" => (first | exact Led3.base0 | exact Led3.base2 (by assumption) (by assumption) | exact Led3.base1 (by assumption) | (refine' Led3.step ?w224tba ?w224tbb ?w224tbc ?w224tbd ?w224tbe; (case w224tba => omega); (case w224tbb => omega); (case w224tbc => omega); (case w224tbd => tbn_lt); (case w224tbe => tb_start)))
  k_with "t tb_rel" => ((intro p hp; (repeat' (refine List.Mem.tail _ ?_)); first | exact hp | exact List.mem_append_left _ hp | exact List.mem_append_right _ hp))
  k_with "t k_enter" => ((refine' code_def ?w226k1 ?w226k2 ?w226k3 ?w226k4 ?w226k5 ?w226kA ?w226kF ?w226kK ?w226k6 ?w226k7 ?w226k8 ?w226k9 ?w226kB ?_ ?w226c2 ?w226c3 ?w226c4 ?w226c5; (case w226kA => exact rfl); (case w226kF => exact rfl); (case w226kK => first | exact rfl | assumption); (case w226k1 => k_asm); (case w226k2 => k_asm); (case w226k3 => k_asm); (case w226k4 => k_asm); (case w226k5 => k_asm); (case w226k6 => k_is); (case w226k7 => k_is); (case w226k8 => ktr_room); (case w226k9 => first | exact BindsTo.of_eq rfl | exact binds_K (by k_in) rfl (by k_is) rfl rfl rfl); (case w226c5 => decide); (case w226kB => exact locs rfl); (case w226c2 => exact rfl); (case w226c3 => exact rfl); (case w226c4 => exact rfl); k_whole; intro g' L' h' FG' F' N' B' X' T'; (try dsimp only); (try k_fold)))
  k_with "t k_enter" => ((refine' code_defC ?w227k1 ?w227k2 ?w227k3 ?w227k4 ?w227k5 ?w227kA ?w227kF ?w227kK ?w227k6 ?w227k7 ?w227k8 ?w227k9 ?w227kB ?w227kD ?_ ?w227c2 ?w227c3 ?w227c4; (case w227kA => exact rfl); (case w227kF => exact rfl); (case w227kK => first | exact rfl | assumption); (case w227k1 => k_asm); (case w227k2 => k_asm); (case w227k3 => k_asm); (case w227k4 => k_asm); (case w227k5 => k_asm); (case w227k6 => k_is); (case w227k7 => k_is); (case w227k8 => ktr_room); (case w227k9 => first | exact BindsTo.of_eq rfl | exact binds_K (by k_in) rfl (by k_is) rfl rfl rfl); (case w227kB => exact rfl); (case w227kD => decide +kernel); (case w227c2 => exact rfl); (case w227c3 => exact rfl); (case w227c4 => exact rfl); k_whole; intro g' L' h' tk' cells' FG' F' N' Y' B' X' T' l1; (try k_lt l1); k_cells Y'; (try simp only [List.cons_append, List.nil_append] at N'); (try dsimp only); (try k_fold)))
  k_with "m CompEnd" => ((k_dflt (refine LCg.CompEnd.intro (by assumption) (by assumption) _ (fun _ h => h) (by assumption) (by lcg_src) ?_)))
  k_with "m eval ListComp" => ((k_here; lcf_look; lcg_calm; k_dflt (refine ListComp_D (by k_asm) (by with_unfolding_all rfl) (by decide) (by rfl) (by decide) (by rfl) ?_)))
  k_with "m exec Assign cons ListComp" => ((k_here; lcf_look; lcg_calm; k_dflt (refine Assign_ListComp_D (by k_asm) (by rfl) (by with_unfolding_all rfl) (by with_unfolding_all rfl) (by decide) (by rfl) (by decide) (by rfl) (by rfl) (by rfl) ?_)))
  k_with "m SrcD" => ((k_dflt (refine' SrcD.intro ?w231F ?w231N ?w231X ?w231D ?w231lo ?w231dd ?w231m ?w231gt ?_ ?w231c ?w231d ?w231z ?w231hh ?w231kx ?w231ky ?w231kf ?w231bx ?w231by_; (case w231F => k_asm); (case w231N => k_asm); (case w231X => k_asm); (case w231D => k_mem); (case w231lo => assumption); (case w231dd => assumption); (case w231c => rfl); (case w231m => k_mem); (case w231d => k_asm); (case w231gt => (first | (refine GetOk.mono (by assumption) ?_; tb_rel) | (intro A1 E1 s1 h1 L1 m1 Q1 F1 X1 N1 q1; refine' get_own F1 X1 ?w231k3 ?w231k4 ?w231k5 ?w231k6 ?w231k7 ?w231k8 ?w231k9 q1; (case w231k3 => k_inst); (case w231k4 => k_is); (case w231k5 => k_is); (case w231k6 => k_is); (case w231k7 => k_is); (case w231k8 => k_get); (case w231k9 => k_handed)))); (case w231z => first | exact Nat.le_of_ble_eq_true rfl | (rw [sizeLine_eq]; omega)); (case w231hh => rfl); (case w231kx => intro _; rfl); (case w231ky => intro _; rfl); (case w231kf => intro _; rfl); (case w231bx => decide); (case w231by_ => decide)); intro s2' hs2'; obtain ⟨g', eg'⟩ := hs2'; subst eg'; dsimp only [List.map]))
  k_with "t tb_rel" => ((intro p hp; first | exact hp | (repeat' (first | exact hp | (refine List.Mem.tail _ ?_)))))
  k_with "t tb_start" => ((refine read_fin ret (by k_asm) (by k_asm) (by k_mem) (by tb_rel) (by first | exact ltNe (by first | tbn_find | exact allLt_of (by assumption)) | exact off1_ne (by assumption) | exact off1_ne (And.right (And.right (by assumption))) | exact off1_ne (And.right (by assumption)))))
  k_with "m call ref" => ((k_here; (with_reducible show wpAny _ _ (call (Value.ref 312) _) _ _ _); k_dflt (refine' pick_call ?w234B ?w234F ?w234X ?w234N ?w234T ?w234hk ?w234hd ?w234hP ?w234hfg ?w234U ?w234h0 ?w234h1 ?_; (case w234B => k_asm); (case w234F => k_asm); (case w234X => k_asm); (case w234N => k_asm); (case w234T => k_asm); (case w234hk => first | exact rfl | assumption); (case w234hd => ktr_room); (case w234hP => assumption); (case w234hfg => k_mem); (case w234U => k_updF); (case w234h0 => first | decide | omega); (case w234h1 => first | decide | omega)); intro k' t' o' h' tk' k0' k1' P' F' N'; (try dsimp only at N'); (try dsimp only); (try k_fold)))
  k_with "m call ref" => ((k_here; (with_reducible show wpAny _ _ (call (Value.ref 305) _) _ _ _); k_dflt (refine' pool_ok _ _ _ _ ?w235B ?w235F ?w235X ?w235N ?w235T ?w235hk ?w235hd ?w235hu ?w235l ?w235i ?w235z ?_; (case w235B => k_asm); (case w235F => k_asm); (case w235X => k_asm); (case w235N => k_asm); (case w235T => k_asm); (case w235hk => first | exact rfl | assumption); (case w235hd => ktr_room); (case w235hu => ktr_units); (case w235l => assumption); (case w235i => assumption); (case w235z => omega)); intro pl' fg' fo' o' h' tk' F' N' l1 l2 P'; (try k_lt l1); (try k_lt l2); (have hne' := PObj.ne P'); (try dsimp only); (try k_fold)))
  k_with "m call type:range" => (((rename Fr _ _ _ _ => F'); (rename News _ _ _ _ => N'); (with_unfolding_all refine range1_rows F' N' ?_; intro _ _ _ _ _ _ F' N' _)))
  k_with "m pyIter ref" => ((k_here; k_dflt (refine' loop1 ?w237hh ?w237hr ?w237b0 ?w237b1 ?w237F ?w237N ?w237hp ?w237hw ?w237hc ?w237P ?w237c1 ?w237c2 ?w237c3 ?w237c4 ?w237c5 ?_ ?_; (case w237hh => exact rfl); (case w237hr => with_reducible assumption); (case w237b0 => omega); (case w237b1 => omega); (case w237F => k_asm); (case w237N => k_asm); (case w237hp => exact rfl); (case w237hw => exact rfl); (case w237hc => with_reducible assumption); (case w237P => with_reducible assumption); (case w237c1 => k_mem); (case w237c2 => k_mem); (case w237c3 => k_mem); (case w237c4 => k_mem); (case w237c5 => k_mem)); (intro i9 recs9 o9 nh9 nw9 Z9 u9 tx9 h' tk' I9 oi9 hi9 hO9 n1 n2 n3 n4 n5 hI9 F' N'; (have hP9 := hO9.pool); (have q1 := hO9.cc'); (have q2 := hO9.pl'); (have q3 := hO9.fg'); (have q4 := hO9.hl'); (have q5 := hO9.wl'); (have q6 := hO9.len)); rotate_left; (intro recs9 o9 nh9 nw9 Z9 u9 h' tk' hO9 F' N'; (have hP9 := hO9.pool); (have q1 := hO9.cc'); (have q2 := hO9.pl'); (have q3 := hO9.fg'); (have q4 := hO9.hl'); (have q5 := hO9.wl'); (have q6 := hO9.len); (have q7 : (recs9.map fun r => r.x).length = recs9.length := List.length_map ..); (have q8 : 0 < (recs9.map fun r => r.x).length := by omega); (have q9 : (recs9.map fun r => r.x).length ≤ 6 := by omega)); rotate_right))
  k_with "m subscriptTail Name BinOp ref int" => ((k_here; k_dflt (refine' rec_item ?w238N ?w238m ?w238a ?w238b ?w238c ?_ ?w238hs; (case w238N => k_asm); (case w238m => k_mem); (case w238a => omega); (case w238b => omega); (case w238c => omega); (case w238hs => with_unfolding_all rfl)); intro r9 hr9))
  k_with "m call ref" => ((k_here; (with_reducible show wpAny _ _ (call (Value.ref 209) _) _ _ _); k_dflt (refine' mk_env _ _ _ _ _ _ _ ?w239B ?w239F ?w239X ?w239N ?w239T ?w239hk ?w239hd ?w239hu ?_; (case w239B => k_asm); (case w239F => k_asm); (case w239X => k_asm); (case w239N => k_asm); (case w239T => k_asm); (case w239hk => first | exact rfl | assumption); (case w239hd => ktr_room); (case w239hu => ktr_units)); intro x' dx' fr' lk' n' hs' t' of' h' tk' F' N' a1 a2 a3 a4 a5 lo' hd'; (try dsimp only [AllLt] at a1 a2 a3); (try dsimp only); (try k_fold)))
  k_with "m ite" => ((k_here; first | with_reducible refine ite_tt ?_ | with_reducible refine ite_ff ?_ | (with_reducible refine split_dec ?_ ?_ <;> (intro hif9; first | (exfalso; omega) | skip))))
  trivial
theorem split2 {P : Int → Prop} {k : Int} (h0 : 0 ≤ k) (h1 : k < 2) (c0 : P 0) (c1 : P 1) : P k := by
  have : k = 0 ∨ k = 1 := by omega
  rcases this with rfl | rfl <;> assumption
theorem value1 (w : World) (mean : ExcName → Option Value) (mg mb : Str → Option Value) : ValueOk w mean mg mb (0 + 1) := value_step w mean mg mb 0 (by decide) (value0 w mean mg mb)
theorem value2 (w : World) (mean : ExcName → Option Value) (mg mb : Str → Option Value) : ValueOk w mean mg mb (1 + 1) := value_step w mean mg mb 1 (by decide) (value1 w mean mg mb)
theorem value3 (w : World) (mean : ExcName → Option Value) (mg mb : Str → Option Value) : ValueOk w mean mg mb (2 + 1) := value_step w mean mg mb 2 (by decide) (value2 w mean mg mb)
theorem lnMTb : True := by
  k_with "m pyIter ref" => ((k_here; k_dflt (refine' loop2 ?w241hh ?w241hr ?w241b0 ?w241b1 ?w241F ?w241H ?w241P ?w241N ?_ ?_; (case w241hh => exact rfl); (case w241hr => with_reducible assumption); (case w241b0 => omega); (case w241b1 => omega); (case w241F => k_asm); (case w241H => with_reducible assumption); (case w241P => with_reducible assumption); (case w241N => k_asm)); (intro recs9 o9 nw9 V9 Z9 u9 j9 tx9 h' tk' I9 oi9 hO9 hlen9 n1 n2 n3 n4 n5 hI9 F' N'; (have hP9 := hO9.pool); (have q1 := hO9.cc'); (have q2 := hO9.pl'); (have q3 := hO9.fg'); (have q4 := hO9.hl'); (have q5 := hO9.wl')); rotate_left; (intro recs9 o9 nw9 V9 Z9 u9 h' tk' hO9 hlen9 F' N'; (have hP9 := hO9.pool); (have q1 := hO9.cc'); (have q2 := hO9.pl'); (have q3 := hO9.fg'); (have q4 := hO9.hl'); (have q5 := hO9.wl')); rotate_right))
  k_with "m call builtin:len" => ((k_here; (with_reducible show wpAny _ _ (call (Value.builtin "len") [Value.ref _]) _ _ _); k_dflt (refine' homes_len ?w242N ?w242m ?w242x ?_; (case w242N => k_asm); (case w242m => k_mem); (case w242x => assumption))))
  k_with "m call ref" => ((k_here; (with_reducible show wpAny _ _ (call (Value.ref 319) _) _ _ _); k_dflt (refine' value_law [_] ?w243B ?w243F ?w243X ?w243N ?w243T ?w243hk ?w243C ?w243hd ?w243hu ?w243hP ?w243h1 ?w243h2 ?w243h3 ?w243h4 ?w243h5 ?w243hZ ?w243g1 ?w243g2 ?w243g3 ?w243g4 ?w243g5 ?w243x0 ?w243x6 ?w243de ?_; (case w243de => exact (by decide : (0 : Int) + ((3 : Nat) : Int) = 3)); (case w243B => k_asm); (case w243F => k_asm); (case w243X => k_asm); (case w243N => k_asm); (case w243T => k_asm); (case w243hk => first | exact rfl | assumption); (case w243C => exact value3 _ _ _ _); (case w243hd => ktr_room); (case w243hu => ktr_units); (case w243hP => with_reducible assumption); (case w243h1 => omega); (case w243h2 => omega); (case w243h3 => omega); (case w243h4 => omega); (case w243h5 => k_all); (case w243hZ => assumption); (case w243g1 => assumption); (case w243g2 => assumption); (case w243g3 => assumption); (case w243g4 => assumption); (case w243g5 => exact List.forall_mem_singleton.mpr (by assumption)); (case w243x0 => assumption); (case w243x6 => assumption)); intro tp' sp' v' svs' np' ns' ls' k' tl' o' h' tk' F' N' P' b1 b2 b3 r1 r2 r3 r4 r5 r6 htp' hsp' hints' hval' hlen' hlt'; (have hz1 := hints'.length); (rw [List.length_map] at hz1); (have hB9 : BB 3 = 16 := rfl); (replace r6 := List.forall_mem_singleton.mp r6); (replace b2 := fun p hp => List.forall_mem_singleton.mp (b2 p hp)); (try dsimp only [List.cons_append, List.nil_append] at N'); (try dsimp only); (try k_fold)))
  k_with "m subscriptTail Constant str Call str int" => ((k_here; k_dflt (refine' ab_item ?w244a ?w244b ?_ ?w244hs ?w244ht; (case w244a => assumption); (case w244b => assumption); (case w244hs => with_unfolding_all rfl); (case w244ht => (intro _; with_unfolding_all rfl))); intro nm9 hnm9))
  k_with "m subscriptTail Name Name ref int" => ((k_here; k_dflt (refine' rec2 ?w245H ?w245N ?w245I ?w245m ?w245a ?w245b ?w245c ?_ ?w245hs; (case w245H => with_reducible assumption); (case w245N => k_asm); (case w245I => assumption); (case w245m => k_mem); (case w245a => omega); (case w245b => omega); (case w245c => omega); (case w245hs => with_unfolding_all rfl)); intro r9 hr9 hE9 hap9 hbp9; (obtain ⟨of9, hof9, lo9, hd9⟩ := hE9.frame); (obtain ⟨svs9, nsw9, hw9, hi9⟩ := hE9.way); (obtain ⟨_, hG9⟩ := hE9.frameGet); (have hk9 := hE9.keys2); (have hl9 := hE9.lsLen); (have hz9 := hi9.length); (rw [List.length_map] at hz9)))
  k_with "m subscriptTail Name Name ref int" => ((k_here; k_dflt (refine' rec3 ?w246H ?w246hr ?w246N ?w246m ?w246a ?w246c ?_ ?w246hs; (case w246H => with_reducible assumption); (case w246hr => with_reducible assumption); (case w246N => k_asm); (case w246m => k_mem); (case w246a => omega); (case w246c => omega); (case w246hs => with_unfolding_all rfl))))
  k_with "m getItem ref int" => ((k_here; k_dflt (refine' way3 ?w247H ?w247hr ?w247N ?w247m ?w247a ?w247c ?_; (case w247H => with_reducible assumption); (case w247hr => with_reducible assumption); (case w247N => k_asm); (case w247m => k_mem); (case w247a => omega); (case w247c => omega)); intro hws9))
  k_with "m pyIter ref" => ((k_here; k_dflt (refine' loop3 ?w248hh ?w248hr ?w248b0 ?w248b1 ?w248F ?w248H ?w248P ?w248N ?w248ap ?w248zr ?w248zp ?_ ?_; (case w248hh => exact rfl); (case w248hr => with_reducible assumption); (case w248b0 => omega); (case w248b1 => omega); (case w248F => k_asm); (case w248H => with_reducible assumption); (case w248P => with_reducible assumption); (case w248N => k_asm); (case w248ap => (refine ⟨?_, ?_, ?_, ?_, ?_, ?_⟩ <;> omega)); (case w248zr => exact allLt_mem (by first | tbn_find | exact allLt_of (by assumption))); (case w248zp => exact allLt_mem (by first | tbn_find | exact allLt_of (by assumption)))); (intro i9 o9 rts9 rn9 P9 pv9 pn9 Z9 u9 tx9 h' tk' I9 oi9 hi9 hO9 n1 n2 n3 n4 n5 n6 hI9 F' N'; (have hP9 := hO9.pool); (have q1 := hO9.cc'); (have q2 := hO9.pl'); (have q3 := hO9.fg'); (have q4 := hO9.hl'); (have q5 := hO9.rl'); (have q6 := hO9.pd'); (have hnp9 := hO9.np); (have hnr9 := hO9.nr); (have hz3 := hO9.pints.length); (rw [List.length_map] at hz3)); rotate_left; (intro o9 rts9 rn9 P9 pv9 pn9 Z9 u9 h' tk' hO9 F' N'; (have hP9 := hO9.pool); (have q1 := hO9.cc'); (have q2 := hO9.pl'); (have q3 := hO9.fg'); (have q4 := hO9.hl'); (have q5 := hO9.rl'); (have q6 := hO9.pd')); rotate_right))
  k_with "m call ref" => ((k_here; (with_reducible show wpAny _ _ (call (Value.ref 319) _) _ _ _); k_dflt (refine' value_law [_, _] ?w249B ?w249F ?w249X ?w249N ?w249T ?w249hk ?w249C ?w249hd ?w249hu ?w249hP ?w249h1 ?w249h2 ?w249h3 ?w249h4 ?w249h5 ?w249hZ ?w249g1 ?w249g2 ?w249g3 ?w249g4 ?w249g5 ?w249x0 ?w249x6 ?w249de ?_; (case w249de => exact (by decide : (1 : Int) + ((2 : Nat) : Int) = 3)); (case w249B => k_asm); (case w249F => k_asm); (case w249X => k_asm); (case w249N => k_asm); (case w249T => k_asm); (case w249hk => first | exact rfl | assumption); (case w249C => exact value2 _ _ _ _); (case w249hd => ktr_room); (case w249hu => ktr_units); (case w249hP => with_reducible assumption); (case w249h1 => omega); (case w249h2 => omega); (case w249h3 => omega); (case w249h4 => omega); (case w249h5 => k_all); (case w249hZ => assumption); (case w249g1 => assumption); (case w249g2 => assumption); (case w249g3 => assumption); (case w249g4 => assumption); (case w249g5 => exact List.forall_mem_cons.mpr ⟨by assumption, List.forall_mem_singleton.mpr (by assumption)⟩); (case w249x0 => assumption); (case w249x6 => assumption)); intro tp' sp' v' svs' np' ns' ls' k' tl' o' h' tk' F' N' P' b1 b2 b3 r1 r2 r3 r4 r5 r6 htp' hsp' hints' hval' hlen' hlt'; (have hz1 := hints'.length); (rw [List.length_map] at hz1); (have hB9 : BB 2 = 8 := rfl); (obtain ⟨r6, r7⟩ := List.forall_mem_cons.mp r6); (replace r7 := List.forall_mem_singleton.mp r7); (try dsimp only at r6); (try dsimp only at r7); (try dsimp only [List.cons_append, List.nil_append] at N'); (try dsimp only); (try k_fold)))
  k_with "m inplaceOp Add ref ref" => ((k_here; k_dflt (refine' iadd_lists ?w250F ?w250N ?w250U ?w250b ?w250z ?_; (case w250F => k_asm); (case w250N => k_asm); (case w250U => k_updF); (case w250b => (repeat' (first | assumption | (refine List.Mem.tail _ ?_)))); (case w250z => (simp only [List.size_toArray]; omega))); intro n' h' F' N'; (try dsimp only at N')))
  k_with "m inplaceOp Add ref ref" => ((k_here; k_dflt (refine' iadd_lists ?w251F ?w251N ?w251U ?w251b ?w251z ?_; (case w251F => k_asm); (case w251N => k_asm); (case w251U => k_updF); (case w251b => ((repeat' (refine List.Mem.tail _ ?_)); exact List.mem_append_left _ (by assumption))); (case w251z => (simp only [List.size_toArray]; omega))); intro n' h' F' N'; (try dsimp only at N')))
  k_with "m inplaceOp Add ref ref" => ((k_here; k_dflt (refine' way_iadd ?w252F ?w252N ?w252w ?w252s ?w252b ?w252f ?w252n ?w252z ?w252r ?_; (case w252F => k_asm); (case w252N => k_asm); (case w252w => assumption); (case w252s => assumption); (case w252b => assumption); (case w252f => assumption); (case w252n => assumption); (case w252z => omega); (case w252r => assumption)); intro n' h' r6' F' N'))
  k_with "m call builtin:list.append" => ((k_here; (with_reducible show wpAny _ _ (call (Value.builtin _) [Value.ref _, _]) _ _ _); k_dflt (refine' append_K ?w253k1 ?w253k2 ?w253k3 ?_ ?w253z; (case w253k1 => k_asm); (case w253k2 => k_asm); (case w253k3 => k_upd); (case w253z => (rw [sizeLine_eq]; simp only [List.size_toArray, List.length_map]; omega))); intro h' F' N'))
  k_with "m compareOp NotEq ref ref" => ((k_here; k_dflt (first | (refine' ne_nil_no ?w254N ?w254a ?w254b ?w254u ?_; (case w254N => k_asm); (case w254a => k_mem); (case w254b => k_mem); (case w254u => ktr_units)) | (refine' ne_nil_yes ?w254N ?w254a ?w254b ?w254z ?w254u ?_; (case w254N => k_asm); (case w254a => k_mem); (case w254b => k_mem); (case w254z => (rw [List.length_append]; exact Nat.succ_pos _)); (case w254u => ktr_units)))))
  k_with "m call builtin:list.pop" => ((k_here; k_dflt (refine' list_popU ?w255F ?w255N ?w255U ?w255l ?_; (case w255F => k_asm); (case w255N => k_asm); (case w255U => k_upd); (case w255l => omega)); intro h' F' N'))
  k_with "m compareOp NotIn int ref" => ((k_here; k_dflt (refine' spot_off ?w256N ?w256m ?w256i ?_ ?_; (case w256N => k_asm); (case w256m => k_mem); (case w256i => assumption)) <;> intro hno9))
  k_with "m subscriptTail Name Name ref int" => ((k_here; (have ho9 := ‹Open3 _ _ _ _ _ _ _ _ _ _ _ _ _ _ _ _ _ _ _›); (clear ho9); k_dflt (refine' way_item ?w257H ?w257x ?w257N ?w257z ?w257j ?_ ?w257hs; (case w257H => with_reducible assumption); (case w257x => omega); (case w257N => k_asm); (case w257z => tb_rel); (case w257j => assumption); (case w257hs => with_unfolding_all rfl)); intro wy9 svs9 ns9 hwy9 hsv9; (have hz9 := hsv9.length); (rw [List.length_map] at hz9)))
  k_with "m call ref" => ((k_here; (with_reducible show wpAny _ _ (call (Value.ref 55) _) _ _ _); k_dflt (refine' reached_law ?w258H ?w258i ?w258x ?w258B ?w258F ?w258X ?w258N ?w258T ?w258hk ?w258hd ?w258hu ?w258z ?w258r ?_; (case w258H => with_reducible assumption); (case w258i => omega); (case w258x => omega); (case w258B => k_asm); (case w258F => k_asm); (case w258X => k_asm); (case w258N => k_asm); (case w258T => k_asm); (case w258hk => first | exact rfl | assumption); (case w258hd => ktr_room); (case w258hu => ktr_units); (case w258z => tb_rel); (case w258r => k_mem)); intro l7 n7 h' tk' vs7 ns7 sl7 F' N' ne7 i7 p7 o7 d7 r7))
  k_with "m eval ListComp" => ((k_here; lcf_look; lcg_calm; k_dflt (refine LCg.ListComp_U (F₀ := by k_asm) (by with_unfolding_all rfl) (by decide) (by rfl) (by decide) (by rfl) ?_)))
  k_with "m CompSrc" => ((k_dflt (refine' numbers_src ?w260F ?w260N ?w260X (Open3.graph ?w260H) ?w260Z ?w260m ?w260i ?w260lt ?w260x6 ?w260m6 ?w260l ?w260c ?w260cl ?w260d ?w260hh ?w260kx ?w260ky ?w260kf ?w260bx ?w260by' ?_; (case w260H => with_reducible assumption); (case w260F => k_asm); (case w260N => k_asm); (case w260X => k_asm); (case w260Z => tb_rel); (case w260m => k_mem); (case w260i => assumption); (case w260lt => assumption); (case w260x6 => omega); (case w260m6 => assumption); (case w260cl => rfl); (case w260c => k_mem); (case w260d => k_asm); (case w260l => k_mem); (case w260hh => rfl); (case w260kx => intro _; rfl); (case w260ky => intro _; rfl); (case w260kf => intro _; rfl); (case w260bx => decide); (case w260by' => decide)); intro g8 vs8 hi8))
  k_with "m call builtin:sorted" => ((k_here; k_dflt (refine' sorted_nums ?w261F ?w261N ?w261m ?w261i ?w261h6 ?_; (case w261F => k_asm); (case w261N => k_asm); (case w261m => k_mem); (case w261i => assumption); (case w261h6 => assumption)); intro D6 vs6 ns6 c6 h' F' N' i6 p6 o6))
  k_with "m compareOp Eq ref ref" => ((k_here; k_dflt (refine' law_eq ?w262N ?w262a ?w262b ?w262i1 ?w262i2 ?w262p1 ?w262o1 ?w262nd ?w262r1 ?w262S ?w262p2 ?w262o2 ?w262u ?_; (case w262N => k_asm); (case w262a => k_mem); (case w262b => k_mem); (case w262i1 => assumption); (case w262i2 => assumption); (case w262p1 => assumption); (case w262o1 => assumption); (case w262nd => assumption); (case w262r1 => assumption); (case w262S => assumption); (case w262p2 => assumption); (case w262o2 => assumption); (case w262u => ktr_units))))
  k_with "m exec While Compare cons nil" => ((k_here; k_dflt (refine' law_loop ?w263H ?w263i ?w263x ?w263F ?w263N ?_ ?_ ?w263E; (case w263H => with_reducible assumption); (case w263i => omega); (case w263x => assumption); (case w263F => k_asm); (case w263N => k_asm); (case w263E => passes_own)); (intro ML9 mv9 mn9 pn9 u9 h' tk' hi9 hS9 F' N'; (obtain ⟨hmt9, hml9⟩ := Open3.met ‹Open3 _ _ _ _ _ _ _ _ _ _ _ _ _ _ _ _ _ _ _› hS9 (by omega)); (have hz8 := hi9.length); (rw [List.length_map] at hz8)); rotate_left; (intro P9 j9 tj9 pv9 mv9 ML9 mn9 pn9 u9 h' tk' hj9 hP9 hW9 hM9 hi9 hm9 F' N'; (have hz7 := hi9.length); (rw [List.length_map] at hz7); (have hz8 := hm9.length); (rw [List.length_map] at hz8)); rotate_right))
  k_with "m exec If" => ((k_here; (with_reducible show wpAny _ _ (exec (Stmt.If (Expr.Compare (Expr.Call ..) ..) ..) _) _ _ _); k_dflt (refine' join_if ?w264H ?w264F ?w264N ?_ ?_; (case w264H => with_reducible assumption); (case w264F => k_asm); (case w264N => k_asm)); rotate_left; (intro W9 o9 Z9 h' tk' hB9 F' N'; (have hP9 := hB9.pool); (have q1 := hB9.cc'); (have q2 := hB9.pl'); (have q3 := hB9.fg'); (have q4 := hB9.hl'); (have q5 := hB9.wl')); rotate_right))
  k_with "m subscriptTail Name UnaryOp ref int" => ((k_here; k_dflt (refine' last_item ?w265N ?w265m ?w265a ?w265b ?_ ?w265hs; (case w265N => k_asm); (case w265m => k_mem); (case w265a => assumption); (case w265b => assumption); (case w265hs => with_unfolding_all rfl))))
  k_with "m subscriptTail Name Constant ref int" => ((k_here; k_dflt (refine' rec0 ?w266H ?w266N ?w266m ?w266a ?_ ?w266hs; (case w266H => with_reducible assumption); (case w266N => k_asm); (case w266m => k_mem); (case w266a => assumption); (case w266hs => with_unfolding_all rfl)); intro r9 hr9 hpar9))
  k_with "m subscriptTail Name Constant ref int" => ((k_here; k_dflt (refine' way0 ?w267H ?w267hr ?w267N ?w267m ?_ ?w267hs; (case w267H => with_reducible assumption); (case w267hr => with_reducible assumption); (case w267N => k_asm); (case w267m => k_mem); (case w267hs => with_unfolding_all rfl))))
  k_with "m setAttr ref" => ((k_here; k_dflt (refine' attrs_law ?w268F ?w268X ?w268H ?w268r ?w268p ?w268N ?w268e ?_; (case w268F => k_asm); (case w268X => k_asm); (case w268H => with_reducible assumption); (case w268r => with_reducible assumption); (case w268p => with_reducible assumption); (case w268N => k_asm); (case w268e => exact allLt_mem (by first | tbn_find | exact allLt_of (by assumption)))); intro h' hs' n' lk' t' tn' tk' svs9 ns9 F' N' hi9 hl9 hw9 hd9 ho9; (have hz9 := hi9.length); (rw [List.length_map] at hz9)))
  k_with "m setItem ref str" => ((k_here; k_dflt (refine' set_frame [_, _, _, _, _, _] _ ?w269F ?w269N ?w269m ?w269d ?w269p ?w269k ?w269l ?_; (case w269F => k_asm); (case w269N => k_asm); (case w269m => exact List.mem_append_right _ (by assumption)); (case w269d => assumption); (case w269p => k_all); (case w269k => assumption); (case w269l => assumption)); intro h' o' F' N' hd'; (try dsimp only [List.cons_append, List.nil_append] at N')))
  k_with "m inplaceOp Add ref ref" => ((k_here; k_dflt (refine' way_iadd ?w270F ?w270N ?w270w ?w270s ?w270b ?w270f ?w270n ?w270z ?w270r ?_; (case w270F => k_asm); (case w270N => k_asm); (case w270w => assumption); (case w270s => assumption); (case w270b => assumption); (case w270f => assumption); (case w270n => assumption); (case w270z => omega); (case w270r => assumption)); intro n' h' r6' F' N'))
  k_with "m setItem ref int" => ((k_here; k_dflt (refine' set_way ?w271F ?w271N ?w271a ?w271b ?w271e ?w271U ?_; (case w271F => k_asm); (case w271N => k_asm); (case w271a => omega); (case w271b => omega); (case w271e => assumption); (case w271U => k_upd)); intro h' F' N'))
  k_with "t tb_rel" => ((intro p hp; (repeat' (first | exact hp | exact List.mem_append_right _ hp | (refine List.Mem.tail _ ?_)))))
  k_with "m getAttr ref" => ((k_here; k_dflt (first | (refine' GetOk.use ?w273G ?w273F ?w273X ?w273N ?w273s ?_; (case w273G => assumption); (case w273F => k_asm); (case w273X => k_asm); (case w273N => k_asm); (case w273s => tb_rel)))))
  k_with "m compareOp NotIn str ref" => ((k_here; k_dflt (refine' name_off ?w274N ?w274m ?w274lo ?w274d ?_ ?_; (case w274N => k_asm); (case w274m => k_mem); (case w274lo => assumption); (case w274d => assumption)); (intro hno9)))
  k_with "m assign Tuple" => ((k_here; k_dflt (refine' unpackN_ ?w275F ?w275N ?w275T ?w275k1 ?w275k2 ?w275k3 ?_; (case w275F => k_asm); (case w275N => k_asm); (case w275T => exact isTup_in (by k_asm) (by k_mem)); (case w275k1 => exact rfl); (case w275k2 => exact rfl); (case w275k3 => exact rfl)); intro h' F' N'; (try k_sweep)))
  trivial
set_option maxRecDepth 100000 in
set_option maxHeartbeats 8000000 in
theorem tt : PySem.Challenge.rw_nz0470_01.Holds := by
  w_on
  o_law
  refine holds_open (q := VW) (loose := [Str.ofString "number"]) (Xt := fun s => xlAt VW [] s && recOk (RowW.records PySem.Challenge.rw_nz0470_01.row.toRowW) s) (XP := XL VW []) (Yf := Hook.obs HK) (Ya := Hook.val HK) (YP := Hook.says HK) (N := 5600) ?hl (Hook.of HK) (Hook.keeps HK) (fun s e => xl_of s (Bool.and_eq_true_iff.mp e).1) XL.keeps (by rfl) (by rfl) (by rfl) (fun s e => recFacts_of (Bool.and_eq_true_iff.mp e).2) (by rfl) (by first | assumption | decide +kernel) (by decide +kernel) ⟨rfl, rfl, rfl, rfl, rfl, by decide +kernel⟩ ?hw ?hc
  case hl => exact hlOk
  case hw => w_witness2
  k_go0
  (all_goals try k_fold)
  k_steps
  · have hr := (‹_[_]? = some _›)
    refine turn1_fin ‹Open1 _ _ _ _ _ _ _ _ _ _ _› (by assumption) (some _) (by k_asm) (by k_asm) (by k_mem) (by k_mem) (by k_mem) (by k_mem) (by k_mem) (by k_mem) (by k_mem) (by k_mem) (by k_mem) (by k_mem) (by tb_rel) (parV_of hr) (lt_of_get hr) (ints_spot (by omega)) (by assumption) (by assumption) (by first | tbn_find | exact allLt_of (by assumption)) (by first | tbn_find | exact allLt_of (by assumption)) (by first | tbn_find | exact allLt_of (by assumption)) (by first | tbn_find | exact allLt_of (by assumption)) (by omega) (by assumption) ?_
    intro y h1 h2 h3
    simp only [stF, h1, h2, h3, if_false, Bool.false_eq_true]
  · refine turn1_fin ‹Open1 _ _ _ _ _ _ _ _ _ _ _› (by assumption) none (by k_asm) (by k_asm) (by k_mem) (by k_mem) (by k_mem) (by k_mem) (by k_mem) (by k_mem) (by k_mem) (by k_mem) (by k_mem) (svs := []) (by k_mem) (by tb_rel) rfl (fun _ h => nomatch h) .nil (by assumption) (by assumption) (by first | tbn_find | exact allLt_of (by assumption)) (by first | tbn_find | exact allLt_of (by assumption)) (by first | tbn_find | exact allLt_of (by assumption)) (by first | tbn_find | exact allLt_of (by assumption)) (by omega) (by assumption) ?_
    intro y h1 h2 h3
    simp only [stF, h1, h2, h3, if_false, Bool.false_eq_true]
  · refine turn2_put ‹Open2 _ _ _ _ _ _ _ _ _ _ _ _ _› (by with_reducible assumption) (by k_asm) (by with_reducible assumption) (by k_asm) (by omega) (by omega) (by omega) (by omega) (by omega) (by with_reducible assumption) (by with_reducible assumption) (by with_reducible assumption) (by with_reducible assumption) (by with_reducible assumption) (by with_reducible assumption) (by with_reducible assumption) (by with_reducible assumption) (by with_reducible assumption) (by with_reducible assumption) (by with_reducible assumption) (by with_reducible assumption) (by with_reducible assumption) (by with_reducible assumption) (by with_reducible assumption) ?_
    intro y hy
    obtain ⟨h1, h2, h3, h4, h5⟩ := st2_ne hy
    simp only [stF, h1, h2, h3, h4, h5, hy, if_false, Bool.false_eq_true]
  · refine turn2_keep ‹Open2 _ _ _ _ _ _ _ _ _ _ _ _ _› (by with_reducible assumption) (by k_asm) (by k_asm) (by omega) (by omega) (by omega) (by omega) (by omega) (by with_reducible assumption) (by with_reducible assumption) (by with_reducible assumption) (by with_reducible assumption) (by with_reducible assumption) (by with_reducible assumption) ?_
    intro y hy
    obtain ⟨h1, h2, h3, h4, h5⟩ := st2_ne hy
    simp only [stF, h1, h2, h3, h4, h5, hy, if_false, Bool.false_eq_true]
  · refine join_attrs ‹Open2 _ _ _ _ _ _ _ _ _ _ _ _ _› (by with_reducible assumption) (by with_reducible assumption) (by k_asm) (by k_asm) (by assumption) (by assumption) (by with_reducible assumption) (by first | rfl | omega) (by with_reducible assumption) (by omega)
  · exact JoinP.intro (Open2.fin ‹Open2 _ _ _ _ _ _ _ _ _ _ _ _ _› (by with_reducible assumption)) (by k_asm) (by k_asm)
  · refine turn3_put ‹Open3 _ _ _ _ _ _ _ _ _ _ _ _ _ _ _ _ _ _ _› (by with_reducible assumption) (by k_asm) (by k_asm) (by omega) (by omega) (by omega) (by omega) (by omega) (by omega) (by with_reducible assumption) (by with_reducible assumption) (by with_reducible assumption) (by with_reducible assumption) (by with_reducible assumption) (by with_reducible assumption) (by with_reducible assumption) (by with_reducible assumption) (by with_reducible assumption) (by with_reducible assumption) (by with_reducible assumption) ?_
    intro y hy
    obtain ⟨h1, h2, h3⟩ := st3_ne hy
    by_cases h4 : y = Str.ofString "pending"
    · subst h4; rfl
    · simp only [stF, h1, h2, h3, h4, hy, if_false, Bool.false_eq_true]
  all_goals first
    | (refine wturn_new (by assumption) (by first | exact .inl rfl | exact .inr rfl) (by k_asm) (by k_asm) (by k_mem) (by k_mem) (by tb_rel) (by assumption) (by assumption) (by assumption) ?_
       intro y hy
       have h1 := stw_ne hy
       by_cases h4 : y = Str.ofString "pending"
       · subst h4; rfl
       · simp only [stF, h1, h4, hy, if_false, Bool.false_eq_true])
    | (refine wturn_old (by assumption) (by first | exact .inl rfl | exact .inr rfl) (by k_asm) (by k_asm) (by k_mem) (by k_mem) (by tb_rel) (by assumption) (by assumption) ?_
       intro y hy
       have h1 := stw_ne hy
       simp only [stF, h1, hy, if_false, Bool.false_eq_true])
end Mine
theorem PySem.Challenge.cw_nz0470_01_holds : PySem.Challenge.rw_nz0470_01.Holds :=
  Mine.tt
