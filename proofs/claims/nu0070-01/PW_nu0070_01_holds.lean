import PyProof.Rows.All
import Wide.All
import OpenK.AllK
import Wide.FinOn
import Lean
import PySem.Challenge.RW_nu0070_01
open PySem PySem.W PySem.Calls PyProof.Rows
set_option Elab.async false
set_option autoImplicit false
set_option linter.unusedVariables false
set_option linter.unusedSectionVars false
set_option linter.unusedSimpArgs false
set_option pp.deepTerms false
set_option pp.proofs false
set_option maxRecDepth 100000
set_option maxHeartbeats 8000000
set_option rowWalk.seconds 0
namespace Mine
local macro_rules | `(tactic| walk_at $s:str) => `(tactic| k_extra $s)
local macro_rules | `(tactic| k_extra "nlt") => `(tactic| (rename (∀ p ∈ _, @LT.lt Nat _ (Prod.fst p) _) => l1; k_lt l1))
local macro_rules | `(tactic| k_extra "dsN") => `(tactic| (rename News _ _ _ _ => N9; dsimp only at N9))
local macro_rules | `(tactic| k_all) => `(tactic| k_extra "k_all")
local macro_rules | `(tactic| k_room) => `(tactic| k_extra "k_room")
local macro_rules | `(tactic| k_inst) => `(tactic| k_extra "k_inst")
local macro_rules | `(tactic| k_ne) => `(tactic| k_extra "k_ne")
local macro_rules | `(tactic| k_put) => `(tactic| k_extra "k_put")
local macro_rules | `(tactic| k_units) => `(tactic| k_extra "k_units")
local macro_rules | `(tactic| is_list) => `(tactic| k_extra "is_list")
noncomputable section
noncomputable def hs (x : String) (t : Nat) : Value := .str (.ofString x) t
noncomputable def he (P : Params) (x : String) (t : Nat) (v : Value) : DictEntry := ⟨PyData.keyHash P (.ofString x), hs x t, v⟩
noncomputable def hT (i : Nat) : Stmt := (PySem.Challenge.pw_nu0070_01.main.body.drop i).headD (.Pass ⟨0, 0, 0, 0⟩)
noncomputable def hC (i j : Nat) : Stmt := match hT i with | .ClassDef _ _ _ b .. => (b.drop j).headD (.Pass ⟨0, 0, 0, 0⟩) | s => s
noncomputable def hP : Stmt → Arguments | .FunctionDef _ a .. => a | _ => ⟨[], [], none, [], [], none, []⟩
noncomputable def hB : Stmt → List Stmt | .FunctionDef _ _ b .. => b | _ => []
noncomputable def hS : Stmt → Scope | .FunctionDef _ _ _ _ _ _ s .. => s | .ClassDef _ _ _ _ _ _ s .. => s | _ => PySem.Challenge.pw_nu0070_01.main.scope
noncomputable def ht (l : Array Value) : Obj := ⟨.type "tuple", .none, .seq l 0, #[]⟩
noncomputable def hf (l : Array Value) : Obj := ⟨.none, .none, .fields l, #[]⟩
noncomputable def hc (a : String) (ta : Nat) (b : String) (tb tf line k r1 r2 r3 r4 r5 n line' t' : Nat) : Obj := ⟨.type "code", .none, .fields #[hs a ta, hs b tb, hs "/claim/cut.py" tf, .int line 0, .int k 0, .int 0 0, .int 0 0, .int 3 0, .ref r1, .bool .true, .int 181 0, .ref r2, .none, .ref r3, .ref r4, .ref r5, .int n 0, .int line' 0, hs "/claim/cut.py" t'], #[]⟩
noncomputable def hg (a b : String) (s : Stmt) : Obj := ⟨.none, .none, .func ⟨.ofString a, .ofString b, hP s, .stmts (hB s), hS s, 0, [], .none, .none, .none, .none, .none, .none, .none, 0⟩, #[]⟩
noncomputable def hn (a b : String) (s : Stmt) (m : String) (t c : Nat) : Obj := ⟨.type "function", .none, .func ⟨.ofString a, .ofString b, hP s, .stmts (hB s), hS s, 3, [], .none, .none, .none, hs m t, .none, .ref c, .none, 0⟩, #[]⟩
noncomputable def hIns : BT → Nat → List Obj → BT
  | T, _, [] => T
  | T, n, o :: r => hIns (T.ins n o) (n + 1) r
noncomputable def hdO11 (_ : Params) : Obj := { cls := .type "tuple", data := .seq #[] }
noncomputable def hdO12 (_ : Params) : Obj := { cls := .none, data := .fields #[] }
noncomputable def hdO13 (_ : Params) : Obj := { cls := .type "code", data := .fields #[.str (Str.ofString "<module>") 182, .str (Str.ofString "<module>") 183, .str (Str.ofString "/claim/cut.py") 184, .int 1 0, .int 0 0, .int 0 0, .int 0 0, .int 0 0, .ref 11, .bool false, .int 181 0, .ref 12, .none, .none, .none, .none, .int 185 0, .int 1 0, .str (Str.ofString "/claim/cut.py") 186] }
noncomputable def hdO14 (_ : Params) : Obj := { cls := .type "frame", slots := #[some (.ref 13), some (.ref 3), some (.ref 3), none, some (.str (Str.ofString "__main__") 164), none, some (.ref 0)] }
noncomputable def hdTree (P : Params) : BT := (BT.node (boot_o_0 P) (BT.node (boot_o_1 P) (BT.node (boot_o_3 P) (BT.node (boot_o_7 P) BT.nil BT.nil) (BT.node (hdO11 P) BT.nil BT.nil)) (BT.node (boot_o_5 P) (BT.node (boot_o_9 P) BT.nil BT.nil) (BT.node (hdO13 P) BT.nil BT.nil))) (BT.node (boot_o_2 P) (BT.node (boot_o_4 P) (BT.node (boot_o_8 P) BT.nil BT.nil) (BT.node (hdO12 P) BT.nil BT.nil)) (BT.node (boot_o_6 P) (BT.node (boot_o_10 P) BT.nil BT.nil) (BT.node (hdO14 P) BT.nil BT.nil))))
noncomputable def hdSb (w : World) (os : OsState) : SharedT := ⟨hdTree w.params, 15, {}, #[], boot_drawn, 187, os⟩
noncomputable def hdEnv : Env := { scope := PySem.Challenge.pw_nu0070_01.main.scope, locals := mainNs, globals := mainNs, cells := [], code := .ref 13, frame := some 14 }
noncomputable def hdT1 (P : Params) : BT := hIns ((((hdTree P).set 2 fun _ => ⟨.none, .none, (.dict #[he P "type.__subclasses__.Exception.0" 221 (.int 38 0), he P "type.__subclasses__.Exception.n" 222 (.int 1 0)] 2), #[]⟩).set 3 fun _ => ⟨(.type "dict"), .none, (.dict #[he P "__name__" 165 (hs "markupmill.tree" 487), he P "__doc__" 166 .none, he P "__package__" 167 .none, he P "__loader__" 168 (.builtin "__main__.__loader__#opaque"), he P "__spec__" 169 .none, he P "__annotations__" 170 (.ref 6), he P "__builtins__" 171 (.ref 4), he P "__file__" 173 (hs "/claim/cut.py" 172), he P "__cached__" 174 .none, he P "_wall" 193 (.ref 21), he P "MarkupError" 224 (.ref 38), he P "TreeFault" 240 (.ref 51), he P "PathFault" 256 (.ref 63), he P "is_beside" 266 (.ref 72), he P "descendants" 277 (.ref 79), he P "ancestors" 287 (.ref 86), he P "siblings_ahead" 297 (.ref 93), he P "siblings_behind" 307 (.ref 100), he P "with_descendants" 317 (.ref 107), he P "following" 327 (.ref 114), he P "preceding" 338 (.ref 121), he P "namespaces_in_scope" 344 (.ref 126), he P "short_axis" 354 (.ref 133), he P "axis" 364 (.ref 140), he P "principal_kind" 373 (.ref 147), he P "bound_uri" 381 (.ref 154), he P "is_named" 393 (.ref 161), he P "passes" 406 (.ref 168), he P "lines_down" 417 (.ref 175), he P "place_among" 427 (.ref 182), he P "place_of" 439 (.ref 189), he P "in_order" 445 (.ref 194), he P "holds" 455 (.ref 201), he P "kept" 469 (.ref 208), he P "step_from" 475 (.ref 213), he P "step_nodes" 486 (.ref 220), he P "PARENTS" 491 (.ref 221), he P "NodeRow" 533 (.ref 238)] 38), #[]⟩).set 12 fun _ => hf #[(.int 1 0), (.int 0 0), (.ref 20), (.int 5 0), (.int 0 0), (.ref 27), (.int 10 0), (.int 0 0), (.ref 47), (.int 12 0), (.int 0 0), (.ref 59), (.int 15 0), (.int 0 0), (.ref 71), (.int 17 0), (.int 0 0), (.ref 78), (.int 24 0), (.int 0 0), (.ref 85), (.int 30 0), (.int 0 0), (.ref 92), (.int 36 0), (.int 0 0), (.ref 99), (.int 42 0), (.int 0 0), (.ref 106), (.int 48 0), (.int 0 0), (.ref 113), (.int 56 0), (.int 0 0), (.ref 120), (.int 64 0), (.int 0 0), (.ref 125), (.int 77 0), (.int 0 0), (.ref 132), (.int 94 0), (.int 0 0), (.ref 139), (.int 112 0), (.int 0 0), (.ref 146), (.int 114 0), (.int 0 0), (.ref 153), (.int 120 0), (.int 0 0), (.ref 160), (.int 125 0), (.int 0 0), (.ref 167), (.int 140 0), (.int 0 0), (.ref 174), (.int 146 0), (.int 0 0), (.ref 181), (.int 153 0), (.int 0 0), (.ref 188), (.int 159 0), (.int 0 0), (.ref 193), (.int 163 0), (.int 0 0), (.ref 200), (.int 169 0), (.int 0 0), (.ref 207), (.int 178 0), (.int 0 0), (.ref 212), (.int 181 0), (.int 0 0), (.ref 219), (.int 185 0), (.int 0 0), (.ref 227)]) 15 [
  ht #[],
  hf #[],
  ht #[(hs "k" 190)],
  ht #[],
  hg "_wall" "_wall" (hT 0),
  hc "_wall" 187 "_wall" 188 189 1 1 15 16 17 18 19 191 1 192,
  hn "_wall" "_wall" (hT 0) "__main__" 164 20,
  ht #[(.type "Exception")],
  ⟨(.type "builtin_function_or_method"), .none, (.fields #[(.builtin "type.__prepare__"), (.type "type")]), #[]⟩,
  ⟨(.type "dict"), .none, (.dict #[he P "__module__" 203 (hs "markupmill.errors" 194), he P "__qualname__" 205 (hs "MarkupError" 204), he P "__firstlineno__" 207 (.int 5 206), he P "__init__" 215 (.ref 35), he P "__static_attributes__" 217 (.ref 36)] 5), #[]⟩,
  ht #[],
  hf #[(.int 7 0), (.int 4 0), (.ref 34)],
  ⟨(.type "code"), .none, (.fields #[(hs "MarkupError" 198), (hs "MarkupError" 199), (hs "/claim/cut.py" 200), (.int 5 0), (.int 0 0), (.int 0 0), (.int 0 0), (.int 0 0), (.ref 25), (.bool .false), (.int 181 0), (.ref 26), .none, .none, .none, .none, (.int 201 0), (.int 5 0), (hs "/claim/cut.py" 202)]), #[]⟩,
  ⟨(.type "frame"), .none, .plain, #[(.some (.ref 27)), (.some (.ref 3)), (.some (.ref 24)), .none, (.some (hs "markupmill.errors" 194)), .none, (.some (.ref 0))]⟩,
  ht #[],
  hf #[],
  ht #[(hs "self" 211), (hs "message" 212)],
  ht #[],
  hg "__init__" "MarkupError.__init__" (hC 2 0),
  hc "__init__" 208 "MarkupError.__init__" 209 210 7 2 29 30 31 32 33 213 7 214,
  hn "__init__" "MarkupError.__init__" (hC 2 0) "markupmill.errors" 194 34,
  ht #[(hs "message" 216)],
  ⟨(.type "dict"), .none, (.dict #[he P "__module__" 203 (hs "markupmill.errors" 194), he P "__firstlineno__" 207 (.int 5 206), he P "__init__" 215 (.ref 35), he P "__static_attributes__" 217 (.ref 36), he P "__weakref__" 219 (.ref 39), he P "__doc__" 220 .none] 3), #[]⟩,
  ⟨(.type "type"), .none, (.cls ⟨(.ofString "MarkupError"), [(.type "Exception")], [(.ref 38), (.type "Exception"), (.type "BaseException"), (.type "object")], 37, (.ofString "MarkupError"), .true, [], [(.ref 51), (.ref 63)], .false, .none, .false⟩), #[(.some (.ref 22)), .none, (.some (hs "MarkupError" 196)), (.some (hs "MarkupError" 204)), (.some (.builtin "Exception.__new__")), (.some (.bool .true))]⟩,
  ⟨(.type "getset_descriptor"), .none, (.fields #[(hs "__weakref__" 218), (.ref 38), (.builtin "ExceptionGroup.__weakref__"), .none]), #[]⟩,
  ⟨(.type "super"), .none, (.fields #[(.ref 38), (.ref 38), (.ref 38)]), #[]⟩,
  ⟨(.type "builtin_function_or_method"), .none, (.fields #[(.builtin "object.__init_subclass__"), (.ref 38)]), #[]⟩,
  ht #[(.ref 38)],
  ⟨(.type "builtin_function_or_method"), .none, (.fields #[(.builtin "type.__prepare__"), (.type "type")]), #[]⟩,
  ⟨(.type "dict"), .none, (.dict #[he P "__module__" 232 (hs "markupmill.errors" 194), he P "__qualname__" 234 (hs "TreeFault" 233), he P "__firstlineno__" 236 (.int 10 235), he P "__static_attributes__" 237 (.ref 49)] 4), #[]⟩,
  ht #[],
  hf #[],
  ⟨(.type "code"), .none, (.fields #[(hs "TreeFault" 227), (hs "TreeFault" 228), (hs "/claim/cut.py" 229), (.int 10 0), (.int 0 0), (.int 0 0), (.int 0 0), (.int 0 0), (.ref 45), (.bool .false), (.int 181 0), (.ref 46), .none, .none, .none, .none, (.int 230 0), (.int 10 0), (hs "/claim/cut.py" 231)]), #[]⟩,
  ⟨(.type "frame"), .none, .plain, #[(.some (.ref 47)), (.some (.ref 3)), (.some (.ref 44)), .none, (.some (hs "markupmill.errors" 194)), .none, (.some (.ref 0))]⟩,
  ht #[],
  ⟨(.type "dict"), .none, (.dict #[he P "__module__" 232 (hs "markupmill.errors" 194), he P "__firstlineno__" 236 (.int 10 235), he P "__static_attributes__" 237 (.ref 49), he P "__doc__" 238 .none] 2), #[]⟩,
  ⟨(.type "type"), .none, (.cls ⟨(.ofString "TreeFault"), [(.ref 38)], [(.ref 51), (.ref 38), (.type "Exception"), (.type "BaseException"), (.type "object")], 50, (.ofString "TreeFault"), .true, [], [], .false, .none, .false⟩), #[(.some (.ref 42)), .none, (.some (hs "TreeFault" 225)), (.some (hs "TreeFault" 233)), (.some (.builtin "Exception.__new__")), (.some (.bool .true))]⟩,
  ⟨(.type "super"), .none, (.fields #[(.ref 51), (.ref 51), (.ref 51)]), #[]⟩,
  ⟨(.type "builtin_function_or_method"), .none, (.fields #[(.builtin "object.__init_subclass__"), (.ref 51)]), #[]⟩,
  ht #[(.ref 38)],
  ⟨(.type "builtin_function_or_method"), .none, (.fields #[(.builtin "type.__prepare__"), (.type "type")]), #[]⟩,
  ⟨(.type "dict"), .none, (.dict #[he P "__module__" 248 (hs "markupmill.errors" 194), he P "__qualname__" 250 (hs "PathFault" 249), he P "__firstlineno__" 252 (.int 12 251), he P "__static_attributes__" 253 (.ref 61)] 4), #[]⟩,
  ht #[],
  hf #[],
  ⟨(.type "code"), .none, (.fields #[(hs "PathFault" 243), (hs "PathFault" 244), (hs "/claim/cut.py" 245), (.int 12 0), (.int 0 0), (.int 0 0), (.int 0 0), (.int 0 0), (.ref 57), (.bool .false), (.int 181 0), (.ref 58), .none, .none, .none, .none, (.int 246 0), (.int 12 0), (hs "/claim/cut.py" 247)]), #[]⟩,
  ⟨(.type "frame"), .none, .plain, #[(.some (.ref 59)), (.some (.ref 3)), (.some (.ref 56)), .none, (.some (hs "markupmill.errors" 194)), .none, (.some (.ref 0))]⟩,
  ht #[],
  ⟨(.type "dict"), .none, (.dict #[he P "__module__" 248 (hs "markupmill.errors" 194), he P "__firstlineno__" 252 (.int 12 251), he P "__static_attributes__" 253 (.ref 61), he P "__doc__" 254 .none] 2), #[]⟩,
  ⟨(.type "type"), .none, (.cls ⟨(.ofString "PathFault"), [(.ref 38)], [(.ref 63), (.ref 38), (.type "Exception"), (.type "BaseException"), (.type "object")], 62, (.ofString "PathFault"), .true, [], [], .false, .none, .false⟩), #[(.some (.ref 54)), .none, (.some (hs "PathFault" 241)), (.some (hs "PathFault" 249)), (.some (.builtin "Exception.__new__")), (.some (.bool .true))]⟩,
  ⟨(.type "super"), .none, (.fields #[(.ref 63), (.ref 63), (.ref 63)]), #[]⟩,
  ⟨(.type "builtin_function_or_method"), .none, (.fields #[(.builtin "object.__init_subclass__"), (.ref 63)]), #[]⟩,
  ht #[],
  hf #[],
  ht #[(hs "tree" 262), (hs "node" 263)],
  ht #[],
  hg "is_beside" "is_beside" (hT 6),
  hc "is_beside" 259 "is_beside" 260 261 15 2 66 67 68 69 70 264 15 265,
  hn "is_beside" "is_beside" (hT 6) "markupmill.axes" 257 71,
  ht #[],
  hf #[],
  ht #[(hs "tree" 270), (hs "node" 271), (hs "found" 272), (hs "left" 273), (hs "here" 274)],
  ht #[],
  hg "descendants" "descendants" (hT 7),
  hc "descendants" 267 "descendants" 268 269 17 2 73 74 75 76 77 275 17 276,
  hn "descendants" "descendants" (hT 7) "markupmill.axes" 257 78,
  ht #[],
  hf #[],
  ht #[(hs "tree" 281), (hs "node" 282), (hs "found" 283), (hs "here" 284)],
  ht #[],
  hg "ancestors" "ancestors" (hT 8),
  hc "ancestors" 278 "ancestors" 279 280 24 2 80 81 82 83 84 285 24 286,
  hn "ancestors" "ancestors" (hT 8) "markupmill.axes" 257 85,
  ht #[],
  hf #[],
  ht #[(hs "tree" 291), (hs "node" 292), (hs "parent" 293), (hs "around" 294)],
  ht #[],
  ⟨.none, .none, (.func ⟨(.ofString "siblings_ahead"), (.ofString "siblings_ahead"), (hP (hT 9)), (.stmts (hB (hT 9))), (hS (hT 10)), 0, [], .none, .none, .none, .none, .none, .none, .none, 0⟩), #[]⟩,
  hc "siblings_ahead" 288 "siblings_ahead" 289 290 30 2 87 88 89 90 91 295 30 296,
  ⟨(.type "function"), .none, (.func ⟨(.ofString "siblings_ahead"), (.ofString "siblings_ahead"), (hP (hT 9)), (.stmts (hB (hT 9))), (hS (hT 10)), 3, [], .none, .none, .none, (hs "markupmill.axes" 257), .none, (.ref 92), .none, 0⟩), #[]⟩,
  ht #[],
  hf #[],
  ht #[(hs "tree" 301), (hs "node" 302), (hs "parent" 303), (hs "around" 304)],
  ht #[],
  hg "siblings_behind" "siblings_behind" (hT 10),
  hc "siblings_behind" 298 "siblings_behind" 299 300 36 2 94 95 96 97 98 305 36 306,
  hn "siblings_behind" "siblings_behind" (hT 10) "markupmill.axes" 257 99,
  ht #[],
  hf #[],
  ht #[(hs "tree" 311), (hs "nodes" 312), (hs "found" 313), (hs "node" 314)],
  ht #[],
  hg "with_descendants" "with_descendants" (hT 11),
  hc "with_descendants" 308 "with_descendants" 309 310 42 2 101 102 103 104 105 315 42 316,
  hn "with_descendants" "with_descendants" (hT 11) "markupmill.axes" 257 106,
  ht #[],
  hf #[],
  ht #[(hs "tree" 321), (hs "node" 322), (hs "found" 323), (hs "here" 324)],
  ht #[],
  hg "following" "following" (hT 12),
  hc "following" 318 "following" 319 320 48 2 108 109 110 111 112 325 48 326,
  hn "following" "following" (hT 12) "markupmill.axes" 257 113,
  ht #[],
  hf #[],
  ht #[(hs "tree" 331), (hs "node" 332), (hs "found" 333), (hs "here" 334), (hs "sibling" 335)],
  ht #[],
  hg "preceding" "preceding" (hT 13),
  hc "preceding" 328 "preceding" 329 330 56 2 115 116 117 118 119 336 56 337,
  hn "preceding" "preceding" (hT 13) "markupmill.axes" 257 120,
  ht #[],
  hf #[],
  hg "namespaces_in_scope" "namespaces_in_scope" (hT 14),
  ⟨(.type "code"), .none, (.fields #[(hs "namespaces_in_scope" 339), (hs "namespaces_in_scope" 340), (hs "/claim/cut.py" 341), (.int 64 0), (.int 2 0), (.int 0 0), (.int 0 0), (.int 3 0), (.ref 122), (.bool .true), (.int 181 0), (.ref 123), .none, .none, .none, (.ref 124), (.int 342 0), (.int 64 0), (hs "/claim/cut.py" 343)]), #[]⟩,
  hn "namespaces_in_scope" "namespaces_in_scope" (hT 14) "markupmill.axes" 257 125,
  ht #[],
  hf #[],
  ht #[(hs "tree" 348), (hs "node" 349), (hs "name" 350), (hs "parent" 351)],
  ht #[],
  hg "short_axis" "short_axis" (hT 15),
  hc "short_axis" 345 "short_axis" 346 347 77 3 127 128 129 130 131 352 77 353,
  hn "short_axis" "short_axis" (hT 15) "markupmill.axes" 257 132,
  ht #[],
  hf #[],
  ht #[(hs "tree" 358), (hs "node" 359), (hs "name" 360), (hs "found" 361)],
  ht #[],
  hg "axis" "axis" (hT 16),
  hc "axis" 355 "axis" 356 357 94 3 134 135 136 137 138 362 94 363,
  hn "axis" "axis" (hT 16) "markupmill.axes" 257 139,
  ht #[],
  hf #[],
  ht #[(hs "axis" 370)],
  ht #[],
  hg "principal_kind" "principal_kind" (hT 18),
  hc "principal_kind" 367 "principal_kind" 368 369 112 1 141 142 143 144 145 371 112 372,
  hn "principal_kind" "principal_kind" (hT 18) "markupmill.node_tests" 365 146,
  ht #[],
  hf #[],
  ht #[(hs "prefix" 377), (hs "names" 378)],
  ht #[],
  hg "bound_uri" "bound_uri" (hT 19),
  hc "bound_uri" 374 "bound_uri" 375 376 114 2 148 149 150 151 152 379 114 380,
  hn "bound_uri" "bound_uri" (hT 19) "markupmill.node_tests" 365 153,
  ht #[],
  hf #[],
  ht #[(hs "tree" 385), (hs "node" 386), (hs "test" 387), (hs "names" 388), (hs "uri" 389), (hs "kind" 390)],
  ht #[],
  hg "is_named" "is_named" (hT 20),
  hc "is_named" 382 "is_named" 383 384 120 4 155 156 157 158 159 391 120 392,
  hn "is_named" "is_named" (hT 20) "markupmill.node_tests" 365 160,
  ht #[],
  hf #[],
  ht #[(hs "tree" 397), (hs "node" 398), (hs "axis" 399), (hs "test" 400), (hs "names" 401), (hs "kind" 402), (hs "uri" 403)],
  ht #[],
  hg "passes" "passes" (hT 21),
  hc "passes" 394 "passes" 395 396 125 5 162 163 164 165 166 404 125 405,
  hn "passes" "passes" (hT 21) "markupmill.node_tests" 365 167,
  ht #[],
  hf #[],
  ht #[(hs "tree" 412), (hs "node" 413), (hs "found" 414)],
  ht #[],
  hg "lines_down" "lines_down" (hT 23),
  hc "lines_down" 409 "lines_down" 410 411 140 2 169 170 171 172 173 415 140 416,
  hn "lines_down" "lines_down" (hT 23) "markupmill.order" 407 174,
  ht #[],
  hf #[],
  ht #[(hs "tree" 421), (hs "parent" 422), (hs "node" 423), (hs "kind" 424)],
  ht #[],
  hg "place_among" "place_among" (hT 24),
  hc "place_among" 418 "place_among" 419 420 146 3 176 177 178 179 180 425 146 426,
  hn "place_among" "place_among" (hT 24) "markupmill.order" 407 181,
  ht #[],
  hf #[],
  ht #[(hs "tree" 431), (hs "node" 432), (hs "line" 433), (hs "found" 434), (hs "above" 435), (hs "below" 436)],
  ht #[],
  hg "place_of" "place_of" (hT 25),
  hc "place_of" 428 "place_of" 429 430 153 2 183 184 185 186 187 437 153 438,
  hn "place_of" "place_of" (hT 25) "markupmill.order" 407 188,
  ht #[],
  hf #[],
  hg "in_order" "in_order" (hT 26),
  ⟨(.type "code"), .none, (.fields #[(hs "in_order" 440), (hs "in_order" 441), (hs "/claim/cut.py" 442), (.int 159 0), (.int 2 0), (.int 0 0), (.int 0 0), (.int 3 0), (.ref 190), (.bool .true), (.int 181 0), (.ref 191), .none, .none, .none, (.ref 192), (.int 443 0), (.int 159 0), (hs "/claim/cut.py" 444)]), #[]⟩,
  hn "in_order" "in_order" (hT 26) "markupmill.order" 407 193,
  ht #[],
  hf #[],
  ht #[(hs "value" 451), (hs "position" 452)],
  ht #[],
  hg "holds" "holds" (hT 28),
  hc "holds" 448 "holds" 449 450 163 2 195 196 197 198 199 453 163 454,
  hn "holds" "holds" (hT 28) "markupmill.steps" 446 200,
  ht #[],
  hf #[],
  ht #[(hs "nodes" 459), (hs "predicates" 460), (hs "value_of" 461), (hs "predicate" 462), (hs "size" 463), (hs "found" 464), (hs "at" 465), (hs "node" 466)],
  ht #[],
  hg "kept" "kept" (hT 29),
  hc "kept" 456 "kept" 457 458 169 3 202 203 204 205 206 467 169 468,
  hn "kept" "kept" (hT 29) "markupmill.steps" 446 207,
  ht #[],
  hf #[],
  hg "step_from" "step_from" (hT 30),
  ⟨(.type "code"), .none, (.fields #[(hs "step_from" 470), (hs "step_from" 471), (hs "/claim/cut.py" 472), (.int 178 0), (.int 5 0), (.int 0 0), (.int 0 0), (.int 3 0), (.ref 209), (.bool .true), (.int 181 0), (.ref 210), .none, .none, .none, (.ref 211), (.int 473 0), (.int 178 0), (hs "/claim/cut.py" 474)]), #[]⟩,
  hn "step_from" "step_from" (hT 30) "markupmill.steps" 446 212,
  ht #[],
  hf #[],
  ht #[(hs "tree" 479), (hs "node" 480), (hs "step" 481), (hs "names" 482), (hs "value_of" 483)],
  ht #[],
  hg "step_nodes" "step_nodes" (hT 31),
  hc "step_nodes" 476 "step_nodes" 477 478 181 5 214 215 216 217 218 484 181 485,
  hn "step_nodes" "step_nodes" (hT 31) "markupmill.steps" 446 219,
  ht #[(hs "root" 489), (hs "element" 490)],
  ht #[],
  ⟨(.type "builtin_function_or_method"), .none, (.fields #[(.builtin "type.__prepare__"), (.type "type")]), #[]⟩,
  ⟨(.type "dict"), .none, (.dict #[he P "__module__" 499 (hs "markupmill.tree" 487), he P "__qualname__" 501 (hs "NodeRow" 500), he P "__firstlineno__" 503 (.int 185 502), he P "__init__" 516 (.ref 235), he P "__static_attributes__" 526 (.ref 236)] 5), #[]⟩,
  ht #[],
  hf #[(.int 187 0), (.int 4 0), (.ref 234)],
  ⟨(.type "code"), .none, (.fields #[(hs "NodeRow" 494), (hs "NodeRow" 495), (hs "/claim/cut.py" 496), (.int 185 0), (.int 0 0), (.int 0 0), (.int 0 0), (.int 0 0), (.ref 225), (.bool .false), (.int 181 0), (.ref 226), .none, .none, .none, .none, (.int 497 0), (.int 185 0), (hs "/claim/cut.py" 498)]), #[]⟩,
  ⟨(.type "frame"), .none, .plain, #[(.some (.ref 227)), (.some (.ref 3)), (.some (.ref 224)), .none, (.some (hs "markupmill.tree" 487)), .none, (.some (.ref 0))]⟩,
  ht #[],
  hf #[],
  ht #[(hs "self" 507), (hs "kind" 508), (hs "name" 509), (hs "uri" 510), (hs "local" 511), (hs "value" 512), (hs "parent" 513)],
  ht #[],
  hg "__init__" "NodeRow.__init__" (hC 34 0),
  hc "__init__" 504 "NodeRow.__init__" 505 506 187 7 229 230 231 232 233 514 187 515,
  hn "__init__" "NodeRow.__init__" (hC 34 0) "markupmill.tree" 487 234,
  ht #[(hs "attributes" 517), (hs "children" 518), (hs "kind" 519), (hs "local" 520), (hs "name" 521), (hs "namespaces" 522), (hs "parent" 523), (hs "uri" 524), (hs "value" 525)],
  ⟨(.type "dict"), .none, (.dict #[he P "__module__" 499 (hs "markupmill.tree" 487), he P "__firstlineno__" 503 (.int 185 502), he P "__init__" 516 (.ref 235), he P "__static_attributes__" 526 (.ref 236), he P "__dict__" 528 (.ref 239), he P "__weakref__" 530 (.ref 240), he P "__doc__" 531 .none] 4), #[]⟩,
  ⟨(.type "type"), .none, (.cls ⟨(.ofString "NodeRow"), [(.type "object")], [(.ref 238), (.type "object")], 237, (.ofString "NodeRow"), .true, [], [], .false, .none, .false⟩), #[.none, .none, (.some (hs "NodeRow" 492)), (.some (hs "NodeRow" 500)), (.some (.builtin "object.__new__")), (.some (.bool .true))]⟩,
  ⟨(.type "getset_descriptor"), .none, (.fields #[(hs "__dict__" 527), (.ref 238), (.builtin "function.__dict__"), (.builtin "function.__dict__#set")]), #[]⟩,
  ⟨(.type "getset_descriptor"), .none, (.fields #[(hs "__weakref__" 529), (.ref 238), (.builtin "ExceptionGroup.__weakref__"), .none]), #[]⟩,
  ⟨(.type "super"), .none, (.fields #[(.ref 238), (.ref 238), (.ref 238)]), #[]⟩,
  ⟨(.type "builtin_function_or_method"), .none, (.fields #[(.builtin "object.__init_subclass__"), (.ref 238)]), #[]⟩]
noncomputable def hdS1 (w : World) (os : OsState) : SharedT := ⟨hdT1 w.params, 243, {}, #[], boot_drawn, 534, os⟩
noncomputable def hdT2 (P : Params) : BT := hIns (((hdT1 P).set 3 fun _ => ⟨(.type "dict"), .none, (.dict #[he P "__name__" 165 (hs "markupmill.tree" 487), he P "__doc__" 166 .none, he P "__package__" 167 .none, he P "__loader__" 168 (.builtin "__main__.__loader__#opaque"), he P "__spec__" 169 .none, he P "__annotations__" 170 (.ref 6), he P "__builtins__" 171 (.ref 4), he P "__file__" 173 (hs "/claim/cut.py" 172), he P "__cached__" 174 .none, he P "_wall" 193 (.ref 21), he P "MarkupError" 224 (.ref 38), he P "TreeFault" 240 (.ref 51), he P "PathFault" 256 (.ref 63), he P "is_beside" 266 (.ref 72), he P "descendants" 277 (.ref 79), he P "ancestors" 287 (.ref 86), he P "siblings_ahead" 297 (.ref 93), he P "siblings_behind" 307 (.ref 100), he P "with_descendants" 317 (.ref 107), he P "following" 327 (.ref 114), he P "preceding" 338 (.ref 121), he P "namespaces_in_scope" 344 (.ref 126), he P "short_axis" 354 (.ref 133), he P "axis" 364 (.ref 140), he P "principal_kind" 373 (.ref 147), he P "bound_uri" 381 (.ref 154), he P "is_named" 393 (.ref 161), he P "passes" 406 (.ref 168), he P "lines_down" 417 (.ref 175), he P "place_among" 427 (.ref 182), he P "place_of" 439 (.ref 189), he P "in_order" 445 (.ref 194), he P "holds" 455 (.ref 201), he P "kept" 469 (.ref 208), he P "step_from" 475 (.ref 213), he P "step_nodes" 486 (.ref 220), he P "PARENTS" 491 (.ref 221), he P "NodeRow" 533 (.ref 238), he P "Tree" 786 (.ref 427)] 39), #[]⟩).set 12 fun _ => hf #[(.int 1 0), (.int 0 0), (.ref 20), (.int 5 0), (.int 0 0), (.ref 27), (.int 10 0), (.int 0 0), (.ref 47), (.int 12 0), (.int 0 0), (.ref 59), (.int 15 0), (.int 0 0), (.ref 71), (.int 17 0), (.int 0 0), (.ref 78), (.int 24 0), (.int 0 0), (.ref 85), (.int 30 0), (.int 0 0), (.ref 92), (.int 36 0), (.int 0 0), (.ref 99), (.int 42 0), (.int 0 0), (.ref 106), (.int 48 0), (.int 0 0), (.ref 113), (.int 56 0), (.int 0 0), (.ref 120), (.int 64 0), (.int 0 0), (.ref 125), (.int 77 0), (.int 0 0), (.ref 132), (.int 94 0), (.int 0 0), (.ref 139), (.int 112 0), (.int 0 0), (.ref 146), (.int 114 0), (.int 0 0), (.ref 153), (.int 120 0), (.int 0 0), (.ref 160), (.int 125 0), (.int 0 0), (.ref 167), (.int 140 0), (.int 0 0), (.ref 174), (.int 146 0), (.int 0 0), (.ref 181), (.int 153 0), (.int 0 0), (.ref 188), (.int 159 0), (.int 0 0), (.ref 193), (.int 163 0), (.int 0 0), (.ref 200), (.int 169 0), (.int 0 0), (.ref 207), (.int 178 0), (.int 0 0), (.ref 212), (.int 181 0), (.int 0 0), (.ref 219), (.int 185 0), (.int 0 0), (.ref 227), (.int 197 0), (.int 0 0), (.ref 248)]) 243 [
  ht #[],
  ⟨(.type "builtin_function_or_method"), .none, (.fields #[(.builtin "type.__prepare__"), (.type "type")]), #[]⟩,
  ⟨(.type "dict"), .none, (.dict #[he P "__module__" 541 (hs "markupmill.tree" 487), he P "__qualname__" 543 (hs "Tree" 542), he P "__firstlineno__" 545 (.int 197 544), he P "__init__" 552 (.ref 256), he P "new_row" 565 (.ref 263), he P "row" 573 (.ref 270), he P "new_root" 580 (.ref 277), he P "add_child" 594 (.ref 284), he P "add_element" 605 (.ref 291), he P "add_text" 614 (.ref 298), he P "add_comment" 623 (.ref 305), he P "add_instruction" 633 (.ref 312), he P "element_row" 642 (.ref 319), he P "set_attribute" 657 (.ref 326), he P "add_namespace" 669 (.ref 333), he P "set_value" 678 (.ref 340), he P "kind" 686 (.ref 347), he P "name" 694 (.ref 354), he P "uri" 702 (.ref 361), he P "local" 710 (.ref 368), he P "value" 718 (.ref 375), he P "parent" 726 (.ref 382), he P "children" 734 (.ref 389), he P "attributes" 742 (.ref 396), he P "namespaces" 750 (.ref 403), he P "root_of" 758 (.ref 410), he P "is_above" 767 (.ref 417), he P "attribute_value" 777 (.ref 424), he P "__static_attributes__" 779 (.ref 425)] 29), #[]⟩,
  ht #[],
  hf #[(.int 199 0), (.int 4 0), (.ref 255), (.int 202 0), (.int 4 0), (.ref 262), (.int 206 0), (.int 4 0), (.ref 269), (.int 211 0), (.int 4 0), (.ref 276), (.int 214 0), (.int 4 0), (.ref 283), (.int 222 0), (.int 4 0), (.ref 290), (.int 225 0), (.int 4 0), (.ref 297), (.int 228 0), (.int 4 0), (.ref 304), (.int 231 0), (.int 4 0), (.ref 311), (.int 234 0), (.int 4 0), (.ref 318), (.int 240 0), (.int 4 0), (.ref 325), (.int 252 0), (.int 4 0), (.ref 332), (.int 262 0), (.int 4 0), (.ref 339), (.int 265 0), (.int 4 0), (.ref 346), (.int 268 0), (.int 4 0), (.ref 353), (.int 271 0), (.int 4 0), (.ref 360), (.int 274 0), (.int 4 0), (.ref 367), (.int 277 0), (.int 4 0), (.ref 374), (.int 280 0), (.int 4 0), (.ref 381), (.int 283 0), (.int 4 0), (.ref 388), (.int 286 0), (.int 4 0), (.ref 395), (.int 289 0), (.int 4 0), (.ref 402), (.int 292 0), (.int 4 0), (.ref 409), (.int 295 0), (.int 4 0), (.ref 416), (.int 298 0), (.int 4 0), (.ref 423)],
  ⟨(.type "code"), .none, (.fields #[(hs "Tree" 536), (hs "Tree" 537), (hs "/claim/cut.py" 538), (.int 197 0), (.int 0 0), (.int 0 0), (.int 0 0), (.int 0 0), (.ref 246), (.bool .false), (.int 181 0), (.ref 247), .none, .none, .none, .none, (.int 539 0), (.int 197 0), (hs "/claim/cut.py" 540)]), #[]⟩,
  ⟨(.type "frame"), .none, .plain, #[(.some (.ref 248)), (.some (.ref 3)), (.some (.ref 245)), .none, (.some (hs "markupmill.tree" 487)), .none, (.some (.ref 0))]⟩,
  ht #[],
  hf #[],
  ht #[(hs "self" 549)],
  ht #[],
  ⟨.none, .none, (.func ⟨(.ofString "__init__"), (.ofString "Tree.__init__"), (hP (hC 35 0)), (.stmts (hB (hC 35 0))), (hS (hC 35 3)), 0, [], .none, .none, .none, .none, .none, .none, .none, 0⟩), #[]⟩,
  hc "__init__" 546 "Tree.__init__" 547 548 199 1 250 251 252 253 254 550 199 551,
  ⟨(.type "function"), .none, (.func ⟨(.ofString "__init__"), (.ofString "Tree.__init__"), (hP (hC 35 0)), (.stmts (hB (hC 35 0))), (hS (hC 35 3)), 3, [], .none, .none, .none, (hs "markupmill.tree" 487), .none, (.ref 255), .none, 0⟩), #[]⟩,
  ht #[],
  hf #[],
  ht #[(hs "self" 556), (hs "kind" 557), (hs "name" 558), (hs "uri" 559), (hs "local" 560), (hs "value" 561), (hs "parent" 562)],
  ht #[],
  hg "new_row" "Tree.new_row" (hC 35 1),
  hc "new_row" 553 "Tree.new_row" 554 555 202 7 257 258 259 260 261 563 202 564,
  hn "new_row" "Tree.new_row" (hC 35 1) "markupmill.tree" 487 262,
  ht #[],
  hf #[],
  ht #[(hs "self" 569), (hs "node" 570)],
  ht #[],
  hg "row" "Tree.row" (hC 35 2),
  hc "row" 566 "Tree.row" 567 568 206 2 264 265 266 267 268 571 206 572,
  hn "row" "Tree.row" (hC 35 2) "markupmill.tree" 487 269,
  ht #[],
  hf #[],
  ht #[(hs "self" 577)],
  ht #[],
  hg "new_root" "Tree.new_root" (hC 35 3),
  hc "new_root" 574 "Tree.new_root" 575 576 211 1 271 272 273 274 275 578 211 579,
  hn "new_root" "Tree.new_root" (hC 35 3) "markupmill.tree" 487 276,
  ht #[],
  hf #[],
  ht #[(hs "self" 584), (hs "parent" 585), (hs "kind" 586), (hs "name" 587), (hs "uri" 588), (hs "local" 589), (hs "value" 590), (hs "node" 591)],
  ht #[],
  hg "add_child" "Tree.add_child" (hC 35 4),
  hc "add_child" 581 "Tree.add_child" 582 583 214 7 278 279 280 281 282 592 214 593,
  hn "add_child" "Tree.add_child" (hC 35 4) "markupmill.tree" 487 283,
  ht #[],
  hf #[],
  ht #[(hs "self" 598), (hs "parent" 599), (hs "name" 600), (hs "uri" 601), (hs "local" 602)],
  ht #[],
  hg "add_element" "Tree.add_element" (hC 35 5),
  hc "add_element" 595 "Tree.add_element" 596 597 222 5 285 286 287 288 289 603 222 604,
  hn "add_element" "Tree.add_element" (hC 35 5) "markupmill.tree" 487 290,
  ht #[],
  hf #[],
  ht #[(hs "self" 609), (hs "parent" 610), (hs "value" 611)],
  ht #[],
  ⟨.none, .none, (.func ⟨(.ofString "add_text"), (.ofString "Tree.add_text"), (hP (hC 35 6)), (.stmts (hB (hC 35 6))), (hS (hC 35 7)), 0, [], .none, .none, .none, .none, .none, .none, .none, 0⟩), #[]⟩,
  hc "add_text" 606 "Tree.add_text" 607 608 225 3 292 293 294 295 296 612 225 613,
  ⟨(.type "function"), .none, (.func ⟨(.ofString "add_text"), (.ofString "Tree.add_text"), (hP (hC 35 6)), (.stmts (hB (hC 35 6))), (hS (hC 35 7)), 3, [], .none, .none, .none, (hs "markupmill.tree" 487), .none, (.ref 297), .none, 0⟩), #[]⟩,
  ht #[],
  hf #[],
  ht #[(hs "self" 618), (hs "parent" 619), (hs "value" 620)],
  ht #[],
  hg "add_comment" "Tree.add_comment" (hC 35 7),
  hc "add_comment" 615 "Tree.add_comment" 616 617 228 3 299 300 301 302 303 621 228 622,
  hn "add_comment" "Tree.add_comment" (hC 35 7) "markupmill.tree" 487 304,
  ht #[],
  hf #[],
  ht #[(hs "self" 627), (hs "parent" 628), (hs "target" 629), (hs "data" 630)],
  ht #[],
  hg "add_instruction" "Tree.add_instruction" (hC 35 8),
  hc "add_instruction" 624 "Tree.add_instruction" 625 626 231 4 306 307 308 309 310 631 231 632,
  hn "add_instruction" "Tree.add_instruction" (hC 35 8) "markupmill.tree" 487 311,
  ht #[],
  hf #[],
  ht #[(hs "self" 637), (hs "element" 638), (hs "row" 639)],
  ht #[],
  hg "element_row" "Tree.element_row" (hC 35 9),
  hc "element_row" 634 "Tree.element_row" 635 636 234 2 313 314 315 316 317 640 234 641,
  hn "element_row" "Tree.element_row" (hC 35 9) "markupmill.tree" 487 318,
  ht #[],
  hf #[],
  ht #[(hs "self" 646), (hs "element" 647), (hs "name" 648), (hs "uri" 649), (hs "local" 650), (hs "value" 651), (hs "row" 652), (hs "node" 653), (hs "known" 654)],
  ht #[],
  hg "set_attribute" "Tree.set_attribute" (hC 35 10),
  hc "set_attribute" 643 "Tree.set_attribute" 644 645 240 6 320 321 322 323 324 655 240 656,
  hn "set_attribute" "Tree.set_attribute" (hC 35 10) "markupmill.tree" 487 325,
  ht #[],
  hf #[],
  ht #[(hs "self" 661), (hs "element" 662), (hs "prefix" 663), (hs "uri" 664), (hs "row" 665), (hs "node" 666)],
  ht #[],
  hg "add_namespace" "Tree.add_namespace" (hC 35 11),
  hc "add_namespace" 658 "Tree.add_namespace" 659 660 252 4 327 328 329 330 331 667 252 668,
  hn "add_namespace" "Tree.add_namespace" (hC 35 11) "markupmill.tree" 487 332,
  ht #[],
  hf #[],
  ht #[(hs "self" 673), (hs "node" 674), (hs "value" 675)],
  ht #[],
  hg "set_value" "Tree.set_value" (hC 35 12),
  hc "set_value" 670 "Tree.set_value" 671 672 262 3 334 335 336 337 338 676 262 677,
  hn "set_value" "Tree.set_value" (hC 35 12) "markupmill.tree" 487 339,
  ht #[],
  hf #[],
  ht #[(hs "self" 682), (hs "node" 683)],
  ht #[],
  ⟨.none, .none, (.func ⟨(.ofString "kind"), (.ofString "Tree.kind"), (hP (hC 35 13)), (.stmts (hB (hC 35 13))), (hS (hC 35 18)), 0, [], .none, .none, .none, .none, .none, .none, .none, 0⟩), #[]⟩,
  hc "kind" 679 "Tree.kind" 680 681 265 2 341 342 343 344 345 684 265 685,
  ⟨(.type "function"), .none, (.func ⟨(.ofString "kind"), (.ofString "Tree.kind"), (hP (hC 35 13)), (.stmts (hB (hC 35 13))), (hS (hC 35 18)), 3, [], .none, .none, .none, (hs "markupmill.tree" 487), .none, (.ref 346), .none, 0⟩), #[]⟩,
  ht #[],
  hf #[],
  ht #[(hs "self" 690), (hs "node" 691)],
  ht #[],
  ⟨.none, .none, (.func ⟨(.ofString "name"), (.ofString "Tree.name"), (hP (hC 35 14)), (.stmts (hB (hC 35 14))), (hS (hC 35 18)), 0, [], .none, .none, .none, .none, .none, .none, .none, 0⟩), #[]⟩,
  hc "name" 687 "Tree.name" 688 689 268 2 348 349 350 351 352 692 268 693,
  ⟨(.type "function"), .none, (.func ⟨(.ofString "name"), (.ofString "Tree.name"), (hP (hC 35 14)), (.stmts (hB (hC 35 14))), (hS (hC 35 18)), 3, [], .none, .none, .none, (hs "markupmill.tree" 487), .none, (.ref 353), .none, 0⟩), #[]⟩,
  ht #[],
  hf #[],
  ht #[(hs "self" 698), (hs "node" 699)],
  ht #[],
  ⟨.none, .none, (.func ⟨(.ofString "uri"), (.ofString "Tree.uri"), (hP (hC 35 15)), (.stmts (hB (hC 35 15))), (hS (hC 35 18)), 0, [], .none, .none, .none, .none, .none, .none, .none, 0⟩), #[]⟩,
  hc "uri" 695 "Tree.uri" 696 697 271 2 355 356 357 358 359 700 271 701,
  ⟨(.type "function"), .none, (.func ⟨(.ofString "uri"), (.ofString "Tree.uri"), (hP (hC 35 15)), (.stmts (hB (hC 35 15))), (hS (hC 35 18)), 3, [], .none, .none, .none, (hs "markupmill.tree" 487), .none, (.ref 360), .none, 0⟩), #[]⟩,
  ht #[],
  hf #[],
  ht #[(hs "self" 706), (hs "node" 707)],
  ht #[],
  ⟨.none, .none, (.func ⟨(.ofString "local"), (.ofString "Tree.local"), (hP (hC 35 16)), (.stmts (hB (hC 35 16))), (hS (hC 35 18)), 0, [], .none, .none, .none, .none, .none, .none, .none, 0⟩), #[]⟩,
  hc "local" 703 "Tree.local" 704 705 274 2 362 363 364 365 366 708 274 709,
  ⟨(.type "function"), .none, (.func ⟨(.ofString "local"), (.ofString "Tree.local"), (hP (hC 35 16)), (.stmts (hB (hC 35 16))), (hS (hC 35 18)), 3, [], .none, .none, .none, (hs "markupmill.tree" 487), .none, (.ref 367), .none, 0⟩), #[]⟩,
  ht #[],
  hf #[],
  ht #[(hs "self" 714), (hs "node" 715)],
  ht #[],
  ⟨.none, .none, (.func ⟨(.ofString "value"), (.ofString "Tree.value"), (hP (hC 35 17)), (.stmts (hB (hC 35 17))), (hS (hC 35 18)), 0, [], .none, .none, .none, .none, .none, .none, .none, 0⟩), #[]⟩,
  hc "value" 711 "Tree.value" 712 713 277 2 369 370 371 372 373 716 277 717,
  ⟨(.type "function"), .none, (.func ⟨(.ofString "value"), (.ofString "Tree.value"), (hP (hC 35 17)), (.stmts (hB (hC 35 17))), (hS (hC 35 18)), 3, [], .none, .none, .none, (hs "markupmill.tree" 487), .none, (.ref 374), .none, 0⟩), #[]⟩,
  ht #[],
  hf #[],
  ht #[(hs "self" 722), (hs "node" 723)],
  ht #[],
  hg "parent" "Tree.parent" (hC 35 18),
  hc "parent" 719 "Tree.parent" 720 721 280 2 376 377 378 379 380 724 280 725,
  hn "parent" "Tree.parent" (hC 35 18) "markupmill.tree" 487 381,
  ht #[],
  hf #[],
  ht #[(hs "self" 730), (hs "node" 731)],
  ht #[],
  ⟨.none, .none, (.func ⟨(.ofString "children"), (.ofString "Tree.children"), (hP (hC 35 19)), (.stmts (hB (hC 35 19))), (hS (hC 35 21)), 0, [], .none, .none, .none, .none, .none, .none, .none, 0⟩), #[]⟩,
  hc "children" 727 "Tree.children" 728 729 283 2 383 384 385 386 387 732 283 733,
  ⟨(.type "function"), .none, (.func ⟨(.ofString "children"), (.ofString "Tree.children"), (hP (hC 35 19)), (.stmts (hB (hC 35 19))), (hS (hC 35 21)), 3, [], .none, .none, .none, (hs "markupmill.tree" 487), .none, (.ref 388), .none, 0⟩), #[]⟩,
  ht #[],
  hf #[],
  ht #[(hs "self" 738), (hs "node" 739)],
  ht #[],
  ⟨.none, .none, (.func ⟨(.ofString "attributes"), (.ofString "Tree.attributes"), (hP (hC 35 20)), (.stmts (hB (hC 35 20))), (hS (hC 35 21)), 0, [], .none, .none, .none, .none, .none, .none, .none, 0⟩), #[]⟩,
  hc "attributes" 735 "Tree.attributes" 736 737 286 2 390 391 392 393 394 740 286 741,
  ⟨(.type "function"), .none, (.func ⟨(.ofString "attributes"), (.ofString "Tree.attributes"), (hP (hC 35 20)), (.stmts (hB (hC 35 20))), (hS (hC 35 21)), 3, [], .none, .none, .none, (hs "markupmill.tree" 487), .none, (.ref 395), .none, 0⟩), #[]⟩,
  ht #[],
  hf #[],
  ht #[(hs "self" 746), (hs "node" 747)],
  ht #[],
  hg "namespaces" "Tree.namespaces" (hC 35 21),
  hc "namespaces" 743 "Tree.namespaces" 744 745 289 2 397 398 399 400 401 748 289 749,
  hn "namespaces" "Tree.namespaces" (hC 35 21) "markupmill.tree" 487 402,
  ht #[],
  hf #[],
  ht #[(hs "self" 754), (hs "node" 755)],
  ht #[],
  hg "root_of" "Tree.root_of" (hC 35 22),
  hc "root_of" 751 "Tree.root_of" 752 753 292 2 404 405 406 407 408 756 292 757,
  hn "root_of" "Tree.root_of" (hC 35 22) "markupmill.tree" 487 409,
  ht #[],
  hf #[],
  ht #[(hs "self" 762), (hs "node" 763), (hs "other" 764)],
  ht #[],
  hg "is_above" "Tree.is_above" (hC 35 23),
  hc "is_above" 759 "Tree.is_above" 760 761 295 3 411 412 413 414 415 765 295 766,
  hn "is_above" "Tree.is_above" (hC 35 23) "markupmill.tree" 487 416,
  ht #[],
  hf #[],
  ht #[(hs "self" 771), (hs "element" 772), (hs "uri" 773), (hs "local" 774)],
  ht #[],
  hg "attribute_value" "Tree.attribute_value" (hC 35 24),
  hc "attribute_value" 768 "Tree.attribute_value" 769 770 298 4 418 419 420 421 422 775 298 776,
  hn "attribute_value" "Tree.attribute_value" (hC 35 24) "markupmill.tree" 487 423,
  ht #[(hs "rows" 778)],
  ⟨(.type "dict"), .none, (.dict #[he P "__module__" 541 (hs "markupmill.tree" 487), he P "__firstlineno__" 545 (.int 197 544), he P "__init__" 552 (.ref 256), he P "new_row" 565 (.ref 263), he P "row" 573 (.ref 270), he P "new_root" 580 (.ref 277), he P "add_child" 594 (.ref 284), he P "add_element" 605 (.ref 291), he P "add_text" 614 (.ref 298), he P "add_comment" 623 (.ref 305), he P "add_instruction" 633 (.ref 312), he P "element_row" 642 (.ref 319), he P "set_attribute" 657 (.ref 326), he P "add_namespace" 669 (.ref 333), he P "set_value" 678 (.ref 340), he P "kind" 686 (.ref 347), he P "name" 694 (.ref 354), he P "uri" 702 (.ref 361), he P "local" 710 (.ref 368), he P "value" 718 (.ref 375), he P "parent" 726 (.ref 382), he P "children" 734 (.ref 389), he P "attributes" 742 (.ref 396), he P "namespaces" 750 (.ref 403), he P "root_of" 758 (.ref 410), he P "is_above" 767 (.ref 417), he P "attribute_value" 777 (.ref 424), he P "__static_attributes__" 779 (.ref 425), he P "__dict__" 781 (.ref 428), he P "__weakref__" 783 (.ref 429), he P "__doc__" 784 .none] 4), #[]⟩,
  ⟨(.type "type"), .none, (.cls ⟨(.ofString "Tree"), [(.type "object")], [(.ref 427), (.type "object")], 426, (.ofString "Tree"), .true, [], [], .false, .none, .false⟩), #[.none, .none, (.some (hs "Tree" 534)), (.some (hs "Tree" 542)), (.some (.builtin "object.__new__")), (.some (.bool .true))]⟩,
  ⟨(.type "getset_descriptor"), .none, (.fields #[(hs "__dict__" 780), (.ref 427), (.builtin "function.__dict__"), (.builtin "function.__dict__#set")]), #[]⟩,
  ⟨(.type "getset_descriptor"), .none, (.fields #[(hs "__weakref__" 782), (.ref 427), (.builtin "ExceptionGroup.__weakref__"), .none]), #[]⟩,
  ⟨(.type "super"), .none, (.fields #[(.ref 427), (.ref 427), (.ref 427)]), #[]⟩,
  ⟨(.type "builtin_function_or_method"), .none, (.fields #[(.builtin "object.__init_subclass__"), (.ref 427)]), #[]⟩]
noncomputable def hdS2 (w : World) (os : OsState) : SharedT := ⟨hdT2 w.params, 432, {}, #[], boot_drawn, 787, os⟩
noncomputable def hdT3 (P : Params) : BT := hIns (((hdT2 P).set 3 fun _ => ⟨(.type "dict"), .none, (.dict #[he P "__name__" 165 (hs "law_nu0070_01" 835), he P "__doc__" 166 .none, he P "__package__" 167 .none, he P "__loader__" 168 (.builtin "__main__.__loader__#opaque"), he P "__spec__" 169 .none, he P "__annotations__" 170 (.ref 6), he P "__builtins__" 171 (.ref 4), he P "__file__" 173 (hs "/claim/cut.py" 172), he P "__cached__" 174 .none, he P "_wall" 193 (.ref 21), he P "MarkupError" 224 (.ref 38), he P "TreeFault" 240 (.ref 51), he P "PathFault" 256 (.ref 63), he P "is_beside" 266 (.ref 72), he P "descendants" 277 (.ref 79), he P "ancestors" 287 (.ref 86), he P "siblings_ahead" 297 (.ref 93), he P "siblings_behind" 307 (.ref 100), he P "with_descendants" 317 (.ref 107), he P "following" 327 (.ref 114), he P "preceding" 338 (.ref 121), he P "namespaces_in_scope" 344 (.ref 126), he P "short_axis" 354 (.ref 133), he P "axis" 364 (.ref 140), he P "principal_kind" 373 (.ref 147), he P "bound_uri" 381 (.ref 154), he P "is_named" 393 (.ref 161), he P "passes" 406 (.ref 168), he P "lines_down" 417 (.ref 175), he P "place_among" 427 (.ref 182), he P "place_of" 439 (.ref 189), he P "in_order" 445 (.ref 194), he P "holds" 455 (.ref 201), he P "kept" 469 (.ref 208), he P "step_from" 475 (.ref 213), he P "step_nodes" 486 (.ref 220), he P "PARENTS" 491 (.ref 221), he P "NodeRow" 533 (.ref 238), he P "Tree" 786 (.ref 427), he P "rows_of" 794 (.ref 436), he P "Step" 834 (.ref 460), he P "_law_pool" 847 (.ref 471), he P "_law_take" 856 (.ref 478), he P "_law_one" 864 (.ref 485), he P "_law_tree" 878 (.ref 492), he P "_law_walked" 888 (.ref 499), he P "_law_value" 897 (.ref 506), he P "_law_holds" 908 (.ref 513), he P "_law_kept" 914 (.ref 518), he P "_law_passes" 926 (.ref 525), he P "_law_words" 936 (.ref 532), he P "law" 942 (.ref 537)] 52), #[]⟩).set 12 fun _ => hf #[(.int 1 0), (.int 0 0), (.ref 20), (.int 5 0), (.int 0 0), (.ref 27), (.int 10 0), (.int 0 0), (.ref 47), (.int 12 0), (.int 0 0), (.ref 59), (.int 15 0), (.int 0 0), (.ref 71), (.int 17 0), (.int 0 0), (.ref 78), (.int 24 0), (.int 0 0), (.ref 85), (.int 30 0), (.int 0 0), (.ref 92), (.int 36 0), (.int 0 0), (.ref 99), (.int 42 0), (.int 0 0), (.ref 106), (.int 48 0), (.int 0 0), (.ref 113), (.int 56 0), (.int 0 0), (.ref 120), (.int 64 0), (.int 0 0), (.ref 125), (.int 77 0), (.int 0 0), (.ref 132), (.int 94 0), (.int 0 0), (.ref 139), (.int 112 0), (.int 0 0), (.ref 146), (.int 114 0), (.int 0 0), (.ref 153), (.int 120 0), (.int 0 0), (.ref 160), (.int 125 0), (.int 0 0), (.ref 167), (.int 140 0), (.int 0 0), (.ref 174), (.int 146 0), (.int 0 0), (.ref 181), (.int 153 0), (.int 0 0), (.ref 188), (.int 159 0), (.int 0 0), (.ref 193), (.int 163 0), (.int 0 0), (.ref 200), (.int 169 0), (.int 0 0), (.ref 207), (.int 178 0), (.int 0 0), (.ref 212), (.int 181 0), (.int 0 0), (.ref 219), (.int 185 0), (.int 0 0), (.ref 227), (.int 197 0), (.int 0 0), (.ref 248), (.int 301 0), (.int 0 0), (.ref 435), (.int 303 0), (.int 0 0), (.ref 442), (.int 313 0), (.int 0 0), (.ref 470), (.int 321 0), (.int 0 0), (.ref 477), (.int 328 0), (.int 0 0), (.ref 484), (.int 330 0), (.int 0 0), (.ref 491), (.int 348 0), (.int 0 0), (.ref 498), (.int 353 0), (.int 0 0), (.ref 505), (.int 370 0), (.int 0 0), (.ref 512), (.int 378 0), (.int 0 0), (.ref 517), (.int 383 0), (.int 0 0), (.ref 524), (.int 392 0), (.int 0 0), (.ref 531), (.int 398 0), (.int 0 0), (.ref 536)]) 432 [
  ht #[],
  hf #[],
  hg "rows_of" "rows_of" (hT 37),
  ⟨(.type "code"), .none, (.fields #[(hs "rows_of" 789), (hs "rows_of" 790), (hs "/claim/cut.py" 791), (.int 301 0), (.int 1 0), (.int 0 0), (.int 0 0), (.int 3 0), (.ref 432), (.bool .true), (.int 181 0), (.ref 433), .none, .none, .none, (.ref 434), (.int 792 0), (.int 301 0), (hs "/claim/cut.py" 793)]), #[]⟩,
  hn "rows_of" "rows_of" (hT 37) "markupmill.xpath_nodes" 787 435,
  ht #[],
  ⟨(.type "builtin_function_or_method"), .none, (.fields #[(.builtin "type.__prepare__"), (.type "type")]), #[]⟩,
  ⟨(.type "dict"), .none, (.dict #[he P "__module__" 802 (hs "markupmill.xpath_nodes" 787), he P "__qualname__" 804 (hs "Step" 803), he P "__firstlineno__" 806 (.int 303 805), he P "__init__" 816 (.ref 450), he P "row" 823 (.ref 457), he P "__static_attributes__" 827 (.ref 458)] 6), #[]⟩,
  ht #[],
  hf #[(.int 305 0), (.int 4 0), (.ref 449), (.int 310 0), (.int 4 0), (.ref 456)],
  ⟨(.type "code"), .none, (.fields #[(hs "Step" 797), (hs "Step" 798), (hs "/claim/cut.py" 799), (.int 303 0), (.int 0 0), (.int 0 0), (.int 0 0), (.int 0 0), (.ref 440), (.bool .false), (.int 181 0), (.ref 441), .none, .none, .none, .none, (.int 800 0), (.int 303 0), (hs "/claim/cut.py" 801)]), #[]⟩,
  ⟨(.type "frame"), .none, .plain, #[(.some (.ref 442)), (.some (.ref 3)), (.some (.ref 439)), .none, (.some (hs "markupmill.xpath_nodes" 787)), .none, (.some (.ref 0))]⟩,
  ht #[],
  hf #[],
  ht #[(hs "self" 810), (hs "axis" 811), (hs "test" 812), (hs "predicates" 813)],
  ht #[],
  hg "__init__" "Step.__init__" (hC 38 0),
  hc "__init__" 807 "Step.__init__" 808 809 305 4 444 445 446 447 448 814 305 815,
  hn "__init__" "Step.__init__" (hC 38 0) "markupmill.xpath_nodes" 787 449,
  ht #[],
  hf #[],
  ht #[(hs "self" 820)],
  ht #[],
  hg "row" "Step.row" (hC 38 1),
  hc "row" 817 "Step.row" 818 819 310 1 451 452 453 454 455 821 310 822,
  hn "row" "Step.row" (hC 38 1) "markupmill.xpath_nodes" 787 456,
  ht #[(hs "axis" 824), (hs "predicates" 825), (hs "test" 826)],
  ⟨(.type "dict"), .none, (.dict #[he P "__module__" 802 (hs "markupmill.xpath_nodes" 787), he P "__firstlineno__" 806 (.int 303 805), he P "__init__" 816 (.ref 450), he P "row" 823 (.ref 457), he P "__static_attributes__" 827 (.ref 458), he P "__dict__" 829 (.ref 461), he P "__weakref__" 831 (.ref 462), he P "__doc__" 832 .none] 4), #[]⟩,
  ⟨(.type "type"), .none, (.cls ⟨(.ofString "Step"), [(.type "object")], [(.ref 460), (.type "object")], 459, (.ofString "Step"), .true, [], [], .false, .none, .false⟩), #[.none, .none, (.some (hs "Step" 795)), (.some (hs "Step" 803)), (.some (.builtin "object.__new__")), (.some (.bool .true))]⟩,
  ⟨(.type "getset_descriptor"), .none, (.fields #[(hs "__dict__" 828), (.ref 460), (.builtin "function.__dict__"), (.builtin "function.__dict__#set")]), #[]⟩,
  ⟨(.type "getset_descriptor"), .none, (.fields #[(hs "__weakref__" 830), (.ref 460), (.builtin "ExceptionGroup.__weakref__"), .none]), #[]⟩,
  ⟨(.type "super"), .none, (.fields #[(.ref 460), (.ref 460), (.ref 460)]), #[]⟩,
  ⟨(.type "builtin_function_or_method"), .none, (.fields #[(.builtin "object.__init_subclass__"), (.ref 460)]), #[]⟩,
  ht #[],
  hf #[],
  ht #[(hs "script" 840), (hs "digits" 841), (hs "mixed" 842), (hs "number" 843), (hs "size" 844)],
  ht #[],
  hg "_law_pool" "_law_pool" (hT 40),
  hc "_law_pool" 837 "_law_pool" 838 839 313 1 465 466 467 468 469 845 313 846,
  hn "_law_pool" "_law_pool" (hT 40) "law_nu0070_01" 835 470,
  ht #[],
  hf #[],
  ht #[(hs "source" 851), (hs "top" 852), (hs "drawn" 853)],
  ht #[],
  hg "_law_take" "_law_take" (hT 41),
  hc "_law_take" 848 "_law_take" 849 850 321 2 472 473 474 475 476 854 321 855,
  hn "_law_take" "_law_take" (hT 41) "law_nu0070_01" 835 477,
  ht #[],
  hf #[],
  ht #[(hs "source" 860), (hs "things" 861)],
  ht #[],
  hg "_law_one" "_law_one" (hT 42),
  hc "_law_one" 857 "_law_one" 858 859 328 2 479 480 481 482 483 862 328 863,
  hn "_law_one" "_law_one" (hT 42) "law_nu0070_01" 835 484,
  ht #[],
  hf #[],
  ht #[(hs "source" 868), (hs "many" 869), (hs "tree" 870), (hs "root" 871), (hs "inner" 872), (hs "turn" 873), (hs "parent" 874), (hs "way" 875)],
  ht #[],
  hg "_law_tree" "_law_tree" (hT 43),
  hc "_law_tree" 865 "_law_tree" 866 867 330 2 486 487 488 489 490 876 330 877,
  hn "_law_tree" "_law_tree" (hT 43) "law_nu0070_01" 835 491,
  ht #[],
  hf #[],
  ht #[(hs "tree" 882), (hs "node" 883), (hs "found" 884), (hs "child" 885)],
  ht #[],
  hg "_law_walked" "_law_walked" (hT 44),
  hc "_law_walked" 879 "_law_walked" 880 881 348 2 493 494 495 496 497 886 348 887,
  hn "_law_walked" "_law_walked" (hT 44) "law_nu0070_01" 835 498,
  ht #[],
  hf #[],
  ht #[(hs "tree" 892), (hs "value_of" 893)],
  ht #[(hs "tree" 894)],
  hg "_law_value" "_law_value" (hT 45),
  hc "_law_value" 889 "_law_value" 890 891 353 1 500 501 502 503 504 895 353 896,
  hn "_law_value" "_law_value" (hT 45) "law_nu0070_01" 835 505,
  ht #[],
  hf #[],
  ht #[(hs "tree" 901), (hs "word" 902), (hs "node" 903), (hs "position" 904), (hs "size" 905)],
  ht #[],
  hg "_law_holds" "_law_holds" (hT 46),
  hc "_law_holds" 898 "_law_holds" 899 900 370 5 507 508 509 510 511 906 370 907,
  hn "_law_holds" "_law_holds" (hT 46) "law_nu0070_01" 835 512,
  ht #[],
  hf #[],
  hg "_law_kept" "_law_kept" (hT 47),
  ⟨(.type "code"), .none, (.fields #[(hs "_law_kept" 909), (hs "_law_kept" 910), (hs "/claim/cut.py" 911), (.int 378 0), (.int 3 0), (.int 0 0), (.int 0 0), (.int 3 0), (.ref 514), (.bool .true), (.int 181 0), (.ref 515), .none, .none, .none, (.ref 516), (.int 912 0), (.int 378 0), (hs "/claim/cut.py" 913)]), #[]⟩,
  hn "_law_kept" "_law_kept" (hT 47) "law_nu0070_01" 835 517,
  ht #[],
  hf #[],
  ht #[(hs "tree" 918), (hs "node" 919), (hs "name" 920), (hs "test" 921), (hs "kind" 922), (hs "wanted" 923)],
  ht #[],
  hg "_law_passes" "_law_passes" (hT 48),
  hc "_law_passes" 915 "_law_passes" 916 917 383 4 519 520 521 522 523 924 383 925,
  hn "_law_passes" "_law_passes" (hT 48) "law_nu0070_01" 835 524,
  ht #[],
  hf #[],
  ht #[(hs "source" 930), (hs "words" 931), (hs "turn" 932), (hs "word" 933)],
  ht #[],
  hg "_law_words" "_law_words" (hT 49),
  hc "_law_words" 927 "_law_words" 928 929 392 1 526 527 528 529 530 934 392 935,
  hn "_law_words" "_law_words" (hT 49) "law_nu0070_01" 835 531,
  ht #[],
  hf #[],
  hg "law" "law" (hT 50),
  ⟨(.type "code"), .none, (.fields #[(hs "law" 937), (hs "law" 938), (hs "/claim/cut.py" 939), (.int 398 0), (.int 1 0), (.int 0 0), (.int 0 0), (.int 3 0), (.ref 533), (.bool .true), (.int 181 0), (.ref 534), .none, .none, .none, (.ref 535), (.int 940 0), (.int 398 0), (hs "/claim/cut.py" 941)]), #[]⟩,
  hn "law" "law" (hT 50) "law_nu0070_01" 835 536]
noncomputable def hdS3 (w : World) (os : OsState) : SharedT := ⟨hdT3 w.params, 538, {}, #[], boot_drawn, 943, os⟩
noncomputable abbrev hdB : List Stmt := behindTheImports PySem.Challenge.pw_nu0070_01
end
theorem left3 {p q : Program} {loose : List Str} {Xt : Shared → Bool} {α : Type} {Yf : Shared → α} {Ya : World → α} {N : Nat} {g0 : Bool} {H₀ : Params → Heap} {gs₀ : Array GenState} {d₀ : Drawn} {k₀ m₀ : Nat} {ann : Option Value}
    {bE b1 b2 b3 : List Stmt} {env : Env} {pos0 pos1 pos2 pos3 pos4 q0 : Pos} {S0 S1 S2 S3 : World → OsState → SharedT} {n0 n1 n2 n3 n4 n5 : Nat}
    (open_ : ∀ w : World, (fencedOpening treeTable p w N).map (fun s => (s.heap, s.gens, s.drawn, s.toks)) = some (H₀ w.params, gs₀, d₀, k₀))
    (size : ∀ w : World, ((H₀ w.params).isNs mainGlobals && gs₀.size == 0, (H₀ w.params).objs.size, (H₀ w.params).nsMap mainGlobals "__annotations__") = (true, m₀, ann))
    (pre : ∀ (w : World) (os : OsState), topGo treeTable p w m₀ ann n0 ⟨H₀ w.params, gs₀, d₀, k₀, os⟩ (topStub p) = some ((S0 w os).abs, ⟨denote treeTable (.body bE env), .body bE env, pos0, [topFrame q0]⟩))
    (block : ∀ (w : World) (os : OsState), segRun treeTable p w m₀ ann 1 n1 (S0 w os).abs (blockOf bE env (.body bE env) pos0 [topFrame q0]) = some (.next, (S0 w os).abs, .body bE env, pos1))
    (hb : b1 ++ (b2 ++ (b3 ++ [])) = bE)
    (r1 : ∀ (w : World) (os : OsState), segRunT treeTable p w m₀ ann 1 n2 (S0 w os) (piecesOf b1 env (.body bE env) pos1 [topFrame q0]) = some (.next, S1 w os, .body bE env, pos2))
    (r2 : ∀ (w : World) (os : OsState), segRunT treeTable p w m₀ ann 1 n3 (S1 w os) (piecesOf b2 env (.body bE env) pos2 [topFrame q0]) = some (.next, S2 w os, .body bE env, pos3))
    (r3 : ∀ (w : World) (os : OsState), segRunT treeTable p w m₀ ann 1 n4 (S2 w os) (piecesOf b3 env (.body bE env) pos3 [topFrame q0]) = some (.next, S3 w os, .body bE env, pos4))
    (looks : ∀ (w : World) (os : OsState), (staticsOk (importedModules p.main.body) (H₀ w.params) (S3 w os).abs.heap && namesBound p (S3 w os).abs.heap && gensDone (S3 w os).abs && laidKept (H₀ w.params) (S3 w os).abs.heap) = true)
    (seen : ∀ (w : World) (os : OsState), openSeen q loose (importedModules p.main.body) Xt g0 (S3 w os).abs = openGood q loose)
    (says : ∀ (w : World) (os : OsState), Yf (S3 w os).abs = Ya w)
    (fin : ∀ (w : World) (s : Shared), topRun treeTable p w m₀ ann n5 s ⟨doneF .next, .body bE env, pos4, [topFrame q0]⟩ = some s)
    (le : Nat.ble (n0 + (n1 + (n2 + (n3 + (n4 + n5))))) N = true) : LeftO p q loose Xt Yf Ya N g0 := fun w => by
  obtain ⟨⟨h, gs, d, k, os⟩, e, e'⟩ := Option.map_eq_some_iff.mp (open_ w)
  obtain ⟨rfl, rfl, rfl, rfl⟩ : h = H₀ w.params ∧ gs = gs₀ ∧ d = d₀ ∧ k = k₀ := by simpa using e'
  obtain ⟨z1, z2, z3⟩ : _ ∧ _ ∧ _ := by simpa only [Prod.mk.injEq] using size w
  have r0 := piece_app (segRun_of (r1 w os)) (piece_app (segRun_of (r2 w os)) (piece_app (segRun_of (r3 w os)) (piece_nil (fin w (S3 w os).abs))))
  rw [hb] at r0
  have r9 := go_top (pre w os) (piece_block (block w os) r0)
  have r := topRun_mono (N - (n0 + (n1 + (n2 + (n3 + (n4 + n5)))))) _ _ _ _ r9
  rw [show n0 + (n1 + (n2 + (n3 + (n4 + n5)))) + (N - (n0 + (n1 + (n2 + (n3 + (n4 + n5)))))) = N by have := Nat.le_of_ble_eq_true le; omega] at r
  have t : topFrom treeTable p w N ⟨H₀ w.params, gs, d, k, os⟩ = some (S3 w os).abs := by
    unfold topFrom
    dsimp only
    rw [z1, z2, z3, r]
    show (match staticsOk (importedModules p.main.body) (H₀ w.params) (S3 w os).abs.heap && namesBound p (S3 w os).abs.heap && gensDone (S3 w os).abs && laidKept (H₀ w.params) (S3 w os).abs.heap with | true => _ | false => _) = _
    rw [looks w os]
  unfold openEnds
  rw [e]
  show (topFrom treeTable p w N _).map _ = _
  rw [t]
  exact congrArg some (Prod.ext (seen w os) (says w os))
theorem hdRun1 (w : World) (os : OsState) : segRunT treeTable PySem.Challenge.pw_nu0070_01 w 11 (some (.ref 6)) 1 1746 (hdSb w os) (piecesOf (hdB.take 35) hdEnv (.body hdB hdEnv) ⟨0, 0, 0, 0⟩ [topFrame ⟨0, 0, 0, 0⟩]) = some (.next, hdS1 w os, .body hdB hdEnv, ⟨185, 0, 196, 28⟩) := by kernel_rfl
theorem hdRun2 (w : World) (os : OsState) : segRunT treeTable PySem.Challenge.pw_nu0070_01 w 11 (some (.ref 6)) 1 1027 (hdS1 w os) (piecesOf ((hdB.drop 35).take 1) hdEnv (.body hdB hdEnv) ⟨185, 0, 196, 28⟩ [topFrame ⟨0, 0, 0, 0⟩]) = some (.next, hdS2 w os, .body hdB hdEnv, ⟨197, 0, 299, 16⟩) := by kernel_rfl
theorem hdRun3 (w : World) (os : OsState) : segRunT treeTable PySem.Challenge.pw_nu0070_01 w 11 (some (.ref 6)) 1 675 (hdS2 w os) (piecesOf (hdB.drop 36) hdEnv (.body hdB hdEnv) ⟨197, 0, 299, 16⟩ [topFrame ⟨0, 0, 0, 0⟩]) = some (.next, hdS3 w os, .body hdB hdEnv, ⟨398, 0, 417, 15⟩) := by kernel_rfl
theorem hdLooks (w : World) (os : OsState) : (staticsOk (importedModules PySem.Challenge.pw_nu0070_01.main.body) (boot_heap w.params) (hdS3 w os).abs.heap && namesBound PySem.Challenge.pw_nu0070_01 (hdS3 w os).abs.heap && gensDone (hdS3 w os).abs && laidKept (boot_heap w.params) (hdS3 w os).abs.heap) = true := by kernel_rfl
theorem hdPre (w : World) (os : OsState) : topGo treeTable PySem.Challenge.pw_nu0070_01 w 11 (some (.ref 6)) 12 ⟨boot_heap w.params, Array.mk [], boot_drawn, boot_toks, os⟩ (topStub PySem.Challenge.pw_nu0070_01) = some ((hdSb w os).abs, ⟨denote treeTable (.body hdB hdEnv), .body hdB hdEnv, ⟨0, 0, 0, 0⟩, [topFrame ⟨0, 0, 0, 0⟩]⟩) := by kernel_rfl
theorem hdBlock (w : World) (os : OsState) : segRun treeTable PySem.Challenge.pw_nu0070_01 w 11 (some (.ref 6)) 1 1 (hdSb w os).abs (blockOf hdB hdEnv (.body hdB hdEnv) ⟨0, 0, 0, 0⟩ [topFrame ⟨0, 0, 0, 0⟩]) = some (.next, (hdSb w os).abs, .body hdB hdEnv, ⟨0, 0, 0, 0⟩) := by kernel_rfl
theorem keepL {P Q : Prop} (a : P) (_ : Q) : P := a
theorem hdSaid : OpenLaw.wellSaid PySem.Challenge.rw_nu0070_01 = true := by kernel_rfl
local macro_rules | `(tactic| o_law) => `(tactic| refine holds_law hdSaid fun said => ?_)
local macro_rules | `(tactic| k_head) => do
  let hl := Lean.mkIdent `hl
  `(tactic| (refine' (keepL ?_ ?$hl:ident); rotate_left; rotate_left; refine' _; rotate_left; rotate_left; (focus km_head); rotate_left; rotate_left; k_extra "hl"))
example : True := by
  (k_with "hl" => (exact left3 (H₀ := boot_heap) (gs₀ := Array.mk []) (d₀ := boot_drawn) (k₀ := boot_toks) (m₀ := 11) (ann := some (.ref 6)) (bE := hdB) (env := hdEnv) (pos0 := ⟨0, 0, 0, 0⟩) (pos1 := ⟨0, 0, 0, 0⟩) (q0 := ⟨0, 0, 0, 0⟩) (S0 := hdSb) (S1 := hdS1) (S2 := hdS2) (S3 := hdS3) (n0 := 12) (n1 := 1) (n5 := 2) (boot_open (by kernel_rfl) (by decide) (fun s => by kernel_rfl)) (fun w => by kernel_rfl) hdPre hdBlock (by kernel_rfl) hdRun1 hdRun2 hdRun3 hdLooks (fun w os => by kernel_rfl) (fun w os => by kernel_rfl) (fun w s => by kernel_rfl) (by decide)))
  trivial
set_option maxHeartbeats 80000000 in
open_top hd for PySem.Challenge.rw_nu0070_01
example : True := by w_top off; trivial
noncomputable abbrev prg : Program := PySem.Challenge.rw_nu0070_01.row.toRowW.prog
theorem room_next {a d l : Nat} (h : a + d < l) (hd : 1 ≤ d) : a + 1 + (d - 1) < l := by omega
theorem units_next {a d l : Nat} (h : a + d < l) (hd : 3 ≤ d) : a + 3 + (d - 3) < l := by omega
theorem room_1 {a d l : Nat} (h : a + d < l) (hd : 1 ≤ d) : a < l := by omega
structure At (w : World) (A : Around) (h : Heap) (dp un : Nat) : Prop where
  handled : A.handled = none
  room : A.depth + dp < recursionLimit
  units : A.units + un < cLine
  below : ∃ base outer, Below A base outer h
  k : (hd.heap_1 w.params).In h
  top : ∃ p loose mean mg mb, Top p loose mean mg mb h
inductive BackG (g : Heap) (s : Shared) (P : Value → Heap → Prop) (v : Value) (s' : Shared) : Prop
  | mk (h' : _) (tk' : _) (e1 : s' = { s with heap := h', toks := tk' }) (e2 : (∀ b o, g.get? b = some o → h'.get? b = some o)) (e3 : P v h') : BackG g s P v s'
noncomputable abbrev Back (s : Shared) (P : Value → Heap → Prop) (v : Value) (s' : Shared) : Prop := BackG s.heap s P v s'
inductive EndB (gn : Array GenState) (dr : Drawn) (os : OsState) (P : Value → Heap → Prop) (g : Heap) (L : Addr) (v : Value) : Shared → Prop
  | mk (h : Heap) (m : Str → Option Value) (tk : Nat) (F : Fr g L h m) (hP : P v h) : EndB gn dr os P g L v ⟨h, gn, dr, tk, os⟩
noncomputable def EndK (gn : Array GenState) (dr : Drawn) (os : OsState) (P : Value → Heap → Prop) (g : Heap) (L : Addr) (K : Flow → Shared → Prop) : Prop :=
  ∀ fl v h m tk, (match fl with | .ret v => v | _ => Value.none) = v → Fr g L h m → P v h → K fl ⟨h, gn, dr, tk, os⟩
noncomputable def nA (A : Around) : Around := { A with handled := none }
noncomputable abbrev envL (qual : Str) (scope : Scope) (f : Addr) (cdv : Value) (L : Addr) : Env := envOf qual scope L f cdv
noncomputable def NoErr : Value → Shared → Prop := fun _ _ => False
theorem At.mono {w : World} {A : Around} {h : Heap} {dp un dp' un' : Nat} (H : At w A h dp un) (hd : dp' ≤ dp) (hu : un' ≤ un) : At w A h dp' un' :=
  ⟨H.handled, Nat.lt_of_le_of_lt (Nat.add_le_add_left hd _) H.room, Nat.lt_of_le_of_lt (Nat.add_le_add_left hu _) H.units, H.below, H.k, H.top⟩
noncomputable def Callee (w : World) (A : Around) (g : Heap) (L : Addr) (dp un : Nat) : Prop := ∀ h m, Fr g L h m → At w A h dp un
theorem Callee.at {w : World} {A : Around} {g h : Heap} {L : Addr} {m : Str → Option Value} {dp un dp' un' : Nat} (C : Callee w A g L dp un) (F : Fr g L h m) (hd : dp' ≤ dp) (hu : un' ≤ un) : At w A h dp' un' := (C h m F).mono hd hu
theorem enter {w : World} {A : Around} {s : Shared} {dp un : Nat} {P : Value → Heap → Prop}
    {name qual : Str} {params : Arguments} {body : List Stmt} {scope : Scope} {dV kV doc pm cdv ct oc : Value} {an od : Option Addr} {osl : Array (Option Value)} {f : Addr} {args : List Value} {binds : List (Str × Value)}
    (H : At w A s.heap dp un) (hdp : 1 ≤ dp) (hun : 3 ≤ un)
    (ho : (hd.heap_1 w.params).lookup f = some ⟨oc, od, .func (fnOf name qual params body scope dV kV doc pm an cdv ct), osl⟩) (hcd : codeIn (hd.heap_1 w.params) cdv qual = true)
    (hbind : BindsTo s (fnOf name qual params body scope dV kV doc pm an cdv ct) ⟨args, []⟩ binds) (hloc : ∀ y ∈ binds, scope.names.lookup y.1 = some .local)
    (h : ∀ h₁ gn dr os A' L tk p loose mean mg mb, Fr s.heap L h₁ (fun y => binds.reverse.lookup y) → News s.heap L h₁ [] → (hd.heap_1 w.params).In s.heap → Top p loose mean mg mb s.heap →
      Callee w (nA A') s.heap L (dp - 1) (un - 3) → (nA A').depth + (dp - 1) < recursionLimit → (nA A').units + (un - 3) < cLine → ∀ K, EndK gn dr os P s.heap L K →
      wpAny (model prg w) (nA A') (execs body (envL qual scope f cdv L)) K NoErr ⟨h₁, gn, dr, tk, os⟩)
    (hcell : ∀ x ∈ scope.names, x.2 ≠ .cell := by decide) (hco : scope.isCoroutine = false := by rfl) (hgen : scope.isGenerator = false := by rfl) (hk : scope.kind = .function := by rfl) :
    wpAny (model prg w) A (call (.ref f) args) (Back s P) NoErr s := by
  obtain ⟨base, outer, B⟩ := H.below
  obtain ⟨p, loose, mean, mg, mb, T⟩ := H.top
  refine wpAny_call (codeAny_call_def (fd := fnOf name qual params body scope dV kV doc pm an cdv ct) (body := body) (binds := binds) (room_1 H.room hdp) (H.k _ _ ho) rfl T.nolimit (codeRec_of H.k hcd) rfl hbind hcell hloc (fun h₁ hns hk₁ => ?_) hco hgen hk)
  have r1 : A.depth + 1 + (dp - 1) < recursionLimit := room_next H.room hdp
  have r2 : A.units + 3 + (un - 3) < cLine := units_next H.units hun
  have eB : A.deeper (envOf qual scope s.heap.objs.size f cdv) = nA (A.deeper (envOf qual scope s.heap.objs.size f cdv)) := by
    have e1 := H.handled
    obtain ⟨ha, da, fa, ga, ua⟩ := A
    dsimp only at e1
    subst e1
    rfl
  show wpAny (model prg w) (A.deeper (envOf qual scope s.heap.objs.size f cdv)) _ _ _ _
  rw [eB]
  refine wpAny_mono (h h₁ _ _ _ (A.deeper (envOf qual scope s.heap.objs.size f cdv)) _ _ p loose mean mg mb ⟨hns, hk₁, Nat.le_refl _⟩ .nil H.k T ?_ r1 r2 (fun fl s' => EndB s.gens s.drawn s.os P s.heap s.heap.objs.size (match fl with | .ret v => v | _ => .none) s') fun fl v h m tk e F hP => ⟨h, m, tk, F, e ▸ hP⟩) (fun fl s' hl => ?_) fun _ _ y => y.elim
  · intro h' m' F'
    exact ⟨rfl, r1, r2, ⟨base, _, by rw [← eB]; exact pushX B F' rfl hk⟩, H.k.keeps F'.keep, ⟨p, loose, mean, mg, mb, T.keeps F'.keep⟩⟩
  · obtain ⟨h', m, tk', F, hP⟩ := hl
    exact ⟨h', tk', rfl, F.keep, hP⟩
theorem use {w : World} {A : Around} {s : Shared} {P : Value → Heap → Prop} {h₀ : Heap} {L : Addr} {m : Str → Option Value} {news : List (Addr × Obj)} {c : Sem Value} {Q E : Value → Shared → Prop}
    (C : wpAny (model prg w) A c (Back s P) NoErr s) (F : Fr h₀ L s.heap m) (N : News h₀ L s.heap news)
    (k : ∀ v h' tk', Fr h₀ L h' m → News h₀ L h' news → (∀ b o, s.heap.get? b = some o → h'.get? b = some o) → P v h' → Q v { s with heap := h', toks := tk' }) :
    wpAny (model prg w) A c Q E s := by
  refine wpAny_mono C (fun v s' hb => ?_) fun _ _ y => y.elim
  obtain ⟨h', tk', rfl, hk, hP⟩ := hb
  refine k v h' tk' ⟨F.ns.keeps hk, fun b o e => hk _ _ (F.keep b o e), F.above⟩ (N.grown hk) hk hP
inductive ListOut (s : Shared) (ns : List Int) (v : Value) (h' : Heap) : Prop
  | mk (a : _) (vs : _) (n : _) (e1 : v = .ref a) (e2 : s.heap.get? a = none) (e3 : h'.get? a = some (listOf (List.toArray vs) n)) (e4 : IntsAre vs ns) : ListOut s ns v h'
theorem useL {w : World} {A : Around} {s : Shared} {ns : List Int} {h₀ : Heap} {L : Addr} {m : Str → Option Value} {news : List (Addr × Obj)} {c : Sem Value} {Q E : Value → Shared → Prop}
    (C : wpAny (model prg w) A c (Back s (ListOut s ns)) NoErr s) (F : Fr h₀ L s.heap m) (N : News h₀ L s.heap news)
    (k : ∀ a vs n h' tk', Fr h₀ L h' m → News h₀ L h' ((a, listOf (List.toArray vs) n) :: news) → (∀ p ∈ news, @Ne Nat p.1 a) → IntsAre vs ns → Q (.ref a) { s with heap := h', toks := tk' }) :
    wpAny (model prg w) A c Q E s := by
  refine use C F N fun v h' tk' F' N' hk hP => ?_
  obtain ⟨a, vs, n, rfl, hle, hg, hi⟩ := hP
  refine k a vs n h' tk' F' (fun p hp => ?_) (fun p hp e => by have := (N p hp).1; rw [e, hle] at this; cases this) hi
  rcases List.mem_cons.mp hp with rfl | hp
  · refine ⟨hg, fun e => ?_, ?_⟩
    · obtain ⟨oL, _, _, hL, _⟩ := F.ns
      dsimp only at e
      rw [← e, hle] at hL; cases hL
    · cases hq : h₀.get? a with
      | none => rfl
      | some o => have := F.keep _ _ hq; rw [hle] at this; cases this
  · exact N' p hp
example (w : World) (h : Heap) : PySem.Challenge.rw_nu0070_01 = PySem.Challenge.rw_nu0070_01 → (hd.heap_1 w.params).In h → True := by k_fill; intros; trivial
example : True := by w_top off; trivial
structure Row where
  kind : Str
  name : Str
  uri : Str
  loc : Str
  val : Str
  par : Option Nat
  ch : List Nat
  at_ : List Nat
  ns : List Nat
structure Rep where
  x : Addr
  dx : Addr
  c : Addr
  a : Addr
  n : Addr
noncomputable def nat (ns : List Nat) : List Int := ns.map fun (i : Nat) => (i : Int)
inductive IntsAt (h : Heap) (a : Addr) (ns : List Nat) : Prop
  | mk (vs : _) (n : _) (e1 : h.get? a = some (listOf (List.toArray vs) n)) (e2 : IntsAre vs (nat ns)) : IntsAt h a ns
noncomputable def ParV (v : Value) : Option Nat → Prop
  | none => v = .none
  | some p => ∃ t, v = .int (p : Int) t
noncomputable abbrev hsh (w : World) (x : Str) : Int := PyData.keyHash w.params x
inductive RowDict (w : World) (h : Heap) (q : Rep) (R : Row) : Prop
  | mk (t0 t1 t2 t3 t4 t5 t6 t7 t8 u0 u1 u2 u3 u4 : Tok) (pv : Value) (nn : Nat) (e1 : ParV pv R.par) (e2 : h.get? q.dx = some (dictOf [ ⟨PyData.keyHash w.params (Str.ofString "kind"), .str (Str.ofString "kind") t0, .str R.kind u0⟩, ⟨PyData.keyHash w.params (Str.ofString "name"), .str (Str.ofString "name") t1, .str R.name u1⟩, ⟨PyData.keyHash w.params (Str.ofString "uri"), .str (Str.ofString "uri") t2, .str R.uri u2⟩, ⟨PyData.keyHash w.params (Str.ofString "local"), .str (Str.ofString "local") t3, .str R.loc u3⟩, ⟨PyData.keyHash w.params (Str.ofString "value"), .str (Str.ofString "value") t4, .str R.val u4⟩, ⟨PyData.keyHash w.params (Str.ofString "parent"), .str (Str.ofString "parent") t5, pv⟩, ⟨PyData.keyHash w.params (Str.ofString "children"), .str (Str.ofString "children") t6, .ref q.c⟩, ⟨PyData.keyHash w.params (Str.ofString "attributes"), .str (Str.ofString "attributes") t7, .ref q.a⟩, ⟨PyData.keyHash w.params (Str.ofString "namespaces"), .str (Str.ofString "namespaces") t8, .ref q.n⟩] nn)) : RowDict w h q R
structure RowAt (w : World) (h : Heap) (q : Rep) (R : Row) : Prop where
  inst : h.get? q.x = some (instObj 238 q.dx)
  dict : RowDict w h q R
  ch : IntsAt h q.c R.ch
  at_ : IntsAt h q.a R.at_
  ns : IntsAt h q.n R.ns
noncomputable def dft : Row := ⟨Str.ofString "", Str.ofString "", Str.ofString "", Str.ofString "", Str.ofString "", none, [], [], []⟩
noncomputable def rw (T : List Row) (i : Nat) : Row := T.getD i dft
noncomputable def kd (T : List Row) (i : Nat) : Str := (rw T i).kind
noncomputable def nm (T : List Row) (i : Nat) : Str := (rw T i).name
noncomputable def ur (T : List Row) (i : Nat) : Str := (rw T i).uri
noncomputable def lo (T : List Row) (i : Nat) : Str := (rw T i).loc
noncomputable def pa (T : List Row) (i : Nat) : Option Nat := (rw T i).par
noncomputable def ch (T : List Row) (i : Nat) : List Nat := (rw T i).ch
noncomputable def atl (T : List Row) (i : Nat) : List Nat := (rw T i).at_
noncomputable def nsl (T : List Row) (i : Nat) : List Nat := (rw T i).ns
structure Sm (T : List Row) : Prop where
  len : T.length ≤ 100
  ch : ∀ i, (ch T i).length ≤ 100
  atl : ∀ i, (atl T i).length ≤ 100
  nsl : ∀ i, (nsl T i).length ≤ 100
structure TreeE (w : World) (h : Heap) (t dt rl : Addr) (qs : List Rep) (T : List Row) : Prop where
  inst : h.get? t = some (instObj 427 dt)
  dict : ∃ tk n, h.get? dt = some (dictOf [⟨PyData.keyHash w.params (Str.ofString "rows"), .str (Str.ofString "rows") tk, .ref rl⟩] n)
  list : ∃ n, h.get? rl = some (listOf (List.toArray (qs.map fun q => Value.ref q.x)) n)
  len : qs.length = T.length
  row : ∀ (i : Nat) (q : Rep), qs[i]? = some q → RowAt w h q (rw T i)
  sm : Sm T
inductive TreeAt (w : World) (h : Heap) (t : Addr) (T : List Row) : Prop
  | mk (dt : _) (rl : _) (qs : _) (e1 : TreeE w h t dt rl qs T) : TreeAt w h t T
section
variable {w : World} {h h' : Heap} {a t dt rl : Addr} {ns : List Nat} {q : Rep} {R : Row} {qs : List Rep} {T : List Row}
theorem IntsAt.keep (H : IntsAt h a ns) (k : ∀ b o, h.get? b = some o → h'.get? b = some o) : IntsAt h' a ns := let ⟨vs, n, e, i⟩ := H; ⟨vs, n, k _ _ e, i⟩
theorem RowAt.keep (H : RowAt w h q R) (k : ∀ b o, h.get? b = some o → h'.get? b = some o) : RowAt w h' q R :=
  ⟨k _ _ H.inst, let ⟨t0, t1, t2, t3, t4, t5, t6, t7, t8, u0, u1, u2, u3, u4, pv, nn, hp, e⟩ := H.dict; ⟨t0, t1, t2, t3, t4, t5, t6, t7, t8, u0, u1, u2, u3, u4, pv, nn, hp, k _ _ e⟩, H.ch.keep k, H.at_.keep k, H.ns.keep k⟩
theorem TreeE.keep (H : TreeE w h t dt rl qs T) (k : ∀ b o, h.get? b = some o → h'.get? b = some o) : TreeE w h' t dt rl qs T :=
  ⟨k _ _ H.inst, let ⟨tk, n, e⟩ := H.dict; ⟨tk, n, k _ _ e⟩, let ⟨n, e⟩ := H.list; ⟨n, k _ _ e⟩, H.len, fun i q h1 => (H.row i q h1).keep k, H.sm⟩
theorem TreeAt.keep (H : TreeAt w h t T) (k : ∀ b o, h.get? b = some o → h'.get? b = some o) : TreeAt w h' t T := let ⟨dt, rl, qs, e⟩ := H; ⟨dt, rl, qs, e.keep k⟩
end
theorem TreeE.at_ {w : World} {h : Heap} {t dt rl : Addr} {qs : List Rep} {T : List Row} (H : TreeE w h t dt rl qs T) {i : Nat} (hi : i < T.length) : ∃ q, qs[i]? = some q ∧ RowAt w h q (rw T i) := by
  have e := H.len
  have hq : qs[i]? = some qs[i] := List.getElem?_eq_getElem (by omega)
  exact ⟨_, hq, H.row i _ hq⟩
theorem nat_len (ns : List Nat) : (nat ns).length = ns.length := List.length_map ..
theorem inst_base {g h : Heap} {L : Addr} {m : Str → Option Value} {x C dx : Addr} {od : Obj} (F : Fr g L h m) (h1 : g.get? x = some (instObj C dx)) (h2 : g.get? dx = some od) :
    InstAt h x (instObj C dx) C (some od) := ⟨F.keep _ _ h1, rfl, rfl, F.keep _ _ h2⟩
example : True := by w_top off; trivial
section
variable {prog : Program} {w : World} {A : Around} {E : Value → Shared → Prop} {s : Shared} {g : Heap} {L D l b : Addr} {m : Str → Option Value} {news news' : List (Addr × Obj)} {n n2 : Nat}
theorem isList_base {h : Heap} {items : Array Value} (F : Fr g L h m) (e : g.get? l = some (listOf items n)) : h.IsList l items := ⟨_, F.keep _ _ e, rfl, n, rfl⟩
theorem bd_fit {k : Nat} (h : k ≤ 20000) : (k : Int) < 2 ^ 63 := by omega
theorem bd_line {k : Nat} (h : k ≤ 40000) : k ≤ sizeLine := by rw [sizeLine_eq]; omega
theorem len_ints {vs : List Value} {ns : List Int} {Q : Value → Shared → Prop} (hl : s.heap.IsList l vs.toArray) (hi : IntsAre vs ns) (hb : ns.length ≤ 20000)
    (h : ∀ t tk, Q (.int (ns.length : Int) t) { s with toks := tk }) : wpAny (model prog w) A (call (.builtin "len") [.ref l]) Q E s := by
  have e : vs.toArray.size = ns.length := by rw [List.size_toArray, hi.length]
  refine len_list hl ?_ ?_
  · rw [e]; exact bd_fit hb
  · rw [e]; exact h _ _
theorem len_of {items : Array Value} {k : Nat} {Q : Value → Shared → Prop} (hl : s.heap.IsList l items) (e : items.size = k) (hb : k ≤ 20000)
    (h : ∀ t tk, Q (.int (k : Int) t) { s with toks := tk }) : wpAny (model prog w) A (call (.builtin "len") [.ref l]) Q E s := by
  subst e
  exact len_list hl (bd_fit hb) (h _ _)
theorem item_of {value slice : PySem.Expr} {items : Array Value} {k : Nat} {u : Tok} {x : Value} {Q : Value → Shared → Prop} (hl : s.heap.IsList l items)
    (hx : items[k]? = some x) (hfit : k ≤ 20000) (h : Q x s)
    (hs : subscripted slice false (.ref l) (.int k u) = operate [.ref l, .int k u] (getItem (.ref l) (.int k u)) := by with_unfolding_all rfl) :
    wpAny (model prog w) A (subscriptTail value slice (.ref l) (.int k u)) Q E s :=
  tail_any hl.typeIs slot_list_getitem.lookup (wpAny_getItem_list hl (by omega) (bd_fit hfit) (by simpa using hx) h) hs
theorem append_v {vs : List Value} {x : Value} {Q : Value → Shared → Prop} (F : Fr g L s.heap m) (N : News g L s.heap news) (U : Upd D (listOf vs.toArray n) (listOf (vs ++ [x]).toArray (n + 1)) news news')
    (hb : vs.length ≤ 20000) (h : ∀ h', Fr g L h' m → News g L h' news' → Q .none { s with heap := h' }) : wpAny (model prog w) A (call (.builtin "list.append") [.ref D, x]) Q E s := by
  have e : vs.toArray.push x = (vs ++ [x]).toArray := by simp
  refine append_K F N (its := vs.toArray) (e ▸ U) h (by rw [List.size_toArray]; exact bd_line (by omega))
theorem extend_v {ys ws : List Value} {Q : Value → Shared → Prop} (F : Fr g L s.heap m) (N : News g L s.heap news) (hb : (b, listOf ws.toArray n2) ∈ news) (n' : Nat) 
    (hn : n' = if ws.length = 0 then n else n + 1) (U : Upd D (listOf ys.toArray n) (listOf (ys ++ ws).toArray n') news news') (hz : ys.length + ws.length ≤ 40000)
    (h : ∀ h', Fr g L h' m → News g L h' news' → Q .none { s with heap := h' }) :
    wpAny (model prog w) A (call (.builtin "list.extend") [.ref D, .ref b]) Q E s := by
  obtain ⟨pre, post, rfl, rfl, u, v⟩ := U.split
  have hm := N _ (List.mem_append_right pre (List.Mem.head post))
  have hsz' : ys.toArray.size + ws.toArray.size ≤ sizeLine := by rw [List.size_toArray, List.size_toArray]; exact bd_line hz
  refine call_meets PySem.F.slot_list_extend ⟨_, hm.1, rfl⟩ PySem.F.entry_list_extend (PySem.F.args_list_extend_2 _ _) (AutoSeq1.list_extend_list_list_0 D ys.toArray n b ws.toArray n2 (extend_door hsz') (Nat.le_trans (Nat.le_add_right _ _) hsz')) ⟨hm.1, (N _ hb).1, ?_⟩
  have e : ys.toArray ++ ws.toArray = (ys ++ ws).toArray := by simp
  have ho' : (s.heap.update D (Obj.mapSeq fun x => x ++ ws.toArray)).get? D = some (listOf (ys ++ ws).toArray n') := by
    rw [Heap.get?_update_self _ hm.1 (by rfl)]
    show some ({ cls := .type "list", dict := none, data := .seq (ys.toArray ++ ws.toArray) (if (ys.toArray ++ ws.toArray).size == ys.toArray.size then n else n + 1), slots := #[] } : Obj) = _
    rw [e, hn]
    congr 3
    simp
  exact h _ (F.change (Heap.SameBut.update ..) hm.2.1 hm.2.2) (news_set N u v (Heap.SameBut.update ..) ho')
end
theorem base_ne {g h : Heap} {L a : Addr} {m : Str → Option Value} {o : Obj} (F : Fr g L h m) (e : g.get? a = some o) : a ≠ L := fun q => by
  have h3 := Heap.lt_size e
  rw [q] at h3
  exact Nat.lt_irrefl _ (Nat.lt_of_lt_of_le h3 F.above)
theorem endB {gn : Array GenState} {dr : Drawn} {os : OsState} {P : Value → Heap → Prop} {g h : Heap} {L : Addr} {m : Str → Option Value} {v : Value} {tk : Nat} (F : Fr g L h m) (hP : P v h) : EndB gn dr os P g L v ⟨h, gn, dr, tk, os⟩ :=
  ⟨h, m, tk, F, hP⟩
theorem endK {gn : Array GenState} {dr : Drawn} {os : OsState} {P : Value → Heap → Prop} {g h : Heap} {L : Addr} {K : Flow → Shared → Prop} {m : Str → Option Value} {v : Value} {tk : Nat} (hK : EndK gn dr os P g L K) (F : Fr g L h m) (hP : P v h) : K (.ret v) ⟨h, gn, dr, tk, os⟩ := hK _ _ h m tk rfl F hP
theorem endN {gn : Array GenState} {dr : Drawn} {os : OsState} {P : Value → Heap → Prop} {g h : Heap} {L : Addr} {K : Flow → Shared → Prop} {m : Str → Option Value} {tk : Nat} (hK : EndK gn dr os P g L K) (F : Fr g L h m) (hP : P .none h) : K .next ⟨h, gn, dr, tk, os⟩ := hK _ _ h m tk rfl F hP
section
variable {prog : Program} {w : World} {A : Around} {E : Value → Shared → Prop} {s : Shared} {g : Heap} {L D l b : Addr} {m : Str → Option Value} {news news' : List (Addr × Obj)} {n n2 : Nat}
theorem last_snoc (y : Value) : ∀ p : List Value, kl_last (p ++ [y]) = some (p, y) := kpa_last y
theorem pop_v {vs : List Value} {y : Value} {Q : Value → Shared → Prop} (F : Fr g L s.heap m) (N : News g L s.heap news) (U : Upd D (listOf (List.toArray (vs ++ [y])) n) (listOf (List.toArray vs) (n + 1)) news news')
    (hb : vs.length ≤ 20000) (h : ∀ h', Fr g L h' m → News g L h' news' → Q y { s with heap := h' }) : wpAny (model prog w) A (call (.builtin "list.pop") [.ref D]) Q E s :=
  kl_pop F N (p := vs) (y := y) (by simpa using kpa_last y vs) U (by
    show (vs ++ [y]).length ≤ sizeLine
    rw [List.length_append]; exact bd_line (by simp; omega)) h
theorem ints_snoc {vs : List Value} {c : List Int} {x : Int} (h : IntsAre vs (c ++ [x])) : ∃ vc t, vs = vc ++ [.int x t] ∧ IntsAre vc c := by
  induction c generalizing vs with
  | nil => cases h with | cons _ t r => cases r; exact ⟨[], t, rfl, .nil⟩
  | cons y r ih =>
    cases h with
    | cons _ t q =>
      obtain ⟨vc, u, rfl, hi⟩ := ih q
      exact ⟨.int y t :: vc, u, rfl, .cons _ _ hi⟩
theorem weight_small : ∀ {ns : List Nat}, (∀ x ∈ ns, x < 64) → PyData.weightAll ((nat ns).map .int) ≤ 8 * ns.length
  | [], _ => Nat.le_refl _
  | x :: r, h => by
    have h1 := weight_small (ns := r) fun y hy => h y (.tail _ hy)
    have h2 := h x (.head _)
    have h3 : PyData.weight (.int (x : Int)) ≤ 7 := by
      unfold PyData.weight
      split
      · omega
      · have : (x : Int).natAbs.log2 ≤ 5 := by
          have e : (x : Int).natAbs = x := Int.natAbs_natCast x
          rw [e]
          by_cases q : x = 0
          · subst q; decide
          · have := (Nat.log2_lt q (k := 6)).mpr h2
            omega
        omega
    show PyData.weight (.int (x : Int)) + 1 + PyData.weightAll ((nat r).map .int) ≤ 8 * (r.length + 1)
    omega
theorem lay_nat {ns : List Nat} (h : ∀ x ∈ ns, x < 64) (hl : ns.length ≤ 1000) : PyData.layable0 (.list ((nat ns).map .int)) = true := by
  have h1 := weight_small h
  have h2 : PyData.weight (.list ((nat ns).map .int)) ≤ 2 ^ 20 := by
    have : PyData.weight (.list ((nat ns).map .int)) = PyData.weightAll ((nat ns).map .int) := by simp only [PyData.weight]
    omega
  have h3 : PyData.canLay0 (.list ((nat ns).map .int)) = true := by
    have := ke_canLayAll0 (nat ns)
    simpa [PyData.canLay0] using this
  have h4 : PyData.depth (.list ((nat ns).map .int)) ≤ 64 := by
    have := ke_depthAll (nat ns)
    unfold PyData.depth
    omega
  unfold PyData.layable0
  rw [h3, decide_eq_true h4, decide_eq_true h2]
  rfl
theorem nat_idx (ns : List Nat) (i : Nat) : (nat ns).idxOf (i : Int) = ns.idxOf i := by
  induction ns with
  | nil => rfl
  | cons x r ih =>
    show ((x : Int) :: nat r).idxOf (i : Int) = _
    rw [List.idxOf_cons, List.idxOf_cons, ih]
    have : ((x : Int) == (i : Int)) = (x == i) := by
      by_cases h : x = i
      · subst h; rw [beq_self_eq_true, beq_self_eq_true]
      · have h' : (x : Int) ≠ (i : Int) := by omega
        rw [beq_eq_false_iff_ne.mpr h', beq_eq_false_iff_ne.mpr h]
    rw [this]
theorem index_n {vs : List Value} {ns : List Nat} {i : Nat} {t : Tok} {Q : Value → Shared → Prop} (hl : s.heap.IsList l vs.toArray) (hi : IntsAre vs (nat ns)) (hs : ∀ x ∈ ns, x < 64) (hb : ns.length ≤ 1000) (hk : i ∈ ns)
    (h : ∀ t tk, Q (.int ((ns.idxOf i : Nat) : Int) t) { s with toks := tk }) : wpAny (model prog w) A (call (.builtin "list.index") [.ref l, .int (i : Int) t]) Q E s :=
  index_list_ints hl hi (lay_nat hs hb) (List.mem_map.mpr ⟨i, hk, rfl⟩) (by rw [nat_idx]; exact h _ _)
theorem ne_at {xs ys : List Value} {ns ms : List Int} {a b : Addr} {bv : Bool} {Q : Value → Shared → Prop} (ha : s.heap.IsList a xs.toArray) (hb : s.heap.IsList b ys.toArray) (hi : IntsAre xs ns) (hj : IntsAre ys ms) (hu : A.units + 64 < cLine) (e : (!decide (ns = ms)) = bv) (h : Q (.bool bv) s) :
    wpAny (model prog w) A (compareOp .NotEq (.ref a) (.ref b)) Q E s := ke_ne_ints ha hb hi hj hu (e ▸ h)
end
theorem tree_meth {w : World} {A : Around} {E : Value → Shared → Prop} {s : Shared} {g : Heap} {L t f : Addr} {m : Str → Option Value} {T : List Row} {name : Str} {pl : Sem Bool} {Q : Value × List Value → Shared → Prop}
    (F : Fr g L s.heap m) (X : (hd.heap_1 w.params).In g) (TT : TreeAt w g t T) (hg : plainGet (hd.heap_1 w.params) 427 name = true) (hf : findIn (hd.heap_1 w.params) (.ref 427) name = some (some (.ref f))) (ht : isFn (hd.heap_1 w.params) (.ref f) = true)
    (hn : (Str.ofString "rows" == name) = false) (h : Q (.ref f, [.ref t]) s) : wpAny (model prg w) A (getMethod (.ref t) name pl) Q E s := by
  obtain ⟨dt, rl, qs, TE⟩ := TT
  obtain ⟨tk, n, e⟩ := TE.dict
  refine method_inst F X (inst_base F TE.inst e) hg hf ht ?_ h
  unfold getL
  simp only [List.find?_cons, Value.isStr, hn, List.find?_nil, List.any_cons, List.any_nil, Bool.or_false]
  rfl
noncomputable def Stop (p : Prop) : Prop := p
theorem stop_out {p : Prop} (h : Stop p) : p := h
theorem Stop.in {p : Prop} (h : p) : Stop p := h
example : True := by w_top off; trivial
noncomputable def const1 (k : Nat) : PySem.Const → Option (Value × Nat)
  | .int i => some (.int i k, k + 1)
  | .str x => some (.str x k, k + 1)
  | .none => some (.none, k)
  | .bool b => some (.bool b, k)
  | _ => none
noncomputable def arg1 (m : Str → Option Value) (env : Env) (k : Nat) : PySem.Expr → Option (Value × Nat)
  | .Name x _ => match env.kindOf x == some .local && !(x == Str.ofString "__debug__") with
    | true => (m x).map fun v => (v, k)
    | false => none
  | .Constant c _ _ => const1 k c
  | _ => none
noncomputable def nmz (m : Str → Option Value) (env : Env) : Nat → List PySem.Expr → Option (List Value × Nat)
  | k, [] => some ([], k)
  | k, e :: es => match arg1 m env k e with
    | some (v, k1) => (nmz m env k1 es).map fun r => (v :: r.1, r.2)
    | none => none
section
variable {M : Model} {A : Around} {E : Value → Shared → Prop} {h₀ : Heap} {L a : Addr} {m : Str → Option Value} {cn : Str} {cs : Scope} {ccd : Value} {cl : List (Str × Addr)} {pos : Pos}
theorem map_some {α β : Type} {o : Option α} {f : α → β} {b : β} (h : o.map f = some b) : ∃ a, o = some a ∧ f a = b := by
  cases o with
  | none => cases h
  | some a => exact ⟨a, rfl, by simpa using h⟩
theorem const1_ok {env : Env} {k₀ : Nat} {c : PySem.Const} {v : Value} {k' : Nat} {s : Shared} {Q : Value → Shared → Prop} (h : const1 s.toks c = some (v, k')) (hQ : Q v { s with toks := k' }) : wpAny M A (eval (.Constant c k₀ pos) env) Q E s := by
  unfold const1 at h
  split at h
  · cases h; exact wpAny_Constant_int hQ
  · cases h; exact Constant_str hQ
  · cases h; exact wpAny_Constant_none hQ
  · cases h; exact wpAny_Constant_bool hQ
  · cases h
theorem arg1_ok (hk : cs.kind = .function) {e : PySem.Expr} {v : Value} {k' : Nat} {s : Shared} {Q : Value → Shared → Prop} (F : Fr h₀ L s.heap m) (h : arg1 m (envX cn cs L a ccd cl) s.toks e = some (v, k')) (hQ : Q v { s with toks := k' }) : wpAny M A (eval e (envX cn cs L a ccd cl)) Q E s := by
  unfold arg1 at h
  split at h
  · split at h
    · rename_i h1
      obtain ⟨v', e1, e2⟩ := map_some h
      cases e2
      rw [Bool.and_eq_true] at h1
      exact nameX_L F e1 hQ hk (by simpa using h1.1) (by simpa using h1.2)
    · cases h
  · exact const1_ok h hQ
  · cases h
theorem arg1_star {env : Env} {k : Nat} {e : PySem.Expr} {es : List PySem.Expr} {r : Value × Nat} (h : arg1 m env k e = some r) : starEach (e :: es) env = (false, eval e env) :: starEach es env := by
  unfold arg1 at h
  split at h
  · rfl
  · rfl
  · cases h
theorem nmz_cons {env : Env} {k : Nat} {e : PySem.Expr} {es : List PySem.Expr} {vs : List Value} {k' : Nat} (h : nmz m env k (e :: es) = some (vs, k')) : ∃ v k1 vs', arg1 m env k e = some (v, k1) ∧ nmz m env k1 es = some (vs', k') ∧ vs = v :: vs' := by
  unfold nmz at h
  split at h
  · rename_i v k1 e1
    obtain ⟨⟨vs', k2⟩, e2, e3⟩ := map_some h
    cases e3
    exact ⟨v, k1, vs', e1, e2, rfl⟩
  · cases h
theorem args_nm (hk : cs.kind = .function) : ∀ {es : List PySem.Expr} {vs : List Value} {k' : Nat} {s : Shared} {Q : List Value → Shared → Prop},
    Fr h₀ L s.heap m → nmz m (envX cn cs L a ccd cl) s.toks es = some (vs, k') → Q vs { s with toks := k' } → wpAny M A (spliced (backTo pos (starEach es (envX cn cs L a ccd cl)))) Q E s
  | [], vs, k', s, Q, F, hv, h => by cases hv; exact args_nil h
  | e :: es, vs, k', s, Q, F, hv, h => by
    obtain ⟨v, k1, vs', e1, e2, rfl⟩ := nmz_cons hv
    exact args_cons (arg1_ok hk F e1 (args_nm (s := { s with toks := k1 }) hk (Q := fun vs s => Q (v :: vs) s) F e2 h)) (arg1_star e1)
theorem nmz_plain : ∀ {es : List PySem.Expr} {vs : List Value} {k k' : Nat} {env : Env}, nmz m env k es = some (vs, k') → (backTo pos (starEach es env)).any (·.1) = false
  | [], _, _, _, _, _ => rfl
  | e :: es, vs, k, k', env, hv => by
    obtain ⟨v, k1, vs', e1, e2, rfl⟩ := nmz_cons hv
    rw [arg1_star e1]
    exact nmz_plain (es := es) e2
end
section
variable {w : World} {A : Around} {E : Value → Shared → Prop} {s : Shared} {g : Heap} {L a b : Addr} {m : Str → Option Value} {cn f : Str} {cs : Scope} {ccd : Value} {cl : List (Str × Addr)} {p₁ p₂ : Pos} {es : List PySem.Expr} {vs : List Value} {k : Nat} {Q : Value → Shared → Prop}
theorem callW {fv : Value} {first : List Value} (F : Fr g L s.heap m) (X : (hd.heap_1 w.params).In g) (hk : keepIn (hd.heap_1 w.params) fv = true) (hf : cs.kind = .function) (hv : nmz m (envX cn cs L a ccd cl) s.toks es = some (vs, k))
    (h : wpAny (model prg w) A (call fv (first ++ vs)) Q E { s with toks := k }) : wpAny (model prg w) A (callWith p₁ fv first (backTo p₁ (starEach es (envX cn cs L a ccd cl))) []) Q E s := by
  cases es with
  | nil => cases hv; exact callWith_K0 (X.keeps F.keep) hk h
  | cons e es =>
    have hp := nmz_plain (pos := p₁) hv
    obtain ⟨v, k1, vs', e1, e2, rfl⟩ := nmz_cons hv
    have he := arg1_star (es := es) e1
    refine callWith_K X hk (args_nm hf F hv ⟨X.keeps F.keep, h⟩) he ?_
    rw [he] at hp
    exact (Bool.or_eq_false_iff.mp hp).2
theorem callG {p : Program} {loose : List Str} {mean : ExcName → Option Value} {mg mb : Str → Option Value} (F : Fr g L s.heap m) (X : (hd.heap_1 w.params).In g) (T : Top p loose mean mg mb g)
    (hn : nsIn (hd.heap_1 w.params) mainGlobals f = some (some (.ref b))) (hk : keepIn (hd.heap_1 w.params) (.ref b) = true) (hc : (cs.kind == .function && (envX cn cs L a ccd cl).kindOf f == some .globalImplicit && !(f == Str.ofString "__debug__")) = true)
    (hv : nmz m (envX cn cs L a ccd cl) s.toks es = some (vs, k)) (h : wpAny (model prg w) A (call (.ref b) vs) Q E { s with toks := k }) : wpAny (model prg w) A (eval (.Call (.Name f p₁) es [] p₂) (envX cn cs L a ccd cl)) Q E s := by
  rw [Bool.and_eq_true, Bool.and_eq_true] at hc
  have h1 : cs.kind = .function := by simpa using hc.1.1
  exact Call_ (nameX_K F X (topRead_of T) hn (callW F X hk h1 hv h) h1 (by simpa using hc.1.2) (by simpa using hc.2)) rfl
theorem methG {T : List Row} {t : Addr} {o : PySem.Expr} {pl : Sem Bool} (F : Fr g L s.heap m) (X : (hd.heap_1 w.params).In g) (TT : TreeAt w g t T)
    (hg : plainGet (hd.heap_1 w.params) 427 f = true) (hf : findIn (hd.heap_1 w.params) (.ref 427) f = some (some (.ref b))) (ht : isFn (hd.heap_1 w.params) (.ref b) = true) (hk : keepIn (hd.heap_1 w.params) (.ref b) = true)
    (hc : (cs.kind == .function && !(Str.ofString "rows" == f)) = true) (hv : nmz m (envX cn cs L a ccd cl) s.toks (o :: es) = some (.ref t :: vs, k))
    (h : wpAny (model prg w) A (call (.ref b) (.ref t :: vs)) Q E { s with toks := k })
    (he : eval (.Call (.Attribute o f p₁) es [] p₂) (envX cn cs L a ccd cl) = (do
      let ov ← eval o (envX cn cs L a ccd cl)
      standAt p₁.atName
      let (f, first) ← holding [ov] (getMethod ov f pl)
      callWith p₂ f first (backTo p₂ (starEach es (envX cn cs L a ccd cl))) [])) : wpAny (model prg w) A (eval (.Call (.Attribute o f p₁) es [] p₂) (envX cn cs L a ccd cl)) Q E s := by
  rw [Bool.and_eq_true] at hc
  have h1 : cs.kind = .function := by simpa using hc.1
  have h2 : (Str.ofString "rows" == f) = false := by simpa using hc.2
  obtain ⟨v, k1, vs', e1, e2, e3⟩ := nmz_cons hv
  cases e3
  exact MethodCall_ (arg1_ok h1 F e1 (tree_meth (s := { s with toks := k1 }) F X TT hg hf ht h2 (callW F X hk h1 e2 h))) he
end
example : True := by
  (k_with "eval Call" => (k_here; (with_reducible show wpAny _ _ (eval (PySem.Expr.Call (PySem.Expr.Name _ _) _ [] _) _) _ _ _); (with_unfolding_all refine' callG (by k_asm) (by k_asm) (by k_asm) (by k_is) (by k_is) (by exact rfl) (by exact rfl) ?_)))
  (k_with "eval Call Attribute" => (k_here; (with_reducible show wpAny _ _ (eval (PySem.Expr.Call (PySem.Expr.Attribute (PySem.Expr.Name _ _) _ _) _ [] _) _) _ _ _); (with_unfolding_all refine' methG (by k_asm) (by k_asm) (by with_reducible assumption) (by k_is) (by k_is) (by k_is) (by k_is) (by exact rfl) (by exact rfl) ?_ (by exact rfl))))
  trivial
theorem hidP {G : Prop} (h : ∀ P : Prop, (G → P) → P) : G := h G id
noncomputable def NextK (M : Model) (A : Around) (env : Env) (rest : List Stmt) (Q : Flow → Shared → Prop) (E : Value → Shared → Prop) (K : Flow → Shared → Prop) : Prop :=
  (∀ s, wpAny M A (execs rest env) Q E s → K .next s) ∧ ∀ f s, f ≠ .next → Q f s → K f s
theorem execs_cut {M : Model} {A : Around} {E : Value → Shared → Prop} {s : Shared} {env : Env} {st : Stmt} {rest : List Stmt} {Q : Flow → Shared → Prop}
    (h : ∀ K, NextK M A env rest Q E K → wpAny M A (exec st env) K E s) : wpAny M A (execs (st :: rest) env) Q E s :=
  wpAny_execs_cons (h _ ⟨fun _ h => h, fun f s hf h => by cases f <;> first | exact absurd rfl hf | exact h⟩)
theorem stepK {M : Model} {A : Around} {E : Value → Shared → Prop} {s : Shared} {env : Env} {rest : List Stmt} {Q K : Flow → Shared → Prop} (hK : NextK M A env rest Q E K) (h : wpAny M A (execs rest env) Q E s) : K .next s := hK.1 _ h
theorem stepR {M : Model} {A : Around} {E : Value → Shared → Prop} {s : Shared} {env : Env} {rest : List Stmt} {Q K : Flow → Shared → Prop} {v : Value} (hK : NextK M A env rest Q E K) (h : Q (.ret v) s) : K (.ret v) s := hK.2 _ _ (by simp) h
theorem stepB {M : Model} {A : Around} {E : Value → Shared → Prop} {s : Shared} {env : Env} {rest : List Stmt} {Q K : Flow → Shared → Prop} (hK : NextK M A env rest Q E K) (h : Q .brk s) : K .brk s := hK.2 _ _ (by simp) h
theorem stepC {M : Model} {A : Around} {E : Value → Shared → Prop} {s : Shared} {env : Env} {rest : List Stmt} {Q K : Flow → Shared → Prop} (hK : NextK M A env rest Q E K) (h : Q .cont s) : K .cont s := hK.2 _ _ (by simp) h
theorem execs_mid {M : Model} {A : Around} {E : Value → Shared → Prop} {s : Shared} {env : Env} {st : Stmt} {rest : List Stmt} {Q : Flow → Shared → Prop} (I : Shared → Prop)
    (h : wpAny M A (exec st env) (fun f s' => f = .next ∧ I s') E s) (k : ∀ s', I s' → wpAny M A (execs rest env) Q E s') : wpAny M A (execs (st :: rest) env) Q E s :=
  wpAny_execs_cons (wpAny_mono h (fun f s' h => by obtain ⟨rfl, h⟩ := h; exact k _ h) fun _ _ h => h)
theorem execs_mid2 {M : Model} {A : Around} {E : Value → Shared → Prop} {s : Shared} {env : Env} {st st' : Stmt} {rest : List Stmt} {Q : Flow → Shared → Prop} (I : Shared → Prop)
    (h : wpAny M A (execs [st, st'] env) (fun f s' => f = .next ∧ I s') E s) (k : ∀ s', I s' → wpAny M A (execs rest env) Q E s') : wpAny M A (execs (st :: st' :: rest) env) Q E s :=
  fun Γ p hΓ => by
    have h' := h Γ p hΓ
    rw [execs_cons, Sem.wp_bind'] at h' ⊢
    refine Sem.wp_mono M Γ _ (fun f p' s' q => ?_) (fun _ _ _ q => q) _ _ h'
    cases f with
    | next =>
      dsimp only at q ⊢
      rw [execs_cons, Sem.wp_bind'] at q ⊢
      refine Sem.wp_mono M Γ _ (fun f p' s' q => ?_) (fun _ _ _ q => q) _ _ q
      cases f with
      | next => exact k _ q.2 Γ _ hΓ
      | _ => exact nomatch q.1
    | _ => exact nomatch q.1
inductive MidN (g : Heap) (L t : Addr) (gn : Array GenState) (dr : Drawn) (os : OsState) (R : Nat → Prop) : Shared → Prop
  | mk (h : Heap) (tk : Nat) (m : Str → Option Value) (j : Nat) (tj : Tok) (F : Fr g L h m) (e1 : m (Str.ofString "tree") = some (.ref t)) (e2 : m (Str.ofString "node") = some (.int (j : Int) tj)) (r : R j) : MidN g L t gn dr os R ⟨h, gn, dr, tk, os⟩
inductive MidF (g : Heap) (L t : Addr) (gn : Array GenState) (dr : Drawn) (os : OsState) (R : Nat → List Nat → Prop) : Shared → Prop
  | mk (h : Heap) (tk : Nat) (m : Str → Option Value) (j : Nat) (tj : Tok) (D : Addr) (vs : List Value) (n : Nat) (c : List Nat) (F : Fr g L h m) (e1 : m (Str.ofString "tree") = some (.ref t)) (e2 : m (Str.ofString "node") = some (.int (j : Int) tj)) (e3 : m (Str.ofString "found") = some (.ref D))
      (N : News g L h [(D, listOf (List.toArray vs) n)]) (hi : IntsAre vs (nat c)) (r : R j c) : MidF g L t gn dr os R ⟨h, gn, dr, tk, os⟩
example : True := by
  (k_with "execs cons" => (k_here; (fail_if_success (with_reducible show wpAny _ _ (execs (Stmt.Assign [PySem.Expr.Attribute _ _ _] _ _ :: _) _) _ _ _)); (try k_gentoks); (refine execs_cut fun _ _ => ?_); (try dsimp only)))
  trivial
noncomputable def Dst (a : Addr) (l : List Addr) : Prop := ∀ x ∈ l, @Ne Nat x a
theorem dst_of {a : Addr} {l : List (Addr × Obj)} (h : ∀ p ∈ l, @Ne Nat p.1 a) : Dst a (l.map (·.1)) := fun x hx => by
  obtain ⟨p, hp, rfl⟩ := List.mem_map.mp hx; exact h p hp
noncomputable def Dlt (a : Addr) (l : List Addr) : Prop := ∀ x ∈ l, @LT.lt Nat _ x a
theorem dlt_of {a : Addr} {l : List (Addr × Obj)} (h : ∀ p ∈ l, @LT.lt Nat _ p.1 a) : Dlt a (l.map (·.1)) := fun x hx => by
  obtain ⟨p, hp, rfl⟩ := List.mem_map.mp hx; exact h p hp
theorem dlt_all {a : Addr} {l : List (Addr × Obj)} (h : Dlt a (l.map (·.1))) : ∀ p ∈ l, @Ne Nat p.1 a := fun p hp => Nat.ne_of_lt (h _ (List.mem_map.mpr ⟨p, hp, rfl⟩))
theorem dlt_ne {a b : Addr} {l : List Addr} (h : Dlt a l) (hm : b ∈ l) : @Ne Nat b a := Nat.ne_of_lt (h b hm)
theorem dlt_ne' {a b : Addr} {l : List Addr} (h : Dlt a l) (hm : b ∈ l) : @Ne Nat a b := Nat.ne_of_gt (h b hm)
theorem dlt_up {a b x : Addr} {l : List Addr} (hx : @LT.lt Nat _ a x) (h : Dlt a l) (hm : b ∈ l) : @Ne Nat b x := Nat.ne_of_lt (Nat.lt_trans (h b hm) hx)
theorem dlt_up' {a b x : Addr} {l : List Addr} (hx : @LT.lt Nat _ a x) (h : Dlt a l) (hm : b ∈ l) : @Ne Nat x b := Nat.ne_of_gt (Nat.lt_trans (h b hm) hx)
theorem dst_all {a : Addr} {l : List (Addr × Obj)} (h : Dst a (l.map (·.1))) : ∀ p ∈ l, @Ne Nat p.1 a := fun p hp => h _ (List.mem_map.mpr ⟨p, hp, rfl⟩)
theorem dst_ne {a b : Addr} {l : List Addr} (h : Dst a l) (hm : b ∈ l) : @Ne Nat b a := h b hm
theorem dst_ne' {a b : Addr} {l : List Addr} (h : Dst a l) (hm : b ∈ l) : @Ne Nat a b := fun e => h b hm e.symm
example : True := by
  (k_with "om" => first | exact Nat.le_of_ble_eq_true rfl | decide | with_reducible assumption | (refine Nat.le_trans (by with_reducible assumption) ?_; exact Nat.le_of_ble_eq_true rfl) | (refine Nat.le_trans ?_ (by with_reducible assumption); exact Nat.le_of_ble_eq_true rfl) | omega)
  (k_with "k_ne" => (refine neN ?_; (try dsimp only); first | k_dflt (exact dst_ne (by with_reducible assumption) (by k_mem)) | k_dflt (exact dst_ne' (by with_reducible assumption) (by k_mem)) | k_dflt (exact dlt_ne (by with_reducible assumption) (by k_mem)) | k_dflt (exact dlt_ne' (by with_reducible assumption) (by k_mem)) | with_reducible assumption | (refine Ne.symm ?_; with_reducible assumption) | k_dflt (exact dlt_up (by with_reducible assumption) (by with_reducible assumption) (by k_mem)) | k_dflt (exact dlt_up' (by with_reducible assumption) (by with_reducible assumption) (by k_mem)) | ((repeat (rename (_ ∧ _) => hc9; cases hc9)); first | with_reducible assumption | (refine Ne.symm ?_; with_reducible assumption) | (refine Nat.ne_of_lt ?_; with_reducible assumption) | (refine Nat.ne_of_gt ?_; with_reducible assumption))))
  (k_with "k_all" => first | k_dflt (refine dst_all ?_; (try dsimp only [List.map]); with_reducible assumption) | k_dflt (refine dlt_all ?_; (try dsimp only [List.map]); with_reducible assumption))
  trivial
theorem know {g h : Heap} {L : Addr} {m : Str → Option Value} {x : Str} {v : Value} (F : Fr g L h m) (e : m x = some v) : Fr g L h (fun y => if y = x then some v else m y) := by
  have e2 : m = fun y => if y = x then some v else m y := by
    funext y
    by_cases h : y = x
    · simp [h, e]
    · simp [h]
  rw [← e2]; exact F
noncomputable def AllKn (m : Str → Option Value) : List (Str × Value) → Prop
  | [] => True
  | p :: r => m p.1 = some p.2 ∧ AllKn m r
theorem know_all {g h : Heap} {L : Addr} {m : Str → Option Value} (l : List (Str × Value)) (F : Fr g L h m) (e : AllKn m l) : Fr g L h (fun y => (l.lookup y).or (m y)) := by
  have q : m = fun y => (l.lookup y).or (m y) := by
    funext y
    induction l with
    | nil => rfl
    | cons p r ih =>
      have ih' := ih e.2
      rw [List.lookup_cons]
      split
      · rename_i h
        rw [eq_of_beq h, e.1]; rfl
      · exact ih'
  rw [← q]; exact F
section
variable {w : World} {A : Around} {E : Value → Shared → Prop} {s : Shared} {g : Heap} {L a t : Addr} {m : Str → Option Value} {cn x lit S : Str} {cs : Scope} {ccd : Value} {cl : List (Str × Addr)} {p₁ p₂ p₃ p₄ p₅ : Pos} {u : Tok} {i j₁ j₂ : Nat} {Q : Bool → Shared → Prop} {l : List Value} {whole : Sem Value}
noncomputable def nmL (m : Str → Option Value) (env : Env) (cs : Scope) (x : Str) : Option Value := match cs.kind == .function && env.kindOf x == some .local && !(x == Str.ofString "__debug__") with
  | true => m x
  | false => none
theorem nmL_ok {M : Model} {p : Pos} {v : Value} {Q : Value → Shared → Prop} (F : Fr g L s.heap m) (h : nmL m (envX cn cs L a ccd cl) cs x = some v) (hQ : Q v s) : wpAny M A (eval (.Name x p) (envX cn cs L a ccd cl)) Q E s := by
  unfold nmL at h
  split at h
  · rename_i h1
    rw [Bool.and_eq_true, Bool.and_eq_true] at h1
    exact nameX_L F h hQ (by simpa using h1.1.1) (by simpa using h1.1.2) (by simpa using h1.2)
  · cases h
theorem testItem {n : Int} (F : Fr g L s.heap m) (hx : nmL m (envX cn cs L a ccd cl) cs x = some (.ref t)) (hT : IsTup s.heap t l.toArray) (hi : l[n.toNat]? = some (.str S u)) (hn : (decide (0 ≤ n) && decide (n < 1000)) = true)
    (h : Q (S == lit) { s with toks := s.toks + 1 + 1 }) : wpAny (model prg w) A (isTrue (.Compare (.Subscript (.Name x p₁) (.Constant (.int n) j₁ p₂) p₃) [.Eq] [.Constant (.str lit) j₂ p₄] p₅) (envX cn cs L a ccd cl) whole) Q E s := by
  rw [Bool.and_eq_true, decide_eq_true_eq, decide_eq_true_eq] at hn
  have hl : n.toNat < l.length := (List.getElem?_eq_some_iff.mp hi).1
  refine wpAny_isTrue_Compare1 (Subscript_ (nmL_ok F hx (wpAny_Constant_int (item_tupleT (j := n.toNat) hT (by omega) (by omega) ?_ hi (Constant_str (eq_str (wpAny_truthy_bool h))))))) (by with_unfolding_all rfl)
  unfold seqIndex?
  dsimp only
  rw [if_neg (by omega : ¬ n < 0), if_pos]
  rw [Bool.and_eq_true, decide_eq_true_eq, decide_eq_true_eq]; omega
theorem testName (F : Fr g L s.heap m) (hx : nmL m (envX cn cs L a ccd cl) cs x = some (.str S u))
    (h : Q (S == lit) { s with toks := s.toks + 1 }) : wpAny (model prg w) A (isTrue (.Compare (.Name x p₁) [.Eq] [.Constant (.str lit) j₂ p₄] p₅) (envX cn cs L a ccd cl) whole) Q E s :=
  wpAny_isTrue_Compare1 (nmL_ok F hx (Constant_str (eq_str (wpAny_truthy_bool h)))) (by with_unfolding_all rfl)
end
example : True := by
  (k_with "isTrue Compare" => (k_here; (with_reducible show wpAny _ _ (PySem.isTrue (PySem.Expr.Compare (PySem.Expr.Subscript (PySem.Expr.Name _ _) (PySem.Expr.Constant (PySem.Const.int _) _ _) _) [CmpOp.Eq] [PySem.Expr.Constant (PySem.Const.str _) _ _] _) _ _) _ _ _); k_dflt (refine' testItem (by k_asm) (by exact rfl) (by k_extra "tupat") (by exact rfl) (by exact rfl) ?_)))
  (k_with "isTrue Compare" => (k_here; (with_reducible show wpAny _ _ (PySem.isTrue (PySem.Expr.Compare (PySem.Expr.Name _ _) [CmpOp.Eq] [PySem.Expr.Constant (PySem.Const.str _) _ _] _) _ _) _ _ _); k_dflt (refine' testName (by k_asm) (by exact rfl) ?_)))
  trivial
local macro_rules | `(tactic| k_lt $h:ident) => `(tactic| (replace $h := dlt_of $h; dsimp only [List.map] at $h:ident))
local macro_rules | `(tactic| k_steps) => `(tactic| repeat' (first | ((with_reducible first | refine stepK (by assumption) ?_ | refine stepR (by assumption) ?_ | refine stepB (by assumption) ?_ | refine stepC (by assumption) ?_); (try dsimp only)) | (k_unfold; (try dsimp only)) | (k_end; wrow_close) | walk1 | (dsimp only; walk1) | (leave1; walk_say "STEP leave1"; try dsimp only) | fail "no step"))
local macro_rules | `(tactic| k_extra "nne") => `(tactic| (rename (∀ p ∈ _, @Ne Nat (Prod.fst p) _) => l1; replace l1 := dst_of l1; dsimp only [List.map] at l1))
example : True := by w_top off; trivial
example : True := by
  (k_with "k_inst" => exact inst_base (by k_asm) (by assumption) (by assumption))
  (k_with "is_list" => first | exact News.isList (by k_asm) (by k_mem) | exact isList_base (by k_asm) (by assumption))
  (k_with "k_units" => units_room)
  (k_with "bd" => first | k_extra "om" | ((try simp only [List.size_toArray, List.length_append, List.length_reverse, List.length_cons, List.length_nil, List.length_map, List.length_take, List.length_drop]); omega))
  (k_with "call builtin:len" => (k_here; (with_reducible show wpAny _ _ (call (Value.builtin "len") [Value.ref _]) _ _ _); (first
  | (refine' len_ints (by is_list) (by with_reducible assumption) (by k_extra "bd") ?_)
  | (refine' len_of (by is_list) (by with_reducible assumption) (by k_extra "bd") ?_)); intro _ _))
  (k_with "subscriptTail" => (k_here; (with_reducible show wpAny _ _ (subscriptTail _ _ (Value.ref _) (Value.int _ _)) _ _ _); (refine' item_of (by is_list) (by with_reducible assumption) (by k_extra "bd") ?_ (by with_unfolding_all rfl))))
  trivial
theorem row_C {w : World} {A : Around} {s : Shared} {t dt rl : Addr} {qs : List Rep} {T : List Row} {i : Nat} {q : Rep} {tk : Tok}
   (H : At w A s.heap 3 40) (TT : TreeE w s.heap t dt rl qs T) (hi : qs[i]? = some q) :
   wpAny (model prg w) A (call (.ref 270) [.ref t, .int (i : Int) tk]) (Back s fun v h' => v = .ref q.x) NoErr s := by
  refine' enter (binds := [(Str.ofString "self", .ref t), (Str.ofString "node", .int (i : Int) tk)]) H (by k_extra "om") (by k_extra "om") (by k_is) (by k_is) (BindsTo.of_eq rfl) (locs rfl) ?_ (by decide) rfl rfl rfl
  intro h₁ gn9 dr9 os9 A9 L9 tk9 pr9 loose9 mean9 mg9 mb9 F' N' X' T' C' hroom hun K9 hK9
  (try dsimp only)
  refine hidP fun P9 k9 => ?_
  obtain ⟨ti, ⟨tk, n0, td⟩, ⟨n1, tl⟩, tlen, trow, tsm⟩ := TT
  refine k9 ?_; clear k9 P9
  have hi' : i < qs.length := (List.getElem?_eq_some_iff.mp hi).1
  have hz : (qs.map fun q => Value.ref q.x).toArray.size = qs.length := by simp
  have hx : (qs.map fun q => Value.ref q.x).toArray[i]? = some (.ref q.x) := by simp [hi]
  have hb := tsm.len
  k_steps
  exact endK hK9 (by k_asm) rfl
theorem row_U {w : World} {A : Around} {s : Shared} {g : Heap} {L : Addr} {m : Str → Option Value} {news : List (Addr × Obj)} {t dt rl : Addr} {qs : List Rep} {T : List Row} {i : Nat} {q : Rep} {tk : Tok} {dp un : Nat} {Q E : Value → Shared → Prop}
   (C : Callee w A g L dp un) (F : Fr g L s.heap m) (N : News g L s.heap news) (TT : TreeE w g t dt rl qs T) (hi : qs[i]? = some q) (hd : 3 ≤ dp) (hu : 40 ≤ un)
   (k : ∀ h' tk', Fr g L h' m → News g L h' news → Q (.ref q.x) { s with heap := h', toks := tk' }) :
   wpAny (model prg w) A (call (.ref 270) [.ref t, .int (i : Int) tk]) Q E s :=
  use (row_C (C.at F hd hu) (TT.keep F.keep) hi) F N fun v h' tk' F' N' _ e => by subst e; exact k h' tk' F' N'
example : True := by
  (k_with "call ref" => (k_here; (with_reducible show wpAny _ _ (call (Value.ref 270) _) _ _ _); k_dflt (refine' row_U (by with_reducible assumption) (by k_asm) (by k_asm) (by with_reducible assumption) (by with_reducible assumption) (by k_extra "om") (by k_extra "om") ?_); intro _ _ _ _; (try k_sweep)))
  trivial
theorem kind_C {w : World} {A : Around} {s : Shared} {t : Addr} {T : List Row} {i : Nat} {tk : Tok}
   (H : At w A s.heap 5 60) (TT : TreeAt w s.heap t T) (hi : i < T.length) :
   wpAny (model prg w) A (call (.ref 347) [.ref t, .int (i : Int) tk]) (Back s fun v h' => ∃ u, v = .str (kd T i) u) NoErr s := by
  refine' enter (binds := [(Str.ofString "self", .ref t), (Str.ofString "node", .int (i : Int) tk)]) H (by k_extra "om") (by k_extra "om") (by k_is) (by k_is) (BindsTo.of_eq rfl) (locs rfl) ?_ (by decide) rfl rfl rfl
  intro h₁ gn9 dr9 os9 A9 L9 tk9 pr9 loose9 mean9 mg9 mb9 F' N' X' T' C' hroom hun K9 hK9
  (try dsimp only)
  refine hidP fun P9 k9 => ?_
  obtain ⟨dt, rl, qs, TE⟩ := TT
  obtain ⟨q, hq, ri, ⟨t0, t1, t2, t3, t4, t5, t6, t7, t8, u0, u1, u2, u3, u4, pv, nn, hp, rd⟩, rc, ra, rn⟩ := TE.at_ hi
  have ti := TE.inst
  obtain ⟨tk9, n9, td⟩ := TE.dict
  refine k9 ?_; clear k9 P9
  k_steps
  exact endK hK9 (by k_asm) ⟨_, rfl⟩
theorem kind_U {w : World} {A : Around} {s : Shared} {g : Heap} {L : Addr} {m : Str → Option Value} {news : List (Addr × Obj)} {t : Addr} {T : List Row} {i : Nat} {tk : Tok} {dp un : Nat} {Q E : Value → Shared → Prop}
   (C : Callee w A g L dp un) (F : Fr g L s.heap m) (N : News g L s.heap news) (TT : TreeAt w g t T) (hi : i < T.length) (hd : 5 ≤ dp) (hu : 60 ≤ un)
   (k : ∀ u h' tk', Fr g L h' m → News g L h' news → Q (.str (kd T i) u) { s with heap := h', toks := tk' }) :
   wpAny (model prg w) A (call (.ref 347) [.ref t, .int (i : Int) tk]) Q E s :=
  use (kind_C (C.at F hd hu) (TT.keep F.keep) hi) F N fun v h' tk' F' N' _ e => by obtain ⟨u, rfl⟩ := e; exact k u h' tk' F' N'
theorem name_C {w : World} {A : Around} {s : Shared} {t : Addr} {T : List Row} {i : Nat} {tk : Tok}
   (H : At w A s.heap 5 60) (TT : TreeAt w s.heap t T) (hi : i < T.length) :
   wpAny (model prg w) A (call (.ref 354) [.ref t, .int (i : Int) tk]) (Back s fun v h' => ∃ u, v = .str (nm T i) u) NoErr s := by
  refine' enter (binds := [(Str.ofString "self", .ref t), (Str.ofString "node", .int (i : Int) tk)]) H (by k_extra "om") (by k_extra "om") (by k_is) (by k_is) (BindsTo.of_eq rfl) (locs rfl) ?_ (by decide) rfl rfl rfl
  intro h₁ gn9 dr9 os9 A9 L9 tk9 pr9 loose9 mean9 mg9 mb9 F' N' X' T' C' hroom hun K9 hK9
  (try dsimp only)
  refine hidP fun P9 k9 => ?_
  obtain ⟨dt, rl, qs, TE⟩ := TT
  obtain ⟨q, hq, ri, ⟨t0, t1, t2, t3, t4, t5, t6, t7, t8, u0, u1, u2, u3, u4, pv, nn, hp, rd⟩, rc, ra, rn⟩ := TE.at_ hi
  have ti := TE.inst
  obtain ⟨tk9, n9, td⟩ := TE.dict
  refine k9 ?_; clear k9 P9
  k_steps
  exact endK hK9 (by k_asm) ⟨_, rfl⟩
theorem name_U {w : World} {A : Around} {s : Shared} {g : Heap} {L : Addr} {m : Str → Option Value} {news : List (Addr × Obj)} {t : Addr} {T : List Row} {i : Nat} {tk : Tok} {dp un : Nat} {Q E : Value → Shared → Prop}
   (C : Callee w A g L dp un) (F : Fr g L s.heap m) (N : News g L s.heap news) (TT : TreeAt w g t T) (hi : i < T.length) (hd : 5 ≤ dp) (hu : 60 ≤ un)
   (k : ∀ u h' tk', Fr g L h' m → News g L h' news → Q (.str (nm T i) u) { s with heap := h', toks := tk' }) :
   wpAny (model prg w) A (call (.ref 354) [.ref t, .int (i : Int) tk]) Q E s :=
  use (name_C (C.at F hd hu) (TT.keep F.keep) hi) F N fun v h' tk' F' N' _ e => by obtain ⟨u, rfl⟩ := e; exact k u h' tk' F' N'
theorem uri_C {w : World} {A : Around} {s : Shared} {t : Addr} {T : List Row} {i : Nat} {tk : Tok}
   (H : At w A s.heap 5 60) (TT : TreeAt w s.heap t T) (hi : i < T.length) :
   wpAny (model prg w) A (call (.ref 361) [.ref t, .int (i : Int) tk]) (Back s fun v h' => ∃ u, v = .str (ur T i) u) NoErr s := by
  refine' enter (binds := [(Str.ofString "self", .ref t), (Str.ofString "node", .int (i : Int) tk)]) H (by k_extra "om") (by k_extra "om") (by k_is) (by k_is) (BindsTo.of_eq rfl) (locs rfl) ?_ (by decide) rfl rfl rfl
  intro h₁ gn9 dr9 os9 A9 L9 tk9 pr9 loose9 mean9 mg9 mb9 F' N' X' T' C' hroom hun K9 hK9
  (try dsimp only)
  refine hidP fun P9 k9 => ?_
  obtain ⟨dt, rl, qs, TE⟩ := TT
  obtain ⟨q, hq, ri, ⟨t0, t1, t2, t3, t4, t5, t6, t7, t8, u0, u1, u2, u3, u4, pv, nn, hp, rd⟩, rc, ra, rn⟩ := TE.at_ hi
  have ti := TE.inst
  obtain ⟨tk9, n9, td⟩ := TE.dict
  refine k9 ?_; clear k9 P9
  k_steps
  exact endK hK9 (by k_asm) ⟨_, rfl⟩
theorem uri_U {w : World} {A : Around} {s : Shared} {g : Heap} {L : Addr} {m : Str → Option Value} {news : List (Addr × Obj)} {t : Addr} {T : List Row} {i : Nat} {tk : Tok} {dp un : Nat} {Q E : Value → Shared → Prop}
   (C : Callee w A g L dp un) (F : Fr g L s.heap m) (N : News g L s.heap news) (TT : TreeAt w g t T) (hi : i < T.length) (hd : 5 ≤ dp) (hu : 60 ≤ un)
   (k : ∀ u h' tk', Fr g L h' m → News g L h' news → Q (.str (ur T i) u) { s with heap := h', toks := tk' }) :
   wpAny (model prg w) A (call (.ref 361) [.ref t, .int (i : Int) tk]) Q E s :=
  use (uri_C (C.at F hd hu) (TT.keep F.keep) hi) F N fun v h' tk' F' N' _ e => by obtain ⟨u, rfl⟩ := e; exact k u h' tk' F' N'
theorem local_C {w : World} {A : Around} {s : Shared} {t : Addr} {T : List Row} {i : Nat} {tk : Tok}
   (H : At w A s.heap 5 60) (TT : TreeAt w s.heap t T) (hi : i < T.length) :
   wpAny (model prg w) A (call (.ref 368) [.ref t, .int (i : Int) tk]) (Back s fun v h' => ∃ u, v = .str (lo T i) u) NoErr s := by
  refine' enter (binds := [(Str.ofString "self", .ref t), (Str.ofString "node", .int (i : Int) tk)]) H (by k_extra "om") (by k_extra "om") (by k_is) (by k_is) (BindsTo.of_eq rfl) (locs rfl) ?_ (by decide) rfl rfl rfl
  intro h₁ gn9 dr9 os9 A9 L9 tk9 pr9 loose9 mean9 mg9 mb9 F' N' X' T' C' hroom hun K9 hK9
  (try dsimp only)
  refine hidP fun P9 k9 => ?_
  obtain ⟨dt, rl, qs, TE⟩ := TT
  obtain ⟨q, hq, ri, ⟨t0, t1, t2, t3, t4, t5, t6, t7, t8, u0, u1, u2, u3, u4, pv, nn, hp, rd⟩, rc, ra, rn⟩ := TE.at_ hi
  have ti := TE.inst
  obtain ⟨tk9, n9, td⟩ := TE.dict
  refine k9 ?_; clear k9 P9
  k_steps
  exact endK hK9 (by k_asm) ⟨_, rfl⟩
theorem local_U {w : World} {A : Around} {s : Shared} {g : Heap} {L : Addr} {m : Str → Option Value} {news : List (Addr × Obj)} {t : Addr} {T : List Row} {i : Nat} {tk : Tok} {dp un : Nat} {Q E : Value → Shared → Prop}
   (C : Callee w A g L dp un) (F : Fr g L s.heap m) (N : News g L s.heap news) (TT : TreeAt w g t T) (hi : i < T.length) (hd : 5 ≤ dp) (hu : 60 ≤ un)
   (k : ∀ u h' tk', Fr g L h' m → News g L h' news → Q (.str (lo T i) u) { s with heap := h', toks := tk' }) :
   wpAny (model prg w) A (call (.ref 368) [.ref t, .int (i : Int) tk]) Q E s :=
  use (local_C (C.at F hd hu) (TT.keep F.keep) hi) F N fun v h' tk' F' N' _ e => by obtain ⟨u, rfl⟩ := e; exact k u h' tk' F' N'
theorem parent_C {w : World} {A : Around} {s : Shared} {t : Addr} {T : List Row} {i : Nat} {tk : Tok}
   (H : At w A s.heap 5 60) (TT : TreeAt w s.heap t T) (hi : i < T.length) :
   wpAny (model prg w) A (call (.ref 382) [.ref t, .int (i : Int) tk]) (Back s fun v h' => ParV v (pa T i)) NoErr s := by
  refine' enter (binds := [(Str.ofString "self", .ref t), (Str.ofString "node", .int (i : Int) tk)]) H (by k_extra "om") (by k_extra "om") (by k_is) (by k_is) (BindsTo.of_eq rfl) (locs rfl) ?_ (by decide) rfl rfl rfl
  intro h₁ gn9 dr9 os9 A9 L9 tk9 pr9 loose9 mean9 mg9 mb9 F' N' X' T' C' hroom hun K9 hK9
  (try dsimp only)
  refine hidP fun P9 k9 => ?_
  obtain ⟨dt, rl, qs, TE⟩ := TT
  obtain ⟨q, hq, ri, ⟨t0, t1, t2, t3, t4, t5, t6, t7, t8, u0, u1, u2, u3, u4, pv, nn, hp, rd⟩, rc, ra, rn⟩ := TE.at_ hi
  have ti := TE.inst
  obtain ⟨tk9, n9, td⟩ := TE.dict
  refine k9 ?_; clear k9 P9
  cases hq9 : (rw T i).par with
  | none =>
    rw [hq9] at hp
    refine hidP fun P9 k9 => ?_
    obtain rfl : pv = .none := hp
    refine k9 ?_; clear k9 P9
    k_steps
    refine endK hK9 (by k_asm) ?_
    show ParV _ (rw T i).par
    rw [hq9]; rfl
  | some p9 =>
    rw [hq9] at hp
    refine hidP fun P9 k9 => ?_
    obtain ⟨u9, rfl⟩ := hp
    refine k9 ?_; clear k9 P9
    k_steps
    refine endK hK9 (by k_asm) ?_
    show ParV _ (rw T i).par
    rw [hq9]; exact ⟨_, rfl⟩
theorem parent_U {w : World} {A : Around} {s : Shared} {g : Heap} {L : Addr} {m : Str → Option Value} {news : List (Addr × Obj)} {t : Addr} {T : List Row} {i : Nat} {tk : Tok} {dp un : Nat} {Q E : Value → Shared → Prop}
   (C : Callee w A g L dp un) (F : Fr g L s.heap m) (N : News g L s.heap news) (TT : TreeAt w g t T) (hi : i < T.length) (hd : 5 ≤ dp) (hu : 60 ≤ un)
   (k0 : pa T i = none → ∀ h' tk', Fr g L h' m → News g L h' news → Q .none { s with heap := h', toks := tk' })
   (k1 : ∀ p u h' tk', pa T i = some p → Fr g L h' m → News g L h' news → Q (.int (p : Int) u) { s with heap := h', toks := tk' }) :
   wpAny (model prg w) A (call (.ref 382) [.ref t, .int (i : Int) tk]) Q E s :=
  use (parent_C (C.at F hd hu) (TT.keep F.keep) hi) F N fun v h' tk' F' N' _ e => by
    unfold ParV at e; split at e
    · subst e; exact k0 (by assumption) h' tk' F' N'
    · obtain ⟨u, rfl⟩ := e; exact k1 _ u h' tk' (by assumption) F' N'
theorem parent_0 {w : World} {A : Around} {s : Shared} {g : Heap} {L : Addr} {m : Str → Option Value} {news : List (Addr × Obj)} {t : Addr} {T : List Row} {i : Nat} {tk : Tok} {dp un : Nat} {Q E : Value → Shared → Prop}
   (C : Callee w A g L dp un) (F : Fr g L s.heap m) (N : News g L s.heap news) (TT : TreeAt w g t T) (hi : i < T.length) (hd : 5 ≤ dp) (hu : 60 ≤ un) (hp : pa T i = none)
   (k : ∀ h' tk', Fr g L h' m → News g L h' news → Q .none { s with heap := h', toks := tk' }) :
   wpAny (model prg w) A (call (.ref 382) [.ref t, .int (i : Int) tk]) Q E s :=
  parent_U C F N TT hi hd hu (fun _ => k) fun p u h' tk' e => by rw [hp] at e; cases e
theorem parent_1 {w : World} {A : Around} {s : Shared} {g : Heap} {L : Addr} {m : Str → Option Value} {news : List (Addr × Obj)} {t : Addr} {T : List Row} {i : Nat} {tk : Tok} {dp un : Nat} {Q E : Value → Shared → Prop}
   (C : Callee w A g L dp un) (F : Fr g L s.heap m) (N : News g L s.heap news) (TT : TreeAt w g t T) (hi : i < T.length) (hd : 5 ≤ dp) (hu : 60 ≤ un) {p : Nat} (hp : pa T i = some p)
   (k : ∀ u h' tk', Fr g L h' m → News g L h' news → Q (.int (p : Int) u) { s with heap := h', toks := tk' }) :
   wpAny (model prg w) A (call (.ref 382) [.ref t, .int (i : Int) tk]) Q E s :=
  parent_U C F N TT hi hd hu (fun e => by rw [hp] at e; cases e) fun q u h' tk' e => by rw [hp] at e; cases e; exact k u h' tk'
theorem parent_V {w : World} {A : Around} {s : Shared} {g : Heap} {L : Addr} {m : Str → Option Value} {news : List (Addr × Obj)} {t : Addr} {T : List Row} {i : Nat} {tk : Tok} {dp un : Nat} {Q E : Value → Shared → Prop}
   (C : Callee w A g L dp un) (F : Fr g L s.heap m) (N : News g L s.heap news) (TT : TreeAt w g t T) (hi : i < T.length) (hd : 5 ≤ dp) (hu : 60 ≤ un)
   (k : ∀ v h' tk', ParV v (pa T i) → Fr g L h' m → News g L h' news → Q v { s with heap := h', toks := tk' }) :
   wpAny (model prg w) A (call (.ref 382) [.ref t, .int (i : Int) tk]) Q E s :=
  use (parent_C (C.at F hd hu) (TT.keep F.keep) hi) F N fun v h' tk' F' N' _ e => k v h' tk' e F' N'
theorem children_C {w : World} {A : Around} {s : Shared} {t : Addr} {T : List Row} {i : Nat} {tk : Tok}
   (H : At w A s.heap 5 60) (TT : TreeAt w s.heap t T) (hi : i < T.length) :
   wpAny (model prg w) A (call (.ref 389) [.ref t, .int (i : Int) tk]) (Back s (ListOut s (nat (ch T i)))) NoErr s := by
  refine' enter (binds := [(Str.ofString "self", .ref t), (Str.ofString "node", .int (i : Int) tk)]) H (by k_extra "om") (by k_extra "om") (by k_is) (by k_is) (BindsTo.of_eq rfl) (locs rfl) ?_ (by decide) rfl rfl rfl
  intro h₁ gn9 dr9 os9 A9 L9 tk9 pr9 loose9 mean9 mg9 mb9 F' N' X' T' C' hroom hun K9 hK9
  (try dsimp only)
  refine hidP fun P9 k9 => ?_
  obtain ⟨dt, rl, qs, TE⟩ := TT
  obtain ⟨q, hq, ri, ⟨t0, t1, t2, t3, t4, t5, t6, t7, t8, u0, u1, u2, u3, u4, pv, nn, hp, rd⟩, rc, ra, rn⟩ := TE.at_ hi
  have ti := TE.inst
  obtain ⟨tk9, n9, td⟩ := TE.dict
  obtain ⟨vs, n, rl', ri'⟩ := rc
  refine k9 ?_; clear k9 P9
  have hb := TE.sm.ch i
  have hb' : vs.length ≤ 100 := by rw [ri'.length, nat_len]; exact hb
  k_steps
  refine endK hK9 (by k_asm) ?_
  exact ⟨_, _, _, rfl, News.fresh (by k_asm) (by k_mem), News.get (by k_asm) (by k_mem), ri'⟩
theorem children_U {w : World} {A : Around} {s : Shared} {g : Heap} {L : Addr} {m : Str → Option Value} {news : List (Addr × Obj)} {t : Addr} {T : List Row} {i : Nat} {tk : Tok} {dp un : Nat} {Q E : Value → Shared → Prop}
   (C : Callee w A g L dp un) (F : Fr g L s.heap m) (N : News g L s.heap news) (TT : TreeAt w g t T) (hi : i < T.length) (hd : 5 ≤ dp) (hu : 60 ≤ un)
   (k : ∀ a vs n h' tk', Fr g L h' m → News g L h' ((a, listOf (List.toArray vs) n) :: news) → (∀ p ∈ news, @Ne Nat p.1 a) → IntsAre vs (nat (ch T i)) → (nat (ch T i)).length ≤ 100 → Q (.ref a) { s with heap := h', toks := tk' }) :
   wpAny (model prg w) A (call (.ref 389) [.ref t, .int (i : Int) tk]) Q E s :=
  useL (children_C (C.at F hd hu) (TT.keep F.keep) hi) F N fun a vs n h' tk' F' N' l1 hi' => k a vs n h' tk' F' N' l1 hi' (by obtain ⟨_, _, _, TE⟩ := TT; rw [nat_len]; exact TE.sm.ch i)
theorem attributes_C {w : World} {A : Around} {s : Shared} {t : Addr} {T : List Row} {i : Nat} {tk : Tok}
   (H : At w A s.heap 5 60) (TT : TreeAt w s.heap t T) (hi : i < T.length) :
   wpAny (model prg w) A (call (.ref 396) [.ref t, .int (i : Int) tk]) (Back s (ListOut s (nat (atl T i)))) NoErr s := by
  refine' enter (binds := [(Str.ofString "self", .ref t), (Str.ofString "node", .int (i : Int) tk)]) H (by k_extra "om") (by k_extra "om") (by k_is) (by k_is) (BindsTo.of_eq rfl) (locs rfl) ?_ (by decide) rfl rfl rfl
  intro h₁ gn9 dr9 os9 A9 L9 tk9 pr9 loose9 mean9 mg9 mb9 F' N' X' T' C' hroom hun K9 hK9
  (try dsimp only)
  refine hidP fun P9 k9 => ?_
  obtain ⟨dt, rl, qs, TE⟩ := TT
  obtain ⟨q, hq, ri, ⟨t0, t1, t2, t3, t4, t5, t6, t7, t8, u0, u1, u2, u3, u4, pv, nn, hp, rd⟩, rc, ra, rn⟩ := TE.at_ hi
  have ti := TE.inst
  obtain ⟨tk9, n9, td⟩ := TE.dict
  obtain ⟨vs, n, rl', ri'⟩ := ra
  refine k9 ?_; clear k9 P9
  have hb := TE.sm.atl i
  have hb' : vs.length ≤ 100 := by rw [ri'.length, nat_len]; exact hb
  k_steps
  refine endK hK9 (by k_asm) ?_
  exact ⟨_, _, _, rfl, News.fresh (by k_asm) (by k_mem), News.get (by k_asm) (by k_mem), ri'⟩
theorem attributes_U {w : World} {A : Around} {s : Shared} {g : Heap} {L : Addr} {m : Str → Option Value} {news : List (Addr × Obj)} {t : Addr} {T : List Row} {i : Nat} {tk : Tok} {dp un : Nat} {Q E : Value → Shared → Prop}
   (C : Callee w A g L dp un) (F : Fr g L s.heap m) (N : News g L s.heap news) (TT : TreeAt w g t T) (hi : i < T.length) (hd : 5 ≤ dp) (hu : 60 ≤ un)
   (k : ∀ a vs n h' tk', Fr g L h' m → News g L h' ((a, listOf (List.toArray vs) n) :: news) → (∀ p ∈ news, @Ne Nat p.1 a) → IntsAre vs (nat (atl T i)) → (nat (atl T i)).length ≤ 100 → Q (.ref a) { s with heap := h', toks := tk' }) :
   wpAny (model prg w) A (call (.ref 396) [.ref t, .int (i : Int) tk]) Q E s :=
  useL (attributes_C (C.at F hd hu) (TT.keep F.keep) hi) F N fun a vs n h' tk' F' N' l1 hi' => k a vs n h' tk' F' N' l1 hi' (by obtain ⟨_, _, _, TE⟩ := TT; rw [nat_len]; exact TE.sm.atl i)
theorem namespaces_C {w : World} {A : Around} {s : Shared} {t : Addr} {T : List Row} {i : Nat} {tk : Tok}
   (H : At w A s.heap 5 60) (TT : TreeAt w s.heap t T) (hi : i < T.length) :
   wpAny (model prg w) A (call (.ref 403) [.ref t, .int (i : Int) tk]) (Back s (ListOut s (nat (nsl T i)))) NoErr s := by
  refine' enter (binds := [(Str.ofString "self", .ref t), (Str.ofString "node", .int (i : Int) tk)]) H (by k_extra "om") (by k_extra "om") (by k_is) (by k_is) (BindsTo.of_eq rfl) (locs rfl) ?_ (by decide) rfl rfl rfl
  intro h₁ gn9 dr9 os9 A9 L9 tk9 pr9 loose9 mean9 mg9 mb9 F' N' X' T' C' hroom hun K9 hK9
  (try dsimp only)
  refine hidP fun P9 k9 => ?_
  obtain ⟨dt, rl, qs, TE⟩ := TT
  obtain ⟨q, hq, ri, ⟨t0, t1, t2, t3, t4, t5, t6, t7, t8, u0, u1, u2, u3, u4, pv, nn, hp, rd⟩, rc, ra, rn⟩ := TE.at_ hi
  have ti := TE.inst
  obtain ⟨tk9, n9, td⟩ := TE.dict
  obtain ⟨vs, n, rl', ri'⟩ := rn
  refine k9 ?_; clear k9 P9
  have hb := TE.sm.nsl i
  have hb' : vs.length ≤ 100 := by rw [ri'.length, nat_len]; exact hb
  k_steps
  refine endK hK9 (by k_asm) ?_
  exact ⟨_, _, _, rfl, News.fresh (by k_asm) (by k_mem), News.get (by k_asm) (by k_mem), ri'⟩
theorem namespaces_U {w : World} {A : Around} {s : Shared} {g : Heap} {L : Addr} {m : Str → Option Value} {news : List (Addr × Obj)} {t : Addr} {T : List Row} {i : Nat} {tk : Tok} {dp un : Nat} {Q E : Value → Shared → Prop}
   (C : Callee w A g L dp un) (F : Fr g L s.heap m) (N : News g L s.heap news) (TT : TreeAt w g t T) (hi : i < T.length) (hd : 5 ≤ dp) (hu : 60 ≤ un)
   (k : ∀ a vs n h' tk', Fr g L h' m → News g L h' ((a, listOf (List.toArray vs) n) :: news) → (∀ p ∈ news, @Ne Nat p.1 a) → IntsAre vs (nat (nsl T i)) → (nat (nsl T i)).length ≤ 100 → Q (.ref a) { s with heap := h', toks := tk' }) :
   wpAny (model prg w) A (call (.ref 403) [.ref t, .int (i : Int) tk]) Q E s :=
  useL (namespaces_C (C.at F hd hu) (TT.keep F.keep) hi) F N fun a vs n h' tk' F' N' l1 hi' => k a vs n h' tk' F' N' l1 hi' (by obtain ⟨_, _, _, TE⟩ := TT; rw [nat_len]; exact TE.sm.nsl i)
example : True := by w_top off; trivial
inductive TurnNx (g : Heap) (L I : Addr) (oI : Obj) (J : (Str → Option Value) → List (Addr × Obj) → Prop) (s₁ s₂ : Shared) : Prop
  | mk (h' : Heap) (tk : Nat) (m' : Str → Option Value) (nx' : List (Addr × Obj)) (e : s₂ = { s₁ with heap := h', toks := tk }) (F : Fr g L h' m') (N : News g L h' ((I, oI) :: nx')) (ne : ∀ q ∈ nx', q.1 ≠ I) (hJ : J m' nx') : TurnNx g L I oI J s₁ s₂
noncomputable def TurnOver (g : Heap) (L I : Addr) (oI : Obj) (J : (Str → Option Value) → List (Addr × Obj) → Prop) (s₁ : Shared) (Q : Flow → Shared → Prop) (f : Flow) (s₂ : Shared) : Prop :=
  match f with
  | .ret v => Q (.ret v) s₂
  | .brk => Q .next s₂
  | _ => TurnNx g L I oI J s₁ s₂
section
variable {prog : Program} {w : World} {A : Around} {E : Value → Shared → Prop} {s : Shared} {env : Env} {g : Heap} {x : Str} {body : List Stmt} {Q : Flow → Shared → Prop}
theorem turn_over {L I : Addr} {oI : Obj} {J : (Str → Option Value) → List (Addr × Obj) → Prop} {s₁ : Shared} {h' : Heap} {tk : Nat} {m' : Str → Option Value} {news' : List (Addr × Obj)} (nx' : List (Addr × Obj))
    (F : Fr g L h' m') (N : News g L h' news') (hI : (I, oI) ∈ news') (hn : ∀ q ∈ nx', q ∈ news') (ha : ∀ q ∈ nx', q.1 ≠ I) (hJ : J m' nx') :
    TurnOver g L I oI J s₁ Q .next { s₁ with heap := h', toks := tk } :=
  ⟨h', tk, m', nx', rfl, F, fun p hp => N p ((List.mem_cons.mp hp).elim (fun e => e ▸ hI) (hn p)), ha, hJ⟩
theorem obj_eq {h : Heap} {p : Addr × Obj} {a : Addr} {o : Obj} (e : p.1 = a) (h1 : h.get? p.1 = some p.2) (h2 : h.get? a = some o) : p = (a, o) := by
  obtain ⟨p1, p2⟩ := p
  cases e
  exact congrArg (Prod.mk p1) (Option.some.inj (h1.symm.trans h2))
theorem turn_next {L I : Addr} {oi : Obj} {h : Heap} {own nx : List (Addr × Obj)} {ls : List Addr} {J' : (Str → Option Value) → List (Addr × Obj) → Prop} {s₁ s₂ : Shared} (hown : ∀ p ∈ own, p.1 ∈ I :: ls) (hget : ∀ p ∈ own, h.get? p.1 = some p.2) (hoi : h.get? I = some oi) (N₁ : News g L h (own ++ nx))
    (hsrc : ∀ b ∈ ls, (∃ o, g.get? b = some o) ∨ ∃ ol, (b, ol) ∈ nx ∧ ∀ m' nx', J' m' nx' → (b, ol) ∈ nx') (T : TurnNx g L I oi J' s₁ s₂) : LoopStepU g L [I] own J' s₁ .next s₂ := by
  obtain ⟨h', tk, m', nx', e, F', N', hn, hJ'⟩ := T
  refine ⟨rfl, h', tk, m', nx', e, F', fun p hp => ?_, fun p hp hq => hn p hp (List.mem_singleton.mp hq), hJ'⟩
  rcases List.mem_append.mp hp with hp | hp
  · rcases List.mem_cons.mp (hown p hp) with e1 | e1
    · rw [obj_eq e1 (hget p hp) hoi]; exact N' _ (.head _)
    · rcases hsrc _ e1 with ⟨o, ho⟩ | ⟨ol, hol, hol'⟩
      · have := (N₁ p (List.mem_append_left _ hp)).2.2
        rw [ho] at this; cases this
      · rw [obj_eq rfl (hget p hp) (N₁ _ (List.mem_append_right own hol)).1]; exact N' _ (.tail _ (hol' _ _ hJ'))
  · exact N' _ (.tail _ hp)
theorem for_list {m₀ : Str → Option Value} {news : List (Addr × Obj)} {l : Addr} {vs : List Value} (J : Nat → (Str → Option Value) → List (Addr × Obj) → Prop)
    (hh : A.handled = none) (hl : s.heap.IsList l vs.toArray) (hlL : l ≠ env.locals) (F : Fr g env.locals s.heap m₀) (N : News g env.locals s.heap news)
    (hsrc : (∃ o, g.get? l = some o) ∨ ∃ ol, ∀ i m nx, J i m nx → (l, ol) ∈ nx) (hj : J 0 m₀ news)
    (turn : ∀ i v m nx h tk I oI, vs[i]? = some v → J i m nx → (∀ q ∈ nx, @Ne Nat q.1 I) → Fr g env.locals h (fun y => if y = x then some v else m y) → News g env.locals h ((I, oI) :: nx) →
      wpAny (model prog w) A (execs body env) (TurnOver g env.locals I oI (J (i + 1)) { s with heap := h, toks := tk } Q) E { s with heap := h, toks := tk })
    (done : ∀ m nx h tk, J vs.length m nx → Fr g env.locals h m → News g env.locals h nx → Q .next { s with heap := h, toks := tk }) :
    wpAny (model prog w) A (pyIter (.ref l)) (fun it s₂ => LoopAtV prog w A g env x body Q E it s₂) E s := by
  refine wpAny_pyIter_list hl ?_
  have hlt : l < s.heap.objs.size := by obtain ⟨o, ho, _⟩ := id hl; exact Heap.lt_size ho
  have W := Walks.list (prog := prog) (w := w) hh s.heap.objs.size l (Nat.ne_of_lt hlt) vs.toArray
  have hsz : vs.toArray.size = vs.length := List.size_toArray ..
  rw [hsz] at W
  refine ⟨_, _, _, vs.length, _, _, m₀, news, J, rfl, W, ?_, ?_, ?_, ⟨⟨_, Heap.get?_push_size _ rfl, rfl, rfl⟩, hl.at fun o e => Heap.get?_push_of_some _ e⟩, F.push _, (fun p hp => ⟨Heap.get?_push_of_some _ (N p hp).1, (N p hp).2⟩), hj, ?_, ?_⟩
  · intro hm
    rcases List.mem_cons.mp hm with e | hm
    · exact absurd F.ns.lt (e ▸ Nat.lt_irrefl _)
    · exact hlL (List.mem_singleton.mp hm).symm
  · intro b hb
    rw [List.mem_singleton.mp hb]
    exact next_is_new F
  · intro p hp hI
    exact absurd (Heap.lt_size (N p hp).1) ((List.mem_singleton.mp hI) ▸ Nat.lt_irrefl _)
  · rintro i v m₁ nx s₁ own ⟨hh', tk', rfl⟩ hin hP hJ hoff hown hget hmem hst F₁ N₁
    have hv : vs[i]? = some v := by simpa using hP
    have hIn : g.get? s.heap.objs.size = none := next_is_new F
    obtain ⟨⟨oi, hoi, _⟩, _⟩ := hst
    have hI : (s.heap.objs.size, oi) ∈ own := hmem _ (.head _) hIn oi hoi
    have hne : ∀ q ∈ nx, q.1 ≠ s.heap.objs.size := fun q hq e => hoff q hq (List.mem_singleton.mpr e)
    have N₂ : News g env.locals hh' ((s.heap.objs.size, oi) :: nx) := fun p hp => N₁ p ((List.mem_cons.mp hp).elim (fun e => List.mem_append_left _ (e ▸ hI)) fun e => List.mem_append_right _ e)
    refine wpAny_mono (turn i v m₁ nx hh' tk' s.heap.objs.size oi hv hJ hne F₁ N₂) (fun f s₂ p => ?_) fun _ _ e => e
    have fin := turn_next (ls := [l]) hown hget hoi N₁ (fun b hb => by
      rw [List.mem_singleton.mp hb]
      exact hsrc.imp id fun ⟨ol, k⟩ => ⟨ol, k _ _ _ hJ, fun _ _ => k _ _ _⟩) (J' := J (i + 1)) (s₁ := { s with heap := hh', toks := tk' }) (s₂ := s₂)
    cases f with
    | ret v => exact .ret p
    | brk => exact .brk p
    | next => exact .next (fin p)
    | cont => exact .cont (fin p)
  · rintro h' tk m' nx F' N' _ hJ
    exact done m' nx h' tk hJ F' N'
noncomputable def SameBut (x : Str) (stored : List Str) (m₀ m : Str → Option Value) : Prop := ∀ y, y ≠ x → stored.contains y = false → m y = m₀ y
theorem sameBut_all {x : Str} {stored : List Str} {m₀ m : Str → Option Value} (hm : SameBut x stored m₀ m) : m = fun y => if y = x then m y else if stored.contains y then m y else m₀ y := by
  funext y
  by_cases h1 : y = x
  · rw [if_pos h1]
  · rw [if_neg h1]
    cases h2 : stored.contains y with
    | true => rfl
    | false => exact hm y h1 h2
theorem sameBut_form {x : Str} {stored : List Str} {m₀ m : Str → Option Value} (h : SameBut x stored m₀ m) (v : Option Value) :
    (fun y => if y = x then v else m y) = fun y => if y = x then v else if stored.contains y then m y else m₀ y := by
  funext y
  by_cases h1 : y = x
  · rw [if_pos h1, if_pos h1]
  · rw [if_neg h1, if_neg h1]
    cases h2 : stored.contains y with
    | true => rfl
    | false => exact h y h1 h2
inductive GrowJ (x : Str) (stored : List Str) (m₀ : Str → Option Value) (a : Addr) (rest : List (Addr × Obj)) (c : List Int) (m : Str → Option Value) (nx : List (Addr × Obj)) : Prop
  | mk (hm : SameBut x stored m₀ m) (vs : List Value) (n : Nat) (e : nx = (a, listOf (List.toArray vs) n) :: rest) (hi : IntsAre vs c) : GrowJ x stored m₀ a rest c m nx
theorem grow_over {L I a : Addr} {oI : Obj} {s₁ : Shared} {h' : Heap} {tk : Nat} {m₀ m' : Str → Option Value} {news' rest : List (Addr × Obj)} {stored : List Str} {vs : List Value} {n : Nat} {c : List Int}
    (F : Fr g L h' m') (N : News g L h' news') (hI : (I, oI) ∈ news') (ha : (a, listOf (List.toArray vs) n) ∈ news') (hr : ∀ q ∈ rest, q ∈ news') (hne : a ≠ I) (hrI : ∀ q ∈ rest, q.1 ≠ I) (hi : IntsAre vs c) (hm : SameBut x stored m₀ m') :
    TurnOver g L I oI (GrowJ x stored m₀ a rest c) s₁ Q .next { s₁ with heap := h', toks := tk } :=
  turn_over ((a, listOf (List.toArray vs) n) :: rest) F N hI (fun q hq => (List.mem_cons.mp hq).elim (fun e => e ▸ ha) (hr q)) (fun q hq => (List.mem_cons.mp hq).elim (fun e => e ▸ hne) (hrI q)) ⟨hm, vs, n, rfl, hi⟩
theorem for_grow {m₀ : Str → Option Value} {rest : List (Addr × Obj)} {l a : Addr} {vs vs₀ : List Value} {ns : List Int} {n₀ : Nat} (stored : List Str) (acc : Nat → List Int)
    (hh : A.handled = none) (hl : s.heap.IsList l vs.toArray) (hlL : l ≠ env.locals) (hi : IntsAre vs ns) (F : Fr g env.locals s.heap m₀) (N : News g env.locals s.heap ((a, listOf (List.toArray vs₀) n₀) :: rest)) (hc : IntsAre vs₀ (acc 0))
    (hsrc : (∃ o, g.get? l = some o) ∨ ∃ ol, (l, ol) ∈ rest)
    (turn : ∀ i k t (u : Str → Option Value) vs' n' h tk I oI, ns[i]? = some k → IntsAre vs' (acc i) → @Ne Nat a I → (∀ q ∈ rest, @Ne Nat q.1 I) →
      Fr g env.locals h (fun y => if y = x then some (.int k t) else if stored.contains y then u y else m₀ y) → News g env.locals h ((I, oI) :: (a, listOf (List.toArray vs') n') :: rest) →
      wpAny (model prog w) A (execs body env) (TurnOver g env.locals I oI (GrowJ x stored m₀ a rest (acc (i + 1))) { s with heap := h, toks := tk } Q) E { s with heap := h, toks := tk })
    (done : ∀ (u : Str → Option Value) vs' n' h tk, IntsAre vs' (acc ns.length) → Fr g env.locals h (fun y => if y = x then u y else if stored.contains y then u y else m₀ y) → News g env.locals h ((a, listOf (List.toArray vs') n') :: rest) → Q .next { s with heap := h, toks := tk }) :
    wpAny (model prog w) A (pyIter (.ref l)) (fun it s₂ => LoopAtV prog w A g env x body Q E it s₂) E s := by
  refine for_list (fun i m nx => GrowJ x stored m₀ a rest (acc i) m nx) hh hl hlL F N ?_ ⟨fun _ _ _ => rfl, _, _, rfl, hc⟩ ?_ ?_
  · rcases hsrc with h | ⟨ol, h⟩
    · exact .inl h
    · refine .inr ⟨ol, ?_⟩
      rintro i m nx ⟨_, vs', n', rfl, _⟩
      exact .tail _ h
  · rintro i v m nx h tk I oI hv ⟨hm, vs', n', rfl, hi'⟩ hne F₁ N₁
    have hlt : i < ns.length := by rw [← hi.length]; exact (List.getElem?_eq_some_iff.mp hv).1
    obtain ⟨t, ht⟩ := hi.get i ns[i] (by simp [hlt])
    rw [hv] at ht
    cases ht
    rw [sameBut_form hm] at F₁
    exact turn i _ t m vs' n' h tk I oI (by simp [hlt]) hi' (hne _ (.head _)) (fun q hq => hne q (.tail _ hq)) F₁ N₁
  · rintro m nx h tk ⟨hm, vs', n', rfl, hi'⟩ F₁ N₁
    rw [hi.length] at hi'
    rw [sameBut_all hm] at F₁
    exact done m vs' n' h tk hi' F₁ N₁
end
theorem while_I {prog : Program} {w : World} {A : Around} {s : Shared} {env : Env} {Q : Flow → Shared → Prop} {test : PySem.Expr} {body : List Stmt} {pos : Pos} (I : Nat → Shared → Prop) (n : Nat) (h : I n s)
    (turn : ∀ n s, I n s → wpAny (model prog w) A (isTrue test env (eval test env)) (fun b s₂ =>
      if b = true then wpAny (model prog w) A (execs body env) (fun f s₃ => match f with
        | .ret v => Q (.ret v) s₃
        | .brk => Q .next s₃
        | _ => ∃ m, m < n ∧ I m s₃) NoErr s₂ else Q .next s₂) NoErr s) :
    wpAny (model prog w) A (exec (.While test body [] pos) env) Q NoErr s := by
  refine wpAny_While (codeAny_whileLoop I (fun n s hI => ?_) n h)
  refine wpAny_mono (turn n s hI) (fun b s₂ p => ?_) fun _ _ e => e.elim
  cases b with
  | false =>
    simp only [Bool.false_eq_true, if_false] at p ⊢
    exact wpAny_execs_nil p
  | true =>
    simp only [if_true] at p ⊢
    refine wpAny_mono p (fun f s₃ q => ?_) fun _ _ e => e.elim
    cases f <;> exact q
theorem for_name {prog : Program} {w : World} {A : Around} {s : Shared} {env : Env} {g : Heap} {x : Str} {body : List Stmt} {Q : Flow → Shared → Prop} {m : Str → Option Value} {px pos : Pos} {iter : PySem.Expr} (F : Fr g env.locals s.heap m) (hx : env.kindOf x = some .local)
    (hp : (env.scope.kind == .class || (env.scope.kind == .module && env.locals != env.globals)) = false)
    (h : wpAny (model prog w) A (eval iter env) (fun xv s₁ => wpAny (model prog w) A (pyIter xv) (fun it s₂ => LoopAtV prog w A g env x body Q NoErr it s₂) NoErr s₁) NoErr s)
    (hs : ∀ x, foldedSetIterable iter env x = pure x := by intro _; rfl) :
    wpAny (model prog w) A (exec (.For (.Name x px) iter body [] pos) env) Q NoErr s := For_invVF F hx hp h hs (fun _ _ e => e.elim)
inductive WhNx (g : Heap) (L : Addr) (J : Nat → (Str → Option Value) → List (Addr × Obj) → Prop) (n : Nat) (s s₂ : Shared) : Prop
  | mk (h' : Heap) (tk : Nat) (m' : Str → Option Value) (nx : List (Addr × Obj)) (k : Nat) (e : s₂ = { s with heap := h', toks := tk }) (F : Fr g L h' m') (N : News g L h' nx) (hk : k < n) (hJ : J k m' nx) : WhNx g L J n s s₂
noncomputable def WhOver (g : Heap) (L : Addr) (J : Nat → (Str → Option Value) → List (Addr × Obj) → Prop) (n : Nat) (s : Shared) (Q : Flow → Shared → Prop) (f : Flow) (s₂ : Shared) : Prop :=
  match f with
  | .ret v => Q (.ret v) s₂
  | .brk => Q .next s₂
  | _ => WhNx g L J n s s₂
inductive WhI (g : Heap) (L : Addr) (J : Nat → (Str → Option Value) → List (Addr × Obj) → Prop) (s : Shared) (n : Nat) (s' : Shared) : Prop
  | mk (h : Heap) (tk : Nat) (m : Str → Option Value) (nx : List (Addr × Obj)) (e : s' = { s with heap := h, toks := tk }) (F : Fr g L h m) (N : News g L h nx) (hJ : J n m nx) : WhI g L J s n s'
theorem while_J {prog : Program} {w : World} {A : Around} {s : Shared} {env : Env} {g : Heap} {Q : Flow → Shared → Prop} {test : PySem.Expr} {body : List Stmt} {pos : Pos} {m₀ : Str → Option Value} {news : List (Addr × Obj)}
    (J : Nat → (Str → Option Value) → List (Addr × Obj) → Prop) (n : Nat) (F : Fr g env.locals s.heap m₀) (N : News g env.locals s.heap news) (h0 : J n m₀ news)
    (turn : ∀ n m nx h tk, J n m nx → Fr g env.locals h m → News g env.locals h nx →
      wpAny (model prog w) A (isTrue test env (eval test env)) (fun t s₂ => if t = true then wpAny (model prog w) A (execs body env) (WhOver g env.locals J n { s with heap := h, toks := tk } Q) NoErr s₂ else Q .next s₂) NoErr { s with heap := h, toks := tk }) :
    wpAny (model prog w) A (exec (.While test body [] pos) env) Q NoErr s := by
  refine while_I (WhI g env.locals J s) n ⟨s.heap, s.toks, m₀, news, rfl, F, N, h0⟩ fun n s' hI => ?_
  obtain ⟨h, tk, m, nx, rfl, F₁, N₁, hJ⟩ := hI
  refine wpAny_mono (turn n m nx h tk hJ F₁ N₁) (fun t s₂ p => ?_) fun _ _ e => e
  cases t with
  | false => exact p
  | true =>
    simp only [if_true] at p ⊢
    refine wpAny_mono p (fun f s₃ q => ?_) fun _ _ e => e
    have fin : WhNx g env.locals J n { s with heap := h, toks := tk } s₃ → ∃ k, k < n ∧ WhI g env.locals J s k s₃ := fun ⟨h', tk', m', nx', k, e, F', N', hk, hJ'⟩ => ⟨k, hk, h', tk', m', nx', e, F', N', hJ'⟩
    cases f with
    | ret v => exact q
    | brk => exact q
    | next => exact fin q
    | cont => exact fin q
inductive TwoJ (a b : Addr) (stored : List Str) (m₀ : Str → Option Value) (R : Nat → List Int → List Int → Prop) (k : Nat) (m : Str → Option Value) (nx : List (Addr × Obj)) : Prop
  | mk (va : List Value) (na : Nat) (vb : List Value) (nb : Nat) (ca cb : List Int) (hm : ∀ y, stored.contains y = false → m y = m₀ y) (e : nx = [(a, listOf (List.toArray va) na), (b, listOf (List.toArray vb) nb)]) (hia : IntsAre va ca) (hib : IntsAre vb cb) (hR : R k ca cb) : TwoJ a b stored m₀ R k m nx
noncomputable abbrev TwoOver (g : Heap) (L a b : Addr) (stored : List Str) (m₀ : Str → Option Value) (R : Nat → List Int → List Int → Prop) (n : Nat) (s : Shared) (Q : Flow → Shared → Prop) (f : Flow) (s₂ : Shared) : Prop := WhOver g L (TwoJ a b stored m₀ R) n s Q f s₂
theorem news_two {g h : Heap} {L : Addr} {news : List (Addr × Obj)} {p q : Addr × Obj} (N : News g L h news) (hp : p ∈ news) (hq : q ∈ news) : News g L h [p, q] := fun r hr => by
  rcases List.mem_cons.mp hr with rfl | hr
  · exact N _ hp
  · rw [List.mem_singleton.mp hr]; exact N _ hq
theorem two_over {g : Heap} {L a b : Addr} {stored : List Str} {m₀ m' : Str → Option Value} {R : Nat → List Int → List Int → Prop} {n k : Nat} {s : Shared} {Q : Flow → Shared → Prop} {h' : Heap} {tk : Nat} {news : List (Addr × Obj)} {va vb : List Value} {na nb : Nat} {ca cb : List Int}
    (F : Fr g L h' m') (N : News g L h' news) (ha : (a, listOf (List.toArray va) na) ∈ news) (hb : (b, listOf (List.toArray vb) nb) ∈ news) (hia : IntsAre va ca) (hib : IntsAre vb cb) (hm : ∀ y, stored.contains y = false → m' y = m₀ y) (hk : k < n) (hR : R k ca cb) :
    TwoOver g L a b stored m₀ R n s Q .next { s with heap := h', toks := tk } :=
  WhNx.mk h' tk m' _ k rfl F (news_two N ha hb) hk ⟨va, na, vb, nb, ca, cb, hm, rfl, hia, hib, hR⟩
theorem while_two {prog : Program} {w : World} {A : Around} {s : Shared} {env : Env} {g : Heap} {Q : Flow → Shared → Prop} {test : PySem.Expr} {body : List Stmt} {pos : Pos} {m₀ : Str → Option Value} {news : List (Addr × Obj)} {a b : Addr} {va vb : List Value} {na nb : Nat} {ca cb : List Int}
    (xa xb : Str) (stored : List Str) (R : Nat → List Int → List Int → Prop) (n : Nat) (F : Fr g env.locals s.heap m₀) (N : News g env.locals s.heap news) (hxa : m₀ xa = some (.ref a)) (hxb : m₀ xb = some (.ref b))
    (hma : (a, listOf (List.toArray va) na) ∈ news) (hmb : (b, listOf (List.toArray vb) nb) ∈ news) (hia : IntsAre va ca) (hib : IntsAre vb cb) (h0 : R n ca cb)
    (turn : ∀ n (u : Str → Option Value) va na vb nb ca cb h tk, R n ca cb → IntsAre va ca → IntsAre vb cb → Fr g env.locals h (fun y => if stored.contains y then u y else m₀ y) → News g env.locals h [(a, listOf (List.toArray va) na), (b, listOf (List.toArray vb) nb)] →
      wpAny (model prog w) A (isTrue test env (eval test env)) (fun t s₂ => if t = true then wpAny (model prog w) A (execs body env) (TwoOver g env.locals a b stored m₀ R n { s with heap := h, toks := tk } Q) NoErr s₂ else Q .next s₂) NoErr { s with heap := h, toks := tk }) :
    wpAny (model prog w) A (exec (.While test body [] pos) env) Q NoErr s := by
  refine while_J (TwoJ a b stored m₀ R) n F (news_two N hma hmb) ⟨va, na, vb, nb, ca, cb, fun _ _ => rfl, rfl, hia, hib, h0⟩ fun n m nx h tk hJ F₁ N₁ => ?_
  obtain ⟨va, na, vb, nb, ca, cb, hm, rfl, hia, hib, hR⟩ := hJ
  have e : m = fun y => if stored.contains y then m y else m₀ y := by
    funext y
    cases h2 : stored.contains y with
    | true => rfl
    | false => exact hm y h2
  rw [e] at F₁
  exact turn n m va na vb nb ca cb h tk hR hia hib F₁ N₁
inductive OptJ (a : Addr) (xb : Str) (m₀ : Str → Option Value) (R : Nat → List Int → Option Nat → Prop) (k : Nat) (m : Str → Option Value) (nx : List (Addr × Obj)) : Prop
  | mk (va : List Value) (na : Nat) (ca : List Int) (o : Option Nat) (v : Value) (hv : m xb = some v) (hm : ∀ y, y ≠ xb → m y = m₀ y) (e : nx = [(a, listOf (List.toArray va) na)]) (hia : IntsAre va ca) (hp : ParV v o) (hR : R k ca o) : OptJ a xb m₀ R k m nx
noncomputable abbrev OptOver (g : Heap) (L a : Addr) (xb : Str) (m₀ : Str → Option Value) (R : Nat → List Int → Option Nat → Prop) (n : Nat) (s : Shared) (Q : Flow → Shared → Prop) (f : Flow) (s₂ : Shared) : Prop := WhOver g L (OptJ a xb m₀ R) n s Q f s₂
theorem opt_over {g : Heap} {L a : Addr} {xb : Str} {m₀ m' : Str → Option Value} {R : Nat → List Int → Option Nat → Prop} {n k : Nat} {s : Shared} {Q : Flow → Shared → Prop} {h' : Heap} {tk : Nat} {news : List (Addr × Obj)} {va : List Value} {na : Nat} {ca : List Int} {o : Option Nat} {v : Value}
    (F : Fr g L h' m') (N : News g L h' news) (ha : (a, listOf (List.toArray va) na) ∈ news) (hia : IntsAre va ca) (hv : m' xb = some v) (hp : ParV v o) (hm : ∀ y, y ≠ xb → m' y = m₀ y) (hk : k < n) (hR : R k ca o) :
    OptOver g L a xb m₀ R n s Q .next { s with heap := h', toks := tk } :=
  WhNx.mk h' tk m' _ k rfl F (fun p hp => by rw [List.mem_singleton.mp hp]; exact N _ ha) hk ⟨va, na, ca, o, v, hv, hm, rfl, hia, hp, hR⟩
theorem while_opt {prog : Program} {w : World} {A : Around} {s : Shared} {env : Env} {g : Heap} {Q : Flow → Shared → Prop} {test : PySem.Expr} {body : List Stmt} {pos : Pos} {m₀ : Str → Option Value} {news : List (Addr × Obj)} {a : Addr} {va : List Value} {na : Nat} {ca : List Int} {v : Value}
    (xa xb : Str) (R : Nat → List Int → Option Nat → Prop) (n : Nat) (o : Option Nat) (F : Fr g env.locals s.heap m₀) (N : News g env.locals s.heap news) (hxa : m₀ xa = some (.ref a)) (hxb : m₀ xb = some v)
    (hma : (a, listOf (List.toArray va) na) ∈ news) (hia : IntsAre va ca) (hp : ParV v o) (h0 : R n ca o)
    (turn : ∀ n va na ca o v h tk, R n ca o → IntsAre va ca → ParV v o → Fr g env.locals h (fun y => if y = xb then some v else m₀ y) → News g env.locals h [(a, listOf (List.toArray va) na)] →
      wpAny (model prog w) A (isTrue test env (eval test env)) (fun t s₂ => if t = true then wpAny (model prog w) A (execs body env) (OptOver g env.locals a xb m₀ R n { s with heap := h, toks := tk } Q) NoErr s₂ else Q .next s₂) NoErr { s with heap := h, toks := tk }) :
    wpAny (model prog w) A (exec (.While test body [] pos) env) Q NoErr s := by
  refine while_J (OptJ a xb m₀ R) n F (fun p hp => by rw [List.mem_singleton.mp hp]; exact N _ hma) ⟨va, na, ca, o, v, hxb, fun _ _ => rfl, rfl, hia, hp, h0⟩ fun n m nx h tk hJ F₁ N₁ => ?_
  obtain ⟨va, na, ca, o, v, hv, hm, rfl, hia, hp, hR⟩ := hJ
  have e : m = fun y => if y = xb then some v else m₀ y := by
    funext y
    by_cases h1 : y = xb
    · rw [if_pos h1, h1, hv]
    · rw [if_neg h1]; exact hm y h1
  rw [e] at F₁
  exact turn n va na ca o v h tk hR hia hp F₁ N₁
structure MarkV : Prop where
section
variable {prog : Program} {w : World} {A : Around} {E : Value → Shared → Prop} {s : Shared} {env : Env} {g : Heap} {x : Str} {body : List Stmt} {Q : Flow → Shared → Prop}
end
section
variable {prog : Program} {w : World} {A : Around} {E : Value → Shared → Prop} {s : Shared} {env : Env} {g : Heap} {x : Str} {body : List Stmt} {Q : Flow → Shared → Prop}
theorem for_grow2 {m₀ : Str → Option Value} {news : List (Addr × Obj)} {l a : Addr} {vs vs₀ : List Value} {ns : List Int} {n₀ nl : Nat} (rest : List (Addr × Obj)) (xa : Str) (stored : List Str) (acc : Nat → List Int)
    (hh : A.handled = none) (F : Fr g env.locals s.heap m₀) (N : News g env.locals s.heap news) (hl : (l, listOf (List.toArray vs) nl) ∈ news) (hi : IntsAre vs ns) (hxa : m₀ xa = some (.ref a)) (ha : (a, listOf (List.toArray vs₀) n₀) ∈ news) (hr : ∀ q ∈ rest, q ∈ news) (hc : IntsAre vs₀ (acc 0))
    (turn : ∀ i k t (u : Str → Option Value) vs' n' h tk I oI, ns[i]? = some k → IntsAre vs' (acc i) → @Ne Nat a I → @Ne Nat l I → (∀ q ∈ rest, @Ne Nat q.1 I) →
      Fr g env.locals h (fun y => if y = x then some (.int k t) else if stored.contains y then u y else m₀ y) → News g env.locals h ((I, oI) :: (a, listOf (List.toArray vs') n') :: (l, listOf (List.toArray vs) nl) :: rest) →
      wpAny (model prog w) A (execs body env) (TurnOver g env.locals I oI (GrowJ x stored m₀ a ((l, listOf (List.toArray vs) nl) :: rest) (acc (i + 1))) { s with heap := h, toks := tk } Q) E { s with heap := h, toks := tk })
    (done : ∀ (u : Str → Option Value) vs' n' h tk, IntsAre vs' (acc ns.length) → Fr g env.locals h (fun y => if y = x then u y else if stored.contains y then u y else m₀ y) → News g env.locals h ((a, listOf (List.toArray vs') n') :: (l, listOf (List.toArray vs) nl) :: rest) → Q .next { s with heap := h, toks := tk }) :
    wpAny (model prog w) A (pyIter (.ref l)) (fun it s₂ => LoopAtV prog w A g env x body Q E it s₂) E s := by
  have N' : News g env.locals s.heap ((a, listOf (List.toArray vs₀) n₀) :: (l, listOf (List.toArray vs) nl) :: rest) := fun p hp => by
    rcases List.mem_cons.mp hp with rfl | hp
    · exact N _ ha
    · rcases List.mem_cons.mp hp with rfl | hp
      · exact N _ hl
      · exact N _ (hr p hp)
  refine for_grow stored acc hh (News.isList N hl) (News.ne N hl) hi F N' hc (.inr ⟨_, .head _⟩) ?_ done
  intro i k t u vs' n' h tk I oI hk hi' hne hrI F₁ N₁
  exact turn i k t u vs' n' h tk I oI hk hi' hne (hrI _ (.head _)) (fun q hq => hrI q (.tail _ hq)) F₁ N₁
end
example : True := by w_top off; trivial
theorem list_snoc {α : Type} (l : List α) : l = [] ∨ ∃ p x, l = p ++ [x] := by
  rcases List.eq_nil_or_concat l with h | ⟨p, x, h⟩
  · exact .inl h
  · exact .inr ⟨p, x, by rw [h, List.concat_eq_append]⟩
theorem nat_append (a b : List Nat) : nat (a ++ b) = nat a ++ nat b := List.map_append ..
theorem nat_reverse (a : List Nat) : nat a.reverse = (nat a).reverse := List.map_reverse ..
theorem nat_get {l : List Nat} {i : Nat} {k : Int} (h : (nat l)[i]? = some k) : ∃ j, l[i]? = some j ∧ k = (j : Int) := by
  unfold nat at h
  rw [List.getElem?_map] at h
  cases q : l[i]? with
  | none => rw [q] at h; cases h
  | some j => rw [q] at h; cases h; exact ⟨j, rfl, rfl⟩
theorem take_flatMap {α β : Type} (l : List α) (f : α → List β) {i : Nat} {j : α} (h : l[i]? = some j) : (l.take (i + 1)).flatMap f = (l.take i).flatMap f ++ f j := by
  rw [List.take_add_one, h]
  simp
noncomputable def sAttr : Str := Str.ofString "attribute"
noncomputable def sNs : Str := Str.ofString "namespace"
noncomputable def beside (T : List Row) (i : Nat) : Bool := [Str.ofString "attribute", Str.ofString "namespace"].any fun x => x == kd T i
structure WF (T : List Row) : Prop where
  par_lt : ∀ i p, pa T i = some p → p < i
  ch_ok : ∀ i c, c ∈ ch T i → i < c ∧ c < T.length ∧ pa T c = some i ∧ beside T c = false
  at_ok : ∀ i c, c ∈ atl T i → i < c ∧ c < T.length ∧ pa T c = some i ∧ kd T c = Str.ofString "attribute"
  ns_ok : ∀ i c, c ∈ nsl T i → i < c ∧ c < T.length ∧ pa T c = some i ∧ kd T c = Str.ofString "namespace"
  par_ch : ∀ i p, pa T i = some p → beside T i = false → i ∈ ch T p
  par_at : ∀ i p, pa T i = some p → kd T i = Str.ofString "attribute" → i ∈ atl T p
  par_ns : ∀ i p, pa T i = some p → kd T i = Str.ofString "namespace" → i ∈ nsl T p
  ch_nd : ∀ i, (ch T i).Nodup
  at_nd : ∀ i, (atl T i).Nodup
  ns_nd : ∀ i, (nsl T i).Nodup
  bes_par : ∀ i, beside T i = true → ∃ p, pa T i = some p
  bes_ch : ∀ i, beside T i = true → ch T i = []
  el_at : ∀ i, kd T i ≠ Str.ofString "element" → atl T i = []
  el_ns : ∀ i, kd T i ≠ Str.ofString "element" → nsl T i = []
  uri : ∀ i, ur T i = Str.ofString ""
  small : T.length ≤ 20
section
variable {T : List Row}
theorem rw_out {i : Nat} (h : T.length ≤ i) : rw T i = dft := by
  unfold rw; rw [List.getD_eq_getElem?_getD, List.getElem?_eq_none h]; rfl
theorem ch_out {i : Nat} (h : T.length ≤ i) : ch T i = [] := by unfold ch; rw [rw_out h]; rfl
theorem pa_out {i : Nat} (h : T.length ≤ i) : pa T i = none := by unfold pa; rw [rw_out h]; rfl
theorem WF.par_len (W : WF T) {i p : Nat} (h : pa T i = some p) : i < T.length ∧ p < T.length := by
  have h1 := W.par_lt i p h
  by_cases q : i < T.length
  · exact ⟨q, by omega⟩
  · rw [pa_out (by k_extra "om")] at h; cases h
noncomputable def preF (T : List Row) : Nat → Nat → List Nat
  | 0, i => [i]
  | n + 1, i => i :: (ch T i).flatMap (preF T n)
@[irreducible] noncomputable def pre (T : List Row) (i : Nat) : List Nat := preF T T.length i
theorem preF_nil {i : Nat} (h : ch T i = []) : ∀ n, preF T n i = [i]
  | 0 => rfl
  | n + 1 => by unfold preF; rw [h]; rfl
theorem preF_stable (W : WF T) : ∀ n m i, T.length - i ≤ n → T.length - i ≤ m → preF T n i = preF T m i
  | 0, m, i, h, _ => by
    have e : ch T i = [] := ch_out (by k_extra "om")
    rw [preF_nil e, preF_nil e]
  | n + 1, 0, i, _, h => by
    have e : ch T i = [] := ch_out (by k_extra "om")
    rw [preF_nil e, preF_nil e]
  | n + 1, m + 1, i, h1, h2 => by
    unfold preF
    congr 1
    rw [List.flatMap_def, List.flatMap_def]
    congr 1
    apply List.map_congr_left
    intro c hc
    have := W.ch_ok i c hc
    exact preF_stable W n m c (by k_extra "om") (by k_extra "om")
theorem pre_eq (W : WF T) (i : Nat) : pre T i = i :: (ch T i).flatMap (pre T) := by
  have e : pre T = preF T T.length := by funext j; unfold pre; rfl
  rw [e]
  exact (preF_stable W T.length (T.length + 1) i (by k_extra "om") (by k_extra "om")).trans rfl
@[irreducible] noncomputable def desc (T : List Row) (i : Nat) : List Nat := (ch T i).flatMap (pre T)
noncomputable def ancF (T : List Row) : Nat → Nat → List Nat
  | 0, _ => []
  | n + 1, i => match pa T i with
    | none => []
    | some p => p :: ancF T n p
@[irreducible] noncomputable def anc (T : List Row) (i : Nat) : List Nat := ancF T i i
noncomputable def ancO (T : List Row) : Option Nat → List Nat
  | none => []
  | some p => p :: anc T p
theorem ancF_stable (W : WF T) : ∀ n m i, i ≤ n → i ≤ m → ancF T n i = ancF T m i
  | 0, m, i, h, _ => by
    have e : pa T i = none := by
      cases q : pa T i with
      | none => rfl
      | some p => have := W.par_lt i p q; omega
    cases m with
    | zero => rfl
    | succ m => unfold ancF; rw [e]
  | n + 1, 0, i, _, h => by
    have e : pa T i = none := by
      cases q : pa T i with
      | none => rfl
      | some p => have := W.par_lt i p q; omega
    unfold ancF; rw [e]
  | n + 1, m + 1, i, h1, h2 => by
    unfold ancF
    cases q : pa T i with
    | none => rfl
    | some p =>
      have := W.par_lt i p q
      dsimp only
      rw [ancF_stable W n m p (by k_extra "om") (by k_extra "om")]
theorem anc_eq (W : WF T) (i : Nat) : anc T i = ancO T (pa T i) := by
  have e := ancF_stable W i (i + 1) i (Nat.le_refl _) (by k_extra "om")
  unfold anc
  rw [e]
  unfold ancF ancO
  cases q : pa T i with
  | none => rfl
  | some p =>
    have := W.par_lt i p q
    dsimp only
    rw [ancF_stable W i p p (by k_extra "om") (Nat.le_refl _)]; unfold anc; rfl
@[irreducible] noncomputable def sibs (T : List Row) (i : Nat) : List Nat := match pa T i with
  | none => []
  | some p => if beside T i then [] else ch T p
@[irreducible] noncomputable def sibA (T : List Row) (i : Nat) : List Nat := ((sibs T i).take ((sibs T i).idxOf i)).reverse
@[irreducible] noncomputable def sibB (T : List Row) (i : Nat) : List Nat := (sibs T i).drop ((sibs T i).idxOf i + 1)
@[irreducible] noncomputable def up (T : List Row) (i : Nat) : Nat := if beside T i then (pa T i).getD 0 else i
@[irreducible] noncomputable def fol (T : List Row) (i : Nat) : List Nat :=
  (if beside T i then desc T (up T i) else []) ++ (up T i :: anc T (up T i)).flatMap fun h => (sibB T h).flatMap (pre T)
@[irreducible] noncomputable def prc (T : List Row) (i : Nat) : List Nat := (up T i :: anc T (up T i)).flatMap fun h => (sibA T h).flatMap fun x => (pre T x).reverse
end
theorem nodup_len : ∀ (n : Nat) (l : List Nat), l.Nodup → (∀ x ∈ l, x < n) → l.length ≤ n
  | 0, l, _, h => by
    cases l with
    | nil => exact Nat.le_refl _
    | cons x r => exact absurd (h x (.head _)) (Nat.not_lt_zero _)
  | n + 1, l, hn, h => by
    by_cases q : n ∈ l
    · have h1 := nodup_len n (l.erase n) (hn.erase n) (fun x hx => by
        have h2 := (List.Nodup.mem_erase_iff hn).mp hx
        have := h x h2.2
        have := h2.1
        omega)
      have h2 := List.length_erase_of_mem q
      have h3 := List.length_pos_of_mem q
      omega
    · have := nodup_len n l hn (fun x hx => by
        have h1 := h x hx
        have h2 : x ≠ n := fun e => q (e ▸ hx)
        omega)
      omega
example : True := by w_top off; trivial
section
variable {T : List Row}
theorem anc_lt (W : WF T) : ∀ n i, i ≤ n → ∀ j ∈ anc T i, j < i
  | 0, i, h, j, hj => by
    rw [anc_eq W] at hj
    cases q : pa T i with
    | none => rw [q] at hj; exact nomatch hj
    | some p => have := W.par_lt i p q; omega
  | n + 1, i, h, j, hj => by
    rw [anc_eq W] at hj
    cases q : pa T i with
    | none => rw [q] at hj; exact nomatch hj
    | some p =>
      have h1 := W.par_lt i p q
      rw [q] at hj
      rcases List.mem_cons.mp hj with rfl | hj
      · exact h1
      · have := anc_lt W n p (by k_extra "om") j hj; omega
theorem anc_lt' (W : WF T) {i j : Nat} (h : j ∈ anc T i) : j < i := anc_lt W i i (Nat.le_refl _) j h
theorem anc_trans (W : WF T) : ∀ n i, i ≤ n → ∀ j k, j ∈ anc T i → k ∈ anc T j → k ∈ anc T i
  | 0, i, h, j, k, hj, _ => by have := anc_lt' W hj; omega
  | n + 1, i, h, j, k, hj, hk => by
    rw [anc_eq W] at hj ⊢
    cases q : pa T i with
    | none => rw [q] at hj; exact nomatch hj
    | some p =>
      have h1 := W.par_lt i p q
      rw [q] at hj
      rcases List.mem_cons.mp hj with rfl | hj
      · exact .tail _ hk
      · exact .tail _ (anc_trans W n p (by k_extra "om") j k hj hk)
theorem anc_line (W : WF T) : ∀ n i, i ≤ n → ∀ x y, x ∈ i :: anc T i → y ∈ i :: anc T i → x = y ∨ y ∈ anc T x ∨ x ∈ anc T y
  | 0, i, h, x, y, hx, hy => by
    have hn : anc T i = [] := by
      cases e : anc T i with
      | nil => rfl
      | cons a r => have := anc_lt' W (show a ∈ anc T i by rw [e]; exact .head _); omega
    rw [hn] at hx hy
    exact .inl ((List.mem_singleton.mp hx).trans (List.mem_singleton.mp hy).symm)
  | n + 1, i, h, x, y, hx, hy => by
    rcases List.mem_cons.mp hx with rfl | hx
    · rcases List.mem_cons.mp hy with rfl | hy
      · exact .inl rfl
      · exact .inr (.inl hy)
    · rcases List.mem_cons.mp hy with rfl | hy
      · exact .inr (.inr hx)
      · rw [anc_eq W] at hx hy
        cases q : pa T i with
        | none => rw [q] at hx; exact nomatch hx
        | some p =>
          have h1 := W.par_lt i p q
          rw [q] at hx hy
          exact anc_line W n p (by k_extra "om") x y hx hy
theorem mem_pre (W : WF T) : ∀ n i, T.length - i ≤ n → ∀ j ∈ pre T i, i = j ∨ (i ∈ anc T j ∧ j < T.length ∧ beside T j = false)
  | 0, i, h, j, hj => by
    rw [pre_eq W, ch_out (by k_extra "om")] at hj
    exact .inl (List.mem_singleton.mp hj).symm
  | n + 1, i, h, j, hj => by
    rw [pre_eq W] at hj
    rcases List.mem_cons.mp hj with rfl | hj
    · exact .inl rfl
    · obtain ⟨c, hc, hj⟩ := List.mem_flatMap.mp hj
      obtain ⟨h1, h2, h3, h4⟩ := W.ch_ok i c hc
      have hic : i ∈ anc T c := by rw [anc_eq W, h3]; exact .head _
      rcases mem_pre W n c (by k_extra "om") j hj with rfl | ⟨h5, h6, h7⟩
      · exact .inr ⟨hic, h2, h4⟩
      · exact .inr ⟨anc_trans W j j (Nat.le_refl _) c i h5 hic, h6, h7⟩
theorem mem_pre' (W : WF T) {i j : Nat} (h : j ∈ pre T i) : i = j ∨ (i ∈ anc T j ∧ j < T.length ∧ beside T j = false) := mem_pre W _ i (Nat.le_refl _) j h
theorem pre_lt (W : WF T) {i j : Nat} (hi : i < T.length) (h : j ∈ pre T i) : j < T.length ∧ i ≤ j := by
  rcases mem_pre' W h with rfl | ⟨h1, h2, _⟩
  · exact ⟨hi, Nat.le_refl _⟩
  · exact ⟨h2, Nat.le_of_lt (anc_lt' W h1)⟩
theorem pre_nd (W : WF T) : ∀ n i, T.length - i ≤ n → (pre T i).Nodup
  | 0, i, h => by
    rw [pre_eq W, ch_out (by k_extra "om")]
    simp
  | n + 1, i, h => by
    rw [pre_eq W]
    refine List.nodup_cons.mpr ⟨fun hm => ?_, ?_⟩
    · obtain ⟨c, hc, hj⟩ := List.mem_flatMap.mp hm
      obtain ⟨h1, h2, h3, h4⟩ := W.ch_ok i c hc
      have := (pre_lt W h2 hj).2
      omega
    · unfold List.Nodup
      rw [List.pairwise_flatMap]
      refine ⟨fun c hc => ?_, ?_⟩
      · obtain ⟨h1, h2, h3, h4⟩ := W.ch_ok i c hc
        exact pre_nd W n c (by k_extra "om")
      · have hnd := W.ch_nd i
        unfold List.Nodup at hnd
        refine List.Pairwise.imp_of_mem ?_ hnd
        intro c1 c2 hc1 hc2 hne x hx y hy e
        subst e
        obtain ⟨a1, a2, a3, a4⟩ := W.ch_ok i c1 hc1
        obtain ⟨b1, b2, b3, b4⟩ := W.ch_ok i c2 hc2
        have e1 : anc T c1 = i :: anc T i := by rw [anc_eq W, a3]; rfl
        have e2 : anc T c2 = i :: anc T i := by rw [anc_eq W, b3]; rfl
        have m1 : c1 ∈ x :: anc T x := by
          rcases mem_pre' W hx with rfl | ⟨h, _⟩
          · exact .head _
          · exact .tail _ h
        have m2 : c2 ∈ x :: anc T x := by
          rcases mem_pre' W hy with rfl | ⟨h, _⟩
          · exact .head _
          · exact .tail _ h
        rcases anc_line W x x (Nat.le_refl _) c1 c2 m1 m2 with e | e | e
        · exact hne e
        · rw [e1] at e
          rcases List.mem_cons.mp e with e | e
          · omega
          · have := anc_lt' W e; omega
        · rw [e2] at e
          rcases List.mem_cons.mp e with e | e
          · omega
          · have := anc_lt' W e; omega
theorem pre_nd' (W : WF T) (i : Nat) : (pre T i).Nodup := pre_nd W _ i (Nat.le_refl _)
theorem pre_len (W : WF T) {i : Nat} (hi : i < T.length) : (pre T i).length ≤ 20 :=
  Nat.le_trans (nodup_len _ _ (pre_nd' W i) fun x hx => (pre_lt W hi hx).1) W.small
theorem desc_len (W : WF T) {i : Nat} (hi : i < T.length) : (desc T i).length ≤ 20 := by
  have := pre_len W hi
  rw [pre_eq W] at this
  unfold desc
  exact Nat.le_of_succ_le this
theorem anc_nd (W : WF T) : ∀ n i, i ≤ n → (anc T i).Nodup
  | 0, i, h => by
    have hn : anc T i = [] := by
      cases e : anc T i with
      | nil => rfl
      | cons a r => have := anc_lt' W (show a ∈ anc T i by rw [e]; exact .head _); omega
    rw [hn]; exact List.nodup_nil
  | n + 1, i, h => by
    rw [anc_eq W]
    cases q : pa T i with
    | none => exact List.nodup_nil
    | some p =>
      have h1 := W.par_lt i p q
      refine List.nodup_cons.mpr ⟨fun hm => ?_, anc_nd W n p (by k_extra "om")⟩
      have := anc_lt' W hm; omega
theorem anc_len (W : WF T) {i : Nat} (hi : i < T.length) : (anc T i).length ≤ 20 :=
  Nat.le_trans (nodup_len _ _ (anc_nd W i i (Nat.le_refl _)) fun x hx => Nat.lt_trans (anc_lt' W hx) hi) W.small
theorem anc_in (W : WF T) {i j : Nat} (hi : i < T.length) (hj : j ∈ anc T i) : j < T.length := Nat.lt_trans (anc_lt' W hj) hi
theorem ch_len (W : WF T) (i : Nat) : (ch T i).length ≤ 20 :=
  Nat.le_trans (nodup_len _ _ (W.ch_nd i) fun x hx => (W.ch_ok i x hx).2.1) W.small
theorem flat_len {f : Nat → List Nat} {B : Nat} : ∀ (l : List Nat), (∀ x ∈ l, (f x).length ≤ B) → (l.flatMap f).length ≤ B * l.length
  | [], _ => Nat.zero_le _
  | x :: r, h => by
    have h1 := flat_len r fun y hy => h y (.tail _ hy)
    have h2 := h x (.head _)
    rw [List.flatMap_cons, List.length_append, List.length_cons, Nat.mul_succ]; omega
theorem pres_len (W : WF T) {l : List Nat} (h : ∀ x ∈ l, x < T.length) : (l.flatMap (pre T)).length ≤ 20 * l.length := flat_len l fun x hx => pre_len W (h x hx)
end
example : True := by w_top off; trivial
example : True := by
  (k_with "lt" => first | with_reducible assumption | omega)
  (k_with "call ref" => (k_here; (with_reducible show wpAny _ _ (call (Value.ref 347) _) _ _ _); k_dflt (refine' kind_U (by with_reducible assumption) (by k_asm) (by k_asm) (by with_reducible assumption) (by k_extra "lt") (by k_extra "om") (by k_extra "om") ?_); intro _ _ _ _ _; (try k_sweep)))
  (k_with "call ref" => (k_here; (with_reducible show wpAny _ _ (call (Value.ref 354) _) _ _ _); k_dflt (refine' name_U (by with_reducible assumption) (by k_asm) (by k_asm) (by with_reducible assumption) (by k_extra "lt") (by k_extra "om") (by k_extra "om") ?_); intro _ _ _ _ _; (try k_sweep)))
  (k_with "call ref" => (k_here; (with_reducible show wpAny _ _ (call (Value.ref 361) _) _ _ _); k_dflt (refine' uri_U (by with_reducible assumption) (by k_asm) (by k_asm) (by with_reducible assumption) (by k_extra "lt") (by k_extra "om") (by k_extra "om") ?_); intro _ _ _ _ _; (try k_sweep)))
  (k_with "call ref" => (k_here; (with_reducible show wpAny _ _ (call (Value.ref 368) _) _ _ _); k_dflt (refine' local_U (by with_reducible assumption) (by k_asm) (by k_asm) (by with_reducible assumption) (by k_extra "lt") (by k_extra "om") (by k_extra "om") ?_); intro _ _ _ _ _; (try k_sweep)))
  (k_with "call ref" => (k_here; (with_reducible show wpAny _ _ (call (Value.ref 382) _) _ _ _); k_dflt (refine' parent_U (by with_reducible assumption) (by k_asm) (by k_asm) (by with_reducible assumption) (by k_extra "lt") (by k_extra "om") (by k_extra "om") ?_ ?_); (first | (intro _ _ _ _ _; (try k_sweep)) | skip); rotate_left; (intro _ _ _ _ _ _ _; (try k_sweep)); rotate_left))
  (k_with "call ref" => (k_here; (with_reducible show wpAny _ _ (call (Value.ref 389) _) _ _ _); k_dflt (refine' children_U (by with_reducible assumption) (by k_asm) (by k_asm) (by with_reducible assumption) (by k_extra "lt") (by k_extra "om") (by k_extra "om") ?_); intro _ _ _ _ _ _ _ _ _ _; (try k_sweep); (try k_extra "nne")))
  (k_with "call ref" => (k_here; (with_reducible show wpAny _ _ (call (Value.ref 396) _) _ _ _); k_dflt (refine' attributes_U (by with_reducible assumption) (by k_asm) (by k_asm) (by with_reducible assumption) (by k_extra "lt") (by k_extra "om") (by k_extra "om") ?_); intro _ _ _ _ _ _ _ _ _ _; (try k_sweep); (try k_extra "nne")))
  (k_with "call ref" => (k_here; (with_reducible show wpAny _ _ (call (Value.ref 403) _) _ _ _); k_dflt (refine' namespaces_U (by with_reducible assumption) (by k_asm) (by k_asm) (by with_reducible assumption) (by k_extra "lt") (by k_extra "om") (by k_extra "om") ?_); intro _ _ _ _ _ _ _ _ _ _; (try k_sweep); (try k_extra "nne")))
  (k_with "getMethod ref" => (k_here; (with_reducible show wpAny _ _ (getMethod (Value.ref _) (Str.ofString _) _) _ _ _); k_dflt (refine' tree_meth (by k_asm) (by k_asm) (by with_reducible assumption) (by k_is) (by k_is) (by k_is) (by rfl) ?_; k_whole)))
  (k_with "sub" => ((repeat (refine List.forall_mem_cons.mpr ⟨by k_mem, ?_⟩)); exact List.forall_mem_nil _))
  (k_with "same0" => (intro z h3; (simp only [List.contains_cons, List.contains_nil, Bool.or_false, Bool.or_eq_false_iff, beq_eq_false_iff_ne, ne_eq] at h3); (simp [h3]; done)))
  (k_with "same2" => (unfold SameBut; intro z h1 h3; first | (simp [h1]; done) | ((simp only [List.contains_cons, List.contains_nil, Bool.or_false, Bool.or_eq_false_iff, beq_eq_false_iff_ne, ne_eq] at h3); (simp [h1, h3]; done))))
  (k_with "vlen" => (rw [IntsAre.length (by with_reducible assumption)]; k_extra "bd"))
  (k_with "call builtin:list.append" => (k_here; (with_reducible show wpAny _ _ (call (Value.builtin _) [Value.ref _, _]) _ _ _); (refine' append_v (by k_asm) (by k_asm) (by k_upd) (by k_extra "vlen") ?_); intro _ _ _; (try k_sweep)))
  (k_with "call builtin:list.extend" => (k_here; (with_reducible show wpAny _ _ (call (Value.builtin _) [Value.ref _, Value.ref _]) _ _ _); (refine' extend_v (by k_asm) (by k_asm) (by k_mem) _ rfl (by k_upd) (by ((try simp only [List.length_append, List.length_cons, List.length_nil]); (repeat (rw [IntsAre.length (by with_reducible assumption)])); k_extra "bd")) ?_); intro _ _ _; (try k_sweep)))
  (k_with "call builtin:list.pop" => (k_here; (with_reducible show wpAny _ _ (call (Value.builtin _) [Value.ref _]) _ _ _); (refine' pop_v (by k_asm) (by k_asm) (by k_upd) (by k_extra "vlen") ?_); intro _ _ _; (try k_sweep)))
  (k_with "compareOp NotEq ref ref" => (k_here; (with_reducible show wpAny _ _ (compareOp CmpOp.NotEq (Value.ref _) (Value.ref _)) _ _ _); (refine' ne_at (by is_list) (by is_list) (by l_ints) (by l_ints) (by ke_room) (by first | with_reducible assumption | (first | exact rfl | decide)) ?_)))
  (k_with "exec While Compare cons nil" => (k_here; refine stop_out ?_))
  (k_with "exec For Name Name cons nil" => (k_here; (with_unfolding_all refine' for_name (by assumption) (by exact rfl) (by exact rfl) ?_; k_whole)))
  (k_with "exec For Name Call cons nil" => (k_here; (with_unfolding_all refine' for_name (by assumption) (by exact rfl) (by exact rfl) ?_; k_whole)))
  (k_with "exec For Name BinOp cons nil" => (k_here; (with_unfolding_all refine' for_name (by assumption) (by exact rfl) (by exact rfl) ?_; k_whole)))
  (k_with "pyIter ref" => ((with_reducible show wpAny _ _ (pyIter (Value.ref _)) (fun it s₂ => LoopAtV _ _ _ _ _ _ _ _ _ it s₂) _ _); k_here; refine stop_out ?_))
  (k_with "call ref" => (k_here; (fail_if_success (fail_if_success (have zz : MarkV := by with_reducible assumption))); (with_reducible show wpAny _ _ (call (Value.ref 382) _) _ _ _); k_dflt (refine' parent_V (by with_reducible assumption) (by k_asm) (by k_asm) (by with_reducible assumption) (by k_extra "lt") (by k_extra "om") (by k_extra "om") ?_); intro _ _ _ _ _ _; (try k_sweep)))
  (k_with "call ref" => (k_here; (with_reducible show wpAny _ _ (call (Value.ref 382) _) _ _ _); k_dflt (refine' parent_0 (by with_reducible assumption) (by k_asm) (by k_asm) (by with_reducible assumption) (by k_extra "lt") (by k_extra "om") (by k_extra "om") (by with_reducible assumption) ?_); intro _ _ _ _; (try k_sweep)))
  (k_with "call ref" => (k_here; (with_reducible show wpAny _ _ (call (Value.ref 382) _) _ _ _); k_dflt (refine' parent_1 (by with_reducible assumption) (by k_asm) (by k_asm) (by with_reducible assumption) (by k_extra "lt") (by k_extra "om") (by k_extra "om") (by with_reducible assumption) ?_); intro _ _ _ _ _; (try k_sweep)))
  (k_with "call builtin:list.index" => (k_here; (with_reducible show wpAny _ _ (call (Value.builtin _) [Value.ref _, Value.int _ _]) _ _ _); (refine' index_n (by is_list) (by with_reducible assumption) (by with_reducible assumption) (by k_extra "bd") (by with_reducible assumption) ?_); intro _ _))
  (k_with "subscriptTail Name Slice ref ref" => (k_here; (with_reducible show wpAny _ _ (subscriptTail _ (PySem.Expr.Slice none (some _) none _) (Value.ref _) (Value.ref _)) _ _ _); k_dflt (refine' kmk_slice_ints (by k_asm) (by k_asm) (by is_list) (by kmk_part) (by kmk_part) (by with_reducible assumption) (by exact kmk_upto (by with_reducible assumption) (by k_extra "om")) (by exact rfl) ?_ (by with_unfolding_all rfl) (by kmk_pure) (by (refine kmk_sz (by with_reducible assumption) ?_; refine bd_line ?_; k_extra "bd"))); intro _ _ _ _ _ _ _ hC'; clear hC'; intro _; (try k_extra "nlt"); (try k_sweep)))
  (k_with "subscriptTail Name Slice ref ref" => (k_here; (with_reducible show wpAny _ _ (subscriptTail _ (PySem.Expr.Slice (some _) none none _) (Value.ref _) (Value.ref _)) _ _ _); k_dflt (refine' kmk_slice_ints (by k_asm) (by k_asm) (by is_list) (by kmk_part) (by kmk_part) (by with_reducible assumption) (by exact kmk_from (by with_reducible assumption) (by k_extra "om")) (by exact rfl) ?_ (by with_unfolding_all rfl) (by kmk_pure) (by (refine kmk_sz (by with_reducible assumption) ?_; refine bd_line ?_; k_extra "bd"))); intro _ _ _ _ _ _ _ hC'; clear hC'; intro _; (try k_extra "nlt"); (try k_sweep)))
  (k_with "subscriptTail Name Slice ref ref" => (k_here; (with_reducible show wpAny _ _ (subscriptTail _ (PySem.Expr.Slice none none (some _) _) (Value.ref _) (Value.ref _)) _ _ _); k_dflt (refine' krv_ints (by k_asm) (by k_asm) (by is_list) (by exact IsPart.int _ _) (by with_reducible assumption) ?_ (by with_unfolding_all rfl) (by kmk_pure) (by (refine kmk_sz (by with_reducible assumption) ?_; refine bd_line ?_; k_extra "bd"))); intro _ _ _ _ _ _ _ hC'; clear hC'; (try k_extra "nlt"); (try k_sweep)))
  trivial
theorem is_beside_C {w : World} {A : Around} {s : Shared} {t : Addr} {T : List Row} {i : Nat} {tk : Tok}
   (H : At w A s.heap 8 90) (TT : TreeAt w s.heap t T) (hi : i < T.length) :
   wpAny (model prg w) A (call (.ref 72) [.ref t, .int (i : Int) tk]) (Back s fun v h' => v = .bool (beside T i)) NoErr s := by
  refine' enter (binds := [(Str.ofString "tree", .ref t), (Str.ofString "node", .int (i : Int) tk)]) H (by k_extra "om") (by k_extra "om") (by k_is) (by k_is) (BindsTo.of_eq rfl) (locs rfl) ?_ (by decide) rfl rfl rfl
  intro h₁ gn9 dr9 os9 A9 L9 tk9 pr9 loose9 mean9 mg9 mb9 F' N' X' T' C' hroom hun K9 hK9
  (try dsimp only)
  k_steps
  exact endK hK9 (by k_asm) rfl
theorem desc_step {T : List Row} (W : WF T) {D fo le : List Nat} {x : Nat} (h : fo ++ (le ++ [x]).reverse.flatMap (pre T) = D) :
    (fo ++ [x]) ++ (le ++ (ch T x).reverse).reverse.flatMap (pre T) = D ∧ ((le ++ (ch T x).reverse).reverse.flatMap (pre T)).length < ((le ++ [x]).reverse.flatMap (pre T)).length := by
  have e1 : (le ++ [x]).reverse.flatMap (pre T) = x :: ((ch T x).flatMap (pre T) ++ le.reverse.flatMap (pre T)) := by
    rw [List.reverse_append, List.reverse_singleton, List.singleton_append, List.flatMap_cons, pre_eq W x]; rfl
  have e2 : (le ++ (ch T x).reverse).reverse.flatMap (pre T) = (ch T x).flatMap (pre T) ++ le.reverse.flatMap (pre T) := by
    rw [List.reverse_append, List.reverse_reverse, List.flatMap_append]
  rw [e1] at h ⊢
  rw [e2]
  refine ⟨by rw [← h]; simp, by simp⟩
theorem len_flat {T : List Row} (W : WF T) (l : List Nat) : l.length ≤ (l.reverse.flatMap (pre T)).length := by
  have h : ∀ l : List Nat, l.length ≤ (l.flatMap (pre T)).length := by
    intro l
    induction l with
    | nil => exact Nat.le_refl _
    | cons x r ih =>
      rw [List.flatMap_cons, pre_eq W, List.length_append, List.length_cons, List.length_cons]; omega
  have := h l.reverse
  rwa [List.length_reverse] at this
theorem descendants_C {w : World} {A : Around} {s : Shared} {t : Addr} {T : List Row} {i : Nat} {tk : Tok}
   (H : At w A s.heap 8 200) (W : WF T) (TT : TreeAt w s.heap t T) (hi : i < T.length) :
   wpAny (model prg w) A (call (.ref 79) [.ref t, .int (i : Int) tk]) (Back s (ListOut s (nat (desc T i)))) NoErr s := by
  refine' enter (binds := [(Str.ofString "tree", .ref t), (Str.ofString "node", .int (i : Int) tk)]) H (by k_extra "om") (by k_extra "om") (by k_is) (by k_is) (BindsTo.of_eq rfl) (locs rfl) ?_ (by decide) rfl rfl rfl
  intro h₁ gn9 dr9 os9 A9 L9 tk9 pr9 loose9 mean9 mg9 mb9 F' N' X' T' C' hroom hun K9 hK9
  (try dsimp only)
  have hbc := ch_len W i
  have hbd := desc_len W hi
  k_steps
  rename Fr _ _ _ _ => F0
  rename News _ _ _ _ => N0
  refine Stop.in (while_two (Str.ofString "found") (Str.ofString "left") [Str.ofString "here"] (fun n ca cb => ∃ fo le : List Nat, ca = nat fo ∧ cb = nat le ∧ fo ++ le.reverse.flatMap (pre T) = desc T i ∧ (∀ c ∈ le, c < T.length) ∧ n = (le.reverse.flatMap (pre T)).length)
    _ F0 N0 rfl rfl (by k_mem) (by k_mem) .nil (by assumption) ⟨[], (ch T i).reverse, rfl, (nat_reverse _).symm, by rw [List.reverse_reverse]; unfold desc; rfl, fun c hc => (W.ch_ok i c (List.mem_reverse.mp hc)).2.1, rfl⟩ ?_)
  clear F0 N0
  rintro n u va na vb nb ca cb h tk ⟨fo, le, rfl, rfl, hsum, hlt, rfl⟩ hia hib F1 N1
  have hl1 := congrArg List.length hsum
  have hl2 := len_flat W le
  rw [List.length_append] at hl1
  have hb1 : (nat fo).length ≤ 20 := by rw [nat_len]; omega
  refine hidP fun P9 k9 => ?_
  rcases list_snoc le with rfl | ⟨le', x, rfl⟩ <;> (refine k9 ?_; clear k9 P9)
  · have hne : (!decide (nat [] = ([] : List Int))) = false := rfl
    have hfo : fo = desc T i := by simpa using hsum
    k_steps
    refine endK hK9 (by k_asm) ?_
    rw [← hfo]
    exact ⟨_, _, _, rfl, News.fresh (by k_asm) (by k_mem), News.get (by k_asm) (by k_mem), hia⟩
  · have hne : (!decide (nat (le' ++ [x]) = ([] : List Int))) = true := by simp [nat]
    refine hidP fun P9 k9 => ?_
    obtain ⟨vc, t9, rfl, hic⟩ := ints_snoc (c := nat le') (x := (x : Int)) (by rw [nat_append] at hib; exact hib)
    have hx : x < T.length := hlt x (by simp)
    have hb2 : (nat le').length ≤ 20 := by rw [nat_len]; rw [List.length_append] at hl2; omega
    have hb3 := ch_len W x
    obtain ⟨hs1, hs2⟩ := desc_step W hsum
    refine k9 ?_; clear k9 P9
    k_steps
    refine two_over (by k_asm) (by k_asm) (by k_mem) (by k_mem) (hia.append (.cons _ _ .nil)) (hic.append (by assumption)) ?_ hs2
      ⟨fo ++ [x], le' ++ (ch T x).reverse, by rw [nat_append]; rfl, by rw [nat_append, nat_reverse], hs1, ?_, rfl⟩
    · k_extra "same0"
    · intro c hc
      refine hidP fun P9 k9 => ?_
      rcases List.mem_append.mp hc with hc | hc <;> (refine k9 ?_; clear k9 P9)
      · exact hlt c (List.mem_append_left _ hc)
      · exact (W.ch_ok x c (List.mem_reverse.mp hc)).2.1
example : True := by w_top off; trivial
theorem ancestors_C {w : World} {A : Around} {s : Shared} {t : Addr} {T : List Row} {i : Nat} {tk : Tok}
   (H : At w A s.heap 8 200) (W : WF T) (TT : TreeAt w s.heap t T) (hi : i < T.length) :
   wpAny (model prg w) A (call (.ref 86) [.ref t, .int (i : Int) tk]) (Back s (ListOut s (nat (anc T i)))) NoErr s := by
  refine' enter (binds := [(Str.ofString "tree", .ref t), (Str.ofString "node", .int (i : Int) tk)]) H (by k_extra "om") (by k_extra "om") (by k_is) (by k_is) (BindsTo.of_eq rfl) (locs rfl) ?_ (by decide) rfl rfl rfl
  intro h₁ gn9 dr9 os9 A9 L9 tk9 pr9 loose9 mean9 mg9 mb9 F' N' X' T' C' hroom hun K9 hK9
  (try dsimp only)
  have hal := anc_len W hi
  have mV : MarkV := ⟨⟩
  k_steps
  rename Fr _ _ _ _ => F0
  rename News _ _ _ _ => N0
  refine Stop.in (while_opt (Str.ofString "found") (Str.ofString "here") (fun n ca o => ∃ fo : List Nat, ca = nat fo ∧ fo ++ ancO T o = anc T i ∧ (∀ p, o = some p → p < T.length) ∧ n = (ancO T o).length)
    _ (pa T i) F0 N0 rfl rfl (by k_mem) .nil (by assumption) ⟨[], rfl, (anc_eq W i).symm, fun p hp => (W.par_len hp).2, rfl⟩ ?_)
  clear F0 N0
  rintro n va na ca o v h tk ⟨fo, rfl, hsum, hlt, rfl⟩ hia hp F1 N1
  have hl1 := congrArg List.length hsum
  rw [List.length_append] at hl1
  have hb1 : (nat fo).length ≤ 20 := by rw [nat_len]; omega
  cases o with
  | none =>
    refine hidP fun P9 k9 => ?_
    obtain rfl : v = .none := hp
    refine k9 ?_; clear k9 P9
    have hfo : fo = anc T i := by simpa [ancO] using hsum
    k_steps
    refine endK hK9 (by k_asm) ?_
    rw [← hfo]
    exact ⟨_, _, _, rfl, News.fresh (by k_asm) (by k_mem), News.get (by k_asm) (by k_mem), hia⟩
  | some p =>
    refine hidP fun P9 k9 => ?_
    obtain ⟨u, rfl⟩ := hp
    refine k9 ?_; clear k9 P9
    have hp := hlt p rfl
    k_steps
    refine opt_over (by k_asm) (by k_asm) (by k_mem) (hia.append (.cons _ _ .nil)) rfl (by assumption) ?_ ?_ ⟨fo ++ [p], by rw [nat_append]; rfl, ?_, fun q hq => (W.par_len hq).2, rfl⟩
    · intro y hy; simp [hy]
    · show (ancO T (pa T p)).length < (p :: anc T p).length
      rw [anc_eq W p, List.length_cons]; omega
    · rw [← hsum]
      show _ = fo ++ (p :: anc T p)
      rw [anc_eq W p]; simp
theorem descendants_U {w : World} {A : Around} {s : Shared} {g : Heap} {L : Addr} {m : Str → Option Value} {news : List (Addr × Obj)} {t : Addr} {T : List Row} {i : Nat} {tk : Tok} {dp un : Nat} {Q E : Value → Shared → Prop}
   (C : Callee w A g L dp un) (F : Fr g L s.heap m) (N : News g L s.heap news) (W : WF T) (TT : TreeAt w g t T) (hi : i < T.length) (hd : 8 ≤ dp) (hu : 200 ≤ un)
   (k : ∀ a vs n h' tk', Fr g L h' m → News g L h' ((a, listOf (List.toArray vs) n) :: news) → (∀ p ∈ news, @Ne Nat p.1 a) → IntsAre vs (nat (desc T i)) → (nat (desc T i)).length ≤ 10000 → Q (.ref a) { s with heap := h', toks := tk' }) :
   wpAny (model prg w) A (call (.ref 79) [.ref t, .int (i : Int) tk]) Q E s :=
  useL (descendants_C (C.at F hd hu) W (TT.keep F.keep) hi) F N fun a vs n h' tk' F' N' l1 hi' => k a vs n h' tk' F' N' l1 hi' (by rw [nat_len]; have := desc_len W hi; omega)
theorem ancestors_U {w : World} {A : Around} {s : Shared} {g : Heap} {L : Addr} {m : Str → Option Value} {news : List (Addr × Obj)} {t : Addr} {T : List Row} {i : Nat} {tk : Tok} {dp un : Nat} {Q E : Value → Shared → Prop}
   (C : Callee w A g L dp un) (F : Fr g L s.heap m) (N : News g L s.heap news) (W : WF T) (TT : TreeAt w g t T) (hi : i < T.length) (hd : 8 ≤ dp) (hu : 200 ≤ un)
   (k : ∀ a vs n h' tk', Fr g L h' m → News g L h' ((a, listOf (List.toArray vs) n) :: news) → (∀ p ∈ news, @Ne Nat p.1 a) → IntsAre vs (nat (anc T i)) → (nat (anc T i)).length ≤ 10000 → Q (.ref a) { s with heap := h', toks := tk' }) :
   wpAny (model prg w) A (call (.ref 86) [.ref t, .int (i : Int) tk]) Q E s :=
  useL (ancestors_C (C.at F hd hu) W (TT.keep F.keep) hi) F N fun a vs n h' tk' F' N' l1 hi' => k a vs n h' tk' F' N' l1 hi' (by rw [nat_len]; have := anc_len W hi; omega)
example : True := by w_top off; trivial
theorem is_beside_U {w : World} {A : Around} {s : Shared} {g : Heap} {L : Addr} {m : Str → Option Value} {news : List (Addr × Obj)} {t : Addr} {T : List Row} {i : Nat} {tk : Tok} {dp un : Nat} {Q E : Value → Shared → Prop}
   (C : Callee w A g L dp un) (F : Fr g L s.heap m) (N : News g L s.heap news) (TT : TreeAt w g t T) (hi : i < T.length) (hd : 8 ≤ dp) (hu : 90 ≤ un)
   (k : ∀ h' tk', Fr g L h' m → News g L h' news → Q (.bool (beside T i)) { s with heap := h', toks := tk' }) :
   wpAny (model prg w) A (call (.ref 72) [.ref t, .int (i : Int) tk]) Q E s :=
  use (is_beside_C (C.at F hd hu) (TT.keep F.keep) hi) F N fun v h' tk' F' N' _ e => by subst e; exact k h' tk' F' N'
example : True := by
  (k_with "call ref" => (k_here; (with_reducible show wpAny _ _ (call (Value.ref 72) _) _ _ _); k_dflt (refine' is_beside_U (by with_reducible assumption) (by k_asm) (by k_asm) (by with_reducible assumption) (by k_extra "lt") (by k_extra "om") (by k_extra "om") ?_); intro _ _ _ _; (try k_sweep)))
  trivial
theorem siblings_ahead_C {w : World} {A : Around} {s : Shared} {t : Addr} {T : List Row} {i : Nat} {tk : Tok}
   (H : At w A s.heap 12 300) (W : WF T) (TT : TreeAt w s.heap t T) (hi : i < T.length) :
   wpAny (model prg w) A (call (.ref 93) [.ref t, .int (i : Int) tk]) (Back s (ListOut s (nat (sibA T i)))) NoErr s := by
  refine' enter (binds := [(Str.ofString "tree", .ref t), (Str.ofString "node", .int (i : Int) tk)]) H (by k_extra "om") (by k_extra "om") (by k_is) (by k_is) (BindsTo.of_eq rfl) (locs rfl) ?_ (by decide) rfl rfl rfl
  intro h₁ gn9 dr9 os9 A9 L9 tk9 pr9 loose9 mean9 mg9 mb9 F' N' X' T' C' hroom hun K9 hK9
  (try dsimp only)
  cases hpa : pa T i with
  | none =>
    k_steps
    refine endK hK9 (by k_asm) ?_
    have e : sibA T i = [] := by simp [sibA, sibs, hpa]
    rw [e]
    exact ⟨_, [], _, rfl, News.fresh (by k_asm) (by k_mem), News.get (by k_asm) (by k_mem), .nil⟩
  | some p =>
    have hp := (W.par_len hpa).2
    have hbc := ch_len W p
    have hs64 : ∀ x ∈ ch T p, x < 64 := fun x hx => by have := (W.ch_ok p x hx).2.1; have := W.small; omega
    cases hbs : beside T i with
    | true =>
      k_steps
      refine endK hK9 (by k_asm) ?_
      have e : sibA T i = [] := by simp [sibA, sibs, hpa, hbs]
      rw [e]
      exact ⟨_, [], _, rfl, News.fresh (by k_asm) (by k_mem), News.get (by k_asm) (by k_mem), .nil⟩
    | false =>
      have hk := W.par_ch i p hpa hbs
      k_steps
      refine endK hK9 (by k_asm) ?_
      have e : nat (sibA T i) = (List.take (((ch T p).idxOf i : Nat) : Int).toNat (nat (ch T p))).reverse := by
        simp [sibA, sibs, hpa, hbs, nat]
      rw [e]
      exact ⟨_, _, _, rfl, News.fresh (by k_asm) (by k_mem), News.get (by k_asm) (by k_mem), by assumption⟩
theorem siblings_behind_C {w : World} {A : Around} {s : Shared} {t : Addr} {T : List Row} {i : Nat} {tk : Tok}
   (H : At w A s.heap 12 300) (W : WF T) (TT : TreeAt w s.heap t T) (hi : i < T.length) :
   wpAny (model prg w) A (call (.ref 100) [.ref t, .int (i : Int) tk]) (Back s (ListOut s (nat (sibB T i)))) NoErr s := by
  refine' enter (binds := [(Str.ofString "tree", .ref t), (Str.ofString "node", .int (i : Int) tk)]) H (by k_extra "om") (by k_extra "om") (by k_is) (by k_is) (BindsTo.of_eq rfl) (locs rfl) ?_ (by decide) rfl rfl rfl
  intro h₁ gn9 dr9 os9 A9 L9 tk9 pr9 loose9 mean9 mg9 mb9 F' N' X' T' C' hroom hun K9 hK9
  (try dsimp only)
  cases hpa : pa T i with
  | none =>
    k_steps
    refine endK hK9 (by k_asm) ?_
    have e : sibB T i = [] := by simp [sibB, sibs, hpa]
    rw [e]
    exact ⟨_, [], _, rfl, News.fresh (by k_asm) (by k_mem), News.get (by k_asm) (by k_mem), .nil⟩
  | some p =>
    have hp := (W.par_len hpa).2
    have hbc := ch_len W p
    have hs64 : ∀ x ∈ ch T p, x < 64 := fun x hx => by have := (W.ch_ok p x hx).2.1; have := W.small; omega
    cases hbs : beside T i with
    | true =>
      k_steps
      refine endK hK9 (by k_asm) ?_
      have e : sibB T i = [] := by simp [sibB, sibs, hpa, hbs]
      rw [e]
      exact ⟨_, [], _, rfl, News.fresh (by k_asm) (by k_mem), News.get (by k_asm) (by k_mem), .nil⟩
    | false =>
      have hk := W.par_ch i p hpa hbs
      k_steps
      refine endK hK9 (by k_asm) ?_
      have e : nat (sibB T i) = List.drop ((((ch T p).idxOf i : Nat) : Int) + 1).toNat (nat (ch T p)) := by
        simp [sibB, sibs, hpa, hbs, nat]
      rw [e]
      exact ⟨_, _, _, rfl, News.fresh (by k_asm) (by k_mem), News.get (by k_asm) (by k_mem), by assumption⟩
theorem sibs_len {T : List Row} (W : WF T) (i : Nat) : (sibs T i).length ≤ 20 := by
  unfold sibs
  cases pa T i with
  | none => exact Nat.zero_le _
  | some p =>
    dsimp only
    split
    · exact Nat.zero_le _
    · exact ch_len W p
theorem sibs_lt {T : List Row} (W : WF T) {i x : Nat} (h : x ∈ sibs T i) : x < T.length := by
  unfold sibs at h
  cases q : pa T i with
  | none => rw [q] at h; exact nomatch h
  | some p =>
    rw [q] at h
    dsimp only at h
    split at h
    · exact nomatch h
    · exact (W.ch_ok p x h).2.1
theorem sibA_len {T : List Row} (W : WF T) {i : Nat} (_ : i < T.length) : (sibA T i).length ≤ 20 := by
  have := sibs_len W i
  unfold sibA; rw [List.length_reverse, List.length_take]; omega
theorem sibB_len {T : List Row} (W : WF T) {i : Nat} (_ : i < T.length) : (sibB T i).length ≤ 20 := by
  have := sibs_len W i
  unfold sibB; rw [List.length_drop]; omega
theorem sibA_lt {T : List Row} (W : WF T) {i x : Nat} (h : x ∈ sibA T i) : x < T.length := by unfold sibA at h; exact sibs_lt W (List.mem_of_mem_take (List.mem_reverse.mp h))
theorem sibB_lt {T : List Row} (W : WF T) {i x : Nat} (h : x ∈ sibB T i) : x < T.length := by unfold sibB at h; exact sibs_lt W (List.mem_of_mem_drop h)
theorem siblings_ahead_U {w : World} {A : Around} {s : Shared} {g : Heap} {L : Addr} {m : Str → Option Value} {news : List (Addr × Obj)} {t : Addr} {T : List Row} {i : Nat} {tk : Tok} {dp un : Nat} {Q E : Value → Shared → Prop}
   (C : Callee w A g L dp un) (F : Fr g L s.heap m) (N : News g L s.heap news) (W : WF T) (TT : TreeAt w g t T) (hi : i < T.length) (hd : 12 ≤ dp) (hu : 300 ≤ un)
   (k : ∀ a vs n h' tk', Fr g L h' m → News g L h' ((a, listOf (List.toArray vs) n) :: news) → (∀ p ∈ news, @Ne Nat p.1 a) → IntsAre vs (nat (sibA T i)) → (nat (sibA T i)).length ≤ 10000 → Q (.ref a) { s with heap := h', toks := tk' }) :
   wpAny (model prg w) A (call (.ref 93) [.ref t, .int (i : Int) tk]) Q E s :=
  useL (siblings_ahead_C (C.at F hd hu) W (TT.keep F.keep) hi) F N fun a vs n h' tk' F' N' l1 hi' => k a vs n h' tk' F' N' l1 hi' (by rw [nat_len]; have := sibA_len W hi; omega)
theorem siblings_behind_U {w : World} {A : Around} {s : Shared} {g : Heap} {L : Addr} {m : Str → Option Value} {news : List (Addr × Obj)} {t : Addr} {T : List Row} {i : Nat} {tk : Tok} {dp un : Nat} {Q E : Value → Shared → Prop}
   (C : Callee w A g L dp un) (F : Fr g L s.heap m) (N : News g L s.heap news) (W : WF T) (TT : TreeAt w g t T) (hi : i < T.length) (hd : 12 ≤ dp) (hu : 300 ≤ un)
   (k : ∀ a vs n h' tk', Fr g L h' m → News g L h' ((a, listOf (List.toArray vs) n) :: news) → (∀ p ∈ news, @Ne Nat p.1 a) → IntsAre vs (nat (sibB T i)) → (nat (sibB T i)).length ≤ 10000 → Q (.ref a) { s with heap := h', toks := tk' }) :
   wpAny (model prg w) A (call (.ref 100) [.ref t, .int (i : Int) tk]) Q E s :=
  useL (siblings_behind_C (C.at F hd hu) W (TT.keep F.keep) hi) F N fun a vs n h' tk' F' N' l1 hi' => k a vs n h' tk' F' N' l1 hi' (by rw [nat_len]; have := sibB_len W hi; omega)
example : True := by w_top off; trivial
example : True := by
  (k_with "call ref" => (k_here; (with_reducible show wpAny _ _ (call (Value.ref 79) _) _ _ _); k_dflt (refine' descendants_U (by with_reducible assumption) (by k_asm) (by k_asm) (by with_reducible assumption) (by with_reducible assumption) (by k_extra "lt") (by k_extra "om") (by k_extra "om") ?_); intro _ _ _ _ _ _ _ _ _ _; (try k_sweep); (try k_extra "nne")))
  (k_with "call ref" => (k_here; (with_reducible show wpAny _ _ (call (Value.ref 86) _) _ _ _); k_dflt (refine' ancestors_U (by with_reducible assumption) (by k_asm) (by k_asm) (by with_reducible assumption) (by with_reducible assumption) (by k_extra "lt") (by k_extra "om") (by k_extra "om") ?_); intro _ _ _ _ _ _ _ _ _ _; (try k_sweep); (try k_extra "nne")))
  (k_with "call ref" => (k_here; (with_reducible show wpAny _ _ (call (Value.ref 93) _) _ _ _); k_dflt (refine' siblings_ahead_U (by with_reducible assumption) (by k_asm) (by k_asm) (by with_reducible assumption) (by with_reducible assumption) (by k_extra "lt") (by k_extra "om") (by k_extra "om") ?_); intro _ _ _ _ _ _ _ _ _ _; (try k_sweep); (try k_extra "nne")))
  (k_with "call ref" => (k_here; (with_reducible show wpAny _ _ (call (Value.ref 100) _) _ _ _); k_dflt (refine' siblings_behind_U (by with_reducible assumption) (by k_asm) (by k_asm) (by with_reducible assumption) (by with_reducible assumption) (by k_extra "lt") (by k_extra "om") (by k_extra "om") ?_); intro _ _ _ _ _ _ _ _ _ _; (try k_sweep); (try k_extra "nne")))
  trivial
theorem with_descendants_C {w : World} {A : Around} {s : Shared} {t l : Addr} {T : List Row} {vs : List Value} {n : Nat} {ns : List Nat}
   (H : At w A s.heap 12 300) (W : WF T) (TT : TreeAt w s.heap t T) (hl : s.heap.get? l = some (listOf (List.toArray vs) n)) (hi : IntsAre vs (nat ns)) (hlt : ∀ x ∈ ns, x < T.length) (hb : ns.length ≤ 400) :
   wpAny (model prg w) A (call (.ref 107) [.ref t, .ref l]) (Back s (ListOut s (nat (ns.flatMap (pre T))))) NoErr s := by
  refine' enter (binds := [(Str.ofString "tree", .ref t), (Str.ofString "nodes", .ref l)]) H (by k_extra "om") (by k_extra "om") (by k_is) (by k_is) (BindsTo.of_eq rfl) (locs rfl) ?_ (by decide) rfl rfl rfl
  intro h₁ gn9 dr9 os9 A9 L9 tk9 pr9 loose9 mean9 mg9 mb9 F' N' X' T' C' hroom hun K9 hK9
  (try dsimp only)
  k_steps
  rename Fr _ _ _ _ => F0
  rename News _ _ _ _ => N0
  have hbt : ∀ k, (nat ((ns.take k).flatMap (pre T))).length ≤ 8000 := fun k => by
    rw [nat_len]
    have h1 := pres_len W (l := ns.take k) fun x hx => hlt x (List.mem_of_mem_take hx)
    have h2 : (ns.take k).length ≤ ns.length := by rw [List.length_take]; omega
    omega
  refine Stop.in (for_grow [] (fun k => nat ((ns.take k).flatMap (pre T))) rfl (isList_base F0 hl) (base_ne F0 hl) hi F0 N0 .nil (.inl ⟨_, hl⟩) ?_ ?_)
  · clear F0 N0
    rintro i k t u vs' n' h tk I oI hk hi' hne hr F1 N1
    refine hidP fun P9 k9 => ?_
    obtain ⟨j, hj, rfl⟩ := nat_get hk
    refine k9 ?_; clear k9 P9
    have hjl := hlt j (List.mem_of_getElem? hj)
    have hba := hbt i
    have e : nat ((ns.take (i + 1)).flatMap (pre T)) = (nat ((ns.take i).flatMap (pre T)) ++ [(j : Int)]) ++ nat (desc T j) := by
      rw [take_flatMap _ _ hj, nat_append, pre_eq W j]; simp [nat, desc]
    k_steps
    refine grow_over (by k_asm) (by k_asm) (by k_mem) (by k_mem) (by intro _ h; exact nomatch h) hne hr ?_ (by k_extra "same2")
    rw [e]
    exact (hi'.append (.cons _ _ .nil)).append (by assumption)
  · clear F0 N0
    rintro u vs' n' h tk hi' F1 N1
    rw [nat_len, List.take_length] at hi'
    k_steps
    refine endK hK9 (by k_asm) ?_
    exact ⟨_, _, _, rfl, News.fresh (by k_asm) (by k_mem), News.get (by k_asm) (by k_mem), hi'⟩
example : True := by w_top off; trivial
example : True := by
  (k_with "call ref" => (k_here; (with_reducible show wpAny _ _ (call (Value.ref 79) _) _ _ _); k_dflt (refine' descendants_U (by with_reducible assumption) (by k_asm) (by k_asm) (by with_reducible assumption) (by with_reducible assumption) (by k_extra "lt") (by k_extra "om") (by k_extra "om") ?_); intro _ _ _ _ _ _ _ _ _ _; (try k_sweep); (try k_extra "nne")))
  (k_with "call ref" => (k_here; (with_reducible show wpAny _ _ (call (Value.ref 86) _) _ _ _); k_dflt (refine' ancestors_U (by with_reducible assumption) (by k_asm) (by k_asm) (by with_reducible assumption) (by with_reducible assumption) (by k_extra "lt") (by k_extra "om") (by k_extra "om") ?_); intro _ _ _ _ _ _ _ _ _ _; (try k_sweep); (try k_extra "nne")))
  (k_with "call ref" => (k_here; (with_reducible show wpAny _ _ (call (Value.ref 93) _) _ _ _); k_dflt (refine' siblings_ahead_U (by with_reducible assumption) (by k_asm) (by k_asm) (by with_reducible assumption) (by with_reducible assumption) (by k_extra "lt") (by k_extra "om") (by k_extra "om") ?_); intro _ _ _ _ _ _ _ _ _ _; (try k_sweep); (try k_extra "nne")))
  (k_with "call ref" => (k_here; (with_reducible show wpAny _ _ (call (Value.ref 100) _) _ _ _); k_dflt (refine' siblings_behind_U (by with_reducible assumption) (by k_asm) (by k_asm) (by with_reducible assumption) (by with_reducible assumption) (by k_extra "lt") (by k_extra "om") (by k_extra "om") ?_); intro _ _ _ _ _ _ _ _ _ _; (try k_sweep); (try k_extra "nne")))
  trivial
theorem with_descendants_U {w : World} {A : Around} {s : Shared} {g : Heap} {L l : Addr} {m : Str → Option Value} {news : List (Addr × Obj)} {t : Addr} {T : List Row} {vs : List Value} {n : Nat} {ns : List Nat} {dp un : Nat} {Q E : Value → Shared → Prop}
   (C : Callee w A g L dp un) (F : Fr g L s.heap m) (N : News g L s.heap news) (W : WF T) (TT : TreeAt w g t T) (hm : (l, listOf (List.toArray vs) n) ∈ news) (hi : IntsAre vs (nat ns)) (hlt : ∀ x ∈ ns, x < T.length) (hb : (nat ns).length ≤ 400) (hd : 12 ≤ dp) (hu : 300 ≤ un)
   (k : ∀ a vs n h' tk', Fr g L h' m → News g L h' ((a, listOf (List.toArray vs) n) :: news) → (∀ p ∈ news, @Ne Nat p.1 a) → IntsAre vs (nat (ns.flatMap (pre T))) → (nat (ns.flatMap (pre T))).length ≤ 8000 → Q (.ref a) { s with heap := h', toks := tk' }) :
   wpAny (model prg w) A (call (.ref 107) [.ref t, .ref l]) Q E s :=
  useL (with_descendants_C (C.at F hd hu) W (TT.keep F.keep) (News.get N hm) hi hlt (by rw [nat_len] at hb; exact hb)) F N fun a vs n h' tk' F' N' l1 hi' => k a vs n h' tk' F' N' l1 hi' (by rw [nat_len] at hb ⊢; have := pres_len W hlt; omega)
example : True := by
  (k_with "call ref" => (k_here; (with_reducible show wpAny _ _ (call (Value.ref 107) _) _ _ _); k_dflt (refine' with_descendants_U (by with_reducible assumption) (by k_asm) (by k_asm) (by with_reducible assumption) (by with_reducible assumption) (by k_mem) (by with_reducible assumption) (by with_reducible assumption) (by k_extra "bd") (by k_extra "om") (by k_extra "om") ?_); intro _ _ _ _ _ _ _ _ _ _; (try k_sweep); (try k_extra "nne")))
  trivial
theorem following_C {w : World} {A : Around} {s : Shared} {t : Addr} {T : List Row} {i : Nat} {tk : Tok}
   (H : At w A s.heap 20 600) (W : WF T) (TT : TreeAt w s.heap t T) (hi : i < T.length) :
   wpAny (model prg w) A (call (.ref 114) [.ref t, .int (i : Int) tk]) (Back s (ListOut s (nat (fol T i)))) NoErr s := by
  refine' enter (binds := [(Str.ofString "tree", .ref t), (Str.ofString "node", .int (i : Int) tk)]) H (by k_extra "om") (by k_extra "om") (by k_is) (by k_is) (BindsTo.of_eq rfl) (locs rfl) ?_ (by decide) rfl rfl rfl
  intro h₁ gn9 dr9 os9 A9 L9 tk9 pr9 loose9 mean9 mg9 mb9 F' N' X' T' C' hroom hun K9 hK9
  (try dsimp only)
  refine execs_mid2 (MidF s.heap L9 t gn9 dr9 os9 fun j c => j < T.length ∧ fol T i = c ++ (j :: anc T j).flatMap (fun h => (sibB T h).flatMap (pre T)) ∧ c.length ≤ 20) ?_ fun s' hs => ?_
  · cases hbs : beside T i with
    | true =>
      refine hidP fun P9 k9 => ?_
      obtain ⟨p, hpa⟩ := W.bes_par i hbs
      refine k9 ?_; clear k9 P9
      have hp := (W.par_len hpa).2
      k_steps
      rename Fr _ _ _ _ => F0
      rename News _ _ _ _ => N0
      first | exact .mk _ _ _ p _ _ _ _ _ F0 rfl rfl rfl (fun p hp => N0 p (List.mem_singleton.mp hp ▸ .head _)) (by with_reducible assumption) ⟨hp, by simp only [fol, up, hbs, hpa, if_true, Option.getD_some], desc_len W hp⟩ | exact ⟨rfl, .mk _ _ _ p _ _ _ _ _ F0 rfl rfl rfl (fun p hp => N0 p (List.mem_singleton.mp hp ▸ .head _)) (by with_reducible assumption) ⟨hp, by simp only [fol, up, hbs, hpa, if_true, Option.getD_some], desc_len W hp⟩⟩
    | false =>
      k_steps
      rename Fr _ _ _ _ => F0
      rename News _ _ _ _ => N0
      first | exact .mk _ _ _ i _ _ _ _ [] F0 rfl rfl rfl (fun p hp => N0 p (List.mem_singleton.mp hp ▸ .head _)) .nil ⟨hi, by (simp only [fol, up, hbs, Bool.false_eq_true, if_false]; try rfl), Nat.zero_le _⟩ | exact ⟨rfl, .mk _ _ _ i _ _ _ _ [] F0 rfl rfl rfl (fun p hp => N0 p (List.mem_singleton.mp hp ▸ .head _)) .nil ⟨hi, by (simp only [fol, up, hbs, Bool.false_eq_true, if_false]; try rfl), Nat.zero_le _⟩⟩
  refine hidP fun P9 k9 => ?_
  obtain ⟨h2, tk2, m2, q0, tq, D2, w2, n2, c0, F2, e1, e2, e3, N3, hi3, hq1, hq2, hq3⟩ := hs
  have F3 := know_all [(Str.ofString "tree", .ref t), (Str.ofString "node", .int (q0 : Int) tq), (Str.ofString "found", .ref D2)] F2 ⟨e1, e2, e3, trivial⟩
  refine k9 ?_; clear k9 P9
  clear F2 F' N' e1 e2 e3 hi
  k_steps
  rename Fr _ _ _ _ => F0
  rename News _ _ _ _ => N0
  refine Stop.in (for_grow2 (ns := nat (q0 :: anc T q0)) [] (Str.ofString "found") [] (fun k => nat (c0 ++ ((q0 :: anc T q0).take k).flatMap fun h => (sibB T h).flatMap (pre T))) rfl F0 N0 (by k_mem) (by assumption) rfl (by k_mem) (by k_extra "sub") (by first | exact .nil | (simp only [List.take_zero, List.flatMap_nil, List.append_nil]; assumption)) ?_ ?_)
  · clear F0 N0
    rintro k x tx u vs' n' h tk I oI hk hi' hne hne2 hrI F1 N1
    refine hidP fun P9 k9 => ?_
    obtain ⟨j, hj, rfl⟩ := nat_get hk
    refine k9 ?_; clear k9 P9
    have hjm := List.mem_of_getElem? hj
    have hjl : j < T.length := by
      refine hidP fun P9 k9 => ?_
      rcases List.mem_cons.mp hjm with rfl | hjm <;> (refine k9 ?_; clear k9 P9)
      · assumption
      · exact anc_in W (by assumption) hjm
    have hsb : ∀ x ∈ sibB T j, x < T.length := fun x hx => sibB_lt W hx
    have hsl : (nat (sibB T j)).length ≤ 20 := by rw [nat_len]; exact sibB_len W hjl
    have hac : (nat (c0 ++ ((q0 :: anc T q0).take k).flatMap fun h => (sibB T h).flatMap (pre T))).length ≤ 8500 := by
      rw [nat_len, List.length_append]
      have h1 := flat_len (B := 400) (f := fun h => (sibB T h).flatMap (pre T)) ((q0 :: anc T q0).take k) fun x hx => by
        have hxl : x < T.length := by
          refine hidP fun P9 k9 => ?_
          rcases List.mem_cons.mp (List.mem_of_mem_take hx) with rfl | hx <;> (refine k9 ?_; clear k9 P9)
          · assumption
          · exact anc_in W (by assumption) hx
        have := pres_len W (l := sibB T x) fun y hy => sibB_lt W hy
        have := sibB_len W hxl
        omega
      have h2 : ((q0 :: anc T q0).take k).length ≤ 21 := by
        rw [List.length_take, List.length_cons]
        have := anc_len W (i := q0) (by assumption)
        omega
      have h3 := hq3
      omega
    have e : nat (c0 ++ ((q0 :: anc T q0).take (k + 1)).flatMap fun h => (sibB T h).flatMap (pre T)) = nat (c0 ++ ((q0 :: anc T q0).take k).flatMap fun h => (sibB T h).flatMap (pre T)) ++ nat ((sibB T j).flatMap (pre T)) := by
      rw [take_flatMap _ _ hj, ← List.append_assoc, nat_append]
    k_steps
    refine' grow_over ?gF ?gN ?gI ?ga ?gr hne ?gn ?gi ?gm
    case gF => k_asm
    case gN => k_asm
    case gI => k_mem
    case ga => k_mem
    case gr => k_extra "sub"
    case gn => exact List.forall_mem_cons.mpr ⟨hne2, hrI⟩
    case gi => exact Eq.mpr (congrArg (IntsAre _) e) (hi'.append (by with_reducible assumption))
    case gm => k_extra "same2"
  · clear F0 N0
    rintro u vs' n' h tk hi' F1 N1
    (try dsimp only at N1)
    rw [nat_len, List.take_length] at hi'
    k_steps
    refine endK hK9 (by k_asm) ?_
    rw [hq2]
    exact ⟨_, _, _, rfl, News.fresh (by k_asm) (by k_mem), News.get (by k_asm) (by k_mem), hi'⟩
example : True := by w_top off; trivial
example : True := by
  (k_with "call ref" => (k_here; (with_reducible show wpAny _ _ (call (Value.ref 79) _) _ _ _); k_dflt (refine' descendants_U (by with_reducible assumption) (by k_asm) (by k_asm) (by with_reducible assumption) (by with_reducible assumption) (by k_extra "lt") (by k_extra "om") (by k_extra "om") ?_); intro _ _ _ _ _ _ _ _ _ _; (try k_sweep); (try k_extra "nne")))
  (k_with "call ref" => (k_here; (with_reducible show wpAny _ _ (call (Value.ref 86) _) _ _ _); k_dflt (refine' ancestors_U (by with_reducible assumption) (by k_asm) (by k_asm) (by with_reducible assumption) (by with_reducible assumption) (by k_extra "lt") (by k_extra "om") (by k_extra "om") ?_); intro _ _ _ _ _ _ _ _ _ _; (try k_sweep); (try k_extra "nne")))
  (k_with "call ref" => (k_here; (with_reducible show wpAny _ _ (call (Value.ref 93) _) _ _ _); k_dflt (refine' siblings_ahead_U (by with_reducible assumption) (by k_asm) (by k_asm) (by with_reducible assumption) (by with_reducible assumption) (by k_extra "lt") (by k_extra "om") (by k_extra "om") ?_); intro _ _ _ _ _ _ _ _ _ _; (try k_sweep); (try k_extra "nne")))
  (k_with "call ref" => (k_here; (with_reducible show wpAny _ _ (call (Value.ref 100) _) _ _ _); k_dflt (refine' siblings_behind_U (by with_reducible assumption) (by k_asm) (by k_asm) (by with_reducible assumption) (by with_reducible assumption) (by k_extra "lt") (by k_extra "om") (by k_extra "om") ?_); intro _ _ _ _ _ _ _ _ _ _; (try k_sweep); (try k_extra "nne")))
  trivial
theorem with_descendants_U1 {w : World} {A : Around} {s : Shared} {g : Heap} {L l : Addr} {m : Str → Option Value} {news : List (Addr × Obj)} {t : Addr} {T : List Row} {x : Nat} {tx : Tok} {n : Nat} {dp un : Nat} {Q E : Value → Shared → Prop}
   (C : Callee w A g L dp un) (F : Fr g L s.heap m) (N : News g L s.heap news) (W : WF T) (TT : TreeAt w g t T) (hm : (l, listOf (List.toArray [.int (x : Int) tx]) n) ∈ news) (hx : x < T.length) (hd : 12 ≤ dp) (hu : 300 ≤ un)
   (k : ∀ a vs n h' tk', Fr g L h' m → News g L h' ((a, listOf (List.toArray vs) n) :: news) → (∀ p ∈ news, @Ne Nat p.1 a) → IntsAre vs (nat (pre T x)) → (nat (pre T x)).length ≤ 20 → Q (.ref a) { s with heap := h', toks := tk' }) :
   wpAny (model prg w) A (call (.ref 107) [.ref t, .ref l]) Q E s :=
  with_descendants_U (ns := [x]) C F N W TT hm (.cons _ _ .nil) (fun y hy => by rw [List.mem_singleton.mp hy]; exact hx) (by show (nat [x]).length ≤ 400; rw [nat_len]; simp) hd hu fun a vs n h' tk' F' N' l1 hi' _ => k a vs n h' tk' F' N' l1 (by rw [List.flatMap_cons, List.flatMap_nil, List.append_nil] at hi'; exact hi') (by rw [nat_len]; exact pre_len W hx)
example : True := by
  (k_with "call ref" => (k_here; (with_reducible show wpAny _ _ (call (Value.ref 107) _) _ _ _); k_dflt (refine' with_descendants_U1 (by with_reducible assumption) (by k_asm) (by k_asm) (by with_reducible assumption) (by with_reducible assumption) (by k_mem) (by with_reducible assumption) (by k_extra "om") (by k_extra "om") ?_); intro _ _ _ _ _ _ _ _ _ _; (try k_sweep); (try k_extra "nne")))
  trivial
theorem preceding_C {w : World} {A : Around} {s : Shared} {t : Addr} {T : List Row} {i : Nat} {tk : Tok}
   (H : At w A s.heap 20 600) (W : WF T) (TT : TreeAt w s.heap t T) (hi : i < T.length) :
   wpAny (model prg w) A (call (.ref 121) [.ref t, .int (i : Int) tk]) (Back s (ListOut s (nat (prc T i)))) NoErr s := by
  refine' enter (binds := [(Str.ofString "tree", .ref t), (Str.ofString "node", .int (i : Int) tk)]) H (by k_extra "om") (by k_extra "om") (by k_is) (by k_is) (BindsTo.of_eq rfl) (locs rfl) ?_ (by decide) rfl rfl rfl
  intro h₁ gn9 dr9 os9 A9 L9 tk9 pr9 loose9 mean9 mg9 mb9 F' N' X' T' C' hroom hun K9 hK9
  (try dsimp only)
  refine execs_mid (MidN s.heap L9 t gn9 dr9 os9 fun j => j < T.length ∧ prc T i = (j :: anc T j).flatMap fun h => (sibA T h).flatMap fun x => (pre T x).reverse) ?_ fun s' hs => ?_
  · cases hbs : beside T i with
    | true =>
      refine hidP fun P9 k9 => ?_
      obtain ⟨p, hpa⟩ := W.bes_par i hbs
      refine k9 ?_; clear k9 P9
      have hp := (W.par_len hpa).2
      k_steps
      rename Fr _ _ _ _ => F0
      first | exact .mk _ _ _ p _ F0 rfl rfl ⟨hp, by simp only [prc, up, hbs, hpa, if_true, Option.getD_some]⟩ | exact ⟨rfl, .mk _ _ _ p _ F0 rfl rfl ⟨hp, by simp only [prc, up, hbs, hpa, if_true, Option.getD_some]⟩⟩
    | false =>
      k_steps
      rename Fr _ _ _ _ => F0
      first | exact .mk _ _ _ i _ F0 rfl rfl ⟨hi, by simp only [prc, up, hbs, Bool.false_eq_true, if_false]⟩ | exact ⟨rfl, .mk _ _ _ i _ F0 rfl rfl ⟨hi, by simp only [prc, up, hbs, Bool.false_eq_true, if_false]⟩⟩
  refine hidP fun P9 k9 => ?_
  obtain ⟨h2, tk2, m2, q0, tq, F2, e1, e2, hq1, hq2⟩ := hs
  have F3 := know_all [(Str.ofString "tree", .ref t), (Str.ofString "node", .int (q0 : Int) tq)] F2 ⟨e1, e2, trivial⟩
  refine k9 ?_; clear k9 P9
  have N3 : News s.heap L9 h2 [] := .nil
  clear F2 F' N' e1 e2 hi
  k_steps
  rename Fr _ _ _ _ => F0
  rename News _ _ _ _ => N0
  rename_i D9 ws9 h9 hI9 l19
  refine Stop.in (for_grow2 (ns := nat (q0 :: anc T q0)) [] (Str.ofString "found") [Str.ofString "sibling"] (fun k => nat (((q0 :: anc T q0).take k).flatMap fun h => (sibA T h).flatMap fun x => (pre T x).reverse)) rfl F0 N0 (by k_mem) hI9 rfl (by k_mem) (by k_extra "sub") (by exact .nil) ?_ ?_)
  · clear F0 N0
    rintro k x tx u vs' n' h tk I oI hk hi' hne hne2 hrI F1 N1
    refine hidP fun P9 k9 => ?_
    obtain ⟨j, hj, rfl⟩ := nat_get hk
    refine k9 ?_; clear k9 P9
    have hjm := List.mem_of_getElem? hj
    have hjl : j < T.length := by
      refine hidP fun P9 k9 => ?_
      rcases List.mem_cons.mp hjm with rfl | hjm <;> (refine k9 ?_; clear k9 P9)
      · assumption
      · exact anc_in W (by assumption) hjm
    have hsb : ∀ x ∈ sibA T j, x < T.length := fun x hx => sibA_lt W hx
    have hsl : (sibA T j).length ≤ 20 := sibA_len W hjl
    have hac : (((q0 :: anc T q0).take k).flatMap fun h => (sibA T h).flatMap fun x => (pre T x).reverse).length ≤ 8400 := by
      have h1 := flat_len (B := 400) (f := fun h => (sibA T h).flatMap fun x => (pre T x).reverse) ((q0 :: anc T q0).take k) fun x hx => by
        have hxl : x < T.length := by
          refine hidP fun P9 k9 => ?_
          rcases List.mem_cons.mp (List.mem_of_mem_take hx) with rfl | hx <;> (refine k9 ?_; clear k9 P9)
          · assumption
          · exact anc_in W (by assumption) hx
        have := flat_len (B := 20) (f := fun x => (pre T x).reverse) (sibA T x) fun y hy => by rw [List.length_reverse]; exact pre_len W (sibA_lt W hy)
        have := sibA_len W hxl
        omega
      have h2 : ((q0 :: anc T q0).take k).length ≤ 21 := by
        rw [List.length_take, List.length_cons]
        have := anc_len W (i := q0) (by assumption)
        omega
      omega
    have e : nat (((q0 :: anc T q0).take (k + 1)).flatMap fun h => (sibA T h).flatMap fun x => (pre T x).reverse) = nat (((q0 :: anc T q0).take k).flatMap fun h => (sibA T h).flatMap fun x => (pre T x).reverse) ++ nat ((sibA T j).flatMap fun x => (pre T x).reverse) := by
      rw [take_flatMap _ _ hj, nat_append]
    generalize (((q0 :: anc T q0).take k).flatMap fun h => (sibA T h).flatMap fun x => (pre T x).reverse) = c0 at hi' hac e
    k_steps
    rename Fr _ _ _ _ => F2
    rename News _ _ _ _ => N2
    rename_i lA _ _ _ _ _ _ _
    have hab : ∀ q, (nat (c0 ++ ((sibA T j).take q).flatMap fun x => (pre T x).reverse)).length ≤ 8800 := fun q => by
      rw [nat_len, List.length_append]
      have h1 := flat_len (B := 20) (f := fun x => (pre T x).reverse) ((sibA T j).take q) fun y hy => by rw [List.length_reverse]; exact pre_len W (hsb y (List.mem_of_mem_take hy))
      have h2 : ((sibA T j).take q).length ≤ 20 := by rw [List.length_take]; omega
      omega
    refine Stop.in (for_grow2 (ns := nat (sibA T j)) [(I, oI), (D9, listOf (List.toArray ws9) 0)] (Str.ofString "found") [] (fun q => nat (c0 ++ ((sibA T j).take q).flatMap fun x => (pre T x).reverse)) rfl F2 N2 (by k_mem) (by with_reducible assumption) rfl (by k_mem) (by k_extra "sub") (by simpa using hi') ?_ ?_)
    · clear F2 N2
      rintro k x tx u vs' n' h tk I2 oI2 hk hi' hnf hnl hr2 F1 N1
      refine hidP fun P9 k9 => ?_
      obtain ⟨x, hx, rfl⟩ := nat_get hk
      refine k9 ?_; clear k9 P9
      have hxl := hsb x (List.mem_of_getElem? hx)
      have hab9 := hab k
      have e2 : nat (c0 ++ ((sibA T j).take (k + 1)).flatMap fun x => (pre T x).reverse) = nat (c0 ++ ((sibA T j).take k).flatMap fun x => (pre T x).reverse) ++ (nat (pre T x)).reverse := by
        rw [take_flatMap _ _ hx, ← List.append_assoc, nat_append, nat_reverse]
      have hr2' := hr2
      simp only [List.forall_mem_cons, List.forall_mem_nil, and_true, List.not_mem_nil, false_implies, implies_true, forall_const] at hr2'
      k_steps
      refine' grow_over ?gF ?gN ?gI ?ga ?gr hnf ?gn ?gi ?gm
      case gF => k_asm
      case gN => k_asm
      case gI => k_mem
      case ga => k_mem
      case gr => k_extra "sub"
      case gn => exact List.forall_mem_cons.mpr ⟨hnl, hr2⟩
      case gi => exact Eq.mpr (congrArg (IntsAre _) e2) (hi'.append (by with_reducible assumption))
      case gm => k_extra "same2"
    · clear F2 N2
      rintro u vs' n' h tk hi' F1 N1
      rw [nat_len, List.take_length, nat_append, ← e] at hi'
      k_steps
      refine' grow_over ?gF ?gN ?gI ?ga ?gr hne ?gn ?gi ?gm
      case gF => k_asm
      case gN => k_asm
      case gI => k_mem
      case ga => k_mem
      case gr => k_extra "sub"
      case gn => exact List.forall_mem_cons.mpr ⟨hne2, hrI⟩
      case gi => exact hi'
      case gm => k_extra "same2"
  · clear F0 N0
    rintro u vs' n' h tk hi' F1 N1
    rw [nat_len, List.take_length] at hi'
    k_steps
    refine endK hK9 (by k_asm) ?_
    rw [hq2]
    exact ⟨_, _, _, rfl, News.fresh (by k_asm) (by k_mem), News.get (by k_asm) (by k_mem), hi'⟩
example : True := by w_top off; trivial
example : True := by
  (k_with "call ref" => (k_here; (with_reducible show wpAny _ _ (call (Value.ref 79) _) _ _ _); k_dflt (refine' descendants_U (by with_reducible assumption) (by k_asm) (by k_asm) (by with_reducible assumption) (by with_reducible assumption) (by k_extra "lt") (by k_extra "om") (by k_extra "om") ?_); intro _ _ _ _ _ _ _ _ _ _; (try k_sweep); (try k_extra "nne")))
  (k_with "call ref" => (k_here; (with_reducible show wpAny _ _ (call (Value.ref 86) _) _ _ _); k_dflt (refine' ancestors_U (by with_reducible assumption) (by k_asm) (by k_asm) (by with_reducible assumption) (by with_reducible assumption) (by k_extra "lt") (by k_extra "om") (by k_extra "om") ?_); intro _ _ _ _ _ _ _ _ _ _; (try k_sweep); (try k_extra "nne")))
  (k_with "call ref" => (k_here; (with_reducible show wpAny _ _ (call (Value.ref 93) _) _ _ _); k_dflt (refine' siblings_ahead_U (by with_reducible assumption) (by k_asm) (by k_asm) (by with_reducible assumption) (by with_reducible assumption) (by k_extra "lt") (by k_extra "om") (by k_extra "om") ?_); intro _ _ _ _ _ _ _ _ _ _; (try k_sweep); (try k_extra "nne")))
  (k_with "call ref" => (k_here; (with_reducible show wpAny _ _ (call (Value.ref 100) _) _ _ _); k_dflt (refine' siblings_behind_U (by with_reducible assumption) (by k_asm) (by k_asm) (by with_reducible assumption) (by with_reducible assumption) (by k_extra "lt") (by k_extra "om") (by k_extra "om") ?_); intro _ _ _ _ _ _ _ _ _ _; (try k_sweep); (try k_extra "nne")))
  trivial
inductive Ax where
  | child | descendant | ancestorOrSelf | preceding | following | attribute | precedingSibling
noncomputable def Ax.str : Ax → Str
  | .child => Str.ofString "child"
  | .descendant => Str.ofString "descendant"
  | .ancestorOrSelf => Str.ofString "ancestor-or-self"
  | .preceding => Str.ofString "preceding"
  | .following => Str.ofString "following"
  | .attribute => Str.ofString "attribute"
  | .precedingSibling => Str.ofString "preceding-sibling"
noncomputable def shortL (T : List Row) (i : Nat) : Ax → Option (List Nat)
  | .child => some (ch T i)
  | .attribute => some (if kd T i == Str.ofString "element" then atl T i else [])
  | .precedingSibling => some (sibA T i)
  | _ => none
noncomputable def axisL (T : List Row) (i : Nat) : Ax → List Nat
  | .child => ch T i
  | .descendant => desc T i
  | .ancestorOrSelf => i :: anc T i
  | .preceding => prc T i
  | .following => fol T i
  | .attribute => if kd T i == Str.ofString "element" then atl T i else []
  | .precedingSibling => sibA T i
noncomputable def ShortOut (s : Shared) (o : Option (List Nat)) (v : Value) (h' : Heap) : Prop := match o with
  | none => v = .none
  | some l => ListOut s (nat l) v h'
theorem short_axis_child {w : World} {A : Around} {s : Shared} {t : Addr} {T : List Row} {i : Nat} {tk tn : Tok}
   (H : At w A s.heap 16 400) (W : WF T) (TT : TreeAt w s.heap t T) (hi : i < T.length) :
   wpAny (model prg w) A (call (.ref 133) [.ref t, .int (i : Int) tk, .str (Str.ofString "child") tn]) (Back s (ShortOut s (shortL T i .child))) NoErr s := by
  refine' enter (binds := [(Str.ofString "tree", .ref t), (Str.ofString "node", .int (i : Int) tk), (Str.ofString "name", .str (Str.ofString "child") tn)]) H (by k_extra "om") (by k_extra "om") (by k_is) (by k_is) (BindsTo.of_eq rfl) (locs rfl) ?_ (by decide) rfl rfl rfl
  intro h₁ gn9 dr9 os9 A9 L9 tk9 pr9 loose9 mean9 mg9 mb9 F' N' X' T' C' hroom hun K9 hK9
  (try dsimp only)
  k_steps
  refine endK hK9 (by k_asm) ?_
  exact ⟨_, _, _, rfl, News.fresh (by k_asm) (by k_mem), News.get (by k_asm) (by k_mem), by with_reducible assumption⟩
theorem short_axis_descendant {w : World} {A : Around} {s : Shared} {t : Addr} {T : List Row} {i : Nat} {tk tn : Tok}
   (H : At w A s.heap 16 400) (W : WF T) (TT : TreeAt w s.heap t T) (hi : i < T.length) :
   wpAny (model prg w) A (call (.ref 133) [.ref t, .int (i : Int) tk, .str (Str.ofString "descendant") tn]) (Back s (ShortOut s (shortL T i .descendant))) NoErr s := by
  refine' enter (binds := [(Str.ofString "tree", .ref t), (Str.ofString "node", .int (i : Int) tk), (Str.ofString "name", .str (Str.ofString "descendant") tn)]) H (by k_extra "om") (by k_extra "om") (by k_is) (by k_is) (BindsTo.of_eq rfl) (locs rfl) ?_ (by decide) rfl rfl rfl
  intro h₁ gn9 dr9 os9 A9 L9 tk9 pr9 loose9 mean9 mg9 mb9 F' N' X' T' C' hroom hun K9 hK9
  (try dsimp only)
  k_steps
  exact endK hK9 (by k_asm) rfl
theorem short_axis_ancestorOrSelf {w : World} {A : Around} {s : Shared} {t : Addr} {T : List Row} {i : Nat} {tk tn : Tok}
   (H : At w A s.heap 16 400) (W : WF T) (TT : TreeAt w s.heap t T) (hi : i < T.length) :
   wpAny (model prg w) A (call (.ref 133) [.ref t, .int (i : Int) tk, .str (Str.ofString "ancestor-or-self") tn]) (Back s (ShortOut s (shortL T i .ancestorOrSelf))) NoErr s := by
  refine' enter (binds := [(Str.ofString "tree", .ref t), (Str.ofString "node", .int (i : Int) tk), (Str.ofString "name", .str (Str.ofString "ancestor-or-self") tn)]) H (by k_extra "om") (by k_extra "om") (by k_is) (by k_is) (BindsTo.of_eq rfl) (locs rfl) ?_ (by decide) rfl rfl rfl
  intro h₁ gn9 dr9 os9 A9 L9 tk9 pr9 loose9 mean9 mg9 mb9 F' N' X' T' C' hroom hun K9 hK9
  (try dsimp only)
  k_steps
  exact endK hK9 (by k_asm) rfl
theorem short_axis_preceding {w : World} {A : Around} {s : Shared} {t : Addr} {T : List Row} {i : Nat} {tk tn : Tok}
   (H : At w A s.heap 16 400) (W : WF T) (TT : TreeAt w s.heap t T) (hi : i < T.length) :
   wpAny (model prg w) A (call (.ref 133) [.ref t, .int (i : Int) tk, .str (Str.ofString "preceding") tn]) (Back s (ShortOut s (shortL T i .preceding))) NoErr s := by
  refine' enter (binds := [(Str.ofString "tree", .ref t), (Str.ofString "node", .int (i : Int) tk), (Str.ofString "name", .str (Str.ofString "preceding") tn)]) H (by k_extra "om") (by k_extra "om") (by k_is) (by k_is) (BindsTo.of_eq rfl) (locs rfl) ?_ (by decide) rfl rfl rfl
  intro h₁ gn9 dr9 os9 A9 L9 tk9 pr9 loose9 mean9 mg9 mb9 F' N' X' T' C' hroom hun K9 hK9
  (try dsimp only)
  k_steps
  exact endK hK9 (by k_asm) rfl
theorem short_axis_following {w : World} {A : Around} {s : Shared} {t : Addr} {T : List Row} {i : Nat} {tk tn : Tok}
   (H : At w A s.heap 16 400) (W : WF T) (TT : TreeAt w s.heap t T) (hi : i < T.length) :
   wpAny (model prg w) A (call (.ref 133) [.ref t, .int (i : Int) tk, .str (Str.ofString "following") tn]) (Back s (ShortOut s (shortL T i .following))) NoErr s := by
  refine' enter (binds := [(Str.ofString "tree", .ref t), (Str.ofString "node", .int (i : Int) tk), (Str.ofString "name", .str (Str.ofString "following") tn)]) H (by k_extra "om") (by k_extra "om") (by k_is) (by k_is) (BindsTo.of_eq rfl) (locs rfl) ?_ (by decide) rfl rfl rfl
  intro h₁ gn9 dr9 os9 A9 L9 tk9 pr9 loose9 mean9 mg9 mb9 F' N' X' T' C' hroom hun K9 hK9
  (try dsimp only)
  k_steps
  exact endK hK9 (by k_asm) rfl
theorem short_axis_attribute {w : World} {A : Around} {s : Shared} {t : Addr} {T : List Row} {i : Nat} {tk tn : Tok}
   (H : At w A s.heap 16 400) (W : WF T) (TT : TreeAt w s.heap t T) (hi : i < T.length) :
   wpAny (model prg w) A (call (.ref 133) [.ref t, .int (i : Int) tk, .str (Str.ofString "attribute") tn]) (Back s (ShortOut s (shortL T i .attribute))) NoErr s := by
  refine' enter (binds := [(Str.ofString "tree", .ref t), (Str.ofString "node", .int (i : Int) tk), (Str.ofString "name", .str (Str.ofString "attribute") tn)]) H (by k_extra "om") (by k_extra "om") (by k_is) (by k_is) (BindsTo.of_eq rfl) (locs rfl) ?_ (by decide) rfl rfl rfl
  intro h₁ gn9 dr9 os9 A9 L9 tk9 pr9 loose9 mean9 mg9 mb9 F' N' X' T' C' hroom hun K9 hK9
  (try dsimp only)
  cases hke : kd T i == Str.ofString "element" with
  | true =>
    k_steps
    refine endK hK9 (by k_asm) ?_
    simp only [ShortOut, shortL, hke, if_true]
    exact ⟨_, _, _, rfl, News.fresh (by k_asm) (by k_mem), News.get (by k_asm) (by k_mem), by with_reducible assumption⟩
  | false =>
    k_steps
    refine endK hK9 (by k_asm) ?_
    simp only [ShortOut, shortL, hke, Bool.false_eq_true, if_false]
    exact ⟨_, [], _, rfl, News.fresh (by k_asm) (by k_mem), News.get (by k_asm) (by k_mem), .nil⟩
theorem short_axis_precedingSibling {w : World} {A : Around} {s : Shared} {t : Addr} {T : List Row} {i : Nat} {tk tn : Tok}
   (H : At w A s.heap 16 400) (W : WF T) (TT : TreeAt w s.heap t T) (hi : i < T.length) :
   wpAny (model prg w) A (call (.ref 133) [.ref t, .int (i : Int) tk, .str (Str.ofString "preceding-sibling") tn]) (Back s (ShortOut s (shortL T i .precedingSibling))) NoErr s := by
  refine' enter (binds := [(Str.ofString "tree", .ref t), (Str.ofString "node", .int (i : Int) tk), (Str.ofString "name", .str (Str.ofString "preceding-sibling") tn)]) H (by k_extra "om") (by k_extra "om") (by k_is) (by k_is) (BindsTo.of_eq rfl) (locs rfl) ?_ (by decide) rfl rfl rfl
  intro h₁ gn9 dr9 os9 A9 L9 tk9 pr9 loose9 mean9 mg9 mb9 F' N' X' T' C' hroom hun K9 hK9
  (try dsimp only)
  k_steps
  refine endK hK9 (by k_asm) ?_
  exact ⟨_, _, _, rfl, News.fresh (by k_asm) (by k_mem), News.get (by k_asm) (by k_mem), by with_reducible assumption⟩
example : True := by w_top off; trivial
theorem fol_len {T : List Row} (W : WF T) {i : Nat} (hi : i < T.length) : (fol T i).length ≤ 9000 := by
  have key : ∀ j, j < T.length → ((j :: anc T j).flatMap fun h => (sibB T h).flatMap (pre T)).length ≤ 8400 := fun j hj => by
    have h1 := flat_len (B := 400) (f := fun h => (sibB T h).flatMap (pre T)) (j :: anc T j) fun x hx => by
      have hxl : x < T.length := by
        rcases List.mem_cons.mp hx with rfl | hx
        · assumption
        · exact anc_in W hj hx
      have := pres_len W (l := sibB T x) fun y hy => sibB_lt W hy
      have := sibB_len W hxl
      omega
    have := anc_len W hj
    rw [List.length_cons] at h1
    omega
  have hu : up T i < T.length := by
    unfold up
    split
    · rename_i hb
      obtain ⟨p, hp⟩ := W.bes_par i hb
      rw [hp]; exact (W.par_len hp).2
    · exact hi
  unfold fol
  rw [List.length_append]
  have := key _ hu
  have h2 := desc_len W hu
  split
  · omega
  · rw [List.length_nil]; omega
theorem prc_len {T : List Row} (W : WF T) {i : Nat} (hi : i < T.length) : (prc T i).length ≤ 9000 := by
  have key : ∀ j, j < T.length → ((j :: anc T j).flatMap fun h => (sibA T h).flatMap fun x => (pre T x).reverse).length ≤ 8400 := fun j hj => by
    have h1 := flat_len (B := 400) (f := fun h => (sibA T h).flatMap fun x => (pre T x).reverse) (j :: anc T j) fun x hx => by
      have hxl : x < T.length := by
        rcases List.mem_cons.mp hx with rfl | hx
        · assumption
        · exact anc_in W hj hx
      have := flat_len (B := 20) (f := fun x => (pre T x).reverse) (sibA T x) fun y hy => by rw [List.length_reverse]; exact pre_len W (sibA_lt W hy)
      have := sibA_len W hxl
      omega
    have := anc_len W hj
    rw [List.length_cons] at h1
    omega
  have hu : up T i < T.length := by
    unfold up
    split
    · rename_i hb
      obtain ⟨p, hp⟩ := W.bes_par i hb
      rw [hp]; exact (W.par_len hp).2
    · exact hi
  unfold prc
  exact Nat.le_trans (key _ hu) (by k_extra "om")
theorem following_U {w : World} {A : Around} {s : Shared} {g : Heap} {L : Addr} {m : Str → Option Value} {news : List (Addr × Obj)} {t : Addr} {T : List Row} {i : Nat} {tk : Tok} {dp un : Nat} {Q E : Value → Shared → Prop}
   (C : Callee w A g L dp un) (F : Fr g L s.heap m) (N : News g L s.heap news) (W : WF T) (TT : TreeAt w g t T) (hi : i < T.length) (hd : 20 ≤ dp) (hu : 600 ≤ un)
   (k : ∀ a vs n h' tk', Fr g L h' m → News g L h' ((a, listOf (List.toArray vs) n) :: news) → (∀ p ∈ news, @Ne Nat p.1 a) → IntsAre vs (nat (fol T i)) → (nat (fol T i)).length ≤ 10000 → Q (.ref a) { s with heap := h', toks := tk' }) :
   wpAny (model prg w) A (call (.ref 114) [.ref t, .int (i : Int) tk]) Q E s :=
  useL (following_C (C.at F hd hu) W (TT.keep F.keep) hi) F N fun a vs n h' tk' F' N' l1 hi' => k a vs n h' tk' F' N' l1 hi' (by rw [nat_len]; have := fol_len W hi; omega)
theorem preceding_U {w : World} {A : Around} {s : Shared} {g : Heap} {L : Addr} {m : Str → Option Value} {news : List (Addr × Obj)} {t : Addr} {T : List Row} {i : Nat} {tk : Tok} {dp un : Nat} {Q E : Value → Shared → Prop}
   (C : Callee w A g L dp un) (F : Fr g L s.heap m) (N : News g L s.heap news) (W : WF T) (TT : TreeAt w g t T) (hi : i < T.length) (hd : 20 ≤ dp) (hu : 600 ≤ un)
   (k : ∀ a vs n h' tk', Fr g L h' m → News g L h' ((a, listOf (List.toArray vs) n) :: news) → (∀ p ∈ news, @Ne Nat p.1 a) → IntsAre vs (nat (prc T i)) → (nat (prc T i)).length ≤ 10000 → Q (.ref a) { s with heap := h', toks := tk' }) :
   wpAny (model prg w) A (call (.ref 121) [.ref t, .int (i : Int) tk]) Q E s :=
  useL (preceding_C (C.at F hd hu) W (TT.keep F.keep) hi) F N fun a vs n h' tk' F' N' l1 hi' => k a vs n h' tk' F' N' l1 hi' (by rw [nat_len]; have := prc_len W hi; omega)
example : True := by
  (k_with "call ref" => (k_here; (with_reducible show wpAny _ _ (call (Value.ref 79) _) _ _ _); k_dflt (refine' descendants_U (by with_reducible assumption) (by k_asm) (by k_asm) (by with_reducible assumption) (by with_reducible assumption) (by k_extra "lt") (by k_extra "om") (by k_extra "om") ?_); intro _ _ _ _ _ _ _ _ _ _; (try k_sweep); (try k_extra "nne")))
  (k_with "call ref" => (k_here; (with_reducible show wpAny _ _ (call (Value.ref 86) _) _ _ _); k_dflt (refine' ancestors_U (by with_reducible assumption) (by k_asm) (by k_asm) (by with_reducible assumption) (by with_reducible assumption) (by k_extra "lt") (by k_extra "om") (by k_extra "om") ?_); intro _ _ _ _ _ _ _ _ _ _; (try k_sweep); (try k_extra "nne")))
  (k_with "call ref" => (k_here; (with_reducible show wpAny _ _ (call (Value.ref 114) _) _ _ _); k_dflt (refine' following_U (by with_reducible assumption) (by k_asm) (by k_asm) (by with_reducible assumption) (by with_reducible assumption) (by k_extra "lt") (by k_extra "om") (by k_extra "om") ?_); intro _ _ _ _ _ _ _ _ _ _; (try k_sweep); (try k_extra "nne")))
  (k_with "call ref" => (k_here; (with_reducible show wpAny _ _ (call (Value.ref 121) _) _ _ _); k_dflt (refine' preceding_U (by with_reducible assumption) (by k_asm) (by k_asm) (by with_reducible assumption) (by with_reducible assumption) (by k_extra "lt") (by k_extra "om") (by k_extra "om") ?_); intro _ _ _ _ _ _ _ _ _ _; (try k_sweep); (try k_extra "nne")))
  trivial
theorem short_child_U {w : World} {A : Around} {s : Shared} {g : Heap} {L : Addr} {m : Str → Option Value} {news : List (Addr × Obj)} {t : Addr} {T : List Row} {i : Nat} {tk tn : Tok} {dp un : Nat} {Q E : Value → Shared → Prop}
   (C : Callee w A g L dp un) (F : Fr g L s.heap m) (N : News g L s.heap news) (W : WF T) (TT : TreeAt w g t T) (hi : i < T.length) (hd : 16 ≤ dp) (hu : 400 ≤ un)
   (k : ∀ a vs n h' tk', Fr g L h' m → News g L h' ((a, listOf (List.toArray vs) n) :: news) → (∀ p ∈ news, @Ne Nat p.1 a) → IntsAre vs (nat (ch T i)) → Q (.ref a) { s with heap := h', toks := tk' }) :
   wpAny (model prg w) A (call (.ref 133) [.ref t, .int (i : Int) tk, .str (Str.ofString "child") tn]) Q E s :=
  useL (ns := nat (ch T i)) (short_axis_child (C.at F hd hu) W (TT.keep F.keep) hi) F N k
example : True := by
  (k_with "call ref" => (k_here; (with_reducible show wpAny _ _ (call (Value.ref 133) [_, _, Value.str (Str.ofString "child") _]) _ _ _); k_dflt (refine' short_child_U (by with_reducible assumption) (by k_asm) (by k_asm) (by with_reducible assumption) (by with_reducible assumption) (by k_extra "lt") (by k_extra "om") (by k_extra "om") ?_); intro _ _ _ _ _ _ _ _ _; (try k_sweep); (try k_extra "nne")))
  trivial
theorem short_descendant_U {w : World} {A : Around} {s : Shared} {g : Heap} {L : Addr} {m : Str → Option Value} {news : List (Addr × Obj)} {t : Addr} {T : List Row} {i : Nat} {tk tn : Tok} {dp un : Nat} {Q E : Value → Shared → Prop}
   (C : Callee w A g L dp un) (F : Fr g L s.heap m) (N : News g L s.heap news) (W : WF T) (TT : TreeAt w g t T) (hi : i < T.length) (hd : 16 ≤ dp) (hu : 400 ≤ un)
   (k : ∀ h' tk', Fr g L h' m → News g L h' news → Q .none { s with heap := h', toks := tk' }) :
   wpAny (model prg w) A (call (.ref 133) [.ref t, .int (i : Int) tk, .str (Str.ofString "descendant") tn]) Q E s :=
  use (short_axis_descendant (C.at F hd hu) W (TT.keep F.keep) hi) F N fun v h' tk' F' N' _ e => by
    obtain rfl : v = .none := e
    exact k h' tk' F' N'
example : True := by
  (k_with "call ref" => (k_here; (with_reducible show wpAny _ _ (call (Value.ref 133) [_, _, Value.str (Str.ofString "descendant") _]) _ _ _); k_dflt (refine' short_descendant_U (by with_reducible assumption) (by k_asm) (by k_asm) (by with_reducible assumption) (by with_reducible assumption) (by k_extra "lt") (by k_extra "om") (by k_extra "om") ?_); intro _ _ _ _; (try k_sweep)))
  trivial
theorem short_ancestorOrSelf_U {w : World} {A : Around} {s : Shared} {g : Heap} {L : Addr} {m : Str → Option Value} {news : List (Addr × Obj)} {t : Addr} {T : List Row} {i : Nat} {tk tn : Tok} {dp un : Nat} {Q E : Value → Shared → Prop}
   (C : Callee w A g L dp un) (F : Fr g L s.heap m) (N : News g L s.heap news) (W : WF T) (TT : TreeAt w g t T) (hi : i < T.length) (hd : 16 ≤ dp) (hu : 400 ≤ un)
   (k : ∀ h' tk', Fr g L h' m → News g L h' news → Q .none { s with heap := h', toks := tk' }) :
   wpAny (model prg w) A (call (.ref 133) [.ref t, .int (i : Int) tk, .str (Str.ofString "ancestor-or-self") tn]) Q E s :=
  use (short_axis_ancestorOrSelf (C.at F hd hu) W (TT.keep F.keep) hi) F N fun v h' tk' F' N' _ e => by
    obtain rfl : v = .none := e
    exact k h' tk' F' N'
example : True := by
  (k_with "call ref" => (k_here; (with_reducible show wpAny _ _ (call (Value.ref 133) [_, _, Value.str (Str.ofString "ancestor-or-self") _]) _ _ _); k_dflt (refine' short_ancestorOrSelf_U (by with_reducible assumption) (by k_asm) (by k_asm) (by with_reducible assumption) (by with_reducible assumption) (by k_extra "lt") (by k_extra "om") (by k_extra "om") ?_); intro _ _ _ _; (try k_sweep)))
  trivial
theorem short_preceding_U {w : World} {A : Around} {s : Shared} {g : Heap} {L : Addr} {m : Str → Option Value} {news : List (Addr × Obj)} {t : Addr} {T : List Row} {i : Nat} {tk tn : Tok} {dp un : Nat} {Q E : Value → Shared → Prop}
   (C : Callee w A g L dp un) (F : Fr g L s.heap m) (N : News g L s.heap news) (W : WF T) (TT : TreeAt w g t T) (hi : i < T.length) (hd : 16 ≤ dp) (hu : 400 ≤ un)
   (k : ∀ h' tk', Fr g L h' m → News g L h' news → Q .none { s with heap := h', toks := tk' }) :
   wpAny (model prg w) A (call (.ref 133) [.ref t, .int (i : Int) tk, .str (Str.ofString "preceding") tn]) Q E s :=
  use (short_axis_preceding (C.at F hd hu) W (TT.keep F.keep) hi) F N fun v h' tk' F' N' _ e => by
    obtain rfl : v = .none := e
    exact k h' tk' F' N'
example : True := by
  (k_with "call ref" => (k_here; (with_reducible show wpAny _ _ (call (Value.ref 133) [_, _, Value.str (Str.ofString "preceding") _]) _ _ _); k_dflt (refine' short_preceding_U (by with_reducible assumption) (by k_asm) (by k_asm) (by with_reducible assumption) (by with_reducible assumption) (by k_extra "lt") (by k_extra "om") (by k_extra "om") ?_); intro _ _ _ _; (try k_sweep)))
  trivial
theorem short_following_U {w : World} {A : Around} {s : Shared} {g : Heap} {L : Addr} {m : Str → Option Value} {news : List (Addr × Obj)} {t : Addr} {T : List Row} {i : Nat} {tk tn : Tok} {dp un : Nat} {Q E : Value → Shared → Prop}
   (C : Callee w A g L dp un) (F : Fr g L s.heap m) (N : News g L s.heap news) (W : WF T) (TT : TreeAt w g t T) (hi : i < T.length) (hd : 16 ≤ dp) (hu : 400 ≤ un)
   (k : ∀ h' tk', Fr g L h' m → News g L h' news → Q .none { s with heap := h', toks := tk' }) :
   wpAny (model prg w) A (call (.ref 133) [.ref t, .int (i : Int) tk, .str (Str.ofString "following") tn]) Q E s :=
  use (short_axis_following (C.at F hd hu) W (TT.keep F.keep) hi) F N fun v h' tk' F' N' _ e => by
    obtain rfl : v = .none := e
    exact k h' tk' F' N'
example : True := by
  (k_with "call ref" => (k_here; (with_reducible show wpAny _ _ (call (Value.ref 133) [_, _, Value.str (Str.ofString "following") _]) _ _ _); k_dflt (refine' short_following_U (by with_reducible assumption) (by k_asm) (by k_asm) (by with_reducible assumption) (by with_reducible assumption) (by k_extra "lt") (by k_extra "om") (by k_extra "om") ?_); intro _ _ _ _; (try k_sweep)))
  trivial
theorem short_attribute_U {w : World} {A : Around} {s : Shared} {g : Heap} {L : Addr} {m : Str → Option Value} {news : List (Addr × Obj)} {t : Addr} {T : List Row} {i : Nat} {tk tn : Tok} {dp un : Nat} {Q E : Value → Shared → Prop}
   (C : Callee w A g L dp un) (F : Fr g L s.heap m) (N : News g L s.heap news) (W : WF T) (TT : TreeAt w g t T) (hi : i < T.length) (hd : 16 ≤ dp) (hu : 400 ≤ un)
   (k : ∀ a vs n h' tk', Fr g L h' m → News g L h' ((a, listOf (List.toArray vs) n) :: news) → (∀ p ∈ news, @Ne Nat p.1 a) → IntsAre vs (nat (if kd T i == Str.ofString "element" then atl T i else [])) → Q (.ref a) { s with heap := h', toks := tk' }) :
   wpAny (model prg w) A (call (.ref 133) [.ref t, .int (i : Int) tk, .str (Str.ofString "attribute") tn]) Q E s :=
  useL (ns := nat (if kd T i == Str.ofString "element" then atl T i else [])) (short_axis_attribute (C.at F hd hu) W (TT.keep F.keep) hi) F N k
example : True := by
  (k_with "call ref" => (k_here; (with_reducible show wpAny _ _ (call (Value.ref 133) [_, _, Value.str (Str.ofString "attribute") _]) _ _ _); k_dflt (refine' short_attribute_U (by with_reducible assumption) (by k_asm) (by k_asm) (by with_reducible assumption) (by with_reducible assumption) (by k_extra "lt") (by k_extra "om") (by k_extra "om") ?_); intro _ _ _ _ _ _ _ _ _; (try k_sweep); (try k_extra "nne")))
  trivial
theorem short_precedingSibling_U {w : World} {A : Around} {s : Shared} {g : Heap} {L : Addr} {m : Str → Option Value} {news : List (Addr × Obj)} {t : Addr} {T : List Row} {i : Nat} {tk tn : Tok} {dp un : Nat} {Q E : Value → Shared → Prop}
   (C : Callee w A g L dp un) (F : Fr g L s.heap m) (N : News g L s.heap news) (W : WF T) (TT : TreeAt w g t T) (hi : i < T.length) (hd : 16 ≤ dp) (hu : 400 ≤ un)
   (k : ∀ a vs n h' tk', Fr g L h' m → News g L h' ((a, listOf (List.toArray vs) n) :: news) → (∀ p ∈ news, @Ne Nat p.1 a) → IntsAre vs (nat (sibA T i)) → Q (.ref a) { s with heap := h', toks := tk' }) :
   wpAny (model prg w) A (call (.ref 133) [.ref t, .int (i : Int) tk, .str (Str.ofString "preceding-sibling") tn]) Q E s :=
  useL (ns := nat (sibA T i)) (short_axis_precedingSibling (C.at F hd hu) W (TT.keep F.keep) hi) F N k
example : True := by
  (k_with "call ref" => (k_here; (with_reducible show wpAny _ _ (call (Value.ref 133) [_, _, Value.str (Str.ofString "preceding-sibling") _]) _ _ _); k_dflt (refine' short_precedingSibling_U (by with_reducible assumption) (by k_asm) (by k_asm) (by with_reducible assumption) (by with_reducible assumption) (by k_extra "lt") (by k_extra "om") (by k_extra "om") ?_); intro _ _ _ _ _ _ _ _ _; (try k_sweep); (try k_extra "nne")))
  trivial
theorem axis_child {w : World} {A : Around} {s : Shared} {t : Addr} {T : List Row} {i : Nat} {tk tn : Tok}
   (H : At w A s.heap 24 800) (W : WF T) (TT : TreeAt w s.heap t T) (hi : i < T.length) :
   wpAny (model prg w) A (call (.ref 140) [.ref t, .int (i : Int) tk, .str (Str.ofString "child") tn]) (Back s (ListOut s (nat (axisL T i .child)))) NoErr s := by
  refine' enter (binds := [(Str.ofString "tree", .ref t), (Str.ofString "node", .int (i : Int) tk), (Str.ofString "name", .str (Str.ofString "child") tn)]) H (by k_extra "om") (by k_extra "om") (by k_is) (by k_is) (BindsTo.of_eq rfl) (locs rfl) ?_ (by decide) rfl rfl rfl
  intro h₁ gn9 dr9 os9 A9 L9 tk9 pr9 loose9 mean9 mg9 mb9 F' N' X' T' C' hroom hun K9 hK9
  (try dsimp only)
  k_steps
  refine endK hK9 (by k_asm) ?_
  dsimp only [axisL]
  exact ⟨_, _, _, rfl, News.fresh (by k_asm) (by k_mem), News.get (by k_asm) (by k_mem), by with_reducible assumption⟩
theorem axis_descendant {w : World} {A : Around} {s : Shared} {t : Addr} {T : List Row} {i : Nat} {tk tn : Tok}
   (H : At w A s.heap 24 800) (W : WF T) (TT : TreeAt w s.heap t T) (hi : i < T.length) :
   wpAny (model prg w) A (call (.ref 140) [.ref t, .int (i : Int) tk, .str (Str.ofString "descendant") tn]) (Back s (ListOut s (nat (axisL T i .descendant)))) NoErr s := by
  refine' enter (binds := [(Str.ofString "tree", .ref t), (Str.ofString "node", .int (i : Int) tk), (Str.ofString "name", .str (Str.ofString "descendant") tn)]) H (by k_extra "om") (by k_extra "om") (by k_is) (by k_is) (BindsTo.of_eq rfl) (locs rfl) ?_ (by decide) rfl rfl rfl
  intro h₁ gn9 dr9 os9 A9 L9 tk9 pr9 loose9 mean9 mg9 mb9 F' N' X' T' C' hroom hun K9 hK9
  (try dsimp only)
  k_steps
  refine endK hK9 (by k_asm) ?_
  dsimp only [axisL]
  exact ⟨_, _, _, rfl, News.fresh (by k_asm) (by k_mem), News.get (by k_asm) (by k_mem), by with_reducible assumption⟩
theorem axis_ancestorOrSelf {w : World} {A : Around} {s : Shared} {t : Addr} {T : List Row} {i : Nat} {tk tn : Tok}
   (H : At w A s.heap 24 800) (W : WF T) (TT : TreeAt w s.heap t T) (hi : i < T.length) :
   wpAny (model prg w) A (call (.ref 140) [.ref t, .int (i : Int) tk, .str (Str.ofString "ancestor-or-self") tn]) (Back s (ListOut s (nat (axisL T i .ancestorOrSelf)))) NoErr s := by
  refine' enter (binds := [(Str.ofString "tree", .ref t), (Str.ofString "node", .int (i : Int) tk), (Str.ofString "name", .str (Str.ofString "ancestor-or-self") tn)]) H (by k_extra "om") (by k_extra "om") (by k_is) (by k_is) (BindsTo.of_eq rfl) (locs rfl) ?_ (by decide) rfl rfl rfl
  intro h₁ gn9 dr9 os9 A9 L9 tk9 pr9 loose9 mean9 mg9 mb9 F' N' X' T' C' hroom hun K9 hK9
  (try dsimp only)
  k_steps
  refine endK hK9 (by k_asm) ?_
  dsimp only [axisL]
  exact ⟨_, _, _, rfl, News.fresh (by k_asm) (by k_mem), News.get (by k_asm) (by k_mem), by assumption⟩
theorem axis_preceding {w : World} {A : Around} {s : Shared} {t : Addr} {T : List Row} {i : Nat} {tk tn : Tok}
   (H : At w A s.heap 24 800) (W : WF T) (TT : TreeAt w s.heap t T) (hi : i < T.length) :
   wpAny (model prg w) A (call (.ref 140) [.ref t, .int (i : Int) tk, .str (Str.ofString "preceding") tn]) (Back s (ListOut s (nat (axisL T i .preceding)))) NoErr s := by
  refine' enter (binds := [(Str.ofString "tree", .ref t), (Str.ofString "node", .int (i : Int) tk), (Str.ofString "name", .str (Str.ofString "preceding") tn)]) H (by k_extra "om") (by k_extra "om") (by k_is) (by k_is) (BindsTo.of_eq rfl) (locs rfl) ?_ (by decide) rfl rfl rfl
  intro h₁ gn9 dr9 os9 A9 L9 tk9 pr9 loose9 mean9 mg9 mb9 F' N' X' T' C' hroom hun K9 hK9
  (try dsimp only)
  k_steps
  refine endK hK9 (by k_asm) ?_
  dsimp only [axisL]
  exact ⟨_, _, _, rfl, News.fresh (by k_asm) (by k_mem), News.get (by k_asm) (by k_mem), by with_reducible assumption⟩
theorem axis_following {w : World} {A : Around} {s : Shared} {t : Addr} {T : List Row} {i : Nat} {tk tn : Tok}
   (H : At w A s.heap 24 800) (W : WF T) (TT : TreeAt w s.heap t T) (hi : i < T.length) :
   wpAny (model prg w) A (call (.ref 140) [.ref t, .int (i : Int) tk, .str (Str.ofString "following") tn]) (Back s (ListOut s (nat (axisL T i .following)))) NoErr s := by
  refine' enter (binds := [(Str.ofString "tree", .ref t), (Str.ofString "node", .int (i : Int) tk), (Str.ofString "name", .str (Str.ofString "following") tn)]) H (by k_extra "om") (by k_extra "om") (by k_is) (by k_is) (BindsTo.of_eq rfl) (locs rfl) ?_ (by decide) rfl rfl rfl
  intro h₁ gn9 dr9 os9 A9 L9 tk9 pr9 loose9 mean9 mg9 mb9 F' N' X' T' C' hroom hun K9 hK9
  (try dsimp only)
  k_steps
  refine endK hK9 (by k_asm) ?_
  dsimp only [axisL]
  exact ⟨_, _, _, rfl, News.fresh (by k_asm) (by k_mem), News.get (by k_asm) (by k_mem), by with_reducible assumption⟩
theorem axis_attribute {w : World} {A : Around} {s : Shared} {t : Addr} {T : List Row} {i : Nat} {tk tn : Tok}
   (H : At w A s.heap 24 800) (W : WF T) (TT : TreeAt w s.heap t T) (hi : i < T.length) :
   wpAny (model prg w) A (call (.ref 140) [.ref t, .int (i : Int) tk, .str (Str.ofString "attribute") tn]) (Back s (ListOut s (nat (axisL T i .attribute)))) NoErr s := by
  refine' enter (binds := [(Str.ofString "tree", .ref t), (Str.ofString "node", .int (i : Int) tk), (Str.ofString "name", .str (Str.ofString "attribute") tn)]) H (by k_extra "om") (by k_extra "om") (by k_is) (by k_is) (BindsTo.of_eq rfl) (locs rfl) ?_ (by decide) rfl rfl rfl
  intro h₁ gn9 dr9 os9 A9 L9 tk9 pr9 loose9 mean9 mg9 mb9 F' N' X' T' C' hroom hun K9 hK9
  (try dsimp only)
  k_steps
  refine endK hK9 (by k_asm) ?_
  dsimp only [axisL]
  exact ⟨_, _, _, rfl, News.fresh (by k_asm) (by k_mem), News.get (by k_asm) (by k_mem), by with_reducible assumption⟩
theorem axis_precedingSibling {w : World} {A : Around} {s : Shared} {t : Addr} {T : List Row} {i : Nat} {tk tn : Tok}
   (H : At w A s.heap 24 800) (W : WF T) (TT : TreeAt w s.heap t T) (hi : i < T.length) :
   wpAny (model prg w) A (call (.ref 140) [.ref t, .int (i : Int) tk, .str (Str.ofString "preceding-sibling") tn]) (Back s (ListOut s (nat (axisL T i .precedingSibling)))) NoErr s := by
  refine' enter (binds := [(Str.ofString "tree", .ref t), (Str.ofString "node", .int (i : Int) tk), (Str.ofString "name", .str (Str.ofString "preceding-sibling") tn)]) H (by k_extra "om") (by k_extra "om") (by k_is) (by k_is) (BindsTo.of_eq rfl) (locs rfl) ?_ (by decide) rfl rfl rfl
  intro h₁ gn9 dr9 os9 A9 L9 tk9 pr9 loose9 mean9 mg9 mb9 F' N' X' T' C' hroom hun K9 hK9
  (try dsimp only)
  k_steps
  refine endK hK9 (by k_asm) ?_
  dsimp only [axisL]
  exact ⟨_, _, _, rfl, News.fresh (by k_asm) (by k_mem), News.get (by k_asm) (by k_mem), by with_reducible assumption⟩
theorem axis_C {w : World} {A : Around} {s : Shared} {t : Addr} {T : List Row} {i : Nat} {tk tn : Tok} (ax : Ax)
   (H : At w A s.heap 24 800) (W : WF T) (TT : TreeAt w s.heap t T) (hi : i < T.length) :
   wpAny (model prg w) A (call (.ref 140) [.ref t, .int (i : Int) tk, .str ax.str tn]) (Back s (ListOut s (nat (axisL T i ax)))) NoErr s := by
  cases ax
  · exact axis_child H W TT hi
  · exact axis_descendant H W TT hi
  · exact axis_ancestorOrSelf H W TT hi
  · exact axis_preceding H W TT hi
  · exact axis_following H W TT hi
  · exact axis_attribute H W TT hi
  · exact axis_precedingSibling H W TT hi
example : True := by w_top off; trivial
inductive Ts where
  | node | any | nameA | nameK | text | comment
noncomputable def Ts.items : Ts → List String
  | .node => ["node"]
  | .any => ["any"]
  | .nameA => ["name", "", "a"]
  | .nameK => ["name", "", "k"]
  | .text => ["text"]
  | .comment => ["comment"]
inductive StrVals : List Value → List String → Prop
  | nil : StrVals [] []
  | cons {x : String} {t : Tok} {vs : List Value} {xs : List String} : StrVals vs xs → StrVals (.str (Str.ofString x) t :: vs) (x :: xs)
theorem strVals1 {vs : List Value} {x : String} (h : StrVals vs [x]) : ∃ t, vs = [.str (Str.ofString x) t] := by
  cases h with
  | cons h => cases h; exact ⟨_, rfl⟩
theorem strVals3 {vs : List Value} {x y z : String} (h : StrVals vs [x, y, z]) : ∃ t u v, vs = [.str (Str.ofString x) t, .str (Str.ofString y) u, .str (Str.ofString z) v] := by
  cases h with
  | cons h => cases h with
    | cons h => cases h with
      | cons h => cases h; exact ⟨_, _, _, rfl⟩
inductive TestAt (h : Heap) (a : Addr) (ts : Ts) : Prop
  | mk (vs : _) (n : _) (e1 : h.get? a = some { cls := .type "tuple", data := .seq (List.toArray vs) n }) (e2 : StrVals vs ts.items) : TestAt h a ts
theorem TestAt.keep {h h' : Heap} {a : Addr} {ts : Ts} (H : TestAt h a ts) (k : ∀ b o, h.get? b = some o → h'.get? b = some o) : TestAt h' a ts := let ⟨vs, n, e, i⟩ := H; ⟨vs, n, k _ _ e, i⟩
noncomputable def princ (x : Str) : Str := if [Str.ofString "attribute", Str.ofString "namespace"].any fun y => y == x then x else Str.ofString "element"
noncomputable def passB (T : List Row) (i : Nat) (x : Str) : Ts → Bool
  | .node => true
  | .any => kd T i == princ x
  | .nameA => kd T i == princ x && lo T i == Str.ofString "a"
  | .nameK => kd T i == princ x && lo T i == Str.ofString "k"
  | .text => kd T i == Str.ofString "text"
  | .comment => kd T i == Str.ofString "comment"
theorem isTup_base {g h : Heap} {L : Addr} {m : Str → Option Value} {l : Addr} {vs : List Value} {n : Nat} (F : Fr g L h m) (e : g.get? l = some { cls := .type "tuple", data := .seq (List.toArray vs) n }) : IsTup h l vs.toArray := ⟨_, F.keep _ _ e, rfl, n, rfl⟩
example : True := by
  (k_with "tupat" => exact isTup_base (by k_asm) (by with_reducible assumption))
  (k_with "subscriptTail Name Constant ref int" => (k_here; (with_reducible show wpAny _ _ (subscriptTail _ _ (Value.ref _) (Value.int _ _)) _ _ _); k_dflt (refine' item_tupleT (by exact isTup_base (by k_asm) (by with_reducible assumption)) (by decide) (by decide) (by rfl) (by rfl) ?_; k_whole)))
  trivial
theorem principal_kind_C {w : World} {A : Around} {s : Shared} {x : Str} {tx : Tok}
   (H : At w A s.heap 6 100) :
   wpAny (model prg w) A (call (.ref 147) [.str x tx]) (Back s fun v h' => ∃ u, v = .str (princ x) u) NoErr s := by
  refine' enter (binds := [(Str.ofString "axis", .str x tx)]) H (by k_extra "om") (by k_extra "om") (by k_is) (by k_is) (BindsTo.of_eq rfl) (locs rfl) ?_ (by decide) rfl rfl rfl
  intro h₁ gn9 dr9 os9 A9 L9 tk9 pr9 loose9 mean9 mg9 mb9 F' N' X' T' C' hroom hun K9 hK9
  (try dsimp only)
  cases hb : ([Str.ofString "attribute", Str.ofString "namespace"].any fun y => y == x) with
  | true =>
    k_steps
    refine endK hK9 (by k_asm) ?_
    simp only [princ, hb, if_true]
    exact ⟨_, rfl⟩
  | false =>
    k_steps
    refine endK hK9 (by k_asm) ?_
    simp only [princ, hb, Bool.false_eq_true, if_false]
    exact ⟨_, rfl⟩
theorem bound_uri_C {w : World} {A : Around} {s : Shared} {d : Addr} {tx : Tok}
   (H : At w A s.heap 6 100) :
   wpAny (model prg w) A (call (.ref 154) [.str (Str.ofString "") tx, .ref d]) (Back s fun v h' => ∃ u, v = .str (Str.ofString "") u) NoErr s := by
  refine' enter (binds := [(Str.ofString "prefix", .str (Str.ofString "") tx), (Str.ofString "names", .ref d)]) H (by k_extra "om") (by k_extra "om") (by k_is) (by k_is) (BindsTo.of_eq rfl) (locs rfl) ?_ (by decide) rfl rfl rfl
  intro h₁ gn9 dr9 os9 A9 L9 tk9 pr9 loose9 mean9 mg9 mb9 F' N' X' T' C' hroom hun K9 hK9
  (try dsimp only)
  k_steps
  exact endK hK9 (by k_asm) ⟨_, rfl⟩
section
variable {w : World} {A : Around} {s : Shared} {g : Heap} {L : Addr} {m : Str → Option Value} {news : List (Addr × Obj)} {dp un : Nat} {Q E : Value → Shared → Prop}
theorem principal_kind_U {x : Str} {tx : Tok} (C : Callee w A g L dp un) (F : Fr g L s.heap m) (N : News g L s.heap news) (hd : 6 ≤ dp) (hu : 100 ≤ un)
   (k : ∀ u h' tk', Fr g L h' m → News g L h' news → Q (.str (princ x) u) { s with heap := h', toks := tk' }) :
   wpAny (model prg w) A (call (.ref 147) [.str x tx]) Q E s :=
  use (principal_kind_C (C.at F hd hu)) F N fun v h' tk' F' N' _ e => by obtain ⟨u, rfl⟩ := e; exact k u h' tk' F' N'
theorem bound_uri_U {d : Addr} {tx : Tok} (C : Callee w A g L dp un) (F : Fr g L s.heap m) (N : News g L s.heap news) (hd : 6 ≤ dp) (hu : 100 ≤ un)
   (k : ∀ u h' tk', Fr g L h' m → News g L h' news → Q (.str (Str.ofString "") u) { s with heap := h', toks := tk' }) :
   wpAny (model prg w) A (call (.ref 154) [.str (Str.ofString "") tx, .ref d]) Q E s :=
  use (bound_uri_C (C.at F hd hu)) F N fun v h' tk' F' N' _ e => by obtain ⟨u, rfl⟩ := e; exact k u h' tk' F' N'
end
example : True := by
  (k_with "call ref" => (k_here; (with_reducible show wpAny _ _ (call (Value.ref 147) _) _ _ _); k_dflt (refine' principal_kind_U (by with_reducible assumption) (by k_asm) (by k_asm) (by k_extra "om") (by k_extra "om") ?_); intro _ _ _ _ _; (try k_sweep)))
  (k_with "call ref" => (k_here; (with_reducible show wpAny _ _ (call (Value.ref 154) _) _ _ _); k_dflt (refine' bound_uri_U (by with_reducible assumption) (by k_asm) (by k_asm) (by k_extra "om") (by k_extra "om") ?_); intro _ _ _ _ _; (try k_sweep)))
  trivial
noncomputable def namedB (T : List Row) (i : Nat) (x : Str) : Bool :=
  if kd T i == Str.ofString "namespace" then nm T i == x else ([Str.ofString "element", Str.ofString "attribute"].any fun y => y == kd T i) && (lo T i == x && ur T i == Str.ofString "")
theorem is_named_C {w : World} {A : Around} {s : Shared} {t a d : Addr} {T : List Row} {i : Nat} {tk t0 t1 t2 : Tok} {n : Nat} {x : Str}
   (H : At w A s.heap 8 200) (TT : TreeAt w s.heap t T) (hi : i < T.length) (hT : s.heap.get? a = some { cls := .type "tuple", data := .seq (List.toArray [.str (Str.ofString "name") t0, .str (Str.ofString "") t1, .str x t2]) n }) :
   wpAny (model prg w) A (call (.ref 161) [.ref t, .int (i : Int) tk, .ref a, .ref d]) (Back s fun v h' => v = .bool (namedB T i x)) NoErr s := by
  refine' enter (binds := [(Str.ofString "tree", .ref t), (Str.ofString "node", .int (i : Int) tk), (Str.ofString "test", .ref a), (Str.ofString "names", .ref d)]) H (by k_extra "om") (by k_extra "om") (by k_is) (by k_is) (BindsTo.of_eq rfl) (locs rfl) ?_ (by decide) rfl rfl rfl
  intro h₁ gn9 dr9 os9 A9 L9 tk9 pr9 loose9 mean9 mg9 mb9 F' N' X' T' C' hroom hun K9 hK9
  (try dsimp only)
  k_steps
  all_goals
    refine endK hK9 (by k_asm) (congrArg Value.bool ?_)
    simp only [namedB, *, Bool.false_eq_true, if_true, if_false, Bool.false_and, Bool.true_and]
theorem is_named_U {w : World} {A : Around} {s : Shared} {g : Heap} {L : Addr} {m : Str → Option Value} {news : List (Addr × Obj)} {dp un : Nat} {Q E : Value → Shared → Prop} {t a d : Addr} {T : List Row} {i : Nat} {tk t0 t1 t2 : Tok} {n : Nat} {x : Str}
   (C : Callee w A g L dp un) (F : Fr g L s.heap m) (N : News g L s.heap news) (TT : TreeAt w g t T) (hi : i < T.length) (hT : g.get? a = some { cls := .type "tuple", data := .seq (List.toArray [.str (Str.ofString "name") t0, .str (Str.ofString "") t1, .str x t2]) n }) (hd : 8 ≤ dp) (hu : 200 ≤ un)
   (k : ∀ h' tk', Fr g L h' m → News g L h' news → Q (.bool (namedB T i x)) { s with heap := h', toks := tk' }) :
   wpAny (model prg w) A (call (.ref 161) [.ref t, .int (i : Int) tk, .ref a, .ref d]) Q E s :=
  use (is_named_C (C.at F hd hu) (TT.keep F.keep) hi (F.keep _ _ hT)) F N fun v h' tk' F' N' _ e => by subst e; exact k h' tk' F' N'
example : True := by
  (k_with "call ref" => (k_here; (with_reducible show wpAny _ _ (call (Value.ref 161) _) _ _ _); k_dflt (refine' is_named_U (by with_reducible assumption) (by k_asm) (by k_asm) (by with_reducible assumption) (by k_extra "lt") (by with_reducible assumption) (by k_extra "om") (by k_extra "om") ?_); intro _ _ _ _; (try k_sweep)))
  trivial
theorem passB_name {T : List Row} {i : Nat} {x y : Str} (hx : (Str.ofString "namespace" == x) = false) (hu : ur T i = Str.ofString "") (hn : namedB T i y = true) : (kd T i == princ x) = (kd T i == princ x && lo T i == y) := by
  have hp : princ x = Str.ofString "attribute" ∨ princ x = Str.ofString "element" := by
    unfold princ
    split
    · rename_i h
      simp only [List.any_cons, List.any_nil, hx, Bool.or_false] at h
      exact .inl (beq_iff_eq.mp h).symm
    · exact .inr rfl
  unfold namedB at hn
  split at hn
  · rename_i h
    have e := beq_iff_eq.mp h
    have : (kd T i == princ x) = false := by
      rw [e]
      rcases hp with h | h <;> rw [h] <;> decide
    rw [this]; rfl
  · simp only [Bool.and_eq_true] at hn
    rw [hn.2.1, Bool.and_true]
theorem passB_not {T : List Row} {i : Nat} {x y : Str} (hx : (Str.ofString "namespace" == x) = false) (hu : ur T i = Str.ofString "") (hn : namedB T i y = false) : (kd T i == princ x && lo T i == y) = false := by
  have hp : princ x = Str.ofString "attribute" ∨ princ x = Str.ofString "element" := by
    unfold princ
    split
    · rename_i h
      simp only [List.any_cons, List.any_nil, hx, Bool.or_false] at h
      exact .inl (beq_iff_eq.mp h).symm
    · exact .inr rfl
  cases h1 : kd T i == princ x with
  | false => rfl
  | true =>
    have e := beq_iff_eq.mp h1
    unfold namedB at hn
    rw [Bool.true_and]
    have hk : (kd T i == Str.ofString "namespace") = false := by
      rw [e]; rcases hp with h | h <;> rw [h] <;> decide
    have he : ([Str.ofString "element", Str.ofString "attribute"].any fun y => y == kd T i) = true := by
      rw [e]; rcases hp with h | h <;> rw [h] <;> decide
    rw [hk, he, hu] at hn
    simpa using hn
theorem passes_C {w : World} {A : Around} {s : Shared} {t a d : Addr} {T : List Row} {i : Nat} {tk tx : Tok} {x : Str} (ts : Ts)
   (H : At w A s.heap 12 300) (W : WF T) (TT : TreeAt w s.heap t T) (hi : i < T.length) (hx : (Str.ofString "namespace" == x) = false) (hT : TestAt s.heap a ts) :
   wpAny (model prg w) A (call (.ref 168) [.ref t, .int (i : Int) tk, .str x tx, .ref a, .ref d]) (Back s fun v h' => v = .bool (passB T i x ts)) NoErr s := by
  refine hidP fun P9 k9 => ?_
  obtain ⟨vs, n, ht, hv⟩ := hT
  refine k9 ?_; clear k9 P9
  refine' enter (binds := [(Str.ofString "tree", .ref t), (Str.ofString "node", .int (i : Int) tk), (Str.ofString "axis", .str x tx), (Str.ofString "test", .ref a), (Str.ofString "names", .ref d)]) H (by k_extra "om") (by k_extra "om") (by k_is) (by k_is) (BindsTo.of_eq rfl) (locs rfl) ?_ (by decide) rfl rfl rfl
  intro h₁ gn9 dr9 os9 A9 L9 tk9 pr9 loose9 mean9 mg9 mb9 F' N' X' T' C' hroom hun K9 hK9
  (try dsimp only)
  cases ts with
  | node =>
    refine hidP fun P9 k9 => ?_
    obtain ⟨t0, rfl⟩ := strVals1 hv
    refine k9 ?_; clear k9 P9
    k_steps
    exact endK hK9 (by k_asm) rfl
  | any =>
    refine hidP fun P9 k9 => ?_
    obtain ⟨t0, rfl⟩ := strVals1 hv
    refine k9 ?_; clear k9 P9
    k_steps
    exact endK hK9 (by k_asm) rfl
  | text =>
    refine hidP fun P9 k9 => ?_
    obtain ⟨t0, rfl⟩ := strVals1 hv
    refine k9 ?_; clear k9 P9
    k_steps
    exact endK hK9 (by k_asm) rfl
  | comment =>
    refine hidP fun P9 k9 => ?_
    obtain ⟨t0, rfl⟩ := strVals1 hv
    refine k9 ?_; clear k9 P9
    k_steps
    exact endK hK9 (by k_asm) rfl
  | nameA =>
    refine hidP fun P9 k9 => ?_
    obtain ⟨t0, t1, t2, rfl⟩ := strVals3 hv
    refine k9 ?_; clear k9 P9
    cases hn : namedB T i (Str.ofString "a") with
    | true =>
      k_steps
      refine endK hK9 (by k_asm) ?_
      rw [passB, ← passB_name hx (W.uri i) hn]
    | false =>
      k_steps
      refine endK hK9 (by k_asm) ?_
      simp only [passB, passB_not hx (W.uri i) hn, hn]
  | nameK =>
    refine hidP fun P9 k9 => ?_
    obtain ⟨t0, t1, t2, rfl⟩ := strVals3 hv
    refine k9 ?_; clear k9 P9
    cases hn : namedB T i (Str.ofString "k") with
    | true =>
      k_steps
      refine endK hK9 (by k_asm) ?_
      rw [passB, ← passB_name hx (W.uri i) hn]
    | false =>
      k_steps
      refine endK hK9 (by k_asm) ?_
      simp only [passB, passB_not hx (W.uri i) hn, hn]
example : True := by w_top off; trivial
theorem princ_attr {x : Str} (h : (x == Str.ofString "attribute") = true) : princ x = Str.ofString "attribute" := by
  have e := beq_iff_eq.mp h
  subst e
  decide
theorem princ_not {x : Str} (h : (x == Str.ofString "attribute") = false) (hx : (Str.ofString "namespace" == x) = false) : princ x = Str.ofString "element" := by
  have h' : (Str.ofString "attribute" == x) = false := by
    cases q : Str.ofString "attribute" == x with
    | false => rfl
    | true => rw [beq_iff_eq.mp q] at h; simp at h
  unfold princ
  simp only [List.any_cons, List.any_nil, h', hx, Bool.or_false, Bool.false_eq_true, if_false]
inductive LpJ (g : Heap) (L t a : Addr) (i : Nat) (T : List Row) (x : Str) (gn : Array GenState) (dr : Drawn) (os : OsState) : Shared → Prop
  | mk (h : Heap) (tk : Nat) (m : Str → Option Value) (tn uk uw : Tok) (F : Fr g L h m) (e1 : m (Str.ofString "tree") = some (.ref t)) (e2 : m (Str.ofString "node") = some (.int (i : Int) tn)) (e3 : m (Str.ofString "test") = some (.ref a)) (e4 : m (Str.ofString "kind") = some (.str (kd T i) uk)) (e5 : m (Str.ofString "wanted") = some (.str (princ x) uw)) : LpJ g L t a i T x gn dr os ⟨h, gn, dr, tk, os⟩
theorem law_passes_C {w : World} {A : Around} {s : Shared} {t a : Addr} {T : List Row} {i : Nat} {tk tx : Tok} {x : Str} (ts : Ts)
   (H : At w A s.heap 12 300) (W : WF T) (TT : TreeAt w s.heap t T) (hi : i < T.length) (hx : (Str.ofString "namespace" == x) = false) (hT : TestAt s.heap a ts) :
   wpAny (model prg w) A (call (.ref 525) [.ref t, .int (i : Int) tk, .str x tx, .ref a]) (Back s fun v h' => v = .bool (passB T i x ts)) NoErr s := by
  refine hidP fun P9 k9 => ?_
  obtain ⟨vs, n, ht, hv⟩ := hT
  refine k9 ?_; clear k9 P9
  refine' enter (binds := [(Str.ofString "tree", .ref t), (Str.ofString "node", .int (i : Int) tk), (Str.ofString "name", .str x tx), (Str.ofString "test", .ref a)]) H (by k_extra "om") (by k_extra "om") (by k_is) (by k_is) (BindsTo.of_eq rfl) (locs rfl) ?_ (by decide) rfl rfl rfl
  intro h₁ gn9 dr9 os9 A9 L9 tk9 pr9 loose9 mean9 mg9 mb9 F' N' X' T' C' hroom hun K9 hK9
  (try dsimp only)
  refine execs_mid (LpJ s.heap L9 t a i T x gn9 dr9 os9) ?_ fun s' hs => ?_
  · k_steps
    all_goals
      rename Fr _ _ _ _ => F0
      first
      | exact .mk _ _ _ _ _ _ F0 rfl rfl rfl rfl (congrArg (fun z => some (Value.str z _)) (princ_attr (by assumption)).symm)
      | exact .mk _ _ _ _ _ _ F0 rfl rfl rfl rfl (congrArg (fun z => some (Value.str z _)) (princ_not (by assumption) hx).symm)
      | exact trivial
  refine hidP fun P9 k9 => ?_
  obtain ⟨h2, tk2, m2, tn, uk, uw, F2, e1, e2, e3, e4, e5⟩ := hs
  have F3 := know_all [(Str.ofString "tree", .ref t), (Str.ofString "node", .int (i : Int) tn), (Str.ofString "test", .ref a), (Str.ofString "kind", .str (kd T i) uk), (Str.ofString "wanted", .str (princ x) uw)] F2 ⟨e1, e2, e3, e4, e5, trivial⟩
  refine k9 ?_; clear k9 P9
  have N3 : News s.heap L9 h2 [] := .nil
  clear F2 F' N' e1 e2 e3 e4 e5
  cases ts
  case nameA =>
    refine hidP fun P9 k9 => ?_
    obtain ⟨t0, t1, t2, rfl⟩ := strVals3 hv
    refine k9 ?_; clear k9 P9
    k_steps
    all_goals
      refine endK hK9 (by k_asm) (congrArg Value.bool ?_)
      simp only [passB, *, Bool.false_and, Bool.true_and]
  case nameK =>
    refine hidP fun P9 k9 => ?_
    obtain ⟨t0, t1, t2, rfl⟩ := strVals3 hv
    refine k9 ?_; clear k9 P9
    k_steps
    all_goals
      refine endK hK9 (by k_asm) (congrArg Value.bool ?_)
      simp only [passB, *, Bool.false_and, Bool.true_and]
  all_goals
    refine hidP fun P9 k9 => ?_
    obtain ⟨t0, rfl⟩ := strVals1 hv
    refine k9 ?_; clear k9 P9
    k_steps
    exact endK hK9 (by k_asm) rfl
example : True := by w_top off; trivial
inductive PairNx (g : Heap) (L : Addr) (own : List (Addr × Obj)) (J : (Str → Option Value) → List (Addr × Obj) → Prop) (s₁ s₂ : Shared) : Prop
  | mk (h' : Heap) (tk : Nat) (m' : Str → Option Value) (nx' : List (Addr × Obj)) (e : s₂ = { s₁ with heap := h', toks := tk }) (F : Fr g L h' m') (N : News g L h' (nx' ++ own)) (ne : ∀ q ∈ nx', ∀ p ∈ own, @Ne Nat q.1 p.1) (hJ : J m' nx') : PairNx g L own J s₁ s₂
noncomputable def PairOver (g : Heap) (L : Addr) (own : List (Addr × Obj)) (J : (Str → Option Value) → List (Addr × Obj) → Prop) (s₁ : Shared) (Q : Flow → Shared → Prop) (f : Flow) (s₂ : Shared) : Prop :=
  match f with
  | .ret v => Q (.ret v) s₂
  | .brk => Q .next s₂
  | _ => PairNx g L own J s₁ s₂
inductive RunI (g : Heap) (L : Addr) (St : Nat → Heap → Prop) (is : List Addr) (J : Nat → (Str → Option Value) → List (Addr × Obj) → Prop) (n : Nat) (s : Shared) (k : Nat) (s' : Shared) : Prop
  | mk (h' : Heap) (tk : Nat) (m' : Str → Option Value) (nx : List (Addr × Obj)) (i : Nat) (e : s' = { s with heap := h', toks := tk }) (st : St i h') (F : Fr g L h' m') (N : News g L h' nx) (ne : ∀ p ∈ nx, p.1 ∉ is) (hJ : J i m' nx) (hi : i ≤ n) (hk : k = n + 1 - i) : RunI g L St is J n s k s'
theorem run_lt {i n : Nat} (h : i < n) : n + 1 - (i + 1) < n + 1 - i := by omega
section
variable {prog : Program} {w : World} {A : Around} {s : Shared} {env : Env} {g : Heap} {Q : Flow → Shared → Prop}
theorem for_stmt {target iter : PySem.Expr} {body : List Stmt} {pos : Pos}
    (h : wpAny (model prog w) A (eval iter env) (fun xv s₁ => Stop (wpAny (model prog w) A (pyIter xv) (fun it s₂ => codeAny (model prog w) A (.forLoop target it body [] env) (fun r s' => match r with | .ok f => Q f s' | .error _ => False) s₂) NoErr s₁)) NoErr s)
    (hs : ∀ x, foldedSetIterable iter env x = pure x := by intro _; rfl) :
    wpAny (model prog w) A (exec (.For target iter body [] pos) env) Q NoErr s := by
  refine wpAny_For (wpAny_mono h (fun xv s₁ h₁ => wpAny_mono (show wpAny _ _ _ _ _ _ from h₁) (fun it s₂ h₂ => ?_) fun _ _ e => e.elim) fun _ _ e => e.elim) hs
  refine codeAny_mono h₂ fun r s' hr => ?_
  cases r with
  | ok f => exact hr
  | error e => exact hr.elim
theorem for_pairs {xi xc : Str} {pk pv pt : Pos} {x1 : Nat} {body : List Stmt} {I : Addr} {fp wr is ls : List Addr} {n : Nat} {Pt : Nat → Array Value → Prop} {St : Nat → Heap → Prop} {Mid : Nat → Addr → Heap → Prop}
    {P2 : Nat → Value → Value → Prop} {m : Str → Option Value} {news : List (Addr × Obj)} (hh : A.handled = none) (W : WalksT prog w A I fp wr n Pt St Mid) (h2 : ∀ i vals, Pt i vals → ∃ v0 v1, vals = #[v0, v1] ∧ P2 i v0 v1)
    (hlive : ∀ i h, St i h → ∀ b ∈ is, ∃ o, h.get? b = some o)
    (hxi : env.kindOf xi = some .local) (hxc : env.kindOf xc = some .local)
    (hp : (env.scope.kind == .class || (env.scope.kind == .module && env.locals != env.globals)) = false)
    (hLf : env.locals ∉ fp) (hfp : ∀ b ∈ fp, b ∈ is ∨ b ∈ ls) (hwi : ∀ b ∈ wr, b ∈ is) (hii : ∀ b ∈ is, b ∈ fp) (his : ∀ b ∈ is, g.get? b = none) (hnw : ∀ p ∈ news, p.1 ∉ is)
    (hst : St 0 s.heap) (F : Fr g env.locals s.heap m) (N : News g env.locals s.heap news)
    (J : Nat → (Str → Option Value) → List (Addr × Obj) → Prop) (h0 : J 0 m news)
    (hls : ∀ b ∈ ls, (∃ o, g.get? b = some o) ∨ ∃ o, ∀ i m nx, J i m nx → (b, o) ∈ nx)
    (step : ∀ i v0 v1 m₁ nx h tk own, i < n → P2 i v0 v1 → J i m₁ nx → (∀ p ∈ own, p.1 ∈ is) → (∀ q ∈ nx, ∀ p ∈ own, @Ne Nat q.1 p.1) →
      Fr g env.locals h (fun y => if y = xc then some v1 else if y = xi then some v0 else m₁ y) → News g env.locals h (nx ++ own) →
      wpAny (model prog w) A (execs body env) (PairOver g env.locals own (J (i + 1)) { s with heap := h, toks := tk } Q) NoErr { s with heap := h, toks := tk })
    (hR : ∀ h' tk m' nx, Fr g env.locals h' m' → News g env.locals h' nx → J n m' nx → Q .next { s with heap := h', toks := tk }) :
    wpAny (model prog w) A (pyIter (.ref I)) (fun it s₂ => codeAny (model prog w) A (.forLoop (.Tuple [.Name xi pk, .Name xc pv] x1 pt) it body [] env) (fun r s' => match r with | .ok f => Q f s' | .error _ => False) s₂) NoErr s := by
  refine W.self 0 s _ _ hst ?_
  have hLw : env.locals ∉ wr := fun h => hLf (W.sub _ h)
  have old : ∀ b o, g.get? b = some o → b ∉ wr := fun b o e hb => by rw [his b (hwi b hb)] at e; cases e
  refine codeAny_forLoop_any
    (RunI g env.locals St is J n s) ?_ (n + 1)
    ⟨s.heap, s.toks, m, news, 0, rfl, hst, F, N, hnw, h0, Nat.zero_le _, rfl⟩
  intro k s' hI9
  obtain ⟨H, tk, m', nx, i, rfl, hst', F', N', hoff, hJ, hi, rfl⟩ := hI9
  have next : ∀ h₁ : Heap, (∀ b o, b ∉ wr → H.get? b = some o → h₁.get? b = some o) → Fr g env.locals h₁ m' ∧ News g env.locals h₁ nx := fun h₁ hk₁ =>
    ⟨⟨F'.ns.at' fun o e => hk₁ _ o hLw e, fun b o e => hk₁ b o (old b o e) (F'.keep b o e), F'.above⟩, fun p hp => ⟨hk₁ _ _ (fun hw => hoff p hp (hwi _ hw)) (N' p hp).1, (N' p hp).2⟩⟩
  by_cases hlt : i < n
  · refine W.item i _ _ _ hlt hst' fun T vals h₁ tk₁ hPt _ hT hMid hk₁ => ?_
    obtain ⟨v0, v1, rfl, hP2⟩ := h2 i vals hPt
    refine W.go _ x1 pt i T _ _ _ hMid fun h₂ hst₂ hk₂ => ?_
    have ht₂ : h₂.IsTuple T #[v0, v1] := hT.at fun o e => hk₂ T o (W.apart i T h₁ hMid) e
    refine wpAny_assign_Tuple hh ht₂ rfl rfl fun h₃ hx₃ => ?_
    replace hx₃ : Heap.ExtBut h₂.objs.size h₂ h₃ := hx₃
    have up₃ : ∀ b o, h₂.get? b = some o → h₃.get? b = some o := fun b o x => hx₃ b o (Nat.ne_of_lt (Heap.lt_size x)) x
    obtain ⟨F₃, N₃⟩ := next h₃ fun b o hb x => up₃ b o (hk₂ b o hb (hk₁ b o hb x))
    show wpAny _ A (do holding [v1] (assign (.Name xi pk) env v0); do holding [] (assign (.Name xc pv) env v1); pure ()) _ _ _
    refine wpAny_bind (wpAny_holding (wpAny_assign_Name (wpAny_storeName_local hxi F₃.ns (fun h₄ hn₄ hs₄ => ?_) hp)))
    replace hs₄ : Heap.SameBut env.locals h₃ h₄ := hs₄
    have F₄ := F₃.set hn₄ hs₄
    refine wpAny_bind (wpAny_holding (wpAny_assign_Name (wpAny_storeName_local hxc F₄.ns (fun h₅ hn₅ hs₅ => wpAny_pure ?_) hp)))
    replace hs₅ : Heap.SameBut env.locals h₄ h₅ := hs₅
    have F₅ := F₄.set hn₅ hs₅
    have N₅ : News g env.locals h₅ nx := (N₃.set hs₄).set hs₅
    have hst₅ : St (i + 1) h₅ := W.frame _ _ _ hst₂ fun b hb o e => hs₅.extBut b o (fun q => hLf (q ▸ hb)) (hs₄.extBut b o (fun q => hLf (q ▸ hb)) (up₃ b o e))
    have hownis : ∀ p ∈ ownOf g is h₅, p.1 ∈ is := ownOf_sub
    have hne : ∀ q ∈ nx, ∀ p ∈ ownOf g is h₅, @Ne Nat q.1 p.1 := fun q hq p hp e => hoff q hq (by rw [e]; exact hownis p hp)
    have Nown : News g env.locals h₅ (ownOf g is h₅) := news_ownOf fun h => hLf (hii _ h)
    refine wpAny_mono (step i v0 v1 m' nx h₅ _ (ownOf g is h₅) hlt hP2 hJ hownis hne F₅ (N₅.append Nown)) (fun f s₃ h₆ => ?_) fun _ _ e => e.elim
    have fin : ∀ tk₅, PairNx g env.locals (ownOf g is h₅) (J (i + 1)) { s with heap := h₅, toks := tk₅ } s₃ → ∃ k, k < n + 1 - i ∧ RunI g env.locals St is J n s k s₃ := by
      rintro tk₅ ⟨h₆', tk₆, m₂, nx₂, rfl, F₆, N₆, ha₆, hJ₆⟩
      have hst₆ : St (i + 1) h₆' := W.frame _ _ _ hst₅ fun b hb o e => by
        rcases hfp b hb with hb | hb
        · exact (N₆ _ (List.mem_append_right _ (mem_ownOf hb (his b hb) e))).1
        · rcases hls b hb with ⟨o', ho'⟩ | ⟨o', ho'⟩
          · have e1 := F₅.keep b o' ho'
            rw [e] at e1
            cases e1
            exact F₆.keep b o ho'
          · have e1 := (N₅ _ (ho' _ _ _ hJ)).1
            dsimp only at e1
            rw [e] at e1
            cases e1
            exact (N₆ _ (List.mem_append_left _ (ho' _ _ _ hJ₆))).1
      refine ⟨n + 1 - (i + 1), run_lt hlt, h₆', tk₆, m₂, nx₂, i + 1, rfl, hst₆, F₆, fun p hp => N₆ p (List.mem_append_left _ hp), ?_, hJ₆, hlt, rfl⟩
      intro p hp hw
      obtain ⟨o, ho⟩ := hlive _ _ hst₅ _ hw
      exact ha₆ p hp (p.1, o) (mem_ownOf hw (his _ hw) ho) rfl
    cases f with
    | ret v => exact h₆
    | brk => exact h₆
    | next => exact fin _ h₆
    | cont => exact fin _ h₆
  · have hin : i = n := Nat.le_antisymm hi (Nat.le_of_not_lt hlt)
    subst hin
    refine W.done _ _ _ hst' fun h₁ tk₁ hk₁ => wpAny_execs_nil ?_
    obtain ⟨F₁, N₁⟩ := next h₁ hk₁
    exact hR h₁ tk₁ m' nx F₁ N₁ hJ
end
section
variable {prog : Program} {w : World} {A : Around} {s : Shared} {env : Env} {g : Heap} {Q : Flow → Shared → Prop}
theorem for_enum {xi xc : Str} {pk pv pt : Pos} {x1 : Nat} {body : List Stmt} {l : Addr} {vs : List Value} {m : Str → Option Value} {news : List (Addr × Obj)} (hh : A.handled = none)
    (hxi : env.kindOf xi = some .local) (hxc : env.kindOf xc = some .local)
    (hp : (env.scope.kind == .class || (env.scope.kind == .module && env.locals != env.globals)) = false)
    (F : Fr g env.locals s.heap m) (N : News g env.locals s.heap news) (hl : s.heap.IsList l vs.toArray) (hlL : l ≠ env.locals)
    (J : Nat → (Str → Option Value) → List (Addr × Obj) → Prop) (h0 : J 0 m news)
    (hls : (∃ o, g.get? l = some o) ∨ ∃ o, ∀ i m nx, J i m nx → (l, o) ∈ nx)
    (step : ∀ i v t m₁ nx h tk own, vs[i]? = some v → J i m₁ nx → (∀ p ∈ own, s.heap.objs.size ≤ p.1) → (∀ q ∈ nx, ∀ p ∈ own, @Ne Nat q.1 p.1) →
      Fr g env.locals h (fun y => if y = xc then some v else if y = xi then some (.int (i : Int) t) else m₁ y) → News g env.locals h (nx ++ own) →
      wpAny (model prog w) A (execs body env) (PairOver g env.locals own (J (i + 1)) { s with heap := h, toks := tk } Q) NoErr { s with heap := h, toks := tk })
    (hR : ∀ h' tk m' nx, Fr g env.locals h' m' → News g env.locals h' nx → J vs.length m' nx → Q .next { s with heap := h', toks := tk }) :
    wpAny (model prog w) A (call (.type "enumerate") [.ref l]) (fun xv s₁ => Stop (wpAny (model prog w) A (pyIter xv) (fun it s₂ => codeAny (model prog w) A (.forLoop (.Tuple [.Name xi pk, .Name xc pv] x1 pt) it body [] env) (fun r s' => match r with | .ok f => Q f s' | .error _ => False) s₂) NoErr s₁)) NoErr s := by
  refine call_enumerate_list hl fun h' he hit hsz hk => Stop.in ?_
  have hlt : l < s.heap.objs.size := by obtain ⟨o, ho, _⟩ := id hl; exact Heap.lt_size ho
  have F' : Fr g env.locals h' m := ⟨F.ns.keeps hk, fun b o e => hk b o (F.keep b o e), F.above⟩
  have N' : News g env.locals h' news := N.grown hk
  have hLs : @LT.lt Nat _ env.locals s.heap.objs.size := F.ns.lt
  have W := WalksT.enumerate (prog := prog) (w := w) hh (s.heap.objs.size + 1) s.heap.objs.size l (Nat.succ_ne_self _) (Nat.ne_of_lt (Nat.lt_succ_of_lt hlt)) (Nat.ne_of_lt hlt) vs.toArray
  have hsz' : vs.toArray.size = vs.length := List.size_toArray ..
  rw [hsz'] at W
  have gn : ∀ k, g.get? (s.heap.objs.size + k) = none := fun k => by
    cases q : g.get? (s.heap.objs.size + k) with
    | none => rfl
    | some o => exact absurd (Heap.lt_size (F.keep _ _ q)) (Nat.not_lt.mpr (Nat.le_add_right _ _))
  refine for_pairs (s := { s with heap := h' }) (is := [s.heap.objs.size + 1, s.heap.objs.size]) (ls := [l]) (P2 := fun i v0 v1 => ∃ t, vs[i]? = some v1 ∧ v0 = .int i t) hh W ?_ ?_ hxi hxc hp ?_ ?_ (fun _ h => h) ?_ ?_ ?_ ⟨⟨_, he⟩, hit, hl.at fun o e => hk _ _ e⟩ F' N' J h0 ?_ ?_ hR
  · rintro i vals ⟨t, x, hx, rfl⟩
    exact ⟨_, _, rfl, t, by simpa using hx, rfl⟩
  · rintro i h ⟨⟨old, h1⟩, ⟨o2, h2, _⟩, h3⟩ b hb
    rcases List.mem_cons.mp hb with rfl | hb
    · exact ⟨_, h1⟩
    · rw [List.mem_singleton.mp hb]; exact ⟨_, h2⟩
  · intro hm
    rcases List.mem_cons.mp hm with e | hm
    · have e2 : @Eq Nat _ _ := e; omega
    · rcases List.mem_cons.mp hm with e | hm
      · have e2 : @Eq Nat _ _ := e; omega
      · exact hlL (List.mem_singleton.mp hm).symm
  · intro b hb
    rcases List.mem_cons.mp hb with rfl | hb
    · exact .inl (.head _)
    · rcases List.mem_cons.mp hb with rfl | hb
      · exact .inl (.tail _ (.head _))
      · exact .inr hb
  · intro b hb
    rcases List.mem_cons.mp hb with rfl | hb
    · exact .head _
    · rw [List.mem_singleton.mp hb]; exact .tail _ (.head _)
  · intro b hb
    rcases List.mem_cons.mp hb with rfl | hb
    · exact gn 1
    · rw [List.mem_singleton.mp hb]; exact gn 0
  · intro p hp hb
    have h9 : @LT.lt Nat _ p.1 s.heap.objs.size := Heap.lt_size (N p hp).1
    rcases List.mem_cons.mp hb with e | hb
    · have e2 : @Eq Nat _ _ := e; omega
    · have e2 : @Eq Nat _ _ := List.mem_singleton.mp hb; omega
  · intro b hb
    rw [List.mem_singleton.mp hb]; exact hls
  · rintro i v0 v1 m₁ nx h tk own hi ⟨t, hv, rfl⟩ hJ hown hne F₁ N₁
    refine step i v1 t m₁ nx h tk own hv hJ (fun p hp => ?_) hne F₁ N₁
    rcases List.mem_cons.mp (hown p hp) with e | e
    · exact e ▸ Nat.le_succ _
    · exact (List.mem_singleton.mp e) ▸ Nat.le_refl _
theorem for_zip {xi xc : Str} {pk pv pt : Pos} {x1 : Nat} {body : List Stmt} {l1 l2 : Addr} {vs ws : List Value} {m : Str → Option Value} {news : List (Addr × Obj)} (hh : A.handled = none)
    (hxi : env.kindOf xi = some .local) (hxc : env.kindOf xc = some .local)
    (hp : (env.scope.kind == .class || (env.scope.kind == .module && env.locals != env.globals)) = false)
    (F : Fr g env.locals s.heap m) (N : News g env.locals s.heap news) (hl1 : s.heap.IsList l1 vs.toArray) (hl2 : s.heap.IsList l2 ws.toArray) (hL1 : l1 ≠ env.locals) (hL2 : l2 ≠ env.locals)
    (J : Nat → (Str → Option Value) → List (Addr × Obj) → Prop) (h0 : J 0 m news)
    (hls1 : (∃ o, g.get? l1 = some o) ∨ ∃ o, ∀ i m nx, J i m nx → (l1, o) ∈ nx) (hls2 : (∃ o, g.get? l2 = some o) ∨ ∃ o, ∀ i m nx, J i m nx → (l2, o) ∈ nx)
    (step : ∀ i v u m₁ nx h tk own, vs[i]? = some v → ws[i]? = some u → J i m₁ nx → (∀ p ∈ own, s.heap.objs.size ≤ p.1) → (∀ q ∈ nx, ∀ p ∈ own, @Ne Nat q.1 p.1) →
      Fr g env.locals h (fun y => if y = xc then some u else if y = xi then some v else m₁ y) → News g env.locals h (nx ++ own) →
      wpAny (model prog w) A (execs body env) (PairOver g env.locals own (J (i + 1)) { s with heap := h, toks := tk } Q) NoErr { s with heap := h, toks := tk })
    (hR : ∀ h' tk m' nx, Fr g env.locals h' m' → News g env.locals h' nx → J (min vs.length ws.length) m' nx → Q .next { s with heap := h', toks := tk }) :
    wpAny (model prog w) A (call (.type "zip") [.ref l1, .ref l2]) (fun xv s₁ => Stop (wpAny (model prog w) A (pyIter xv) (fun it s₂ => codeAny (model prog w) A (.forLoop (.Tuple [.Name xi pk, .Name xc pv] x1 pt) it body [] env) (fun r s' => match r with | .ok f => Q f s' | .error _ => False) s₂) NoErr s₁)) NoErr s := by
  refine call_zip_2 hl1 hl2 fun h' hz hTI hTO hit1 hit2 hsz hk => Stop.in ?_
  have hlt1 : l1 < s.heap.objs.size := by obtain ⟨o, ho, _⟩ := id hl1; exact Heap.lt_size ho
  have hlt2 : l2 < s.heap.objs.size := by obtain ⟨o, ho, _⟩ := id hl2; exact Heap.lt_size ho
  have F' : Fr g env.locals h' m := ⟨F.ns.keeps hk, fun b o e => hk b o (F.keep b o e), F.above⟩
  have N' : News g env.locals h' news := N.grown hk
  have hLs : @LT.lt Nat _ env.locals s.heap.objs.size := F.ns.lt
  have W := WalksT.zip2 (prog := prog) (w := w) hh _ _ _ _ _ l1 l2 (zipApart_new hlt1 hlt2) vs.toArray ws.toArray
  have hsz1 : vs.toArray.size = vs.length := List.size_toArray ..
  have hsz2 : ws.toArray.size = ws.length := List.size_toArray ..
  rw [hsz1, hsz2] at W
  have gn : ∀ k, g.get? (s.heap.objs.size + k) = none := fun k => by
    cases q : g.get? (s.heap.objs.size + k) with
    | none => rfl
    | some o => exact absurd (Heap.lt_size (F.keep _ _ q)) (Nat.not_lt.mpr (Nat.le_add_right _ _))
  refine for_pairs (s := { s with heap := h' }) (is := [s.heap.objs.size + 4, s.heap.objs.size + 2, s.heap.objs.size + 3, s.heap.objs.size, s.heap.objs.size + 1]) (ls := [l1, l2]) (P2 := fun i v0 v1 => vs[i]? = some v0 ∧ ws[i]? = some v1) hh W ?_ ?_ hxi hxc hp ?_ ?_ ?_ ?_ ?_ ?_ ⟨hz, hTI, ⟨_, _, hTO⟩, hit1, hit2, hl1.at fun o e => hk _ _ e, hl2.at fun o e => hk _ _ e⟩ F' N' J h0 ?_ ?_ hR
  · rintro i vals ⟨x, y, hx, hy, rfl⟩
    exact ⟨_, _, rfl, by simpa using hx, by simpa using hy⟩
  · rintro i h ⟨h1, h2, ⟨a, b', h3⟩, ⟨o4, h4, _⟩, ⟨o5, h5, _⟩, h6, h7⟩ b hb
    simp only [List.mem_cons, List.not_mem_nil, or_false] at hb
    rcases hb with rfl | rfl | rfl | rfl | rfl
    · exact ⟨_, h1⟩
    · exact ⟨_, h2⟩
    · exact ⟨_, h3⟩
    · exact ⟨_, h4⟩
    · exact ⟨_, h5⟩
  · intro hm
    simp only [List.mem_cons, List.not_mem_nil, or_false] at hm
    rcases hm with e | e | e | e | e | e | e
    · have e2 : @Eq Nat _ _ := e; omega
    · have e2 : @Eq Nat _ _ := e; omega
    · have e2 : @Eq Nat _ _ := e; omega
    · have e2 : @Eq Nat _ _ := e; omega
    · have e2 : @Eq Nat _ _ := e; omega
    · exact hL1 e.symm
    · exact hL2 e.symm
  · intro b hb
    simp only [List.mem_cons, List.not_mem_nil, or_false] at hb ⊢
    rcases hb with e | e | e | e | e | e | e <;> simp [e]
  · intro b hb
    simp only [List.mem_cons, List.not_mem_nil, or_false] at hb ⊢
    rcases hb with e | e | e | e <;> simp [e]
  · intro b hb
    simp only [List.mem_cons, List.not_mem_nil, or_false] at hb ⊢
    rcases hb with e | e | e | e | e <;> simp [e]
  · intro b hb
    simp only [List.mem_cons, List.not_mem_nil, or_false] at hb
    rcases hb with rfl | rfl | rfl | rfl | rfl
    · exact gn 4
    · exact gn 2
    · exact gn 3
    · exact gn 0
    · exact gn 1
  · intro p hp hb
    have h9 : @LT.lt Nat _ p.1 s.heap.objs.size := Heap.lt_size (N p hp).1
    simp only [List.mem_cons, List.not_mem_nil, or_false] at hb
    rcases hb with e | e | e | e | e <;> (have e2 : @Eq Nat _ _ := e; omega)
  · intro b hb
    rcases List.mem_cons.mp hb with rfl | hb
    · exact hls1
    · rw [List.mem_singleton.mp hb]; exact hls2
  · rintro i v0 v1 m₁ nx h tk own hi ⟨hv, hu⟩ hJ hown hne F₁ N₁
    refine step i v0 v1 m₁ nx h tk own hv hu hJ (fun p hp => ?_) hne F₁ N₁
    have hb := hown p hp
    simp only [List.mem_cons, List.not_mem_nil, or_false] at hb
    show @LE.le Nat _ _ _
    rcases hb with e | e | e | e | e <;> (have e2 : @Eq Nat _ _ := e; omega)
end
example : True := by w_top off; trivial
@[irreducible] noncomputable def downL (T : List Row) (i : Nat) : List Nat := (i :: anc T i).reverse
noncomputable def pk (T : List Row) (i : Nat) : Nat := if kd T i == Str.ofString "namespace" then 0 else if kd T i == Str.ofString "attribute" then 1 else 2
noncomputable def pix (T : List Row) (i : Nat) : Nat := match pa T i with
  | none => 0
  | some p => if kd T i == Str.ofString "namespace" then (nsl T p).idxOf i else if kd T i == Str.ofString "attribute" then (atl T p).idxOf i else (ch T p).idxOf i
@[irreducible] noncomputable def placeN (T : List Row) (i : Nat) : List Nat := (downL T i).take 1 ++ (downL T i).tail.flatMap fun x => [pk T x, pix T x]
theorem downL_eq {T : List Row} (W : WF T) (i : Nat) : downL T i = (match pa T i with | none => [] | some p => downL T p) ++ [i] := by
  unfold downL
  rw [List.reverse_cons, anc_eq W]
  cases pa T i <;> rfl
theorem downL_len {T : List Row} (W : WF T) {i : Nat} (hi : i < T.length) : (downL T i).length ≤ 21 := by
  unfold downL
  rw [List.length_reverse, List.length_cons]
  have := anc_len W hi
  omega
theorem downL_par {T : List Row} (W : WF T) : ∀ n i, i ≤ n → ∀ k a b, (downL T i)[k]? = some a → (downL T i)[k + 1]? = some b → pa T b = some a
  | 0, i, h, k, a, b, ha, hb => by
    have e : pa T i = none := by
      cases q : pa T i with
      | none => rfl
      | some p => have := W.par_lt i p q; omega
    rw [downL_eq W, e] at hb
    simp at hb
  | n + 1, i, h, k, a, b, ha, hb => by
    rw [downL_eq W] at ha hb
    cases q : pa T i with
    | none => rw [q] at hb; simp at hb
    | some p =>
      have h1 := W.par_lt i p q
      rw [q] at ha hb
      dsimp only at ha hb
      by_cases hk : k + 1 < (downL T p).length
      · rw [List.getElem?_append_left (by k_extra "om")] at ha
        rw [List.getElem?_append_left hk] at hb
        exact downL_par W n p (by k_extra "om") k a b ha hb
      · have hl : k + 1 = (downL T p).length := by
          have := (List.getElem?_eq_some_iff.mp hb).1
          rw [List.length_append, List.length_singleton] at this
          omega
        rw [hl, List.getElem?_append_right (Nat.le_refl _)] at hb
        simp at hb
        subst hb
        rw [List.getElem?_append_left (by k_extra "om"), downL_eq W p] at ha
        rw [downL_eq W p, List.length_append, List.length_singleton] at hl
        rw [List.getElem?_append_right (by k_extra "om")] at ha
        have hz : k - (match pa T p with | none => [] | some p => downL T p).length = 0 := by omega
        rw [hz] at ha
        simp at ha
        rw [q, ha]
theorem lines_down_C {w : World} {A : Around} {s : Shared} {t : Addr} {T : List Row} {i : Nat} {tk : Tok}
   (H : At w A s.heap 8 200) (W : WF T) (TT : TreeAt w s.heap t T) (hi : i < T.length) :
   wpAny (model prg w) A (call (.ref 175) [.ref t, .int (i : Int) tk]) (Back s (ListOut s (nat (downL T i)))) NoErr s := by
  refine' enter (binds := [(Str.ofString "tree", .ref t), (Str.ofString "node", .int (i : Int) tk)]) H (by k_extra "om") (by k_extra "om") (by k_is) (by k_is) (BindsTo.of_eq rfl) (locs rfl) ?_ (by decide) rfl rfl rfl
  intro h₁ gn9 dr9 os9 A9 L9 tk9 pr9 loose9 mean9 mg9 mb9 F' N' X' T' C' hroom hun K9 hK9
  (try dsimp only)
  have hal := anc_len W hi
  have mV : MarkV := ⟨⟩
  k_steps
  rename Fr _ _ _ _ => F0
  rename News _ _ _ _ => N0
  refine Stop.in (while_opt (Str.ofString "found") (Str.ofString "node") (fun n ca o => ∃ fo : List Nat, ca = nat fo ∧ fo ++ ancO T o = i :: anc T i ∧ (∀ p, o = some p → p < T.length) ∧ n = (ancO T o).length)
    _ (some i) F0 N0 rfl rfl (by k_mem) .nil ⟨_, rfl⟩ ⟨[], rfl, rfl, fun p hp => by cases hp; exact hi, rfl⟩ ?_)
  clear F0 N0
  rintro n va na ca o v h tk ⟨fo, rfl, hsum, hlt, rfl⟩ hia hp F1 N1
  have hl1 := congrArg List.length hsum
  rw [List.length_append, List.length_cons] at hl1
  have hb1 : (nat fo).length ≤ 21 := by rw [nat_len]; omega
  cases o with
  | none =>
    refine hidP fun P9 k9 => ?_
    obtain rfl : v = .none := hp
    refine k9 ?_; clear k9 P9
    have hfo : fo = i :: anc T i := by simpa [ancO] using hsum
    k_steps
    refine endK hK9 (by k_asm) ?_
    have e : nat (downL T i) = (nat fo).reverse := by unfold downL; rw [hfo, nat_reverse]
    rw [e]
    exact ⟨_, _, _, rfl, News.fresh (by k_asm) (by k_mem), News.get (by k_asm) (by k_mem), by with_reducible assumption⟩
  | some p =>
    refine hidP fun P9 k9 => ?_
    obtain ⟨u, rfl⟩ := hp
    refine k9 ?_; clear k9 P9
    have hp := hlt p rfl
    k_steps
    refine opt_over (by k_asm) (by k_asm) (by k_mem) (hia.append (.cons _ _ .nil)) rfl (by assumption) ?_ ?_ ⟨fo ++ [p], by rw [nat_append]; rfl, ?_, fun q hq => (W.par_len hq).2, rfl⟩
    · intro y hy; simp [hy]
    · show (ancO T (pa T p)).length < (p :: anc T p).length
      rw [anc_eq W p, List.length_cons]; omega
    · rw [← hsum]
      show _ = fo ++ (p :: anc T p)
      rw [anc_eq W p]; simp
theorem lines_down_U {w : World} {A : Around} {s : Shared} {g : Heap} {L : Addr} {m : Str → Option Value} {news : List (Addr × Obj)} {t : Addr} {T : List Row} {i : Nat} {tk : Tok} {dp un : Nat} {Q E : Value → Shared → Prop}
   (C : Callee w A g L dp un) (F : Fr g L s.heap m) (N : News g L s.heap news) (W : WF T) (TT : TreeAt w g t T) (hi : i < T.length) (hd : 8 ≤ dp) (hu : 200 ≤ un)
   (k : ∀ a vs n h' tk', Fr g L h' m → News g L h' ((a, listOf (List.toArray vs) n) :: news) → (∀ p ∈ news, @Ne Nat p.1 a) → IntsAre vs (nat (downL T i)) → (nat (downL T i)).length ≤ 10000 → Q (.ref a) { s with heap := h', toks := tk' }) :
   wpAny (model prg w) A (call (.ref 175) [.ref t, .int (i : Int) tk]) Q E s :=
  useL (lines_down_C (C.at F hd hu) W (TT.keep F.keep) hi) F N fun a vs n h' tk' F' N' l1 hi' => k a vs n h' tk' F' N' l1 hi' (by rw [nat_len]; have := downL_len W hi; omega)
example : True := by w_top off; trivial
example : True := by
  (k_with "call ref" => (k_here; (with_reducible show wpAny _ _ (call (Value.ref 175) _) _ _ _); k_dflt (refine' lines_down_U (by with_reducible assumption) (by k_asm) (by k_asm) (by with_reducible assumption) (by with_reducible assumption) (by k_extra "lt") (by k_extra "om") (by k_extra "om") ?_); intro _ _ _ _ _ _ _ _ _ _; (try k_sweep); (try k_extra "nne")))
  trivial
noncomputable abbrev tupOf (vs : List Value) (n : Nat) : Obj := { cls := .type "tuple", data := .seq (List.toArray vs) n }
inductive TupOut (s : Shared) (ns : List Int) (v : Value) (h' : Heap) : Prop
  | mk (a : _) (vs : _) (n : _) (e1 : v = .ref a) (e2 : s.heap.get? a = none) (e3 : h'.get? a = some (tupOf vs n)) (e4 : IntsAre vs ns) : TupOut s ns v h'
theorem useT {w : World} {A : Around} {s : Shared} {ns : List Int} {h₀ : Heap} {L : Addr} {m : Str → Option Value} {news : List (Addr × Obj)} {c : Sem Value} {Q E : Value → Shared → Prop}
    (C : wpAny (model prg w) A c (Back s (TupOut s ns)) NoErr s) (F : Fr h₀ L s.heap m) (N : News h₀ L s.heap news)
    (k : ∀ a vs n h' tk', Fr h₀ L h' m → News h₀ L h' ((a, tupOf vs n) :: news) → (∀ p ∈ news, @Ne Nat p.1 a) → IntsAre vs ns → Q (.ref a) { s with heap := h', toks := tk' }) :
    wpAny (model prg w) A c Q E s := by
  refine use C F N fun v h' tk' F' N' hk hP => ?_
  obtain ⟨a, vs, n, rfl, hle, hg, hi⟩ := hP
  refine k a vs n h' tk' F' (fun p hp => ?_) (fun p hp e => by have := (N p hp).1; rw [e, hle] at this; cases this) hi
  rcases List.mem_cons.mp hp with rfl | hp
  · refine ⟨hg, fun e => ?_, ?_⟩
    · obtain ⟨oL, _, _, hL, _⟩ := F.ns
      dsimp only at e
      rw [← e, hle] at hL; cases hL
    · cases hq : h₀.get? a with
      | none => rfl
      | some o => have := F.keep _ _ hq; rw [hle] at this; cases this
  · exact N' p hp
theorem place_among_C {w : World} {A : Around} {s : Shared} {t : Addr} {T : List Row} {i p : Nat} {tk tp : Tok}
   (H : At w A s.heap 8 200) (W : WF T) (TT : TreeAt w s.heap t T) (hpa : pa T i = some p) :
   wpAny (model prg w) A (call (.ref 182) [.ref t, .int (p : Int) tp, .int (i : Int) tk]) (Back s (TupOut s [(pk T i : Int), (pix T i : Int)])) NoErr s := by
  refine' enter (binds := [(Str.ofString "tree", .ref t), (Str.ofString "parent", .int (p : Int) tp), (Str.ofString "node", .int (i : Int) tk)]) H (by k_extra "om") (by k_extra "om") (by k_is) (by k_is) (BindsTo.of_eq rfl) (locs rfl) ?_ (by decide) rfl rfl rfl
  intro h₁ gn9 dr9 os9 A9 L9 tk9 pr9 loose9 mean9 mg9 mb9 F' N' X' T' C' hroom hun K9 hK9
  (try dsimp only)
  refine hidP fun P9 k9 => ?_
  obtain ⟨hi, hp⟩ := W.par_len hpa
  refine k9 ?_; clear k9 P9
  cases h1 : kd T i == Str.ofString "namespace" with
  | true =>
    have hk := W.par_ns i p hpa (beq_iff_eq.mp h1)
    have hbc : (nsl T p).length ≤ 20 := Nat.le_trans (nodup_len _ _ (W.ns_nd p) fun x hx => (W.ns_ok p x hx).2.1) W.small
    have hs64 : ∀ x ∈ nsl T p, x < 64 := fun x hx => by have := (W.ns_ok p x hx).2.1; have := W.small; omega
    k_steps
    refine endK hK9 (by k_asm) ?_
    have e1 : pk T i = 0 := by simp [pk, h1]
    have e2 : pix T i = (nsl T p).idxOf i := by simp [pix, hpa, h1]
    rw [e1, e2]
    exact ⟨_, _, _, rfl, News.fresh (by k_asm) (by k_mem), News.get (by k_asm) (by k_mem), .cons _ _ (.cons _ _ .nil)⟩
  | false =>
    cases h2 : kd T i == Str.ofString "attribute" with
    | true =>
      have hk := W.par_at i p hpa (beq_iff_eq.mp h2)
      have hbc : (atl T p).length ≤ 20 := Nat.le_trans (nodup_len _ _ (W.at_nd p) fun x hx => (W.at_ok p x hx).2.1) W.small
      have hs64 : ∀ x ∈ atl T p, x < 64 := fun x hx => by have := (W.at_ok p x hx).2.1; have := W.small; omega
      k_steps
      refine endK hK9 (by k_asm) ?_
      have e1 : pk T i = 1 := by simp [pk, h1, h2]
      have e2 : pix T i = (atl T p).idxOf i := by simp [pix, hpa, h1, h2]
      rw [e1, e2]
      exact ⟨_, _, _, rfl, News.fresh (by k_asm) (by k_mem), News.get (by k_asm) (by k_mem), .cons _ _ (.cons _ _ .nil)⟩
    | false =>
      have hbs : beside T i = false := by
        have h1' : (Str.ofString "namespace" == kd T i) = false := by rw [← h1]; exact BEq.comm
        have h2' : (Str.ofString "attribute" == kd T i) = false := by rw [← h2]; exact BEq.comm
        simp [beside, h1', h2']
      have hk := W.par_ch i p hpa hbs
      have hbc := ch_len W p
      have hs64 : ∀ x ∈ ch T p, x < 64 := fun x hx => by have := (W.ch_ok p x hx).2.1; have := W.small; omega
      k_steps
      refine endK hK9 (by k_asm) ?_
      have e1 : pk T i = 2 := by simp [pk, h1, h2]
      have e2 : pix T i = (ch T p).idxOf i := by simp [pix, hpa, h1, h2]
      rw [e1, e2]
      exact ⟨_, _, _, rfl, News.fresh (by k_asm) (by k_mem), News.get (by k_asm) (by k_mem), .cons _ _ (.cons _ _ .nil)⟩
theorem place_among_U {w : World} {A : Around} {s : Shared} {g : Heap} {L : Addr} {m : Str → Option Value} {news : List (Addr × Obj)} {dp un : Nat} {Q E : Value → Shared → Prop} {t : Addr} {T : List Row} {i p : Nat} {tk tp : Tok}
   (C : Callee w A g L dp un) (F : Fr g L s.heap m) (N : News g L s.heap news) (W : WF T) (TT : TreeAt w g t T) (hpa : pa T i = some p) (hd : 8 ≤ dp) (hu : 200 ≤ un)
   (k : ∀ a vs n h' tk', Fr g L h' m → News g L h' ((a, tupOf vs n) :: news) → (∀ p ∈ news, @Ne Nat p.1 a) → IntsAre vs [(pk T i : Int), (pix T i : Int)] → Q (.ref a) { s with heap := h', toks := tk' }) :
   wpAny (model prg w) A (call (.ref 182) [.ref t, .int (p : Int) tp, .int (i : Int) tk]) Q E s :=
  useT (place_among_C (C.at F hd hu) W (TT.keep F.keep) hpa) F N k
example : True := by w_top off; trivial
example : True := by
  (k_with "call ref" => (k_here; (with_reducible show wpAny _ _ (call (Value.ref 175) _) _ _ _); k_dflt (refine' lines_down_U (by with_reducible assumption) (by k_asm) (by k_asm) (by with_reducible assumption) (by with_reducible assumption) (by k_extra "lt") (by k_extra "om") (by k_extra "om") ?_); intro _ _ _ _ _ _ _ _ _ _; (try k_sweep); (try k_extra "nne")))
  trivial
theorem item_0 {prog : Program} {w : World} {A : Around} {E : Value → Shared → Prop} {s : Shared} {l : Addr} {value slice : PySem.Expr} {vs : List Value} {ns : List Nat} {u : Tok} {x : Nat} {Q : Value → Shared → Prop} (hl : s.heap.IsList l vs.toArray) (hi : IntsAre vs (nat ns))
    (hx : ns[0]? = some x) (h : ∀ t, Q (.int (x : Int) t) s)
    (hs : subscripted slice false (.ref l) (.int 0 u) = operate [.ref l, .int 0 u] (getItem (.ref l) (.int 0 u)) := by with_unfolding_all rfl) :
    wpAny (model prog w) A (subscriptTail value slice (.ref l) (.int 0 u)) Q E s := by
  cases ns with
  | nil => cases hx
  | cons y r =>
    cases hx
    cases hi with
    | cons _ t hi => exact tail_any hl.typeIs slot_list_getitem.lookup (wpAny_getItem_list hl (by k_extra "om") (by decide) (by simp) (h t)) hs
example : True := by
  (k_with "call ref" => (k_here; (with_reducible show wpAny _ _ (call (Value.ref 182) _) _ _ _); k_dflt (refine' place_among_U (by with_reducible assumption) (by k_asm) (by k_asm) (by with_reducible assumption) (by with_reducible assumption) (by with_reducible assumption) (by k_extra "om") (by k_extra "om") ?_); intro _ _ _ _ _ _ _ _ _; (try k_sweep); (try k_extra "nne")))
  (k_with "exec For Tuple Call cons nil" => (k_here; (with_unfolding_all refine' for_stmt ?_ (by intro _; rfl); k_whole)))
  (k_with "call type:zip" => (k_here; refine stop_out ?_))
  (k_with "call type:enumerate" => (k_here; refine stop_out ?_))
  (k_with "subscriptTail Name Constant ref int" => (k_here; (with_reducible show wpAny _ _ (subscriptTail _ _ (Value.ref _) (Value.int 0 _)) _ _ _); k_dflt (refine' item_0 (by is_list) (by with_reducible assumption) (by with_reducible assumption) ?_ (by with_unfolding_all rfl)); intro _))
  trivial
theorem add_t {prog : Program} {w : World} {A : Around} {E : Value → Shared → Prop} {s : Shared} {h₀ : Heap} {L : Addr} {m : Str → Option Value} {news : List (Addr × Obj)} {a b : Addr} {vs ws : List Value} {n n' : Nat} {ns ks : List Int} {Q : Value → Shared → Prop}
    (F : Fr h₀ L s.heap m) (N : News h₀ L s.heap news) (ha : (a, tupOf vs n) ∈ news) (hb : (b, tupOf ws n') ∈ news) (hi : IntsAre vs ns) (hj : IntsAre ws ks) (h1 : ns ≠ []) (h2 : ks ≠ []) (hz : ns.length + ks.length ≤ 10000)
    (h : ∀ D h', Fr h₀ L h' m → News h₀ L h' ((D, tupOf (vs ++ ws) 0) :: news) → (∀ p ∈ news, p.1 < D) → IntsAre (vs ++ ws) (ns ++ ks) → Q (.ref D) { s with heap := h' }) :
    wpAny (model prog w) A (binaryOp .Add (.ref a) (.ref b)) Q E s := by
  have e1 := hi.length
  have e2 := hj.length
  have p1 : 0 < ns.length := List.length_pos_iff.mpr h1
  have p2 : 0 < ks.length := List.length_pos_iff.mpr h2
  refine kde_addT (its := vs.toArray) (its2 := ws.toArray) (zs := vs ++ ws) F N ⟨_, (N _ ha).1, rfl, _, rfl⟩ ⟨_, (N _ hb).1, rfl, _, rfl⟩ (fun q => ?_) (fun q => ?_) ?_ rfl fun D h' F' N' l1 => h D h' F' N' l1 (hi.append hj)
  · dsimp only at q; subst q; rw [← e1] at p1; exact absurd p1 (Nat.lt_irrefl _)
  · dsimp only at q; subst q; rw [← e2] at p2; exact absurd p2 (Nat.lt_irrefl _)
  · show vs.length + ws.length ≤ _
    omega
example : True := by
  (k_with "tupne" => first | (exact List.cons_ne_nil _ _) | (rw [ne_eq]; with_reducible assumption))
  (k_with "binaryOp Add ref ref" => (k_here; (with_reducible show wpAny _ _ (binaryOp _ (Value.ref _) (Value.ref _)) _ _ _); k_dflt (refine' add_t (by k_asm) (by k_asm) (by k_mem) (by k_mem) (by with_reducible assumption) (by with_reducible assumption) (by k_extra "tupne") (by k_extra "tupne") (by k_extra "bd") ?_); intro _ _ _ _ _ _; (try k_sweep)))
  trivial
inductive PlcJ (t a1 D2 : Addr) (i : Nat) (tk0 : Tok) (ws1 vs1 : List Value) (n1 r : Nat) (T : List Row) (rest : List Nat) (k : Nat) (m : Str → Option Value) (nx : List (Addr × Obj)) : Prop
  | mk (a : Addr) (vs : List Value) (n : Nat) (e1 : m (Str.ofString "found") = some (.ref a)) (e2 : ∀ y, y ≠ Str.ofString "found" → y ≠ Str.ofString "above" → y ≠ Str.ofString "below" → m y = (if y = Str.ofString "line" then some (.ref a1) else List.lookup y [(Str.ofString "tree", Value.ref t), (Str.ofString "node", Value.int (i : Int) tk0)].reverse))
      (e3 : nx = [(D2, listOf (List.toArray ws1) 0), (a, tupOf vs n), (a1, listOf (List.toArray vs1) n1)]) (e4 : IntsAre vs (nat (r :: (rest.take k).flatMap fun x => [pk T x, pix T x]))) : PlcJ t a1 D2 i tk0 ws1 vs1 n1 r T rest k m nx
theorem place_of_C {w : World} {A : Around} {s : Shared} {t : Addr} {T : List Row} {i : Nat} {tk0 : Tok}
   (H : At w A s.heap 12 400) (W : WF T) (TT : TreeAt w s.heap t T) (hi : i < T.length) :
   wpAny (model prg w) A (call (.ref 189) [.ref t, .int (i : Int) tk0]) (Back s (TupOut s (nat (placeN T i)))) NoErr s := by
  refine' enter (binds := [(Str.ofString "tree", .ref t), (Str.ofString "node", .int (i : Int) tk0)]) H (by k_extra "om") (by k_extra "om") (by k_is) (by k_is) (BindsTo.of_eq rfl) (locs rfl) ?_ (by decide) rfl rfl rfl
  intro h₁ gn9 dr9 os9 A9 L9 tk9 pr9 loose9 mean9 mg9 mb9 F' N' X' T' C' hroom hun K9 hK9
  (try dsimp only)
  have hdl := downL_len W hi
  have hdl' : (nat (downL T i)).length ≤ 21 := by rw [nat_len]; exact hdl
  obtain ⟨r, rest, hd⟩ : ∃ r rest, downL T i = r :: rest := by
    cases q : downL T i with
    | nil => rw [downL_eq W] at q; simp at q
    | cons r rest => exact ⟨r, rest, rfl⟩
  have h0 : (downL T i)[0]? = some r := by rw [hd]; rfl
  k_steps
  rename Fr _ _ _ _ => F0
  rename News _ _ _ _ => N0
  rename IntsAre _ (List.drop _ _) => hI2
  rename_i a1 vs1 n1 _ _ hI1 hb1 _ _ _ _ _ tf D1 _ l1a _ _ _ D2 ws1 _ hl21 hne1
  refine Stop.in (for_zip rfl rfl rfl rfl F0 N0 (News.isList N0 (by k_mem)) (News.isList N0 (by k_mem)) (News.ne N0 (by k_mem)) (News.ne N0 (by k_mem))
    (PlcJ t a1 D2 i tk0 ws1 vs1 n1 r T rest) ?_ ?_ ?_ ?_ ?_)
  · exact ⟨D1, [.int (r : Int) tf], 0, rfl, fun y h1 _ _ => if_neg h1, rfl, .cons _ _ .nil⟩
  · refine .inr ⟨listOf (List.toArray vs1) n1, ?_⟩
    rintro k m nx ⟨a, vs, n, _, _, rfl, _⟩
    exact .tail _ (.tail _ (.head _))
  · refine .inr ⟨listOf (List.toArray ws1) 0, ?_⟩
    rintro k m nx ⟨a, vs, n, _, _, rfl, _⟩
    exact .head _
  · rintro k v u m nx h tk own hv hu ⟨a, vs, n, hma, hm, rfl, hia⟩ hown hne F1 N1
    clear F0 N0
    have hda : ∃ b, (downL T i)[k + 1]? = some b := by
      have h3 := (List.getElem?_eq_some_iff.mp hu).1
      have h4 := hI2.length
      rw [List.length_drop, nat_len] at h4
      have h5 : k + 1 < (downL T i).length := by have : Int.toNat 1 = 1 := rfl; omega
      exact ⟨_, List.getElem?_eq_getElem h5⟩
    refine hidP fun P9 k9 => ?_
    obtain ⟨b, hb⟩ := hda
    obtain ⟨a', ha'⟩ : ∃ a', (downL T i)[k]? = some a' := ⟨_, List.getElem?_eq_getElem (by have := (List.getElem?_eq_some_iff.mp hb).1; omega)⟩
    have hpab := downL_par W i i (Nat.le_refl _) k a' b ha' hb
    obtain ⟨tv, htv⟩ := hI1.get k (a' : Int) (by unfold nat; rw [List.getElem?_map, ha']; rfl)
    obtain ⟨tu, htu⟩ := hI2.get k (b : Int) (by unfold nat; rw [List.getElem?_drop, List.getElem?_map]; show Option.map _ (downL T i)[Int.toNat 1 + k]? = _; rw [show Int.toNat 1 + k = k + 1 by rw [Nat.add_comm]; rfl, hb]; rfl)
    refine k9 ?_; clear k9 P9
    rw [hv] at htv
    rw [hu] at htu
    cases htv
    cases htu
    have hrest : rest[k]? = some b := by rw [hd] at hb; exact hb
    have hnl : (nat (r :: (rest.take k).flatMap fun x => [pk T x, pix T x])).length ≤ 50 := by
      rw [nat_len, List.length_cons]
      have h1 : ((rest.take k).flatMap fun x => [pk T x, pix T x]).length ≤ 2 * (rest.take k).length := flat_len _ fun x _ => Nat.le_refl _
      rw [hd, List.length_cons] at hdl
      rw [List.length_take] at h1
      have := Nat.min_le_right k rest.length
      omega
    have hnz : nat (r :: (rest.take k).flatMap fun x => [pk T x, pix T x]) ≠ [] := List.cons_ne_nil _ _
    have e : (fun y => if y = Str.ofString "below" then some (Value.int (b : Int) tu) else if y = Str.ofString "above" then some (Value.int (a' : Int) tv) else m y) =
        fun y => if y = Str.ofString "below" then some (Value.int (b : Int) tu) else if y = Str.ofString "above" then some (Value.int (a' : Int) tv) else if y = Str.ofString "found" then some (Value.ref a) else if y = Str.ofString "line" then some (Value.ref a1) else List.lookup y [(Str.ofString "tree", Value.ref t), (Str.ofString "node", Value.int (i : Int) tk0)].reverse := by
      funext y
      by_cases h1 : y = Str.ofString "below"
      · simp only [h1, if_true]
      · simp only [if_neg h1]
        by_cases h2 : y = Str.ofString "above"
        · simp only [h2, if_true]
        · simp only [if_neg h2]
          by_cases h3 : y = Str.ofString "found"
          · simp only [h3, if_true]; exact hma
          · simp only [if_neg h3]; exact hm y h3 h2 h1
    rw [e] at F1
    clear e hm hma
    k_steps
    rename Fr _ _ _ _ => F2
    rename News _ _ _ _ => N2
    rename IntsAre (_ ++ _) _ => hI3
    rename ∀ p ∈ (_ :: _ : List (Addr × Obj)), p.1 < _ => l2
    rename_i aP vP nP _ _ hiP l1P D3 _ _
    simp only [List.forall_mem_cons, List.forall_mem_append, List.forall_mem_nil, and_true] at hne
    refine hidP fun P9 k9 => ?_
    obtain ⟨q1, q2, q3⟩ := hne
    refine k9 ?_; clear k9 P9
    refine ⟨_, _, _, [(D2, listOf (List.toArray ws1) 0), (D3, tupOf (vs ++ vP) 0), (a1, listOf (List.toArray vs1) n1)], rfl, F2, fun q hq => N2 q ?_, ?_, _, _, _, rfl, ?_, rfl, ?_⟩
    · refine hidP fun P9 k9 => ?_
      rcases List.mem_append.mp hq with h | h <;> (refine k9 ?_; clear k9 P9)
      · refine hidP fun P9 k9 => ?_
        rcases List.mem_cons.mp h with rfl | h <;> (refine k9 ?_; clear k9 P9)
        · exact .tail _ (.tail _ (.head _))
        · refine hidP fun P9 k9 => ?_
          rcases List.mem_cons.mp h with rfl | h <;> (refine k9 ?_; clear k9 P9)
          · exact .head _
          · rw [List.mem_singleton.mp h]; exact .tail _ (.tail _ (.tail _ (.tail _ (.head _))))
      · exact .tail _ (.tail _ (List.mem_append_right _ h))
    · simp only [List.forall_mem_cons, List.forall_mem_nil, and_true]
      exact ⟨q1, fun p hp => (Nat.ne_of_gt (l2 p (.tail _ (List.mem_append_right _ hp)))), q3⟩
    · intro y h1 h2 h3
      simp only [if_neg h1, if_neg h2, if_neg h3]
    · rw [take_flatMap _ _ hrest]
      have e : nat (r :: ((rest.take k).flatMap (fun x => [pk T x, pix T x]) ++ [pk T b, pix T b])) = nat (r :: (rest.take k).flatMap fun x => [pk T x, pix T x]) ++ [(pk T b : Int), (pix T b : Int)] := by
        rw [← List.cons_append, nat_append]; rfl
      rw [e]
      exact hI3
  · rintro h' tk' m nx F1 N1 ⟨a, vs, n, hma, hm, rfl, hia⟩
    clear F0 N0
    have e : m = fun y => if y = Str.ofString "found" then some (Value.ref a) else m y := by
      funext y
      by_cases h3 : y = Str.ofString "found"
      · simp only [h3, if_true]; exact hma
      · simp only [if_neg h3]
    rw [e] at F1
    k_steps
    refine endK hK9 (by k_asm) ?_
    have e2 : placeN T i = r :: (rest.take (min vs1.length ws1.length)).flatMap fun x => [pk T x, pix T x] := by
      have h4 := hI2.length
      have h5 := hI1.length
      rw [List.length_drop, nat_len, hd] at h4
      rw [nat_len, hd] at h5
      have h6 : min vs1.length ws1.length = rest.length := by
        have : Int.toNat 1 = 1 := rfl
        rw [List.length_cons] at h4 h5
        omega
      unfold placeN
      rw [hd, h6, List.take_length]
      rfl
    rw [e2]
    exact ⟨_, _, _, rfl, News.fresh (by k_asm) (by k_mem), News.get (by k_asm) (by k_mem), hia⟩
theorem place_of_U {w : World} {A : Around} {s : Shared} {g : Heap} {L : Addr} {m : Str → Option Value} {news : List (Addr × Obj)} {dp un : Nat} {Q E : Value → Shared → Prop} {t : Addr} {T : List Row} {i : Nat} {tk : Tok}
   (C : Callee w A g L dp un) (F : Fr g L s.heap m) (N : News g L s.heap news) (W : WF T) (TT : TreeAt w g t T) (hi : i < T.length) (hd : 12 ≤ dp) (hu : 400 ≤ un)
   (k : ∀ a vs n h' tk', Fr g L h' m → News g L h' ((a, tupOf vs n) :: news) → (∀ p ∈ news, @Ne Nat p.1 a) → IntsAre vs (nat (placeN T i)) → Q (.ref a) { s with heap := h', toks := tk' }) :
   wpAny (model prg w) A (call (.ref 189) [.ref t, .int (i : Int) tk]) Q E s :=
  useT (place_of_C (C.at F hd hu) W (TT.keep F.keep) hi) F N k
example : True := by w_top off; trivial
structure On (w : World) (A : Around) (g h : Heap) (as : List Addr) (dp un : Nat) : Prop where
  at_ : At w A g dp un
  sub : ∀ b o, g.get? b = some o → h.get? b = some o
  size : g.objs.size = h.objs.size
  full : ∀ b o, h.get? b = some o → g.get? b = some o ∨ b ∈ as
  gone : ∀ a ∈ as, g.get? a = none
theorem On.mono {w : World} {A : Around} {g h : Heap} {as : List Addr} {dp un dp' un' : Nat} (H : On w A g h as dp un) (hd : dp' ≤ dp) (hu : un' ≤ un) : On w A g h as dp' un' :=
  ⟨H.at_.mono hd hu, H.sub, H.size, H.full, H.gone⟩
noncomputable def BackR (g : Heap) (s : Shared) (P : Value → Heap → Prop) (r : Result) (s' : Shared) : Prop := match r with
  | .ok (.ret v) => BackG g s P v s'
  | _ => False
theorem enterGC {w : World} {A : Around} {s : Shared} {g : Heap} {as : List Addr} {dp un : Nat} {P : Value → Heap → Prop}
    {name qual : Str} {params : Arguments} {body : List Stmt} {scope : Scope} {dV kV doc pm cdv ct oc : Value} {an od : Option Addr} {osl : Array (Option Value)} {f : Addr} {args : List Value} {binds : List (Str × Value)} (own : List (Addr × Obj))
    (H : On w A g s.heap as dp un) (hdp : 1 ≤ dp) (hun : 3 ≤ un) (hown : ∀ p ∈ own, s.heap.get? p.1 = some p.2 ∧ p.1 ∈ as)
    (ho : (hd.heap_1 w.params).lookup f = some ⟨oc, od, .func (fnOf name qual params body scope dV kV doc pm an cdv ct), osl⟩) (hcd : codeIn (hd.heap_1 w.params) cdv qual = true)
    (hbind : BindsTo s (fnOf name qual params body scope dV kV doc pm an cdv ct) ⟨args, []⟩ binds) (hloc : ∀ y ∈ binds, scope.names.lookup y.1 = some .local)
    (h : ∀ h₁ gn dr os A' L tk p loose mean mg mb, Fr g L h₁ (fun y => binds.reverse.lookup y) → News g L h₁ own → (∀ p ∈ own, @LT.lt Nat _ p.1 L) → (hd.heap_1 w.params).In g → Top p loose mean mg mb g →
      Callee w (nA A') g L (dp - 1) (un - 3) → (nA A').depth + (dp - 1) < recursionLimit → (nA A').units + (un - 3) < cLine → ∀ K, EndK gn dr os P g L K →
      wpAny (model prg w) (nA A') (execs body (envL qual scope f cdv L)) K NoErr ⟨h₁, gn, dr, tk, os⟩)
    (hcell : ∀ x ∈ scope.names, x.2 ≠ .cell := by decide) (hco : scope.isCoroutine = false := by rfl) (hgen : scope.isGenerator = false := by rfl) (hk : scope.kind = .function := by rfl) :
    codeAny (model prg w) A (.call (.ref f) ⟨args, []⟩) (BackR g s P) s := by
  have H0 := H.at_
  obtain ⟨base, outer, B⟩ := H0.below
  obtain ⟨p, loose, mean, mg, mb, T⟩ := H0.top
  have Kh := H0.k.keeps H.sub
  have hsz : @LE.le Nat _ g.objs.size s.heap.objs.size := Nat.le_of_eq H.size
  refine codeAny_call_def (fd := fnOf name qual params body scope dV kV doc pm an cdv ct) (body := body) (binds := binds) (room_1 H0.room hdp) (Kh _ _ ho) rfl (T.keeps H.sub).nolimit (codeRec_of Kh hcd) rfl hbind hcell hloc (fun h₁ hns hk₁ => ?_) hco hgen hk
  have r1 : A.depth + 1 + (dp - 1) < recursionLimit := room_next H0.room hdp
  have r2 : A.units + 3 + (un - 3) < cLine := units_next H0.units hun
  have eB : A.deeper (envOf qual scope s.heap.objs.size f cdv) = nA (A.deeper (envOf qual scope s.heap.objs.size f cdv)) := by
    have e1 := H0.handled
    obtain ⟨ha, da, fa, ga, ua⟩ := A
    dsimp only at e1
    subst e1
    rfl
  show wpAny (model prg w) (A.deeper (envOf qual scope s.heap.objs.size f cdv)) _ _ _ _
  rw [eB]
  refine wpAny_mono (h h₁ _ _ _ (A.deeper (envOf qual scope s.heap.objs.size f cdv)) _ _ p loose mean mg mb ⟨hns, fun b o e => hk₁ b o (H.sub b o e), hsz⟩ (fun p hp => ?_) (fun p hp => Heap.lt_size (hown p hp).1) H0.k T ?_ r1 r2 (fun fl s' => EndB s.gens s.drawn s.os P g s.heap.objs.size (match fl with | .ret v => v | _ => .none) s') fun fl v h m tk e F hP => ⟨h, m, tk, F, by cases e; exact hP⟩) (fun fl s' hl => ?_) fun _ _ y => y.elim
  · obtain ⟨e1, e2⟩ := hown p hp
    exact ⟨hk₁ _ _ e1, Nat.ne_of_lt (Heap.lt_size e1), H.gone _ e2⟩
  · intro h' m' F'
    exact ⟨rfl, r1, r2, ⟨base, _, by rw [← eB]; exact pushX B F' rfl hk⟩, H0.k.keeps F'.keep, ⟨p, loose, mean, mg, mb, T.keeps F'.keep⟩⟩
  · obtain ⟨h', m, tk', F, hP⟩ := hl
    exact ⟨h', tk', rfl, F.keep, hP⟩
theorem enterG {w : World} {A : Around} {s : Shared} {g : Heap} {as : List Addr} {dp un : Nat} {P : Value → Heap → Prop}
    {name qual : Str} {params : Arguments} {body : List Stmt} {scope : Scope} {dV kV doc pm cdv ct oc : Value} {an od : Option Addr} {osl : Array (Option Value)} {f : Addr} {args : List Value} {binds : List (Str × Value)} (own : List (Addr × Obj))
    (H : On w A g s.heap as dp un) (hdp : 1 ≤ dp) (hun : 3 ≤ un) (hown : ∀ p ∈ own, s.heap.get? p.1 = some p.2 ∧ p.1 ∈ as)
    (ho : (hd.heap_1 w.params).lookup f = some ⟨oc, od, .func (fnOf name qual params body scope dV kV doc pm an cdv ct), osl⟩) (hcd : codeIn (hd.heap_1 w.params) cdv qual = true)
    (hbind : BindsTo s (fnOf name qual params body scope dV kV doc pm an cdv ct) ⟨args, []⟩ binds) (hloc : ∀ y ∈ binds, scope.names.lookup y.1 = some .local)
    (h : ∀ h₁ gn dr os A' L tk p loose mean mg mb, Fr g L h₁ (fun y => binds.reverse.lookup y) → News g L h₁ own → (∀ p ∈ own, @LT.lt Nat _ p.1 L) → (hd.heap_1 w.params).In g → Top p loose mean mg mb g →
      Callee w (nA A') g L (dp - 1) (un - 3) → (nA A').depth + (dp - 1) < recursionLimit → (nA A').units + (un - 3) < cLine → ∀ K, EndK gn dr os P g L K →
      wpAny (model prg w) (nA A') (execs body (envL qual scope f cdv L)) K NoErr ⟨h₁, gn, dr, tk, os⟩)
    (hcell : ∀ x ∈ scope.names, x.2 ≠ .cell := by decide) (hco : scope.isCoroutine = false := by rfl) (hgen : scope.isGenerator = false := by rfl) (hk : scope.kind = .function := by rfl) :
    wpAny (model prg w) A (call (.ref f) args) (BackG g s P) NoErr s :=
  wpAny_call (codeAny_mono (enterGC own H hdp hun hown ho hcd hbind hloc h hcell hco hgen hk) fun r s' hr => match r, hr with
    | .ok (.ret _), hr => hr)
theorem enterC {w : World} {A : Around} {s : Shared} {g : Heap} {as : List Addr} {dp un : Nat} {P : Value → Heap → Prop}
    {name qual : Str} {params : Arguments} {body : List Stmt} {scope : Scope} {dV kV doc pm cdv ct oc : Value} {an od : Option Addr} {osl : Array (Option Value)} {f : Addr} {args : List Value} {binds : List (Str × Value)} (own : List (Addr × Obj))
    (H : On w A g s.heap as dp un) (hdp : 1 ≤ dp) (hun : 3 ≤ un) (hown : ∀ p ∈ own, s.heap.get? p.1 = some p.2 ∧ p.1 ∈ as)
    (ho : (hd.heap_1 w.params).lookup f = some ⟨oc, od, .func (fnOf name qual params body scope dV kV doc pm an cdv ct), osl⟩) (hcd : codeIn (hd.heap_1 w.params) cdv qual = true)
    (hbind : BindsTo s (fnOf name qual params body scope dV kV doc pm an cdv ct) ⟨args, []⟩ binds) (hkind : (binds.all fun y => scope.names.lookup y.1 == some .local || scope.names.lookup y.1 == some .cell) = true)
    (hnd : ((cellsFrom 0 scope.names []).map (·.1)).Nodup)
    (h : ∀ h₁ tk cells gn dr os A' L p loose mean mg mb, Fr g L h₁ (bindL (envOfC qual scope L f cdv).kindOf binds fun _ => none) → News g L h₁ (cells ++ own) →
      CellsAre (bindC (envOfC qual scope L f cdv).kindOf binds fun _ => none) (cellsFrom (L + 1) scope.names []) cells → (∀ p ∈ own, @LT.lt Nat _ p.1 L) → (hd.heap_1 w.params).In g → Top p loose mean mg mb g →
      Callee w (nA A') g L (dp - 1) (un - 3) → (nA A').depth + (dp - 1) < recursionLimit → (nA A').units + (un - 3) < cLine → ∀ K, EndK gn dr os P g L K →
      wpAny (model prg w) (nA A') (execs body (envOfC qual scope L f cdv)) K NoErr ⟨h₁, gn, dr, tk, os⟩)
    (hco : scope.isCoroutine = false := by rfl) (hgen : scope.isGenerator = false := by rfl) (hk : scope.kind = .function := by rfl) :
    wpAny (model prg w) A (call (.ref f) args) (BackG g s P) NoErr s := by
  have H0 := H.at_
  obtain ⟨base, outer, B⟩ := H0.below
  obtain ⟨p, loose, mean, mg, mb, T⟩ := H0.top
  have Kh := H0.k.keeps H.sub
  have hsz : @LE.le Nat _ g.objs.size s.heap.objs.size := Nat.le_of_eq H.size
  refine wpAny_call (codeAny_call_function (fd := fnOf name qual params body scope dV kV doc pm an cdv ct) (body := body) (room_1 H0.room hdp) (Kh _ _ ho) rfl hco hgen rfl (codeRec_of Kh hcd) (hbind _ _ _ _ ?_))
  refine wpAny_newFunctionEnv_cells hk (kindsX hkind _) fun env' he s' x => ?_
  subst he
  refine ⟨((T.keeps H.sub).nolimit).keeps x.toInCall.keep, codeAny_func ?_⟩
  obtain ⟨h₁, tk, rfl, _⟩ := x.done
  have hk₁ := x.toInCall.keep
  obtain ⟨cells, NC, Y⟩ := Cl.news (h₀ := s.heap) (Nat.le_refl _) fun n c hm => ⟨x.cell n c (lookup_of_mem_nodup (cellsFrom_names scope.names 0 (s.heap.objs.size + 1) [] [] rfl ▸ hnd) hm), x.above n c hm⟩
  have r1 : A.depth + 1 + (dp - 1) < recursionLimit := room_next H0.room hdp
  have r2 : A.units + 3 + (un - 3) < cLine := units_next H0.units hun
  have eB : A.deeper (envOfC qual scope s.heap.objs.size f cdv) = nA (A.deeper (envOfC qual scope s.heap.objs.size f cdv)) := by
    have e1 := H0.handled
    obtain ⟨ha, da, fa, ga, ua⟩ := A
    dsimp only at e1
    subst e1
    rfl
  show wpAny (model prg w) (A.deeper (envOfC qual scope s.heap.objs.size f cdv)) _ _ _ _
  rw [eB]
  refine wpAny_mono (h h₁ tk cells _ _ _ (A.deeper (envOfC qual scope s.heap.objs.size f cdv)) _ p loose mean mg mb ⟨x.toInCall.ns, fun b o e => hk₁ b o (H.sub b o e), hsz⟩ (fun p hp => ?_) Y (fun p hp => Heap.lt_size (hown p hp).1) H0.k T ?_ r1 r2 (fun fl s' => EndB s.gens s.drawn s.os P g s.heap.objs.size (match fl with | .ret v => v | _ => .none) s') fun fl v h m tk e F hP => ⟨h, m, tk, F, by cases e; exact hP⟩) (fun fl s' hl => ?_) fun _ _ y => y.elim
  · rcases List.mem_append.mp hp with hp | hp
    · refine ⟨(NC p hp).1, (NC p hp).2.1, ?_⟩
      cases q : g.get? p.1 with
      | none => rfl
      | some o => have := H.sub _ _ q; rw [(NC p hp).2.2] at this; cases this
    · obtain ⟨e1, e2⟩ := hown p hp
      exact ⟨hk₁ _ _ e1, Nat.ne_of_lt (Heap.lt_size e1), H.gone _ e2⟩
  · intro h' m' F'
    exact ⟨rfl, r1, r2, ⟨base, _, by rw [← eB]; exact pushX B F' rfl hk⟩, H0.k.keeps F'.keep, ⟨p, loose, mean, mg, mb, T.keeps F'.keep⟩⟩
  · obtain ⟨h', m, tk', F, hP⟩ := hl
    exact ⟨h', tk', rfl, F.keep, hP⟩
theorem At.on {w : World} {A : Around} {h : Heap} {dp un : Nat} (H : At w A h dp un) : On w A h h [] dp un :=
  ⟨H, fun _ _ e => e, rfl, fun _ _ e => .inl e, fun _ h => nomatch h⟩
theorem back_of {s : Shared} {P : Value → Heap → Prop} {v : Value} {s' : Shared} (h : BackG s.heap s P v s') : Back s P v s' := h
theorem on_hide {w : World} {A : Around} {s : Shared} {h₀ : Heap} {L : Addr} {m : Str → Option Value} {news : List (Addr × Obj)} {as : List Addr} {dp un dp' un' : Nat}
    (C : Callee w A h₀ L dp un) (F : Fr h₀ L s.heap m) (N : News h₀ L s.heap news) (M : ∀ a ∈ as, ∃ o, (a, o) ∈ news) (hd : dp' ≤ dp) (hu : un' ≤ un) : On w A (hideAll s.heap as) s.heap as dp' un' := by
  have nm : ∀ b o, h₀.get? b = some o → b ∉ as := fun b o e q => by
    obtain ⟨p, hp⟩ := M b q
    have := (N _ hp).2.2
    dsimp only at this
    rw [this] at e; cases e
  have nL : L ∉ as := fun q => by
    obtain ⟨p, hp⟩ := M L q
    exact (N _ hp).2.1 rfl
  obtain ⟨oL, es, ep, hL, hLd, hLk, hLf⟩ := F.ns
  refine ⟨(C (hideAll s.heap as) m ⟨⟨oL, es, ep, hideAll_get as hL nL, hLd, hLk, hLf⟩, fun b o e => hideAll_get _ (F.keep b o e) (nm b o e), F.above⟩).mono hd hu, fun b o e => of_hideAll _ e, hideAll_size _ _, fun b o e => ?_, fun a ha => hideAll_none _ ha⟩
  by_cases q : b ∈ as
  · exact .inr q
  · exact .inl (hideAll_get _ e q)
theorem hide_back {h₀ h h' : Heap} {L : Addr} {m : Str → Option Value} {news : List (Addr × Obj)} {as : List Addr} (F : Fr h₀ L h m) (N : News h₀ L h news) (M : ∀ a ∈ as, ∃ o, (a, o) ∈ news) (hk : ∀ b o, (hideAll h as).get? b = some o → h'.get? b = some o) :
    Fr h₀ L h' m ∧ (∀ p ∈ news, p.1 ∉ as → h'.get? p.1 = some p.2) ∧ ∀ b o, b ∉ as → h.get? b = some o → h'.get? b = some o := by
  have nm : ∀ b o, h₀.get? b = some o → b ∉ as := fun b o e q => by
    obtain ⟨p, hp⟩ := M b q
    have := (N _ hp).2.2
    dsimp only at this
    rw [this] at e; cases e
  have nL : L ∉ as := fun q => by
    obtain ⟨p, hp⟩ := M L q
    exact (N _ hp).2.1 rfl
  have up : ∀ b o, b ∉ as → h.get? b = some o → h'.get? b = some o := fun b o hb e => hk b o (hideAll_get _ e hb)
  refine ⟨⟨?_, fun b o e => up b o (nm b o e) (F.keep b o e), F.above⟩, fun p hp hn => up _ _ hn (N p hp).1, up⟩
  obtain ⟨oL, es, ep, hL, r⟩ := F.ns
  exact ⟨oL, es, ep, up L oL nL hL, r⟩
theorem useG {w : World} {A : Around} {s : Shared} {P : Value → Heap → Prop} {h₀ : Heap} {L : Addr} {m : Str → Option Value} {news : List (Addr × Obj)} {as : List Addr} {dp un dp' un' : Nat} {c : Sem Value} {Q E : Value → Shared → Prop}
    (call : ∀ g, On w A g s.heap as dp' un' → wpAny (model prg w) A c (BackG g s P) NoErr s) (C : Callee w A h₀ L dp un) (F : Fr h₀ L s.heap m) (N : News h₀ L s.heap news) (M : ∀ a ∈ as, ∃ o, (a, o) ∈ news) (hd : dp' ≤ dp) (hu : un' ≤ un)
    (k : ∀ v h' tk', Fr h₀ L h' m → (∀ p ∈ news, p.1 ∉ as → h'.get? p.1 = some p.2) → (∀ b o, b ∉ as → s.heap.get? b = some o → h'.get? b = some o) → P v h' → Q v { s with heap := h', toks := tk' }) :
    wpAny (model prg w) A c Q E s := by
  refine wpAny_mono (call _ (on_hide C F N M hd hu)) (fun v s' hb => ?_) fun _ _ y => y.elim
  obtain ⟨h', tk', rfl, hk, hP⟩ := hb
  obtain ⟨F', N', up⟩ := hide_back F N M hk
  exact k v h' tk' F' N' up hP
theorem ledger_new {h₀ h h' : Heap} {L a : Addr} {o : Obj} {m : Str → Option Value} (F : Fr h₀ L h m) (hn : h.get? a = none) (e : h'.get? a = some o) : h'.get? a = some o ∧ a ≠ L ∧ h₀.get? a = none := by
  refine ⟨e, fun q => ?_, ?_⟩
  · obtain ⟨oL, _, _, hL, _⟩ := F.ns
    rw [← q, hn] at hL; cases hL
  · cases hq : h₀.get? a with
    | none => rfl
    | some o => have := F.keep _ _ hq; rw [hn] at this; cases this
example : True := by w_top off; trivial
inductive SrcIs (o : Obj) : Prop
  | mk (d : _) (m : _) (t : _) (u : _) (n : _) (e1 : o = listOf (List.toArray [.int d t, .int m u]) n) (e2 : 0 ≤ d) (e3 : 0 ≤ m) (e4 : m < 2147483647) : SrcIs o
theorem mul_ok {a b : Int} (h1 : -(2 ^ 60) < a ∧ a < 2 ^ 60) (h2 : -(2 ^ 60) < b ∧ b < 2 ^ 60) : IntMulOk a b := by
  have k1 : Builtin.Int.intBits a ≤ 60 := intBits_le_iff.mpr (by k_extra "om")
  exact IntMulOk.of_left (by k_extra "om")
theorem mul_small {prog : Program} {w : World} {A : Around} {E : Value → Shared → Prop} {s : Shared} {a b : Int} {t u : Tok} {Q : Value → Shared → Prop} (h1 : -(2 ^ 60) < a ∧ a < 2 ^ 60) (h2 : -(2 ^ 60) < b ∧ b < 2 ^ 60) (h : Q (.int (a * b) s.toks) { s with toks := s.toks + 1 }) :
    wpAny (model prog w) A (binaryOp .Mult (.int a t) (.int b u)) Q E s := PyProof.Rows.mul_int h (mul_ok h1 h2)
theorem fm_bnd {d x : Int} : -(2 ^ 60) < [d, x.fmod 2147483647].getD (Int.toNat 1) 0 ∧ [d, x.fmod 2147483647].getD (Int.toNat 1) 0 < 2 ^ 60 := by
  show -(2 ^ 60) < x.fmod 2147483647 ∧ x.fmod 2147483647 < 2 ^ 60
  have h1 := Int.fmod_nonneg_of_pos x (b := 2147483647) (by decide)
  have h2 := Int.fmod_lt_of_pos x (b := 2147483647) (by decide)
  omega
example : True := by
  (k_with "binaryOp Mult int int" => (k_here; (refine mul_small (by exact fm_bnd) (by exact fm_bnd) ?_)))
  trivial
theorem take_C {w : World} {A : Around} {s : Shared} {g : Heap} {src : Addr} {o : Obj} {top : Nat} {tt : Tok}
   (H : On w A g s.heap [src] 6 150) (hs : s.heap.get? src = some o) (ho : SrcIs o) (h0 : 0 < top) (h1 : top ≤ 100) :
   wpAny (model prg w) A (call (.ref 478) [.ref src, .int (top : Int) tt]) (BackG g s fun v h' => (∃ (r : Nat) (t : Tok), v = .int (r : Int) t ∧ r < top) ∧ ∃ o, h'.get? src = some o ∧ SrcIs o) NoErr s := by
  refine hidP fun P9 k9 => ?_
  obtain ⟨d, m, t, u, n, rfl, hd, hm, hm2⟩ := ho
  refine k9 ?_; clear k9 P9
  refine' enterG (binds := [(Str.ofString "source", .ref src), (Str.ofString "top", .int (top : Int) tt)]) [(src, listOf (List.toArray [.int d t, .int m u]) n)] H (by k_extra "om") (by k_extra "om") ?hown ?ho ?hcd ?hb ?hl ?_ ?c1 ?c2 ?c3 ?c4
  case hown => intro p hp; rw [List.mem_singleton.mp hp]; exact ⟨hs, .head _⟩
  case ho => k_is
  case hcd => k_is
  case hb => exact BindsTo.of_eq rfl
  case hl => exact locs rfl
  case c1 => decide
  case c2 => exact rfl
  case c3 => exact rfl
  case c4 => exact rfl
  intro h₁ gn9 dr9 os9 A9 L9 tk9 pr9 loose9 mean9 mg9 mb9 F' N' lo' X' T' C' hroom hun K9 hK9
  (try dsimp only)
  generalize hT : (top : Int) = tp at *
  have k0 : 0 < tp := by omega
  have k1 : tp ≤ 100 := by omega
  have hne : tp ≠ 0 := by omega
  k_steps
  · have f1 := Int.fmod_nonneg_of_pos d k0
    have f2 := Int.fmod_lt_of_pos d k0
    have f3 := Int.fdiv_nonneg hd (Int.le_of_lt k0)
    refine endK hK9 (by k_asm) ⟨⟨(d.fmod tp).toNat, _, congrArg (fun x => Value.int x _) (Int.toNat_of_nonneg f1).symm, by omega⟩, _, News.get (by k_asm) (by k_mem), d.fdiv tp, m, _, _, _, rfl, f3, hm, hm2⟩
  · have f1 := fun x => Int.fmod_nonneg_of_pos x k0
    have f2 := fun x => Int.fmod_lt_of_pos x k0
    have g1 := Int.fmod_nonneg_of_pos (m * 39373 + 7) (b := 2147483647) (by decide)
    have g2 := Int.fmod_lt_of_pos (m * 39373 + 7) (b := 2147483647) (by decide)
    refine endK hK9 (by k_asm) ⟨⟨_, _, congrArg (fun x => Value.int x _) (Int.toNat_of_nonneg (f1 _)).symm, ?_⟩, _, News.get (by k_asm) (by k_mem), d, (m * 39373 + 7).fmod 2147483647, _, _, _, rfl, hd, g1, g2⟩
    have := f2 (((([d, ([d, m].getD (Int.toNat 1) 0 * 39373 + 7).fmod 2147483647].getD (Int.toNat 1) 0 * [d, ([d, m].getD (Int.toNat 1) 0 * 39373 + 7).fmod 2147483647].getD (Int.toNat 1) 0).fmod 2147483629).fdiv 32))
    have := f1 (((([d, ([d, m].getD (Int.toNat 1) 0 * 39373 + 7).fmod 2147483647].getD (Int.toNat 1) 0 * [d, ([d, m].getD (Int.toNat 1) 0 * 39373 + 7).fmod 2147483647].getD (Int.toNat 1) 0).fmod 2147483629).fdiv 32))
    omega
example : True := by w_top off; trivial
theorem useSrc {w : World} {A : Around} {s : Shared} {P : Value → Prop} {h₀ : Heap} {L src : Addr} {m : Str → Option Value} {news : List (Addr × Obj)} {o : Obj} {upd : Obj → List (Addr × Obj)} {dp un dp' un' : Nat} {c : Sem Value} {Q E : Value → Shared → Prop}
    (call : ∀ g, On w A g s.heap [src] dp' un' → s.heap.get? src = some o → wpAny (model prg w) A c (BackG g s fun v h' => P v ∧ ∃ o, h'.get? src = some o ∧ SrcIs o) NoErr s) (C : Callee w A h₀ L dp un) (F : Fr h₀ L s.heap m) (N : News h₀ L s.heap news) (U : UpdF src o news upd) (hd : dp' ≤ dp) (hu : un' ≤ un)
    (k : ∀ v o' h' tk', Fr h₀ L h' m → News h₀ L h' (upd o') → SrcIs o' → P v → Q v { s with heap := h', toks := tk' }) :
    wpAny (model prg w) A c Q E s := by
  obtain ⟨pre, post, rfl, hg, x1, x2⟩ := U.split
  have hm : (src, o) ∈ pre ++ (src, o) :: post := List.mem_append_right _ (.head _)
  refine useG (as := [src]) (fun g O => call g O (N _ hm).1) C F N (fun a ha => ⟨o, by rw [List.mem_singleton.mp ha]; exact hm⟩) hd hu fun v h' tk' F' up _ hP => ?_
  obtain ⟨hv, o', e, ho⟩ := hP
  refine k v o' h' tk' F' (fun p hp => ?_) ho hv
  rw [hg] at hp
  rcases List.mem_append.mp hp with hp | hp
  · have hp' : p ∈ pre ++ (src, o) :: post := List.mem_append_left _ hp
    exact ⟨up p hp' (fun q => x1 p hp (List.mem_singleton.mp q)), (N p hp').2⟩
  · rcases List.mem_cons.mp hp with rfl | hp
    · exact ⟨e, (N _ hm).2⟩
    · have hp' : p ∈ pre ++ (src, o) :: post := List.mem_append_right _ (.tail _ hp)
      exact ⟨up p hp' (fun q => x2 p hp (List.mem_singleton.mp q)), (N p hp').2⟩
theorem take_U {w : World} {A : Around} {s : Shared} {g : Heap} {L src : Addr} {m : Str → Option Value} {news : List (Addr × Obj)} {o : Obj} {upd : Obj → List (Addr × Obj)} {dp un : Nat} {Q E : Value → Shared → Prop} {top : Nat} {tt : Tok} {P : Int}
    (C : Callee w A g L dp un) (F : Fr g L s.heap m) (N : News g L s.heap news) (U : UpdF src o news upd) (ho : SrcIs o) (hP : P = (top : Int)) (h0 : 0 < top) (h1 : top ≤ 100) (hd : 6 ≤ dp) (hu : 150 ≤ un)
    (k : ∀ (r : Nat) (t : Tok) o' h' tk', r < top → SrcIs o' → Fr g L h' m → News g L h' (upd o') → Q (.int (r : Int) t) { s with heap := h', toks := tk' }) :
    wpAny (model prg w) A (call (.ref 478) [.ref src, .int P tt]) Q E s := by
  subst hP
  refine useSrc (fun g O hs => take_C O hs ho h0 h1) C F N U hd hu fun v o' h' tk' F' N' ho' hv => ?_
  obtain ⟨r, t, rfl, hr⟩ := hv
  exact k r t o' h' tk' hr ho' F' N'
example : True := by
  (k_with "srco" => with_reducible assumption)
  (k_with "call ref" => (k_here; (with_reducible show wpAny _ _ (call (Value.ref 478) _) _ _ _); k_dflt (refine' take_U (by with_reducible assumption) (by k_asm) (by k_asm) (by k_updF) (by with_reducible assumption) (by with_reducible assumption) (by k_extra "om") (by k_extra "om") (by k_extra "om") (by k_extra "om") ?_); intro _ _ _ _ _ _ _ _ _; (try k_extra "dsN"); (try k_sweep)))
  (k_with "subscriptTail" => (k_here; refine stop_out ?_))
  (k_with "call builtin:len" => (k_here; (with_reducible show wpAny _ _ (call (Value.builtin _) [Value.ref _]) _ _ _); (refine' len_of (by is_list) (by with_reducible assumption) (by k_extra "om") ?_); intro _ _))
  trivial
theorem one_C {w : World} {A : Around} {s : Shared} {g : Heap} {src l : Addr} {o : Obj} {vs : List Value} {n : Nat}
   (H : On w A g s.heap [src] 10 250) (hs : s.heap.get? src = some o) (ho : SrcIs o) (hl : g.get? l = some (listOf (List.toArray vs) n)) (h0 : 0 < vs.length) (h1 : vs.length ≤ 100) :
   wpAny (model prg w) A (call (.ref 485) [.ref src, .ref l]) (BackG g s fun v h' => (∃ (r : Nat), vs[r]? = some v) ∧ ∃ o, h'.get? src = some o ∧ SrcIs o) NoErr s := by
  refine' enterG (binds := [(Str.ofString "source", .ref src), (Str.ofString "things", .ref l)]) [(src, o)] H (by k_extra "om") (by k_extra "om") ?hown ?ho ?hcd ?hb ?hl ?_ ?c1 ?c2 ?c3 ?c4
  case hown => intro p hp; rw [List.mem_singleton.mp hp]; exact ⟨hs, .head _⟩
  case ho => k_is
  case hcd => k_is
  case hb => exact BindsTo.of_eq rfl
  case hl => exact locs rfl
  case c1 => decide
  case c2 => exact rfl
  case c3 => exact rfl
  case c4 => exact rfl
  intro h₁ gn9 dr9 os9 A9 L9 tk9 pr9 loose9 mean9 mg9 mb9 F' N' lo' X' T' C' hroom hun K9 hK9
  (try dsimp only)
  have hIL := isList_base F' hl
  have hsz : vs.toArray.size = vs.length := List.size_toArray ..
  have hP : (vs.length : Int) = ((vs.length : Nat) : Int) := rfl
  k_steps
  rename Fr _ _ _ _ => F3
  rename News _ _ _ _ => N3
  rename SrcIs _ => hso
  rename_i r9 _ _ _ _ hr9
  have hx : vs.toArray[r9]? = some vs[r9] := by simp [hr9]
  refine Stop.in (item_of (isList_base F3 hl) hx (by k_extra "om") ?_)
  refine stepR (by with_reducible assumption) ?_
  exact endK hK9 F3 ⟨⟨r9, List.getElem?_eq_getElem hr9⟩, _, (N3 _ (.head _)).1, hso⟩
theorem one_U {w : World} {A : Around} {s : Shared} {g : Heap} {L src l : Addr} {m : Str → Option Value} {news : List (Addr × Obj)} {o : Obj} {upd : Obj → List (Addr × Obj)} {dp un : Nat} {Q E : Value → Shared → Prop} {vs : List Value} {n : Nat}
    (C : Callee w A g L dp un) (F : Fr g L s.heap m) (N : News g L s.heap news) (U : UpdF src o news upd) (ho : SrcIs o) (hl : s.heap.get? l = some (listOf (List.toArray vs) n)) (hne : @Ne Nat l src) (h0 : 0 < vs.length) (h1 : vs.length ≤ 100) (hd : 10 ≤ dp) (hu : 250 ≤ un)
    (k : ∀ (r : Nat) v o' h' tk', vs[r]? = some v → SrcIs o' → Fr g L h' m → News g L h' (upd o') → Q v { s with heap := h', toks := tk' }) :
    wpAny (model prg w) A (call (.ref 485) [.ref src, .ref l]) Q E s := by
  refine useSrc (fun g' O hs => one_C (vs := vs) (n := n) O hs ho ?_ h0 h1) C F N U hd hu fun v o' h' tk' F' N' ho' hv => ?_
  · rcases O.full _ _ hl with h | h
    · exact h
    · exact absurd (List.mem_singleton.mp h) hne
  · obtain ⟨r, hr⟩ := hv
    exact k r v o' h' tk' hr ho' F' N'
example : True := by w_top off; trivial
noncomputable abbrev tupV (vs : List Value) (n : Nat) : Obj := { cls := .type "tuple", data := .seq (List.toArray vs) n }
inductive VS where
  | tup (p q : Int)
  | bool (b : Bool)
  | str (x : Str)
noncomputable def VIs (h : Heap) (v : Value) : VS → Prop
  | .tup p q => ∃ a t u n, v = .ref a ∧ h.get? a = some (tupV [.int p t, .int q u] n)
  | .bool b => v = .bool b
  | .str x => ∃ t, v = .str x t
noncomputable def VS.holds (pos : Nat) : VS → Bool
  | .tup p q => p == (pos : Int) && q == 1
  | .bool b => b
  | .str x => decide (0 < x.length)
theorem kitAt_G {g h : Heap} {L a : Addr} {m : Str → Option Value} {T : String} (F : Fr g L h m) (k : KitAt a T g) : KitAt a T h := let ⟨o, e, c⟩ := k; ⟨o, F.keep _ _ e, c⟩
example : True := by
  (k_with "call builtin:isinstance" => (k_here; (with_reducible show wpAny _ _ (call _ [Value.ref _, Value.type _]) _ _ _); k_dflt (refine' kia_one kitx_tuple (by k_in) (by exact kitAt_G (by k_asm) (by with_reducible assumption)) (by kit_is) (by kit_nb) ?_; k_whole; intro _)))
  (k_with "call builtin:len" => (k_here; (with_reducible show wpAny _ _ (call _ [Value.str _ _]) _ _ _); (refine len_str ?_ ?_; (· show ¬ _; omega))))
  trivial
theorem holds_tup {w : World} {A : Around} {s : Shared} {a : Addr} {p q : Int} {t u tp : Tok} {n pos : Nat}
   (H : At w A s.heap 6 170) (ht : s.heap.get? a = some (tupV [.int p t, .int q u] n)) :
   wpAny (model prg w) A (call (.ref 201) [.ref a, .int (pos : Int) tp]) (Back s fun v h' => v = .bool ((VS.tup p q).holds pos)) NoErr s := by
  have hk : KitAt a "tuple" s.heap := ⟨_, ht, rfl⟩
  have hr := reads_tuple_at ht rfl rfl (ReadsAll.cons (Reads.int p t) (ReadsAll.cons (Reads.int q u) ReadsAll.nil))
  refine' enter (binds := [(Str.ofString "value", .ref a), (Str.ofString "position", .int (pos : Int) tp)]) H (by k_extra "om") (by k_extra "om") (by k_is) (by k_is) (BindsTo.of_eq rfl) (locs rfl) ?_ (by decide) rfl rfl rfl
  intro h₁ gn9 dr9 os9 A9 L9 tk9 pr9 loose9 mean9 mg9 mb9 F' N' X' T' C' hroom hun K9 hK9
  (try dsimp only)
  k_steps
  exact endK hK9 (by k_asm) rfl
theorem holds_bool {w : World} {A : Around} {s : Shared} {b : Bool} {tp : Tok} {pos : Nat}
   (H : At w A s.heap 6 170) :
   wpAny (model prg w) A (call (.ref 201) [.bool b, .int (pos : Int) tp]) (Back s fun v h' => v = .bool ((VS.bool b).holds pos)) NoErr s := by
  refine' enter (binds := [(Str.ofString "value", .bool b), (Str.ofString "position", .int (pos : Int) tp)]) H (by k_extra "om") (by k_extra "om") (by k_is) (by k_is) (BindsTo.of_eq rfl) (locs rfl) ?_ (by decide) rfl rfl rfl
  intro h₁ gn9 dr9 os9 A9 L9 tk9 pr9 loose9 mean9 mg9 mb9 F' N' X' T' C' hroom hun K9 hK9
  (try dsimp only)
  k_steps
  exact endK hK9 (by k_asm) rfl
theorem holds_str {w : World} {A : Around} {s : Shared} {x : Str} {t tp : Tok} {pos : Nat}
   (H : At w A s.heap 6 170) (hx : x.length ≤ 10) :
   wpAny (model prg w) A (call (.ref 201) [.str x t, .int (pos : Int) tp]) (Back s fun v h' => v = .bool ((VS.str x).holds pos)) NoErr s := by
  refine' enter (binds := [(Str.ofString "value", .str x t), (Str.ofString "position", .int (pos : Int) tp)]) H (by k_extra "om") (by k_extra "om") (by k_is) (by k_is) (BindsTo.of_eq rfl) (locs rfl) ?_ (by decide) rfl rfl rfl
  intro h₁ gn9 dr9 os9 A9 L9 tk9 pr9 loose9 mean9 mg9 mb9 F' N' X' T' C' hroom hun K9 hK9
  (try dsimp only)
  k_steps
  refine endK hK9 (by k_asm) ?_
  show Value.bool (decide (0 < (x.length : Int))) = Value.bool (decide (0 < x.length))
  congr 2
  exact propext ⟨fun h => by omega, fun h => by omega⟩
example : True := by w_top off; trivial
theorem At.in1 {w : World} {A : Around} {h : Heap} {dp un : Nat} (H : At w A h dp (un + 1)) : At w A.in1 h dp un := by
  obtain ⟨a, b, c, ⟨base, outer, ⟨s1, s2, s3⟩⟩, d, e⟩ := H
  exact ⟨a, b, by show A.units + 1 + un < cLine; omega, ⟨base, outer, ⟨s1, s2, s3⟩⟩, d, e⟩
theorem enterFn {w : World} {A : Around} {s : Shared} {dp un : Nat} {P : Value → Heap → Prop}
    {name qual : Str} {params : Arguments} {body : List Stmt} {scope : Scope} {cl : List (Str × Addr)} {doc pm ctv : Value} {c' f : Addr} {args : List Value} {binds : List (Str × Value)}
    (H : At w A s.heap dp un) (hdp : 1 ≤ dp) (hun : 3 ≤ un)
    (ho : s.heap.get? f = some (fnMade name qual params body scope cl doc pm c' ctv)) (hcd : s.heap.CodeRec (.ref c') qual)
    (hbind : BindsTo s (fnX name qual params body scope cl .none .none doc pm none (.ref c') ctv) ⟨args, []⟩ binds) (hloc : ∀ y ∈ binds, scope.names.lookup y.1 = some .local)
    (h : ∀ h₁ gn dr os A' L tk p loose mean mg mb, Fr s.heap L h₁ (fun y => binds.reverse.lookup y) → News s.heap L h₁ [] → (hd.heap_1 w.params).In s.heap → Top p loose mean mg mb s.heap →
      Callee w (nA A') s.heap L (dp - 1) (un - 3) → (nA A').depth + (dp - 1) < recursionLimit → (nA A').units + (un - 3) < cLine → ∀ K, EndK gn dr os P s.heap L K →
      wpAny (model prg w) (nA A') (execs body (envX qual scope L f (.ref c') cl)) K NoErr ⟨h₁, gn, dr, tk, os⟩)
    (hcell : ∀ x ∈ scope.names, x.2 ≠ .cell) (hco : scope.isCoroutine = false) (hgen : scope.isGenerator = false) (hk : scope.kind = .function) :
    wpAny (model prg w) A (call (.ref f) args) (Back s P) NoErr s := by
  obtain ⟨base, outer, B⟩ := H.below
  obtain ⟨p, loose, mean, mg, mb, T⟩ := H.top
  refine wpAny_call (codeAny_call_def (fd := fnX name qual params body scope cl .none .none doc pm none (.ref c') ctv) (body := body) (binds := binds) (room_1 H.room hdp) ho rfl T.nolimit hcd rfl hbind hcell hloc (fun h₁ hns hk₁ => ?_) hco hgen hk)
  have r1 : A.depth + 1 + (dp - 1) < recursionLimit := room_next H.room hdp
  have r2 : A.units + 3 + (un - 3) < cLine := units_next H.units hun
  have eB : A.deeper (envX qual scope s.heap.objs.size f (.ref c') cl) = nA (A.deeper (envX qual scope s.heap.objs.size f (.ref c') cl)) := by
    have e1 := H.handled
    obtain ⟨ha, da, fa, ga, ua⟩ := A
    dsimp only at e1
    subst e1
    rfl
  show wpAny (model prg w) (A.deeper (envX qual scope s.heap.objs.size f (.ref c') cl)) _ _ _ _
  rw [eB]
  refine wpAny_mono (h h₁ _ _ _ (A.deeper (envX qual scope s.heap.objs.size f (.ref c') cl)) _ _ p loose mean mg mb ⟨hns, hk₁, Nat.le_refl _⟩ .nil H.k T ?_ r1 r2 (fun fl s' => EndB s.gens s.drawn s.os P s.heap s.heap.objs.size (match fl with | .ret v => v | _ => .none) s') fun fl v h m tk e F hP => ⟨h, m, tk, F, by cases e; exact hP⟩) (fun fl s' hl => ?_) fun _ _ y => y.elim
  · intro h' m' F'
    exact ⟨rfl, r1, r2, ⟨base, _, by rw [← eB]; exact pushX B F' rfl hk⟩, H.k.keeps F'.keep, ⟨p, loose, mean, mg, mb, T.keeps F'.keep⟩⟩
  · obtain ⟨h', m, tk', F, hP⟩ := hl
    exact ⟨h', tk', rfl, F.keep, hP⟩
theorem enterLam {w : World} {A : Around} {s : Shared} {dp un : Nat} {P : Value → Heap → Prop}
    {name qual : Str} {params : Arguments} {body : PySem.Expr} {scope : Scope} {cl : List (Str × Addr)} {pm ctv : Value} {c' f : Addr} {args : List Value} {binds : List (Str × Value)}
    (H : At w A s.heap dp un) (hdp : 1 ≤ dp) (hun : 3 ≤ un)
    (ho : s.heap.get? f = some (kla_obj name qual params body scope cl pm c' ctv)) (hcd : s.heap.CodeRec (.ref c') qual)
    (hbind : bindArgs (kla_fn name qual params body scope cl pm (.ref c') ctv) ⟨args, []⟩ = pure binds) (hloc : ∀ y ∈ binds, scope.names.lookup y.1 = some .local)
    (h : ∀ h₁ gn dr os A' L tk p loose mean mg mb, Fr s.heap L h₁ (fun y => binds.reverse.lookup y) → News s.heap L h₁ [] → (hd.heap_1 w.params).In s.heap → Top p loose mean mg mb s.heap →
      Callee w (nA A') s.heap L (dp - 1) (un - 3) → (nA A').depth + (dp - 1) < recursionLimit → (nA A').units + (un - 3) < cLine →
      wpAny (model prg w) (nA A') (eval body (envX qual scope L f (.ref c') cl))
        (EndB gn dr os P s.heap L) NoErr ⟨h₁, gn, dr, tk, os⟩)
    (hcell : ∀ x ∈ scope.names, x.2 ≠ .cell) (hco : scope.isCoroutine = false) (hgen : scope.isGenerator = false) (hk : scope.kind = .function) :
    wpAny (model prg w) A (call (.ref f) args) (Back s P) NoErr s := by
  obtain ⟨base, outer, B⟩ := H.below
  obtain ⟨p, loose, mean, mg, mb, T⟩ := H.top
  refine wpAny_call (kla_callFunE (room_1 H.room hdp) ho rfl hco hgen rfl hcd ?_)
  rw [hbind]
  refine wpAny_pure (wpAny_newFunctionEnv hcell hloc (fun h₁ hns hsb => ?_) hk)
  have hk₁ : ∀ b o, s.heap.get? b = some o → h₁.get? b = some o := fun b o e => hsb.extBut b o (Nat.ne_of_lt (Heap.lt_size e)) (Heap.get?_push_of_some _ e)
  refine ⟨(T.nolimit).keeps hk₁, ?_⟩
  have r1 : A.depth + 1 + (dp - 1) < recursionLimit := room_next H.room hdp
  have r2 : A.units + 3 + (un - 3) < cLine := units_next H.units hun
  have eB : A.deeper (envX qual scope s.heap.objs.size f (.ref c') cl) = nA (A.deeper (envX qual scope s.heap.objs.size f (.ref c') cl)) := by
    have e1 := H.handled
    obtain ⟨ha, da, fa, ga, ua⟩ := A
    dsimp only at e1
    subst e1
    rfl
  show codeAny (model prg w) A (.expr body (envX qual scope s.heap.objs.size f (.ref c') cl)) _ _
  refine kla_codeExpr ?_
  rw [eB]
  refine wpAny_mono (h h₁ _ _ _ (A.deeper (envX qual scope s.heap.objs.size f (.ref c') cl)) _ _ p loose mean mg mb ⟨hns, hk₁, Nat.le_refl _⟩ .nil H.k T ?_ r1 r2) (fun fl s' hl => ?_) fun _ _ y => y.elim
  · intro h' m' F'
    exact ⟨rfl, r1, r2, ⟨base, _, by rw [← eB]; exact pushX B F' rfl hk⟩, H.k.keeps F'.keep, ⟨p, loose, mean, mg, mb, T.keeps F'.keep⟩⟩
  · obtain ⟨h', m, tk', F, hP⟩ := hl
    exact ⟨h', tk', rfl, F.keep, hP⟩
section
variable {M : Model} {A : Around} {E : Value → Shared → Prop} {s : Shared} {h₀ : Heap} {L a : Addr} {m : Str → Option Value} {cn : Str} {cs : Scope} {ccd : Value} {cl : List (Str × Addr)} {x : Str} {pos : Pos} {v : Value} {Q : Value → Shared → Prop} {c : Addr} {o : Obj}
theorem nameX_G (F : Fr h₀ L s.heap m) (hc : cl.lookup x = some c) (hm : h₀.get? c = some o) (hd : o.data = .cell (some v)) (h : Q v s)
    (hk : cs.kind = .function := by rfl) (hx : (envX cn cs L a ccd cl).kindOf x = some .free := by rfl) (hb : (x == ("__debug__" : Str)) = false := by decide) (hn : (x == ("__classdict__" : Str)) = false := by decide) :
    wpAny M A (eval (.Name x pos) (envX cn cs L a ccd cl)) Q E s := wpAny_Name (wpAny_loadName_free hk hx hc ⟨o, F.keep _ _ hm, hd⟩ h hn) hb
end
theorem valueAt_of {k : Int} {v : Value} : ∀ {kvs : List (Int × Value)}, (kvs.map (·.1)).Nodup → (k, v) ∈ kvs → valueAt kvs k = some v
  | [], _, h => nomatch h
  | (k', v') :: r, hn, h => by
    rw [List.map_cons, List.nodup_cons] at hn
    unfold valueAt
    rw [List.find?_cons]
    rcases List.mem_cons.mp h with e | h
    · cases e; simp
    · have hne : k' ≠ k := fun e => hn.1 (e ▸ List.mem_map.mpr ⟨(k, v), h, rfl⟩)
      rw [show decide (k' = k) = false by simpa using hne]
      exact valueAt_of hn.2 h
theorem dict_item {prog : Program} {w : World} {A : Around} {E : Value → Shared → Prop} {s : Shared} {d : Addr} {oD : Obj} {kvs : List (Int × Value)} {k : Int} {t : Tok} {v : Value} {Q : Value → Shared → Prop}
    (hg : s.heap.get? d = some oD) (hD : oD.IsDictOf (PySem.intKind prog w) kvs) (hv : valueAt kvs k = some v) (h : ∀ tk, Q v { s with toks := tk }) :
    wpAny (model prog w) A (getItem (.ref d) (.int k t)) Q E s :=
  wpAny_getItem_of (knd := PySem.intKind prog w) (k := k) (by show Value.isInt k (.int k t) = true; simp [Value.isInt]) ((Heap.dictOf_iff.mpr ⟨oD, hg, hD⟩ : s.heap.DictOf (PySem.intKind prog w) d kvs)).mapOf hv (h _)
theorem dict_tail {prog : Program} {w : World} {A : Around} {E : Value → Shared → Prop} {s : Shared} {d : Addr} {oD : Obj} {kvs : List (Int × Value)} {k : Int} {t : Tok} {v : Value} {Q : Value → Shared → Prop} {value slice : PySem.Expr}
    (hg : s.heap.get? d = some oD) (hD : oD.IsDictOf (PySem.intKind prog w) kvs) (hv : valueAt kvs k = some v) (h : ∀ tk, Q v { s with toks := tk })
    (hs : subscripted slice false (.ref d) (.int k t) = operate [.ref d, .int k t] (getItem (.ref d) (.int k t)) := by with_unfolding_all rfl) :
    wpAny (model prog w) A (subscriptTail value slice (.ref d) (.int k t)) Q E s :=
  tail_any (Heap.dictOf_iff.mpr ⟨oD, hg, hD⟩ : s.heap.DictOf (PySem.intKind prog w) d kvs).typeIs PySem.F.slot_dict_getitem.lookup (dict_item hg hD hv h) hs
theorem fresh_of {w : World} {A : Around} {g h : Heap} {as : List Addr} {dp un : Nat} (H : On w A g h as dp un) {a : Addr} (e : g.get? a = none) (ne : a ∉ as) : h.get? a = none := by
  cases q : h.get? a with
  | none => rfl
  | some o =>
    rcases H.full _ _ q with h | h
    · rw [e] at h; cases h
    · exact absurd h ne
example : True := by w_top off; trivial
theorem At.make {w : World} {A : Around} {h : Heap} {dp un : Nat} {C : Addr} {vals : List Value} (H : At w A h (dp + 1) (un + 2)) : At w (A.under (.builtin "type.__call__" ⟨.ref C :: vals, []⟩)) h dp un := by
  obtain ⟨a, b, c, ⟨base, outer, ⟨s1, s2, s3⟩⟩, d, e⟩ := H
  refine ⟨a, ?_, ?_, ⟨base, outer, ⟨?_, s2, s3⟩⟩, d, e⟩
  · show A.depth + 1 + dp < recursionLimit
    omega
  · have e9 : (A.under (.builtin "type.__call__" ⟨.ref C :: vals, []⟩)).units ≤ A.units + 2 := Nat.add_le_add_left (by show (Code.builtin "type.__call__" ⟨.ref C :: vals, []⟩).cUnits ≤ 2; exact (by decide : (1 : Nat) ≤ 2)) _
    omega
  · unfold Around.under
    dsimp only
    rw [s1]; rfl
theorem cls_new {w : World} {A : Around} {s : Shared} {h₀ : Heap} {L : Addr} {m : Str → Option Value} {news : List (Addr × Obj)} {dp un dp' un' : Nat} {Q E : Value → Shared → Prop} {Cl fI : Addr} {pos : List Value} (P : Addr → Addr → Heap → Heap → Prop)
    (C : Callee w A h₀ L dp un) (F : Fr h₀ L s.heap m) (N : News h₀ L s.heap news) (X : (hd.heap_1 w.params).In h₀) (hm : makesIn (hd.heap_1 w.params) Cl = true) (hi : findIn (hd.heap_1 w.params) (.ref Cl) "__init__" = some (some (.ref fI))) (hf : isFn (hd.heap_1 w.params) (.ref fI) = true)
    (hd' : dp' + 1 ≤ dp) (hu : un' + 2 ≤ un)
    (init : ∀ A' g' s' x dx, On w A' g' s'.heap [x, dx] dp' un' → s'.heap.get? x = some (instObj Cl dx) → s'.heap.get? dx = some (dictOf [] 0) → @LT.lt Nat _ dx x → codeAny (model prg w) A' (.call (.ref fI) ⟨.ref x :: pos, []⟩) (BackR g' s' fun v h' => v = .none ∧ P x dx s'.heap h') s')
    (k : ∀ x dx h1 h' tk', Fr h₀ L h' m → News h₀ L h' news → (∀ a, a = x ∨ a = dx ∨ h1.get? a = none → s.heap.get? a = none) → (∀ p ∈ news, @LT.lt Nat _ p.1 dx) → @LT.lt Nat _ dx x → P x dx h1 h' → Q (.ref x) { s with heap := h', toks := tk' }) :
    wpAny (model prg w) A (call (.ref Cl) pos) Q E s := by
  refine wpAny_call ?_
  obtain ⟨hh, gn, d, t, os⟩ := s
  have XX := X.keeps F.keep
  refine make_core (makes_of XX hm) (looks_findIn XX hi) (fun self => bind_fn XX self (beq_iff_eq.mp hf)) (.inl rfl) ?_
  have N1 := (N.push F emptyDict).push (F.push _) (instObj Cl hh.objs.size)
  rw [Heap.size_push] at N1
  have F1 := (F.push emptyDict).push (instObj Cl hh.objs.size)
  have M1 : ∀ a ∈ [hh.objs.size + 1, hh.objs.size], ∃ o, (a, o) ∈ ((hh.objs.size + 1, instObj Cl hh.objs.size) :: (hh.objs.size, emptyDict) :: news) := fun a ha => by
    rcases List.mem_cons.mp ha with rfl | ha
    · exact ⟨_, .head _⟩
    · rw [List.mem_singleton.mp ha]; exact ⟨_, .tail _ (.head _)⟩
  have C1 : Callee w (A.under (.builtin "type.__call__" ⟨.ref Cl :: pos, []⟩)) h₀ L dp' un' := fun h m F => ((C h m F).mono hd' hu).make
  have O := on_hide (s := ⟨(hh.push emptyDict).push (instObj Cl hh.objs.size), gn, d, t, os⟩) C1 F1 N1 M1 (Nat.le_refl _) (Nat.le_refl _)
  refine codeAny_mono (init _ _ ⟨(hh.push emptyDict).push (instObj Cl hh.objs.size), gn, d, t, os⟩ _ _ O (N1 _ (.head _)).1 (N1 _ (.tail _ (.head _))).1 (Nat.lt_succ_self _)) fun r s' hr => ?_
  match r, hr with
  | .ok (.ret v), hr =>
    obtain ⟨h', tk', rfl, hk, rfl, hP⟩ := hr
    obtain ⟨F', N', up⟩ := hide_back F1 N1 M1 hk
    refine ⟨rfl, k _ _ _ h' tk' F' (fun p hp => ⟨N' p (.tail _ (.tail _ hp)) fun q => ?_, (N p hp).2⟩) (fun a ha => ?_) (fun p hp => Heap.lt_size (N p hp).1) (Nat.lt_succ_self _) hP⟩
    · have h1 := Heap.lt_size (N p hp).1
      rcases List.mem_cons.mp q with q | q
      · rw [q] at h1; exact absurd h1 (Nat.not_lt_of_le (Nat.le_succ _))
      · rw [List.mem_singleton.mp q] at h1; exact absurd h1 (Nat.lt_irrefl _)
    · rcases ha with rfl | rfl | ha
      · exact Heap.get?_none_of_le (Nat.le_succ _)
      · exact Heap.get?_none_of_le (Nat.le_refl _)
      · cases q : hh.get? a with
        | none => rfl
        | some o => rw [Heap.get?_push_of_some _ (Heap.get?_push_of_some _ q)] at ha; cases ha
example : True := by w_top off; trivial
example : True := by
  (k_with "eval Name" => (k_here; k_dflt (refine' nameX_G (by k_asm) (by rfl) (by with_reducible assumption) (by with_reducible assumption) ?_)))
  trivial
inductive Wd where
  | number | half | last | from_ | even | text | kind
noncomputable def Wd.str : Wd → String
  | .number => "number"
  | .half => "half"
  | .last => "last"
  | .from_ => "from"
  | .even => "even"
  | .text => "text"
  | .kind => "kind"
inductive WordAt (h : Heap) (a : Addr) (wd : Wd) (k : Nat) : Prop
  | mk (t : _) (u : _) (n : _) (e1 : h.get? a = some (tupV [.str (Str.ofString wd.str) t, .int (k : Int) u] n)) : WordAt h a wd k
theorem WordAt.keep {h h' : Heap} {a : Addr} {wd : Wd} {k : Nat} (H : WordAt h a wd k) (kp : ∀ b o, h.get? b = some o → h'.get? b = some o) : WordAt h' a wd k := let ⟨t, u, n, e⟩ := H; ⟨t, u, n, kp _ _ e⟩
noncomputable def xs (k : Nat) : Str := ⟨(List.replicate k 120).toArray⟩
noncomputable def wordV (T : List Row) (k node pos size : Nat) : Wd → VS
  | .number => .tup k 1
  | .half => .tup (2 * k + 1) 2
  | .last => .tup size 1
  | .from_ => .bool (decide ((k : Int) ≤ (pos : Int)))
  | .even => .bool ((pos : Int).fmod 2 == 0)
  | .text => .str (xs k)
  | .kind => .bool (kd T node == Str.ofString "element")
noncomputable def VOut (s : Shared) (v : Value) (h : Heap) : VS → Prop
  | .tup p q => ∃ a t u n, v = .ref a ∧ s.heap.get? a = none ∧ h.get? a = some (tupV [.int p t, .int q u] n)
  | .bool b => v = .bool b
  | .str x => ∃ t, v = .str x t
noncomputable def vofOf (o : Obj) : Option (Arguments × List Stmt × Scope) := match o.data with
  | .func fd => match fd.body with
    | .stmts (.FunctionDef _ ps bd _ _ _ sc _ _ _ :: _) => some (ps, bd, sc)
    | _ => none
  | _ => none
noncomputable def VofIs (w : World) (params : Arguments) (body : List Stmt) (scope : Scope) : Prop := ∃ o, (hd.heap_1 w.params).lookup 506 = some o ∧ vofOf o = some (params, body, scope)
theorem vof_go {w : World} {params params' : Arguments} {body body' : List Stmt} {scope scope' : Scope} {G : Prop} {o : Obj} (H : VofIs w params body scope)
    (h : (hd.heap_1 w.params).lookup 506 = some o) (h2 : vofOf o = some (params', body', scope')) (k : params = params' → body = body' → scope = scope' → G) : G := by
  obtain ⟨o', hK, h3⟩ := H
  rw [hK] at h
  cases h
  rw [h3] at h2
  cases h2
  exact k rfl rfl rfl
structure FnV (w : World) (h : Heap) (f t : Addr) : Prop where
  ex : ∃ params body scope doc pm c' ctv cc o q, VofIs w params body scope ∧ h.get? f = some (fnMade (Str.ofString "value_of") q params body scope [(Str.ofString "tree", cc)] doc pm c' ctv) ∧ h.CodeRec (.ref c') q ∧ h.get? cc = some o ∧ o.data = .cell (some (.ref t))
theorem wdE {wd w2 : Wd} (h : (Str.ofString wd.str == Str.ofString w2.str) = true) : wd = w2 := by
  cases wd <;> cases w2 <;> first | rfl | exact absurd h (by decide)
theorem wdK {wd : Wd} (h1 : (Str.ofString wd.str == Str.ofString Wd.number.str) = false) (h2 : (Str.ofString wd.str == Str.ofString Wd.half.str) = false) (h3 : (Str.ofString wd.str == Str.ofString Wd.last.str) = false) (h4 : (Str.ofString wd.str == Str.ofString Wd.from_.str) = false) (h5 : (Str.ofString wd.str == Str.ofString Wd.even.str) = false) (h6 : (Str.ofString wd.str == Str.ofString Wd.text.str) = false) : wd = .kind := by
  cases wd <;> first | rfl | exact absurd h1 (by decide) | exact absurd h2 (by decide) | exact absurd h3 (by decide) | exact absurd h4 (by decide) | exact absurd h5 (by decide) | exact absurd h6 (by decide)
theorem mul_x {k : Nat} (hk : k < 4) : Txt.mul (Str.ofString "x") (k : Int) = xs k := by
  rcases (by omega : k = 0 ∨ k = 1 ∨ k = 2 ∨ k = 3) with rfl | rfl | rfl | rfl <;> rfl
theorem value_of_C {w : World} {A : Around} {s : Shared} {f t a : Addr} {T : List Row} {wd : Wd} {k i pos size : Nat} {ti tp tz : Tok}
   (H : At w A s.heap 10 200) (TT : TreeAt w s.heap t T) (hi : i < T.length) (hk : k < 4) (hp : pos ≤ 1000) (hz : size ≤ 1000) (hf : FnV w s.heap f t) (hw : WordAt s.heap a wd k) :
   wpAny (model prg w) A (call (.ref f) [.ref a, .int (i : Int) ti, .int (pos : Int) tp, .int (size : Int) tz]) (Back s fun v h' => VOut s v h' (wordV T k i pos size wd)) NoErr s := by
  refine hidP fun P9 k9 => ?_
  obtain ⟨params, body, scope, doc, pm, c', ctv, cc, o, q, hv, h1, h2, h3, h4⟩ := hf
  obtain ⟨t0, u0, n0, ha⟩ := hw
  refine k9 ?_; clear k9 P9
  refine' vof_go hv ?h ?h2 ?_
  case h => k_is
  case h2 => exact rfl
  intro e1 e2 e3
  subst e1 e2 e3
  refine' enterFn (binds := [(Str.ofString "word", .ref a), (Str.ofString "node", .int (i : Int) ti), (Str.ofString "position", .int (pos : Int) tp), (Str.ofString "size", .int (size : Int) tz)]) H (by k_extra "om") (by k_extra "om") h1 h2 ?hb ?hl ?_ ?c1 ?c2 ?c3 ?c4
  case hb => exact BindsTo.of_eq rfl
  case hl => exact locs rfl
  case c1 => decide
  case c2 => exact rfl
  case c3 => exact rfl
  case c4 => exact rfl
  intro h₁ gn9 dr9 os9 A9 L9 tk9 pr9 loose9 mean9 mg9 mb9 F' N' X' T' C' hroom hun K9 hK9
  (try dsimp only)
  clear h1 h2
  k_steps
  all_goals first
    | (obtain rfl := wdE (w2 := .number) (by assumption)
       exact endK hK9 (by k_asm) ⟨_, _, _, _, rfl, News.fresh (by k_asm) (by k_mem), News.get (by k_asm) (by k_mem)⟩)
    | (obtain rfl := wdE (w2 := .half) (by assumption)
       exact endK hK9 (by k_asm) ⟨_, _, _, _, rfl, News.fresh (by k_asm) (by k_mem), News.get (by k_asm) (by k_mem)⟩)
    | (obtain rfl := wdE (w2 := .last) (by assumption)
       exact endK hK9 (by k_asm) ⟨_, _, _, _, rfl, News.fresh (by k_asm) (by k_mem), News.get (by k_asm) (by k_mem)⟩)
    | (obtain rfl := wdE (w2 := .from_) (by assumption)
       exact endK hK9 (by k_asm) rfl)
    | (obtain rfl := wdE (w2 := .even) (by assumption)
       exact endK hK9 (by k_asm) rfl)
    | (obtain rfl := wdE (w2 := .text) (by assumption)
       exact endK hK9 (by k_asm) ⟨_, congrArg (fun z => Value.str z _) (mul_x hk)⟩)
    | (obtain rfl := wdK (by assumption) (by assumption) (by assumption) (by assumption) (by assumption) (by assumption)
       exact endK hK9 (by k_asm) rfl)
section
variable {w : World} {A : Around} {s : Shared} {g : Heap} {L : Addr} {m : Str → Option Value} {news : List (Addr × Obj)} {dp un : Nat} {Q E : Value → Shared → Prop} {f t a : Addr} {T : List Row} {wd : Wd} {k i pos size : Nat} {ti tp tz : Tok}
theorem FnV.keep {h h' : Heap} (H : FnV w h f t) (kp : ∀ b o, h.get? b = some o → h'.get? b = some o) : FnV w h' f t := by
  obtain ⟨params, body, scope, doc, pm, c', ctv, cc, o, q, hv, h1, h2, h3, h4⟩ := H
  obtain ⟨c2, oc, vs, tq, r1, r2, r3, r4⟩ := h2
  exact ⟨params, body, scope, doc, pm, c', ctv, cc, o, q, hv, kp _ _ h1, ⟨c2, oc, vs, tq, r1, kp _ _ r2, r3, r4⟩, kp _ _ h3, h4⟩
theorem holds_tup_U {p q : Int} {t u tp : Tok} {n : Nat} (C : Callee w A g L dp un) (F : Fr g L s.heap m) (N : News g L s.heap news) (hm : (a, tupV [.int p t, .int q u] n) ∈ news) (hd : 10 ≤ dp) (hu : 200 ≤ un)
   (kk : ∀ h' tk', Fr g L h' m → News g L h' news → Q (.bool ((VS.tup p q).holds pos)) { s with heap := h', toks := tk' }) :
   wpAny (model prg w) A (call (.ref 201) [.ref a, .int (pos : Int) tp]) Q E s :=
  use (holds_tup (C.at F (by k_extra "om") (by k_extra "om")) (N _ hm).1) F N fun v h' tk' F' N' _ e => by subst e; exact kk h' tk' F' N'
theorem holds_bool_U {b : Bool} {tp : Tok} (C : Callee w A g L dp un) (F : Fr g L s.heap m) (N : News g L s.heap news) (hd : 10 ≤ dp) (hu : 200 ≤ un)
   (kk : ∀ h' tk', Fr g L h' m → News g L h' news → Q (.bool ((VS.bool b).holds pos)) { s with heap := h', toks := tk' }) :
   wpAny (model prg w) A (call (.ref 201) [.bool b, .int (pos : Int) tp]) Q E s :=
  use (holds_bool (C.at F (by k_extra "om") (by k_extra "om"))) F N fun v h' tk' F' N' _ e => by subst e; exact kk h' tk' F' N'
theorem holds_str_U {x : Str} {t tp : Tok} (C : Callee w A g L dp un) (F : Fr g L s.heap m) (N : News g L s.heap news) (hx : x.length ≤ 10) (hd : 10 ≤ dp) (hu : 200 ≤ un)
   (kk : ∀ h' tk', Fr g L h' m → News g L h' news → Q (.bool ((VS.str x).holds pos)) { s with heap := h', toks := tk' }) :
   wpAny (model prg w) A (call (.ref 201) [.str x t, .int (pos : Int) tp]) Q E s :=
  use (holds_str (C.at F (by k_extra "om") (by k_extra "om")) hx) F N fun v h' tk' F' N' _ e => by subst e; exact kk h' tk' F' N'
end
example : True := by w_top off; trivial
inductive Fld (o : Obj) : Prop
  | mk (vs : _) (q : _) (t : _) (e1 : o.data = .fields vs) (e2 : vs[1]? = some (.str q t)) : Fld o
section
variable {prog : Program} {w : World} {A : Around} {E : Value → Shared → Prop} {s : Shared} {env : Env} {g : Heap} {x : Str} {body : List Stmt} {Q : Flow → Shared → Prop}
theorem for_tup {m₀ : Str → Option Value} {news : List (Addr × Obj)} {l : Addr} {vs : List Value} (J : Nat → (Str → Option Value) → List (Addr × Obj) → Prop)
    (hh : A.handled = none) (hl : s.heap.IsTuple l vs.toArray) (hlL : l ≠ env.locals) (F : Fr g env.locals s.heap m₀) (N : News g env.locals s.heap news)
    (hsrc : (∃ o, g.get? l = some o) ∨ ∃ ol, ∀ i m nx, J i m nx → (l, ol) ∈ nx) (hj : J 0 m₀ news)
    (turn : ∀ i v m nx h tk I oI, vs[i]? = some v → J i m nx → (∀ q ∈ nx, @Ne Nat q.1 I) → Fr g env.locals h (fun y => if y = x then some v else m y) → News g env.locals h ((I, oI) :: nx) →
      wpAny (model prog w) A (execs body env) (TurnOver g env.locals I oI (J (i + 1)) { s with heap := h, toks := tk } Q) E { s with heap := h, toks := tk })
    (done : ∀ m nx h tk, J vs.length m nx → Fr g env.locals h m → News g env.locals h nx → Q .next { s with heap := h, toks := tk }) :
    wpAny (model prog w) A (pyIter (.ref l)) (fun it s₂ => LoopAtV prog w A g env x body Q E it s₂) E s := by
  refine wpAny_pyIter_tuple hl ?_
  have hlt : l < s.heap.objs.size := by obtain ⟨o, ho, _⟩ := id hl; exact Heap.lt_size ho
  have W := Walks.tuple (prog := prog) (w := w) hh s.heap.objs.size l (Nat.ne_of_lt hlt) vs.toArray
  have hsz : vs.toArray.size = vs.length := List.size_toArray ..
  rw [hsz] at W
  refine ⟨_, _, _, vs.length, _, _, m₀, news, J, rfl, W, ?_, ?_, ?_, ⟨⟨_, Heap.get?_push_size _ rfl, rfl, rfl⟩, hl.at fun o e => Heap.get?_push_of_some _ e⟩, F.push _, (fun p hp => ⟨Heap.get?_push_of_some _ (N p hp).1, (N p hp).2⟩), hj, ?_, ?_⟩
  · intro hm
    rcases List.mem_cons.mp hm with e | hm
    · exact absurd F.ns.lt (e ▸ Nat.lt_irrefl _)
    · exact hlL (List.mem_singleton.mp hm).symm
  · intro b hb
    rw [List.mem_singleton.mp hb]
    exact next_is_new F
  · intro p hp hI
    exact absurd (Heap.lt_size (N p hp).1) ((List.mem_singleton.mp hI) ▸ Nat.lt_irrefl _)
  · rintro i v m₁ nx s₁ own ⟨hh', tk', rfl⟩ hin hP hJ hoff hown hget hmem hst F₁ N₁
    have hv : vs[i]? = some v := by simpa using hP
    have hIn : g.get? s.heap.objs.size = none := next_is_new F
    obtain ⟨⟨oi, hoi, _⟩, _⟩ := hst
    have hI : (s.heap.objs.size, oi) ∈ own := hmem _ (.head _) hIn oi hoi
    have hne : ∀ q ∈ nx, q.1 ≠ s.heap.objs.size := fun q hq e => hoff q hq (List.mem_singleton.mpr e)
    have N₂ : News g env.locals hh' ((s.heap.objs.size, oi) :: nx) := fun p hp => N₁ p ((List.mem_cons.mp hp).elim (fun e => List.mem_append_left _ (e ▸ hI)) fun e => List.mem_append_right _ e)
    refine wpAny_mono (turn i v m₁ nx hh' tk' s.heap.objs.size oi hv hJ hne F₁ N₂) (fun f s₂ p => ?_) fun _ _ e => e
    have fin := turn_next (ls := [l]) hown hget hoi N₁ (fun b hb => by
      rw [List.mem_singleton.mp hb]
      exact hsrc.imp id fun ⟨ol, k⟩ => ⟨ol, k _ _ _ hJ, fun _ _ => k _ _ _⟩) (J' := J (i + 1)) (s₁ := { s with heap := hh', toks := tk' }) (s₂ := s₂)
    cases f with
    | ret v => exact .ret p
    | brk => exact .brk p
    | next => exact .next (fin p)
    | cont => exact .cont (fin p)
  · rintro h' tk m' nx F' N' _ hJ
    exact done m' nx h' tk hJ F' N'
theorem for_rngF {m₀ : Str → Option Value} {news : List (Addr × Obj)} {l : Addr} {n : Nat} {ta tb tc : Tok} (J : Nat → (Str → Option Value) → List (Addr × Obj) → Prop)
    (hh : A.handled = none) (hr : IsRange s.heap l 0 (n : Int) 1 ta tb tc) (hn : n ≤ 10000) (F : Fr g env.locals s.heap m₀) (N : News g env.locals s.heap news)
    (hj : J 0 m₀ news)
    (turn : ∀ i t m nx h tk I oI, ¬ Fld oI → i < n → J i m nx → (∀ q ∈ nx, @Ne Nat q.1 I) → Fr g env.locals h (fun y => if y = x then some (.int (i : Int) t) else m y) → News g env.locals h ((I, oI) :: nx) →
      wpAny (model prog w) A (execs body env) (TurnOver g env.locals I oI (J (i + 1)) { s with heap := h, toks := tk } Q) E { s with heap := h, toks := tk })
    (done : ∀ m nx h tk, J n m nx → Fr g env.locals h m → News g env.locals h nx → Q .next { s with heap := h, toks := tk }) :
    wpAny (model prog w) A (pyIter (.ref l)) (fun it s₂ => LoopAtV prog w A g env x body Q E it s₂) E s := by
  have hsm : Builtin.Range.small 0 (n : Int) 1 = true := small_one (by k_extra "om") (by k_extra "om") (by k_extra "om") (by k_extra "om")
  refine wpAny_pyIter_range hr hsm ?_
  have W := LCg.range_walks (prog := prog) (w := w) hh (I := s.heap.objs.size) 0 n
  refine ⟨_, _, _, n, _, _, m₀, news, J, rfl, W, ?_, ?_, ?_, ?_, F.push _, (fun p hp => ⟨Heap.get?_push_of_some _ (N p hp).1, (N p hp).2⟩), hj, ?_, ?_⟩
  · intro hm
    exact absurd F.ns.lt ((List.mem_singleton.mp hm) ▸ Nat.lt_irrefl _)
  · intro b hb
    rw [List.mem_singleton.mp hb]
    exact next_is_new F
  · intro p hp hI
    exact absurd (Heap.lt_size (N p hp).1) ((List.mem_singleton.mp hI) ▸ Nat.lt_irrefl _)
  · have e : Builtin.Range.rangeSize 0 (n : Int) 1 = ((n : Nat) : Int) := by
      have := rangeSize_nat 0 n
      simpa using this
    show IsRangeIter _ _ _ _ _
    rw [e]
    simpa using Heap.get?_push_size _ rfl
  · rintro i v m₁ nx s₁ own ⟨hh', tk', rfl⟩ hin hP hJ hoff hown hget hmem hst F₁ N₁
    obtain ⟨t, rfl⟩ := hP
    have hIn : g.get? s.heap.objs.size = none := next_is_new F
    obtain ⟨oi, hoi, hfi⟩ : ∃ oi, hh'.get? s.heap.objs.size = some oi ∧ ¬ Fld oi := ⟨_, hst, fun h => by obtain ⟨fv, q, t, h1, h2⟩ := h; cases h1; simp [rawInt] at h2⟩
    have hI : (s.heap.objs.size, oi) ∈ own := hmem _ (.head _) hIn _ hoi
    have hne : ∀ q ∈ nx, q.1 ≠ s.heap.objs.size := fun q hq e => hoff q hq (List.mem_singleton.mpr e)
    have N₂ : News g env.locals hh' ((s.heap.objs.size, oi) :: nx) := fun p hp => N₁ p ((List.mem_cons.mp hp).elim (fun e => List.mem_append_left _ (e ▸ hI)) fun e => List.mem_append_right _ e)
    have e0 : (0 : Int) + (i : Int) = (i : Int) := by omega
    rw [e0] at F₁
    refine wpAny_mono (turn i t m₁ nx hh' tk' s.heap.objs.size oi hfi hin hJ hne F₁ N₂) (fun f s₂ p => ?_) fun _ _ e => e
    have fin := turn_next (ls := []) hown hget hoi N₁ (fun b hb => nomatch hb) (J' := J (i + 1)) (s₁ := { s with heap := hh', toks := tk' }) (s₂ := s₂)
    cases f with
    | ret v => exact .ret p
    | brk => exact .brk p
    | next => exact .next (fin p)
    | cont => exact .cont (fin p)
  · rintro h' tk m' nx F' N' _ hJ
    exact done m' nx h' tk hJ F' N'
theorem for_rng {m₀ : Str → Option Value} {news : List (Addr × Obj)} {l : Addr} {n : Nat} {ta tb tc : Tok} (J : Nat → (Str → Option Value) → List (Addr × Obj) → Prop)
    (hh : A.handled = none) (hr : IsRange s.heap l 0 (n : Int) 1 ta tb tc) (hn : n ≤ 10000) (F : Fr g env.locals s.heap m₀) (N : News g env.locals s.heap news)
    (hj : J 0 m₀ news)
    (turn : ∀ i t m nx h tk I oI, i < n → J i m nx → (∀ q ∈ nx, @Ne Nat q.1 I) → Fr g env.locals h (fun y => if y = x then some (.int (i : Int) t) else m y) → News g env.locals h ((I, oI) :: nx) →
      wpAny (model prog w) A (execs body env) (TurnOver g env.locals I oI (J (i + 1)) { s with heap := h, toks := tk } Q) E { s with heap := h, toks := tk })
    (done : ∀ m nx h tk, J n m nx → Fr g env.locals h m → News g env.locals h nx → Q .next { s with heap := h, toks := tk }) :
    wpAny (model prog w) A (pyIter (.ref l)) (fun it s₂ => LoopAtV prog w A g env x body Q E it s₂) E s :=
  for_rngF J hh hr hn F N hj (fun i t m nx h tk I oI _ => turn i t m nx h tk I oI) done
end
example : True := by w_top off; trivial
noncomputable def keptI (T : List Row) (nodes : List Nat) (wd : Wd) (k i : Nat) : List Nat := ((List.range i).filter fun j => (wordV T k (nodes.getD j 0) (j + 1) nodes.length wd).holds (j + 1)).map fun j => nodes.getD j 0
noncomputable def keptW (T : List Row) (nodes : List Nat) (x : Wd × Nat) : List Nat := keptI T nodes x.1 x.2 nodes.length
noncomputable def keptL (T : List Row) (nodes : List Nat) (ws : List (Wd × Nat)) : List Nat := ws.foldl (keptW T) nodes
theorem keptI_succ {T : List Row} {nodes : List Nat} {wd : Wd} {k i : Nat} : keptI T nodes wd k (i + 1) = keptI T nodes wd k i ++ if (wordV T k (nodes.getD i 0) (i + 1) nodes.length wd).holds (i + 1) = true then [nodes.getD i 0] else [] := by
  unfold keptI
  rw [List.range_succ, List.filter_append, List.map_append]
  congr 1
  cases q : (wordV T k (nodes.getD i 0) (i + 1) nodes.length wd).holds (i + 1) with
  | true =>
    have hf : ∀ (P : Nat → Bool), P i = true → [i].filter P = [i] := fun P h => by simp [h]
    rw [hf _ q]; rfl
  | false =>
    have hf : ∀ (P : Nat → Bool), P i = false → [i].filter P = [] := fun P h => by simp [h]
    rw [hf _ q]; rfl
theorem keptI_len {T : List Row} {nodes : List Nat} {wd : Wd} {k i : Nat} : (keptI T nodes wd k i).length ≤ i := by
  unfold keptI
  rw [List.length_map]
  exact Nat.le_trans (List.length_filter_le _ _) (by rw [List.length_range]; exact Nat.le_refl _)
theorem keptW_sub {T : List Row} {nodes : List Nat} {x : Wd × Nat} : (keptW T nodes x).Sublist nodes := by
  unfold keptW keptI
  have e : nodes = (List.range nodes.length).map fun j => nodes.getD j 0 := by
    apply List.ext_getElem
    · simp
    · intro i h1 h2
      simp [h1]
  conv => rhs; rw [e]
  exact List.Sublist.map _ List.filter_sublist
theorem keptL_sub {T : List Row} : ∀ {ws : List (Wd × Nat)} {nodes : List Nat}, (keptL T nodes ws).Sublist nodes
  | [], nodes => List.Sublist.refl _
  | x :: ws, nodes => (keptL_sub (ws := ws) (nodes := keptW T nodes x)).trans keptW_sub
theorem keptL_snoc {T : List Row} {nodes : List Nat} {ws : List (Wd × Nat)} {x : Wd × Nat} : keptL T nodes (ws ++ [x]) = keptW T (keptL T nodes ws) x := by
  unfold keptL
  rw [List.foldl_append]; rfl
inductive AllW (h : Heap) : List Value → List (Wd × Nat) → Prop
  | nil : AllW h [] []
  | cons {b : Addr} {wd : Wd} {k : Nat} {vs : List Value} {ws : List (Wd × Nat)} : WordAt h b wd k → k < 4 → AllW h vs ws → AllW h (.ref b :: vs) ((wd, k) :: ws)
theorem AllW.keep {h h' : Heap} {vs : List Value} {ws : List (Wd × Nat)} (H : AllW h vs ws) (kp : ∀ b o, h.get? b = some o → h'.get? b = some o) : AllW h' vs ws := by
  induction H with
  | nil => exact .nil
  | cons a b _ ih => exact .cons (a.keep kp) b ih
theorem AllW.length {h : Heap} {vs : List Value} {ws : List (Wd × Nat)} (H : AllW h vs ws) : vs.length = ws.length := by
  induction H with
  | nil => rfl
  | cons _ _ _ ih => simp [ih]
theorem AllW.get {h : Heap} {vs : List Value} {ws : List (Wd × Nat)} (H : AllW h vs ws) : ∀ {i : Nat} {v : Value}, vs[i]? = some v → ∃ b wd k, v = .ref b ∧ ws[i]? = some (wd, k) ∧ WordAt h b wd k ∧ k < 4 := by
  induction H with
  | nil => intro i v h; cases h
  | @cons b wd k vs ws a1 a2 _ ih =>
    intro i v h
    cases i with
    | zero => cases h; exact ⟨b, wd, k, rfl, rfl, a1, a2⟩
    | succ i => exact ih (by simpa using h)
inductive WordsAt (h : Heap) (p : Addr) (ws : List (Wd × Nat)) : Prop
  | mk (vs : _) (n : _) (e1 : h.get? p = some (tupV vs n)) (e2 : AllW h vs ws) : WordsAt h p ws
theorem WordsAt.keep {h h' : Heap} {p : Addr} {ws : List (Wd × Nat)} (H : WordsAt h p ws) (kp : ∀ b o, h.get? b = some o → h'.get? b = some o) : WordsAt h' p ws := let ⟨vs, n, e, a⟩ := H; ⟨vs, n, kp _ _ e, a.keep kp⟩
section
variable {w : World} {A : Around} {s : Shared} {g : Heap} {L : Addr} {m : Str → Option Value} {news : List (Addr × Obj)} {dp un : Nat} {Q E : Value → Shared → Prop} {f t a : Addr} {T : List Row} {wd : Wd} {k i pos size : Nat} {ti tp tz : Tok} {P : Int}
noncomputable def VI (v : Value) (l' : List (Addr × Obj)) : VS → Prop
  | .tup p q => ∃ b t u n, v = .ref b ∧ l' = [(b, tupV [.int p t, .int q u] n)]
  | .bool b => v = .bool b ∧ l' = []
  | .str x => (∃ t, v = .str x t) ∧ l' = []
theorem vof_U (C : Callee w A g L dp un) (F : Fr g L s.heap m) (N : News g L s.heap news) (TT : TreeAt w g t T) (hi : i < T.length) (hk : k < 4) (hP : P = (pos : Int)) (hp : pos ≤ 1000) (hz : size ≤ 1000) (hf : FnV w g f t) (hw : WordAt g a wd k) (hd : 10 ≤ dp) (hu : 200 ≤ un)
   (kk : ∀ v l' h' tk', VI v l' (wordV T k i pos size wd) → Fr g L h' m → News g L h' (l' ++ news) → Q v { s with heap := h', toks := tk' }) :
   wpAny (model prg w) A (call (.ref f) [.ref a, .int (i : Int) ti, .int P tp, .int (size : Int) tz]) Q E s := by
  subst hP
  refine use (value_of_C (C.at F hd hu) (TT.keep F.keep) hi hk hp hz (hf.keep F.keep) (hw.keep F.keep)) F N fun v h' tk' F' N' _ e => ?_
  revert e
  generalize wordV T k i pos size wd = vv at kk ⊢
  cases vv with
  | tup p q =>
    rintro ⟨b, t, u, n, rfl, e1, e2⟩
    refine kk _ [(b, tupV [.int p t, .int q u] n)] h' tk' ⟨b, t, u, n, rfl, rfl⟩ F' fun p hp => ?_
    rcases List.mem_cons.mp hp with rfl | hp
    · exact ledger_new F e1 e2
    · exact N' p hp
  | bool b => rintro rfl; exact kk _ [] h' tk' ⟨rfl, rfl⟩ F' N'
  | str x => rintro ⟨u, rfl⟩; exact kk _ [] h' tk' ⟨⟨u, rfl⟩, rfl⟩ F' N'
theorem hol_U {v : Value} {l' : List (Addr × Obj)} {vv : VS} {tp : Tok} (C : Callee w A g L dp un) (F : Fr g L s.heap m) (N : News g L s.heap (l' ++ news)) (hv : VI v l' vv) (hx : ∀ x, vv = .str x → x.length ≤ 10) (hP : P = (pos : Int)) (hd : 10 ≤ dp) (hu : 200 ≤ un)
   (kk : ∀ h' tk', Fr g L h' m → News g L h' news → Q (.bool (vv.holds pos)) { s with heap := h', toks := tk' }) :
   wpAny (model prg w) A (call (.ref 201) [v, .int P tp]) Q E s := by
  subst hP
  cases vv with
  | tup p q => obtain ⟨b, t, u, n, rfl, rfl⟩ := hv; exact holds_tup_U C F N (.head _) hd hu fun h' tk' F' N' => kk h' tk' F' fun p hp => N' p (.tail _ hp)
  | bool b => obtain ⟨rfl, rfl⟩ := hv; exact holds_bool_U C F N hd hu kk
  | str x => obtain ⟨⟨t, rfl⟩, rfl⟩ := hv; exact holds_str_U C F N (hx x rfl) hd hu kk
/-- where the nodes come from -/
noncomputable def Src (g : Heap) (nx : List (Addr × Obj)) (a : Addr) (o : Obj) : Prop := (nx = [] ∧ g.get? a = some o) ∨ nx = [(a, o)]
theorem Src.list {nx l : List (Addr × Obj)} {vs : List Value} {n : Nat} {h : Heap} (S : Src g nx a (listOf (List.toArray vs) n)) (F : Fr g L h m) (N : News g L h l) (hs : ∀ q ∈ nx, q ∈ l) : h.IsList a vs.toArray := by
  rcases S with ⟨rfl, e⟩ | rfl
  · exact isList_base F e
  · exact News.isList N (hs _ (.head _))
theorem Src.ne {nx l : List (Addr × Obj)} {o : Obj} {h : Heap} (S : Src g nx a o) (F : Fr g L h m) (N : News g L h l) (hs : ∀ q ∈ nx, q ∈ l) : a ≠ L := by
  rcases S with ⟨rfl, e⟩ | rfl
  · exact base_ne F e
  · exact News.ne N (hs _ (.head _))
theorem Src.or {nx : List (Addr × Obj)} {o : Obj} (S : Src g nx a o) : (∃ o, g.get? a = some o) ∨ ∃ o, (a, o) ∈ nx := by
  rcases S with ⟨rfl, e⟩ | rfl
  · exact .inl ⟨_, e⟩
  · exact .inr ⟨_, .head _⟩
end
example : True := by
  (k_with "mem9" => (intro _ hq9; (repeat (first | exact hq9 | refine List.Mem.tail _ ?_))))
  (k_with "is_list" => exact Src.list (by with_reducible assumption) (by k_asm) (by k_asm) (by k_extra "mem9"))
  (k_with "call ref" => (k_here; (with_reducible show wpAny _ _ (call (Value.ref _) [Value.ref _, Value.int _ _, Value.int _ _, Value.int _ _]) _ _ _); k_dflt (refine' vof_U (by with_reducible assumption) (by k_asm) (by k_asm) (by with_reducible assumption) (by with_reducible assumption) (by with_reducible assumption) (by with_reducible assumption) (by k_extra "om") (by k_extra "om") (by with_reducible assumption) (by with_reducible assumption) (by k_extra "om") (by k_extra "om") ?_); intro _ _ _ _ _ _ _; (try k_sweep)))
  (k_with "call ref" => (k_here; (with_reducible show wpAny _ _ (call (Value.ref 201) [_, Value.int _ _]) _ _ _); k_dflt (refine' hol_U (by with_reducible assumption) (by k_asm) (by k_asm) (by with_reducible assumption) (by with_reducible assumption) (by with_reducible assumption) (by k_extra "om") (by k_extra "om") ?_); intro _ _ _ _; (try k_sweep)))
  (k_with "k_all" => with_reducible assumption)
  trivial
theorem fnAt_G {g h : Heap} {L q : Addr} {m : Str → Option Value} (F : Fr g L h m) (k : FnAt q g) : FnAt q h := let ⟨a, b, c, d, e⟩ := k; ⟨a, b, c, d, F.keep _ _ e⟩
theorem FnV.at_ {w : World} {h : Heap} {f t : Addr} (H : FnV w h f t) : FnAt f h := by
  obtain ⟨_, _, _, _, _, _, _, _, _, _, _, h1, _⟩ := H; exact ⟨_, _, _, _, h1⟩
example : True := by
  (k_with "callWith ref" => (k_here; k_dflt (refine' callWith_F (by exact fnAt_G (by k_asm) (by with_reducible assumption)) ?_; k_whole)))
  (k_with "FnAt" => (k_dflt (exact fnAt_G (by k_asm) (by with_reducible assumption))))
  trivial
theorem wordV_len {T : List Row} {k i pos size : Nat} {wd : Wd} {x : Str} (hk : k < 4) (h : wordV T k i pos size wd = .str x) : x.length ≤ 10 := by
  cases wd <;> first | cases h | skip
  show ((List.replicate k 120).toArray).size ≤ 10
  simp
  omega
theorem pair_fin {g h' : Heap} {L : Addr} {own news' : List (Addr × Obj)} {J : (Str → Option Value) → List (Addr × Obj) → Prop} {s₁ : Shared} {Q : Flow → Shared → Prop} {m' : Str → Option Value} {tk : Nat}
    (F : Fr g L h' m') (N : News g L h' news') (nx' : List (Addr × Obj)) (hm : ∀ q ∈ nx' ++ own, q ∈ news') (hne : ∀ q ∈ nx', ∀ p ∈ own, @Ne Nat q.1 p.1) (hJ : J m' nx') : PairOver g L own J s₁ Q .next { s₁ with heap := h', toks := tk } :=
  ⟨h', tk, m', nx', rfl, F, fun q hq => N q (hm q hq), hne, hJ⟩
theorem if_f {α : Type} {b : Bool} {x y : α} (h : b = false) : (if b = true then x else y) = y := by rw [h]; rfl
inductive KJ (a p f b : Addr) (z : Nat) (I : Addr) (oI : Obj) (nx₀ : List (Addr × Obj)) (D : Addr) (R : List Value → Nat → Prop) (j : Nat) (m : Str → Option Value) (nx : List (Addr × Obj)) : Prop
  | mk (vf : _) (nf : _) (tz : _) (e1 : m (Str.ofString "nodes") = some (.ref a)) (e2 : m (Str.ofString "predicates") = some (.ref p)) (e3 : m (Str.ofString "value_of") = some (.ref f)) (e4 : m (Str.ofString "predicate") = some (.ref b)) (e5 : m (Str.ofString "size") = some (.int (z : Int) tz)) (e6 : m (Str.ofString "found") = some (.ref D)) (e7 : nx = (D, listOf (List.toArray vf) nf) :: (I, oI) :: nx₀) (e8 : R vf j) : KJ a p f b z I oI nx₀ D R j m nx
theorem all_app {l own : List (Addr × Obj)} {D : Addr} (h1 : ∀ p ∈ l, @Ne Nat p.1 D) (h2 : ∀ p ∈ own, @Ne Nat D p.1) : ∀ p ∈ l ++ own, @Ne Nat p.1 D := fun p hp => by
  rcases List.mem_append.mp hp with hp | hp
  · exact h1 p hp
  · exact Ne.symm (h2 p hp)
theorem pair_ne {D : Addr} {o o' : Obj} {l own : List (Addr × Obj)} (h : ∀ q ∈ (D, o) :: l, ∀ p ∈ own, @Ne Nat q.1 p.1) : ∀ q ∈ (D, o') :: l, ∀ p ∈ own, @Ne Nat q.1 p.1 := fun q hq p hp => by
  rcases List.mem_cons.mp hq with rfl | hq
  · exact h _ (.head _) p hp
  · exact h q (.tail _ hq) p hp
inductive KeptJ (g : Heap) (p f : Addr) (T : List Row) (ns : List Nat) (ws : List (Wd × Nat)) (i : Nat) (m : Str → Option Value) (nx : List (Addr × Obj)) : Prop
  | mk (a : Addr) (vs : List Value) (n : Nat) (e1 : m (Str.ofString "nodes") = some (.ref a)) (e2 : m (Str.ofString "predicates") = some (.ref p)) (e3 : m (Str.ofString "value_of") = some (.ref f)) (e4 : IntsAre vs (nat (keptL T ns (ws.take i))))
      (e5 : (i = 0 ∧ nx = [] ∧ g.get? a = some (listOf (List.toArray vs) n)) ∨ nx = [(a, listOf (List.toArray vs) n)]) : KeptJ g p f T ns ws i m nx
theorem kept_C {w : World} {A : Around} {s : Shared} {t l p f : Addr} {T : List Row} {vs : List Value} {n : Nat} {ns : List Nat} {ws : List (Wd × Nat)}
   (H : At w A s.heap 14 300) (TT : TreeAt w s.heap t T) (hl : s.heap.get? l = some (listOf (List.toArray vs) n)) (hi : IntsAre vs (nat ns)) (hs : ∀ x ∈ ns, x < T.length) (hn : ns.length ≤ 900) (hw : WordsAt s.heap p ws) (hwl : ws.length ≤ 100) (hw0 : ws ≠ []) (hf : FnV w s.heap f t) :
   wpAny (model prg w) A (call (.ref 208) [.ref l, .ref p, .ref f]) (Back s (ListOut s (nat (keptL T ns ws)))) NoErr s := by
  refine hidP fun P9 k9 => ?_
  obtain ⟨wv, nw, hwp, hwa⟩ := hw
  refine k9 ?_; clear k9 P9
  have hfa := hf.at_
  refine' enter (binds := [(Str.ofString "nodes", .ref l), (Str.ofString "predicates", .ref p), (Str.ofString "value_of", .ref f)]) H (by k_extra "om") (by k_extra "om") (by k_is) (by k_is) (BindsTo.of_eq rfl) (locs rfl) ?_ (by decide) rfl rfl rfl
  intro h₁ gn9 dr9 os9 A9 L9 tk9 pr9 loose9 mean9 mg9 mb9 F' N' X' T' C' hroom hun K9 hK9
  (try dsimp only)
  k_steps
  rename Fr _ _ _ _ => F0
  rename News _ _ _ _ => N0
  refine Stop.in (for_tup (KeptJ s.heap p f T ns ws) rfl (vs := wv) ⟨_, F0.keep _ _ hwp, rfl, nw, rfl⟩ ?_ F0 N0 (.inl ⟨_, hwp⟩) ⟨l, vs, n, rfl, rfl, rfl, hi, .inl ⟨rfl, rfl, hl⟩⟩ ?_ ?_)
  · exact base_ne F0 hwp
  · intro i v m nx h tk I oI hv hJ hne F1 N1
    clear F0 N0
    refine hidP fun P9 k9 => ?_
    obtain ⟨a, va, na, m1, m2, m3, hia, hcase⟩ := hJ
    obtain ⟨b, wd, k, rfl, hwi, hwb, hk⟩ := hwa.get hv
    have hwt : ws.take (i + 1) = ws.take i ++ [(wd, k)] := by rw [List.take_add_one, hwi]; rfl
    have hsub := keptL_sub (T := T) (ws := ws.take i) (nodes := ns)
    have hlen := hsub.length_le
    have hs' : ∀ x ∈ keptL T ns (ws.take i), x < T.length := fun x hx => hs x (hsub.subset hx)
    have hS : Src s.heap nx a (listOf (List.toArray va) na) := by
      rcases hcase with ⟨_, h1, h2⟩ | h1
      · exact .inl ⟨h1, h2⟩
      · exact .inr h1
    have F2 := know_all [(Str.ofString "nodes", .ref a), (Str.ofString "predicates", .ref p), (Str.ofString "value_of", .ref f)] F1 ⟨m1, m2, m3, trivial⟩
    clear F1 hcase m1 m2 m3 hv
    refine k9 ?_; clear k9 P9
    have hfin : nat (keptL T ns (ws.take (i + 1))) = nat (keptI T (keptL T ns (ws.take i)) wd k (keptL T ns (ws.take i)).length) := by rw [hwt, keptL_snoc]; rfl
    clear hwt hwi hsub
    generalize keptL T ns (ws.take i) = nodes at *
    have hb1 : (nat nodes).length ≤ 900 := by rw [nat_len]; omega
    k_steps
    rename Fr _ _ _ _ => F3
    rename News _ _ _ ((_, listOf #[] 0) :: _) => N3
    rename Dlt _ _ => l1
    refine Stop.in (for_enum rfl rfl rfl rfl F3 N3 (hS.list F3 N3 (by k_extra "mem9")) (hS.ne F3 N3 (by k_extra "mem9")) (KJ a p f b (nat nodes).length I oI nx _ fun vf j => IntsAre vf (nat (keptI T nodes wd k j))) ⟨[], 0, _, rfl, rfl, rfl, rfl, rfl, rfl, rfl, .nil⟩ (hS.or.imp id fun ⟨o, h⟩ => ⟨o, fun _ _ _ ⟨_, _, _, _, _, _, _, _, _, e, _⟩ => e ▸ .tail _ (.tail _ h)⟩) ?_ ?_)
    · intro j v tj m nx' h tk own hv hJ hown hne2 F4 N4
      clear F3 N3 F2 N1
      refine hidP fun P9 k9 => ?_
      obtain ⟨vf, nf, tz, q1, q2, q3, q4, q5, q6, rfl, hif⟩ := hJ
      have hjl : j < nodes.length := by
        have := (List.getElem?_eq_some_iff.mp hv).1
        rw [hia.length, nat_len] at this; exact this
      obtain ⟨tx, htx⟩ := hia.get j (nodes.getD j 0 : Int) (by unfold nat; rw [List.getElem?_map, List.getElem?_eq_getElem hjl, List.getD_eq_getElem?_getD, List.getElem?_eq_getElem hjl]; rfl)
      rw [hv] at htx
      cases htx
      have hxT : nodes.getD j 0 < T.length := hs' _ (by rw [List.getD_eq_getElem?_getD, List.getElem?_eq_getElem hjl]; exact List.getElem_mem _)
      have hall := all_app (dlt_all (l := (I, oI) :: nx) l1) fun p hp => hne2 _ (.head _) p hp
      rw [List.cons_append] at hall
      have F5 := know_all [(Str.ofString "nodes", .ref a), (Str.ofString "predicates", .ref p), (Str.ofString "value_of", .ref f), (Str.ofString "predicate", .ref b), (Str.ofString "size", .int ((nat nodes).length : Int) tz), (Str.ofString "found", .ref _)] F4 ⟨q1, q2, q3, q4, q5, q6, trivial⟩
      clear q1 q2 q3 q4 q5 q6 F4
      refine k9 ?_; clear k9 P9
      rw [← nat_len nodes] at hjl
      generalize hxx : nodes.getD j 0 = x at *
      have hPj : (j : Int) + 1 = ((j + 1 : Nat) : Int) := rfl
      have hfl : (nat (keptI T nodes wd k j)).length ≤ 900 := by rw [nat_len]; have := keptI_len (T := T) (nodes := nodes) (wd := wd) (k := k) (i := j); omega
      have hxs : ∀ vx, wordV T k x (j + 1) (nat nodes).length wd = VS.str vx → vx.length ≤ 10 := fun vx e => wordV_len hk e
      have hend : ∀ vv : VS, wordV T k x (j + 1) (nat nodes).length wd = vv → keptI T nodes wd k (j + 1) = keptI T nodes wd k j ++ if vv.holds (j + 1) = true then [x] else [] := by
        intro vv e
        rw [keptI_succ, ← nat_len nodes, hxx, e]
      replace hend := hend _ rfl
      rw [List.cons_append, List.cons_append] at N4
      k_steps
      all_goals
        rename Fr _ _ _ _ => F11
        rename News _ _ _ _ => N11
        first
        | (refine pair_fin F11 N11 (_ :: _ :: nx) (fun q hq => by simpa only [List.cons_append] using hq) hne2 ⟨vf, nf, tz, rfl, rfl, rfl, rfl, rfl, rfl, rfl, ?_⟩
           show IntsAre _ (nat (keptI T nodes wd k (j + 1)))
           rw [hend, if_f (by assumption), List.append_nil]; exact hif)
        | (refine pair_fin F11 N11 (_ :: _ :: nx) (fun q hq => by simpa only [List.cons_append] using hq) (pair_ne hne2) ⟨_, _, tz, rfl, rfl, rfl, rfl, rfl, rfl, rfl, ?_⟩
           show IntsAre _ (nat (keptI T nodes wd k (j + 1)))
           rw [hend, if_pos (by assumption), nat_append]
           exact hif.append (.cons _ _ .nil))
    · intro h' tk' m nx' F4 N4 hJ
      clear F3 N3 F2 N1
      refine hidP fun P9 k9 => ?_
      obtain ⟨vf, nf, tz, q1, q2, q3, q4, q5, q6, rfl, hif⟩ := hJ
      rw [hia.length, nat_len] at hif
      have F5 := know_all [(Str.ofString "nodes", .ref a), (Str.ofString "predicates", .ref p), (Str.ofString "value_of", .ref f), (Str.ofString "found", .ref _)] F4 ⟨q1, q2, q3, q6, trivial⟩
      clear F4 q1 q2 q3 q4 q5 q6
      refine k9 ?_; clear k9 P9
      k_steps
      rename Fr _ _ _ _ => F11
      rename News _ _ _ _ => N11
      refine turn_over [(_, listOf (List.toArray vf) nf)] F11 N11 (by k_mem) (fun q hq => ?_) (fun q hq => ?_) ⟨_, vf, nf, rfl, rfl, rfl, hfin ▸ hif, .inr rfl⟩
      · rw [List.mem_singleton.mp hq]; k_mem
      · rw [List.mem_singleton.mp hq]; k_ne
  · intro m nx h tk hJ1 F1 N1
    refine hidP fun P9 k9 => ?_
    obtain ⟨a, va, na, m1, m2, m3, hia, hcase⟩ := hJ1
    refine k9 ?_; clear k9 P9
    clear F0 N0
    rw [hwa.length, List.take_length] at hia
    have F2 := know F1 m1
    clear F1
    refine hidP fun P9 k9 => ?_
    rcases hcase with ⟨h0, _, _⟩ | rfl <;> (refine k9 ?_; clear k9 P9)
    · rw [hwa.length] at h0
      exact absurd (List.length_eq_zero_iff.mp h0) hw0
    · k_steps
      refine endK hK9 (by k_asm) ?_
      exact ⟨_, _, _, rfl, News.fresh (by k_asm) (by k_mem), News.get (by k_asm) (by k_mem), hia⟩
theorem kept_U {w : World} {A : Around} {s : Shared} {g : Heap} {L : Addr} {m : Str → Option Value} {news : List (Addr × Obj)} {dp un : Nat} {Q E : Value → Shared → Prop} {t l p f : Addr} {T : List Row} {vs : List Value} {n : Nat} {ns : List Nat} {ws : List (Wd × Nat)}
   (C : Callee w A g L dp un) (F : Fr g L s.heap m) (N : News g L s.heap news) (TT : TreeAt w g t T) (hl : (l, listOf (List.toArray vs) n) ∈ news) (hi : IntsAre vs (nat ns)) (hs : ∀ x ∈ ns, x < T.length) (hn : ns.length ≤ 900) (hw : WordsAt g p ws) (hwl : ws.length ≤ 100) (hw0 : ws ≠ []) (hf : FnV w g f t) (hd : 14 ≤ dp) (hu : 300 ≤ un)
   (k : ∀ a vs n h' tk', Fr g L h' m → News g L h' ((a, listOf (List.toArray vs) n) :: news) → (∀ p ∈ news, @Ne Nat p.1 a) → IntsAre vs (nat (keptL T ns ws)) → Q (.ref a) { s with heap := h', toks := tk' }) :
   wpAny (model prg w) A (call (.ref 208) [.ref l, .ref p, .ref f]) Q E s :=
  useL (kept_C (C.at F hd hu) (TT.keep F.keep) (N _ hl).1 hi hs hn (hw.keep F.keep) hwl hw0 (hf.keep F.keep)) F N k
example : True := by w_top off; trivial
example : True := by
  (k_with "call ref" => (k_here; (with_reducible show wpAny _ _ (call (Value.ref 478) _) _ _ _); k_dflt (refine' take_U (by with_reducible assumption) (by k_asm) (by k_asm) (by k_updF) (by with_reducible assumption) (by exact rfl) (by decide) (by decide) (by k_extra "om") (by k_extra "om") ?_); intro _ _ _ _ _ _ _ _ _; (try k_extra "dsN"); (try k_sweep)))
  (k_with "call ref" => (k_here; (with_reducible show wpAny _ _ (call (Value.ref 485) _) _ _ _); refine stop_out ?_))
  (k_with "call type:tuple" => (k_here; refine stop_out ?_))
  (k_with "k_all" => with_reducible assumption)
  trivial
theorem word_pick {ts : List Value} {t0 t1 t2 t3 t4 t5 t6 : Tok} {r : Nat} {v : Value} (e : ts = [.str (Str.ofString "number") t0, .str (Str.ofString "half") t1, .str (Str.ofString "last") t2, .str (Str.ofString "from") t3, .str (Str.ofString "even") t4, .str (Str.ofString "text") t5, .str (Str.ofString "kind") t6]) (h : ts[r]? = some v) : ∃ (wd : Wd) (t : Tok), v = .str (Str.ofString wd.str) t := by
  subst e
  match r, h with
  | 0, h => cases h; exact ⟨.number, _, rfl⟩
  | 1, h => cases h; exact ⟨.half, _, rfl⟩
  | 2, h => cases h; exact ⟨.last, _, rfl⟩
  | 3, h => cases h; exact ⟨.from_, _, rfl⟩
  | 4, h => cases h; exact ⟨.even, _, rfl⟩
  | 5, h => cases h; exact ⟨.text, _, rfl⟩
  | 6, h => cases h; exact ⟨.kind, _, rfl⟩
  | n + 7, h => simp at h
noncomputable def Held (led : List (Addr × Obj)) (h : Heap) : Prop := ∀ p ∈ led, h.get? p.1 = some p.2
theorem AllW.append {h : Heap} {vs vs' : List Value} {ws ws' : List (Wd × Nat)} (a : AllW h vs ws) (b : AllW h vs' ws') : AllW h (vs ++ vs') (ws ++ ws') := by
  induction a with
  | nil => exact b
  | cons x y _ ih => exact .cons x y ih
inductive WdsJ (g : Heap) (W src : Addr) (i : Nat) (m : Str → Option Value) (nx : List (Addr × Obj)) : Prop
  | mk (vs : List Value) (nW : Nat) (o : Obj) (led : List (Addr × Obj)) (ws : List (Wd × Nat)) (e1 : m (Str.ofString "words") = some (.ref W)) (e2 : m (Str.ofString "source") = some (.ref src)) (e3 : nx = (W, listOf (List.toArray vs) nW) :: (src, o) :: led) (e4 : SrcIs o)
      (e5 : ∀ q ∈ led, @Ne Nat q.1 W ∧ @Ne Nat q.1 src ∧ g.get? q.1 = none) (e6 : ∀ h2, Held led h2 → AllW h2 vs ws) (e7 : ws.length = i) : WdsJ g W src i m nx
theorem law_words_C {w : World} {A : Around} {s : Shared} {g : Heap} {src : Addr} {o : Obj}
   (H : On w A g s.heap [src] 14 400) (hs : s.heap.get? src = some o) (ho : SrcIs o) :
   wpAny (model prg w) A (call (.ref 532) [.ref src]) (BackG g s fun v h' => (∃ (p : Addr) (led : List (Addr × Obj)) (ws : List (Wd × Nat)), v = .ref p ∧ (∀ q ∈ led, s.heap.get? q.1 = none ∧ h'.get? q.1 = some q.2) ∧ (∀ h2, Held led h2 → WordsAt h2 p ws) ∧ 0 < ws.length ∧ ws.length ≤ 3) ∧ ∃ o, h'.get? src = some o ∧ SrcIs o) NoErr s := by
  refine' enterG (binds := [(Str.ofString "source", .ref src)]) [(src, o)] H (by k_extra "om") (by k_extra "om") ?hown ?ho ?hcd ?hb ?hl ?_ ?c1 ?c2 ?c3 ?c4
  case hown => intro p hp; rw [List.mem_singleton.mp hp]; exact ⟨hs, .head _⟩
  case ho => k_is
  case hcd => k_is
  case hb => exact BindsTo.of_eq rfl
  case hl => exact locs rfl
  case c1 => decide
  case c2 => exact rfl
  case c3 => exact rfl
  case c4 => exact rfl
  intro h₁ gn9 dr9 os9 A9 L9 tk9 pr9 loose9 mean9 mg9 mb9 F' N' lo' X' T' C' hroom hun K9 hK9
  have hab9 : @LE.le Nat _ s.heap.objs.size L9 := H.size ▸ F'.above
  (try dsimp only)
  have lt1 : @LT.lt Nat _ src L9 := lo' _ (.head _)
  k_steps
  rename Fr _ _ _ _ => F0
  rename News _ _ _ _ => N0
  rename IsRange _ _ _ _ _ _ _ _ => hR
  rename SrcIs _ => hso
  rename _ < 3 => hr3
  rename_i W _ l1 _ _ _ r1 _ o1 _ _ _ _ _ _ _ _ _ _
  have hr3' : r1 < 3 := hr3
  clear hr3
  have hR' : IsRange _ _ 0 ((1 + r1 : Nat) : Int) 1 _ _ _ := hR
  refine Stop.in (for_rng (n := 1 + r1) (WdsJ s.heap W src) rfl hR' (by k_extra "om") F0 N0
    ⟨[], 0, o1, [], [], rfl, rfl, rfl, hso, (fun q hq => nomatch hq), (fun h2 _ => .nil), rfl⟩ ?_ ?_)
  · intro i tt m nx h tk I oI hi hJ1 hne F1 N1
    refine hidP fun P9 k9 => ?_
    obtain ⟨vs, nW, o, led, ws, m1, m2, rfl, hoo, hled, hall, hwl⟩ := hJ1
    refine k9 ?_; clear k9 P9
    clear F0 N0 hR hR'
    have hvl : vs.length = ws.length := (hall h fun p hp => (N1 p (.tail _ (.tail _ (.tail _ hp)))).1).length
    have ne1 : ∀ q ∈ led, @Ne Nat q.1 W := fun q hq => (hled q hq).1
    have ne2 : ∀ q ∈ led, @Ne Nat q.1 src := fun q hq => (hled q hq).2.1
    simp only [List.forall_mem_cons] at hne
    refine hidP fun P9 k9 => ?_
    obtain ⟨q1, q2, q3⟩ := hne
    refine k9 ?_; clear k9 P9
    have F2 := know (know F1 ((if_neg (by decide)).trans m1)) ((if_neg (by decide)).trans ((if_neg (by decide)).trans m2))
    clear F1
    k_steps
    rename Fr _ _ _ _ => F3
    rename News _ _ _ _ => N3
    rename_i l7 _ l9
    refine Stop.in (one_U C' F3 N3 (by k_updF) hoo (N3 _ (.head _)).1 (dlt_ne' l9 (.tail _ (.tail _ (.head _)))) (by simp) (by simp) (by k_extra "om") (by k_extra "om") ?_)
    intro r v o2 h2 tk2 hr hso2 F4 N4
    refine hidP fun P9 k9 => ?_
    obtain ⟨wd, tw, rfl⟩ := word_pick rfl hr
    refine k9 ?_; clear k9 P9
    clear F3 N3
    (try dsimp only at N4)
    k_steps
    rename Fr _ _ _ _ => F5
    rename News _ _ _ _ => N5
    rename_i r4 t4 o4 _ _ hr4 ho4 D4 _ l4 _
    have hr4' : r4 < 4 := hr4
    have z1 : @Ne Nat D4 src := dlt_ne' l4 (.tail _ (.tail _ (.tail _ (.head _))))
    have z2 : @Ne Nat D4 W := dlt_ne' l4 (.tail _ (.tail _ (.head _)))
    have z3 : s.heap.get? D4 = none := fresh_of H (N5 _ (.head _)).2.2 (by simpa using z1)
    have z4 : @Ne Nat D4 I := dlt_ne' l4 (.tail _ (.head _))
    refine turn_over ((W, listOf (List.toArray (vs ++ [Value.ref D4])) (nW + 1)) :: (src, o4) :: (D4, tupV [.str (Str.ofString wd.str) tw, .int (r4 : Int) t4] 0) :: led) F5 N5 (by k_mem) (fun q hq => ?_) (fun q hq => ?_)
      ⟨vs ++ [Value.ref D4], nW + 1, o4, (D4, tupV [.str (Str.ofString wd.str) tw, .int (r4 : Int) t4] 0) :: led, ws ++ [(wd, r4)], rfl, rfl, rfl, ho4, ?_, fun h2 hh => (hall h2 fun p hp => hh p (.tail _ hp)).append (.cons ⟨_, _, _, hh _ (.head _)⟩ hr4' .nil), by rw [List.length_append, hwl]; rfl⟩
    · simp only [List.mem_cons] at hq ⊢
      rcases hq with h | h | h | h <;> simp [h]
    · simp only [List.mem_cons] at hq
      refine hidP fun P9 k9 => ?_
      rcases hq with h | h | h | h <;> (refine k9 ?_; clear k9 P9)
      · subst h; exact q1
      · subst h; exact q2
      · subst h; exact z4
      · exact q3 q h
    · intro q hq
      refine hidP fun P9 k9 => ?_
      rcases List.mem_cons.mp hq with rfl | hq <;> (refine k9 ?_; clear k9 P9)
      · exact ⟨z2, z1, z3⟩
      · exact hled q hq
  · intro m nx h tk hJ1 F1 N1
    refine hidP fun P9 k9 => ?_
    obtain ⟨vs, nW, o, led, ws, m1, m2, rfl, hoo, hled, hall, hwl⟩ := hJ1
    refine k9 ?_; clear k9 P9
    clear F0 N0 hR hR'
    have hal := hall h fun p hp => (N1 p (.tail _ (.tail _ hp))).1
    have hvl := hal.length
    have F2 := know F1 m1
    clear F1
    k_steps
    rename Fr _ _ _ _ => F3
    rename News _ _ _ _ => N3
    refine Stop.in (call_tuple_list (News.isList N3 (.head _)) (fun h2 hk => ?_) (by rw [List.size_toArray, PySem.sizeLine_eq]; omega))
    have F4 := F3.keeps hk
    have N4 := N3.grown hk
    have hlt : @LT.lt Nat _ L9 h2.objs.size := F4.ns.lt
    have up : ∀ b o, h2.get? b = some o → (h2.push (tupV vs 0)).get? b = some o := fun b o e => Heap.get?_push_of_some _ e
    refine stepR (by with_reducible assumption) ?_
    refine endK hK9 (F4.push _) ⟨⟨h2.objs.size, (h2.objs.size, tupV vs 0) :: led, ws, rfl, fun q hq => ?_, fun h3 hh => ⟨vs, 0, hh _ (.head _), hall h3 fun p hp => hh p (.tail _ hp)⟩, by omega, by omega⟩, o, up _ _ (N4 (src, o) (.tail _ (.head _))).1, hoo⟩
    refine hidP fun P9 k9 => ?_
    rcases List.mem_cons.mp hq with rfl | hq <;> (refine k9 ?_; clear k9 P9)
    · exact ⟨Heap.get?_none_of_le (Nat.le_of_lt (Nat.lt_of_le_of_lt hab9 hlt)), Heap.get?_push_size _ rfl⟩
    · exact ⟨(hled q hq).2.2, up _ _ (N4 q (.tail _ (.tail _ hq))).1⟩
example : True := by w_top off; trivial
example : True := by
  (k_with "k_room" => ((try simp only [depth_under_make, depth_under_kw, depth_in1, depth_deeper, depth_caller]); omega))
  (k_with "call builtin:list.append" => (k_here; (with_reducible show wpAny _ _ (call (Value.builtin _) [Value.ref _, _]) _ _ _); (refine' append_v (by k_asm) (by k_asm) (by k_upd) (by k_extra "om") ?_); intro _ _ _; (try k_sweep)))
  trivial
noncomputable def Rep.as (q : Rep) : List Addr := [q.x, q.dx, q.c, q.a, q.n]
section
variable {w : World} {h h' : Heap} {a t dt rl : Addr} {ns : List Nat} {q : Rep} {R : Row} {qs : List Rep} {T : List Row}
theorem IntsAt.move (H : IntsAt h a ns) (k : ∀ o, h.get? a = some o → h'.get? a = some o) : IntsAt h' a ns := let ⟨vs, n, e, i⟩ := H; ⟨vs, n, k _ e, i⟩
theorem RowAt.move (H : RowAt w h q R) (k : ∀ b ∈ q.as, ∀ o, h.get? b = some o → h'.get? b = some o) : RowAt w h' q R :=
  ⟨k _ (.head _) _ H.inst, let ⟨t0, t1, t2, t3, t4, t5, t6, t7, t8, u0, u1, u2, u3, u4, pv, nn, hp, e⟩ := H.dict; ⟨t0, t1, t2, t3, t4, t5, t6, t7, t8, u0, u1, u2, u3, u4, pv, nn, hp, k _ (.tail _ (.head _)) _ e⟩,
   H.ch.move (k _ (.tail _ (.tail _ (.head _)))), H.at_.move (k _ (.tail _ (.tail _ (.tail _ (.head _))))), H.ns.move (k _ (.tail _ (.tail _ (.tail _ (.tail _ (.head _))))))⟩
end
noncomputable def ledOf (h : Heap) (as : List Addr) : List (Addr × Obj) := as.filterMap fun a => (h.get? a).map fun o => (a, o)
theorem mem_ledOf {h : Heap} {as : List Addr} {p : Addr × Obj} : p ∈ ledOf h as ↔ p.1 ∈ as ∧ h.get? p.1 = some p.2 := by
  unfold ledOf
  rw [List.mem_filterMap]
  constructor
  · rintro ⟨a, ha, e⟩
    cases q : h.get? a with
    | none => rw [q] at e; cases e
    | some o => rw [q] at e; cases e; exact ⟨ha, q⟩
  · rintro ⟨ha, e⟩
    exact ⟨p.1, ha, by rw [e]; rfl⟩
theorem ledOf_held {h : Heap} {as : List Addr} : Held (ledOf h as) h := fun p hp => (mem_ledOf.mp hp).2
theorem ledOf_news {g h : Heap} {L : Addr} {m : Str → Option Value} {as : List Addr} (F : Fr g L h m) {h0 : Heap} {m0 : Str → Option Value} (F0 : Fr g L h0 m0) (fr : ∀ a ∈ as, h0.get? a = none) : News g L h (ledOf h as) := fun p hp => by
  obtain ⟨h1, h2⟩ := mem_ledOf.mp hp
  exact ⟨h2, (ledger_new F0 (fr _ h1) (o := p.2) (h' := h) h2).2⟩
theorem RowAt.led {w : World} {h h2 : Heap} {q : Rep} {R : Row} (H : RowAt w h q R) (k : Held (ledOf h q.as) h2) : RowAt w h2 q R :=
  H.move fun b hb o e => k (b, o) (mem_ledOf.mpr ⟨hb, e⟩)
section
variable {prog : Program} {w : World} {A : Around} {E : Value → Shared → Prop} {s : Shared} {K : Frag} {x C dx L : Addr} {h₀ : Heap} {m : Str → Option Value} {news : List (Addr × Obj)} {news' : Tok → List (Addr × Obj)} {ox : Obj} {es : List DictEntry} {es' : Tok → List DictEntry} {n n' : Nat} {name : Str} {v : Value}
theorem set_dictG {Q : Unit → Shared → Prop} (F : Fr h₀ L s.heap m) (X₀ : K.In h₀) (N : News h₀ L s.heap news) (I : InstAt s.heap x ox C (some (dictOf es n))) (hd : ox.dict = some dx)
    (hs : findIn K (.ref C) "__setattr__" = some (some (.builtin "object.__setattr__"))) (hp : plainOver K C = true) (ht : takerIn K C name = some none) (hh : hasDictIn K C = true) (hl : (getL name es).isSome = true)
    (e : ∀ u, (putL name (PyData.keyHash w.params name) (.str name u) v es, putN name es n) = (es' u, n')) (U : ∀ u, Upd dx (dictOf es n) (dictOf (es' u) n') news (news' u)) (hz : ∀ u, (es' u).length ≤ 1000)
    (h : ∀ h' u tk, Fr h₀ L h' m → News h₀ L h' (news' u) → Q () { s with heap := h', toks := tk }) :
    wpAny (model prog w) A (setAttr (.ref x) name v) Q E s :=
  set_dict F X₀ N I hd hs hp ht hh hl (e _) (U _) (hz _) fun h' F' N' => h h' _ _ F' N'
end
example : True := by
  (k_with "setAttr ref" => (k_here; k_dflt (refine' set_dictG (by k_asm) (by k_asm) (by k_asm) (by k_inst) (by exact rfl) (by k_is) (by k_is) (by k_is) (by k_is) (by k_get) (by intro _; k_put) (by intro _; k_upd) (by intro _; exact Nat.le_of_ble_eq_true rfl) ?_); k_whole; intro _ _ _ _ _; (try k_sweep)))
  trivial
theorem nodup3 {c a n : Addr} {l l' : List Addr} (h1 : Dlt a (c :: l)) (h2 : Dlt n (a :: c :: l')) : [c, a, n].Nodup := by
  have e1 := Nat.ne_of_lt (h1 c (.head _))
  have e2 := Nat.ne_of_lt (h2 c (.tail _ (.head _)))
  have e3 := Nat.ne_of_lt (h2 a (.head _))
  simp only [List.nodup_cons, List.mem_cons, List.not_mem_nil, not_or, List.nodup_nil, or_false, not_false_eq_true, and_true]
  exact ⟨⟨e1, e2⟩, e3⟩
theorem node_init_C {w : World} {A : Around} {s : Shared} {g : Heap} {x dx : Addr} {k nm u lc vl : Str} {t1 t2 t3 t4 t5 : Tok} {pv : Value} {par : Option Nat}
   (H : On w A g s.heap [x, dx] 6 100) (hx : s.heap.get? x = some (instObj 238 dx)) (hdx : s.heap.get? dx = some (dictOf [] 0)) (hlt : @LT.lt Nat _ dx x) (hp : ParV pv par) :
   codeAny (model prg w) A (.call (.ref 235) ⟨[.ref x, .str k t1, .str nm t2, .str u t3, .str lc t4, .str vl t5, pv], []⟩) (BackR g s fun v h' => v = .none ∧ ∃ c a n, RowAt w h' ⟨x, dx, c, a, n⟩ ⟨k, nm, u, lc, vl, par, [], [], []⟩ ∧ [c, a, n].Nodup ∧ ∀ q ∈ [c, a, n], s.heap.get? q = none) s := by
  refine' enterGC (binds := [(Str.ofString "self", .ref x), (Str.ofString "kind", .str k t1), (Str.ofString "name", .str nm t2), (Str.ofString "uri", .str u t3), (Str.ofString "local", .str lc t4), (Str.ofString "value", .str vl t5), (Str.ofString "parent", pv)]) [(x, instObj 238 dx), (dx, dictOf [] 0)] H (by k_extra "om") (by k_extra "om") ?hown (by k_is) (by k_is) (BindsTo.of_eq rfl) (locs rfl) ?_ (by decide) rfl rfl rfl
  case hown =>
    intro p hp
    refine hidP fun P9 k9 => ?_
    rcases List.mem_cons.mp hp with rfl | hp <;> (refine k9 ?_; clear k9 P9)
    · exact ⟨hx, .head _⟩
    · rw [List.mem_singleton.mp hp]; exact ⟨hdx, .tail _ (.head _)⟩
  intro h₁ gn9 dr9 os9 A9 L9 tk9 pr9 loose9 mean9 mg9 mb9 F' N' lo' X' T' C' hroom hun K9 hK9
  (try dsimp only)
  have lx : @LT.lt Nat _ x L9 := lo' _ (.head _)
  have ld : @LT.lt Nat _ dx L9 := lo' _ (.tail _ (.head _))
  clear lo'
  k_steps
  rename Fr _ _ _ _ => F4
  rename News _ _ _ _ => N4
  rename_i c _ lc1 _ _ _ a _ la1 _ _ _ n _ ln1 _ _ _
  have f : ∀ (q : Addr) (o : Obj), (q, o) ∈ _ → Dlt q [x, dx] → s.heap.get? q = none := fun q o hm hl => fresh_of H (N4 (q, o) hm).2.2 fun h => Nat.lt_irrefl _ (hl q h)
  exact endN hK9 F4 ⟨rfl, c, a, n, ⟨(N4 (x, _) (by k_mem)).1, ⟨_, _, _, _, _, _, _, _, _, _, _, _, _, _, pv, _, hp, (N4 (dx, _) (by k_mem)).1⟩, ⟨[], 0, (N4 (c, listOf #[] 0) (by k_mem)).1, .nil⟩, ⟨[], 0, (N4 (a, listOf #[] 0) (by k_mem)).1, .nil⟩, ⟨[], 0, (N4 (n, listOf #[] 0) (by k_mem)).1, .nil⟩⟩, nodup3 la1 ln1,
    List.forall_mem_cons.mpr ⟨f c (listOf #[] 0) (by k_mem) lc1, List.forall_mem_cons.mpr ⟨f a (listOf #[] 0) (by k_mem) (fun y h => la1 y (.tail _ h)), List.forall_mem_cons.mpr ⟨f n (listOf #[] 0) (by k_mem) (fun y h => ln1 y (.tail _ (.tail _ h))), List.forall_mem_nil _⟩⟩⟩⟩
theorem node_new_U {w : World} {A : Around} {s : Shared} {h₀ : Heap} {L rl : Addr} {o : Obj} {m : Str → Option Value} {dp un : Nat} {Q E : Value → Shared → Prop} {k nm u lc vl : Str} {t1 t2 t3 t4 t5 : Tok} {pv : Value} {par : Option Nat}
   (C : Callee w A h₀ L dp un) (F : Fr h₀ L s.heap m) (N : News h₀ L s.heap [(rl, o)]) (X : (hd.heap_1 w.params).In h₀) (hp : ParV pv par) (hd' : 7 ≤ dp) (hu : 102 ≤ un)
   (kk : ∀ q led h' tk', Fr h₀ L h' m → News h₀ L h' ((rl, o) :: led) → (∀ p ∈ led, @Ne Nat p.1 rl) → (∀ h2, Held led h2 → RowAt w h2 q ⟨k, nm, u, lc, vl, par, [], [], []⟩) → q.as.Nodup → (∀ a ∈ q.as, s.heap.get? a = none) → Q (.ref q.x) { s with heap := h', toks := tk' }) :
   wpAny (model prg w) A (call (.ref 238) [.str k t1, .str nm t2, .str u t3, .str lc t4, .str vl t5, pv]) Q E s := by
  refine cls_new (fun x dx h1 h' => ∃ c a n, RowAt w h' ⟨x, dx, c, a, n⟩ ⟨k, nm, u, lc, vl, par, [], [], []⟩ ∧ [x, dx, c, a, n].Nodup ∧ ∀ q ∈ [c, a, n], h1.get? q = none) C F N X (by k_is) (by k_is) (by k_is) hd' hu (fun A' g' s' x dx H hx hdx hlt => codeAny_mono (node_init_C H hx hdx hlt hp) fun r s'' hr => ?_) fun x dx h1 h' tk' F' N' hf _ hlt hP => ?_
  · match r, hr with
    | .ok (.ret v), hr =>
      obtain ⟨h', tk', rfl, hk, rfl, c, a, n, R, nd, fr⟩ := hr
      refine ⟨h', tk', rfl, hk, rfl, c, a, n, R, ?_, fr⟩
      have nx : ∀ y o, s'.heap.get? y = some o → y ∉ [c, a, n] := fun y o e h => by rw [fr y h] at e; cases e
      refine List.nodup_cons.mpr ⟨fun h => ?_, List.nodup_cons.mpr ⟨nx dx _ hdx, nd⟩⟩
      rcases List.mem_cons.mp h with h | h
      · exact Nat.ne_of_gt hlt h
      · exact nx x _ hx h
  · obtain ⟨c, a, n, R, nd, fr⟩ := hP
    have hf' : ∀ y ∈ (Rep.mk x dx c a n).as, s.heap.get? y = none := fun y hy => by
      rcases List.mem_cons.mp hy with rfl | hy
      · exact hf _ (.inl rfl)
      rcases List.mem_cons.mp hy with rfl | hy
      · exact hf _ (.inr (.inl rfl))
      · exact hf _ (.inr (.inr (fr y hy)))
    have NL := ledOf_news F' F hf'
    refine kk ⟨x, dx, c, a, n⟩ (ledOf h' (Rep.mk x dx c a n).as) h' tk' F' (fun p hp => ?_) (fun p hp e => ?_) (fun h2 k => R.led k) nd hf'
    · rcases List.mem_cons.mp hp with rfl | hp
      · exact N' _ (.head _)
      · exact NL p hp
    · have h1 := hf' _ (mem_ledOf.mp hp).1
      have h2 := (N _ (.head _)).1
      have e' : p.1 = rl := e
      dsimp only at h2
      rw [e', h2] at h1; cases h1
example : True := by
  (k_with "call ref" => (k_here; (with_reducible show wpAny _ _ (call (Value.ref 238) _) _ _ _); k_dflt (refine' node_new_U (by with_reducible assumption) (by k_asm) (by k_asm) (by k_asm) (by with_reducible assumption) (by k_extra "om") (by k_extra "om") ?_); intro _ _ _ _ _ _ _ _ _ _; (try k_sweep)))
  trivial
theorem new_row_C {w : World} {A : Around} {s : Shared} {g : Heap} {t dt rl : Addr} {vs : List Value} {n nt : Nat} {tkr : Tok} {k nm u lc vl : Str} {t1 t2 t3 t4 t5 : Tok} {pv : Value} {par : Option Nat}
   (H : On w A g s.heap [rl] 10 200) (ti : g.get? t = some (instObj 427 dt)) (td : g.get? dt = some (dictOf [⟨PyData.keyHash w.params (Str.ofString "rows"), .str (Str.ofString "rows") tkr, .ref rl⟩] nt))
   (hl : s.heap.get? rl = some (listOf (List.toArray vs) n)) (hz : vs.length ≤ 50) (hp : ParV pv par) :
   wpAny (model prg w) A (call (.ref 263) [.ref t, .str k t1, .str nm t2, .str u t3, .str lc t4, .str vl t5, pv]) (BackG g s fun v h' => ∃ (tk : Tok) (q : Rep) (n' : Nat), v = .int (vs.length : Int) tk ∧ h'.get? rl = some (listOf (List.toArray (vs ++ [.ref q.x])) n') ∧ RowAt w h' q ⟨k, nm, u, lc, vl, par, [], [], []⟩ ∧
     [q.x, q.dx, q.c, q.a, q.n].Nodup ∧ ∀ a ∈ [q.x, q.dx, q.c, q.a, q.n], s.heap.get? a = none) NoErr s := by
  refine' enterG (binds := [(Str.ofString "self", .ref t), (Str.ofString "kind", .str k t1), (Str.ofString "name", .str nm t2), (Str.ofString "uri", .str u t3), (Str.ofString "local", .str lc t4), (Str.ofString "value", .str vl t5), (Str.ofString "parent", pv)]) [(rl, listOf (List.toArray vs) n)] H (by k_extra "om") (by k_extra "om") ?hown (by k_is) (by k_is) (BindsTo.of_eq rfl) (locs rfl) ?_ (by decide) rfl rfl rfl
  case hown => intro p hp; rw [List.mem_singleton.mp hp]; exact ⟨hl, .head _⟩
  intro h₁ gn9 dr9 os9 A9 L9 tk9 pr9 loose9 mean9 mg9 mb9 F' N' lo' X' T' C' hroom hun K9 hK9
  (try dsimp only)
  have up1 : ∀ b, h₁.get? b = none → s.heap.get? b = none := fun b e => fresh_of H (by
      cases q : g.get? b with
      | none => rfl
      | some o => rw [F'.keep _ _ q] at e; cases e) fun hm => by
    have h1 := (N' _ (.head _)).1
    rw [List.mem_singleton.mp hm] at e
    dsimp only at h1
    rw [h1] at e; cases e
  k_steps
  rename Fr _ _ _ _ => F3
  rename News _ _ _ _ => N3
  refine len_of (k := vs.length + 1) (News.isList N3 (by k_mem)) (by simp) (by k_extra "om") ?_
  intro _ _
  k_steps
  rename Fr _ _ _ _ => F4
  rename News _ _ _ _ => N4
  rename ∀ h2, Held _ h2 → _ => hrow
  rename List.Nodup _ => hnd
  rename ∀ a ∈ _, _ = none => hfr
  exact endK hK9 F4 ⟨_, _, _, congrArg (fun x => Value.int x _) (by k_extra "om"), (N4 _ (.head _)).1, hrow _ (fun p hp => (N4 p (.tail _ hp)).1), hnd, fun a ha => up1 a (hfr a ha)⟩
example : True := by w_top off; trivial
section
variable {T : List Row}
theorem rw_some {i : Nat} {r : Row} (h : T[i]? = some r) : rw T i = r := by unfold rw; rw [List.getD_eq_getElem?_getD, h]; rfl
theorem rw_none {i : Nat} (h : T[i]? = none) : rw T i = dft := by unfold rw; rw [List.getD_eq_getElem?_getD, h]; rfl
theorem rw_snoc (T : List Row) (r : Row) (i : Nat) : rw (T ++ [r]) i = if i = T.length then r else rw T i := by
  by_cases e : i = T.length
  · rw [if_pos e, e]; exact rw_some (by simp)
  · rw [if_neg e]
    by_cases l : i < T.length
    · unfold rw; rw [List.getD_eq_getElem?_getD, List.getD_eq_getElem?_getD, List.getElem?_append_left l]
    · rw [rw_none (List.getElem?_eq_none (by simp; omega)), rw_none (List.getElem?_eq_none (by k_extra "om"))]
theorem rw_modify (T : List Row) (p : Nat) (f : Row → Row) (i : Nat) : rw (T.modify p f) i = if i = p ∧ p < T.length then f (rw T i) else rw T i := by
  by_cases l : i < T.length
  · have e1 : T[i]? = some T[i] := List.getElem?_eq_getElem l
    rw [rw_some e1]
    by_cases e : i = p
    · subst e
      rw [if_pos ⟨rfl, l⟩]
      exact rw_some (by rw [List.getElem?_modify, e1]; simp)
    · rw [if_neg fun h => e h.1]
      exact rw_some (by rw [List.getElem?_modify, e1]; simp [Ne.symm e])
  · rw [if_neg (by k_extra "om"), rw_none (List.getElem?_eq_none (by rw [List.length_modify]; omega)), rw_none (List.getElem?_eq_none (by k_extra "om"))]
theorem beside_iff {i : Nat} : beside T i = true ↔ kd T i = Str.ofString "attribute" ∨ kd T i = Str.ofString "namespace" := by
  unfold beside
  generalize Str.ofString "attribute" = a
  generalize Str.ofString "namespace" = b
  rw [List.any_cons, List.any_cons, List.any_nil, Bool.or_false, Bool.or_eq_true, beq_iff_eq, beq_iff_eq, eq_comm, @eq_comm _ b]
theorem beside_not {i : Nat} : beside T i = false ↔ kd T i ≠ Str.ofString "attribute" ∧ kd T i ≠ Str.ofString "namespace" := by
  rw [← Bool.not_eq_true, beside_iff, not_or]
theorem kd_out {i : Nat} (h : T.length ≤ i) : kd T i = Str.ofString "" := by unfold kd; rw [rw_out h]; rfl
theorem ur_out {i : Nat} (h : T.length ≤ i) : ur T i = Str.ofString "" := by unfold ur; rw [rw_out h]; rfl
theorem atl_out {i : Nat} (h : T.length ≤ i) : atl T i = [] := by unfold atl; rw [rw_out h]; rfl
theorem nsl_out {i : Nat} (h : T.length ≤ i) : nsl T i = [] := by unfold nsl; rw [rw_out h]; rfl
theorem str_ae : Str.ofString "attribute" ≠ Str.ofString "element" := by decide
theorem str_ne : Str.ofString "namespace" ≠ Str.ofString "element" := by decide
theorem str_an : Str.ofString "attribute" ≠ Str.ofString "namespace" := by decide
structure Grows (T T' : List Row) (p : Nat) (r : Row) (cs as ns : List Nat) : Prop where
  len : T'.length = T.length + 1
  kd : ∀ i, kd T' i = if i = T.length then r.kind else kd T i
  pa : ∀ i, pa T' i = if i = T.length then some p else pa T i
  ur : ∀ i, ur T' i = if i = T.length then r.uri else ur T i
  ch : ∀ i, ch T' i = if i = p then ch T i ++ cs else ch T i
  atl : ∀ i, atl T' i = if i = p then atl T i ++ as else atl T i
  nsl : ∀ i, nsl T' i = if i = p then nsl T i ++ ns else nsl T i
theorem grows_wf {T' : List Row} {p : Nat} {r : Row} {cs as ns : List Nat} (G : Grows T T' p r cs as ns) (W : WF T) (hp : p < T.length) (hb : beside T p = false) (he : kd T p = Str.ofString "element" ∨ (as = [] ∧ ns = []))
    (hu : r.uri = Str.ofString "") (hs : T.length + 1 ≤ 20)
    (hcs : cs = if r.kind ≠ Str.ofString "attribute" ∧ r.kind ≠ Str.ofString "namespace" then [T.length] else [])
    (has : as = if r.kind = Str.ofString "attribute" then [T.length] else [])
    (hns : ns = if r.kind = Str.ofString "namespace" then [T.length] else []) : WF T' := by
  have bes : ∀ i, i ≠ T.length → beside T' i = beside T i := fun i h => by unfold beside; rw [G.kd, if_neg h]
  have besn : beside T' T.length = true ↔ r.kind = Str.ofString "attribute" ∨ r.kind = Str.ofString "namespace" := by rw [beside_iff, G.kd, if_pos rfl]
  have hcm : ∀ {c}, c ∈ cs → c = T.length ∧ r.kind ≠ Str.ofString "attribute" ∧ r.kind ≠ Str.ofString "namespace" := fun {c} h => by
    rw [hcs] at h; split at h
    · exact ⟨List.mem_singleton.mp h, by assumption⟩
    · exact nomatch h
  have ham : ∀ {c}, c ∈ as → c = T.length ∧ r.kind = Str.ofString "attribute" := fun {c} h => by
    rw [has] at h; split at h
    · exact ⟨List.mem_singleton.mp h, by assumption⟩
    · exact nomatch h
  have hnm : ∀ {c}, c ∈ ns → c = T.length ∧ r.kind = Str.ofString "namespace" := fun {c} h => by
    rw [hns] at h; split at h
    · exact ⟨List.mem_singleton.mp h, by assumption⟩
    · exact nomatch h
  have hpn : p ≠ T.length := Nat.ne_of_lt hp
  have pln : ∀ {i q}, pa T i = some q → i ≠ T.length ∧ q ≠ T.length := fun h => by have := W.par_len h; omega
  refine ⟨?_, ?_, ?_, ?_, ?_, ?_, ?_, ?_, ?_, ?_, ?_, ?_, ?_, ?_, ?_, by rw [G.len]; exact hs⟩
  · intro i q h
    rw [G.pa] at h; split at h
    · cases h; omega
    · exact W.par_lt i q h
  · intro i c h
    rw [G.ch] at h
    have old : c ∈ ch T i → i < c ∧ c < T'.length ∧ pa T' c = some i ∧ beside T' c = false := fun h => by
      obtain ⟨h1, h2, h3, h4⟩ := W.ch_ok i c h
      refine ⟨h1, by rw [G.len]; omega, by rw [G.pa, if_neg (by k_extra "om")]; exact h3, by rw [bes c (by k_extra "om")]; exact h4⟩
    split at h
    · subst i
      rcases List.mem_append.mp h with h | h
      · exact old h
      · obtain ⟨rfl, h1, h2⟩ := hcm h
        exact ⟨hp, by rw [G.len]; omega, by rw [G.pa, if_pos rfl], beside_not.mpr (by rw [G.kd, if_pos rfl]; exact ⟨h1, h2⟩)⟩
    · exact old h
  · intro i c h
    rw [G.atl] at h
    have old : c ∈ atl T i → i < c ∧ c < T'.length ∧ pa T' c = some i ∧ kd T' c = Str.ofString "attribute" := fun h => by
      obtain ⟨h1, h2, h3, h4⟩ := W.at_ok i c h
      refine ⟨h1, by rw [G.len]; omega, by rw [G.pa, if_neg (by k_extra "om")]; exact h3, by rw [G.kd, if_neg (by k_extra "om")]; exact h4⟩
    split at h
    · subst i
      rcases List.mem_append.mp h with h | h
      · exact old h
      · obtain ⟨rfl, h1⟩ := ham h
        exact ⟨hp, by rw [G.len]; omega, by rw [G.pa, if_pos rfl], by rw [G.kd, if_pos rfl]; exact h1⟩
    · exact old h
  · intro i c h
    rw [G.nsl] at h
    have old : c ∈ nsl T i → i < c ∧ c < T'.length ∧ pa T' c = some i ∧ kd T' c = Str.ofString "namespace" := fun h => by
      obtain ⟨h1, h2, h3, h4⟩ := W.ns_ok i c h
      refine ⟨h1, by rw [G.len]; omega, by rw [G.pa, if_neg (by k_extra "om")]; exact h3, by rw [G.kd, if_neg (by k_extra "om")]; exact h4⟩
    split at h
    · subst i
      rcases List.mem_append.mp h with h | h
      · exact old h
      · obtain ⟨rfl, h1⟩ := hnm h
        exact ⟨hp, by rw [G.len]; omega, by rw [G.pa, if_pos rfl], by rw [G.kd, if_pos rfl]; exact h1⟩
    · exact old h
  · intro i q h hb'
    rw [G.pa] at h; rw [G.ch]; split at h
    · cases h; subst i
      rw [if_pos rfl]
      obtain ⟨h1, h2⟩ := beside_not.mp hb'
      rw [G.kd, if_pos rfl] at h1 h2
      rw [hcs, if_pos ⟨h1, h2⟩]
      exact List.mem_append_right _ (.head _)
    · rename_i hi
      rw [bes i hi] at hb'
      have := W.par_ch i q h hb'
      split
      · exact List.mem_append_left _ this
      · exact this
  · intro i q h hk
    rw [G.pa] at h; rw [G.kd] at hk; rw [G.atl]; split at h
    · cases h; subst i
      rw [if_pos rfl] at hk ⊢
      rw [has, if_pos hk]
      exact List.mem_append_right _ (.head _)
    · rename_i hi
      rw [if_neg hi] at hk
      have := W.par_at i q h hk
      split
      · exact List.mem_append_left _ this
      · exact this
  · intro i q h hk
    rw [G.pa] at h; rw [G.kd] at hk; rw [G.nsl]; split at h
    · cases h; subst i
      rw [if_pos rfl] at hk ⊢
      rw [hns, if_pos hk]
      exact List.mem_append_right _ (.head _)
    · rename_i hi
      rw [if_neg hi] at hk
      have := W.par_ns i q h hk
      split
      · exact List.mem_append_left _ this
      · exact this
  · intro i
    rw [G.ch]; split
    · refine List.nodup_append.mpr ⟨W.ch_nd i, by rw [hcs]; split <;> simp, fun a ha b hb' => ?_⟩
      have := (W.ch_ok i a ha).2.1
      have := (hcm hb').1
      omega
    · exact W.ch_nd i
  · intro i
    rw [G.atl]; split
    · refine List.nodup_append.mpr ⟨W.at_nd i, by rw [has]; split <;> simp, fun a ha b hb' => ?_⟩
      have := (W.at_ok i a ha).2.1
      have := (ham hb').1
      omega
    · exact W.at_nd i
  · intro i
    rw [G.nsl]; split
    · refine List.nodup_append.mpr ⟨W.ns_nd i, by rw [hns]; split <;> simp, fun a ha b hb' => ?_⟩
      have := (W.ns_ok i a ha).2.1
      have := (hnm hb').1
      omega
    · exact W.ns_nd i
  · intro i h
    rw [G.pa]; split
    · exact ⟨_, rfl⟩
    · rename_i hi; rw [bes i hi] at h; exact W.bes_par i h
  · intro i h
    rw [G.ch]
    by_cases hi : i = T.length
    · rw [if_neg (by k_extra "om"), ch_out (by k_extra "om")]
    · rw [bes i hi] at h
      rw [if_neg (fun e => by subst e; rw [hb] at h; cases h)]
      exact W.bes_ch i h
  · intro i h
    rw [G.atl]
    by_cases hi : i = T.length
    · rw [if_neg (by k_extra "om"), atl_out (by k_extra "om")]
    · rw [G.kd, if_neg hi] at h
      have := W.el_at i h
      split
      · subst i
        rcases he with he | he
        · exact absurd he h
        · rw [this, he.1]; rfl
      · exact this
  · intro i h
    rw [G.nsl]
    by_cases hi : i = T.length
    · rw [if_neg (by k_extra "om"), nsl_out (by k_extra "om")]
    · rw [G.kd, if_neg hi] at h
      have := W.el_ns i h
      split
      · subst i
        rcases he with he | he
        · exact absurd he h
        · rw [this, he.2]; rfl
      · exact this
  · intro i
    rw [G.ur]; split
    · exact hu
    · exact W.uri i
noncomputable def rootRow : Row := ⟨Str.ofString "root", Str.ofString "", Str.ofString "", Str.ofString "", Str.ofString "", none, [], [], []⟩
noncomputable def addCh (T : List Row) (p : Nat) (r : Row) : List Row := (T ++ [r]).modify p fun x => { x with ch := x.ch ++ [T.length] }
noncomputable def addAt (T : List Row) (p : Nat) (r : Row) : List Row := (T ++ [r]).modify p fun x => { x with at_ := x.at_ ++ [T.length] }
noncomputable def addNs (T : List Row) (p : Nat) (r : Row) : List Row := (T ++ [r]).modify p fun x => { x with ns := x.ns ++ [T.length] }
noncomputable def setNV (T : List Row) (j : Nat) (nm vl : Str) : List Row := T.modify j fun x => { x with name := nm, val := vl }
noncomputable def setV (T : List Row) (j : Nat) (vl : Str) : List Row := T.modify j fun x => { x with val := vl }
noncomputable def newR (p : Nat) (k nm lc vl : Str) : Row := ⟨k, nm, Str.ofString "", lc, vl, some p, [], [], []⟩
theorem rw_add {p : Nat} {f : Row → Row} {r : Row} (hp : p < T.length) (i : Nat) : rw ((T ++ [r]).modify p f) i = if i = T.length then r else if i = p then f (rw T i) else rw T i := by
  rw [rw_modify, rw_snoc]
  have hl : p < (T ++ [r]).length := by simp; omega
  by_cases h1 : i = T.length
  · rw [if_pos h1, if_pos h1, if_neg (by k_extra "om")]
  · rw [if_neg h1, if_neg h1]
    by_cases h2 : i = p
    · rw [if_pos ⟨h2, hl⟩, if_pos h2]
    · rw [if_neg (fun h => h2 h.1), if_neg h2]
theorem addCh_grows {p : Nat} {r : Row} (hp : p < T.length) (h1 : r.ch = []) (h2 : r.at_ = []) (h3 : r.ns = []) (h4 : r.par = some p) : Grows T (addCh T p r) p r [T.length] [] [] := by
  have e := fun i => rw_add (T := T) (r := r) (f := fun x => { x with ch := x.ch ++ [T.length] }) hp i
  have o := fun i (h : i = T.length) => rw_out (T := T) (i := i) (by k_extra "om")
  constructor
  · unfold addCh; rw [List.length_modify]; simp
  all_goals
    intro i
    have e := e i
    have o := o i
    simp only [kd, pa, ur, ch, atl, nsl, addCh, List.append_nil, ite_self]
    rw [e]
    by_cases q : i = T.length
    · have q2 : i ≠ p := by omega
      simp [q, o q, h1, h2, h3, h4, q2, dft, show T.length ≠ p by omega]
      try (rw [rw_out (Nat.le_refl _)]; rfl)
    · by_cases q2 : i = p
      · subst q2; simp [q]
      · simp [q, q2]
theorem addAt_grows {p : Nat} {r : Row} (hp : p < T.length) (h1 : r.ch = []) (h2 : r.at_ = []) (h3 : r.ns = []) (h4 : r.par = some p) : Grows T (addAt T p r) p r [] [T.length] [] := by
  have e := fun i => rw_add (T := T) (r := r) (f := fun x => { x with at_ := x.at_ ++ [T.length] }) hp i
  have o := fun i (h : i = T.length) => rw_out (T := T) (i := i) (by k_extra "om")
  constructor
  · unfold addAt; rw [List.length_modify]; simp
  all_goals
    intro i
    have e := e i
    have o := o i
    simp only [kd, pa, ur, ch, atl, nsl, addAt, List.append_nil, ite_self]
    rw [e]
    by_cases q : i = T.length
    · have q2 : i ≠ p := by omega
      simp [q, o q, h1, h2, h3, h4, q2, dft, show T.length ≠ p by omega]
      try (rw [rw_out (Nat.le_refl _)]; rfl)
    · by_cases q2 : i = p
      · subst q2; simp [q]
      · simp [q, q2]
theorem addNs_grows {p : Nat} {r : Row} (hp : p < T.length) (h1 : r.ch = []) (h2 : r.at_ = []) (h3 : r.ns = []) (h4 : r.par = some p) : Grows T (addNs T p r) p r [] [] [T.length] := by
  have e := fun i => rw_add (T := T) (r := r) (f := fun x => { x with ns := x.ns ++ [T.length] }) hp i
  have o := fun i (h : i = T.length) => rw_out (T := T) (i := i) (by k_extra "om")
  constructor
  · unfold addNs; rw [List.length_modify]; simp
  all_goals
    intro i
    have e := e i
    have o := o i
    simp only [kd, pa, ur, ch, atl, nsl, addNs, List.append_nil, ite_self]
    rw [e]
    by_cases q : i = T.length
    · have q2 : i ≠ p := by omega
      simp [q, o q, h1, h2, h3, h4, q2, dft, show T.length ≠ p by omega]
      try (rw [rw_out (Nat.le_refl _)]; rfl)
    · by_cases q2 : i = p
      · subst q2; simp [q]
      · simp [q, q2]
theorem wf_links {T' : List Row} (W : WF T) (hl : T'.length = T.length) (h : ∀ i, kd T' i = kd T i ∧ pa T' i = pa T i ∧ ur T' i = ur T i ∧ ch T' i = ch T i ∧ atl T' i = atl T i ∧ nsl T' i = nsl T i) : WF T' := by
  have e1 : kd T' = kd T := funext fun i => (h i).1
  have e2 : pa T' = pa T := funext fun i => (h i).2.1
  have e3 : ur T' = ur T := funext fun i => (h i).2.2.1
  have e4 : ch T' = ch T := funext fun i => (h i).2.2.2.1
  have e5 : atl T' = atl T := funext fun i => (h i).2.2.2.2.1
  have e6 : nsl T' = nsl T := funext fun i => (h i).2.2.2.2.2
  have e7 : beside T' = beside T := funext fun i => by unfold beside; rw [e1]
  obtain ⟨a1, a2, a3, a4, a5, a6, a7, a8, a9, a10, a11, a12, a13, a14, a15, a16⟩ := W
  constructor
  all_goals first | (rw [hl]; exact a16) | (simp only [e1, e2, e3, e4, e5, e6, e7, hl]; assumption)
theorem setNV_wf {j : Nat} {a b : Str} (W : WF T) : WF (setNV T j a b) := by
  refine wf_links W (by unfold setNV; rw [List.length_modify]) fun i => ?_
  unfold kd pa ur ch atl nsl setNV
  rw [rw_modify]
  split <;> exact ⟨rfl, rfl, rfl, rfl, rfl, rfl⟩
theorem setV_wf {j : Nat} {b : Str} (W : WF T) : WF (setV T j b) := by
  refine wf_links W (by unfold setV; rw [List.length_modify]) fun i => ?_
  unfold kd pa ur ch atl nsl setV
  rw [rw_modify]
  split <;> exact ⟨rfl, rfl, rfl, rfl, rfl, rfl⟩
theorem root_wf (W : WF T) (hs : T.length + 1 ≤ 20) : WF (T ++ [rootRow]) := by
  have e := fun i => rw_snoc T rootRow i
  have o1 : kd T T.length = Str.ofString "" := kd_out (Nat.le_refl _)
  have o2 : pa T T.length = none := pa_out (Nat.le_refl _)
  have o3 : ur T T.length = Str.ofString "" := ur_out (Nat.le_refl _)
  have o4 : ch T T.length = [] := ch_out (Nat.le_refl _)
  have o5 : atl T T.length = [] := atl_out (Nat.le_refl _)
  have o6 : nsl T T.length = [] := nsl_out (Nat.le_refl _)
  have h1 : ∀ i, kd (T ++ [rootRow]) i = if i = T.length then Str.ofString "root" else kd T i := fun i => by unfold kd; rw [e]; split <;> rfl
  have h2 : pa (T ++ [rootRow]) = pa T := funext fun i => by unfold pa; rw [e]; split <;> (try subst i) <;> first | rfl | exact o2.symm
  have h3 : ur (T ++ [rootRow]) = ur T := funext fun i => by unfold ur; rw [e]; split <;> (try subst i) <;> first | rfl | exact o3.symm
  have h4 : ch (T ++ [rootRow]) = ch T := funext fun i => by unfold ch; rw [e]; split <;> (try subst i) <;> first | rfl | exact o4.symm
  have h5 : atl (T ++ [rootRow]) = atl T := funext fun i => by unfold atl; rw [e]; split <;> (try subst i) <;> first | rfl | exact o5.symm
  have h6 : nsl (T ++ [rootRow]) = nsl T := funext fun i => by unfold nsl; rw [e]; split <;> (try subst i) <;> first | rfl | exact o6.symm
  have h7 : beside (T ++ [rootRow]) = beside T := funext fun i => by
    by_cases q : i = T.length
    · subst q
      unfold beside; rw [h1, if_pos rfl, o1]; decide
    · unfold beside; rw [h1, if_neg q]
  have hl : (T ++ [rootRow]).length = T.length + 1 := by simp
  refine ⟨?_, ?_, ?_, ?_, ?_, ?_, ?_, ?_, ?_, ?_, ?_, ?_, ?_, ?_, ?_, by rw [hl]; exact hs⟩
  · rw [h2]; exact W.par_lt
  · rw [h2, h4, h7, hl]; intro i c h; obtain ⟨a, b, c, d⟩ := W.ch_ok i c h; exact ⟨a, by omega, c, d⟩
  · rw [h2, h5, hl]; intro i c h; obtain ⟨a, b, c', d⟩ := W.at_ok i c h; exact ⟨a, by omega, c', by rw [h1, if_neg (by k_extra "om")]; exact d⟩
  · rw [h2, h6, hl]; intro i c h; obtain ⟨a, b, c', d⟩ := W.ns_ok i c h; exact ⟨a, by omega, c', by rw [h1, if_neg (by k_extra "om")]; exact d⟩
  · rw [h2, h4, h7]; exact W.par_ch
  · rw [h2, h5]; intro i q h hk; have := W.par_len h; rw [h1, if_neg (by k_extra "om")] at hk; exact W.par_at i q h hk
  · rw [h2, h6]; intro i q h hk; have := W.par_len h; rw [h1, if_neg (by k_extra "om")] at hk; exact W.par_ns i q h hk
  · rw [h4]; exact W.ch_nd
  · rw [h5]; exact W.at_nd
  · rw [h6]; exact W.ns_nd
  · rw [h2, h7]; exact W.bes_par
  · rw [h4, h7]; exact W.bes_ch
  · rw [h5]; intro i h; by_cases q : i = T.length
    · subst q; exact o5
    · rw [h1, if_neg q] at h; exact W.el_at i h
  · rw [h6]; intro i h; by_cases q : i = T.length
    · subst q; exact o6
    · rw [h1, if_neg q] at h; exact W.el_ns i h
  · rw [h3]; exact W.uri
theorem wf_nil : WF [] := by
  have e : ∀ i, rw [] i = dft := fun i => rw_out (Nat.zero_le _)
  have e1 : ∀ i, ch [] i = [] := fun i => ch_out (Nat.zero_le _)
  have e2 : ∀ i, atl [] i = [] := fun i => atl_out (Nat.zero_le _)
  have e3 : ∀ i, nsl [] i = [] := fun i => nsl_out (Nat.zero_le _)
  have e4 : ∀ i, pa [] i = none := fun i => pa_out (Nat.zero_le _)
  have e5 : ∀ i, beside [] i = false := fun i => by unfold beside; rw [kd_out (Nat.zero_le _)]; decide
  have e6 : ∀ {α : Prop} {i p : Nat}, pa [] i = some p → α := fun h => by rw [e4] at h; cases h
  refine ⟨fun i p h => e6 h, fun i c h => ?_, fun i c h => ?_, fun i c h => ?_, fun i p h => e6 h, fun i p h => e6 h, fun i p h => e6 h, fun i => ?_, fun i => ?_, fun i => ?_, fun i h => ?_, fun i _ => e1 i, fun i _ => e2 i, fun i _ => e3 i, fun i => ur_out (Nat.zero_le _), Nat.zero_le _⟩
  · rw [e1] at h; exact nomatch h
  · rw [e2] at h; exact nomatch h
  · rw [e3] at h; exact nomatch h
  · rw [e1]; exact List.nodup_nil
  · rw [e2]; exact List.nodup_nil
  · rw [e3]; exact List.nodup_nil
  · rw [e5] at h; cases h
end
example : True := by w_top off; trivial
noncomputable def addrs (t dt rl : Addr) (qs : List Rep) : List Addr := t :: dt :: rl :: qs.flatMap Rep.as
theorem in_addrs {t dt rl : Addr} {qs : List Rep} {i : Nat} {q : Rep} {b : Addr} (h : qs[i]? = some q) (hb : b ∈ q.as) : b ∈ addrs t dt rl qs :=
  .tail _ (.tail _ (.tail _ (List.mem_flatMap.mpr ⟨q, List.mem_of_getElem? h, hb⟩)))
structure TreeN (w : World) (h : Heap) (t dt rl : Addr) (qs : List Rep) (T : List Row) : Prop where
  e : TreeE w h t dt rl qs T
  h3 : @Ne Nat t dt ∧ @Ne Nat t rl ∧ @Ne Nat dt rl
  nd : ∀ (i : Nat) (q : Rep), qs[i]? = some q → q.as.Nodup
  off : ∀ (i : Nat) (q : Rep), qs[i]? = some q → ∀ b ∈ q.as, @Ne Nat b t ∧ @Ne Nat b dt ∧ @Ne Nat b rl
  ap : ∀ (i j : Nat) (q q' : Rep), qs[i]? = some q → qs[j]? = some q' → i ≠ j → ∀ b ∈ q.as, b ∉ q'.as
section
variable {w : World} {h h' : Heap} {a t dt rl : Addr} {ns : List Nat} {q : Rep} {R : Row} {qs : List Rep} {T : List Row}
theorem RowAt.live (H : RowAt w h q R) : ∀ b ∈ q.as, ∃ o, h.get? b = some o := by
  intro b hb
  obtain ⟨t0, t1, t2, t3, t4, t5, t6, t7, t8, u0, u1, u2, u3, u4, pv, nn, hp, e⟩ := H.dict
  obtain ⟨_, _, e1, _⟩ := H.ch
  obtain ⟨_, _, e2, _⟩ := H.at_
  obtain ⟨_, _, e3, _⟩ := H.ns
  simp only [Rep.as, List.mem_cons, List.not_mem_nil, or_false] at hb
  rcases hb with rfl | rfl | rfl | rfl | rfl
  · exact ⟨_, H.inst⟩
  · exact ⟨_, e⟩
  · exact ⟨_, e1⟩
  · exact ⟨_, e2⟩
  · exact ⟨_, e3⟩
theorem TreeE.qrow (H : TreeE w h t dt rl qs T) (hq : q ∈ qs) : ∃ i, qs[i]? = some q ∧ RowAt w h q (rw T i) := by
  obtain ⟨i, hi⟩ := List.getElem?_of_mem hq
  exact ⟨i, hi, H.row i q hi⟩
theorem TreeE.live (H : TreeE w h t dt rl qs T) : ∀ b ∈ addrs t dt rl qs, ∃ o, h.get? b = some o := by
  intro b hb
  obtain ⟨_, _, e1⟩ := H.dict
  obtain ⟨_, e2⟩ := H.list
  simp only [addrs, List.mem_cons, List.mem_flatMap] at hb
  rcases hb with rfl | rfl | rfl | ⟨q, hq, hb⟩
  · exact ⟨_, H.inst⟩
  · exact ⟨_, e1⟩
  · exact ⟨_, e2⟩
  · obtain ⟨i, hi, hr⟩ := H.qrow hq
    exact hr.live b hb
theorem TreeE.move (H : TreeE w h t dt rl qs T) (k : ∀ b ∈ addrs t dt rl qs, ∀ o, h.get? b = some o → h'.get? b = some o) : TreeE w h' t dt rl qs T :=
  ⟨k _ (.head _) _ H.inst, let ⟨tk, n, e⟩ := H.dict; ⟨tk, n, k _ (.tail _ (.head _)) _ e⟩, let ⟨n, e⟩ := H.list; ⟨n, k _ (.tail _ (.tail _ (.head _))) _ e⟩, H.len,
   fun i q h1 => (H.row i q h1).move fun b hb => k b (in_addrs h1 hb), H.sm⟩
theorem TreeN.move (H : TreeN w h t dt rl qs T) (k : ∀ b ∈ addrs t dt rl qs, ∀ o, h.get? b = some o → h'.get? b = some o) : TreeN w h' t dt rl qs T := ⟨H.e.move k, H.h3, H.nd, H.off, H.ap⟩
theorem TreeN.snoc {r : Row} (H : TreeN w h t dt rl qs T) (k : ∀ b ∈ addrs t dt rl qs, b ≠ rl → ∀ o, h.get? b = some o → h'.get? b = some o) (hl : ∃ n, h'.get? rl = some (listOf (List.toArray ((qs.map fun q => Value.ref q.x) ++ [.ref q.x])) n))
    (hr : RowAt w h' q r) (nd : q.as.Nodup) (fr : ∀ a ∈ q.as, h.get? a = none) (sm : Sm (T ++ [r])) : TreeN w h' t dt rl (qs ++ [q]) (T ++ [r]) := by
  have lv := H.e.live
  have ne : ∀ a ∈ q.as, ∀ b ∈ addrs t dt rl qs, a ≠ b := by
    intro a ha b hb e
    obtain ⟨o, ho⟩ := lv b hb
    rw [← e, fr a ha] at ho; cases ho
  have at' : ∀ (i : Nat) (q0 : Rep), (qs ++ [q])[i]? = some q0 → (qs[i]? = some q0 ∧ i < qs.length) ∨ (q0 = q ∧ i = qs.length) := by
    intro i q0 hi
    by_cases l : i < qs.length
    · rw [List.getElem?_append_left l] at hi; exact .inl ⟨hi, l⟩
    · rw [List.getElem?_append_right (by k_extra "om")] at hi
      by_cases l2 : i = qs.length
      · subst l2; simp at hi; exact .inr ⟨hi.symm, rfl⟩
      · rw [List.getElem?_eq_none (by simp; omega)] at hi; cases hi
  refine ⟨⟨k _ (.head _) H.h3.2.1 _ H.e.inst, ?_, ?_, by simp [H.e.len], ?_, sm⟩, H.h3, ?_, ?_, ?_⟩
  · obtain ⟨tk, n, e⟩ := H.e.dict
    exact ⟨tk, n, k _ (.tail _ (.head _)) H.h3.2.2 _ e⟩
  · rw [List.map_append]; exact hl
  · intro i q0 hi
    rw [rw_snoc]
    rcases at' i q0 hi with ⟨h1, l⟩ | ⟨rfl, l⟩
    · rw [if_neg (by have := H.e.len; omega)]
      exact (H.e.row i q0 h1).move fun b hb => k b (in_addrs h1 hb) (H.off i q0 h1 b hb).2.2
    · rw [if_pos (by have := H.e.len; omega)]; exact hr
  · intro i q0 hi
    rcases at' i q0 hi with ⟨h1, l⟩ | ⟨rfl, l⟩
    · exact H.nd i q0 h1
    · exact nd
  · intro i q0 hi b hb
    rcases at' i q0 hi with ⟨h1, l⟩ | ⟨rfl, l⟩
    · exact H.off i q0 h1 b hb
    · exact ⟨ne b hb _ (.head _), ne b hb _ (.tail _ (.head _)), ne b hb _ (.tail _ (.tail _ (.head _)))⟩
  · intro i j q1 q2 hi hj hij b hb hb2
    rcases at' i q1 hi with ⟨h1, l1⟩ | ⟨rfl, l1⟩ <;> rcases at' j q2 hj with ⟨h2, l2⟩ | ⟨rfl, l2⟩
    · exact H.ap i j q1 q2 h1 h2 hij b hb hb2
    · exact ne b hb2 b (in_addrs h1 hb) rfl
    · exact ne b hb b (in_addrs h2 hb2) rfl
    · omega
theorem TreeN.modify {p : Nat} {f : Row → Row} {as : List Addr} (H : TreeN w h t dt rl qs T) (hq : qs[p]? = some q) (sub : ∀ a ∈ as, a ∈ q.as) (k : ∀ b ∈ addrs t dt rl qs, b ∉ as → ∀ o, h.get? b = some o → h'.get? b = some o)
    (hr : RowAt w h' q (f (rw T p))) (sm : Sm (T.modify p f)) : TreeN w h' t dt rl qs (T.modify p f) := by
  have hp : p < T.length := by have := H.e.len; have := (List.getElem?_eq_some_iff.mp hq).1; omega
  have off := fun a ha => H.off p q hq a (sub a ha)
  refine ⟨⟨k _ (.head _) (fun hc => (off _ hc).1 rfl) _ H.e.inst, ?_, ?_, by rw [List.length_modify]; exact H.e.len, ?_, sm⟩, H.h3, H.nd, H.off, H.ap⟩
  · obtain ⟨tk, n, e⟩ := H.e.dict
    exact ⟨tk, n, k _ (.tail _ (.head _)) (fun hc => (off _ hc).2.1 rfl) _ e⟩
  · obtain ⟨n, e⟩ := H.e.list
    exact ⟨n, k _ (.tail _ (.tail _ (.head _))) (fun hc => (off _ hc).2.2 rfl) _ e⟩
  · intro i q0 hi
    rw [rw_modify]
    by_cases e : i = p
    · subst e
      rw [hq] at hi; cases hi
      rw [if_pos ⟨rfl, hp⟩]; exact hr
    · rw [if_neg fun h => e h.1]
      exact (H.e.row i q0 hi).move fun b hb => k b (in_addrs hi hb) fun hc => H.ap i p q0 q hi hq e b hb (sub b hc)
structure Sz (k : Nat) (T : List Row) : Prop where
  len : T.length ≤ k
  ch : ∀ i, (ch T i).length ≤ k
  atl : ∀ i, (atl T i).length ≤ k
  nsl : ∀ i, (nsl T i).length ≤ k
theorem Sz.sm {k : Nat} (H : Sz k T) (hk : k ≤ 100) : Sm T := ⟨by have := H.len; omega, fun i => by have := H.ch i; omega, fun i => by have := H.atl i; omega, fun i => by have := H.nsl i; omega⟩
theorem Sz.up {k k' : Nat} (H : Sz k T) (hk : k ≤ k') : Sz k' T := ⟨by have := H.len; omega, fun i => by have := H.ch i; omega, fun i => by have := H.atl i; omega, fun i => by have := H.nsl i; omega⟩
theorem Sz.snoc {k : Nat} {r : Row} (H : Sz k T) (h1 : r.ch = []) (h2 : r.at_ = []) (h3 : r.ns = []) : Sz (k + 1) (T ++ [r]) := by
  refine ⟨by have := H.len; simp; omega, fun i => ?_, fun i => ?_, fun i => ?_⟩
  · have := H.ch i; unfold Mine.ch at this ⊢; rw [rw_snoc]; split
    · rw [h1]; simp
    · omega
  · have := H.atl i; unfold Mine.atl at this ⊢; rw [rw_snoc]; split
    · rw [h2]; simp
    · omega
  · have := H.nsl i; unfold Mine.nsl at this ⊢; rw [rw_snoc]; split
    · rw [h3]; simp
    · omega
theorem Sz.modify {k p : Nat} {f : Row → Row} (H : Sz k T) (h1 : ∀ r, (f r).ch.length ≤ r.ch.length + 1) (h2 : ∀ r, (f r).at_.length ≤ r.at_.length + 1) (h3 : ∀ r, (f r).ns.length ≤ r.ns.length + 1) : Sz (k + 1) (T.modify p f) := by
  refine ⟨by have := H.len; rw [List.length_modify]; omega, fun i => ?_, fun i => ?_, fun i => ?_⟩
  · have := H.ch i; unfold Mine.ch at this ⊢; rw [rw_modify]; split
    · have := h1 (rw T i); omega
    · omega
  · have := H.atl i; unfold Mine.atl at this ⊢; rw [rw_modify]; split
    · have := h2 (rw T i); omega
    · omega
  · have := H.nsl i; unfold Mine.nsl at this ⊢; rw [rw_modify]; split
    · have := h3 (rw T i); omega
    · omega
end
theorem On.up {w : World} {A : Around} {g h₀ h : Heap} {as : List Addr} {dp un : Nat} {L : Addr} {m : Str → Option Value} {news : List (Addr × Obj)} (H : On w A g h₀ as dp un) (F : Fr g L h m) (N : News g L h news) (ho : ∀ a ∈ as, ∀ o, h₀.get? a = some o → (a, o) ∈ news) :
    ∀ b o, h₀.get? b = some o → h.get? b = some o := by
  intro b o e
  rcases H.full _ _ e with h1 | h1
  · exact F.keep _ _ h1
  · exact (N _ (ho b h1 o e)).1
theorem On.inG {w : World} {A : Around} {g h₀ : Heap} {as : List Addr} {dp un : Nat} (H : On w A g h₀ as dp un) {b : Addr} {o : Obj} (e : h₀.get? b = some o) (hb : b ∉ as) : g.get? b = some o := (H.full _ _ e).resolve_right hb
theorem addrs_snoc {t dt rl : Addr} {qs : List Rep} {q : Rep} {b : Addr} (h : b ∈ addrs t dt rl (qs ++ [q])) : b ∈ addrs t dt rl qs ∨ b ∈ q.as := by
  simp only [addrs, List.flatMap_append, List.flatMap_cons, List.flatMap_nil, List.append_nil, List.mem_cons, List.mem_append] at h ⊢
  rcases h with h | h | h | h | h
  · exact .inl (.inl h)
  · exact .inl (.inr (.inl h))
  · exact .inl (.inr (.inr (.inl h)))
  · exact .inl (.inr (.inr (.inr h)))
  · exact .inr h
theorem new_row_U {w : World} {A : Around} {s : Shared} {g : Heap} {L : Addr} {m : Str → Option Value} {news : List (Addr × Obj)} {upd : Obj → List (Addr × Obj)} {dp un : Nat} {Q E : Value → Shared → Prop} {t dt rl : Addr} {vs : List Value} {n nt : Nat} {tkr : Tok} {k nm u lc vl : Str} {t1 t2 t3 t4 t5 : Tok} {pv : Value} {par : Option Nat}
   (C : Callee w A g L dp un) (F : Fr g L s.heap m) (N : News g L s.heap news) (U : UpdF rl (listOf (List.toArray vs) n) news upd) (ti : g.get? t = some (instObj 427 dt)) (td : g.get? dt = some (dictOf [⟨PyData.keyHash w.params (Str.ofString "rows"), .str (Str.ofString "rows") tkr, .ref rl⟩] nt))
   (hz : vs.length ≤ 50) (hp : ParV pv par) (hd : 10 ≤ dp) (hu : 200 ≤ un)
   (kk : ∀ tk q n' h' tk', Fr g L h' m → News g L h' (upd (listOf (List.toArray (vs ++ [.ref q.x])) n')) → RowAt w h' q ⟨k, nm, u, lc, vl, par, [], [], []⟩ → q.as.Nodup → (∀ a ∈ q.as, s.heap.get? a = none) → Q (.int (vs.length : Int) tk) { s with heap := h', toks := tk' }) :
   wpAny (model prg w) A (call (.ref 263) [.ref t, .str k t1, .str nm t2, .str u t3, .str lc t4, .str vl t5, pv]) Q E s := by
  obtain ⟨pre, post, rfl, hg, x1, x2⟩ := U.split
  have hm : (rl, listOf (List.toArray vs) n) ∈ pre ++ (rl, listOf (List.toArray vs) n) :: post := List.mem_append_right _ (.head _)
  have nin : ∀ {a o}, g.get? a = some o → a ∉ [rl] := fun e q => by
    rw [List.mem_singleton.mp q] at e
    have := (N _ hm).2.2
    dsimp only at this
    rw [this] at e; cases e
  refine useG (as := [rl]) (fun g' O => new_row_C O (O.inG (F.keep _ _ ti) (nin ti)) (O.inG (F.keep _ _ td) (nin td)) (N _ hm).1 hz hp) C F N (fun a ha => ⟨listOf (List.toArray vs) n, by rw [List.mem_singleton.mp ha]; exact hm⟩) hd hu fun v h' tk' F' up _ hP => ?_
  obtain ⟨tk, q, n', rfl, e, hrow, hnd, hfr⟩ := hP
  refine kk tk q n' h' tk' F' (fun p hp => ?_) hrow hnd hfr
  rw [hg] at hp
  rcases List.mem_append.mp hp with hp | hp
  · have hp' : p ∈ pre ++ (rl, listOf (List.toArray vs) n) :: post := List.mem_append_left _ hp
    exact ⟨up p hp' (fun q => x1 p hp (List.mem_singleton.mp q)), (N p hp').2⟩
  · rcases List.mem_cons.mp hp with rfl | hp
    · exact ⟨e, (N _ hm).2⟩
    · have hp' : p ∈ pre ++ (rl, listOf (List.toArray vs) n) :: post := List.mem_append_right _ (.tail _ hp)
      exact ⟨up p hp' (fun q => x2 p hp (List.mem_singleton.mp q)), (N p hp').2⟩
theorem notin_tupK {prog : Program} {w : World} {A : Around} {E : Value → Shared → Prop} {s : Shared} {K : Frag} {g : Heap} {L t : Addr} {m : Str → Option Value} {items : Array Value} {n : Nat} {d : Option Addr} {sl : Array (Option Value)} {ys : List Str} {x : Str} {u : Tok} {b : Bool} {Q : Value → Shared → Prop}
   (F : Fr g L s.heap m) (X : K.In g) (hl : K.lookup t = some { cls := .type "tuple", dict := d, data := .seq items n, slots := sl }) (hi : StrsAre items.toList ys) (hb : (!ys.any fun x_1 => x_1 == x) = b) (h : Q (.bool b) s) :
   wpAny (model prog w) A (compareOp .NotIn (.str x u) (.ref t)) Q E s :=
  notin_tuple_strs ⟨_, F.keep _ _ (X _ _ hl), rfl, n, rfl⟩ hi (hb ▸ h)
theorem addCh_sz {T : List Row} {k p : Nat} {r : Row} (H : Sz k T) (h1 : r.ch = []) (h2 : r.at_ = []) (h3 : r.ns = []) : Sz (k + 2) (addCh T p r) :=
  Sz.modify (f := fun x => { x with ch := x.ch ++ [T.length] }) (H.snoc h1 h2 h3) (fun r => by simp) (fun r => Nat.le_succ _) (fun r => Nat.le_succ _)
theorem addAt_sz {T : List Row} {k p : Nat} {r : Row} (H : Sz k T) (h1 : r.ch = []) (h2 : r.at_ = []) (h3 : r.ns = []) : Sz (k + 2) (addAt T p r) :=
  Sz.modify (f := fun x => { x with at_ := x.at_ ++ [T.length] }) (H.snoc h1 h2 h3) (fun r => Nat.le_succ _) (fun r => by simp) (fun r => Nat.le_succ _)
theorem addNs_sz {T : List Row} {k p : Nat} {r : Row} (H : Sz k T) (h1 : r.ch = []) (h2 : r.at_ = []) (h3 : r.ns = []) : Sz (k + 2) (addNs T p r) :=
  Sz.modify (f := fun x => { x with ns := x.ns ++ [T.length] }) (H.snoc h1 h2 h3) (fun r => Nat.le_succ _) (fun r => Nat.le_succ _) (fun r => by simp)
theorem setNV_sz {T : List Row} {k j : Nat} {a b : Str} (H : Sz k T) : Sz (k + 1) (setNV T j a b) :=
  Sz.modify (f := fun x => { x with name := a, val := b }) H (fun r => Nat.le_succ _) (fun r => Nat.le_succ _) (fun r => Nat.le_succ _)
theorem setV_sz {T : List Row} {k j : Nat} {b : Str} (H : Sz k T) : Sz (k + 1) (setV T j b) :=
  Sz.modify (f := fun x => { x with val := b }) H (fun r => Nat.le_succ _) (fun r => Nat.le_succ _) (fun r => Nat.le_succ _)
example : True := by w_top off; trivial
example : True := by
  (k_with "call ref" => (k_here; (with_reducible show wpAny _ _ (call (Value.ref 270) _) _ _ _); refine stop_out ?_))
  (k_with "call ref" => (k_here; (with_reducible show wpAny _ _ (call (Value.ref 263) _) _ _ _); refine stop_out ?_))
  (k_with "k_room" => ((try simp only [depth_under_make, depth_under_kw, depth_in1, depth_deeper, depth_caller]); omega))
  (k_with "k_all" => with_reducible assumption)
  (k_with "call builtin:list.append" => (k_here; (with_reducible show wpAny _ _ (call (Value.builtin _) [Value.ref _, _]) _ _ _); (refine' append_v (by k_asm) (by k_asm) (by k_upd) (by k_extra "om") ?_); intro _ _ _; (try k_sweep)))
  (k_with "compareOp NotIn str ref" => (k_here; (with_reducible show wpAny _ _ (compareOp CmpOp.NotIn (Value.str _ _) (Value.ref _)) _ _ _); k_dflt (refine' notin_tupK (by k_asm) (by k_asm) (by k_is) (by kde_strs) (by with_reducible assumption) ?_; k_whole)))
  (k_with "subscriptTail" => (k_here; (with_reducible show wpAny _ _ (subscriptTail (PySem.Expr.Attribute _ _ _) _ (Value.ref _) (Value.int _ _)) _ _ _); k_dflt (refine' item_of (by is_list) (by with_reducible assumption) (by k_extra "om") ?_ (by with_unfolding_all rfl))))
  trivial
theorem add_child_C {w : World} {A : Around} {s : Shared} {g : Heap} {t dt rl : Addr} {qs : List Rep} {T : List Row} {p z : Nat} {q : Rep} {k nm u lc vl : Str} {tp t1 t2 t3 t4 t5 : Tok}
   (H : On w A g s.heap [rl, q.c] 14 300) (TN : TreeN w s.heap t dt rl qs T) (hq : qs[p]? = some q) (hk : kd T p = Str.ofString "root" ∨ kd T p = Str.ofString "element") (sz : Sz z T) (hz : z ≤ 40) :
   wpAny (model prg w) A (call (.ref 284) [.ref t, .int (p : Int) tp, .str k t1, .str nm t2, .str u t3, .str lc t4, .str vl t5]) (BackG g s fun v h' => ∃ (tk : Tok) (q' : Rep), v = .int (T.length : Int) tk ∧ TreeN w h' t dt rl (qs ++ [q']) (addCh T p ⟨k, nm, u, lc, vl, some p, [], [], []⟩) ∧ ∀ a ∈ q'.as, s.heap.get? a = none) NoErr s := by
  refine hidP fun P9 k9 => ?_
  obtain ⟨nl, hl⟩ := TN.e.list
  obtain ⟨ri, ⟨v0, v1, v2, v3, v4, v5, v6, v7, v8, u0, u1, u2, u3, u4, pv, nn, hp, rd⟩, ⟨cs, nc, rc, ric⟩, ra, rn⟩ := TN.e.row p q hq
  obtain ⟨tk9, n9, td⟩ := TN.e.dict
  have off := TN.off p q hq
  have nd := TN.nd p q hq
  have c1 := off q.c (.tail _ (.tail _ (.head _)))
  have c2 := off q.x (.head _)
  have c3 := off q.dx (.tail _ (.head _))
  simp only [Rep.as, List.nodup_cons, List.mem_cons, List.not_mem_nil, not_or, List.nodup_nil, or_false, not_false_eq_true, and_true] at nd
  obtain ⟨⟨e1, e2, e3, e4⟩, ⟨e5, e6, e7⟩, ⟨e8, e9⟩, e10⟩ := nd
  refine k9 ?_; clear k9 P9
  have g1 := H.inG TN.e.inst (by simp only [List.mem_cons, List.not_mem_nil, or_false, not_or]; exact ⟨TN.h3.2.1, fun h => c1.1 h.symm⟩)
  have g2 := H.inG td (by simp only [List.mem_cons, List.not_mem_nil, or_false, not_or]; exact ⟨TN.h3.2.2, fun h => c1.2.1 h.symm⟩)
  have g3 := H.inG ri (by simp only [List.mem_cons, List.not_mem_nil, or_false, not_or]; exact ⟨c2.2.2, e2⟩)
  have g4 := H.inG rd (by simp only [List.mem_cons, List.not_mem_nil, or_false, not_or]; exact ⟨c3.2.2, e5⟩)
  have hpl : p < T.length := by have := TN.e.len; have := (List.getElem?_eq_some_iff.mp hq).1; omega
  refine' enterG (binds := [(Str.ofString "self", .ref t), (Str.ofString "parent", .int (p : Int) tp), (Str.ofString "kind", .str k t1), (Str.ofString "name", .str nm t2), (Str.ofString "uri", .str u t3), (Str.ofString "local", .str lc t4), (Str.ofString "value", .str vl t5)]) [(rl, listOf (List.toArray (qs.map fun q => Value.ref q.x)) nl), (q.c, listOf (List.toArray cs) nc)] H (by k_extra "om") (by k_extra "om") ?hown ?ho ?hcd ?hb ?hl ?_ ?c1 ?c2 ?c3 ?c4
  case hown =>
    intro p hp
    refine hidP fun P9 k9 => ?_
    rcases List.mem_cons.mp hp with rfl | hp <;> (refine k9 ?_; clear k9 P9)
    · exact ⟨hl, .head _⟩
    · rw [List.mem_singleton.mp hp]; exact ⟨rc, .tail _ (.head _)⟩
  case ho => k_is
  case hcd => k_is
  case hb => exact BindsTo.of_eq rfl
  case hl => exact locs rfl
  case c1 => decide
  case c2 => exact rfl
  case c3 => exact rfl
  case c4 => exact rfl
  intro h₁ gn9 dr9 os9 A9 L9 tk9 pr9 loose9 mean9 mg9 mb9 F' N' lo' X' T' C' hroom hun K9 hK9
  (try dsimp only)
  have ho : ∀ a ∈ [rl, q.c], ∀ o, s.heap.get? a = some o → (a, o) ∈ [(rl, listOf (List.toArray (qs.map fun q => Value.ref q.x)) nl), (q.c, listOf (List.toArray cs) nc)] := by
    intro a ha o e
    refine hidP fun P9 k9 => ?_
    rcases List.mem_cons.mp ha with rfl | ha <;> (refine k9 ?_; clear k9 P9)
    · rw [hl] at e; cases e; exact .head _
    · rw [List.mem_singleton.mp ha, rc] at e; cases e; rw [List.mem_singleton.mp ha]; exact .tail _ (.head _)
  have up1 := H.up F' N' ho
  have ne1 : @Ne Nat rl q.c := fun h => c1.2.2 h.symm
  have hkb : (![Str.ofString "root", Str.ofString "element"].any fun x_1 => x_1 == (rw T p).kind) = false := by
    have hk' : (rw T p).kind = Str.ofString "root" ∨ (rw T p).kind = Str.ofString "element" := hk
    rcases hk' with e | e <;> rw [e] <;> decide
  clear hk
  k_steps
  rename Fr _ _ _ _ => F0
  rename News _ _ _ _ => N0
  refine Stop.in (use (row_C (C'.at F0 (by k_extra "om") (by k_extra "om")) (TN.e.keep (H.up F0 N0 ho)) hq) F0 N0 ?_)
  intro v h2 tk2 F2 N2 hk2 ev
  subst ev
  clear F0 N0 hk2
  k_steps
  rename Fr _ _ _ _ => F3
  rename News _ _ _ _ => N3
  have up3 := H.up F3 N3 ho
  have hvl : (qs.map fun q => Value.ref q.x).length ≤ 50 := by simp; have := TN.e.len; have := sz.len; omega
  refine Stop.in (new_row_U (vs := qs.map fun q => Value.ref q.x) (n := nl) (par := some p) C' F3 N3 (by k_updF) g1 g2 hvl ⟨_, rfl⟩ (by k_extra "om") (by k_extra "om") ?_)
  intro tk5 q' n' h4 tk4 F4 N4 hrow hnd hfr
  have e5 : ((qs.map fun q => Value.ref q.x).length : Int) = (T.length : Int) := by simp [TN.e.len]
  rw [e5]
  have hfr2 : ∀ a ∈ q'.as, s.heap.get? a = none := fun a ha => by
    cases e : s.heap.get? a with
    | none => rfl
    | some o => have h1 := up3 _ _ e; have h2 := hfr a ha; dsimp only at h2; rw [h2] at h1; cases h1
  have NL := ledOf_news F4 F3 hfr
  have hled : ∀ h2, Held (ledOf h4 q'.as) h2 → ∀ b ∈ q'.as, ∀ o, h4.get? b = some o → h2.get? b = some o := fun h2 k b hb o e => k (b, o) (mem_ledOf.mpr ⟨hb, e⟩)
  have hls : ∀ p ∈ ledOf h4 q'.as, @Ne Nat p.1 q.c := fun p hp e => by
    have h1 := hfr2 _ (mem_ledOf.mp hp).1
    have e' : p.1 = q.c := e
    rw [e', rc] at h1; cases h1
  generalize ledOf h4 q'.as = led at *
  have N5 : News g L9 h4 ((rl, listOf (List.toArray ((qs.map fun q => Value.ref q.x) ++ [Value.ref q'.x])) n') :: (q.c, listOf (List.toArray cs) nc) :: led) := fun p hp => by
    refine hidP fun P9 k9 => ?_
    rcases List.mem_cons.mp hp with rfl | hp <;> (refine k9 ?_; clear k9 P9)
    · exact N4 _ (.head _)
    · refine hidP fun P9 k9 => ?_
      rcases List.mem_cons.mp hp with rfl | hp <;> (refine k9 ?_; clear k9 P9)
      · exact N4 _ (.tail _ (.head _))
      · exact NL p hp
  have hx : ((qs.map fun q => Value.ref q.x) ++ [Value.ref q'.x]).toArray[p]? = some (.ref q.x) := by
    rw [List.getElem?_toArray, List.getElem?_append_left (by simp; exact (List.getElem?_eq_some_iff.mp hq).1), List.getElem?_map, hq]; rfl
  have hpz : p ≤ 20000 := by have := sz.len; omega
  have hcl : cs.length ≤ 20000 := by have h1 := sz.ch p; rw [ric.length, nat_len]; unfold ch at h1; omega
  have hrl4 := (N4 _ (.head _)).1
  have hc4 := (N4 _ (.tail _ (.head _))).1
  have TN4 : TreeN w h4 t dt rl (qs ++ [q']) (T ++ [⟨k, nm, u, lc, vl, some p, [], [], []⟩]) := by
    refine TN.snoc (fun b hb hne o e => ?_) ⟨n', hrl4⟩ hrow hnd hfr2 ((sz.snoc rfl rfl rfl).sm (by k_extra "om"))
    by_cases hc : b = q.c
    · subst hc; rw [rc] at e; cases e; exact hc4
    · exact F4.keep _ _ (H.inG e (by simp only [List.mem_cons, List.not_mem_nil, or_false, not_or]; exact ⟨hne, hc⟩))
  have HK4 := F4.keep
  clear N4 N3 F3 NL
  k_steps
  rename Fr _ _ _ _ => F6
  rename News _ _ _ _ => N6
  refine endK hK9 F6 ⟨_, q', rfl, ?_, hfr2⟩
  have hpl2 : p < qs.length := (List.getElem?_eq_some_iff.mp hq).1
  refine TN4.modify (as := [q.c]) (by rw [List.getElem?_append_left hpl2]; exact hq) (fun a ha => by rw [List.mem_singleton.mp ha]; exact .tail _ (.tail _ (.head _))) (fun b hb hn o e => ?_) ?_ ((addCh_sz sz rfl rfl rfl).sm (by k_extra "om"))
  · refine hidP fun P9 k9 => ?_
    rcases addrs_snoc hb with hb | hb <;> (refine k9 ?_; clear k9 P9)
    · by_cases hr : b = rl
      · subst hr; rw [hrl4] at e; cases e; exact (N6 _ (.head _)).1
      · refine hidP fun P9 k9 => ?_
        obtain ⟨o', e'⟩ := TN.e.live b hb
        refine k9 ?_; clear k9 P9
        have hg := H.inG e' (by simp only [List.mem_cons, List.not_mem_nil, or_false, not_or]; exact ⟨hr, fun h => hn (List.mem_singleton.mpr h)⟩)
        have h1 := HK4 _ _ hg
        rw [e] at h1; cases h1
        exact F6.keep _ _ hg
    · exact hled _ (fun p hp => (N6 p (.tail _ (.tail _ hp))).1) b hb o e
  · have er : rw (T ++ [⟨k, nm, u, lc, vl, some p, [], [], []⟩]) p = rw T p := by rw [rw_snoc, if_neg (by k_extra "om")]
    rw [er]
    refine ⟨F6.keep _ _ g3, ⟨v0, v1, v2, v3, v4, v5, v6, v7, v8, u0, u1, u2, u3, u4, pv, nn, hp, F6.keep _ _ g4⟩, ⟨_, _, (N6 _ (.tail _ (.head _))).1, ?_⟩, ra.move fun o e => F6.keep _ _ (H.inG e ?_), rn.move fun o e => F6.keep _ _ (H.inG e ?_)⟩
    · show IntsAre _ (nat ((rw T p).ch ++ [T.length]))
      rw [nat_append]
      exact ric.append (.cons _ _ .nil)
    · have := (off q.a (.tail _ (.tail _ (.tail _ (.head _))))).2.2
      simp only [List.mem_cons, List.not_mem_nil, or_false, not_or]; exact ⟨this, fun h => e8 h.symm⟩
    · have := (off q.n (.tail _ (.tail _ (.tail _ (.tail _ (.head _)))))).2.2
      simp only [List.mem_cons, List.not_mem_nil, or_false, not_or]; exact ⟨this, fun h => e9 h.symm⟩
example : True := by w_top off; trivial
example : True := by
  (k_with "call ref" => (k_here; (with_reducible show wpAny _ _ (call (Value.ref 284) _) _ _ _); refine stop_out ?_))
  (k_with "call ref" => (k_here; (with_reducible show wpAny _ _ (call (Value.ref 263) _) _ _ _); refine stop_out ?_))
  trivial
theorem add_child_U {w : World} {A : Around} {s : Shared} {g : Heap} {L : Addr} {m : Str → Option Value} {news : List (Addr × Obj)} {dp un : Nat} {Q E : Value → Shared → Prop} {t dt rl : Addr} {qs : List Rep} {T : List Row} {p z : Nat} {q : Rep} {k nm u lc vl : Str} {tp t1 t2 t3 t4 t5 : Tok}
   (C : Callee w A g L dp un) (F : Fr g L s.heap m) (N : News g L s.heap news) (M : ∀ a ∈ [rl, q.c], ∃ o, (a, o) ∈ news) (TN : TreeN w s.heap t dt rl qs T) (hq : qs[p]? = some q) (hk : kd T p = Str.ofString "root" ∨ kd T p = Str.ofString "element") (sz : Sz z T) (hz : z ≤ 40) (hd : 14 ≤ dp) (hu : 300 ≤ un)
   (kk : ∀ tk q' h' tk', Fr g L h' m → TreeN w h' t dt rl (qs ++ [q']) (addCh T p ⟨k, nm, u, lc, vl, some p, [], [], []⟩) → (∀ a ∈ q'.as, s.heap.get? a = none) → Q (.int (T.length : Int) tk) { s with heap := h', toks := tk' }) :
   wpAny (model prg w) A (call (.ref 284) [.ref t, .int (p : Int) tp, .str k t1, .str nm t2, .str u t3, .str lc t4, .str vl t5]) Q E s := by
  refine useG (as := [rl, q.c]) (fun g' O => add_child_C O TN hq hk sz hz) C F N M hd hu fun v h' tk' F' _ _ hP => ?_
  obtain ⟨tk, q', rfl, TN', hfr⟩ := hP
  exact kk tk q' h' tk' F' TN' hfr
theorem On.none {w : World} {A : Around} {g h₀ h : Heap} {as : List Addr} {dp un : Nat} {L : Addr} {m : Str → Option Value} {news : List (Addr × Obj)} (H : On w A g h₀ as dp un) (F : Fr g L h m) (N : News g L h news) (ho : ∀ a ∈ as, ∀ o, h₀.get? a = some o → (a, o) ∈ news) {a : Addr} (e : h.get? a = none) : h₀.get? a = none := by
  cases q : h₀.get? a with
  | none => rfl
  | some o => have := H.up F N ho _ _ q; rw [e] at this; cases this
theorem add_element_C {w : World} {A : Around} {s : Shared} {g : Heap} {t dt rl : Addr} {qs : List Rep} {T : List Row} {p z : Nat} {q : Rep} {tp : Tok} {nm u lc : Str} {t1 t2 t3 : Tok}
   (H : On w A g s.heap [rl, q.c] 16 340) (TN : TreeN w s.heap t dt rl qs T) (hq : qs[p]? = some q) (hk : kd T p = Str.ofString "root" ∨ kd T p = Str.ofString "element") (sz : Sz z T) (hz : z ≤ 40) :
   wpAny (model prg w) A (call (.ref 291) [.ref t, .int (p : Int) tp, .str nm t1, .str u t2, .str lc t3]) (BackG g s fun v h' => ∃ (tk : Tok) (q' : Rep), v = .int (T.length : Int) tk ∧ TreeN w h' t dt rl (qs ++ [q']) (addCh T p ⟨Str.ofString "element", nm, u, lc, Str.ofString "", some p, [], [], []⟩) ∧ ∀ a ∈ q'.as, s.heap.get? a = none) NoErr s := by
  refine hidP fun P9 k9 => ?_
  obtain ⟨nl, hl⟩ := TN.e.list
  obtain ⟨ri, rd, ⟨cs, nc, rc, ric⟩, ra, rn⟩ := TN.e.row p q hq
  obtain ⟨tk9, n9, td⟩ := TN.e.dict
  refine k9 ?_; clear k9 P9
  have off := TN.off p q hq
  have c1 := off q.c (.tail _ (.tail _ (.head _)))
  have g1 := H.inG TN.e.inst (by simp only [List.mem_cons, List.not_mem_nil, or_false, not_or]; exact ⟨TN.h3.2.1, fun h => c1.1 h.symm⟩)
  have g2 := H.inG td (by simp only [List.mem_cons, List.not_mem_nil, or_false, not_or]; exact ⟨TN.h3.2.2, fun h => c1.2.1 h.symm⟩)
  refine' enterG (binds := [(Str.ofString "self", .ref t), (Str.ofString "parent", .int (p : Int) tp), (Str.ofString "name", .str nm t1), (Str.ofString "uri", .str u t2), (Str.ofString "local", .str lc t3)]) [(rl, listOf (List.toArray (qs.map fun q => Value.ref q.x)) nl), (q.c, listOf (List.toArray cs) nc)] H (by k_extra "om") (by k_extra "om") ?hown ?ho ?hcd ?hb ?hl ?_ ?c1 ?c2 ?c3 ?c4
  case hown =>
    intro p hp
    refine hidP fun P9 k9 => ?_
    rcases List.mem_cons.mp hp with rfl | hp <;> (refine k9 ?_; clear k9 P9)
    · exact ⟨hl, .head _⟩
    · rw [List.mem_singleton.mp hp]; exact ⟨rc, .tail _ (.head _)⟩
  case ho => k_is
  case hcd => k_is
  case hb => exact BindsTo.of_eq rfl
  case hl => exact locs rfl
  case c1 => decide
  case c2 => exact rfl
  case c3 => exact rfl
  case c4 => exact rfl
  intro h₁ gn9 dr9 os9 A9 L9 tk9 pr9 loose9 mean9 mg9 mb9 F' N' lo' X' T' C' hroom hun K9 hK9
  (try dsimp only)
  have ho : ∀ a ∈ [rl, q.c], ∀ o, s.heap.get? a = some o → (a, o) ∈ [(rl, listOf (List.toArray (qs.map fun q => Value.ref q.x)) nl), (q.c, listOf (List.toArray cs) nc)] := by
    intro a ha o e
    refine hidP fun P9 k9 => ?_
    rcases List.mem_cons.mp ha with rfl | ha <;> (refine k9 ?_; clear k9 P9)
    · rw [hl] at e; cases e; exact .head _
    · rw [List.mem_singleton.mp ha, rc] at e; cases e; rw [List.mem_singleton.mp ha]; exact .tail _ (.head _)
  clear off ra rn
  k_steps
  rename Fr _ _ _ _ => F3
  rename News _ _ _ _ => N3
  refine Stop.in (add_child_U C' F3 N3 (fun a ha => ?_) (TN.move fun b _ o e => H.up F3 N3 ho b o e) hq hk sz hz (by k_extra "om") (by k_extra "om") ?_)
  · refine hidP fun P9 k9 => ?_
    rcases List.mem_cons.mp ha with rfl | ha <;> (refine k9 ?_; clear k9 P9)
    · exact ⟨_, .head _⟩
    · rw [List.mem_singleton.mp ha]; exact ⟨_, .tail _ (.head _)⟩
  intro tk q' h4 tk4 F4 TN4 hfr
  have hfr2 : ∀ a ∈ q'.as, s.heap.get? a = none := fun a ha => H.none F3 N3 ho (hfr a ha)
  clear hfr N3 F3
  k_steps
  rename Fr _ _ _ _ => F6
  exact endK hK9 F6 ⟨_, q', rfl, TN4, hfr2⟩
theorem add_text_C {w : World} {A : Around} {s : Shared} {g : Heap} {t dt rl : Addr} {qs : List Rep} {T : List Row} {p z : Nat} {q : Rep} {tp : Tok} {vl : Str} {t1 : Tok}
   (H : On w A g s.heap [rl, q.c] 16 340) (TN : TreeN w s.heap t dt rl qs T) (hq : qs[p]? = some q) (hk : kd T p = Str.ofString "root" ∨ kd T p = Str.ofString "element") (sz : Sz z T) (hz : z ≤ 40) :
   wpAny (model prg w) A (call (.ref 298) [.ref t, .int (p : Int) tp, .str vl t1]) (BackG g s fun v h' => ∃ (tk : Tok) (q' : Rep), v = .int (T.length : Int) tk ∧ TreeN w h' t dt rl (qs ++ [q']) (addCh T p ⟨Str.ofString "text", Str.ofString "", Str.ofString "", Str.ofString "", vl, some p, [], [], []⟩) ∧ ∀ a ∈ q'.as, s.heap.get? a = none) NoErr s := by
  refine hidP fun P9 k9 => ?_
  obtain ⟨nl, hl⟩ := TN.e.list
  obtain ⟨ri, rd, ⟨cs, nc, rc, ric⟩, ra, rn⟩ := TN.e.row p q hq
  obtain ⟨tk9, n9, td⟩ := TN.e.dict
  refine k9 ?_; clear k9 P9
  have off := TN.off p q hq
  have c1 := off q.c (.tail _ (.tail _ (.head _)))
  have g1 := H.inG TN.e.inst (by simp only [List.mem_cons, List.not_mem_nil, or_false, not_or]; exact ⟨TN.h3.2.1, fun h => c1.1 h.symm⟩)
  have g2 := H.inG td (by simp only [List.mem_cons, List.not_mem_nil, or_false, not_or]; exact ⟨TN.h3.2.2, fun h => c1.2.1 h.symm⟩)
  refine' enterG (binds := [(Str.ofString "self", .ref t), (Str.ofString "parent", .int (p : Int) tp), (Str.ofString "value", .str vl t1)]) [(rl, listOf (List.toArray (qs.map fun q => Value.ref q.x)) nl), (q.c, listOf (List.toArray cs) nc)] H (by k_extra "om") (by k_extra "om") ?hown ?ho ?hcd ?hb ?hl ?_ ?c1 ?c2 ?c3 ?c4
  case hown =>
    intro p hp
    refine hidP fun P9 k9 => ?_
    rcases List.mem_cons.mp hp with rfl | hp <;> (refine k9 ?_; clear k9 P9)
    · exact ⟨hl, .head _⟩
    · rw [List.mem_singleton.mp hp]; exact ⟨rc, .tail _ (.head _)⟩
  case ho => k_is
  case hcd => k_is
  case hb => exact BindsTo.of_eq rfl
  case hl => exact locs rfl
  case c1 => decide
  case c2 => exact rfl
  case c3 => exact rfl
  case c4 => exact rfl
  intro h₁ gn9 dr9 os9 A9 L9 tk9 pr9 loose9 mean9 mg9 mb9 F' N' lo' X' T' C' hroom hun K9 hK9
  (try dsimp only)
  have ho : ∀ a ∈ [rl, q.c], ∀ o, s.heap.get? a = some o → (a, o) ∈ [(rl, listOf (List.toArray (qs.map fun q => Value.ref q.x)) nl), (q.c, listOf (List.toArray cs) nc)] := by
    intro a ha o e
    refine hidP fun P9 k9 => ?_
    rcases List.mem_cons.mp ha with rfl | ha <;> (refine k9 ?_; clear k9 P9)
    · rw [hl] at e; cases e; exact .head _
    · rw [List.mem_singleton.mp ha, rc] at e; cases e; rw [List.mem_singleton.mp ha]; exact .tail _ (.head _)
  clear off ra rn
  k_steps
  rename Fr _ _ _ _ => F3
  rename News _ _ _ _ => N3
  refine Stop.in (add_child_U C' F3 N3 (fun a ha => ?_) (TN.move fun b _ o e => H.up F3 N3 ho b o e) hq hk sz hz (by k_extra "om") (by k_extra "om") ?_)
  · refine hidP fun P9 k9 => ?_
    rcases List.mem_cons.mp ha with rfl | ha <;> (refine k9 ?_; clear k9 P9)
    · exact ⟨_, .head _⟩
    · rw [List.mem_singleton.mp ha]; exact ⟨_, .tail _ (.head _)⟩
  intro tk q' h4 tk4 F4 TN4 hfr
  have hfr2 : ∀ a ∈ q'.as, s.heap.get? a = none := fun a ha => H.none F3 N3 ho (hfr a ha)
  clear hfr N3 F3
  k_steps
  rename Fr _ _ _ _ => F6
  exact endK hK9 F6 ⟨_, q', rfl, TN4, hfr2⟩
theorem add_comment_C {w : World} {A : Around} {s : Shared} {g : Heap} {t dt rl : Addr} {qs : List Rep} {T : List Row} {p z : Nat} {q : Rep} {tp : Tok} {vl : Str} {t1 : Tok}
   (H : On w A g s.heap [rl, q.c] 16 340) (TN : TreeN w s.heap t dt rl qs T) (hq : qs[p]? = some q) (hk : kd T p = Str.ofString "root" ∨ kd T p = Str.ofString "element") (sz : Sz z T) (hz : z ≤ 40) :
   wpAny (model prg w) A (call (.ref 305) [.ref t, .int (p : Int) tp, .str vl t1]) (BackG g s fun v h' => ∃ (tk : Tok) (q' : Rep), v = .int (T.length : Int) tk ∧ TreeN w h' t dt rl (qs ++ [q']) (addCh T p ⟨Str.ofString "comment", Str.ofString "", Str.ofString "", Str.ofString "", vl, some p, [], [], []⟩) ∧ ∀ a ∈ q'.as, s.heap.get? a = none) NoErr s := by
  refine hidP fun P9 k9 => ?_
  obtain ⟨nl, hl⟩ := TN.e.list
  obtain ⟨ri, rd, ⟨cs, nc, rc, ric⟩, ra, rn⟩ := TN.e.row p q hq
  obtain ⟨tk9, n9, td⟩ := TN.e.dict
  refine k9 ?_; clear k9 P9
  have off := TN.off p q hq
  have c1 := off q.c (.tail _ (.tail _ (.head _)))
  have g1 := H.inG TN.e.inst (by simp only [List.mem_cons, List.not_mem_nil, or_false, not_or]; exact ⟨TN.h3.2.1, fun h => c1.1 h.symm⟩)
  have g2 := H.inG td (by simp only [List.mem_cons, List.not_mem_nil, or_false, not_or]; exact ⟨TN.h3.2.2, fun h => c1.2.1 h.symm⟩)
  refine' enterG (binds := [(Str.ofString "self", .ref t), (Str.ofString "parent", .int (p : Int) tp), (Str.ofString "value", .str vl t1)]) [(rl, listOf (List.toArray (qs.map fun q => Value.ref q.x)) nl), (q.c, listOf (List.toArray cs) nc)] H (by k_extra "om") (by k_extra "om") ?hown ?ho ?hcd ?hb ?hl ?_ ?c1 ?c2 ?c3 ?c4
  case hown =>
    intro p hp
    refine hidP fun P9 k9 => ?_
    rcases List.mem_cons.mp hp with rfl | hp <;> (refine k9 ?_; clear k9 P9)
    · exact ⟨hl, .head _⟩
    · rw [List.mem_singleton.mp hp]; exact ⟨rc, .tail _ (.head _)⟩
  case ho => k_is
  case hcd => k_is
  case hb => exact BindsTo.of_eq rfl
  case hl => exact locs rfl
  case c1 => decide
  case c2 => exact rfl
  case c3 => exact rfl
  case c4 => exact rfl
  intro h₁ gn9 dr9 os9 A9 L9 tk9 pr9 loose9 mean9 mg9 mb9 F' N' lo' X' T' C' hroom hun K9 hK9
  (try dsimp only)
  have ho : ∀ a ∈ [rl, q.c], ∀ o, s.heap.get? a = some o → (a, o) ∈ [(rl, listOf (List.toArray (qs.map fun q => Value.ref q.x)) nl), (q.c, listOf (List.toArray cs) nc)] := by
    intro a ha o e
    refine hidP fun P9 k9 => ?_
    rcases List.mem_cons.mp ha with rfl | ha <;> (refine k9 ?_; clear k9 P9)
    · rw [hl] at e; cases e; exact .head _
    · rw [List.mem_singleton.mp ha, rc] at e; cases e; rw [List.mem_singleton.mp ha]; exact .tail _ (.head _)
  clear off ra rn
  k_steps
  rename Fr _ _ _ _ => F3
  rename News _ _ _ _ => N3
  refine Stop.in (add_child_U C' F3 N3 (fun a ha => ?_) (TN.move fun b _ o e => H.up F3 N3 ho b o e) hq hk sz hz (by k_extra "om") (by k_extra "om") ?_)
  · refine hidP fun P9 k9 => ?_
    rcases List.mem_cons.mp ha with rfl | ha <;> (refine k9 ?_; clear k9 P9)
    · exact ⟨_, .head _⟩
    · rw [List.mem_singleton.mp ha]; exact ⟨_, .tail _ (.head _)⟩
  intro tk q' h4 tk4 F4 TN4 hfr
  have hfr2 : ∀ a ∈ q'.as, s.heap.get? a = none := fun a ha => H.none F3 N3 ho (hfr a ha)
  clear hfr N3 F3
  k_steps
  rename Fr _ _ _ _ => F6
  exact endK hK9 F6 ⟨_, q', rfl, TN4, hfr2⟩
theorem new_root_C {w : World} {A : Around} {s : Shared} {g : Heap} {t dt rl : Addr} {qs : List Rep} {T : List Row} {z : Nat}
   (H : On w A g s.heap [rl] 16 340) (TN : TreeN w s.heap t dt rl qs T) (sz : Sz z T) (hz : z ≤ 40) :
   wpAny (model prg w) A (call (.ref 277) [.ref t]) (BackG g s fun v h' => ∃ (tk : Tok) (q' : Rep), v = .int (T.length : Int) tk ∧ TreeN w h' t dt rl (qs ++ [q']) (T ++ [rootRow]) ∧ ∀ a ∈ q'.as, s.heap.get? a = none) NoErr s := by
  refine hidP fun P9 k9 => ?_
  obtain ⟨nl, hl⟩ := TN.e.list
  obtain ⟨tk9, n9, td⟩ := TN.e.dict
  refine k9 ?_; clear k9 P9
  have g1 := H.inG TN.e.inst (by simpa using TN.h3.2.1)
  have g2 := H.inG td (by simpa using TN.h3.2.2)
  refine' enterG (binds := [(Str.ofString "self", .ref t)]) [(rl, listOf (List.toArray (qs.map fun q => Value.ref q.x)) nl)] H (by k_extra "om") (by k_extra "om") ?hown ?ho ?hcd ?hb ?hl ?_ ?c1 ?c2 ?c3 ?c4
  case hown =>
    intro p hp
    rw [List.mem_singleton.mp hp]; exact ⟨hl, .head _⟩
  case ho => k_is
  case hcd => k_is
  case hb => exact BindsTo.of_eq rfl
  case hl => exact locs rfl
  case c1 => decide
  case c2 => exact rfl
  case c3 => exact rfl
  case c4 => exact rfl
  intro h₁ gn9 dr9 os9 A9 L9 tk9 pr9 loose9 mean9 mg9 mb9 F' N' lo' X' T' C' hroom hun K9 hK9
  (try dsimp only)
  have ho : ∀ a ∈ [rl], ∀ o, s.heap.get? a = some o → (a, o) ∈ [(rl, listOf (List.toArray (qs.map fun q => Value.ref q.x)) nl)] := by
    intro a ha o e
    rw [List.mem_singleton.mp ha, hl] at e; cases e; rw [List.mem_singleton.mp ha]; exact .head _
  have hvl : (qs.map fun q => Value.ref q.x).length ≤ 50 := by simp; have := TN.e.len; have := sz.len; omega
  k_steps
  rename Fr _ _ _ _ => F3
  rename News _ _ _ _ => N3
  refine Stop.in (new_row_U (vs := qs.map fun q => Value.ref q.x) (n := nl) (par := none) C' F3 N3 (by k_updF) g1 g2 hvl rfl (by k_extra "om") (by k_extra "om") ?_)
  intro tk5 q' n' h4 tk4 F4 N4 hrow hnd hfr
  have e5 : ((qs.map fun q => Value.ref q.x).length : Int) = (T.length : Int) := by simp [TN.e.len]
  rw [e5]
  have hfr2 : ∀ a ∈ q'.as, s.heap.get? a = none := fun a ha => H.none F3 N3 ho (hfr a ha)
  have TN4 : TreeN w h4 t dt rl (qs ++ [q']) (T ++ [rootRow]) := by
    refine TN.snoc (fun b hb hne o e => ?_) ⟨n', (N4 _ (.head _)).1⟩ hrow hnd hfr2 ((sz.snoc rfl rfl rfl).sm (by k_extra "om"))
    exact F4.keep _ _ (H.inG e (by simpa using hne))
  clear hfr N3 F3
  k_steps
  rename Fr _ _ _ _ => F6
  exact endK hK9 F6 ⟨_, q', rfl, TN4, hfr2⟩
example : True := by w_top off; trivial
example : True := by
  (k_with "k_room" => ((try simp only [depth_under_make, depth_under_kw, depth_in1, depth_deeper, depth_caller]); omega))
  (k_with "k_all" => with_reducible assumption)
  (k_with "call ref" => (k_here; (with_reducible show wpAny _ _ (call (Value.ref 270) _) _ _ _); k_dflt (refine' row_U (by with_reducible assumption) (by k_asm) (by k_asm) (by with_reducible assumption) (by with_reducible assumption) (by k_extra "om") (by k_extra "om") ?_); intro _ _ _ _; (try k_sweep)))
  trivial
theorem element_row_C {w : World} {A : Around} {s : Shared} {t dt rl : Addr} {qs : List Rep} {T : List Row} {i : Nat} {q : Rep} {tk : Tok}
   (H : At w A s.heap 6 90) (TT : TreeE w s.heap t dt rl qs T) (hi : qs[i]? = some q) (hk : kd T i = Str.ofString "element") :
   wpAny (model prg w) A (call (.ref 319) [.ref t, .int (i : Int) tk]) (Back s fun v h' => v = .ref q.x) NoErr s := by
  refine' enter (binds := [(Str.ofString "self", .ref t), (Str.ofString "element", .int (i : Int) tk)]) H (by k_extra "om") (by k_extra "om") (by k_is) (by k_is) (BindsTo.of_eq rfl) (locs rfl) ?_ (by decide) rfl rfl rfl
  intro h₁ gn9 dr9 os9 A9 L9 tk9 pr9 loose9 mean9 mg9 mb9 F' N' X' T' C' hroom hun K9 hK9
  (try dsimp only)
  refine hidP fun P9 k9 => ?_
  obtain ⟨ri, ⟨v0, v1, v2, v3, v4, v5, v6, v7, v8, u0, u1, u2, u3, u4, pv, nn, hp, rd⟩, rc, ra, rn⟩ := TT.row i q hi
  have hk2 : (rw T i).kind = Str.ofString "element" := hk
  rw [hk2] at rd
  have ti := TT.inst
  obtain ⟨tk9, n9, td⟩ := TT.dict
  refine k9 ?_; clear k9 P9
  k_steps
  exact endK hK9 (by k_asm) rfl
theorem keep_names {x : Str} {stored : List Str} {m m₀ : Str → Option Value} {v : Value} (h : ∀ y, (x :: stored).contains y = false → m y = m₀ y) : (fun y => if y = x then some v else m y) = fun y => if y = x then some v else if stored.contains y then m y else m₀ y := by
  funext y
  by_cases e : y = x
  · rw [if_pos e, if_pos e]
  · rw [if_neg e, if_neg e]
    by_cases c : stored.contains y = true
    · rw [if_pos c]
    · rw [if_neg c]
      exact h y (by rw [List.contains_cons, Bool.or_eq_false_iff]; exact ⟨by simpa using e, by simpa using c⟩)
noncomputable def KeepJ (x : Str) (stored : List Str) (m₀ : Str → Option Value) (news : List (Addr × Obj)) (P : Prop) (m : Str → Option Value) (nx : List (Addr × Obj)) : Prop := (∀ y, (x :: stored).contains y = false → m y = m₀ y) ∧ nx = news ∧ P
theorem for_keep {prog : Program} {w : World} {A : Around} {E : Value → Shared → Prop} {s : Shared} {env : Env} {g : Heap} {x : Str} {body : List Stmt} {Q : Flow → Shared → Prop} {m₀ : Str → Option Value} {news : List (Addr × Obj)} {l : Addr} {vs : List Value} (stored : List Str) (P : Nat → Prop)
    (hh : A.handled = none) (hl : s.heap.IsList l vs.toArray) (hlL : l ≠ env.locals) (F : Fr g env.locals s.heap m₀) (N : News g env.locals s.heap news)
    (hsrc : (∃ o, g.get? l = some o) ∨ ∃ ol, (l, ol) ∈ news) (hj : P 0)
    (turn : ∀ i v (u : Str → Option Value) h tk I oI, vs[i]? = some v → P i → (∀ q ∈ news, @Ne Nat q.1 I) → Fr g env.locals h (fun y => if y = x then some v else if stored.contains y then u y else m₀ y) → News g env.locals h ((I, oI) :: news) →
      wpAny (model prog w) A (execs body env) (TurnOver g env.locals I oI (KeepJ x stored m₀ news (P (i + 1))) { s with heap := h, toks := tk } Q) E { s with heap := h, toks := tk })
    (done : ∀ (u : Str → Option Value) h tk, P vs.length → Fr g env.locals h (fun y => if y = x then u y else if stored.contains y then u y else m₀ y) → News g env.locals h news → Q .next { s with heap := h, toks := tk }) :
    wpAny (model prog w) A (pyIter (.ref l)) (fun it s₂ => LoopAtV prog w A g env x body Q E it s₂) E s := by
  refine for_list (fun i m nx => KeepJ x stored m₀ news (P i) m nx) hh hl hlL F N ?_ ⟨fun _ _ => rfl, rfl, hj⟩ ?_ ?_
  · rcases hsrc with h | ⟨ol, h⟩
    · exact .inl h
    · exact .inr ⟨ol, by rintro i m nx ⟨_, rfl, _⟩; exact h⟩
  · rintro i v m nx h tk I oI hv ⟨hm, rfl, hp⟩ hne F1 N1
    rw [keep_names hm] at F1
    exact turn i v m h tk I oI hv hp hne F1 N1
  · rintro m nx h tk ⟨hm, rfl, hp⟩ F1 N1
    have e : m = fun y => if y = x then m y else if stored.contains y then m y else m₀ y := by
      funext y
      by_cases e : y = x
      · rw [if_pos e]
      · rw [if_neg e]
        by_cases c : stored.contains y = true
        · rw [if_pos c]
        · rw [if_neg c]; exact hm y (by rw [List.contains_cons, Bool.or_eq_false_iff]; exact ⟨by simpa using e, by simpa using c⟩)
    rw [e] at F1
    exact done m h tk hp F1 N1
example : True := by
  (k_with "call ref" => (k_here; (with_reducible show wpAny _ _ (call (Value.ref 319) _) _ _ _); refine stop_out ?_))
  (k_with "call ref" => (k_here; (with_reducible show wpAny _ _ (call (Value.ref 263) _) _ _ _); refine stop_out ?_))
  (k_with "pyIter ref" => ((with_reducible show wpAny _ _ (pyIter (Value.ref _)) (fun it s₂ => LoopAtV _ _ _ _ _ _ _ _ _ it s₂) _ _); k_here; refine stop_out ?_))
  (k_with "exec For Name Attribute cons nil" => (k_here; (with_unfolding_all refine' for_name (by assumption) (by exact rfl) (by exact rfl) ?_; k_whole)))
  (k_with "call builtin:list.append" => (k_here; (with_reducible show wpAny _ _ (call (Value.builtin _) [Value.ref _, _]) _ _ _); (refine' append_v (by k_asm) (by k_asm) (by k_upd) (by k_extra "om") ?_); intro _ _ _; (try k_sweep)))
  trivial
theorem set_attr_new_C {w : World} {A : Around} {s : Shared} {g : Heap} {t dt rl : Addr} {qs : List Rep} {T : List Row} {p z : Nat} {q : Rep} {nm lc vl : Str} {tp t1 t2 t3 t4 : Tok}
   (H : On w A g s.heap [rl, q.a] 16 340) (TN : TreeN w s.heap t dt rl qs T) (W : WF T) (hq : qs[p]? = some q) (hk : kd T p = Str.ofString "element") (sz : Sz z T) (hz : z ≤ 40) (hno : ∀ x ∈ atl T p, (lo T x == lc) = false) :
   wpAny (model prg w) A (call (.ref 326) [.ref t, .int (p : Int) tp, .str nm t1, .str (Str.ofString "") t2, .str lc t3, .str vl t4]) (BackG g s fun v h' => ∃ (q' : Rep), TreeN w h' t dt rl (qs ++ [q']) (addAt T p ⟨Str.ofString "attribute", nm, Str.ofString "", lc, vl, some p, [], [], []⟩) ∧ ∀ a ∈ q'.as, s.heap.get? a = none) NoErr s := by
  refine hidP fun P9 k9 => ?_
  obtain ⟨nl, hl⟩ := TN.e.list
  obtain ⟨ri, ⟨v0, v1, v2, v3, v4, v5, v6, v7, v8, u0, u1, u2, u3, u4, pv, nn, hp, rd⟩, rc, ⟨cs, nc, ra, ria⟩, rn⟩ := TN.e.row p q hq
  obtain ⟨tk9, n9, td⟩ := TN.e.dict
  have off := TN.off p q hq
  have nd := TN.nd p q hq
  have c1 := off q.a (.tail _ (.tail _ (.tail _ (.head _))))
  have c2 := off q.x (.head _)
  have c3 := off q.dx (.tail _ (.head _))
  simp only [Rep.as, List.nodup_cons, List.mem_cons, List.not_mem_nil, not_or, List.nodup_nil, or_false, not_false_eq_true, and_true] at nd
  obtain ⟨⟨e1, e2, e3, e4⟩, ⟨e5, e6, e7⟩, ⟨e8, e9⟩, e10⟩ := nd
  refine k9 ?_; clear k9 P9
  have inG : ∀ {b o}, s.heap.get? b = some o → b ≠ rl → b ≠ q.a → g.get? b = some o := fun e h1 h2 => H.inG e (by simp only [List.mem_cons, List.not_mem_nil, or_false, not_or]; exact ⟨h1, h2⟩)
  have g1 := inG TN.e.inst TN.h3.2.1 (fun h => c1.1 h.symm)
  have g2 := inG td TN.h3.2.2 (fun h => c1.2.1 h.symm)
  have g3 := inG ri c2.2.2 e3
  have g4 := inG rd c3.2.2 e6
  have hpl : p < T.length := by have := TN.e.len; have := (List.getElem?_eq_some_iff.mp hq).1; omega
  refine' enterG (binds := [(Str.ofString "self", .ref t), (Str.ofString "element", .int (p : Int) tp), (Str.ofString "name", .str nm t1), (Str.ofString "uri", .str (Str.ofString "") t2), (Str.ofString "local", .str lc t3), (Str.ofString "value", .str vl t4)]) [(rl, listOf (List.toArray (qs.map fun q => Value.ref q.x)) nl), (q.a, listOf (List.toArray cs) nc)] H (by k_extra "om") (by k_extra "om") ?hown ?ho ?hcd ?hb ?hl ?_ ?c1 ?c2 ?c3 ?c4
  case hown =>
    intro p hp
    refine hidP fun P9 k9 => ?_
    rcases List.mem_cons.mp hp with rfl | hp <;> (refine k9 ?_; clear k9 P9)
    · exact ⟨hl, .head _⟩
    · rw [List.mem_singleton.mp hp]; exact ⟨ra, .tail _ (.head _)⟩
  case ho => k_is
  case hcd => k_is
  case hb => exact BindsTo.of_eq rfl
  case hl => exact locs rfl
  case c1 => decide
  case c2 => exact rfl
  case c3 => exact rfl
  case c4 => exact rfl
  intro h₁ gn9 dr9 os9 A9 L9 tk9 pr9 loose9 mean9 mg9 mb9 F' N' lo' X' T' C' hroom hun K9 hK9
  (try dsimp only)
  have ho : ∀ a ∈ [rl, q.a], ∀ o, s.heap.get? a = some o → (a, o) ∈ [(rl, listOf (List.toArray (qs.map fun q => Value.ref q.x)) nl), (q.a, listOf (List.toArray cs) nc)] := by
    intro a ha o e
    refine hidP fun P9 k9 => ?_
    rcases List.mem_cons.mp ha with rfl | ha <;> (refine k9 ?_; clear k9 P9)
    · rw [hl] at e; cases e; exact .head _
    · rw [List.mem_singleton.mp ha, ra] at e; cases e; rw [List.mem_singleton.mp ha]; exact .tail _ (.head _)
  have up1 := H.up F' N' ho
  have ne1 : @Ne Nat rl q.a := fun h => c1.2.2 h.symm
  k_steps
  rename Fr _ _ _ _ => F0
  rename News _ _ _ _ => N0
  refine Stop.in (use (element_row_C (C'.at F0 (by k_extra "om") (by k_extra "om")) (TN.e.keep (H.up F0 N0 ho)) hq hk) F0 N0 ?_)
  intro v h2 tk2 F2 N2 hk2 ev
  subst ev
  clear F0 N0 hk2
  k_steps
  rename Fr _ _ _ _ => F3
  rename News _ _ _ _ => N3
  refine Stop.in (for_keep [Str.ofString "known"] (fun _ => True) rfl (vs := cs) (News.isList N3 (.tail _ (.head _))) (News.ne N3 (.tail _ (.head _))) F3 N3 (.inr ⟨listOf (List.toArray cs) nc, .tail _ (.head _)⟩) trivial ?_ ?_)
  · rintro i v u h tk I oI hv _ hne F4 N4
    have hil : i < (atl T p).length := by
      have h1 := (List.getElem?_eq_some_iff.mp hv).1
      rw [ria.length, nat_len] at h1; exact h1
    refine hidP fun P9 k9 => ?_
    obtain ⟨tx, htx⟩ := ria.get i ((atl T p)[i] : Int) (by unfold nat; show ((atl T p).map _)[i]? = _; simp [hil])
    refine k9 ?_; clear k9 P9
    rw [hv] at htx
    cases htx
    have hm1 := W.at_ok p _ (List.getElem_mem hil)
    have hn1 := hno _ (List.getElem_mem hil)
    generalize (atl T p)[i] = x at *
    have hxl : x < qs.length := by rw [TN.e.len]; exact hm1.2.1
    have hqx : qs[x]? = some qs[x] := List.getElem?_eq_getElem hxl
    have off2 := TN.off x _ hqx
    have ap2 := TN.ap x p _ _ hqx hq (by k_extra "om")
    refine hidP fun P9 k9 => ?_
    obtain ⟨yi, ⟨x0, x1, x2, x3, x4, x5, x6, x7, x8, y0, y1, y2, y3, y4, pw, mm, hpp, yd⟩, _, _, _⟩ := TN.e.row x _ hqx
    refine k9 ?_; clear k9 P9
    generalize qs[x] = qx at *
    have b1 := off2 qx.x (.head _)
    have b2 := off2 qx.dx (.tail _ (.head _))
    have b3 : qx.x ≠ q.a := fun h => ap2 qx.x (.head _) (by rw [h]; exact .tail _ (.tail _ (.tail _ (.head _))))
    have b4 : qx.dx ≠ q.a := fun h => ap2 qx.dx (.tail _ (.head _)) (by rw [h]; exact .tail _ (.tail _ (.tail _ (.head _))))
    have g5 := inG yi b1.2.2 b3
    have g6 := inG yd b2.2.2 b4
    have hu : (rw T x).uri = Str.ofString "" := W.uri x
    have hlo : ((rw T x).loc == lc) = false := hn1
    rw [hu] at g6
    have hix : (qs.map fun q => Value.ref q.x).toArray[x]? = some (.ref qx.x) := by simp [hqx]
    have hxz : x ≤ 20000 := by have := sz.len; omega
    clear F3 N3 ho up1 hno
    k_steps
    rename Fr _ _ _ _ => F6
    rename News _ _ _ _ => N6
    refine turn_over _ F6 N6 (.head _) (fun q hq => .tail _ hq) hne ⟨?_, rfl, trivial⟩
    intro z h3
    simp only [List.contains_cons, List.contains_nil, Bool.or_false, Bool.or_eq_false_iff, beq_eq_false_iff_ne, ne_eq] at h3
    simp [h3]
  · intro u9 h5 tk5 _ F5 N5
    clear F3 N3
    k_steps
    rename Fr _ _ _ _ => F3
    rename News _ _ _ _ => N3
    have up3 := H.up F3 N3 ho
    have hvl : (qs.map fun q => Value.ref q.x).length ≤ 50 := by simp; have := TN.e.len; have := sz.len; omega
    refine Stop.in (new_row_U (vs := qs.map fun q => Value.ref q.x) (n := nl) (par := some p) C' F3 N3 (by k_updF) g1 g2 hvl ⟨_, rfl⟩ (by k_extra "om") (by k_extra "om") ?_)
    intro tk5 q' n' h4 tk4 F4 N4 hrow hnd hfr
    have e5 : ((qs.map fun q => Value.ref q.x).length : Int) = (T.length : Int) := by simp [TN.e.len]
    rw [e5]
    have hfr2 : ∀ a ∈ q'.as, s.heap.get? a = none := fun a ha => H.none F3 N3 ho (hfr a ha)
    have NL := ledOf_news F4 F3 hfr
    have hled : ∀ h2, Held (ledOf h4 q'.as) h2 → ∀ b ∈ q'.as, ∀ o, h4.get? b = some o → h2.get? b = some o := fun h2 k b hb o e => k (b, o) (mem_ledOf.mpr ⟨hb, e⟩)
    have hls : ∀ p ∈ ledOf h4 q'.as, @Ne Nat p.1 q.a := fun p hp e => by
      have h1 := hfr2 _ (mem_ledOf.mp hp).1
      have e' : p.1 = q.a := e
      rw [e', ra] at h1; cases h1
    generalize ledOf h4 q'.as = led at *
    have N5 : News g L9 h4 ((rl, listOf (List.toArray ((qs.map fun q => Value.ref q.x) ++ [Value.ref q'.x])) n') :: (q.a, listOf (List.toArray cs) nc) :: led) := fun p hp => by
      refine hidP fun P9 k9 => ?_
      rcases List.mem_cons.mp hp with rfl | hp <;> (refine k9 ?_; clear k9 P9)
      · exact N4 _ (.head _)
      · refine hidP fun P9 k9 => ?_
        rcases List.mem_cons.mp hp with rfl | hp <;> (refine k9 ?_; clear k9 P9)
        · exact N4 _ (.tail _ (.head _))
        · exact NL p hp
    have hcl : cs.length ≤ 20000 := by have h1 := sz.atl p; rw [ria.length, nat_len]; unfold atl at h1; omega
    have hrl4 := (N4 _ (.head _)).1
    have hc4 := (N4 _ (.tail _ (.head _))).1
    have TN4 : TreeN w h4 t dt rl (qs ++ [q']) (T ++ [⟨Str.ofString "attribute", nm, Str.ofString "", lc, vl, some p, [], [], []⟩]) := by
      refine TN.snoc (fun b hb hne o e => ?_) ⟨n', hrl4⟩ hrow hnd hfr2 ((sz.snoc rfl rfl rfl).sm (by k_extra "om"))
      by_cases hc : b = q.a
      · subst hc; rw [ra] at e; cases e; exact hc4
      · exact F4.keep _ _ (inG e hne hc)
    have HK4 := F4.keep
    clear N4 N3 F3 NL
    k_steps
    rename Fr _ _ _ _ => F6
    rename News _ _ _ _ => N6
    refine endK hK9 F6 ⟨q', ?_, hfr2⟩
    have hpl2 : p < qs.length := (List.getElem?_eq_some_iff.mp hq).1
    refine TN4.modify (as := [q.a]) (by rw [List.getElem?_append_left hpl2]; exact hq) (fun a ha => by rw [List.mem_singleton.mp ha]; exact .tail _ (.tail _ (.tail _ (.head _)))) (fun b hb hn o e => ?_) ?_ ((addAt_sz sz rfl rfl rfl).sm (by k_extra "om"))
    · refine hidP fun P9 k9 => ?_
      rcases addrs_snoc hb with hb | hb <;> (refine k9 ?_; clear k9 P9)
      · by_cases hr : b = rl
        · subst hr; rw [hrl4] at e; cases e; exact (N6 _ (.head _)).1
        · refine hidP fun P9 k9 => ?_
          obtain ⟨o', e'⟩ := TN.e.live b hb
          refine k9 ?_; clear k9 P9
          have hg := inG e' hr (fun h => hn (List.mem_singleton.mpr h))
          have h1 := HK4 _ _ hg
          rw [e] at h1; cases h1
          exact F6.keep _ _ hg
      · exact hled _ (fun p hp => (N6 p (.tail _ (.tail _ hp))).1) b hb o e
    · have er : rw (T ++ [⟨Str.ofString "attribute", nm, Str.ofString "", lc, vl, some p, [], [], []⟩]) p = rw T p := by rw [rw_snoc, if_neg (by k_extra "om")]
      rw [er]
      refine ⟨F6.keep _ _ g3, ⟨v0, v1, v2, v3, v4, v5, v6, v7, v8, u0, u1, u2, u3, u4, pv, nn, hp, F6.keep _ _ g4⟩, rc.move fun o e => F6.keep _ _ (inG e ?_ ?_), ⟨_, _, (N6 _ (.tail _ (.head _))).1, ?_⟩, rn.move fun o e => F6.keep _ _ (inG e ?_ ?_)⟩
      · exact (off q.c (.tail _ (.tail _ (.head _)))).2.2
      · exact e8
      · show IntsAre _ (nat ((rw T p).at_ ++ [T.length]))
        rw [nat_append]
        exact ria.append (.cons _ _ .nil)
      · exact (off q.n (.tail _ (.tail _ (.tail _ (.tail _ (.head _)))))).2.2
      · exact fun h => e10 h.symm
example : True := by w_top off; trivial
example : True := by
  (k_with "k_room" => ((try simp only [depth_under_make, depth_under_kw, depth_in1, depth_deeper, depth_caller]); omega))
  (k_with "k_all" => with_reducible assumption)
  (k_with "call ref" => (k_here; (with_reducible show wpAny _ _ (call (Value.ref 270) _) _ _ _); k_dflt (refine' row_U (by with_reducible assumption) (by k_asm) (by k_asm) (by with_reducible assumption) (by with_reducible assumption) (by k_extra "om") (by k_extra "om") ?_); intro _ _ _ _; (try k_sweep)))
  (k_with "call ref" => (k_here; (with_reducible show wpAny _ _ (call (Value.ref 319) _) _ _ _); refine stop_out ?_))
  (k_with "call ref" => (k_here; (with_reducible show wpAny _ _ (call (Value.ref 263) _) _ _ _); refine stop_out ?_))
  (k_with "pyIter ref" => ((with_reducible show wpAny _ _ (pyIter (Value.ref _)) (fun it s₂ => LoopAtV _ _ _ _ _ _ _ _ _ it s₂) _ _); k_here; refine stop_out ?_))
  (k_with "exec For Name Attribute cons nil" => (k_here; (with_unfolding_all refine' for_name (by assumption) (by exact rfl) (by exact rfl) ?_; k_whole)))
  (k_with "call builtin:list.append" => (k_here; (with_reducible show wpAny _ _ (call (Value.builtin _) [Value.ref _, _]) _ _ _); (refine' append_v (by k_asm) (by k_asm) (by k_upd) (by k_extra "om") ?_); intro _ _ _; (try k_sweep)))
  trivial
theorem inst_mix {g h : Heap} {L : Addr} {m : Str → Option Value} {news : List (Addr × Obj)} {x C dx : Addr} {od : Obj} (F : Fr g L h m) (N : News g L h news) (h1 : g.get? x = some (instObj C dx)) (h2 : (dx, od) ∈ news) : InstAt h x (instObj C dx) C (some od) := ⟨F.keep _ _ h1, rfl, rfl, (N _ h2).1⟩
example : True := by
  (k_with "k_inst" => (refine' inst_mix (by k_asm) (by k_asm) (by assumption) (by k_mem)))
  (k_with "k_inst" => exact inst_base (by k_asm) (by assumption) (by assumption))
  trivial
theorem put9_name {h h0 h1 h2 h3 h4 h5 h6 h7 h8 : Int} {t0 t1 t2 t3 t4 t5 t6 t7 t8 : Tok} {key v a0 a1 a2 a3 a4 a5 a6 a7 a8 : Value} {n : Nat} :
   (putL (Str.ofString "name") h key v [⟨h0, .str (Str.ofString "kind") t0, a0⟩, ⟨h1, .str (Str.ofString "name") t1, a1⟩, ⟨h2, .str (Str.ofString "uri") t2, a2⟩, ⟨h3, .str (Str.ofString "local") t3, a3⟩, ⟨h4, .str (Str.ofString "value") t4, a4⟩, ⟨h5, .str (Str.ofString "parent") t5, a5⟩, ⟨h6, .str (Str.ofString "children") t6, a6⟩, ⟨h7, .str (Str.ofString "attributes") t7, a7⟩, ⟨h8, .str (Str.ofString "namespaces") t8, a8⟩], putN (Str.ofString "name") [⟨h0, .str (Str.ofString "kind") t0, a0⟩, ⟨h1, .str (Str.ofString "name") t1, a1⟩, ⟨h2, .str (Str.ofString "uri") t2, a2⟩, ⟨h3, .str (Str.ofString "local") t3, a3⟩, ⟨h4, .str (Str.ofString "value") t4, a4⟩, ⟨h5, .str (Str.ofString "parent") t5, a5⟩, ⟨h6, .str (Str.ofString "children") t6, a6⟩, ⟨h7, .str (Str.ofString "attributes") t7, a7⟩, ⟨h8, .str (Str.ofString "namespaces") t8, a8⟩] n) = ([⟨h0, .str (Str.ofString "kind") t0, a0⟩, ⟨h1, .str (Str.ofString "name") t1, v⟩, ⟨h2, .str (Str.ofString "uri") t2, a2⟩, ⟨h3, .str (Str.ofString "local") t3, a3⟩, ⟨h4, .str (Str.ofString "value") t4, a4⟩, ⟨h5, .str (Str.ofString "parent") t5, a5⟩, ⟨h6, .str (Str.ofString "children") t6, a6⟩, ⟨h7, .str (Str.ofString "attributes") t7, a7⟩, ⟨h8, .str (Str.ofString "namespaces") t8, a8⟩], n) := by with_unfolding_all rfl
theorem put9_value {h h0 h1 h2 h3 h4 h5 h6 h7 h8 : Int} {t0 t1 t2 t3 t4 t5 t6 t7 t8 : Tok} {key v a0 a1 a2 a3 a4 a5 a6 a7 a8 : Value} {n : Nat} :
   (putL (Str.ofString "value") h key v [⟨h0, .str (Str.ofString "kind") t0, a0⟩, ⟨h1, .str (Str.ofString "name") t1, a1⟩, ⟨h2, .str (Str.ofString "uri") t2, a2⟩, ⟨h3, .str (Str.ofString "local") t3, a3⟩, ⟨h4, .str (Str.ofString "value") t4, a4⟩, ⟨h5, .str (Str.ofString "parent") t5, a5⟩, ⟨h6, .str (Str.ofString "children") t6, a6⟩, ⟨h7, .str (Str.ofString "attributes") t7, a7⟩, ⟨h8, .str (Str.ofString "namespaces") t8, a8⟩], putN (Str.ofString "value") [⟨h0, .str (Str.ofString "kind") t0, a0⟩, ⟨h1, .str (Str.ofString "name") t1, a1⟩, ⟨h2, .str (Str.ofString "uri") t2, a2⟩, ⟨h3, .str (Str.ofString "local") t3, a3⟩, ⟨h4, .str (Str.ofString "value") t4, a4⟩, ⟨h5, .str (Str.ofString "parent") t5, a5⟩, ⟨h6, .str (Str.ofString "children") t6, a6⟩, ⟨h7, .str (Str.ofString "attributes") t7, a7⟩, ⟨h8, .str (Str.ofString "namespaces") t8, a8⟩] n) = ([⟨h0, .str (Str.ofString "kind") t0, a0⟩, ⟨h1, .str (Str.ofString "name") t1, a1⟩, ⟨h2, .str (Str.ofString "uri") t2, a2⟩, ⟨h3, .str (Str.ofString "local") t3, a3⟩, ⟨h4, .str (Str.ofString "value") t4, v⟩, ⟨h5, .str (Str.ofString "parent") t5, a5⟩, ⟨h6, .str (Str.ofString "children") t6, a6⟩, ⟨h7, .str (Str.ofString "attributes") t7, a7⟩, ⟨h8, .str (Str.ofString "namespaces") t8, a8⟩], n) := by with_unfolding_all rfl
example : True := by
  (k_with "k_put" => first | exact put9_name | exact put9_value)
  trivial
theorem find_first : ∀ {l : List Nat} {f : Nat → Bool} {j : Nat}, l.find? f = some j → ∀ {i x : Nat}, l[i]? = some x → f x = true → (∀ k y, k < i → l[k]? = some y → f y = false) → x = j
  | [], _, _, h, _, _, _, _, _ => nomatch h
  | a :: r, f, j, h, i, x, hx, hf, hp => by
    rw [List.find?_cons] at h
    cases i with
    | zero =>
      cases hx
      rw [hf] at h
      exact Option.some.inj h
    | succ i =>
      rw [hp 0 a (Nat.succ_pos _) rfl] at h
      exact find_first h (by simpa using hx) hf fun k y hk hy => hp (k + 1) y (Nat.succ_lt_succ hk) (by simpa using hy)
theorem set_attr_old_C {w : World} {A : Around} {s : Shared} {g : Heap} {t dt rl : Addr} {qs : List Rep} {T : List Row} {p z j : Nat} {q qj : Rep} {nm lc vl : Str} {tp t1 t2 t3 t4 : Tok}
   (H : On w A g s.heap [qj.dx] 16 340) (TN : TreeN w s.heap t dt rl qs T) (W : WF T) (hq : qs[p]? = some q) (hj : qs[j]? = some qj) (hk : kd T p = Str.ofString "element") (sz : Sz z T) (hz : z ≤ 40) (hfd : (atl T p).find? (fun x => lo T x == lc) = some j) :
   wpAny (model prg w) A (call (.ref 326) [.ref t, .int (p : Int) tp, .str nm t1, .str (Str.ofString "") t2, .str lc t3, .str vl t4]) (BackG g s fun v h' => TreeN w h' t dt rl qs (setNV T j nm vl)) NoErr s := by
  refine hidP fun P9 k9 => ?_
  obtain ⟨nl, hl⟩ := TN.e.list
  obtain ⟨ri, ⟨v0, v1, v2, v3, v4, v5, v6, v7, v8, u0, u1, u2, u3, u4, pv, nn, hp, rd⟩, rc, ⟨cs, nc, ra, ria⟩, rn⟩ := TN.e.row p q hq
  obtain ⟨tk9, n9, td⟩ := TN.e.dict
  have hjm := W.at_ok p j (List.mem_of_find?_eq_some hfd)
  have hjl : (lo T j == lc) = true := by have := List.find?_some hfd; exact this
  have off := TN.off j qj hj
  have nd := TN.nd j qj hj
  have ap := TN.ap j p qj q hj hq (by k_extra "om")
  have c3 := off qj.dx (.tail _ (.head _))
  have cap := ap qj.dx (.tail _ (.head _))
  simp only [Rep.as, List.mem_cons, List.not_mem_nil, or_false, not_or] at cap
  obtain ⟨d1, d2, d3, d4, d5⟩ := cap
  simp only [Rep.as, List.nodup_cons, List.mem_cons, List.not_mem_nil, not_or, List.nodup_nil, or_false, not_false_eq_true, and_true] at nd
  obtain ⟨⟨e1, e2, e3, e4⟩, ⟨e5, e6, e7⟩, ⟨e8, e9⟩, e10⟩ := nd
  have inG : ∀ {b o}, s.heap.get? b = some o → b ≠ qj.dx → g.get? b = some o := fun e h1 => H.inG e (by simpa using h1)
  have g1 := inG TN.e.inst (fun h => c3.1 h.symm)
  have g2 := inG td (fun h => c3.2.1 h.symm)
  have g3 := inG ri (fun h => d1 h.symm)
  have g4 := inG rd (fun h => d2 h.symm)
  have grl := inG hl (fun h => c3.2.2 h.symm)
  have gra := inG ra (fun h => d4 h.symm)
  have hpl : p < T.length := by have := TN.e.len; have := (List.getElem?_eq_some_iff.mp hq).1; omega
  obtain ⟨yi, ⟨x0, x1, x2, x3, x4, x5, x6, x7, x8, y0, y1, y2, y3, y4, pw, mm, hpp, yd⟩, yc, ya, yn⟩ := TN.e.row j qj hj
  have hu : (rw T j).uri = Str.ofString "" := W.uri j
  rw [hu] at yd
  have g5 := inG yi e1
  obtain ⟨od, hod⟩ : ∃ od, s.heap.get? qj.dx = some od := ⟨_, yd⟩
  refine k9 ?_; clear k9 P9
  refine' enterG (binds := [(Str.ofString "self", .ref t), (Str.ofString "element", .int (p : Int) tp), (Str.ofString "name", .str nm t1), (Str.ofString "uri", .str (Str.ofString "") t2), (Str.ofString "local", .str lc t3), (Str.ofString "value", .str vl t4)]) [(qj.dx, od)] H (by k_extra "om") (by k_extra "om") ?hown ?ho ?hcd ?hb ?hl ?_ ?c1 ?c2 ?c3 ?c4
  case hown =>
    intro p hp
    rw [List.mem_singleton.mp hp]; exact ⟨hod, .head _⟩
  case ho => k_is
  case hcd => k_is
  case hb => exact BindsTo.of_eq rfl
  case hl => exact locs rfl
  case c1 => decide
  case c2 => exact rfl
  case c3 => exact rfl
  case c4 => exact rfl
  intro h₁ gn9 dr9 os9 A9 L9 tk9 pr9 loose9 mean9 mg9 mb9 F' N' lo' X' T' C' hroom hun K9 hK9
  (try dsimp only)
  rw [yd] at hod
  cases hod
  have upH : ∀ h m, Fr g L9 h m → (∀ o, s.heap.get? qj.dx = some o → h.get? qj.dx = some o) → ∀ b o, s.heap.get? b = some o → h.get? b = some o := fun h m F k b o e => by
    by_cases hb : b = qj.dx
    · subst hb; exact k o e
    · exact F.keep _ _ (inG e hb)
  k_steps
  rename Fr _ _ _ _ => F0
  rename News _ _ _ _ => N0
  refine Stop.in (use (element_row_C (C'.at F0 (by k_extra "om") (by k_extra "om")) (TN.e.keep (upH _ _ F0 fun o e => by rw [yd] at e; cases e; exact (N0 _ (.head _)).1)) hq hk) F0 N0 ?_)
  intro v h2 tk2 F2 N2 hk2 ev
  subst ev
  clear F0 N0 hk2
  k_steps
  rename Fr _ _ _ _ => F3
  rename News _ _ _ _ => N3
  refine Stop.in (for_keep [Str.ofString "known"] (fun i => ∀ k y, k < i → (atl T p)[k]? = some y → (lo T y == lc) = false) rfl (vs := cs) (isList_base F3 gra) (base_ne F3 gra) F3 N3 (.inl ⟨_, gra⟩) (fun k y h => absurd h (Nat.not_lt_zero _)) ?_ ?_)
  · rintro i v u h tk I oI hv hP hne F4 N4
    have hil : i < (atl T p).length := by
      have h1 := (List.getElem?_eq_some_iff.mp hv).1
      rw [ria.length, nat_len] at h1; exact h1
    refine hidP fun P9 k9 => ?_
    obtain ⟨tx, htx⟩ := ria.get i ((atl T p)[i] : Int) (by unfold nat; show ((atl T p).map _)[i]? = _; simp [hil])
    refine k9 ?_; clear k9 P9
    rw [hv] at htx
    cases htx
    have hgi : (atl T p)[i]? = some (atl T p)[i] := List.getElem?_eq_getElem hil
    have hm1 := W.at_ok p _ (List.getElem_mem hil)
    have hff := fun h => find_first hfd hgi h hP
    generalize (atl T p)[i] = x at *
    have hxl : x < qs.length := by rw [TN.e.len]; exact hm1.2.1
    have hxz : x ≤ 20000 := by have := sz.len; omega
    have hqx : qs[x]? = some qs[x] := List.getElem?_eq_getElem hxl
    have hix : (qs.map fun q => Value.ref q.x).toArray[x]? = some (.ref qs[x].x) := by simp [hqx]
    cases hxx : lo T x == lc with
    | true =>
      have exj := hff hxx
      subst exj
      rw [hj] at hqx
      have eqj : qj = qs[x] := Option.some.inj hqx
      rw [← eqj] at hix
      have hlo : ((rw T x).loc == lc) = true := hxx
      have hne' : @Ne Nat qj.dx I := hne _ (.head _)
      clear F3 N3 hqx eqj hff hP
      k_steps
      rename Fr _ _ _ _ => F6
      rename News _ _ _ _ => N6
      have hN := (N6 _ (.tail _ (.head _))).1
      dsimp only at hN
      rw [← hu] at hN
      dsimp only [TurnOver]
      refine stepR (by with_reducible assumption) ?_
      refine endK hK9 F6 ?_
      refine TN.modify (f := fun x => { x with name := nm, val := vl }) (as := [qj.dx]) hj (fun a ha => by rw [List.mem_singleton.mp ha]; exact .tail _ (.head _)) (fun b hb hn o e => F6.keep _ _ (inG e (by simpa using hn))) ?_ ((setNV_sz sz).sm (by k_extra "om"))
      exact ⟨F6.keep _ _ g5, ⟨_, _, _, _, _, _, _, _, _, _, _, _, _, _, pw, _, hpp, hN⟩, yc.move fun o e => F6.keep _ _ (inG e fun h => e5 h.symm), ya.move fun o e => F6.keep _ _ (inG e fun h => e6 h.symm), yn.move fun o e => F6.keep _ _ (inG e fun h => e7 h.symm)⟩
    | false =>
      have hxj : x ≠ j := fun e => by subst e; rw [hjl] at hxx; cases hxx
      have apx := TN.ap x j _ _ hqx hj hxj
      refine hidP fun P9 k9 => ?_
      obtain ⟨yi', ⟨_, _, _, _, _, _, _, _, _, _, _, _, _, _, pw', mm', hpp', yd'⟩, _, _, _⟩ := TN.e.row x _ hqx
      refine k9 ?_; clear k9 P9
      have hu' : (rw T x).uri = Str.ofString "" := W.uri x
      rw [hu'] at yd'
      have hlo : ((rw T x).loc == lc) = false := hxx
      have b5 : qs[x].x ≠ qj.dx := fun h => apx qs[x].x (.head _) (by rw [h]; exact .tail _ (.head _))
      have b6 : qs[x].dx ≠ qj.dx := fun h => apx qs[x].dx (.tail _ (.head _)) (by rw [h]; exact .tail _ (.head _))
      generalize qs[x] = qx at *
      have g6 := inG yi' b5
      have g7 := inG yd' b6
      clear F3 N3 hff
      k_steps
      rename Fr _ _ _ _ => F6
      rename News _ _ _ _ => N6
      refine turn_over _ F6 N6 (.head _) (fun q hq => .tail _ hq) hne ⟨?_, rfl, fun k y hk hy => ?_⟩
      · intro z h3
        simp only [List.contains_cons, List.contains_nil, Bool.or_false, Bool.or_eq_false_iff, beq_eq_false_iff_ne, ne_eq] at h3
        simp [h3]
      · by_cases hki : k = i
        · subst hki; rw [hgi] at hy; cases hy; exact hxx
        · exact hP k y (by k_extra "om") hy
  · intro u9 h5 tk5 hP F5 N5
    exfalso
    refine hidP fun P9 k9 => ?_
    obtain ⟨k, hk⟩ := List.getElem?_of_mem (List.mem_of_find?_eq_some hfd)
    refine k9 ?_; clear k9 P9
    have := hP k j (by have := (List.getElem?_eq_some_iff.mp hk).1; rw [ria.length, nat_len]; exact this) hk
    rw [hjl] at this; cases this
example : True := by w_top off; trivial
example : True := by
  (k_with "k_room" => ((try simp only [depth_under_make, depth_under_kw, depth_in1, depth_deeper, depth_caller]); omega))
  (k_with "k_all" => with_reducible assumption)
  (k_with "call ref" => (k_here; (with_reducible show wpAny _ _ (call (Value.ref 270) _) _ _ _); k_dflt (refine' row_U (by with_reducible assumption) (by k_asm) (by k_asm) (by with_reducible assumption) (by with_reducible assumption) (by k_extra "om") (by k_extra "om") ?_); intro _ _ _ _; (try k_sweep)))
  (k_with "call ref" => (k_here; (with_reducible show wpAny _ _ (call (Value.ref 319) _) _ _ _); refine stop_out ?_))
  (k_with "call ref" => (k_here; (with_reducible show wpAny _ _ (call (Value.ref 263) _) _ _ _); refine stop_out ?_))
  (k_with "pyIter ref" => ((with_reducible show wpAny _ _ (pyIter (Value.ref _)) (fun it s₂ => LoopAtV _ _ _ _ _ _ _ _ _ it s₂) _ _); k_here; refine stop_out ?_))
  (k_with "exec For Name Attribute cons nil" => (k_here; (with_unfolding_all refine' for_name (by assumption) (by exact rfl) (by exact rfl) ?_; k_whole)))
  (k_with "call builtin:list.append" => (k_here; (with_reducible show wpAny _ _ (call (Value.builtin _) [Value.ref _, _]) _ _ _); (refine' append_v (by k_asm) (by k_asm) (by k_upd) (by k_extra "om") ?_); intro _ _ _; (try k_sweep)))
  (k_with "k_inst" => (refine' inst_mix (by k_asm) (by k_asm) (by assumption) (by k_mem)))
  (k_with "k_inst" => exact inst_base (by k_asm) (by assumption) (by assumption))
  (k_with "k_put" => first | exact put9_name | exact put9_value)
  trivial
theorem add_ns_new_C {w : World} {A : Around} {s : Shared} {g : Heap} {t dt rl : Addr} {qs : List Rep} {T : List Row} {p z : Nat} {q : Rep} {pf ur9 : Str} {tp t1 t2 : Tok}
   (H : On w A g s.heap [rl, q.n] 16 340) (TN : TreeN w s.heap t dt rl qs T) (W : WF T) (hq : qs[p]? = some q) (hk : kd T p = Str.ofString "element") (sz : Sz z T) (hz : z ≤ 40) (hno : ∀ x ∈ nsl T p, (nm T x == pf) = false) :
   wpAny (model prg w) A (call (.ref 333) [.ref t, .int (p : Int) tp, .str pf t1, .str ur9 t2]) (BackG g s fun v h' => ∃ (q' : Rep), TreeN w h' t dt rl (qs ++ [q']) (addNs T p ⟨Str.ofString "namespace", pf, Str.ofString "", pf, ur9, some p, [], [], []⟩) ∧ ∀ a ∈ q'.as, s.heap.get? a = none) NoErr s := by
  refine hidP fun P9 k9 => ?_
  obtain ⟨nl, hl⟩ := TN.e.list
  obtain ⟨ri, ⟨v0, v1, v2, v3, v4, v5, v6, v7, v8, u0, u1, u2, u3, u4, pv, nn, hp, rd⟩, rc, rn, ⟨cs, nc, ra, ria⟩⟩ := TN.e.row p q hq
  obtain ⟨tk9, n9, td⟩ := TN.e.dict
  have off := TN.off p q hq
  have nd := TN.nd p q hq
  have c1 := off q.n (.tail _ (.tail _ (.tail _ (.tail _ (.head _)))))
  have c2 := off q.x (.head _)
  have c3 := off q.dx (.tail _ (.head _))
  simp only [Rep.as, List.nodup_cons, List.mem_cons, List.not_mem_nil, not_or, List.nodup_nil, or_false, not_false_eq_true, and_true] at nd
  obtain ⟨⟨e1, e2, e3, e4⟩, ⟨e5, e6, e7⟩, ⟨e8, e9⟩, e10⟩ := nd
  refine k9 ?_; clear k9 P9
  have inG : ∀ {b o}, s.heap.get? b = some o → b ≠ rl → b ≠ q.n → g.get? b = some o := fun e h1 h2 => H.inG e (by simp only [List.mem_cons, List.not_mem_nil, or_false, not_or]; exact ⟨h1, h2⟩)
  have g1 := inG TN.e.inst TN.h3.2.1 (fun h => c1.1 h.symm)
  have g2 := inG td TN.h3.2.2 (fun h => c1.2.1 h.symm)
  have g3 := inG ri c2.2.2 e4
  have g4 := inG rd c3.2.2 e7
  have hpl : p < T.length := by have := TN.e.len; have := (List.getElem?_eq_some_iff.mp hq).1; omega
  refine' enterG (binds := [(Str.ofString "self", .ref t), (Str.ofString "element", .int (p : Int) tp), (Str.ofString "prefix", .str pf t1), (Str.ofString "uri", .str ur9 t2)]) [(rl, listOf (List.toArray (qs.map fun q => Value.ref q.x)) nl), (q.n, listOf (List.toArray cs) nc)] H (by k_extra "om") (by k_extra "om") ?hown ?ho ?hcd ?hb ?hl ?_ ?c1 ?c2 ?c3 ?c4
  case hown =>
    intro p hp
    refine hidP fun P9 k9 => ?_
    rcases List.mem_cons.mp hp with rfl | hp <;> (refine k9 ?_; clear k9 P9)
    · exact ⟨hl, .head _⟩
    · rw [List.mem_singleton.mp hp]; exact ⟨ra, .tail _ (.head _)⟩
  case ho => k_is
  case hcd => k_is
  case hb => exact BindsTo.of_eq rfl
  case hl => exact locs rfl
  case c1 => decide
  case c2 => exact rfl
  case c3 => exact rfl
  case c4 => exact rfl
  intro h₁ gn9 dr9 os9 A9 L9 tk9 pr9 loose9 mean9 mg9 mb9 F' N' lo' X' T' C' hroom hun K9 hK9
  (try dsimp only)
  have ho : ∀ a ∈ [rl, q.n], ∀ o, s.heap.get? a = some o → (a, o) ∈ [(rl, listOf (List.toArray (qs.map fun q => Value.ref q.x)) nl), (q.n, listOf (List.toArray cs) nc)] := by
    intro a ha o e
    refine hidP fun P9 k9 => ?_
    rcases List.mem_cons.mp ha with rfl | ha <;> (refine k9 ?_; clear k9 P9)
    · rw [hl] at e; cases e; exact .head _
    · rw [List.mem_singleton.mp ha, ra] at e; cases e; rw [List.mem_singleton.mp ha]; exact .tail _ (.head _)
  have up1 := H.up F' N' ho
  have ne1 : @Ne Nat rl q.n := fun h => c1.2.2 h.symm
  k_steps
  rename Fr _ _ _ _ => F0
  rename News _ _ _ _ => N0
  refine Stop.in (use (element_row_C (C'.at F0 (by k_extra "om") (by k_extra "om")) (TN.e.keep (H.up F0 N0 ho)) hq hk) F0 N0 ?_)
  intro v h2 tk2 F2 N2 hk2 ev
  subst ev
  clear F0 N0 hk2
  k_steps
  rename Fr _ _ _ _ => F3
  rename News _ _ _ _ => N3
  refine Stop.in (for_keep [] (fun _ => True) rfl (vs := cs) (News.isList N3 (.tail _ (.head _))) (News.ne N3 (.tail _ (.head _))) F3 N3 (.inr ⟨listOf (List.toArray cs) nc, .tail _ (.head _)⟩) trivial ?_ ?_)
  · rintro i v u h tk I oI hv _ hne F4 N4
    have hil : i < (nsl T p).length := by
      have h1 := (List.getElem?_eq_some_iff.mp hv).1
      rw [ria.length, nat_len] at h1; exact h1
    refine hidP fun P9 k9 => ?_
    obtain ⟨tx, htx⟩ := ria.get i ((nsl T p)[i] : Int) (by unfold nat; show ((nsl T p).map _)[i]? = _; simp [hil])
    refine k9 ?_; clear k9 P9
    rw [hv] at htx
    cases htx
    have hm1 := W.ns_ok p _ (List.getElem_mem hil)
    have hn1 := hno _ (List.getElem_mem hil)
    generalize (nsl T p)[i] = x at *
    have hxl : x < qs.length := by rw [TN.e.len]; exact hm1.2.1
    have hqx : qs[x]? = some qs[x] := List.getElem?_eq_getElem hxl
    have off2 := TN.off x _ hqx
    have ap2 := TN.ap x p _ _ hqx hq (by k_extra "om")
    refine hidP fun P9 k9 => ?_
    obtain ⟨yi, ⟨x0, x1, x2, x3, x4, x5, x6, x7, x8, y0, y1, y2, y3, y4, pw, mm, hpp, yd⟩, _, _, _⟩ := TN.e.row x _ hqx
    refine k9 ?_; clear k9 P9
    generalize qs[x] = qx at *
    have b1 := off2 qx.x (.head _)
    have b2 := off2 qx.dx (.tail _ (.head _))
    have b3 : qx.x ≠ q.n := fun h => ap2 qx.x (.head _) (by rw [h]; exact .tail _ (.tail _ (.tail _ (.tail _ (.head _)))))
    have b4 : qx.dx ≠ q.n := fun h => ap2 qx.dx (.tail _ (.head _)) (by rw [h]; exact .tail _ (.tail _ (.tail _ (.tail _ (.head _)))))
    have g5 := inG yi b1.2.2 b3
    have g6 := inG yd b2.2.2 b4
    have hlo : ((rw T x).name == pf) = false := hn1
    have hix : (qs.map fun q => Value.ref q.x).toArray[x]? = some (.ref qx.x) := by simp [hqx]
    have hxz : x ≤ 20000 := by have := sz.len; omega
    clear F3 N3 ho up1 hno
    k_steps
    rename Fr _ _ _ _ => F6
    rename News _ _ _ _ => N6
    refine turn_over _ F6 N6 (.head _) (fun q hq => .tail _ hq) hne ⟨?_, rfl, trivial⟩
    intro z h3
    simp only [List.contains_cons, List.contains_nil, Bool.or_false, Bool.or_eq_false_iff, beq_eq_false_iff_ne, ne_eq] at h3
    simp [h3]
  · intro u9 h5 tk5 _ F5 N5
    clear F3 N3
    k_steps
    rename Fr _ _ _ _ => F3
    rename News _ _ _ _ => N3
    have up3 := H.up F3 N3 ho
    have hvl : (qs.map fun q => Value.ref q.x).length ≤ 50 := by simp; have := TN.e.len; have := sz.len; omega
    refine Stop.in (new_row_U (vs := qs.map fun q => Value.ref q.x) (n := nl) (par := some p) C' F3 N3 (by k_updF) g1 g2 hvl ⟨_, rfl⟩ (by k_extra "om") (by k_extra "om") ?_)
    intro tk5 q' n' h4 tk4 F4 N4 hrow hnd hfr
    have e5 : ((qs.map fun q => Value.ref q.x).length : Int) = (T.length : Int) := by simp [TN.e.len]
    rw [e5]
    have hfr2 : ∀ a ∈ q'.as, s.heap.get? a = none := fun a ha => H.none F3 N3 ho (hfr a ha)
    have NL := ledOf_news F4 F3 hfr
    have hled : ∀ h2, Held (ledOf h4 q'.as) h2 → ∀ b ∈ q'.as, ∀ o, h4.get? b = some o → h2.get? b = some o := fun h2 k b hb o e => k (b, o) (mem_ledOf.mpr ⟨hb, e⟩)
    have hls : ∀ p ∈ ledOf h4 q'.as, @Ne Nat p.1 q.n := fun p hp e => by
      have h1 := hfr2 _ (mem_ledOf.mp hp).1
      have e' : p.1 = q.n := e
      rw [e', ra] at h1; cases h1
    generalize ledOf h4 q'.as = led at *
    have N5 : News g L9 h4 ((rl, listOf (List.toArray ((qs.map fun q => Value.ref q.x) ++ [Value.ref q'.x])) n') :: (q.n, listOf (List.toArray cs) nc) :: led) := fun p hp => by
      refine hidP fun P9 k9 => ?_
      rcases List.mem_cons.mp hp with rfl | hp <;> (refine k9 ?_; clear k9 P9)
      · exact N4 _ (.head _)
      · refine hidP fun P9 k9 => ?_
        rcases List.mem_cons.mp hp with rfl | hp <;> (refine k9 ?_; clear k9 P9)
        · exact N4 _ (.tail _ (.head _))
        · exact NL p hp
    have hcl : cs.length ≤ 20000 := by have h1 := sz.nsl p; rw [ria.length, nat_len]; unfold nsl at h1; omega
    have hrl4 := (N4 _ (.head _)).1
    have hc4 := (N4 _ (.tail _ (.head _))).1
    have TN4 : TreeN w h4 t dt rl (qs ++ [q']) (T ++ [⟨Str.ofString "namespace", pf, Str.ofString "", pf, ur9, some p, [], [], []⟩]) := by
      refine TN.snoc (fun b hb hne o e => ?_) ⟨n', hrl4⟩ hrow hnd hfr2 ((sz.snoc rfl rfl rfl).sm (by k_extra "om"))
      by_cases hc : b = q.n
      · subst hc; rw [ra] at e; cases e; exact hc4
      · exact F4.keep _ _ (inG e hne hc)
    have HK4 := F4.keep
    clear N4 N3 F3 NL
    k_steps
    rename Fr _ _ _ _ => F6
    rename News _ _ _ _ => N6
    refine endK hK9 F6 ⟨q', ?_, hfr2⟩
    have hpl2 : p < qs.length := (List.getElem?_eq_some_iff.mp hq).1
    refine TN4.modify (as := [q.n]) (by rw [List.getElem?_append_left hpl2]; exact hq) (fun a ha => by rw [List.mem_singleton.mp ha]; exact .tail _ (.tail _ (.tail _ (.tail _ (.head _))))) (fun b hb hn o e => ?_) ?_ ((addNs_sz sz rfl rfl rfl).sm (by k_extra "om"))
    · refine hidP fun P9 k9 => ?_
      rcases addrs_snoc hb with hb | hb <;> (refine k9 ?_; clear k9 P9)
      · by_cases hr : b = rl
        · subst hr; rw [hrl4] at e; cases e; exact (N6 _ (.head _)).1
        · refine hidP fun P9 k9 => ?_
          obtain ⟨o', e'⟩ := TN.e.live b hb
          refine k9 ?_; clear k9 P9
          have hg := inG e' hr (fun h => hn (List.mem_singleton.mpr h))
          have h1 := HK4 _ _ hg
          rw [e] at h1; cases h1
          exact F6.keep _ _ hg
      · exact hled _ (fun p hp => (N6 p (.tail _ (.tail _ hp))).1) b hb o e
    · have er : rw (T ++ [⟨Str.ofString "namespace", pf, Str.ofString "", pf, ur9, some p, [], [], []⟩]) p = rw T p := by rw [rw_snoc, if_neg (by k_extra "om")]
      rw [er]
      refine ⟨F6.keep _ _ g3, ⟨v0, v1, v2, v3, v4, v5, v6, v7, v8, u0, u1, u2, u3, u4, pv, nn, hp, F6.keep _ _ g4⟩, rc.move fun o e => F6.keep _ _ (inG e ?_ ?_), rn.move fun o e => F6.keep _ _ (inG e ?_ ?_), ⟨_, _, (N6 _ (.tail _ (.head _))).1, ?_⟩⟩
      · exact (off q.c (.tail _ (.tail _ (.head _)))).2.2
      · exact e9
      · exact (off q.a (.tail _ (.tail _ (.tail _ (.head _))))).2.2
      · exact e10
      · show IntsAre _ (nat ((rw T p).ns ++ [T.length]))
        rw [nat_append]
        exact ria.append (.cons _ _ .nil)
theorem add_ns_old_C {w : World} {A : Around} {s : Shared} {g : Heap} {t dt rl : Addr} {qs : List Rep} {T : List Row} {p z j : Nat} {q qj : Rep} {pf ur9 : Str} {tp t1 t2 : Tok}
   (H : On w A g s.heap [qj.dx] 16 340) (TN : TreeN w s.heap t dt rl qs T) (W : WF T) (hq : qs[p]? = some q) (hj : qs[j]? = some qj) (hk : kd T p = Str.ofString "element") (sz : Sz z T) (hz : z ≤ 40) (hfd : (nsl T p).find? (fun x => nm T x == pf) = some j) :
   wpAny (model prg w) A (call (.ref 333) [.ref t, .int (p : Int) tp, .str pf t1, .str ur9 t2]) (BackG g s fun v h' => TreeN w h' t dt rl qs (setV T j ur9)) NoErr s := by
  refine hidP fun P9 k9 => ?_
  obtain ⟨nl, hl⟩ := TN.e.list
  obtain ⟨ri, ⟨v0, v1, v2, v3, v4, v5, v6, v7, v8, u0, u1, u2, u3, u4, pv, nn, hp, rd⟩, rc, rn, ⟨cs, nc, ra, ria⟩⟩ := TN.e.row p q hq
  obtain ⟨tk9, n9, td⟩ := TN.e.dict
  have hjm := W.ns_ok p j (List.mem_of_find?_eq_some hfd)
  have hjl : (nm T j == pf) = true := by have := List.find?_some hfd; exact this
  have off := TN.off j qj hj
  have nd := TN.nd j qj hj
  have ap := TN.ap j p qj q hj hq (by k_extra "om")
  have c3 := off qj.dx (.tail _ (.head _))
  have cap := ap qj.dx (.tail _ (.head _))
  simp only [Rep.as, List.mem_cons, List.not_mem_nil, or_false, not_or] at cap
  obtain ⟨d1, d2, d3, d4, d5⟩ := cap
  simp only [Rep.as, List.nodup_cons, List.mem_cons, List.not_mem_nil, not_or, List.nodup_nil, or_false, not_false_eq_true, and_true] at nd
  obtain ⟨⟨e1, e2, e3, e4⟩, ⟨e5, e6, e7⟩, ⟨e8, e9⟩, e10⟩ := nd
  have inG : ∀ {b o}, s.heap.get? b = some o → b ≠ qj.dx → g.get? b = some o := fun e h1 => H.inG e (by simpa using h1)
  have g1 := inG TN.e.inst (fun h => c3.1 h.symm)
  have g2 := inG td (fun h => c3.2.1 h.symm)
  have g3 := inG ri (fun h => d1 h.symm)
  have g4 := inG rd (fun h => d2 h.symm)
  have grl := inG hl (fun h => c3.2.2 h.symm)
  have gra := inG ra (fun h => d5 h.symm)
  have hpl : p < T.length := by have := TN.e.len; have := (List.getElem?_eq_some_iff.mp hq).1; omega
  obtain ⟨yi, ⟨x0, x1, x2, x3, x4, x5, x6, x7, x8, y0, y1, y2, y3, y4, pw, mm, hpp, yd⟩, yc, ya, yn⟩ := TN.e.row j qj hj
  have g5 := inG yi e1
  obtain ⟨od, hod⟩ : ∃ od, s.heap.get? qj.dx = some od := ⟨_, yd⟩
  refine k9 ?_; clear k9 P9
  refine' enterG (binds := [(Str.ofString "self", .ref t), (Str.ofString "element", .int (p : Int) tp), (Str.ofString "prefix", .str pf t1), (Str.ofString "uri", .str ur9 t2)]) [(qj.dx, od)] H (by k_extra "om") (by k_extra "om") ?hown ?ho ?hcd ?hb ?hl ?_ ?c1 ?c2 ?c3 ?c4
  case hown =>
    intro p hp
    rw [List.mem_singleton.mp hp]; exact ⟨hod, .head _⟩
  case ho => k_is
  case hcd => k_is
  case hb => exact BindsTo.of_eq rfl
  case hl => exact locs rfl
  case c1 => decide
  case c2 => exact rfl
  case c3 => exact rfl
  case c4 => exact rfl
  intro h₁ gn9 dr9 os9 A9 L9 tk9 pr9 loose9 mean9 mg9 mb9 F' N' lo' X' T' C' hroom hun K9 hK9
  (try dsimp only)
  rw [yd] at hod
  cases hod
  have upH : ∀ h m, Fr g L9 h m → (∀ o, s.heap.get? qj.dx = some o → h.get? qj.dx = some o) → ∀ b o, s.heap.get? b = some o → h.get? b = some o := fun h m F k b o e => by
    by_cases hb : b = qj.dx
    · subst hb; exact k o e
    · exact F.keep _ _ (inG e hb)
  k_steps
  rename Fr _ _ _ _ => F0
  rename News _ _ _ _ => N0
  refine Stop.in (use (element_row_C (C'.at F0 (by k_extra "om") (by k_extra "om")) (TN.e.keep (upH _ _ F0 fun o e => by rw [yd] at e; cases e; exact (N0 _ (.head _)).1)) hq hk) F0 N0 ?_)
  intro v h2 tk2 F2 N2 hk2 ev
  subst ev
  clear F0 N0 hk2
  k_steps
  rename Fr _ _ _ _ => F3
  rename News _ _ _ _ => N3
  refine Stop.in (for_keep [] (fun i => ∀ k y, k < i → (nsl T p)[k]? = some y → (nm T y == pf) = false) rfl (vs := cs) (isList_base F3 gra) (base_ne F3 gra) F3 N3 (.inl ⟨_, gra⟩) (fun k y h => absurd h (Nat.not_lt_zero _)) ?_ ?_)
  · rintro i v u h tk I oI hv hP hne F4 N4
    have hil : i < (nsl T p).length := by
      have h1 := (List.getElem?_eq_some_iff.mp hv).1
      rw [ria.length, nat_len] at h1; exact h1
    refine hidP fun P9 k9 => ?_
    obtain ⟨tx, htx⟩ := ria.get i ((nsl T p)[i] : Int) (by unfold nat; show ((nsl T p).map _)[i]? = _; simp [hil])
    refine k9 ?_; clear k9 P9
    rw [hv] at htx
    cases htx
    have hgi : (nsl T p)[i]? = some (nsl T p)[i] := List.getElem?_eq_getElem hil
    have hm1 := W.ns_ok p _ (List.getElem_mem hil)
    have hff := fun h => find_first hfd hgi h hP
    generalize (nsl T p)[i] = x at *
    have hxl : x < qs.length := by rw [TN.e.len]; exact hm1.2.1
    have hxz : x ≤ 20000 := by have := sz.len; omega
    have hqx : qs[x]? = some qs[x] := List.getElem?_eq_getElem hxl
    have hix : (qs.map fun q => Value.ref q.x).toArray[x]? = some (.ref qs[x].x) := by simp [hqx]
    cases hxx : nm T x == pf with
    | true =>
      have exj := hff hxx
      subst exj
      rw [hj] at hqx
      have eqj : qj = qs[x] := Option.some.inj hqx
      rw [← eqj] at hix
      have hlo : ((rw T x).name == pf) = true := hxx
      have hne' : @Ne Nat qj.dx I := hne _ (.head _)
      clear F3 N3 hqx eqj hff hP
      k_steps
      rename Fr _ _ _ _ => F6
      rename News _ _ _ _ => N6
      have hN := (N6 _ (.tail _ (.head _))).1
      dsimp only at hN
      dsimp only [TurnOver]
      refine stepR (by with_reducible assumption) ?_
      refine endK hK9 F6 ?_
      refine TN.modify (f := fun x => { x with val := ur9 }) (as := [qj.dx]) hj (fun a ha => by rw [List.mem_singleton.mp ha]; exact .tail _ (.head _)) (fun b hb hn o e => F6.keep _ _ (inG e (by simpa using hn))) ?_ ((setV_sz sz).sm (by k_extra "om"))
      exact ⟨F6.keep _ _ g5, ⟨_, _, _, _, _, _, _, _, _, _, _, _, _, _, pw, _, hpp, hN⟩, yc.move fun o e => F6.keep _ _ (inG e fun h => e5 h.symm), ya.move fun o e => F6.keep _ _ (inG e fun h => e6 h.symm), yn.move fun o e => F6.keep _ _ (inG e fun h => e7 h.symm)⟩
    | false =>
      have hxj : x ≠ j := fun e => by subst e; rw [hjl] at hxx; cases hxx
      have apx := TN.ap x j _ _ hqx hj hxj
      refine hidP fun P9 k9 => ?_
      obtain ⟨yi', ⟨_, _, _, _, _, _, _, _, _, _, _, _, _, _, pw', mm', hpp', yd'⟩, _, _, _⟩ := TN.e.row x _ hqx
      refine k9 ?_; clear k9 P9
      have hlo : ((rw T x).name == pf) = false := hxx
      have b5 : qs[x].x ≠ qj.dx := fun h => apx qs[x].x (.head _) (by rw [h]; exact .tail _ (.head _))
      have b6 : qs[x].dx ≠ qj.dx := fun h => apx qs[x].dx (.tail _ (.head _)) (by rw [h]; exact .tail _ (.head _))
      generalize qs[x] = qx at *
      have g6 := inG yi' b5
      have g7 := inG yd' b6
      clear F3 N3 hff
      k_steps
      rename Fr _ _ _ _ => F6
      rename News _ _ _ _ => N6
      refine turn_over _ F6 N6 (.head _) (fun q hq => .tail _ hq) hne ⟨?_, rfl, fun k y hk hy => ?_⟩
      · intro z h3
        simp only [List.contains_cons, List.contains_nil, Bool.or_false, Bool.or_eq_false_iff, beq_eq_false_iff_ne, ne_eq] at h3
        simp [h3]
      · by_cases hki : k = i
        · subst hki; rw [hgi] at hy; cases hy; exact hxx
        · exact hP k y (by k_extra "om") hy
  · intro u9 h5 tk5 hP F5 N5
    exfalso
    refine hidP fun P9 k9 => ?_
    obtain ⟨k, hk⟩ := List.getElem?_of_mem (List.mem_of_find?_eq_some hfd)
    refine k9 ?_; clear k9 P9
    have := hP k j (by have := (List.getElem?_eq_some_iff.mp hk).1; rw [ria.length, nat_len]; exact this) hk
    rw [hjl] at this; cases this
example : True := by w_top off; trivial
structure Good (k : Nat) (T : List Row) : Prop where
  wf : WF T
  sz : Sz (2 * k) T
  len : T.length ≤ k
  root : pa T 0 = none
  pos : 0 < T.length
noncomputable def Keeps (T T' : List Row) : Prop := ∀ x, x < T.length → x < T'.length ∧ kd T' x = kd T x
theorem grows_keeps {T T' : List Row} {p : Nat} {r : Row} {cs as ns : List Nat} (G : Grows T T' p r cs as ns) : Keeps T T' := fun x hx => ⟨by rw [G.len]; omega, by rw [G.kd, if_neg (by k_extra "om")]⟩
theorem not_beside {T : List Row} {p : Nat} (h : kd T p = Str.ofString "root" ∨ kd T p = Str.ofString "element") : beside T p = false := by
  rw [beside_not]
  rcases h with h | h <;> rw [h] <;> exact ⟨by decide, by decide⟩
theorem grows_root {T T' : List Row} {p : Nat} {r : Row} {cs as ns : List Nat} (G : Grows T T' p r cs as ns) (h : pa T 0 = none) (h0 : 0 < T.length) : pa T' 0 = none ∧ 0 < T'.length := ⟨by rw [G.pa, if_neg (by k_extra "om")]; exact h, by rw [G.len]; omega⟩
theorem str_ne_a {x : Str} (h : x = Str.ofString "element" ∨ x = Str.ofString "text" ∨ x = Str.ofString "comment") : x ≠ Str.ofString "attribute" ∧ x ≠ Str.ofString "namespace" := by
  rcases h with h | h | h <;> rw [h] <;> exact ⟨by decide, by decide⟩
theorem good_addCh {k p : Nat} {T : List Row} {r : Row} (G : Good k T) (hk : k + 1 ≤ 20) (hp : p < T.length) (hkd : kd T p = Str.ofString "root" ∨ kd T p = Str.ofString "element")
    (h1 : r.ch = []) (h2 : r.at_ = []) (h3 : r.ns = []) (h4 : r.par = some p) (h5 : r.uri = Str.ofString "") (h6 : r.kind = Str.ofString "element" ∨ r.kind = Str.ofString "text" ∨ r.kind = Str.ofString "comment") : Good (k + 1) (addCh T p r) ∧ Keeps T (addCh T p r) ∧ (addCh T p r).length = T.length + 1 ∧ kd (addCh T p r) T.length = r.kind := by
  have Gr := addCh_grows (r := r) hp h1 h2 h3 h4
  have hl := G.len
  obtain ⟨e1, e2⟩ := str_ne_a h6
  obtain ⟨a1, a2⟩ := grows_root Gr G.root G.pos
  refine ⟨⟨grows_wf Gr G.wf hp (not_beside hkd) (.inr ⟨rfl, rfl⟩) h5 (by k_extra "om") (by rw [if_pos ⟨e1, e2⟩]) (by rw [if_neg e1]) (by rw [if_neg e2]), addCh_sz G.sz h1 h2 h3, by rw [Gr.len]; omega, a1, a2⟩, grows_keeps Gr, Gr.len, by rw [Gr.kd, if_pos rfl]⟩
theorem good_addAt {k p : Nat} {T : List Row} {r : Row} (G : Good k T) (hk : k + 1 ≤ 20) (hp : p < T.length) (hkd : kd T p = Str.ofString "element")
    (h1 : r.ch = []) (h2 : r.at_ = []) (h3 : r.ns = []) (h4 : r.par = some p) (h5 : r.uri = Str.ofString "") (h6 : r.kind = Str.ofString "attribute") : Good (k + 1) (addAt T p r) ∧ Keeps T (addAt T p r) := by
  have Gr := addAt_grows (r := r) hp h1 h2 h3 h4
  have hl := G.len
  obtain ⟨a1, a2⟩ := grows_root Gr G.root G.pos
  refine ⟨⟨grows_wf Gr G.wf hp (not_beside (.inr hkd)) (.inl hkd) h5 (by k_extra "om") (by rw [if_neg (by rw [h6]; exact fun h => h.1 rfl)]) (by rw [if_pos h6]) (by rw [if_neg (by rw [h6]; decide)]), addAt_sz G.sz h1 h2 h3, by rw [Gr.len]; omega, a1, a2⟩, grows_keeps Gr⟩
theorem good_addNs {k p : Nat} {T : List Row} {r : Row} (G : Good k T) (hk : k + 1 ≤ 20) (hp : p < T.length) (hkd : kd T p = Str.ofString "element")
    (h1 : r.ch = []) (h2 : r.at_ = []) (h3 : r.ns = []) (h4 : r.par = some p) (h5 : r.uri = Str.ofString "") (h6 : r.kind = Str.ofString "namespace") : Good (k + 1) (addNs T p r) ∧ Keeps T (addNs T p r) := by
  have Gr := addNs_grows (r := r) hp h1 h2 h3 h4
  have hl := G.len
  obtain ⟨a1, a2⟩ := grows_root Gr G.root G.pos
  refine ⟨⟨grows_wf Gr G.wf hp (not_beside (.inr hkd)) (.inl hkd) h5 (by k_extra "om") (by rw [if_neg (by rw [h6]; exact fun h => h.2 rfl)]) (by rw [if_neg (by rw [h6]; decide)]) (by rw [if_pos h6]), addNs_sz G.sz h1 h2 h3, by rw [Gr.len]; omega, a1, a2⟩, grows_keeps Gr⟩
theorem good_set {k : Nat} {T T' : List Row} (G : Good k T) (hw : WF T') (hs : Sz (2 * k + 1) T') (hl : T'.length = T.length) (hk : ∀ i, kd T' i = kd T i) (hp : ∀ i, pa T' i = pa T i) : Good (k + 1) T' ∧ Keeps T T' :=
  ⟨⟨hw, hs.up (by k_extra "om"), by have := G.len; omega, by rw [hp]; exact G.root, by rw [hl]; exact G.pos⟩, fun x hx => ⟨by omega, hk x⟩⟩
theorem good_setNV {k j : Nat} {T : List Row} {a b : Str} (G : Good k T) : Good (k + 1) (setNV T j a b) ∧ Keeps T (setNV T j a b) :=
  good_set G (setNV_wf G.wf) (setNV_sz G.sz) (by unfold setNV; rw [List.length_modify]) (fun i => by unfold kd setNV; rw [rw_modify]; split <;> rfl) (fun i => by unfold pa setNV; rw [rw_modify]; split <;> rfl)
theorem good_setV {k j : Nat} {T : List Row} {b : Str} (G : Good k T) : Good (k + 1) (setV T j b) ∧ Keeps T (setV T j b) :=
  good_set G (setV_wf G.wf) (setV_sz G.sz) (by unfold setV; rw [List.length_modify]) (fun i => by unfold kd setV; rw [rw_modify]; split <;> rfl) (fun i => by unfold pa setV; rw [rw_modify]; split <;> rfl)
theorem sz_nil (k : Nat) : Sz k [] := ⟨Nat.zero_le _, fun i => by rw [ch_out (Nat.zero_le _)]; exact Nat.zero_le _, fun i => by rw [atl_out (Nat.zero_le _)]; exact Nat.zero_le _, fun i => by rw [nsl_out (Nat.zero_le _)]; exact Nat.zero_le _⟩
theorem kd_root (T : List Row) : kd (T ++ [rootRow]) T.length = Str.ofString "root" := by unfold kd; rw [rw_snoc, if_pos rfl]; rfl
theorem good_one : Good 1 ([] ++ [rootRow]) :=
  ⟨root_wf wf_nil (by decide), ((sz_nil 0).snoc rfl rfl rfl).up (by decide), by simp, by unfold pa; rw [rw_snoc]; rfl, by simp⟩
theorem good_root {k : Nat} {T : List Row} (G : Good k T) (hk : k + 1 ≤ 20) : Good (k + 1) (T ++ [rootRow]) ∧ Keeps T (T ++ [rootRow]) := by
  have hl := G.len
  have hp := G.pos
  refine ⟨⟨root_wf G.wf (by k_extra "om"), (G.sz.snoc rfl rfl rfl).up (by k_extra "om"), by simp; omega, by unfold pa; rw [rw_snoc, if_neg (by k_extra "om")]; exact G.root, by simp⟩, fun x hx => ⟨by simp; omega, by unfold kd; rw [rw_snoc, if_neg (by k_extra "om")]⟩⟩
theorem Good.up {k k' : Nat} {T : List Row} (G : Good k T) (h : k ≤ k') : Good k' T := ⟨G.wf, G.sz.up (by k_extra "om"), by have := G.len; omega, G.root, G.pos⟩
example : True := by w_top off; trivial
structure TreeL (w : World) (led : List (Addr × Obj)) (t dt rl : Addr) (qs : List Rep) (T : List Row) : Prop where
  tn : ∀ h2, Held led h2 → TreeN w h2 t dt rl qs T
  sub : ∀ p ∈ led, p.1 ∈ addrs t dt rl qs
  all : ∀ a ∈ addrs t dt rl qs, ∃ o, (a, o) ∈ led
noncomputable def Grown (w : World) (t dt rl : Addr) (qs : List Rep) (T' : List Row) (h : Heap) (R : Value → Prop) (v : Value) (h' : Heap) : Prop :=
  R v ∧ ∃ qs', TreeN w h' t dt rl qs' T' ∧ ∀ b ∈ addrs t dt rl qs', b ∈ addrs t dt rl qs ∨ h.get? b = none
theorem addrs_same {t dt rl : Addr} {qs : List Rep} {h : Heap} : ∀ b ∈ addrs t dt rl qs, b ∈ addrs t dt rl qs ∨ h.get? b = none := fun _ hb => .inl hb
theorem addrs_more {t dt rl : Addr} {qs : List Rep} {q' : Rep} {h : Heap} (hf : ∀ a ∈ q'.as, h.get? a = none) : ∀ b ∈ addrs t dt rl (qs ++ [q']), b ∈ addrs t dt rl qs ∨ h.get? b = none := fun b hb => (addrs_snoc hb).imp id (hf b)
theorem TreeN.tl {w : World} {h : Heap} {t dt rl : Addr} {qs : List Rep} {T : List Row} (H : TreeN w h t dt rl qs T) : TreeL w (ledOf h (addrs t dt rl qs)) t dt rl qs T :=
  ⟨fun h2 k => H.move fun b hb o e => k (b, o) (mem_ledOf.mpr ⟨hb, e⟩), fun p hp => (mem_ledOf.mp hp).1, fun a ha => by obtain ⟨o, e⟩ := H.e.live a ha; exact ⟨o, mem_ledOf.mpr ⟨ha, e⟩⟩⟩
theorem useTree {w : World} {A : Around} {s : Shared} {g : Heap} {L : Addr} {m : Str → Option Value} {led : List (Addr × Obj)} {dp un dp' un' : Nat} {c : Sem Value} {Q E : Value → Shared → Prop} {t dt rl : Addr} {qs : List Rep} {T T' : List Row} {R : Value → Prop} (front : List (Addr × Obj)) (as : List Addr)
    (C : Callee w A g L dp un) (F : Fr g L s.heap m) (N : News g L s.heap (front ++ led)) (TL : TreeL w led t dt rl qs T) (dis : ∀ p ∈ front, ∀ q ∈ led, @Ne Nat q.1 p.1) (has : ∀ a ∈ as, a ∈ addrs t dt rl qs) (hd : dp' ≤ dp) (hu : un' ≤ un)
    (call : ∀ g', On w A g' s.heap as dp' un' → TreeN w s.heap t dt rl qs T → wpAny (model prg w) A c (BackG g' s (Grown w t dt rl qs T' s.heap R)) NoErr s)
    (k : ∀ v h' tk' qs' led', R v → Fr g L h' m → News g L h' (front ++ led') → TreeL w led' t dt rl qs' T' → (∀ p ∈ front, ∀ q ∈ led', @Ne Nat q.1 p.1) → Q v { s with heap := h', toks := tk' }) :
    wpAny (model prg w) A c Q E s := by
  have TN := TL.tn s.heap fun p hp => (N p (List.mem_append_right _ hp)).1
  refine useG (as := as) (fun g' O => call g' O TN) C F N (fun a ha => ?_) hd hu fun v h' tk' F' up upH hP => ?_
  · obtain ⟨o, ho⟩ := TL.all a (has a ha)
    exact ⟨o, List.mem_append_right _ ho⟩
  obtain ⟨hv, qs', TN', hfr⟩ := hP
  have fd : ∀ p ∈ front, ∀ b ∈ addrs t dt rl qs, @Ne Nat b p.1 := fun p hp b hb => by
    obtain ⟨o, ho⟩ := TL.all b hb
    exact dis p hp _ ho
  refine k v h' tk' qs' (ledOf h' (addrs t dt rl qs')) hv F' (fun p hp => ?_) TN'.tl fun p hp q hq => ?_
  · rcases List.mem_append.mp hp with hp | hp
    · have hp' : p ∈ front ++ led := List.mem_append_left _ hp
      exact ⟨up p hp' fun ha => fd p hp _ (has _ ha) rfl, (N p hp').2⟩
    · obtain ⟨h1, h2⟩ := mem_ledOf.mp hp
      rcases hfr _ h1 with h3 | h3
      · obtain ⟨o, ho⟩ := TL.all _ h3
        exact ⟨h2, (N _ (List.mem_append_right _ ho)).2⟩
      · exact ledger_new F h3 h2
  · rcases hfr _ (mem_ledOf.mp hq).1 with h3 | h3
    · exact fd p hp _ h3
    · intro e
      have := (N p (List.mem_append_left _ hp)).1
      have e' : q.1 = p.1 := e
      rw [← e', h3] at this; cases this
theorem grown_of {w : World} {g' : Heap} {s : Shared} {t dt rl : Addr} {qs : List Rep} {T' : List Row} {A : Around} {c : Sem Value} {n : Nat}
    (H : wpAny (model prg w) A c (BackG g' s fun v h' => ∃ (tk : Tok) (q' : Rep), v = .int (n : Int) tk ∧ TreeN w h' t dt rl (qs ++ [q']) T' ∧ ∀ a ∈ q'.as, s.heap.get? a = none) NoErr s) :
    wpAny (model prg w) A c (BackG g' s (Grown w t dt rl qs T' s.heap fun v => ∃ tk, v = .int (n : Int) tk)) NoErr s :=
  wpAny_mono H (fun v s' h => by
    obtain ⟨h', tk', e, k, tk, q', rfl, TN, hf⟩ := h
    exact ⟨h', tk', e, k, ⟨tk, rfl⟩, qs ++ [q'], TN, addrs_more hf⟩) fun _ _ e => e
theorem grown_of' {w : World} {g' : Heap} {s : Shared} {t dt rl : Addr} {qs : List Rep} {T' : List Row} {A : Around} {c : Sem Value}
    (H : wpAny (model prg w) A c (BackG g' s fun v h' => ∃ (q' : Rep), TreeN w h' t dt rl (qs ++ [q']) T' ∧ ∀ a ∈ q'.as, s.heap.get? a = none) NoErr s) :
    wpAny (model prg w) A c (BackG g' s (Grown w t dt rl qs T' s.heap fun _ => True)) NoErr s :=
  wpAny_mono H (fun v s' h => by
    obtain ⟨h', tk', e, k, q', TN, hf⟩ := h
    exact ⟨h', tk', e, k, trivial, qs ++ [q'], TN, addrs_more hf⟩) fun _ _ e => e
theorem grown_same {w : World} {g' : Heap} {s : Shared} {t dt rl : Addr} {qs : List Rep} {T' : List Row} {A : Around} {c : Sem Value}
    (H : wpAny (model prg w) A c (BackG g' s fun v h' => TreeN w h' t dt rl qs T') NoErr s) :
    wpAny (model prg w) A c (BackG g' s (Grown w t dt rl qs T' s.heap fun _ => True)) NoErr s :=
  wpAny_mono H (fun v s' h => by
    obtain ⟨h', tk', e, k, TN⟩ := h
    exact ⟨h', tk', e, k, trivial, qs, TN, addrs_same⟩) fun _ _ e => e
theorem grown_any {w : World} {g' : Heap} {s : Shared} {t dt rl : Addr} {qs : List Rep} {T' : List Row} {A : Around} {c : Sem Value} {R : Value → Prop}
    (H : wpAny (model prg w) A c (BackG g' s (Grown w t dt rl qs T' s.heap R)) NoErr s) : wpAny (model prg w) A c (BackG g' s (Grown w t dt rl qs T' s.heap fun _ => True)) NoErr s :=
  wpAny_mono H (fun v s' h => by
    obtain ⟨h', tk', e, k, _, r⟩ := h
    exact ⟨h', tk', e, k, trivial, r⟩) fun _ _ e => e
theorem mem_rl {t dt rl : Addr} {qs : List Rep} : rl ∈ addrs t dt rl qs := .tail _ (.tail _ (.head _))
theorem mem_two {t dt rl b : Addr} {qs : List Rep} {q : Rep} {p : Nat} (hq : qs[p]? = some q) (hb : b ∈ q.as) : ∀ a ∈ [rl, b], a ∈ addrs t dt rl qs := fun a ha => by
  rcases List.mem_cons.mp ha with rfl | ha
  · exact mem_rl
  · rw [List.mem_singleton.mp ha]; exact in_addrs hq hb
section
variable {w : World} {A : Around} {s : Shared} {g : Heap} {L : Addr} {m : Str → Option Value} {led : List (Addr × Obj)} {dp un : Nat} {Q E : Value → Shared → Prop} {t dt rl : Addr} {qs : List Rep} {T : List Row} {p z : Nat} {tp t1 t2 t3 t4 : Tok} {nm lc vl u : Str}
theorem t_root (front : List (Addr × Obj)) (C : Callee w A g L dp un) (F : Fr g L s.heap m) (N : News g L s.heap (front ++ led)) (TL : TreeL w led t dt rl qs T) (dis : ∀ p ∈ front, ∀ q ∈ led, @Ne Nat q.1 p.1) (sz : Sz z T) (hz : z ≤ 40) (hd : 16 ≤ dp) (hu : 340 ≤ un)
    (k : ∀ tk h' tk' qs' led', Fr g L h' m → News g L h' (front ++ led') → TreeL w led' t dt rl qs' (T ++ [rootRow]) → (∀ p ∈ front, ∀ q ∈ led', @Ne Nat q.1 p.1) → Q (.int (T.length : Int) tk) { s with heap := h', toks := tk' }) :
    wpAny (model prg w) A (call (.ref 277) [.ref t]) Q E s :=
  useTree front [rl] C F N TL dis (fun a ha => by rw [List.mem_singleton.mp ha]; exact mem_rl) hd hu (fun g' O TN => grown_of (new_root_C O TN sz hz)) fun v h' tk' qs' led' hv => by obtain ⟨tk, rfl⟩ := hv; exact k tk h' tk' qs' led'
theorem t_elem (front : List (Addr × Obj)) (C : Callee w A g L dp un) (F : Fr g L s.heap m) (N : News g L s.heap (front ++ led)) (TL : TreeL w led t dt rl qs T) (dis : ∀ p ∈ front, ∀ q ∈ led, @Ne Nat q.1 p.1) (sz : Sz z T) (hz : z ≤ 40) (hp : p < T.length) (hk : kd T p = Str.ofString "root" ∨ kd T p = Str.ofString "element") (hd : 16 ≤ dp) (hu : 340 ≤ un)
    (k : ∀ tk h' tk' qs' led', Fr g L h' m → News g L h' (front ++ led') → TreeL w led' t dt rl qs' (addCh T p ⟨Str.ofString "element", nm, u, lc, Str.ofString "", some p, [], [], []⟩) → (∀ p ∈ front, ∀ q ∈ led', @Ne Nat q.1 p.1) → Q (.int (T.length : Int) tk) { s with heap := h', toks := tk' }) :
    wpAny (model prg w) A (call (.ref 291) [.ref t, .int (p : Int) tp, .str nm t1, .str u t2, .str lc t3]) Q E s := by
  have TN := TL.tn s.heap fun p hp => (N p (List.mem_append_right _ hp)).1
  obtain ⟨q, hq, -⟩ := TN.e.at_ hp
  exact useTree front [rl, q.c] C F N TL dis (mem_two hq (.tail _ (.tail _ (.head _)))) hd hu (fun g' O TN => grown_of (add_element_C O TN hq hk sz hz)) fun v h' tk' qs' led' hv => by obtain ⟨tk, rfl⟩ := hv; exact k tk h' tk' qs' led'
theorem t_text (front : List (Addr × Obj)) (C : Callee w A g L dp un) (F : Fr g L s.heap m) (N : News g L s.heap (front ++ led)) (TL : TreeL w led t dt rl qs T) (dis : ∀ p ∈ front, ∀ q ∈ led, @Ne Nat q.1 p.1) (sz : Sz z T) (hz : z ≤ 40) (hp : p < T.length) (hk : kd T p = Str.ofString "root" ∨ kd T p = Str.ofString "element") (hd : 16 ≤ dp) (hu : 340 ≤ un)
    (k : ∀ v h' tk' qs' led', Fr g L h' m → News g L h' (front ++ led') → TreeL w led' t dt rl qs' (addCh T p ⟨Str.ofString "text", Str.ofString "", Str.ofString "", Str.ofString "", vl, some p, [], [], []⟩) → (∀ p ∈ front, ∀ q ∈ led', @Ne Nat q.1 p.1) → Q v { s with heap := h', toks := tk' }) :
    wpAny (model prg w) A (call (.ref 298) [.ref t, .int (p : Int) tp, .str vl t1]) Q E s := by
  have TN := TL.tn s.heap fun p hp => (N p (List.mem_append_right _ hp)).1
  obtain ⟨q, hq, -⟩ := TN.e.at_ hp
  exact useTree front [rl, q.c] C F N TL dis (mem_two hq (.tail _ (.tail _ (.head _)))) hd hu (fun g' O TN => grown_any (grown_of (add_text_C O TN hq hk sz hz))) fun v h' tk' qs' led' hv => k v h' tk' qs' led'
theorem t_comment (front : List (Addr × Obj)) (C : Callee w A g L dp un) (F : Fr g L s.heap m) (N : News g L s.heap (front ++ led)) (TL : TreeL w led t dt rl qs T) (dis : ∀ p ∈ front, ∀ q ∈ led, @Ne Nat q.1 p.1) (sz : Sz z T) (hz : z ≤ 40) (hp : p < T.length) (hk : kd T p = Str.ofString "root" ∨ kd T p = Str.ofString "element") (hd : 16 ≤ dp) (hu : 340 ≤ un)
    (k : ∀ v h' tk' qs' led', Fr g L h' m → News g L h' (front ++ led') → TreeL w led' t dt rl qs' (addCh T p ⟨Str.ofString "comment", Str.ofString "", Str.ofString "", Str.ofString "", vl, some p, [], [], []⟩) → (∀ p ∈ front, ∀ q ∈ led', @Ne Nat q.1 p.1) → Q v { s with heap := h', toks := tk' }) :
    wpAny (model prg w) A (call (.ref 305) [.ref t, .int (p : Int) tp, .str vl t1]) Q E s := by
  have TN := TL.tn s.heap fun p hp => (N p (List.mem_append_right _ hp)).1
  obtain ⟨q, hq, -⟩ := TN.e.at_ hp
  exact useTree front [rl, q.c] C F N TL dis (mem_two hq (.tail _ (.tail _ (.head _)))) hd hu (fun g' O TN => grown_any (grown_of (add_comment_C O TN hq hk sz hz))) fun v h' tk' qs' led' hv => k v h' tk' qs' led'
noncomputable def setAt (T : List Row) (p : Nat) (nm lc vl : Str) : List Row := match (atl T p).find? fun x => lo T x == lc with
  | some j => setNV T j nm vl
  | none => addAt T p ⟨Str.ofString "attribute", nm, Str.ofString "", lc, vl, some p, [], [], []⟩
noncomputable def setNs (T : List Row) (p : Nat) (pf u : Str) : List Row := match (nsl T p).find? fun x => Mine.nm T x == pf with
  | some j => setV T j u
  | none => addNs T p ⟨Str.ofString "namespace", pf, Str.ofString "", pf, u, some p, [], [], []⟩
theorem t_attr (front : List (Addr × Obj)) (C : Callee w A g L dp un) (F : Fr g L s.heap m) (N : News g L s.heap (front ++ led)) (TL : TreeL w led t dt rl qs T) (dis : ∀ p ∈ front, ∀ q ∈ led, @Ne Nat q.1 p.1) (W : WF T) (sz : Sz z T) (hz : z ≤ 40) (hp : p < T.length) (hk : kd T p = Str.ofString "element") (hd : 16 ≤ dp) (hu : 340 ≤ un)
    (k : ∀ v h' tk' qs' led', Fr g L h' m → News g L h' (front ++ led') → TreeL w led' t dt rl qs' (setAt T p nm lc vl) → (∀ p ∈ front, ∀ q ∈ led', @Ne Nat q.1 p.1) → Q v { s with heap := h', toks := tk' }) :
    wpAny (model prg w) A (call (.ref 326) [.ref t, .int (p : Int) tp, .str nm t1, .str (Str.ofString "") t2, .str lc t3, .str vl t4]) Q E s := by
  have TN := TL.tn s.heap fun p hp => (N p (List.mem_append_right _ hp)).1
  obtain ⟨q, hq, -⟩ := TN.e.at_ hp
  cases hf : (atl T p).find? fun x => lo T x == lc with
  | some j =>
    have e : setAt T p nm lc vl = setNV T j nm vl := by unfold setAt; rw [hf]
    rw [e] at k
    obtain ⟨qj, hj, -⟩ := TN.e.at_ (W.at_ok p j (List.mem_of_find?_eq_some hf)).2.1
    exact useTree front [qj.dx] C F N TL dis (fun a ha => by rw [List.mem_singleton.mp ha]; exact in_addrs hj (.tail _ (.head _))) hd hu (fun g' O TN => grown_same (set_attr_old_C O TN W hq hj hk sz hz hf)) fun v h' tk' qs' led' hv => k v h' tk' qs' led'
  | none =>
    have e : setAt T p nm lc vl = addAt T p ⟨Str.ofString "attribute", nm, Str.ofString "", lc, vl, some p, [], [], []⟩ := by unfold setAt; rw [hf]
    rw [e] at k
    exact useTree front [rl, q.a] C F N TL dis (mem_two hq (.tail _ (.tail _ (.tail _ (.head _))))) hd hu (fun g' O TN => grown_of' (set_attr_new_C O TN W hq hk sz hz fun x hx => by have := List.find?_eq_none.mp hf x hx; simpa using this)) fun v h' tk' qs' led' hv => k v h' tk' qs' led'
theorem t_ns (front : List (Addr × Obj)) (C : Callee w A g L dp un) (F : Fr g L s.heap m) (N : News g L s.heap (front ++ led)) (TL : TreeL w led t dt rl qs T) (dis : ∀ p ∈ front, ∀ q ∈ led, @Ne Nat q.1 p.1) (W : WF T) (sz : Sz z T) (hz : z ≤ 40) (hp : p < T.length) (hk : kd T p = Str.ofString "element") (hd : 16 ≤ dp) (hu : 340 ≤ un)
    (k : ∀ v h' tk' qs' led', Fr g L h' m → News g L h' (front ++ led') → TreeL w led' t dt rl qs' (setNs T p nm u) → (∀ p ∈ front, ∀ q ∈ led', @Ne Nat q.1 p.1) → Q v { s with heap := h', toks := tk' }) :
    wpAny (model prg w) A (call (.ref 333) [.ref t, .int (p : Int) tp, .str nm t1, .str u t2]) Q E s := by
  have TN := TL.tn s.heap fun p hp => (N p (List.mem_append_right _ hp)).1
  obtain ⟨q, hq, -⟩ := TN.e.at_ hp
  cases hf : (nsl T p).find? fun x => Mine.nm T x == nm with
  | some j =>
    have e : setNs T p nm u = setV T j u := by unfold setNs; rw [hf]
    rw [e] at k
    obtain ⟨qj, hj, -⟩ := TN.e.at_ (W.ns_ok p j (List.mem_of_find?_eq_some hf)).2.1
    exact useTree front [qj.dx] C F N TL dis (fun a ha => by rw [List.mem_singleton.mp ha]; exact in_addrs hj (.tail _ (.head _))) hd hu (fun g' O TN => grown_same (add_ns_old_C O TN W hq hj hk sz hz hf)) fun v h' tk' qs' led' hv => k v h' tk' qs' led'
  | none =>
    have e : setNs T p nm u = addNs T p ⟨Str.ofString "namespace", nm, Str.ofString "", nm, u, some p, [], [], []⟩ := by unfold setNs; rw [hf]
    rw [e] at k
    exact useTree front [rl, q.n] C F N TL dis (mem_two hq (.tail _ (.tail _ (.tail _ (.tail _ (.head _)))))) hd hu (fun g' O TN => grown_of' (add_ns_new_C O TN W hq hk sz hz fun x hx => by have := List.find?_eq_none.mp hf x hx; simpa using this)) fun v h' tk' qs' led' hv => k v h' tk' qs' led'
end
theorem good_setAt {k p : Nat} {T : List Row} {nm lc vl : Str} (G : Good k T) (hk : k + 1 ≤ 20) (hp : p < T.length) (hkd : kd T p = Str.ofString "element") : Good (k + 1) (setAt T p nm lc vl) ∧ Keeps T (setAt T p nm lc vl) := by
  unfold setAt
  split
  · exact good_setNV G
  · exact good_addAt G hk hp hkd rfl rfl rfl rfl rfl rfl
theorem good_setNs {k p : Nat} {T : List Row} {pf u : Str} (G : Good k T) (hk : k + 1 ≤ 20) (hp : p < T.length) (hkd : kd T p = Str.ofString "element") : Good (k + 1) (setNs T p pf u) ∧ Keeps T (setNs T p pf u) := by
  unfold setNs
  split
  · exact good_setV G
  · exact good_addNs G hk hp hkd rfl rfl rfl rfl rfl rfl
example : True := by w_top off; trivial
example : True := by
  (k_with "call ref" => (k_here; (with_reducible show wpAny _ _ (call (Value.ref 478) _) _ _ _); k_dflt (refine' take_U (by with_reducible assumption) (by k_asm) (by k_asm) (by k_updF) (by with_reducible assumption) (by with_unfolding_all exact rfl) (by decide) (by decide) (by k_extra "om") (by k_extra "om") ?_); intro _ _ _ _ _ _ _ _ _; (try k_extra "dsN"); (try k_sweep)))
  (k_with "call ref" => (k_here; (with_reducible show wpAny _ _ (call (Value.ref 485) _) _ _ _); refine stop_out ?_))
  (k_with "call ref" => (k_here; (with_reducible show wpAny _ _ (call (Value.ref 277) _) _ _ _); refine stop_out ?_))
  (k_with "call ref" => (k_here; (with_reducible show wpAny _ _ (call (Value.ref 291) _) _ _ _); refine stop_out ?_))
  (k_with "call ref" => (k_here; (with_reducible show wpAny _ _ (call (Value.ref 298) _) _ _ _); refine stop_out ?_))
  (k_with "call ref" => (k_here; (with_reducible show wpAny _ _ (call (Value.ref 305) _) _ _ _); refine stop_out ?_))
  (k_with "call ref" => (k_here; (with_reducible show wpAny _ _ (call (Value.ref 326) _) _ _ _); refine stop_out ?_))
  (k_with "call ref" => (k_here; (with_reducible show wpAny _ _ (call (Value.ref 333) _) _ _ _); refine stop_out ?_))
  (k_with "call builtin:list.append" => (k_here; (with_reducible show wpAny _ _ (call (Value.builtin _) [Value.ref _, _]) _ _ _); (refine' append_v (by k_asm) (by k_asm) (by k_upd) (by k_extra "om") ?_); intro _ _ _; (try k_sweep)))
  (k_with "k_room" => ((try simp only [depth_under_make, depth_under_kw, depth_in1, depth_deeper, depth_caller]); omega))
  (k_with "k_all" => with_reducible assumption)
  (k_with "call type:range" => (k_here; (with_unfolding_all refine range1_rows (by assumption) (by assumption) ?_); intro _ _ _ _ _ _ _ _ _; (try k_sweep)))
  trivial
theorem news_differ {g h : Heap} {L : Addr} {news : List (Addr × Obj)} (N : News g L h news) {a b : Addr} {o p : Obj} (h1 : (a, o) ∈ news) (h2 : (b, p) ∈ news) (hne : o ≠ p) : @Ne Nat a b := fun e => by
  have e' : a = b := e
  subst e'
  have h3 := (N _ h1).1
  have h4 := (N _ h2).1
  dsimp only at h3 h4
  rw [h3] at h4
  exact hne (Option.some.inj h4)
theorem tree0 {w : World} {t dt rl : Addr} {tk : Tok} {n nl : Nat} (h3 : @Ne Nat t dt ∧ @Ne Nat t rl ∧ @Ne Nat dt rl) :
   TreeL w [(rl, listOf #[] nl), (t, instObj 427 dt), (dt, dictOf [⟨PyData.keyHash w.params (Str.ofString "rows"), .str (Str.ofString "rows") tk, .ref rl⟩] n)] t dt rl [] [] := by
  refine ⟨fun h2 k => ⟨⟨k _ (.tail _ (.head _)), ⟨tk, n, k _ (.tail _ (.tail _ (.head _)))⟩, ⟨nl, k _ (.head _)⟩, rfl, fun i q h => (nomatch h), (sz_nil 0).sm (by decide)⟩, h3, fun i q h => (nomatch h), fun i q h => (nomatch h), fun i j q q' h => (nomatch h)⟩, fun p hp => ?_, fun a ha => ?_⟩
  · simp only [List.mem_cons, List.not_mem_nil, or_false] at hp
    rcases hp with rfl | rfl | rfl
    · exact .tail _ (.tail _ (.head _))
    · exact .head _
    · exact .tail _ (.head _)
  · simp only [addrs, List.flatMap_nil, List.mem_cons, List.not_mem_nil, or_false] at ha
    rcases ha with rfl | rfl | rfl
    · exact ⟨_, .tail _ (.head _)⟩
    · exact ⟨_, .tail _ (.tail _ (.head _))⟩
    · exact ⟨_, .head _⟩
theorem srcIs_ne {o : Obj} (h : SrcIs o) {nl : Nat} : listOf #[] nl ≠ o := by
  obtain ⟨d, m, t, u, n, rfl, _⟩ := h
  intro e
  have := congrArg Obj.data e
  simp at this
theorem srcIs_ni {o : Obj} (h : SrcIs o) {C dx : Addr} : instObj C dx ≠ o := by
  obtain ⟨d, m, t, u, n, rfl, _⟩ := h
  intro e
  exact nomatch congrArg Obj.data e
theorem srcIs_nd {o : Obj} (h : SrcIs o) {es : List DictEntry} {n : Nat} : dictOf es n ≠ o := by
  obtain ⟨d, m, t, u, n, rfl, _⟩ := h
  intro e
  exact nomatch congrArg Obj.data e
theorem t_root0 {w : World} {A : Around} {s : Shared} {g : Heap} {L : Addr} {m : Str → Option Value} {dp un : Nat} {Q E : Value → Shared → Prop} {src t dt rl : Addr} {o : Obj} {tk : Tok} {n nl : Nat}
    (C : Callee w A g L dp un) (F : Fr g L s.heap m) (N : News g L s.heap [(rl, listOf #[] nl), (t, instObj 427 dt), (dt, dictOf [⟨PyData.keyHash w.params (Str.ofString "rows"), .str (Str.ofString "rows") tk, .ref rl⟩] n), (src, o)]) (ho : SrcIs o) (hd : 16 ≤ dp) (hu : 340 ≤ un)
    (k : ∀ tk h' tk' qs' led', Fr g L h' m → News g L h' ((src, o) :: led') → TreeL w led' t dt rl qs' ([] ++ [rootRow]) → (∀ q ∈ led', @Ne Nat q.1 src) → Q (.int 0 tk) { s with heap := h', toks := tk' }) :
    wpAny (model prg w) A (call (.ref 277) [.ref t]) Q E s := by
  have d1 := news_differ N (.tail _ (.head _)) (.tail _ (.tail _ (.head _))) (fun e => nomatch congrArg Obj.data e)
  have d2 := news_differ N (.tail _ (.head _)) (.head _) (fun e => nomatch congrArg Obj.data e)
  have d3 := news_differ N (.tail _ (.tail _ (.head _))) (.head _) (fun e => nomatch congrArg Obj.data e)
  have d4 := news_differ N (.head _) (.tail _ (.tail _ (.tail _ (.head _)))) (srcIs_ne ho)
  have d5 := news_differ N (.tail _ (.head _)) (.tail _ (.tail _ (.tail _ (.head _)))) (srcIs_ni ho)
  have d6 := news_differ N (.tail _ (.tail _ (.head _))) (.tail _ (.tail _ (.tail _ (.head _)))) (srcIs_nd ho)
  refine t_root [(src, o)] C F (led := [(rl, listOf #[] nl), (t, instObj 427 dt), (dt, dictOf [⟨PyData.keyHash w.params (Str.ofString "rows"), .str (Str.ofString "rows") tk, .ref rl⟩] n)]) (fun p hp => N p ?_) (tree0 ⟨d1, d2, d3⟩) (fun p hp q hq => ?_) (sz_nil 0) (by decide) hd hu fun tk h' tk' qs' led' F' N' TL' dis' => k tk h' tk' qs' led' F' N' TL' (dis' _ (.head _))
  · simp only [List.mem_append, List.mem_cons, List.not_mem_nil, or_false] at hp ⊢
    rcases hp with h | h | h | h <;> simp [h]
  · rw [List.mem_singleton.mp hp]
    simp only [List.mem_cons, List.not_mem_nil, or_false] at hq
    rcases hq with rfl | rfl | rfl
    · exact d4
    · exact d5
    · exact d6
theorem tree_methL {w : World} {A : Around} {E : Value → Shared → Prop} {s : Shared} {g : Heap} {L t dt rl f : Addr} {m : Str → Option Value} {news led : List (Addr × Obj)} {qs : List Rep} {T : List Row} {name : Str} {pl : Sem Bool} {Q : Value × List Value → Shared → Prop}
    (F : Fr g L s.heap m) (N : News g L s.heap news) (X : (hd.heap_1 w.params).In g) (TL : TreeL w led t dt rl qs T) (hs : ∀ p ∈ led, p ∈ news) (hg : plainGet (hd.heap_1 w.params) 427 name = true) (hf : findIn (hd.heap_1 w.params) (.ref 427) name = some (some (.ref f))) (ht : isFn (hd.heap_1 w.params) (.ref f) = true)
    (hn : (Str.ofString "rows" == name) = false) (h : Q (.ref f, [.ref t]) s) : wpAny (model prg w) A (getMethod (.ref t) name pl) Q E s := by
  have TN := TL.tn s.heap fun p hp => (N p (hs p hp)).1
  refine hidP fun P9 k9 => ?_
  obtain ⟨tk, n, e⟩ := TN.e.dict
  refine k9 ?_; clear k9 P9
  refine method_inst F X ⟨TN.e.inst, rfl, rfl, e⟩ hg hf ht ?_ h
  unfold getL
  simp only [List.find?_cons, Value.isStr, hn, List.find?_nil, List.any_cons, List.any_nil, Bool.or_false]
  rfl
example : True := by
  (k_with "getMethod ref" => (k_here; (with_reducible show wpAny _ _ (getMethod (Value.ref _) (Str.ofString _) _) _ _ _); k_dflt (refine' tree_methL (by k_asm) (by k_asm) (by k_asm) (by with_reducible assumption) (by (intro _ hp9; (repeat (first | exact hp9 | refine List.Mem.tail _ ?_)))) (by k_is) (by k_is) (by k_is) (by rfl) ?_; k_whole)))
  trivial
theorem allLt_to {d : Addr} : ∀ {l : List (Addr × Obj)}, AllLt d l → ∀ p ∈ l, @LT.lt Nat _ p.1 d
  | [], _ => fun _ h => nomatch h
  | p :: _, ⟨h, r⟩ => fun q hq => (List.mem_cons.mp hq).elim (fun e => e ▸ h) (allLt_to r q)
theorem allLt_ne {d : Addr} {l : List (Addr × Obj)} (h : AllLt d l) : ∀ p ∈ l, @Ne Nat p.1 d := fun p hp => Nat.ne_of_lt (allLt_to h p hp)
theorem pick2 {a b : Str} {t u : Tok} {r : Nat} {v : Value} (h : [Value.str a t, .str b u][r]? = some v) : ∃ x t, v = .str x t := by
  match r, h with
  | 0, h => cases h; exact ⟨_, _, rfl⟩
  | 1, h => cases h; exact ⟨_, _, rfl⟩
  | n + 2, h => simp at h
theorem pick3 {a b c : Str} {t u z : Tok} {r : Nat} {v : Value} (h : [Value.str a t, .str b u, .str c z][r]? = some v) : ∃ x t, v = .str x t := by
  match r, h with
  | 0, h => cases h; exact ⟨_, _, rfl⟩
  | 1, h => cases h; exact ⟨_, _, rfl⟩
  | 2, h => cases h; exact ⟨_, _, rfl⟩
  | n + 3, h => simp at h
theorem dis3 {led : List (Addr × Obj)} {a b c : Addr} {oa ob oc : Obj} (h1 : ∀ q ∈ led, @Ne Nat q.1 a) (h2 : ∀ q ∈ led, @Ne Nat q.1 b) (h3 : ∀ q ∈ led, @Ne Nat q.1 c) : ∀ p ∈ [(a, oa), (b, ob), (c, oc)], ∀ q ∈ led, @Ne Nat q.1 p.1 := fun p hp => by
  simp only [List.mem_cons, List.not_mem_nil, or_false] at hp
  rcases hp with rfl | rfl | rfl
  · exact h1
  · exact h2
  · exact h3
theorem tree_init_C {w : World} {A : Around} {s : Shared} {g : Heap} {x dx : Addr}
   (H : On w A g s.heap [x, dx] 6 100) (hx : s.heap.get? x = some (instObj 427 dx)) (hdx : s.heap.get? dx = some (dictOf [] 0)) (hlt : @LT.lt Nat _ dx x) :
   codeAny (model prg w) A (.call (.ref 256) ⟨[.ref x], []⟩) (BackR g s fun v h' => v = .none ∧ ∃ rl tk n, h'.get? x = some (instObj 427 dx) ∧ h'.get? dx = some (dictOf [⟨PyData.keyHash w.params (Str.ofString "rows"), .str (Str.ofString "rows") tk, .ref rl⟩] n) ∧ h'.get? rl = some (listOf #[] 0) ∧ s.heap.get? rl = none) s := by
  refine' enterGC (binds := [(Str.ofString "self", .ref x)]) [(x, instObj 427 dx), (dx, dictOf [] 0)] H (by k_extra "om") (by k_extra "om") ?hown (by k_is) (by k_is) (BindsTo.of_eq rfl) (locs rfl) ?_ (by decide) rfl rfl rfl
  case hown =>
    intro p hp
    refine hidP fun P9 k9 => ?_
    rcases List.mem_cons.mp hp with rfl | hp <;> (refine k9 ?_; clear k9 P9)
    · exact ⟨hx, .head _⟩
    · rw [List.mem_singleton.mp hp]; exact ⟨hdx, .tail _ (.head _)⟩
  intro h₁ gn9 dr9 os9 A9 L9 tk9 pr9 loose9 mean9 mg9 mb9 F' N' lo' X' T' C' hroom hun K9 hK9
  (try dsimp only)
  have lx : @LT.lt Nat _ x L9 := lo' _ (.head _)
  have ld : @LT.lt Nat _ dx L9 := lo' _ (.tail _ (.head _))
  clear lo'
  k_steps
  rename Fr _ _ _ _ => F4
  rename News _ _ _ _ => N4
  rename_i r _ lr _ _ _
  exact endN hK9 F4 ⟨rfl, r, _, _, (N4 (x, _) (by k_mem)).1, (N4 (dx, _) (by k_mem)).1, (N4 (r, listOf #[] 0) (by k_mem)).1, fresh_of H (N4 (r, listOf #[] 0) (by k_mem)).2.2 fun h => Nat.lt_irrefl _ (lr r h)⟩
theorem tree_new_U {w : World} {A : Around} {s : Shared} {h₀ : Heap} {L src : Addr} {o : Obj} {m : Str → Option Value} {dp un : Nat} {Q E : Value → Shared → Prop}
   (C : Callee w A h₀ L dp un) (F : Fr h₀ L s.heap m) (N : News h₀ L s.heap [(src, o)]) (X : (hd.heap_1 w.params).In h₀) (hd' : 7 ≤ dp) (hu : 102 ≤ un)
   (kk : ∀ t dt rl tk n h' tk', Fr h₀ L h' m → News h₀ L h' [(rl, listOf #[] 0), (t, instObj 427 dt), (dt, dictOf [⟨PyData.keyHash w.params (Str.ofString "rows"), .str (Str.ofString "rows") tk, .ref rl⟩] n), (src, o)] → Q (.ref t) { s with heap := h', toks := tk' }) :
   wpAny (model prg w) A (call (.ref 427) []) Q E s := by
  refine cls_new (fun x dx h1 h' => ∃ rl tk n, h'.get? x = some (instObj 427 dx) ∧ h'.get? dx = some (dictOf [⟨PyData.keyHash w.params (Str.ofString "rows"), .str (Str.ofString "rows") tk, .ref rl⟩] n) ∧ h'.get? rl = some (listOf #[] 0) ∧ h1.get? rl = none) C F N X (by k_is) (by k_is) (by k_is) hd' hu (fun A' g' s' x dx H hx hdx hlt => tree_init_C H hx hdx hlt) fun x dx h1 h' tk' F' N' hf _ hlt hP => ?_
  obtain ⟨rl, tk, n, e1, e2, e3, e4⟩ := hP
  refine kk x dx rl tk n h' tk' F' fun p hp => ?_
  rcases List.mem_cons.mp hp with rfl | hp
  · exact ledger_new F (hf _ (.inr (.inr e4))) e3
  rcases List.mem_cons.mp hp with rfl | hp
  · exact ledger_new F (hf _ (.inl rfl)) e1
  rcases List.mem_cons.mp hp with rfl | hp
  · exact ledger_new F (hf _ (.inr (.inl rfl))) e2
  · exact N' p hp
example : True := by
  (k_with "call ref" => (k_here; (with_reducible show wpAny _ _ (call (Value.ref 427) _) _ _ _); k_dflt (refine' tree_new_U (by with_reducible assumption) (by k_asm) (by k_asm) (by k_asm) (by k_extra "om") (by k_extra "om") ?_); intro _ _ _ _ _ _ _ _ _; (try k_sweep)))
  trivial
inductive TreeJ (w : World) (src inn t dt rl : Addr) (tk1 : Tok) (i : Nat) (m : Str → Option Value) (nx : List (Addr × Obj)) : Prop
  | mk (vs : List Value) (ni : Nat) (o : Obj) (led : List (Addr × Obj)) (qs : List Rep) (T : List Row) (ins : List Nat) (e1 : m (Str.ofString "inner") = some (.ref inn)) (e2 : m (Str.ofString "tree") = some (.ref t)) (e3 : m (Str.ofString "source") = some (.ref src)) (e4 : m (Str.ofString "root") = some (.int 0 tk1))
      (e5 : nx = (inn, listOf (List.toArray vs) ni) :: (src, o) :: led) (e6 : SrcIs o) (e7 : IntsAre vs (nat ins)) (e8 : 0 < ins.length) (e9 : ins.length ≤ i + 1) (e10 : ∀ x ∈ ins, x < T.length ∧ kd T x = Str.ofString "element") (e11 : TreeL w led t dt rl qs T) (e12 : Good (2 + i) T) (e13 : ∀ q ∈ led, @Ne Nat q.1 inn) (e14 : ∀ q ∈ led, @Ne Nat q.1 src) : TreeJ w src inn t dt rl tk1 i m nx
theorem law_tree_C {w : World} {A : Around} {s : Shared} {g : Heap} {src : Addr} {o : Obj} {tt : Tok}
   (H : On w A g s.heap [src] 30 600) (hs : s.heap.get? src = some o) (ho : SrcIs o) :
   wpAny (model prg w) A (call (.ref 492) [.ref src, .int ((7 : Nat) : Int) tt]) (BackG g s fun v h' => (∃ (a t dt rl : Addr) (tk : Tok) (n : Nat) (led : List (Addr × Obj)) (qs : List Rep) (T : List Row), v = .ref a ∧ s.heap.get? a = none ∧ h'.get? a = some (listOf (List.toArray [.ref t, .int 0 tk]) n) ∧
      (∀ q ∈ led, s.heap.get? q.1 = none ∧ h'.get? q.1 = some q.2) ∧ (∀ q ∈ led, @Ne Nat q.1 a) ∧ TreeL w led t dt rl qs T ∧ Good 12 T) ∧ ∃ o, h'.get? src = some o ∧ SrcIs o) NoErr s := by
  refine' enterG (binds := [(Str.ofString "source", .ref src), (Str.ofString "many", .int ((7 : Nat) : Int) tt)]) [(src, o)] H (by k_extra "om") (by k_extra "om") ?hown ?ho ?hcd ?hb ?hl ?_ ?c1 ?c2 ?c3 ?c4
  case hown => intro p hp; rw [List.mem_singleton.mp hp]; exact ⟨hs, .head _⟩
  case ho => k_is
  case hcd => k_is
  case hb => exact BindsTo.of_eq rfl
  case hl => exact locs rfl
  case c1 => decide
  case c2 => exact rfl
  case c3 => exact rfl
  case c4 => exact rfl
  intro h₁ gn9 dr9 os9 A9 L9 tk9 pr9 loose9 mean9 mg9 mb9 F' N' lo' X' T' C' hroom hun K9 hK9
  (try dsimp only)
  have lt1 : @LT.lt Nat _ src L9 := lo' _ (.head _)
  k_steps
  rename Fr _ _ _ _ => F0
  rename News _ _ _ _ => N0
  rename_i t dt rl _ _ _ _ _ _ _
  refine Stop.in (t_root0 C' F0 N0 ho (by k_extra "om") (by k_extra "om") ?_)
  intro tk1 h1 tk2 qs1 led1 F1 N1 TL1 dis1
  clear F0 N0
  have G1 := good_one
  have hk1 : kd ([] ++ [rootRow]) 0 = Str.ofString "root" := kd_root []
  generalize hT1 : [] ++ [rootRow] = T1 at *
  k_steps
  rename Fr _ _ _ _ => F0
  rename News _ _ _ _ => N0
  refine Stop.in (t_elem (p := 0) [(src, o)] C' F0 N0 TL1 (fun p hp => by rw [List.mem_singleton.mp hp]; exact dis1) G1.sz (by decide) G1.pos (.inl hk1) (by k_extra "om") (by k_extra "om") ?_)
  intro tk3 h3 tk4 qs2 led2 F2 N2 TL2 dis2
  refine hidP fun P9 k9 => ?_
  obtain ⟨G2, K2, hl2, hk2⟩ := good_addCh (r := ⟨Str.ofString "element", Str.ofString "r", Str.ofString "", Str.ofString "r", Str.ofString "", some 0, [], [], []⟩) G1 (by decide) G1.pos (.inl hk1) rfl rfl rfl rfl rfl (.inl rfl)
  refine k9 ?_; clear k9 P9
  have hl1 : T1.length = 1 := by rw [← hT1]; rfl
  have dis2' := dis2 _ (.head _)
  dsimp only at dis2'
  rw [hl1]
  generalize addCh T1 0 _ = T2 at *
  clear F0 N0 TL1 dis1 G1 hk1 hT1 dis2
  dsimp only [List.cons_append, List.nil_append] at N2
  k_steps
  rename Fr _ _ _ _ => F0
  rename News _ _ _ _ => N0
  rename_i inn _ lin _ _ _ r1 _ o1 _ _ hr1 ho1 _ _ _ _ _ hR up9
  have dI2 : ∀ q ∈ led2, @Ne Nat q.1 inn := fun q hq => Nat.ne_of_lt (lin _ (.tail _ (List.mem_map.mpr ⟨q, hq, rfl⟩)))
  have hr1' : r1 < 7 := hr1
  refine Stop.in (for_rng (n := r1) (TreeJ w src inn t dt rl tk1) rfl hR (by k_extra "om") F0 N0
    ⟨[.int ((1 : Nat) : Int) tk3], 0, o1, led2, qs2, T2, [1], rfl, rfl, rfl, rfl, rfl, ho1, .cons _ _ .nil, by decide, by decide, ?_, TL2, G2, dI2, dis2'⟩ ?_ ?_)
  · intro x hx
    rw [List.mem_singleton.mp hx]
    exact ⟨by rw [hl2, hl1]; decide, by rw [← hl1]; exact hk2⟩
  · intro i tt m nx h tk I oI hi hJ1 hne F1 N1
    refine hidP fun P9 k9 => ?_
    obtain ⟨vs, ni, o, led, qs, T, ins, m1, m2, m3, m4, rfl, hoo, hia, hi0, hil, hins, TL, G, dI, dS⟩ := hJ1
    refine k9 ?_; clear k9 P9
    clear F0 N0 hR dI2 TL2 dis2'
    have hvl : vs.length = ins.length := by rw [hia.length, nat_len]
    simp only [List.forall_mem_cons] at hne
    refine hidP fun P9 k9 => ?_
    obtain ⟨q1, q2, q3⟩ := hne
    refine k9 ?_; clear k9 P9
    have q4 : @Ne Nat inn src := Nat.ne_of_gt (lin _ (.head _))
    have F2 := know_all [(Str.ofString "inner", .ref inn), (Str.ofString "tree", .ref t), (Str.ofString "source", .ref src), (Str.ofString "root", .int 0 tk1)] F1 ⟨(if_neg (show ¬ Str.ofString "inner" = Str.ofString "turn" by decide)).trans m1, (if_neg (show ¬ Str.ofString "tree" = Str.ofString "turn" by decide)).trans m2, (if_neg (show ¬ Str.ofString "source" = Str.ofString "turn" by decide)).trans m3, (if_neg (show ¬ Str.ofString "root" = Str.ofString "turn" by decide)).trans m4, trivial⟩
    clear F1
    k_steps
    rename Fr _ _ _ _ => F3
    rename News _ _ _ _ => N3
    refine Stop.in (one_U C' F3 N3 (by k_updF) hoo (N3 _ (.tail _ (.head _))).1 q4 (by k_extra "om") (by k_extra "om") (by k_extra "om") (by k_extra "om") ?_)
    intro r v o2 h2 tk2 hr hso2 F4 N4
    clear F3 N3
    have hrl : r < ins.length := by rw [← hvl]; exact (List.getElem?_eq_some_iff.mp hr).1
    refine hidP fun P9 k9 => ?_
    obtain ⟨tx, htx⟩ := hia.get r (ins[r] : Int) (by unfold nat; show (ins.map _)[r]? = _; simp [hrl])
    refine k9 ?_; clear k9 P9
    rw [hr] at htx
    cases htx
    have hx := hins _ (List.getElem_mem hrl)
    generalize ins[r] = p at *
    (try dsimp only at N4)
    have hnl : (nat ins).length ≤ 20 := by rw [nat_len]; omega
    have hk2 := hx.2
    k_steps
    · rename Fr _ _ _ _ => F5
      rename News _ _ _ _ => N5
      rename SrcIs _ => hso
      rename_i lx
      refine Stop.in (one_U C' F5 N5 (by k_updF) hso (N5 _ (.head _)).1 (Nat.ne_of_gt (lx src (by k_mem))) (by simp) (by simp) (by k_extra "om") (by k_extra "om") ?_)
      intro r5 v5 o5 h5 tk5 hr5 ho5 F6 N6
      refine hidP fun P9 k9 => ?_
      obtain ⟨x5, t5, rfl⟩ := pick2 hr5
      refine k9 ?_; clear k9 P9
      (try dsimp only at N6)
      clear F5 N5 hso
      k_steps
      rename Fr _ _ _ _ => F7
      rename News _ _ _ _ => N7
      have N7' := fun q hq => N7 q (.tail _ (.tail _ hq))
      refine Stop.in (t_elem (p := p) [(I, oI), (inn, listOf (List.toArray vs) ni), (src, _)] C' F7 N7' TL (dis3 q3 dI dS) G.sz (by k_extra "om") hx.1 (.inr hk2) (by k_extra "om") (by k_extra "om") ?_)
      intro tk8 h8 tk9 qs8 led8 F8 N8 TL8 dis8
      have dI8 := dis8 _ (.head _)
      have dN8 := dis8 _ (.tail _ (.head _))
      have dS8 := dis8 _ (.tail _ (.tail _ (.head _)))
      (try dsimp only [List.cons_append, List.nil_append] at N8 dI8 dN8 dS8)
      clear F7 N7 N7' dis8
      refine hidP fun P9 k9 => ?_
      obtain ⟨G8, K8, hl8, hk8⟩ := good_addCh (r := ⟨Str.ofString "element", x5, Str.ofString "", Str.ofString "a", Str.ofString "", some p, [], [], []⟩) G (by k_extra "om") hx.1 (.inr hk2) rfl rfl rfl rfl rfl (.inl rfl)
      refine k9 ?_; clear k9 P9
      generalize addCh T p _ = T8 at *
      k_steps
      rename Fr _ _ _ _ => F9
      rename News _ _ _ _ => N9
      refine turn_over ((inn, listOf (List.toArray (vs ++ [.int (T.length : Int) tk8])) (ni + 1)) :: (src, o5) :: led8) F9 N9 (by k_mem) (fun q hq => .tail _ hq) (fun q hq => ?_)
        ⟨vs ++ [.int (T.length : Int) tk8], ni + 1, o5, led8, qs8, T8, ins ++ [T.length], rfl, rfl, rfl, rfl, rfl, ho5, ?_, by simp, by simp; omega, ?_, TL8, G8, dN8, dS8⟩
      · refine hidP fun P9 k9 => ?_
        rcases List.mem_cons.mp hq with rfl | hq <;> (refine k9 ?_; clear k9 P9)
        · exact q1
        · refine hidP fun P9 k9 => ?_
          rcases List.mem_cons.mp hq with rfl | hq <;> (refine k9 ?_; clear k9 P9)
          · exact q2
          · exact dI8 q hq
      · rw [nat_append]; exact hia.append (.cons _ _ .nil)
      · intro y hy
        refine hidP fun P9 k9 => ?_
        rcases List.mem_append.mp hy with hy | hy <;> (refine k9 ?_; clear k9 P9)
        · exact ⟨(K8 y (hins y hy).1).1, ((K8 y (hins y hy).1).2).trans (hins y hy).2⟩
        · rw [List.mem_singleton.mp hy]; exact ⟨by omega, hk8⟩
    · rename Fr _ _ _ _ => F7
      rename News _ _ _ _ => N7
      rename SrcIs _ => hso
      have N7' := fun q hq => N7 q (.tail _ hq)
      clear N7
      refine Stop.in (t_text (p := p) [(I, oI), (inn, listOf (List.toArray vs) ni), (src, _)] C' F7 N7' TL (dis3 q3 dI dS) G.sz (by k_extra "om") hx.1 (.inr hk2) (by k_extra "om") (by k_extra "om") ?_)
      intro v8 h8 tk9 qs8 led8 F8 N8 TL8 dis8
      have dI8 := dis8 _ (.head _)
      have dN8 := dis8 _ (.tail _ (.head _))
      have dS8 := dis8 _ (.tail _ (.tail _ (.head _)))
      (try dsimp only [List.cons_append, List.nil_append] at N8 dI8 dN8 dS8)
      clear F7 N7' dis8
      refine hidP fun P9 k9 => ?_
      obtain ⟨G8, K8, -, -⟩ := good_addCh (r := ⟨Str.ofString "text", Str.ofString "", Str.ofString "", Str.ofString "", Str.ofString "x", some p, [], [], []⟩) G (by k_extra "om") hx.1 (.inr hk2) rfl rfl rfl rfl rfl (.inr (.inl rfl))
      refine k9 ?_; clear k9 P9
      generalize addCh T p _ = T8 at *
      k_steps
      rename Fr _ _ _ _ => F9
      rename News _ _ _ _ => N9
      refine turn_over ((inn, listOf (List.toArray vs) ni) :: (src, _) :: led8) F9 N9 (by k_mem) (fun q hq => .tail _ hq) (fun q hq => ?_)
        ⟨vs, ni, _, led8, qs8, T8, ins, rfl, rfl, rfl, rfl, rfl, hso, hia, hi0, by omega, fun y hy => ⟨(K8 y (hins y hy).1).1, ((K8 y (hins y hy).1).2).trans (hins y hy).2⟩, TL8, G8, dN8, dS8⟩
      refine hidP fun P9 k9 => ?_
      rcases List.mem_cons.mp hq with rfl | hq <;> (refine k9 ?_; clear k9 P9)
      · exact q1
      · refine hidP fun P9 k9 => ?_
        rcases List.mem_cons.mp hq with rfl | hq <;> (refine k9 ?_; clear k9 P9)
        · exact q2
        · exact dI8 q hq
    · rename Fr _ _ _ _ => F7
      rename News _ _ _ _ => N7
      rename SrcIs _ => hso
      have N7' := fun q hq => N7 q (.tail _ hq)
      clear N7
      refine Stop.in (t_comment (p := p) [(I, oI), (inn, listOf (List.toArray vs) ni), (src, _)] C' F7 N7' TL (dis3 q3 dI dS) G.sz (by k_extra "om") hx.1 (.inr hk2) (by k_extra "om") (by k_extra "om") ?_)
      intro v8 h8 tk9 qs8 led8 F8 N8 TL8 dis8
      have dI8 := dis8 _ (.head _)
      have dN8 := dis8 _ (.tail _ (.head _))
      have dS8 := dis8 _ (.tail _ (.tail _ (.head _)))
      (try dsimp only [List.cons_append, List.nil_append] at N8 dI8 dN8 dS8)
      clear F7 N7' dis8
      refine hidP fun P9 k9 => ?_
      obtain ⟨G8, K8, -, -⟩ := good_addCh (r := ⟨Str.ofString "comment", Str.ofString "", Str.ofString "", Str.ofString "", Str.ofString "c", some p, [], [], []⟩) G (by k_extra "om") hx.1 (.inr hk2) rfl rfl rfl rfl rfl (.inr (.inr rfl))
      refine k9 ?_; clear k9 P9
      generalize addCh T p _ = T8 at *
      k_steps
      rename Fr _ _ _ _ => F9
      rename News _ _ _ _ => N9
      refine turn_over ((inn, listOf (List.toArray vs) ni) :: (src, _) :: led8) F9 N9 (by k_mem) (fun q hq => .tail _ hq) (fun q hq => ?_)
        ⟨vs, ni, _, led8, qs8, T8, ins, rfl, rfl, rfl, rfl, rfl, hso, hia, hi0, by omega, fun y hy => ⟨(K8 y (hins y hy).1).1, ((K8 y (hins y hy).1).2).trans (hins y hy).2⟩, TL8, G8, dN8, dS8⟩
      refine hidP fun P9 k9 => ?_
      rcases List.mem_cons.mp hq with rfl | hq <;> (refine k9 ?_; clear k9 P9)
      · exact q1
      · refine hidP fun P9 k9 => ?_
        rcases List.mem_cons.mp hq with rfl | hq <;> (refine k9 ?_; clear k9 P9)
        · exact q2
        · exact dI8 q hq
    · rename Fr _ _ _ _ => F5
      rename News _ _ _ _ => N5
      rename SrcIs _ => hso
      rename_i lx
      refine Stop.in (one_U C' F5 N5 (by k_updF) hso (N5 _ (.head _)).1 (Nat.ne_of_gt (lx src (by k_mem))) (by simp) (by simp) (by k_extra "om") (by k_extra "om") ?_)
      intro r5 v5 o5 h5 tk5 hr5 ho5 F6 N6
      refine hidP fun P9 k9 => ?_
      obtain ⟨x5, t5, rfl⟩ := pick2 hr5
      refine k9 ?_; clear k9 P9
      (try dsimp only at N6)
      clear F5 N5 hso
      k_steps
      rename Fr _ _ _ _ => F5
      rename News _ _ _ _ => N5
      rename_i lx2
      refine Stop.in (one_U C' F5 N5 (by k_updF) ho5 (N5 _ (.head _)).1 (Nat.ne_of_gt (lx2 src (by k_mem))) (by simp) (by simp) (by k_extra "om") (by k_extra "om") ?_)
      intro r6 v6 o6 h6 tk6 hr6 hso F7 N7
      refine hidP fun P9 k9 => ?_
      obtain ⟨x6, t6, rfl⟩ := pick2 hr6
      refine k9 ?_; clear k9 P9
      (try dsimp only at N7)
      clear F5 N5 ho5
      k_steps
      rename Fr _ _ _ _ => F7
      rename News _ _ _ _ => N7
      have N7' := fun q hq => N7 q (.tail _ (.tail _ (.tail _ hq)))
      clear N7
      refine Stop.in (t_attr (p := p) [(I, oI), (inn, listOf (List.toArray vs) ni), (src, _)] C' F7 N7' TL (dis3 q3 dI dS) G.wf G.sz (by k_extra "om") hx.1 hk2 (by k_extra "om") (by k_extra "om") ?_)
      intro v8 h8 tk9 qs8 led8 F8 N8 TL8 dis8
      have dI8 := dis8 _ (.head _)
      have dN8 := dis8 _ (.tail _ (.head _))
      have dS8 := dis8 _ (.tail _ (.tail _ (.head _)))
      (try dsimp only [List.cons_append, List.nil_append] at N8 dI8 dN8 dS8)
      clear F7 N7' dis8
      refine hidP fun P9 k9 => ?_
      obtain ⟨G8, K8⟩ := good_setAt (nm := x5) (lc := x6) (vl := Str.ofString "v") G (by k_extra "om") hx.1 hk2
      refine k9 ?_; clear k9 P9
      generalize setAt T p _ _ _ = T8 at *
      k_steps
      rename Fr _ _ _ _ => F9
      rename News _ _ _ _ => N9
      refine turn_over ((inn, listOf (List.toArray vs) ni) :: (src, _) :: led8) F9 N9 (by k_mem) (fun q hq => .tail _ hq) (fun q hq => ?_)
        ⟨vs, ni, _, led8, qs8, T8, ins, rfl, rfl, rfl, rfl, rfl, hso, hia, hi0, by omega, fun y hy => ⟨(K8 y (hins y hy).1).1, ((K8 y (hins y hy).1).2).trans (hins y hy).2⟩, TL8, G8, dN8, dS8⟩
      refine hidP fun P9 k9 => ?_
      rcases List.mem_cons.mp hq with rfl | hq <;> (refine k9 ?_; clear k9 P9)
      · exact q1
      · refine hidP fun P9 k9 => ?_
        rcases List.mem_cons.mp hq with rfl | hq <;> (refine k9 ?_; clear k9 P9)
        · exact q2
        · exact dI8 q hq
    · rename Fr _ _ _ _ => F5
      rename News _ _ _ _ => N5
      rename SrcIs _ => hso
      rename_i lx
      refine Stop.in (one_U C' F5 N5 (by k_updF) hso (N5 _ (.head _)).1 (Nat.ne_of_gt (lx src (by k_mem))) (by simp) (by simp) (by k_extra "om") (by k_extra "om") ?_)
      intro r5 v5 o5 h5 tk5 hr5 ho5 F6 N6
      refine hidP fun P9 k9 => ?_
      obtain ⟨x5, t5, rfl⟩ := pick3 hr5
      refine k9 ?_; clear k9 P9
      (try dsimp only at N6)
      clear F5 N5 hso
      k_steps
      rename Fr _ _ _ _ => F5
      rename News _ _ _ _ => N5
      rename_i lx2
      refine Stop.in (one_U C' F5 N5 (by k_updF) ho5 (N5 _ (.head _)).1 (Nat.ne_of_gt (lx2 src (by k_mem))) (by simp) (by simp) (by k_extra "om") (by k_extra "om") ?_)
      intro r6 v6 o6 h6 tk6 hr6 hso F7 N7
      refine hidP fun P9 k9 => ?_
      obtain ⟨x6, t6, rfl⟩ := pick3 hr6
      refine k9 ?_; clear k9 P9
      (try dsimp only at N7)
      clear F5 N5 ho5
      k_steps
      rename Fr _ _ _ _ => F7
      rename News _ _ _ _ => N7
      have N7' := fun q hq => N7 q (.tail _ (.tail _ (.tail _ hq)))
      clear N7
      refine Stop.in (t_ns (p := p) [(I, oI), (inn, listOf (List.toArray vs) ni), (src, _)] C' F7 N7' TL (dis3 q3 dI dS) G.wf G.sz (by k_extra "om") hx.1 hk2 (by k_extra "om") (by k_extra "om") ?_)
      intro v8 h8 tk9 qs8 led8 F8 N8 TL8 dis8
      have dI8 := dis8 _ (.head _)
      have dN8 := dis8 _ (.tail _ (.head _))
      have dS8 := dis8 _ (.tail _ (.tail _ (.head _)))
      (try dsimp only [List.cons_append, List.nil_append] at N8 dI8 dN8 dS8)
      clear F7 N7' dis8
      refine hidP fun P9 k9 => ?_
      obtain ⟨G8, K8⟩ := good_setNs (pf := x5) (u := x6) G (by k_extra "om") hx.1 hk2
      refine k9 ?_; clear k9 P9
      generalize setNs T p _ _ = T8 at *
      k_steps
      rename Fr _ _ _ _ => F9
      rename News _ _ _ _ => N9
      refine turn_over ((inn, listOf (List.toArray vs) ni) :: (src, _) :: led8) F9 N9 (by k_mem) (fun q hq => .tail _ hq) (fun q hq => ?_)
        ⟨vs, ni, _, led8, qs8, T8, ins, rfl, rfl, rfl, rfl, rfl, hso, hia, hi0, by omega, fun y hy => ⟨(K8 y (hins y hy).1).1, ((K8 y (hins y hy).1).2).trans (hins y hy).2⟩, TL8, G8, dN8, dS8⟩
      refine hidP fun P9 k9 => ?_
      rcases List.mem_cons.mp hq with rfl | hq <;> (refine k9 ?_; clear k9 P9)
      · exact q1
      · refine hidP fun P9 k9 => ?_
        rcases List.mem_cons.mp hq with rfl | hq <;> (refine k9 ?_; clear k9 P9)
        · exact q2
        · exact dI8 q hq
  · intro m nx h tk hJ1 F1 N1
    refine hidP fun P9 k9 => ?_
    obtain ⟨vs, ni, o, led, qs, T, ins, m1, m2, m3, m4, rfl, hoo, hia, hi0, hil, hins, TL, G, dI, dS⟩ := hJ1
    refine k9 ?_; clear k9 P9
    clear F0 N0 hR dI2 TL2 dis2'
    have F2 := know (know (know (know F1 m1) ((if_neg (by decide)).trans m2)) ((if_neg (by decide)).trans ((if_neg (by decide)).trans m3))) ((if_neg (by decide)).trans ((if_neg (by decide)).trans ((if_neg (by decide)).trans m4)))
    clear F1
    k_steps
    rename Fr _ _ _ _ => F3
    rename News _ _ _ _ => N3
    have G10 := G.len
    have hpos := G.pos
    refine Stop.in (t_root [(inn, listOf (List.toArray vs) ni), (src, o)] C' F3 N3 TL ?_ G.sz (by k_extra "om") (by k_extra "om") (by k_extra "om") ?_)
    · intro p hp
      refine hidP fun P9 k9 => ?_
      rcases List.mem_cons.mp hp with rfl | hp <;> (refine k9 ?_; clear k9 P9)
      · exact dI
      · rw [List.mem_singleton.mp hp]; exact dS
    intro tk5 h5 tk6 qs5 led5 F5 N5 TL5 dis5
    have dI5 := dis5 _ (.head _)
    have dS5 := dis5 _ (.tail _ (.head _))
    refine hidP fun P9 k9 => ?_
    obtain ⟨G5, K5⟩ := good_root G (by k_extra "om")
    refine k9 ?_; clear k9 P9
    have hk5 := kd_root T
    have hl5 : T.length < (T ++ [rootRow]).length := by simp
    generalize T ++ [rootRow] = T5 at *
    (try dsimp only [List.cons_append, List.nil_append] at N5 dI5 dS5)
    clear F3 N3 dis5
    k_steps
    rename Fr _ _ _ _ => F7
    rename News _ _ _ _ => N7
    refine Stop.in (t_elem (p := T.length) [(inn, listOf (List.toArray vs) ni), (src, o)] C' F7 N7 TL5 ?_ G5.sz (by k_extra "om") hl5 (.inl hk5) (by k_extra "om") (by k_extra "om") ?_)
    · intro p hp
      refine hidP fun P9 k9 => ?_
      rcases List.mem_cons.mp hp with rfl | hp <;> (refine k9 ?_; clear k9 P9)
      · exact dI5
      · rw [List.mem_singleton.mp hp]; exact dS5
    intro tk8 h8 tk9 qs8 led8 F8 N8 TL8 dis8
    have dI8 := dis8 _ (.head _)
    have dS8 := dis8 _ (.tail _ (.head _))
    (try dsimp only [List.cons_append, List.nil_append] at N8 dI8 dS8)
    refine hidP fun P9 k9 => ?_
    obtain ⟨G8, K8, -, -⟩ := good_addCh (r := ⟨Str.ofString "element", Str.ofString "other", Str.ofString "", Str.ofString "other", Str.ofString "", some T.length, [], [], []⟩) G5 (by k_extra "om") hl5 (.inl hk5) rfl rfl rfl rfl rfl (.inl rfl)
    refine k9 ?_; clear k9 P9
    generalize addCh T5 T.length _ = T8 at *
    clear F7 N7 dis8
    k_steps
    rename Fr _ _ _ _ => F9
    rename News _ _ _ _ => N9
    rename_i ra _ lz
    exact endK hK9 F9 ⟨⟨ra, t, dt, rl, tk1, 0, led8, qs8, T8, rfl, fresh_of H (N9 _ (.head _)).2.2 (by simpa using Nat.ne_of_gt (lz src (by k_mem))), (N9 _ (.head _)).1, fun q hq => ⟨fresh_of H (N9 q (.tail _ (.tail _ (.tail _ hq)))).2.2 (by simpa using dS8 q hq), (N9 q (.tail _ (.tail _ (.tail _ hq)))).1⟩, fun q hq => Nat.ne_of_lt (lz _ (.tail _ (.tail _ (List.mem_map.mpr ⟨q, hq, rfl⟩)))), TL8, G8.up (by k_extra "om")⟩, o, (N9 _ (.tail _ (.tail _ (.head _)))).1, hoo⟩
example : True := by w_top off; trivial
noncomputable def KOk {α : Type} (n : Nat) (c : Nat → Nat → Bool) (R : α → Prop) : KasT α → Prop
  | .ret a => R a
  | .ask i j k => i < n ∧ j < n ∧ KOk n c R (k (c i j))
theorem KOk.bind {α β : Type} {n : Nat} {c : Nat → Nat → Bool} {R : β → Prop} {f : α → KasT β} : ∀ (t : KasT α), KOk n c (fun a => KOk n c R (f a)) t → KOk n c R (t.bind f)
  | .ret _, h => h
  | .ask _ _ k, h => ⟨h.1, h.2.1, KOk.bind (k _) h.2.2⟩
theorem KOk.mono {α : Type} {n : Nat} {c : Nat → Nat → Bool} {R R' : α → Prop} (hr : ∀ a, R a → R' a) : ∀ (t : KasT α), KOk n c R t → KOk n c R' t
  | .ret _, h => hr _ h
  | .ask _ _ k, h => ⟨h.1, h.2.1, KOk.mono hr (k _) h.2.2⟩
theorem KOk.wp {α : Type} {n : Nat} {c : Nat → Nat → Bool} {R : α → Prop} {cmp : Nat → Nat → (Bool → Shared → Prop) → Shared → Prop} {Q : α → Shared → Prop} (Inv : Shared → Prop)
    (hc : ∀ i j C s, i < n → j < n → Inv s → (∀ s', Inv s' → C (c i j) s') → cmp i j C s) (hq : ∀ a s, R a → Inv s → Q a s) : ∀ (t : KasT α) (s : Shared), KOk n c R t → Inv s → t.kasWp cmp Q s
  | .ret _, s, h, hi => hq _ s h hi
  | .ask i j k, s, h, hi => hc i j _ s h.1 h.2.1 hi fun s' hi' => KOk.wp Inv hc hq (k _) s' h.2.2 hi'
structure Ord (n : Nat) (c : Nat → Nat → Bool) : Prop where
  tr : ∀ i j k, c i j = true → c j k = true → c i k = true
  as : ∀ i j, c i j = true → c j i = false
  di : ∀ i j, i < n → j < n → i ≠ j → c i j = false → c j i = true
noncomputable def Pm (n : Nat) (p : Array Nat) : Prop := p.size = n ∧ (∀ a, a < n → p.getD a 0 < n) ∧ ∀ a b, a < n → b < n → a ≠ b → p.getD a 0 ≠ p.getD b 0
noncomputable def Sd (c : Nat → Nat → Bool) (p : Array Nat) (k : Nat) : Prop := ∀ a b, a < b → b < k → c (p.getD a 0) (p.getD b 0) = true
noncomputable def Dd (c : Nat → Nat → Bool) (p : Array Nat) (k : Nat) : Prop := ∀ a b, a < b → b < k → c (p.getD b 0) (p.getD a 0) = true
theorem getD_of {p q : Array Nat} {i j : Nat} (h : p[i]? = q[j]?) : p.getD i 0 = q.getD j 0 := by
  simp only [Array.getD_eq_getD_getElem?, h]
section
variable {a b f k l m n r j : Nat}
theorem n1 (h : k + (f + 1) ≤ n) : k < n := Nat.lt_of_lt_of_le (Nat.lt_add_of_pos_right (Nat.succ_pos f)) h
theorem n2 (h : k + (f + 1) ≤ n) : k - 1 < n := Nat.lt_of_le_of_lt (Nat.sub_le k 1) (n1 h)
theorem n3 (h : 1 ≤ k) : k ≠ k - 1 := Ne.symm (Nat.ne_of_lt (Nat.sub_lt h Nat.one_pos))
theorem n4 : k + 1 + f = k + (f + 1) := by rw [Nat.add_assoc, Nat.add_comm 1 f]
theorem n8 (hb : b < k + 1) (e : ¬b = k) : b < k := Nat.lt_of_le_of_ne (Nat.le_of_lt_succ hb) e
theorem n9 (hab : a < b) (e : ¬a = b - 1) : a < b - 1 := Nat.lt_of_le_of_ne (Nat.le_sub_one_of_lt hab) e
theorem n10 (hab : a < b) : b - 1 < b := Nat.sub_lt (Nat.lt_of_le_of_lt (Nat.zero_le _) hab) Nat.one_pos
theorem r1 (hm : m ≤ n) (h : a < m) : m - 1 - a < n := Nat.lt_of_le_of_lt (Nat.sub_le _ _) (Nat.lt_of_lt_of_le (n10 h) hm)
theorem r2 (ha : a < m) (hb : b < m) (h : a ≠ b) : m - 1 - a ≠ m - 1 - b := by omega
theorem r3 (ha : a < m) (h : ¬b < m) : m - 1 - a ≠ b := by omega
theorem m1 (h : ¬l ≥ r) : l ≤ (l + r) / 2 := by omega
theorem m2 (h : ¬l ≥ r) : (l + r) / 2 < r := by omega
theorem m3 (h : ¬l ≥ r) (h3 : r - l ≤ f + 1) : (l + r) / 2 - l ≤ f := by omega
theorem m4 (h : ¬l ≥ r) (h3 : r - l ≤ f + 1) : r - ((l + r) / 2 + 1) ≤ f := by omega
theorem m5 (h : r - l ≤ 0) (h1 : l ≤ r) : l = r := Nat.le_antisymm h1 (Nat.le_of_sub_eq_zero (Nat.le_zero.mp h))
noncomputable def sh (l k j : Nat) : Nat := if j = l then k else if l < j ∧ j ≤ k then j - 1 else j
theorem sh_lt (hk : k < n) (h : j < n) : sh l k j < n := by
  unfold sh
  split
  · exact hk
  · split
    · exact Nat.lt_of_le_of_lt (Nat.sub_le _ _) h
    · exact h
theorem sh_l : sh l k l = k := if_pos rfl
theorem sh_hi (h : l < j) (h2 : j ≤ k) : sh l k j = j - 1 := by unfold sh; rw [if_neg (Nat.ne_of_gt h), if_pos ⟨h, h2⟩]
theorem sh_lo (h : j < l) : sh l k j = j := by unfold sh; rw [if_neg (Nat.ne_of_lt h), if_neg fun q => absurd (Nat.lt_trans q.1 h) (Nat.lt_irrefl _)]
theorem sh_up (hl : l ≤ k) (h : k < j) : sh l k j = j := by unfold sh; rw [if_neg (Nat.ne_of_gt (Nat.lt_of_le_of_lt hl h)), if_neg fun q => absurd (Nat.lt_of_lt_of_le h q.2) (Nat.lt_irrefl _)]
theorem sh_cases (hl : l ≤ k) (hab : a < b) (hb : b < k + 1) : (sh l k a < sh l k b ∧ sh l k b < k) ∨ (sh l k a = k ∧ l ≤ sh l k b ∧ sh l k b < k) ∨ (sh l k b = k ∧ sh l k a < l) := by
  rcases Nat.lt_trichotomy b l with h | rfl | h
  · rw [sh_lo h, sh_lo (Nat.lt_trans hab h)]; exact .inl ⟨hab, Nat.lt_of_lt_of_le h hl⟩
  · rw [sh_l, sh_lo hab]; exact .inr (.inr ⟨rfl, hab⟩)
  · have hb' := Nat.le_of_lt_succ hb
    have h1 := Nat.lt_of_lt_of_le (n10 h) hb'
    have h2 := Nat.le_sub_one_of_lt h
    rw [sh_hi h hb']
    rcases Nat.lt_trichotomy a l with q | rfl | q
    · rw [sh_lo q]; exact .inl ⟨Nat.lt_of_lt_of_le q h2, h1⟩
    · rw [sh_l]; exact .inr (.inl ⟨rfl, h2, h1⟩)
    · rw [sh_hi q (Nat.le_trans (Nat.le_of_lt hab) hb')]
      exact .inl ⟨Nat.sub_lt_sub_right (Nat.lt_of_le_of_lt (Nat.zero_le _) q) hab, h1⟩
theorem sh_ne (hl : l ≤ k) (hab : a < b) : sh l k a ≠ sh l k b := by
  by_cases hb : b < k + 1
  · rcases sh_cases hl hab hb with h | h | h
    · exact Nat.ne_of_lt h.1
    · rw [h.1]; exact Ne.symm (Nat.ne_of_lt h.2.2)
    · rw [h.1]; exact Nat.ne_of_lt (Nat.lt_of_lt_of_le h.2 hl)
  · have hk : k < b := Nat.le_of_not_lt hb
    rw [sh_up hl hk]; exact Nat.ne_of_lt (sh_lt hk hab)
theorem sh_inj (hl : l ≤ k) (h : a ≠ b) : sh l k a ≠ sh l k b := (Nat.lt_or_gt_of_ne h).elim (sh_ne hl) fun q => Ne.symm (sh_ne hl q)
end
section
variable {n : Nat} {c : Nat → Nat → Bool}
theorem asc_ok (O : Ord n c) {p : Array Nat} (P : Pm n p) : ∀ f k, 1 ≤ k → k + f ≤ n → Sd c p k →
    KOk n c (fun m => k ≤ m ∧ m ≤ k + f ∧ Sd c p m ∧ (m < k + f → c (p.getD m 0) (p.getD (m - 1) 0) = true)) (kas_asc p f k)
  | 0, k, h1, h2, hs => ⟨Nat.le_refl _, Nat.le_refl _, hs, fun h => absurd h (Nat.lt_irrefl _)⟩
  | f + 1, k, h1, h2, hs => by
    refine ⟨P.2.1 _ (n1 h2), P.2.1 _ (n2 h2), ?_⟩
    cases q : c (p.getD k 0) (p.getD (k - 1) 0) with
    | true => exact ⟨Nat.le_refl _, Nat.le_add_right _ _, hs, fun _ => q⟩
    | false =>
      simp only [Bool.false_eq_true, if_false]
      have hd := O.di _ _ (P.2.1 k (n1 h2)) (P.2.1 (k - 1) (n2 h2)) (P.2.2 k (k - 1) (n1 h2) (n2 h2) (n3 h1)) q
      have e4 : k + 1 + f = k + (f + 1) := n4
      refine KOk.mono (fun m h => ⟨Nat.le_of_succ_le h.1, e4 ▸ h.2.1, h.2.2.1, fun h' => h.2.2.2 (e4 ▸ h')⟩) _ (asc_ok O P f (k + 1) (Nat.le_add_left _ _) (e4 ▸ h2) ?_)
      intro a b hab hb
      by_cases e : b = k
      · subst e
        by_cases e2 : a = b - 1
        · subst e2; exact hd
        · exact O.tr _ _ _ (hs a (b - 1) (n9 hab e2) (n10 hab)) hd
      · exact hs a b hab (n8 hb e)
theorem desc_ok (O : Ord n c) {p : Array Nat} (P : Pm n p) : ∀ f k, 1 ≤ k → k + f ≤ n → Dd c p k →
    KOk n c (fun r => r.1 = p ∧ r.2.2 = 0 ∧ k ≤ r.2.1 ∧ r.2.1 ≤ k + f ∧ Dd c p r.2.1) (kas_desc f p k 0)
  | 0, k, h1, h2, hs => ⟨rfl, rfl, Nat.le_refl _, Nat.le_refl _, hs⟩
  | f + 1, k, h1, h2, hs => by
    refine ⟨P.2.1 _ (n1 h2), P.2.1 _ (n2 h2), ?_⟩
    cases q : c (p.getD k 0) (p.getD (k - 1) 0) with
    | true =>
      simp only [if_true, Nat.lt_irrefl, gt_iff_lt, if_false]
      have e4 : k + 1 + f = k + (f + 1) := n4
      refine KOk.mono (fun m h => ⟨h.1, h.2.1, Nat.le_of_succ_le h.2.2.1, e4 ▸ h.2.2.2.1, h.2.2.2.2⟩) _ (desc_ok O P f (k + 1) (Nat.le_add_left _ _) (e4 ▸ h2) ?_)
      intro a b hab hb
      by_cases e : b = k
      · subst e
        by_cases e2 : a = b - 1
        · subst e2; exact q
        · exact O.tr _ _ _ q (hs a (b - 1) (n9 hab e2) (n10 hab))
      · exact hs a b hab (n8 hb e)
    | false =>
      simp only [Bool.false_eq_true, if_false]
      have hd := O.di _ _ (P.2.1 k (n1 h2)) (P.2.1 (k - 1) (n2 h2)) (P.2.2 k (k - 1) (n1 h2) (n2 h2) (n3 h1)) q
      refine ⟨P.2.1 _ (n2 h2), P.2.1 _ (n1 h2), ?_⟩
      rw [hd]
      exact ⟨rfl, rfl, Nat.le_refl _, Nat.le_add_right _ _, hs⟩
theorem rev_get {p : Array Nat} {m k : Nat} (hm : m ≤ p.size) : (kas_rev p 0 m).getD k 0 = if k < m then p.getD (m - 1 - k) 0 else p.getD k 0 := by
  have h := getElem?_mirror_all (xs := p) (i := 0) hm k
  unfold kas_rev
  by_cases q : k < m
  · rw [if_pos ⟨Nat.zero_le _, q⟩] at h
    rw [if_pos q, getD_of h]
    congr 1; clear h; omega
  · rw [if_neg (fun h => q h.2)] at h
    rw [if_neg q, getD_of h]
theorem rev_pm {p : Array Nat} {m : Nat} (P : Pm n p) (hm : m ≤ n) : Pm n (kas_rev p 0 m) := by
  have hz : m ≤ p.size := by rw [P.1]; exact hm
  refine ⟨(kas_rev_size 0 m).trans P.1, fun a ha => ?_, fun a b ha hb hab => ?_⟩
  · rw [rev_get hz]
    split
    · rename_i h; exact P.2.1 _ (r1 hm h)
    · exact P.2.1 _ ha
  · rw [rev_get hz, rev_get hz]
    by_cases q1 : a < m
    · rw [if_pos q1]
      by_cases q2 : b < m
      · rw [if_pos q2]; exact P.2.2 _ _ (r1 hm q1) (r1 hm q2) (r2 q1 q2 hab)
      · rw [if_neg q2]; exact P.2.2 _ _ (r1 hm q1) hb (r3 q1 q2)
    · rw [if_neg q1]
      by_cases q2 : b < m
      · rw [if_pos q2]; exact P.2.2 _ _ ha (r1 hm q2) (Ne.symm (r3 q2 q1))
      · rw [if_neg q2]; exact P.2.2 _ _ ha hb hab
theorem count_ok (O : Ord n c) {p : Array Nat} (P : Pm n p) (h2 : 2 ≤ n) : KOk n c (fun r => 1 ≤ r.1 ∧ r.1 ≤ n ∧ Pm n r.2 ∧ Sd c r.2 r.1) (kas_count n p) := by
  unfold kas_count
  have en : 1 + (n - 1) = n := Nat.add_sub_cancel' (Nat.le_of_succ_le h2)
  refine KOk.bind _ (KOk.mono (fun m h => ?_) _ (asc_ok O P (n - 1) 1 (Nat.le_refl _) (Nat.le_of_eq en) (fun a b hab hb => absurd (Nat.lt_of_lt_of_le hab (Nat.le_of_lt_succ hb)) (Nat.not_lt_zero _))))
  obtain ⟨h1, h2', h3, h4⟩ := h
  rw [en] at h2' h4
  by_cases q : (m == n) = true
  · rw [if_pos q]
    have e : m = n := by simpa using q
    subst e
    exact ⟨h1, Nat.le_refl _, P, h3⟩
  · rw [if_neg q]
    have e : m ≠ n := by simpa using q
    have hmn : m < n := Nat.lt_of_le_of_ne h2' e
    by_cases q2 : m > 1
    · rw [if_pos q2]
      refine ⟨P.2.1 _ (Nat.lt_of_le_of_lt (Nat.zero_le _) hmn), P.2.1 _ (Nat.lt_of_le_of_lt (Nat.sub_le _ _) hmn), ?_⟩
      rw [h3 0 (m - 1) (Nat.sub_pos_of_lt q2) (n10 q2)]
      dsimp only
      rw [if_pos rfl]
      exact ⟨h1, h2', P, h3⟩
    · rw [if_neg q2]
      have e1 : m = 1 := Nat.le_antisymm (Nat.le_of_not_lt q2) h1
      subst e1
      have hc := h4 hmn
      have e2 : 1 + 1 + (n - (1 + 1)) = n := Nat.add_sub_cancel' h2
      unfold kas_descPart
      refine KOk.bind _ (KOk.mono (fun r h => ?_) _ (desc_ok O P (n - (1 + 1)) (1 + 1) (Nat.le_add_left _ _) (Nat.le_of_eq e2) ?_))
      · obtain ⟨e1, e2', e3, e4, e5⟩ := h
        rw [e2] at e4
        rw [e1, e2', if_neg (Nat.lt_irrefl _)]
        unfold kas_tail3
        have hz : r.2.1 ≤ p.size := by rw [P.1]; exact e4
        have h1' : 1 ≤ r.2.1 := Nat.le_trans (Nat.le_add_left _ _) e3
        have e6 : r.2.1 + (n - r.2.1) = n := Nat.add_sub_cancel' e4
        refine KOk.bind _ (KOk.mono (fun m h => ?_) _ (asc_ok O (rev_pm P (m := r.2.1) e4) (n - r.2.1) r.2.1 h1' (Nat.le_of_eq e6) ?_))
        · exact ⟨Nat.le_trans h1' h.1, e6 ▸ h.2.1, rev_pm P e4, h.2.2.1⟩
        · intro a b hab hb
          rw [rev_get hz, rev_get hz, if_pos (Nat.lt_trans hab hb), if_pos hb]
          exact e5 _ _ (Nat.sub_lt_sub_left (Nat.lt_of_lt_of_le hab (Nat.le_sub_one_of_lt hb)) hab) (r1 (Nat.le_refl _) (Nat.lt_trans hab hb))
      · intro a b hab hb
        have hb1 : b = 1 := Nat.le_antisymm (Nat.le_of_lt_succ hb) (Nat.lt_of_le_of_lt (Nat.zero_le _) hab)
        subst hb1
        have ha0 : a = 0 := Nat.lt_one_iff.mp hab
        subst ha0
        exact hc
theorem place_ok (O : Ord n c) {p : Array Nat} (P : Pm n p) {k : Nat} (hk : k < n) (hs : Sd c p k) : ∀ f l r, l ≤ r → r ≤ k → r - l ≤ f → (∀ a, a < l → c (p.getD a 0) (p.getD k 0) = true) → (∀ a, r ≤ a → a < k → c (p.getD k 0) (p.getD a 0) = true) →
    KOk n c (fun m => m ≤ k ∧ (∀ a, a < m → c (p.getD a 0) (p.getD k 0) = true) ∧ ∀ a, m ≤ a → a < k → c (p.getD k 0) (p.getD a 0) = true) (kas_place p k f l r)
  | 0, l, r, h1, h2, h3, hl, hr => by
    have e : l = r := m5 h3 h1
    subst e
    exact ⟨h2, hl, hr⟩
  | f + 1, l, r, h1, h2, h3, hl, hr => by
    unfold kas_place
    by_cases q : l ≥ r
    · rw [if_pos q]
      have e : l = r := Nat.le_antisymm h1 q
      subst e
      exact ⟨h2, hl, hr⟩
    · rw [if_neg q]
      have hm1 : l ≤ (l + r) / 2 := m1 q
      have hm2 : (l + r) / 2 < r := m2 q
      have hm3 : (l + r) / 2 < k := Nat.lt_of_lt_of_le hm2 h2
      have hmn : (l + r) / 2 < n := Nat.lt_trans hm3 hk
      refine ⟨P.2.1 _ hk, P.2.1 _ hmn, ?_⟩
      cases q2 : c (p.getD k 0) (p.getD ((l + r) / 2) 0) with
      | true =>
        dsimp only
        rw [if_pos rfl]
        refine place_ok O P hk hs f l _ hm1 (Nat.le_of_lt hm3) (m3 q h3) hl fun a h4 h5 => ?_
        by_cases e : a = (l + r) / 2
        · subst e; exact q2
        · exact O.tr _ _ _ q2 (hs _ a (Nat.lt_of_le_of_ne h4 (Ne.symm e)) h5)
      | false =>
        dsimp only
        rw [if_neg (by simp)]
        have hd := O.di _ _ (P.2.1 k hk) (P.2.1 ((l + r) / 2) hmn) (P.2.2 k _ hk hmn (Ne.symm (Nat.ne_of_lt hm3))) q2
        refine place_ok O P hk hs f _ r hm2 h2 (m4 q h3) (fun a h4 => ?_) hr
        by_cases e : a = (l + r) / 2
        · subst e; exact hd
        · exact O.tr _ _ _ (hs a ((l + r) / 2) (n8 h4 e) hm3) hd
theorem bub_get {p : Array Nat} {k l j : Nat} (hk : k < p.size) (hl : l ≤ k) : (bubble p k (k - l)).getD j 0 = p.getD (sh l k j) 0 := by
  have h := getElem?_bubble hk (k - l) (Nat.sub_le _ _) j
  have e : k - (k - l) = l := Nat.sub_sub_self hl
  rw [e] at h
  unfold sh
  by_cases q : j = l
  · rw [if_pos q] at h ⊢; exact getD_of h
  · rw [if_neg q] at h ⊢
    by_cases q2 : l < j ∧ j ≤ k
    · rw [if_pos q2] at h ⊢; exact getD_of h
    · rw [if_neg q2] at h ⊢; exact getD_of h
theorem bin_ok (O : Ord n c) : ∀ f (p : Array Nat) k, Pm n p → k + f = n → Sd c p k → KOk n c (fun r => Pm n r ∧ Sd c r n) (kas_bin f p k)
  | 0, p, k, P, h, hs => by
    have e : k = n := h
    subst e
    exact ⟨P, hs⟩
  | f + 1, p, k, P, h, hs => by
    unfold kas_bin
    have hk : k < n := n1 (Nat.le_of_eq h)
    have hz : k < p.size := by rw [P.1]; exact hk
    refine KOk.bind _ (KOk.mono (fun l hl => ?_) _ (place_ok O P hk hs k 0 k (Nat.zero_le _) (Nat.le_refl _) (Nat.le_refl _) (fun a ha => absurd ha (Nat.not_lt_zero _)) (fun a h1 h2 => absurd h2 (Nat.not_lt_of_le h1))))
    obtain ⟨h1, h2, h3⟩ := hl
    refine bin_ok O f _ (k + 1) ⟨(bubble_size _ _ _).trans P.1, fun a ha => ?_, fun a b ha hb hab => ?_⟩ (n4.trans h) ?_
    · rw [bub_get hz h1]; exact P.2.1 _ (sh_lt hk ha)
    · rw [bub_get hz h1, bub_get hz h1]; exact P.2.2 _ _ (sh_lt hk ha) (sh_lt hk hb) (sh_inj h1 hab)
    · intro a b hab hb
      rw [bub_get hz h1, bub_get hz h1]
      rcases sh_cases h1 hab hb with ⟨q1, q2⟩ | ⟨q1, q2, q3⟩ | ⟨q1, q2⟩
      · exact hs _ _ q1 q2
      · rw [q1]; exact h3 _ q2 q3
      · rw [q1]; exact h2 _ q2
theorem sort_ok (O : Ord n c) (h2 : 2 ≤ n) : KOk n c (fun r => Pm n r ∧ Sd c r n) (kas_sort n) := by
  unfold kas_sort
  have P : Pm n (List.toArray (List.range n)) := by
    refine ⟨by simp, fun a ha => ?_, fun a b ha hb hab => ?_⟩
    · simp [Array.getD_eq_getD_getElem?, ha]
    · simp [Array.getD_eq_getD_getElem?, ha, hb, hab]
  refine KOk.bind _ (KOk.mono (fun r h => ?_) _ (count_ok O P h2))
  obtain ⟨h1, h3, h4, h5⟩ := h
  by_cases q : r.1 < n
  · rw [if_pos q]
    have e : max r.1 1 = r.1 := Nat.max_eq_left h1
    rw [e]
    exact bin_ok O _ _ _ h4 (Nat.add_sub_cancel' h3) h5
  · rw [if_neg q]
    have e : r.1 = n := Nat.le_antisymm h3 (Nat.le_of_not_lt q)
    exact ⟨h4, e ▸ h5⟩
end
example : True := by w_top off; trivial
noncomputable def lexlt : List Nat → List Nat → Bool
  | [], [] => false
  | [], _ :: _ => true
  | _ :: _, [] => false
  | x :: xs, y :: ys => if x == y then lexlt xs ys else decide (x < y)
theorem lexlt_app : ∀ (p a b : List Nat), lexlt (p ++ a) (p ++ b) = lexlt a b
  | [], _, _ => rfl
  | x :: p, a, b => by
    show (if x == x then lexlt (p ++ a) (p ++ b) else decide (x < x)) = _
    rw [beq_self_eq_true, if_pos rfl, lexlt_app p]
theorem lexlt_irr : ∀ a, lexlt a a = false
  | [] => rfl
  | x :: a => by
    show (if x == x then lexlt a a else decide (x < x)) = _
    rw [beq_self_eq_true, if_pos rfl, lexlt_irr a]
theorem lexlt_cons {x y : Nat} {a b : List Nat} : lexlt (x :: a) (y :: b) = true ↔ x < y ∨ (x = y ∧ lexlt a b = true) := by
  show (if x == y then lexlt a b else decide (x < y)) = true ↔ _
  by_cases h : x = y
  · subst h; simp
  · rw [if_neg (by simpa using h)]; simp [h]
theorem lexlt_tr : ∀ a b c, lexlt a b = true → lexlt b c = true → lexlt a c = true
  | [], [], _, h, _ => by cases h
  | [], _ :: _, [], _, h => by cases h
  | [], _ :: _, _ :: _, _, _ => rfl
  | _ :: _, [], _, h, _ => by cases h
  | _ :: _, _ :: _, [], _, h => by cases h
  | x :: a, y :: b, z :: c, h1, h2 => by
    rw [lexlt_cons] at *
    rcases h1 with h1 | ⟨rfl, h1⟩
    · rcases h2 with h2 | ⟨rfl, h2⟩
      · exact .inl (by k_extra "om")
      · exact .inl h1
    · rcases h2 with h2 | ⟨rfl, h2⟩
      · exact .inl h2
      · exact .inr ⟨rfl, lexlt_tr a b c h1 h2⟩
theorem lexlt_di : ∀ a b, a ≠ b → lexlt a b = false → lexlt b a = true
  | [], [], h, _ => absurd rfl h
  | [], _ :: _, _, h => by cases h
  | _ :: _, [], _, _ => rfl
  | x :: a, y :: b, h, h2 => by
    have h3 : ¬ (x < y ∨ (x = y ∧ lexlt a b = true)) := fun q => by rw [lexlt_cons.mpr q] at h2; cases h2
    rw [lexlt_cons]
    by_cases e : x = y
    · subst e
      refine .inr ⟨rfl, lexlt_di a b (fun q => h (by rw [q])) ?_⟩
      cases q : lexlt a b with
      | false => rfl
      | true => exact absurd (.inr ⟨rfl, q⟩) h3
    · exact .inl (by k_extra "om")
theorem lexlt_as {a b : List Nat} (h : lexlt a b = true) : lexlt b a = false := by
  cases q : lexlt b a with
  | false => rfl
  | true => have := lexlt_tr _ _ _ h q; rw [lexlt_irr] at this; cases this
theorem idx_pw : ∀ (l : List Nat), l.Nodup → l.Pairwise fun a b => l.idxOf a < l.idxOf b
  | [], _ => .nil
  | x :: r, h => by
    obtain ⟨h1, h2⟩ := List.nodup_cons.mp h
    refine List.pairwise_cons.mpr ⟨fun b hb => ?_, (idx_pw r h2).imp_of_mem fun {a b} ha hb hab => ?_⟩
    · have e : (x == b) = false := beq_eq_false_iff_ne.mpr fun e => h1 (e ▸ hb)
      rw [List.idxOf_cons, List.idxOf_cons, beq_self_eq_true, e]
      simp
    · have e1 : (x == a) = false := beq_eq_false_iff_ne.mpr fun e => h1 (e ▸ ha)
      have e2 : (x == b) = false := beq_eq_false_iff_ne.mpr fun e => h1 (e ▸ hb)
      rw [List.idxOf_cons, List.idxOf_cons, e1, e2]
      simpa using hab
theorem pw_eq {R : Nat → Nat → Prop} (ir : ∀ a, ¬ R a a) (tr : ∀ a b c, R a b → R b c → R a c) : ∀ (l m : List Nat), l.Pairwise R → m.Pairwise R → (∀ x, x ∈ l ↔ x ∈ m) → l = m
  | [], [], _, _, _ => rfl
  | [], y :: m, _, _, h => absurd ((h y).mpr (.head _)) (List.not_mem_nil)
  | x :: l, [], _, _, h => absurd ((h x).mp (.head _)) (List.not_mem_nil)
  | x :: l, y :: m, h1, h2, h => by
    obtain ⟨a1, a2⟩ := List.pairwise_cons.mp h1
    obtain ⟨b1, b2⟩ := List.pairwise_cons.mp h2
    have e : x = y := by
      rcases List.mem_cons.mp ((h x).mp (.head _)) with e | hx
      · exact e
      · rcases List.mem_cons.mp ((h y).mpr (.head _)) with e | hy
        · exact e.symm
        · exact absurd (tr _ _ _ (a1 y hy) (b1 x hx)) (ir x)
    subst e
    rw [pw_eq ir tr l m a2 b2 fun z => ⟨fun hz => ?_, fun hz => ?_⟩]
    · rcases List.mem_cons.mp ((h z).mp (.tail _ hz)) with e | hz'
      · subst e; exact absurd (a1 z hz) (ir z)
      · exact hz'
    · rcases List.mem_cons.mp ((h z).mpr (.tail _ hz)) with e | hz'
      · subst e; exact absurd (b1 z hz) (ir z)
      · exact hz'
section
variable {T : List Row}
noncomputable def docF (T : List Row) : Nat → Nat → List Nat
  | 0, i => i :: (nsl T i ++ atl T i)
  | n + 1, i => i :: (nsl T i ++ atl T i ++ (ch T i).flatMap (docF T n))
@[irreducible] noncomputable def doc (T : List Row) (i : Nat) : List Nat := docF T T.length i
theorem docF_stable (W : WF T) : ∀ n m i, T.length - i ≤ n → T.length - i ≤ m → docF T n i = docF T m i
  | 0, 0, i, h, _ => rfl
  | 0, m + 1, i, h, _ => by
    have e : ch T i = [] := ch_out (by k_extra "om")
    unfold docF; rw [e]; simp
  | n + 1, 0, i, _, h => by
    have e : ch T i = [] := ch_out (by k_extra "om")
    unfold docF; rw [e]; simp
  | n + 1, m + 1, i, h1, h2 => by
    unfold docF
    congr 2
    rw [List.flatMap_def, List.flatMap_def]
    congr 1
    apply List.map_congr_left
    intro c hc
    have := W.ch_ok i c hc
    exact docF_stable W n m c (by k_extra "om") (by k_extra "om")
theorem doc_eq (W : WF T) (i : Nat) : doc T i = i :: (nsl T i ++ atl T i ++ (ch T i).flatMap (doc T)) := by
  have e : doc T = docF T T.length := by funext j; unfold doc; rfl
  rw [e]
  exact (docF_stable W T.length (T.length + 1) i (by k_extra "om") (by k_extra "om")).trans rfl
theorem place_ch (W : WF T) {i p : Nat} (h : pa T i = some p) : placeN T i = placeN T p ++ [pk T i, pix T i] := by
  have e1 := downL_eq W i
  rw [h] at e1
  dsimp only at e1
  have e2 := downL_eq W p
  unfold placeN
  rw [e1]
  cases q : downL T p with
  | nil => rw [q] at e2; simp at e2
  | cons r rest =>
    simp
theorem place_ns (W : WF T) {i x : Nat} (h : x ∈ nsl T i) : placeN T x = placeN T i ++ [0, (nsl T i).idxOf x] := by
  obtain ⟨h1, h2, h3, h4⟩ := W.ns_ok i x h
  rw [place_ch W h3]
  have e1 : pk T x = 0 := by simp [pk, h4]
  have e2 : pix T x = (nsl T i).idxOf x := by simp [pix, h3, h4]
  rw [e1, e2]
theorem place_at (W : WF T) {i x : Nat} (h : x ∈ atl T i) : placeN T x = placeN T i ++ [1, (atl T i).idxOf x] := by
  obtain ⟨h1, h2, h3, h4⟩ := W.at_ok i x h
  rw [place_ch W h3]
  have hn : (kd T x == Str.ofString "namespace") = false := by rw [h4]; decide
  have e1 : pk T x = 1 := by unfold pk; rw [hn, h4]; simp
  have e2 : pix T x = (atl T i).idxOf x := by unfold pix; rw [h3]; dsimp only; rw [hn, h4]; simp
  rw [e1, e2]
theorem beside_no {x : Nat} (h : beside T x = false) : (kd T x == Str.ofString "namespace") = false ∧ (kd T x == Str.ofString "attribute") = false := by
  unfold beside at h
  simp only [List.any_cons, List.any_nil, Bool.or_false, Bool.or_eq_false_iff] at h
  exact ⟨by rw [← h.2]; exact BEq.comm, by rw [← h.1]; exact BEq.comm⟩
theorem place_el (W : WF T) {i x : Nat} (h : x ∈ ch T i) : placeN T x = placeN T i ++ [2, (ch T i).idxOf x] := by
  obtain ⟨h1, h2, h3, h4⟩ := W.ch_ok i x h
  obtain ⟨hn, ha⟩ := beside_no h4
  rw [place_ch W h3]
  have e1 : pk T x = 2 := by simp [pk, ha, hn]
  have e2 : pix T x = (ch T i).idxOf x := by simp [pix, h3, ha, hn]
  rw [e1, e2]
noncomputable def before (T : List Row) (a b : Nat) : Prop := lexlt (placeN T a) (placeN T b) = true
theorem doc_suf (W : WF T) : ∀ n i, T.length - i ≤ n → ∀ x ∈ doc T i, ∃ s, placeN T x = placeN T i ++ s
  | 0, i, h, x, hx => by
    rw [doc_eq W, ch_out (by k_extra "om")] at hx
    have e : nsl T i = [] := by unfold nsl; rw [rw_out (by k_extra "om")]; rfl
    have e2 : atl T i = [] := by unfold atl; rw [rw_out (by k_extra "om")]; rfl
    rw [e, e2] at hx
    rw [List.mem_singleton.mp hx]
    exact ⟨[], by simp⟩
  | n + 1, i, h, x, hx => by
    rw [doc_eq W] at hx
    rcases List.mem_cons.mp hx with rfl | hx
    · exact ⟨[], by simp⟩
    · rcases List.mem_append.mp hx with hx | hx
      · rcases List.mem_append.mp hx with hx | hx
        · exact ⟨_, place_ns W hx⟩
        · exact ⟨_, place_at W hx⟩
      · obtain ⟨c, hc, hx⟩ := List.mem_flatMap.mp hx
        have h1 := W.ch_ok i c hc
        obtain ⟨s, e⟩ := doc_suf W n c (by k_extra "om") x hx
        exact ⟨_, by rw [e, place_el W hc, List.append_assoc]⟩
theorem doc_pw (W : WF T) : ∀ n i, T.length - i ≤ n → (doc T i).Pairwise (before T)
  | 0, i, h => by
    have e : nsl T i = [] := by unfold nsl; rw [rw_out (by k_extra "om")]; rfl
    have e2 : atl T i = [] := by unfold atl; rw [rw_out (by k_extra "om")]; rfl
    rw [doc_eq W, ch_out (by k_extra "om"), e, e2]
    simp
  | n + 1, i, h => by
    have suf : ∀ c ∈ ch T i, ∀ x ∈ doc T c, ∃ s, placeN T x = placeN T i ++ (2 :: (ch T i).idxOf c :: s) := fun c hc x hx => by
      have h1 := W.ch_ok i c hc
      obtain ⟨s, e⟩ := doc_suf W n c (by k_extra "om") x hx
      exact ⟨s, by rw [e, place_el W hc, List.append_assoc]; rfl⟩
    rw [doc_eq W]
    refine List.pairwise_cons.mpr ⟨fun x hx => ?_, List.pairwise_append.mpr ⟨List.pairwise_append.mpr ⟨?_, ?_, ?_⟩, ?_, ?_⟩⟩
    · have key : ∀ y s, placeN T x = placeN T i ++ (y :: s) → before T i x := fun y s e => by
        unfold before
        have e0 : placeN T i = placeN T i ++ [] := by simp
        rw [e]
        conv => lhs; lhs; rw [e0]
        rw [lexlt_app]
        rfl
      rcases List.mem_append.mp hx with hx | hx
      · rcases List.mem_append.mp hx with hx | hx
        · exact key _ _ (place_ns W hx)
        · exact key _ _ (place_at W hx)
      · obtain ⟨c, hc, hx⟩ := List.mem_flatMap.mp hx
        obtain ⟨s, e⟩ := suf c hc x hx
        exact key _ _ e
    · refine (idx_pw _ (W.ns_nd i)).imp_of_mem fun {a b} ha hb hab => ?_
      unfold before
      rw [place_ns W ha, place_ns W hb, lexlt_app]
      exact lexlt_cons.mpr (.inr ⟨rfl, lexlt_cons.mpr (.inl hab)⟩)
    · refine (idx_pw _ (W.at_nd i)).imp_of_mem fun {a b} ha hb hab => ?_
      unfold before
      rw [place_at W ha, place_at W hb, lexlt_app]
      exact lexlt_cons.mpr (.inr ⟨rfl, lexlt_cons.mpr (.inl hab)⟩)
    · intro a ha b hb
      unfold before
      rw [place_ns W ha, place_at W hb, lexlt_app]
      exact lexlt_cons.mpr (.inl (by k_extra "om"))
    · rw [List.pairwise_flatMap]
      refine ⟨fun c hc => ?_, (idx_pw _ (W.ch_nd i)).imp_of_mem fun {a b} ha hb hab x hx y hy => ?_⟩
      · have h1 := W.ch_ok i c hc
        exact doc_pw W n c (by k_extra "om")
      · obtain ⟨s, e⟩ := suf a ha x hx
        obtain ⟨s', e'⟩ := suf b hb y hy
        unfold before
        rw [e, e', lexlt_app]
        exact lexlt_cons.mpr (.inr ⟨rfl, lexlt_cons.mpr (.inl hab)⟩)
    · intro a ha b hb
      obtain ⟨c, hc, hb⟩ := List.mem_flatMap.mp hb
      obtain ⟨s, e⟩ := suf c hc b hb
      unfold before
      rcases List.mem_append.mp ha with ha | ha
      · rw [place_ns W ha, e, lexlt_app]
        exact lexlt_cons.mpr (.inl (by k_extra "om"))
      · rw [place_at W ha, e, lexlt_app]
        exact lexlt_cons.mpr (.inl (by k_extra "om"))
theorem doc_pw' (W : WF T) (i : Nat) : (doc T i).Pairwise (before T) := doc_pw W _ i (Nat.le_refl _)
theorem before_irr (a : Nat) : ¬ before T a a := by unfold before; rw [lexlt_irr]; simp
theorem before_tr (a b c : Nat) (h : before T a b) (h2 : before T b c) : before T a c := lexlt_tr _ _ _ h h2
noncomputable def In (T : List Row) (i x : Nat) : Prop := x < T.length ∧ i ∈ x :: anc T x
theorem doc_down (W : WF T) : ∀ n i, T.length - i ≤ n → ∀ p ∈ doc T i, ∀ x, pa T x = some p → x ∈ doc T i
  | 0, i, h, p, hp, x, hx => by
    have e : nsl T i = [] := by unfold nsl; rw [rw_out (by k_extra "om")]; rfl
    have e2 : atl T i = [] := by unfold atl; rw [rw_out (by k_extra "om")]; rfl
    rw [doc_eq W, ch_out (by k_extra "om"), e, e2] at hp
    have := W.par_len hx
    have := List.mem_singleton.mp hp
    omega
  | n + 1, i, h, p, hp, x, hx => by
    rw [doc_eq W] at hp ⊢
    have nb : beside T p = true → False := fun hb => by
      have k1 : kd T p = Str.ofString "namespace" ∨ kd T p = Str.ofString "attribute" := by
        unfold beside at hb
        simp only [List.any_cons, List.any_nil, Bool.or_false, Bool.or_eq_true, beq_iff_eq] at hb
        rcases hb with h | h
        · exact .inr h.symm
        · exact .inl h.symm
      have k2 : kd T p ≠ Str.ofString "element" := by rcases k1 with k | k <;> rw [k] <;> decide
      cases hbx : beside T x with
      | false => have := W.par_ch x p hx hbx; rw [W.bes_ch p hb] at this; exact nomatch this
      | true =>
        unfold beside at hbx
        simp only [List.any_cons, List.any_nil, Bool.or_false, Bool.or_eq_true, beq_iff_eq] at hbx
        rcases hbx with h | h
        · have := W.par_at x p hx h.symm; rw [W.el_at p k2] at this; exact nomatch this
        · have := W.par_ns x p hx h.symm; rw [W.el_ns p k2] at this; exact nomatch this
    rcases List.mem_cons.mp hp with rfl | hp
    · refine .tail _ (List.mem_append.mpr ?_)
      cases hbx : beside T x with
      | false => exact .inr (List.mem_flatMap.mpr ⟨x, W.par_ch x p hx hbx, by rw [doc_eq W]; exact .head _⟩)
      | true =>
        unfold beside at hbx
        simp only [List.any_cons, List.any_nil, Bool.or_false, Bool.or_eq_true, beq_iff_eq] at hbx
        rcases hbx with h | h
        · exact .inl (List.mem_append.mpr (.inr (W.par_at x p hx h.symm)))
        · exact .inl (List.mem_append.mpr (.inl (W.par_ns x p hx h.symm)))
    · rcases List.mem_append.mp hp with hp | hp
      · exfalso
        refine nb ?_
        unfold beside
        simp only [List.any_cons, List.any_nil, Bool.or_false, Bool.or_eq_true, beq_iff_eq]
        rcases List.mem_append.mp hp with hp | hp
        · exact .inr (W.ns_ok i p hp).2.2.2.symm
        · exact .inl (W.at_ok i p hp).2.2.2.symm
      · obtain ⟨c, hc, hp⟩ := List.mem_flatMap.mp hp
        have h1 := W.ch_ok i c hc
        exact .tail _ (List.mem_append.mpr (.inr (List.mem_flatMap.mpr ⟨c, hc, doc_down W n c (by k_extra "om") p hp x hx⟩)))
theorem in_doc (W : WF T) {i : Nat} : ∀ n x, x ≤ n → In T i x → x ∈ doc T i
  | 0, x, h, ⟨h1, h2⟩ => by
    rcases List.mem_cons.mp h2 with rfl | h2
    · rw [doc_eq W]; exact .head _
    · have := anc_lt' W h2; omega
  | n + 1, x, h, ⟨h1, h2⟩ => by
    rcases List.mem_cons.mp h2 with rfl | h2
    · rw [doc_eq W]; exact .head _
    · rw [anc_eq W] at h2
      cases q : pa T x with
      | none => rw [q] at h2; exact nomatch h2
      | some p =>
        rw [q] at h2
        have h3 := W.par_lt x p q
        exact doc_down W _ i (Nat.le_refl _) p (in_doc W n p (by k_extra "om") ⟨by omega, h2⟩) x q
theorem doc_in (W : WF T) : ∀ n i, T.length - i ≤ n → i < T.length → ∀ x ∈ doc T i, In T i x
  | 0, i, h, h1, x, hx => by omega
  | n + 1, i, h, h1, x, hx => by
    rw [doc_eq W] at hx
    have k : ∀ x, x < T.length → pa T x = some i → In T i x := fun x a b => ⟨a, .tail _ (by rw [anc_eq W, b]; exact .head _)⟩
    rcases List.mem_cons.mp hx with rfl | hx
    · exact ⟨h1, .head _⟩
    · rcases List.mem_append.mp hx with hx | hx
      · rcases List.mem_append.mp hx with hx | hx
        · have := W.ns_ok i x hx; exact k x this.2.1 this.2.2.1
        · have := W.at_ok i x hx; exact k x this.2.1 this.2.2.1
      · obtain ⟨c, hc, hx⟩ := List.mem_flatMap.mp hx
        have h2 := W.ch_ok i c hc
        obtain ⟨h3, h4⟩ := doc_in W n c (by k_extra "om") h2.2.1 x hx
        refine ⟨h3, .tail _ ?_⟩
        have hic : i ∈ anc T c := by rw [anc_eq W, h2.2.2.1]; exact .head _
        rcases List.mem_cons.mp h4 with rfl | h4
        · exact hic
        · exact anc_trans W x x (Nat.le_refl _) c i h4 hic
theorem doc_nd (W : WF T) (i : Nat) : (doc T i).Nodup := (doc_pw' W i).imp fun {a b} h e => by subst e; exact before_irr a h
theorem sorted_is (W : WF T) {i : Nat} (hi : i < T.length) {l D : List Nat} (hl : l.Pairwise (before T)) (hm : ∀ x, x ∈ l ↔ x ∈ D) (hD : ∀ x ∈ D, In T i x) : l = (doc T i).filter fun x => D.contains x := by
  refine pw_eq before_irr before_tr _ _ hl ((doc_pw' W i).filter _) fun x => ?_
  rw [List.mem_filter, hm x]
  constructor
  · exact fun h => ⟨in_doc W x x (Nat.le_refl _) (hD x h), by simpa using h⟩
  · exact fun h => by simpa using h.2
end
example : True := by w_top off; trivial
theorem doc_len {T : List Row} (W : WF T) {i : Nat} (hi : i < T.length) : (doc T i).length ≤ 20 :=
  Nat.le_trans (nodup_len _ _ (doc_nd W i) fun x hx => (doc_in W _ i (Nat.le_refl _) hi x hx).1) W.small
theorem nsl_len {T : List Row} (W : WF T) (i : Nat) : (nsl T i).length ≤ 20 := Nat.le_trans (nodup_len _ _ (W.ns_nd i) fun x hx => (W.ns_ok i x hx).2.1) W.small
theorem atl_len {T : List Row} (W : WF T) (i : Nat) : (atl T i).length ≤ 20 := Nat.le_trans (nodup_len _ _ (W.at_nd i) fun x hx => (W.at_ok i x hx).2.1) W.small
noncomputable def walkedOk (n : Nat) : Prop := ∀ (w : World) (A : Around) (s : Shared) (t : Addr) (T : List Row) (i : Nat) (tk : Tok)
   (H : At w A s.heap (10 + 2 * n) (200 + 10 * n)) (W : WF T) (TT : TreeAt w s.heap t T) (hi : i < T.length) (hn : T.length - i ≤ n),
   wpAny (model prg w) A (call (.ref 499) [.ref t, .int (i : Int) tk]) (Back s (ListOut s (nat (doc T i)))) NoErr s
theorem walked_U {n0 : Nat} (IH : walkedOk n0) {w : World} {A : Around} {s : Shared} {g : Heap} {L : Addr} {m : Str → Option Value} {news : List (Addr × Obj)} {dp un : Nat} {Q E : Value → Shared → Prop} {t : Addr} {T : List Row} {i : Nat} {tk : Tok}
   (C : Callee w A g L dp un) (F : Fr g L s.heap m) (N : News g L s.heap news) (W : WF T) (TT : TreeAt w g t T) (hi : i < T.length) (hn : T.length - i ≤ n0) (hd : 10 + 2 * n0 ≤ dp) (hu : 200 + 10 * n0 ≤ un)
   (k : ∀ a vs n h' tk', Fr g L h' m → News g L h' ((a, listOf (List.toArray vs) n) :: news) → (∀ p ∈ news, @Ne Nat p.1 a) → IntsAre vs (nat (doc T i)) → (nat (doc T i)).length ≤ 20 → Q (.ref a) { s with heap := h', toks := tk' }) :
   wpAny (model prg w) A (call (.ref 499) [.ref t, .int (i : Int) tk]) Q E s :=
  useL (IH _ _ _ _ _ _ _ (C.at F hd hu) W (TT.keep F.keep) hi hn) F N fun a vs n h' tk' F' N' l1 hi' => k a vs n h' tk' F' N' l1 hi' (by rw [nat_len]; exact doc_len W hi)
example : True := by
  (k_with "call ref" => (k_here; (with_reducible show wpAny _ _ (call (Value.ref 499) _) _ _ _); k_dflt (refine' walked_U (by with_reducible assumption) (by with_reducible assumption) (by k_asm) (by k_asm) (by with_reducible assumption) (by with_reducible assumption) (by with_reducible assumption) (by with_reducible assumption) (by k_extra "om") (by k_extra "om") ?_); intro _ _ _ _ _ _ _ _ _ _; (try k_sweep); (try k_extra "nne")))
  trivial
inductive WlkJ (t c : Addr) (vc : List Value) (nc : Nat) (T : List Row) (i : Nat) (k : Nat) (m : Str → Option Value) (nx : List (Addr × Obj)) : Prop
  | mk (a : Addr) (vf : List Value) (nf : Nat) (e1 : m (Str.ofString "found") = some (.ref a)) (e2 : m (Str.ofString "tree") = some (.ref t)) (e3 : nx = [(c, listOf (List.toArray vc) nc), (a, listOf (List.toArray vf) nf)]) (e4 : IntsAre vf (nat (i :: (nsl T i ++ atl T i) ++ ((ch T i).take k).flatMap (doc T)))) : WlkJ t c vc nc T i k m nx
theorem walked_step (n : Nat) (IH : n = 0 ∨ ∃ m, n = m + 1 ∧ walkedOk m) : walkedOk n := by
  intro w A s t T i tk H W TT hi hn
  refine' enter (binds := [(Str.ofString "tree", .ref t), (Str.ofString "node", .int (i : Int) tk)]) H (by k_extra "om") (by k_extra "om") (by k_is) (by k_is) (BindsTo.of_eq rfl) (locs rfl) ?_ (by decide) rfl rfl rfl
  intro h₁ gn9 dr9 os9 A9 L9 tk9 pr9 loose9 mean9 mg9 mb9 F' N' X' T' C' hroom hun K9 hK9
  (try dsimp only)
  have hb1 := nsl_len W i
  have hb2 := atl_len W i
  have hb3 := doc_len W hi
  refine hidP fun P9 k9 => ?_
  rcases IH with rfl | ⟨n0, rfl, IH⟩ <;> (refine k9 ?_; clear k9 P9)
  · omega
  have d0 : 10 + 2 * n0 ≤ 10 + 2 * (n0 + 1) - 1 := by omega
  have u0 : 200 + 10 * n0 ≤ 200 + 10 * (n0 + 1) - 3 := by omega
  generalize 10 + 2 * (n0 + 1) - 1 = dp9 at *
  generalize 200 + 10 * (n0 + 1) - 3 = un9 at *
  have d1 : 10 ≤ dp9 := Nat.le_trans (Nat.le_add_right _ _) d0
  have u1 : 200 ≤ un9 := Nat.le_trans (Nat.le_add_right _ _) u0
  k_steps
  rename Fr _ _ _ _ => F0
  rename News _ _ _ _ => N0
  rename IntsAre _ (_ ++ _ ++ _) => hif
  rename IntsAre _ (nat (ch T i)) => hic
  rename_i D vf _ _ _ _ _ c vc nc _ _ _ l9
  refine Stop.in (for_list (WlkJ t c vc nc T i) rfl (vs := vc) (News.isList N0 (by k_mem)) (News.ne N0 (by k_mem)) F0
    (news := [(c, listOf (List.toArray vc) nc), (D, listOf (List.toArray vf) 0)]) (fun p hp => N0 p ?_) (.inr ⟨listOf (List.toArray vc) nc, ?_⟩) ⟨D, vf, 0, rfl, rfl, rfl, ?_⟩ ?_ ?_)
  · refine hidP fun P9 k9 => ?_
    rcases List.mem_cons.mp hp with rfl | hp <;> (refine k9 ?_; clear k9 P9)
    · k_mem
    · rw [List.mem_singleton.mp hp]; k_mem
  · rintro k m nx ⟨a, vf, nf, _, _, rfl, _⟩
    k_mem
  · have e : nat (i :: (nsl T i ++ atl T i) ++ ((ch T i).take 0).flatMap (doc T)) = [(i : Int)] ++ nat (nsl T i) ++ nat (atl T i) := by
      unfold nat; simp
    rw [e]; exact hif
  · rintro k v m nx h tk I oI hv ⟨a, vf, nf, m1, m2, rfl, hia⟩ hne F1 N1
    clear F0 N0
    have hkl : k < (ch T i).length := by
      have := (List.getElem?_eq_some_iff.mp hv).1
      rw [hic.length, nat_len] at this; exact this
    refine hidP fun P9 k9 => ?_
    obtain ⟨tx, htx⟩ := hic.get k ((ch T i)[k] : Int) (by unfold nat; simp [hkl])
    refine k9 ?_; clear k9 P9
    rw [hv] at htx
    cases htx
    have hj : (ch T i)[k]? = some (ch T i)[k] := List.getElem?_eq_getElem hkl
    have hcm := W.ch_ok i _ (List.getElem_mem hkl)
    have hfin : nat (i :: (nsl T i ++ atl T i) ++ ((ch T i).take (k + 1)).flatMap (doc T)) = nat (i :: (nsl T i ++ atl T i) ++ ((ch T i).take k).flatMap (doc T)) ++ nat (doc T (ch T i)[k]) := by rw [take_flatMap _ _ hj, ← List.append_assoc, nat_append]
    generalize (ch T i)[k] = x at *
    have hx1 := hcm.2.1
    have hx2 : T.length - x ≤ n0 := by have := hcm.1; omega
    have hac : (nat (i :: (nsl T i ++ atl T i) ++ ((ch T i).take k).flatMap (doc T))).length ≤ 20 := by
      rw [nat_len]
      refine Nat.le_trans ?_ hb3
      rw [doc_eq W i]
      have e := congrArg (fun l => (l.flatMap (doc T)).length) (List.take_append_drop k (ch T i))
      simp only [List.flatMap_append, List.length_append] at e
      simp only [List.length_append, List.length_cons]
      omega
    have F2 := know (know F1 ((if_neg (by decide)).trans m1)) ((if_neg (by decide)).trans ((if_neg (by decide)).trans m2))
    clear F1
    k_steps
    rename Fr _ _ _ _ => F11
    rename News _ _ _ _ => N11
    rename IntsAre _ (_ ++ _) => hI9
    rename_i D9 w9 _ l8 _
    refine turn_over [(c, listOf (List.toArray vc) nc), (D9, listOf (List.toArray w9) 0)] F11 N11 (by k_mem) (fun q hq => ?_) (fun q hq => ?_) ⟨D9, w9, 0, rfl, rfl, rfl, hfin ▸ hI9⟩
    · refine hidP fun P9 k9 => ?_
      rcases List.mem_cons.mp hq with rfl | hq <;> (refine k9 ?_; clear k9 P9)
      · k_mem
      · rw [List.mem_singleton.mp hq]; k_mem
    · refine hidP fun P9 k9 => ?_
      rcases List.mem_cons.mp hq with rfl | hq <;> (refine k9 ?_; clear k9 P9)
      · exact hne _ (.head _)
      · rw [List.mem_singleton.mp hq]; k_ne
  · rintro m nx h tk ⟨a, vf, nf, m1, m2, rfl, hia⟩ F1 N1
    clear F0 N0
    have F2 := know F1 m1
    clear F1
    k_steps
    refine endK hK9 (by k_asm) ?_
    have e : i :: (nsl T i ++ atl T i) ++ ((ch T i).take vc.length).flatMap (doc T) = doc T i := by
      rw [hic.length, nat_len, List.take_length, doc_eq W i]; rfl
    rw [← e]
    exact ⟨_, _, _, rfl, News.fresh (by k_asm) (by k_mem), News.get (by k_asm) (by k_mem), hia⟩
theorem walked_all : ∀ n, walkedOk n
  | 0 => walked_step 0 (.inl rfl)
  | n + 1 => walked_step (n + 1) (.inr ⟨n, rfl, walked_all n⟩)
example : True := by w_top off; trivial
example : True := by
  (k_with "binaryOp Mult int int" => (k_here; (refine PyProof.Rows.mul_int ?_ (IntMulOk.of_right (intBits_le_iff.mpr (by decide))))))
  trivial
inductive PoolJ (i : Nat) (m : Str → Option Value) (nx : List (Addr × Obj)) : Prop
  | mk (d : Int) (td : Tok) (mx : Int) (tm : Tok) (e1 : m (Str.ofString "digits") = some (.int d td)) (e2 : m (Str.ofString "mixed") = some (.int mx tm)) (e3 : nx = []) (e4 : 0 ≤ d) (e5 : 0 ≤ mx) (e6 : mx < 2147483647) : PoolJ i m nx
theorem pool_C {w : World} {A : Around} {s : Shared} {l : Addr} {vs : List Value} {ns : List Int} {n : Nat}
   (H : At w A s.heap 8 200) (hl : s.heap.IsList l (List.toArray vs)) (hi : IntsAre vs ns) (hn : ns.length ≤ 100) :
   wpAny (model prg w) A (call (.ref 471) [.ref l]) (Back s fun v h' => ∃ a o, v = .ref a ∧ s.heap.get? a = none ∧ h'.get? a = some o ∧ SrcIs o) NoErr s := by
  refine' enter (binds := [(Str.ofString "script", .ref l)]) H (by k_extra "om") (by k_extra "om") (by k_is) (by k_is) (BindsTo.of_eq rfl) (locs rfl) ?_ (by decide) rfl rfl rfl
  intro h₁ gn9 dr9 os9 A9 L9 tk9 pr9 loose9 mean9 mg9 mb9 F' N' X' T' C' hroom hun K9 hK9
  (try dsimp only)
  k_steps
  rename Fr _ _ _ _ => F0
  rename News _ _ _ _ => N0
  refine Stop.in (for_list PoolJ rfl (vs := vs) (by obtain ⟨o, e, r⟩ := hl; exact ⟨o, F0.keep _ _ e, r⟩) ?_ F0 (news := []) (fun p hp => nomatch hp) (.inl ?_) ⟨0, _, 53, _, rfl, rfl, rfl, by decide, by decide, by decide⟩ ?_ ?_)
  · refine hidP fun P9 k9 => ?_
    obtain ⟨o, e, r⟩ := hl
    refine k9 ?_; clear k9 P9
    intro q
    have h3 := Heap.lt_size e
    rw [q] at h3
    exact Nat.lt_irrefl _ (Nat.lt_of_lt_of_le h3 F0.above)
  · refine hidP fun P9 k9 => ?_
    obtain ⟨o, e, r⟩ := hl
    exact k9 ⟨o, e⟩
  · intro i v m nx h tk I oI hv hJ1 hne F1 N1
    refine hidP fun P9 k9 => ?_
    obtain ⟨d, td, mx, tm, m1, m2, rfl, h1, h2, h3⟩ := hJ1
    refine k9 ?_; clear k9 P9
    clear F0 N0
    have hil : i < ns.length := by rw [← hi.length]; exact (List.getElem?_eq_some_iff.mp hv).1
    refine hidP fun P9 k9 => ?_
    obtain ⟨t, ht⟩ := hi.get i ns[i] (by simp [hil])
    refine k9 ?_; clear k9 P9
    rw [hv] at ht
    cases ht
    generalize ns[i] = num at *
    have F2 := know (know F1 ((if_neg (by decide)).trans m1)) ((if_neg (by decide)).trans ((if_neg (by decide)).trans m2))
    clear F1
    k_steps
    all_goals
      rename Fr _ _ _ _ => F3
      rename News _ _ _ _ => N3
      exact turn_over [] F3 N3 (by k_mem) (fun q hq => nomatch hq) (fun q hq => nomatch hq) ⟨_, _, _, _, rfl, rfl, rfl, by first | assumption | omega, Int.fmod_nonneg_of_pos _ (by decide), Int.fmod_lt_of_pos _ (by decide)⟩
  · intro m nx h tk hJ1 F1 N1
    refine hidP fun P9 k9 => ?_
    obtain ⟨d, td, mx, tm, m1, m2, rfl, h1, h2, h3⟩ := hJ1
    refine k9 ?_; clear k9 P9
    clear F0 N0
    have F2 := know (know F1 m1) ((if_neg (by decide)).trans m2)
    clear F1
    k_steps
    exact endK hK9 (by k_asm) ⟨_, _, rfl, News.fresh (by k_asm) (by k_mem), News.get (by k_asm) (by k_mem), d, mx, _, _, _, rfl, h1, h2, h3⟩
example : True := by w_top off; trivial
section
variable {T : List Row}
theorem In.up (W : WF T) {i x p : Nat} (h : In T i x) (hp : pa T x = some p) (hi : pa T i = none) : In T i p := by
  obtain ⟨h1, h2⟩ := h
  refine ⟨(W.par_len hp).2, ?_⟩
  rcases List.mem_cons.mp h2 with rfl | h2
  · rw [hp] at hi; cases hi
  · rw [anc_eq W, hp] at h2; exact h2
theorem In.down (W : WF T) {i x p : Nat} (h : In T i p) (hp : pa T x = some p) : In T i x :=
  ⟨(W.par_len hp).1, .tail _ (by rw [anc_eq W, hp]; exact h.2)⟩
theorem In.anc (W : WF T) {i x : Nat} (hi : pa T i = none) (h : In T i x) : ∀ y ∈ anc T x, In T i y := by
  have key : ∀ n x, x ≤ n → In T i x → ∀ y ∈ Mine.anc T x, In T i y := by
    intro n
    induction n with
    | zero =>
      intro x hx _ y hy
      have := anc_lt' W hy; omega
    | succ n ih =>
      intro x hx h y hy
      rw [anc_eq W] at hy
      cases q : pa T x with
      | none => rw [q] at hy; exact nomatch hy
      | some p =>
        have h1 := W.par_lt x p q
        rw [q] at hy
        have hp := h.up W q hi
        rcases List.mem_cons.mp hy with rfl | hy
        · exact hp
        · exact ih p (by k_extra "om") hp y hy
  exact key x x (Nat.le_refl _) h
theorem In.pre (W : WF T) {i x y : Nat} (h : In T i x) (hy : y ∈ pre T x) : In T i y := by
  rcases mem_pre' W hy with rfl | ⟨h1, h2, _⟩
  · exact h
  · refine ⟨h2, .tail _ ?_⟩
    rcases List.mem_cons.mp h.2 with e | h3
    · rw [e]; exact h1
    · exact anc_trans W y y (Nat.le_refl _) x i h1 h3
theorem sib_par (W : WF T) {x s : Nat} (h : s ∈ sibs T x) : ∃ p, pa T x = some p ∧ pa T s = some p := by
  unfold sibs at h
  cases q : pa T x with
  | none => rw [q] at h; exact nomatch h
  | some p =>
    rw [q] at h
    dsimp only at h
    split at h
    · exact nomatch h
    · exact ⟨p, rfl, (W.ch_ok p s h).2.2.1⟩
theorem sibs_nd (W : WF T) (x : Nat) : (sibs T x).Nodup := by
  unfold sibs
  split
  · exact .nil
  · split
    · exact .nil
    · exact W.ch_nd _
theorem sibA_sub {x s : Nat} (h : s ∈ sibA T x) : s ∈ sibs T x := by unfold sibA at h; exact List.mem_of_mem_take (List.mem_reverse.mp h)
theorem sibB_sub {x s : Nat} (h : s ∈ sibB T x) : s ∈ sibs T x := by unfold sibB at h; exact List.mem_of_mem_drop h
theorem not_take_idx : ∀ (l : List Nat) (x : Nat), x ∉ l.take (l.idxOf x)
  | [], x => by simp
  | y :: r, x => by
    by_cases e : y = x
    · subst e; simp
    · rw [List.idxOf_cons, beq_eq_false_iff_ne.mpr e]
      simp only [cond_false, List.take_succ_cons, List.mem_cons, not_or]
      exact ⟨fun h => e h.symm, not_take_idx r x⟩
theorem not_drop_idx : ∀ (l : List Nat) (x : Nat), l.Nodup → x ∉ l.drop (l.idxOf x + 1)
  | [], x, _ => by simp
  | y :: r, x, h => by
    obtain ⟨h1, h2⟩ := List.nodup_cons.mp h
    by_cases e : y = x
    · subst e; simpa using h1
    · rw [List.idxOf_cons, beq_eq_false_iff_ne.mpr e]
      simp only [cond_false, List.drop_succ_cons]
      exact not_drop_idx r x h2
theorem sibA_ne {x : Nat} : x ∉ sibA T x := fun h => by unfold sibA at h; exact not_take_idx _ _ (List.mem_reverse.mp h)
theorem sibB_ne (W : WF T) {x : Nat} : x ∉ sibB T x := fun h => by unfold sibB at h; exact not_drop_idx _ _ (sibs_nd W x) h
theorem nd_rev {l : List Nat} (h : l.Nodup) : l.reverse.Nodup := List.pairwise_reverse.mpr (h.imp Ne.symm)
theorem sibA_nd (W : WF T) (x : Nat) : (sibA T x).Nodup := by unfold sibA; exact nd_rev ((sibs_nd W x).sublist (List.take_sublist _ _))
theorem sibB_nd (W : WF T) (x : Nat) : (sibB T x).Nodup := by unfold sibB; exact (sibs_nd W x).sublist (List.drop_sublist _ _)
theorem desc_nd (W : WF T) (i : Nat) : (desc T i).Nodup := by
  have h := pre_nd' W i
  rw [pre_eq W] at h
  unfold desc
  exact (List.nodup_cons.mp h).2
theorem mem_chain (W : WF T) {s x : Nat} (h : x ∈ pre T s) : s ∈ x :: anc T x := by
  rcases mem_pre' W h with rfl | ⟨h, _⟩
  · exact .head _
  · exact .tail _ h
theorem chain_sib (W : WF T) {x a b p : Nat} (ha : a ∈ x :: anc T x) (hb : b ∈ x :: anc T x) (pa_ : pa T a = some p) (pb : pa T b = some p) : a = b := by
  have e1 : anc T a = p :: anc T p := by rw [anc_eq W, pa_]; rfl
  have e2 : anc T b = p :: anc T p := by rw [anc_eq W, pb]; rfl
  have l1 := W.par_lt a p pa_
  have l2 := W.par_lt b p pb
  rcases anc_line W x x (Nat.le_refl _) a b ha hb with e | e | e
  · exact e
  · rw [e1] at e
    rcases List.mem_cons.mp e with e | e
    · omega
    · have := anc_lt' W e; omega
  · rw [e2] at e
    rcases List.mem_cons.mp e with e | e
    · omega
    · have := anc_lt' W e; omega
theorem chain_up (W : WF T) {x s q : Nat} (hs : s ∈ x :: anc T x) (hq : q ∈ anc T s) : q ∈ x :: anc T x := by
  rcases List.mem_cons.mp hs with rfl | hs
  · exact .tail _ hq
  · exact .tail _ (anc_trans W x x (Nat.le_refl _) s q hs hq)
theorem lots_nd (W : WF T) (f : Nat → List Nat) (g : Nat → List Nat) (hf : ∀ h s, s ∈ f h → s ∈ sibs T h ∧ s ≠ h) (hfn : ∀ h, (f h).Nodup) (hg : ∀ s x, x ∈ g s → x ∈ pre T s) (hgn : ∀ s, (g s).Nodup) (u : Nat) :
    ((u :: anc T u).flatMap fun h => (f h).flatMap g).Nodup := by
  have hc : (u :: anc T u).Nodup := List.nodup_cons.mpr ⟨fun h => Nat.lt_irrefl _ (anc_lt' W h), anc_nd W u u (Nat.le_refl _)⟩
  unfold List.Nodup
  rw [List.pairwise_flatMap]
  refine ⟨fun h _ => ?_, hc.imp_of_mem fun {a b} ha hb hab x hx y hy e => ?_⟩
  · rw [List.pairwise_flatMap]
    refine ⟨fun s _ => hgn s, (hfn h).imp_of_mem fun {a b} ha hb hab x hx y hy e => ?_⟩
    subst e
    obtain ⟨p, p1, p2⟩ := sib_par W (hf h a ha).1
    obtain ⟨p', p1', p2'⟩ := sib_par W (hf h b hb).1
    rw [p1] at p1'; cases p1'
    exact hab (chain_sib W (mem_chain W (hg a x hx)) (mem_chain W (hg b x hy)) p2 p2')
  · subst e
    obtain ⟨s, hs, hx⟩ := List.mem_flatMap.mp hx
    obtain ⟨s', hs', hy⟩ := List.mem_flatMap.mp hy
    have c1 := mem_chain W (hg s x hx)
    have c2 := mem_chain W (hg s' x hy)
    obtain ⟨p, p1, p2⟩ := sib_par W (hf a s hs).1
    obtain ⟨p', p1', p2'⟩ := sib_par W (hf b s' hs').1
    have up1 : ∀ {h s q : Nat}, pa T h = some q → pa T s = some q → anc T s = anc T h := fun e1 e2 => by rw [anc_eq W, e2, anc_eq W, e1]
    rcases anc_line W u u (Nat.le_refl _) a b ha hb with e | e | e
    · exact hab e
    · have : b ∈ anc T s := by rw [up1 p1 p2]; exact e
      exact (hf b s' hs').2 (chain_sib W c2 (chain_up W c1 this) p2' p1')
    · have : a ∈ anc T s' := by rw [up1 p1' p2']; exact e
      exact (hf a s hs).2 (chain_sib W c1 (chain_up W c2 this) p2 p1)
theorem prc_nd (W : WF T) (i : Nat) : (prc T i).Nodup := by
  unfold prc
  exact lots_nd W (sibA T) (fun x => (pre T x).reverse) (fun h s hs => ⟨sibA_sub hs, fun e => sibA_ne (e ▸ hs)⟩) (sibA_nd W) (fun s x hx => List.mem_reverse.mp hx) (fun s => nd_rev (pre_nd' W s)) _
theorem fol_nd (W : WF T) (i : Nat) : (fol T i).Nodup := by
  have key := lots_nd W (sibB T) (pre T) (fun h s hs => ⟨sibB_sub hs, fun e => sibB_ne W (e ▸ hs)⟩) (sibB_nd W) (fun s x hx => hx) (pre_nd' W) (up T i)
  unfold fol
  split
  · refine List.nodup_append.mpr ⟨desc_nd W _, key, fun x hx y hy e => ?_⟩
    subst e
    obtain ⟨h, hh, hy⟩ := List.mem_flatMap.mp hy
    obtain ⟨s, hs, hy⟩ := List.mem_flatMap.mp hy
    have c1 := mem_chain W hy
    have c2 : up T i ∈ anc T x := by
      unfold desc at hx
      obtain ⟨c, hc, hx⟩ := List.mem_flatMap.mp hx
      have h3 := (W.ch_ok _ c hc).2.2.1
      have h4 : up T i ∈ anc T c := by rw [anc_eq W, h3]; exact .head _
      rcases List.mem_cons.mp (mem_chain W hx) with e | e
      · rw [← e]; exact h4
      · exact anc_trans W x x (Nat.le_refl _) c _ e h4
    have c3 : h ∈ x :: anc T x := by
      rcases List.mem_cons.mp hh with e | e
      · rw [e]; exact .tail _ c2
      · exact .tail _ (anc_trans W x x (Nat.le_refl _) _ h c2 e)
    obtain ⟨p, p1, p2⟩ := sib_par W (sibB_sub hs)
    have := chain_sib W c1 c3 p2 p1
    subst this
    exact sibB_ne W hs
  · exact key
theorem axis_nd (W : WF T) (i : Nat) (ax : Ax) : (axisL T i ax).Nodup := by
  cases ax
  · exact W.ch_nd i
  · exact desc_nd W i
  · exact List.nodup_cons.mpr ⟨fun h => Nat.lt_irrefl _ (anc_lt' W h), anc_nd W i i (Nat.le_refl _)⟩
  · exact prc_nd W i
  · exact fol_nd W i
  · show (if _ then _ else _ : List Nat).Nodup
    split
    · exact W.at_nd i
    · exact .nil
  · exact sibA_nd W i
theorem axis_in (W : WF T) {r i : Nat} (hr : pa T r = none) (hi : In T r i) (ax : Ax) : ∀ x ∈ axisL T i ax, In T r x := by
  have hch : ∀ {j x : Nat}, In T r j → x ∈ ch T j → In T r x := fun hj hx => hj.down W (W.ch_ok _ _ hx).2.2.1
  have hdesc : ∀ {j x : Nat}, In T r j → x ∈ desc T j → In T r x := fun hj hx => by
    unfold desc at hx
    obtain ⟨c, hc, hx⟩ := List.mem_flatMap.mp hx
    exact (hch hj hc).pre W hx
  have hup : In T r (up T i) := by
    unfold up
    split
    · rename_i hb
      obtain ⟨p, hp⟩ := W.bes_par i hb
      rw [hp]
      exact hi.up W hp hr
    · exact hi
  have hsib : ∀ {j x : Nat}, In T r j → x ∈ sibs T j → In T r x := fun hj hx => by
    obtain ⟨p, p1, p2⟩ := sib_par W hx
    exact (hj.up W p1 hr).down W p2
  have hline : ∀ {j h : Nat}, In T r j → h ∈ j :: anc T j → In T r h := fun hj hh => by
    rcases List.mem_cons.mp hh with rfl | hh
    · exact hj
    · exact In.anc W hr hj _ hh
  intro x hx
  cases ax
  · exact hch hi hx
  · exact hdesc hi hx
  · exact hline hi hx
  · unfold axisL prc at hx
    obtain ⟨h, hh, hx⟩ := List.mem_flatMap.mp hx
    obtain ⟨s, hs, hx⟩ := List.mem_flatMap.mp hx
    exact (hsib (hline hup hh) (sibA_sub hs)).pre W (List.mem_reverse.mp hx)
  · unfold axisL fol at hx
    rcases List.mem_append.mp hx with hx | hx
    · split at hx
      · exact hdesc hup hx
      · exact nomatch hx
    · obtain ⟨h, hh, hx⟩ := List.mem_flatMap.mp hx
      obtain ⟨s, hs, hx⟩ := List.mem_flatMap.mp hx
      exact (hsib (hline hup hh) (sibB_sub hs)).pre W hx
  · have hx' : x ∈ (if kd T i == Str.ofString "element" then atl T i else []) := hx
    split at hx'
    · exact hi.down W (W.at_ok _ _ hx').2.2.1
    · exact nomatch hx'
  · exact hsib hi (sibA_sub hx)
end
example : True := by w_top off; trivial
open LCg LCt
noncomputable def TurnT (h₀ : Heap) (L : Addr) (m : Str → Option Value) (s₁ : Shared) (I : Addr) (oI : Obj) (C : Addr) (oC : Obj) (D : Addr) (oD : Obj) (J' : Bool → List (Addr × Obj) → Prop) (ok : Bool) (s' : Shared) : Prop :=
  ∃ h' tk' nx, s' = { s₁ with heap := h', toks := tk' } ∧ Fr h₀ L h' m ∧ News h₀ L h' ((I, oI) :: (C, oC) :: (D, oD) :: nx) ∧ (∀ q ∈ nx, q.1 ≠ I ∧ q.1 ≠ C ∧ q.1 ≠ D) ∧ J' ok nx
noncomputable def ElEnd (h₀ : Heap) (L : Addr) (m : Str → Option Value) (s₁ : Shared) (led : List (Addr × Obj)) (a : Int) (y : Value) (s' : Shared) : Prop :=
  (∃ t, y = .int a t) ∧ ∃ h' tk', s' = { s₁ with heap := h', toks := tk' } ∧ Fr h₀ L h' m ∧ News h₀ L h' led
section
variable {prog : Program} {w : World} {A : Around} {h₀ : Heap} {L : Addr} {m : Str → Option Value} {env : Env} {ct elt : PySem.Expr} {x : Str} {scope : Scope} {cl : List (Str × Addr)} {s : Shared} {S : List (Addr × Obj) → Prop} {P : Nat → Value → Prop} {Fin : List Value → List (Addr × Obj) → Prop}
theorem comp_J {n : Nat} (el : Nat → Int) (J : Nat → List Int → List (Addr × Obj) → Prop) (hS : ∀ i l nx, J i l nx → S nx)
    (turn : ∀ i v I oI C oC D m₂ ys l nx h tk, i < n → P i v → J i l nx → IntsAre ys l → NsObj oC m₂ → m₂ x = some v → Fr h₀ L h m → News h₀ L h ((I, oI) :: (C, oC) :: (D, lst ys) :: nx) → (@Ne Nat I C) → (@Ne Nat I D) → (@Ne Nat C D) → (∀ q ∈ nx, @Ne Nat q.1 I ∧ @Ne Nat q.1 C ∧ @Ne Nat q.1 D) →
      wpAny (model prog w) A (isTrue ct (compEnvC scope cl C env) (eval ct (compEnvC scope cl C env))) (TurnT h₀ L m { s with heap := h, toks := tk } I oI C oC D (lst ys) fun ok nx' => J (i + 1) (if ok = true then l ++ [el i] else l) nx') NoErr { s with heap := h, toks := tk })
    (helt : ∀ i v I oI C oC D m₂ ys l nx h tk, i < n → P i v → J (i + 1) (l ++ [el i]) nx → NsObj oC m₂ → m₂ x = some v → Fr h₀ L h m → News h₀ L h ((I, oI) :: (C, oC) :: (D, lst ys) :: nx) →
      wpAny (model prog w) A (eval elt (compEnvC scope cl C env)) (ElEnd h₀ L m { s with heap := h, toks := tk } ((I, oI) :: (C, oC) :: (D, lst ys) :: nx) (el i)) NoErr { s with heap := h, toks := tk })
    (fin : ∀ ys l nx, J n l nx → IntsAre ys l → Fin ys nx) : ∀ (j i : Nat) (ys : List Value) (l : List Int) (nx : List (Addr × Obj)), i + j = n → J i l nx → IntsAre ys l → CompRestT prog w A h₀ L m env ct elt x scope cl s S P Fin j i ys nx
  | 0, i, ys, l, nx, hi, hJ, hy => by
    have e : i = n := by omega
    subst e
    exact CompRestT.zero (fin ys l nx hJ hy)
  | j + 1, i, ys, l, nx, hi, hJ, hy => by
    refine CompRestT.succ ?_
    intro v I oI C oC D m₂ h tk E' hv hC hx F N off ne
    refine wpAny_mono (turn i v I oI C oC D m₂ ys l nx h tk (by k_extra "om") hv hJ hy hC hx F N ne.1 ne.2.1 ne.2.2 (fun q hq => off.mem q hq)) (fun ok s₂ hq => ?_) fun _ _ e => e.elim
    obtain ⟨h', tk', nx', rfl, F', N', off', hJ'⟩ := hq
    cases ok with
    | true =>
      simp only [if_true] at hJ' ⊢
      refine wpAny_mono (helt i v I oI C oC D m₂ ys l nx' h' tk' (by k_extra "om") hv hJ' hC hx F' N') (fun y s₃ hr => ?_) fun _ _ e => e.elim
      obtain ⟨⟨t, rfl⟩, h'', tk'', rfl, F'', N''⟩ := hr
      exact ⟨h'', tk'', nx', rfl, F'', N'', Off3.of off', hS _ _ _ hJ', comp_J el J hS turn helt fin j (i + 1) _ _ nx' (by k_extra "om") hJ' (hy.append (.cons _ _ .nil))⟩
    | false =>
      simp only [Bool.false_eq_true, if_false] at hJ' ⊢
      exact ⟨h', tk', nx', rfl, F', N', Off3.of off', hS _ _ _ hJ', comp_J el J hS turn helt fin j (i + 1) _ _ nx' (by k_extra "om") hJ' hy⟩
end
section
variable {prog : Program} {w : World} {A : Around} {h₀ : Heap} {L : Addr} {m : Str → Option Value} {env : Env} {ct : PySem.Expr} {x : Str} {xp : Pos} {scope : Scope} {cl : List (Str × Addr)} {s : Shared} {Fin : Shared → List Value → List (Addr × Obj) → Prop}
theorem comp_filter {ax : Addr} {vs : List Value} {ns : List Nat} {news : List (Addr × Obj)} (p : Nat → Bool) (hh : A.handled = none) (F : Fr h₀ L s.heap m) (N : News h₀ L s.heap news) (hsrc : SrcAt h₀ ax vs.toArray news) (hi : IntsAre vs (nat ns)) (hsz : ns.length ≤ 10000)
    (hk : scope.kind = .function) (hxl : scope.names.lookup x = some .local) (hxd : (x == ("__debug__" : Str)) = false)
    (turn : ∀ j t I oI C oC D m₂ ys h tk, j ∈ ns → NsObj oC m₂ → m₂ x = some (.int (j : Int) t) → Fr h₀ L h m → News h₀ L h ((I, oI) :: (C, oC) :: (D, lst ys) :: news) → (@Ne Nat I C) → (@Ne Nat I D) → (@Ne Nat C D) → (∀ q ∈ news, @Ne Nat q.1 I ∧ @Ne Nat q.1 C ∧ @Ne Nat q.1 D) →
      wpAny (model prog w) A (isTrue ct (compEnvC scope cl C env) (eval ct (compEnvC scope cl C env))) (TurnT h₀ L m { s with heap := h, toks := tk } I oI C oC D (lst ys) fun ok nx' => ok = p j ∧ nx' = news) NoErr { s with heap := h, toks := tk })
    (fin : ∀ g ys, IntsAre ys (nat (ns.filter p)) → Fin { s with heap := g } ys news) :
    CompSrcT prog w A h₀ L m env ct (.Name x xp) x scope cl Fin (.ref ax) s := by
  have hl := hi.length
  rw [nat_len] at hl
  have hl2 : vs.toArray.size = ns.length := (List.size_toArray ..).trans hl
  refine .inl ⟨ax, _, news, rfl, hh, F, N, hsrc, by rw [hl2, PySem.sizeLine_eq]; omega, ?_⟩
  rintro s₂ ⟨g, rfl⟩
  have hP : ∀ (i : Nat) (v : Value), vs.toArray[i]? = some v → ∃ j t, ns[i]? = some j ∧ v = Value.int (j : Int) t := fun i v hv => by
    have hv' : vs[i]? = some v := by simpa using hv
    have hlt : i < ns.length := by rw [← hl]; exact (List.getElem?_eq_some_iff.mp hv').1
    obtain ⟨t, ht⟩ := hi.get i (ns[i] : Int) (by unfold nat; simp [hlt])
    rw [hv'] at ht
    cases ht
    exact ⟨_, t, by simp [hlt], rfl⟩
  refine comp_J (n := vs.toArray.size) (fun i => ((ns.getD i 0 : Nat) : Int)) (fun i l nx => nx = news ∧ l = nat ((ns.take i).filter p)) (fun i l nx h => h.1 ▸ hsrc) ?_ ?_ ?_ _ 0 [] [] news (by k_extra "om") ⟨rfl, by simp [nat]⟩ .nil
  · rintro i v I oI C oC D m₂ ys l nx h tk hlt hv ⟨rfl, rfl⟩ hy hC hx F' N' n1 n2 n3 off
    obtain ⟨j, t, hj, rfl⟩ := hP i v hv
    refine wpAny_mono (turn j t I oI C oC D m₂ ys h tk (List.mem_of_getElem? hj) hC hx F' N' n1 n2 n3 off) (fun ok s' hq => ?_) fun _ _ e => e
    obtain ⟨h', tk', nx', e, F'', N'', off', rfl, rfl⟩ := hq
    refine ⟨h', tk', _, e, F'', N'', off', rfl, ?_⟩
    rw [List.take_add_one, hj, List.filter_append, nat_append, List.getD_eq_getElem?_getD, hj]
    cases q : p j <;> simp [q, nat]
  · rintro i v I oI C oC D m₂ ys l nx h tk hlt hv _ hC hx F' N'
    obtain ⟨j, t, hj, rfl⟩ := hP i v hv
    refine LCgL.ld_own N' (.tail _ (.head _)) hC hx ⟨⟨t, ?_⟩, h, tk, rfl, F', N'⟩ ?_ ?_ hxd
    · rw [List.getD_eq_getElem?_getD, hj]; rfl
    · exact hk
    · exact lookup_relabel_local hxl
  · rintro ys l nx ⟨rfl, rfl⟩ hy
    rw [hl2, List.take_length] at hy
    exact fin g ys hy
end
example : True := by w_top off; trivial
open LCg LCt
section
variable {prog : Program} {w : World} {A : Around} {E : Value → Shared → Prop} {s : Shared} {h₀ : Heap} {L : Addr} {m : Str → Option Value} {env : Env} {K : Type} [DecidableEq K] {knd : PySem.KeyKind prog w K}
noncomputable def TurnD (prog : Program) (w : World) {K : Type} [DecidableEq K] (knd : PySem.KeyKind prog w K) (h₀ : Heap) (L : Addr) (m : Str → Option Value) (s₁ : Shared) (I : Addr) (oI : Obj) (C : Addr) (oC : Obj) (D : Addr) (oD : Obj) (kvs : List (K × Value)) (J : List (K × Value) → List (Addr × Obj) → Prop) (key y : Value) (s' : Shared) : Prop :=
  ∃ k h' tk' nx, knd.is k key = true ∧ s' = { s₁ with heap := h', toks := tk' } ∧ Fr h₀ L h' m ∧ News h₀ L h' ((I, oI) :: (C, oC) :: (D, oD) :: nx) ∧ (∀ q ∈ nx, @Ne Nat q.1 I ∧ @Ne Nat q.1 C ∧ @Ne Nat q.1 D) ∧ J (stored kvs k y) nx
theorem block_D {kx vx iter : PySem.Expr} {x : Str} {px : Pos} {scope : Scope} {cl : List (Str × Addr)} {pos : Pos} {s₂ : Shared} {ax : Addr} {its : Array Value} {news : List (Addr × Obj)} {Q : Value → Shared → Prop}
    (J : Nat → List (K × Value) → List (Addr × Obj) → Prop) (hh : A.handled = none) (hsz : its.size ≤ 10000) (hJs : ∀ i kvs nx, J i kvs nx → kvs.length ≤ i ∧ SrcAt h₀ ax its nx)
    (hcell : ∀ y ∈ scope.names, y.2 ≠ .cell) (hkind : scope.kind = .function) (hx : scope.names.lookup x = some .local) (hl : s₂.heap.IsList ax its)
    (F : Fr h₀ L s₂.heap m) (N : News h₀ L s₂.heap news) (h0 : J 0 [] news)
    (turn : ∀ i v I oI C oC D oD m₂ kvs nx h tk (E' : Value → Shared → Prop), its[i]? = some v → J i kvs nx → NsObj oC m₂ → m₂ x = some v → oD.IsDictOf knd kvs → Fr h₀ L h m → News h₀ L h ((I, oI) :: (C, oC) :: (D, oD) :: nx) → (@Ne Nat I C) → (@Ne Nat I D) → (@Ne Nat C D) → (∀ q ∈ nx, @Ne Nat q.1 I ∧ @Ne Nat q.1 C ∧ @Ne Nat q.1 D) →
      wpAny (model prog w) A (eval kx (compEnvC scope cl C env)) (fun key s₃ => wpAny (model prog w) A (eval vx (compEnvC scope cl C env)) (TurnD prog w knd h₀ L m { s₂ with heap := h, toks := tk } I oI C oC D oD kvs (J (i + 1)) key) E' s₃) E' { s₂ with heap := h, toks := tk })
    (done : ∀ D oD kvs nx h tk, @LT.lt Nat _ L D → J its.size kvs nx → oD.IsDictOf knd kvs → Fr h₀ L h m → News h₀ L h ((D, oD) :: nx) → (∀ q ∈ nx, @Ne Nat q.1 D) → Q (.ref D) { s₂ with heap := h, toks := tk }) :
    wpAny (model prog w) A (pyIter (.ref ax)) (fun it s₃ => wpAny (model prog w) A newDict (fun acc s₄ => wpAny (model prog w) A (newFunctionEnv scope env.globals cl [] env.qual none .none (some env)) (fun cenv s₅ =>
      codeAny (model prog w) A (.compStart (.DictComp kx vx [⟨.Name x px, iter, [], 0⟩] scope pos) 0 it acc { cenv with scope := relabel scope env }) (compPost (model prog w) A E none Q acc cenv.locals) s₅) E s₄) E s₃) E s₂ := by
  have hlt : ax < s₂.heap.objs.size := by obtain ⟨_, e, _⟩ := hl; exact Heap.lt_size e
  refine wpAny_pyIter_list hl ?_
  have W := Walks.list (prog := prog) (w := w) hh s₂.heap.objs.size ax (Nat.ne_of_lt hlt) its
  have up : ∀ b o, s₂.heap.get? b = some o → (s₂.heap.push { cls := .type "list_iterator", data := .fields #[.ref ax, .int 0 0] }).get? b = some o := fun b o e => Heap.get?_push_of_some _ e
  have F1 := F.keeps up
  have N1 := N.grown up
  have hI0 : (s₂.heap.push { cls := .type "list_iterator", data := .fields #[.ref ax, .int 0 0] }).get? s₂.heap.objs.size = some { cls := .type "list_iterator", data := .fields #[.ref ax, .int 0 0] } := Heap.get?_push_size _ rfl
  have hIn := next_is_new F
  have hIL : L ≠ s₂.heap.objs.size := Nat.ne_of_lt F.ns.lt
  have hI1 : (s₂.heap.push { cls := .type "list_iterator", data := .fields #[.ref ax, .int 0 0] }).objs.size = s₂.heap.objs.size + 1 := Heap.size_push ..
  have offI : ∀ p ∈ news, p.1 ≠ s₂.heap.objs.size := fun p hp => Nat.ne_of_lt (Heap.lt_size (N p hp).1)
  have st0 : (s₂.heap.push { cls := .type "list_iterator", data := .fields #[.ref ax, .int 0 0] }).IsListIter s₂.heap.objs.size ax 0 ∧ (s₂.heap.push { cls := .type "list_iterator", data := .fields #[.ref ax, .int 0 0] }).IsList ax its := ⟨⟨_, hI0, rfl, rfl⟩, hl.at fun o e => up _ o e⟩
  generalize hH1 : s₂.heap.push { cls := .type "list_iterator", data := .fields #[.ref ax, .int 0 0] } = H1 at *
  generalize hII : s₂.heap.objs.size = I at *
  refine wpAny_newObj_type (wpAny_newFunctionEnv hcell (by intro y hy; simp at hy) (fun h₁ hns₁ hsb₁ => ?_) hkind)
  dsimp only at hns₁ hsb₁ ⊢
  have hnew : (H1.push { cls := .type "dict", dict := none, data := .dict #[] }).DictOf knd H1.objs.size [] := Heap.DictOf.new H1
  generalize hH2 : H1.push { cls := .type "dict", dict := none, data := .dict #[] } = H2 at hns₁ hsb₁ hnew ⊢
  have hC : H2.objs.size = H1.objs.size + 1 := by rw [← hH2, Heap.size_push]
  have hDC : H1.objs.size ≠ H2.objs.size := by rw [hC]; exact Nat.ne_of_lt (Nat.lt_succ_self _)
  have below : ∀ b, b < H1.objs.size → b ≠ H2.objs.size ∧ b ≠ H1.objs.size := fun b hb => ⟨by rw [hC]; exact Nat.ne_of_lt (Nat.lt_succ_of_lt hb), Nat.ne_of_lt hb⟩
  have hIlt : I < H1.objs.size := by rw [hI1]; exact Nat.lt_succ_self _
  have hCI : I ≠ H2.objs.size := (below I hIlt).1
  have hDI : I ≠ H1.objs.size := (below I hIlt).2
  have old : ∀ b o, H1.get? b = some o → h₁.get? b = some o := fun b o e => hsb₁.extBut b o (below b (Heap.lt_size e)).1 (Heap.get?_push_of_some _ (hH2 ▸ Heap.get?_push_of_some _ e))
  have hacc : h₁.DictOf knd H1.objs.size [] := hnew.at fun o e => hsb₁.extBut _ _ hDC (Heap.get?_push_of_some _ e)
  have hst₁ : h₁.IsListIter I ax 0 ∧ h₁.IsList ax its := ⟨by obtain ⟨o, e, r⟩ := st0.1; exact ⟨o, old _ _ e, r⟩, st0.2.at fun o e => old _ o e⟩
  have fresh : ∀ a, H1.objs.size ≤ a → H1.get? a = none := fun a ha => by
    cases e : H1.get? a with
    | none => rfl
    | some o' => exact absurd (Heap.lt_size e) (Nat.not_lt.mpr ha)
  have fresh₀ : ∀ a, H1.objs.size ≤ a → h₀.get? a = none := fun a ha => by
    cases e : h₀.get? a with
    | none => rfl
    | some o' => have := F1.keep a o' e; rw [fresh a ha] at this; cases this
  have hD₀ : h₀.get? H1.objs.size = none := fresh₀ _ (Nat.le_refl _)
  have hC₀ : h₀.get? H2.objs.size = none := fresh₀ _ (by rw [hC]; exact Nat.le_succ _)
  have hLlt : L < H1.objs.size := F1.ns.lt
  have hDL : H1.objs.size ≠ L := Ne.symm (below L hLlt).2
  have hCL : H2.objs.size ≠ L := Ne.symm (below L hLlt).1
  have hC1 : H1.get? H2.objs.size = none := fresh _ (by rw [hC]; exact Nat.le_succ _)
  have hD1 : H1.get? H1.objs.size = none := fresh _ (Nat.le_refl _)
  clear hH1 hII hl
  have loop : ∀ s₃ : Shared, s₃ = { s₂ with heap := h₁, toks := s₂.toks + ([] : List (Str × Value)).length } →
      codeAny (model prog w) A (.compLoop (.DictComp kx vx [⟨.Name x px, iter, [], 0⟩] scope pos) 0 (.ref I) (.ref H1.objs.size) (compEnvC scope cl H2.objs.size env))
        (compPost (model prog w) A E none Q (.ref H1.objs.size) H2.objs.size) s₃ := by
    rintro s₃ rfl
    refine codeAny_compLoop_testsD
      (fun k s' => ∃ h' tk i kvs m' nx oD, s' = { s₂ with heap := h', toks := tk } ∧ i ≤ its.size ∧ k = its.size + 1 - i ∧ (h'.IsListIter I ax i ∧ h'.IsList ax its) ∧ Fr h₀ L h' m ∧ h'.Ns H2.objs.size m' ∧ oD.IsDictOf knd kvs ∧ News h₀ L h' ((H1.objs.size, oD) :: nx) ∧
        (∀ q ∈ nx, q.1 ≠ I ∧ q.1 ≠ H2.objs.size ∧ q.1 ≠ H1.objs.size) ∧ J i kvs nx) ?_ (its.size + 1) ?_
    · rintro k s' ⟨h', tk, i, kvs, m', nx, oD, rfl, hi, rfl, hst', F', hn', hdD, N', off', hJ⟩
      by_cases hlt : i < its.size
      · refine W.item i _ _ _ hlt hst' fun v h₂ tk₂ hPv hst₂ hk₂ => ?_
        refine wpAny_assign_Name (wpAny_storeName_local (lookup_relabel_local hx) (hn'.at' fun o e => hk₂ _ o (by simpa using Ne.symm hCI) e) (fun h₃ hn₃ hs₃ => ?_) (by simp [compEnvC, relabel, hkind]))
        rw [List.forIn_nil]
        refine wpAny_pure ?_
        simp only [if_true]
        have hst₃ : h₃.IsListIter I ax (i + 1) ∧ h₃.IsList ax its := W.frame _ _ _ hst₂ fun b hb o e => hs₃.extBut b o (fun q => by
          rcases List.mem_cons.mp hb with e2 | hb
          · exact hCI (e2.symm.trans q)
          · have e2 := List.mem_singleton.mp hb
            have : ax < h₂.objs.size := by obtain ⟨_, e3, _⟩ := hst₂.2; exact Heap.lt_size e3
            have hax : ax ≠ H2.objs.size := fun e3 => by
              obtain ⟨o3, e4, _⟩ := st0.2
              rw [e3, hC1] at e4; cases e4
            exact hax (e2.symm.trans q)) e
        obtain ⟨oI, heI, hoI⟩ := hst₃.1
        obtain ⟨oC, heC, hoC⟩ := ns_obj hn₃
        have F₃ : Fr h₀ L h₃ m := (fr_but F' hk₂ hIL hIn).change hs₃ hCL hC₀
        have N₂ : News h₀ L h₂ ((H1.objs.size, oD) :: nx) := news_but N' hk₂ fun p hp => by
          rcases List.mem_cons.mp hp with rfl | hp
          · exact Ne.symm hDI
          · exact (off' p hp).1
        have N₃ : News h₀ L h₃ ((I, oI) :: (H2.objs.size, oC) :: (H1.objs.size, oD) :: nx) := fun p hp => by
          rcases List.mem_cons.mp hp with rfl | hp
          · exact ⟨heI, Ne.symm hIL, hIn⟩
          · rcases List.mem_cons.mp hp with rfl | hp
            · exact ⟨heC, hCL, hC₀⟩
            · have z := N₂ p hp
              refine ⟨hs₃.extBut _ _ ?_ z.1, z.2⟩
              rcases List.mem_cons.mp hp with rfl | hp
              · exact hDC
              · exact (off' p hp).2.1
        refine wpAny_mono (turn i v I oI H2.objs.size oC H1.objs.size oD _ kvs nx h₃ _ _ hPv hJ hoC (by simp) hdD F₃ N₃ hCI hDI (Ne.symm hDC) off') (fun key s₄ h₄ => ?_) fun _ _ e => e
        refine wpAny_mono h₄ (fun y s₅ h₅ => ?_) fun _ _ e => e
        obtain ⟨kk, h₄, tk₄, nx₄, hkk, rfl, F₄, N₄, off₄, hJ₄⟩ := h₅
        have zI := (N₄ (I, oI) List.mem_cons_self).1
        have zC := (N₄ (H2.objs.size, oC) (List.mem_cons_of_mem _ List.mem_cons_self)).1
        have zD := (N₄ (H1.objs.size, oD) (List.mem_cons_of_mem _ (List.mem_cons_of_mem _ List.mem_cons_self))).1
        have N₄' : News h₀ L h₄ nx₄ := fun p hp => N₄ p (List.mem_cons_of_mem _ (List.mem_cons_of_mem _ (List.mem_cons_of_mem _ hp)))
        have hst₄ : h₄.IsListIter I ax (i + 1) ∧ h₄.IsList ax its := ⟨⟨oI, zI, hoI⟩, (hJs _ _ _ hJ₄).2.list F₄.keep N₄'⟩
        refine wpAny_dictSet_pairs (hsz := by have := (hJs _ _ _ hJ).1; rw [PySem.sizeLine_eq]; omega) hkk (Heap.dictOf_iff.mpr ⟨oD, zD, hdD⟩) fun h₅ hl₅ hs₅ => ?_
        obtain ⟨oD', hoD', hdD'⟩ := Heap.dictOf_iff.mp hl₅
        refine ⟨its.size + 1 - (i + 1), by omega, h₅, _, i + 1, stored kvs kk y, _, nx₄, oD', rfl, hlt, rfl, ⟨⟨oI, hs₅.extBut _ _ hDI zI, hoI⟩, hst₄.2.at fun o e => hs₅.extBut _ o (fun q => ?_) e⟩, F₄.change hs₅ hDL hD₀, (hoC.ns zC).sameBut hs₅ (Ne.symm hDC), hdD', fun p hp => ?_, off₄, hJ₄⟩
        · obtain ⟨o3, e4, _⟩ := st0.2
          rw [q, hD1] at e4; cases e4
        · rcases List.mem_cons.mp hp with rfl | hp
          · exact ⟨hoD', hDL, hD₀⟩
          · exact ⟨hs₅.extBut _ _ (off₄ p hp).2.2 (N₄' p hp).1, (N₄' p hp).2⟩
      · obtain rfl : i = its.size := Nat.le_antisymm hi (Nat.not_lt.mp hlt)
        refine W.done _ _ _ hst' fun h₂ tk₂ hk₂ => ?_
        refine ⟨_, hn'.at' fun o e => hk₂ _ o (by simpa using Ne.symm hCI) e, fun h'' hs'' => ?_⟩
        have N₂ : News h₀ L h₂ ((H1.objs.size, oD) :: nx) := news_but N' hk₂ fun p hp => by
          rcases List.mem_cons.mp hp with rfl | hp
          · exact Ne.symm hDI
          · exact (off' p hp).1
        refine done _ oD kvs nx h'' tk₂ hLlt hJ hdD ((fr_but F' hk₂ hIL hIn).change hs'' hCL hC₀) (fun p hp => ?_) fun q hq => (off' q hq).2.2
        refine ⟨hs''.extBut _ _ ?_ (N₂ p hp).1, (N₂ p hp).2⟩
        rcases List.mem_cons.mp hp with rfl | hp
        · exact hDC
        · exact (off' p hp).2.1
    · obtain ⟨oD, hoD, hdD⟩ := Heap.dictOf_iff.mp hacc
      refine ⟨h₁, _, 0, [], _, news, oD, rfl, Nat.zero_le _, rfl, hst₁, F1.keeps old, hns₁, hdD, fun p hp => ?_, fun p hp => ⟨offI p hp, (below _ (Heap.lt_size (N1 p hp).1)).1, (below _ (Heap.lt_size (N1 p hp).1)).2⟩, h0⟩
      rcases List.mem_cons.mp hp with rfl | hp
      · exact ⟨hoD, hDL, hD₀⟩
      · exact ⟨old _ _ (N1 p hp).1, (N1 p hp).2⟩
  exact codeAny_compStart_dict (loop _ rfl) (W.self 0 _ _ _ hst₁ (loop _ rfl))
theorem DictComp_N {kx vx iter : PySem.Expr} {x : Str} {px : Pos} {scope : Scope} {cl : List (Str × Addr)} {pos : Pos} {Q : Value → Shared → Prop}
    (hclos : closureFor scope env = pure cl) (hkind : scope.kind = .function) (hnames : ∀ y ∈ scope.names, y.2 = .local → scope.names.lookup y.1 = some .local)
    (h : wpAny (model prog w) A (eval iter env) (fun xv s₁ => wpAny (model prog w) A (pyIter xv) (fun it s₃ => wpAny (model prog w) A newDict (fun acc s₄ => wpAny (model prog w) A (newFunctionEnv scope env.globals cl [] env.qual none .none (some env)) (fun cenv s₅ =>
      codeAny (model prog w) A (.compStart (.DictComp kx vx [⟨.Name x px, iter, [], 0⟩] scope pos) 0 it acc { cenv with scope := relabel scope env }) (compPost (model prog w) A E none Q acc cenv.locals) s₅) E s₄) E s₃) E s₁) E s)
    (hs : ∀ x, foldedSetIterable iter env x = pure x := by intro _; rfl) :
    wpAny (model prog w) A (eval (.DictComp kx vx [⟨.Name x px, iter, [], 0⟩] scope pos) env) Q E s := by
  rw [arm_eval_DictComp]
  exact wpAny_comprehension_free (use := none) rfl hs hclos hkind hnames h
end
example : True := by w_top off; trivial
section
variable {prog : Program} {w : World} {A : Around} {E : Value → Shared → Prop} {s : Shared}
theorem lex_ok {a b : List Nat} {Q : Bool → Shared → Prop} {fl : Bool} : ∀ {xs ys : List Value} {a b : List Nat} {fin : Bool} {i : Nat}, IntsAre xs (nat a) → IntsAre ys (nat b) → fin = decide (a.length < b.length) → Q (lexlt a b) s → KatLex prog w A fl fin Q (xs.zip ys) i s := by
  intro xs ys a
  induction a generalizing xs ys with
  | nil =>
    intro b fin i hx hy hf h
    cases hx
    refine kat_nil ?_
    cases b with
    | nil => rw [hf]; exact h
    | cons y b => rw [hf]; simpa [lexlt] using h
  | cons x a ih =>
    intro b fin i hx hy hf h
    cases b with
    | nil =>
      cases hy
      rw [List.zip_nil_right]
      refine kat_nil ?_
      rw [hf]; simpa [lexlt] using h
    | cons y b =>
      cases hx with
      | cons _ tx hx =>
        cases hy with
        | cons _ ty hy =>
          show KatLex prog w A fl fin Q ((Value.int (x : Int) tx, Value.int (y : Int) ty) :: _) i s
          refine kat_cons (wpAny_eqBool_int ?_)
          have e : (((x : Int) == (y : Int)) : Bool) = (x == y) := by
            by_cases h : x = y
            · subst h; rw [beq_self_eq_true, beq_self_eq_true]
            · have h' : (x : Int) ≠ (y : Int) := by omega
              rw [beq_eq_false_iff_ne.mpr h', beq_eq_false_iff_ne.mpr h]
          rw [e]
          have hl : lexlt (x :: a) (y :: b) = (if x == y then lexlt a b else decide (x < y)) := rfl
          cases q : (x == y) with
          | true =>
            refine kat_yes (ih hx hy ?_ ?_)
            · rw [hf, List.length_cons, List.length_cons]; congr 1; exact propext ⟨fun h => by omega, fun h => by omega⟩
            · rw [hl, q, if_pos rfl] at h; exact h
          | false =>
            rw [hl, q, if_neg (by simp)] at h
            have e2 : decide ((x : Int) < (y : Int)) = decide (x < y) := by congr 1; exact propext ⟨fun h => by omega, fun h => by omega⟩
            refine kat_no ?_
            cases q3 : (fl && i == 0) with
            | true => exact oneLt_int (by rw [e2]; exact h)
            | false => exact kat_one _ _ (PyProof.Rows.lt_int (by rw [e2]; exact h))
theorem lt_ok {x y : Addr} {xs ys : List Value} {n k : Nat} {a b : List Nat} {Q : Bool → Shared → Prop} {fl : Bool} (hx : s.heap.get? x = some (tupOf xs n)) (hy : s.heap.get? y = some (tupOf ys k)) (ha : IntsAre xs (nat a)) (hb : IntsAre ys (nat b)) (h : Q (lexlt a b) s) :
    wpAny (model prog w) A (keyLt' (tuples' fl) (.ref x) (.ref y)) Q E s := by
  refine kat_lt hx rfl hy rfl ?_
  refine lex_ok (a := a) (b := b) ha hb ?_ h
  have e1 := ha.length
  have e2 := hb.length
  rw [nat_len] at e1 e2
  rw [List.size_toArray, List.size_toArray, e1, e2]
end
noncomputable def seq1 (out : List Value) (c : Nat) : Obj := listOf (List.toArray out) c
section
variable {prog : Program} {w : World} {A : Around} {E : Value → Shared → Prop} {s : Shared} {h₀ : Heap} {L a kS : Addr} {m : Str → Option Value} {news : List (Addr × Obj)} {vs ks : List Value}
theorem end_one {e e1 : Nat} {P : PySem.Fin → Shared → Prop} (hl : ks.length = vs.length) (h1 : vs.length < 2)
    (h : KatFin h₀ L m kS a ks e e1 vs (fun s3 => P (.done (.ret .none)) s3) s) : wpAny (model prog w) A (ksk_end a false vs.toArray e1 (.ref kS) (List.toArray ks)) P E s := by
  have hn2 : vs.toArray.size < 2 := by rw [List.size_toArray]; exact h1
  unfold ksk_end
  try dsimp only
  simp only [Bool.false_eq_true, if_false]
  rw [if_pos hn2, if_pos hn2]
  refine wpAny_bind (wpAny_pure ?_)
  rw [StateT.run_pure]
  refine wpAny_bind (wpAny_pure ?_)
  try dsimp only
  refine kat_tail (st := SortSt.mk' general' ((List.toArray ks).zip vs.toArray) #[] 7 none) (out := vs) ?_ (by k_extra "om") (by k_extra "om") rfl h
  show ((List.toArray ks).zip vs.toArray).map (·.2) = List.toArray vs
  apply Array.toList_inj.mp
  rw [Array.toList_map, ksk_zip]
  show ((List.toArray ks).toList.zip vs).map Prod.snd = vs
  rw [List.toList_toArray, List.map_snd_zip (by k_extra "om")]
theorem rest_any {f : Value} {e1 : Nat} {P : PySem.Fin → Shared → Prop} (hk : s.heap.get? kS = some (seqObj "list" #[] 0)) (h64 : vs.length < 64)
    (h : KatKeys prog w A h₀ L m kS f (fun ks e s' => wpAny (model prog w) A (ksk_end a false vs.toArray e1 (.ref kS) (List.toArray ks)) P E s') vs [] 0 s) :
    wpAny (model prog w) A (ksk_rest a f false vs.toArray e1 (.ref kS)) P E s := by
  unfold ksk_rest
  refine wpAny_bind (wpAny_rule ?_)
  first
    | rw [List.forIn_toArray]
    | (rw [← Array.forIn_toList]; simp only [List.toList_toArray])
    | rw [← Array.forIn_toList]
  refine wpAny_bind (wpAny_mono (kat_fold h64 (fun x ks e s' C hz hx => ?_) vs [] 0 s (by simp) hk h) (fun _ s' hd => ?_) fun _ _ x => x)
  · refine wpAny_bind (wpAny_attempt (wpAny_mono hx (fun k s'' hk => ?_) fun _ _ hF => hF.elim))
    obtain ⟨news', g, F', N', U, c⟩ := hk
    obtain ⟨pre, post, e0, hg, x1, x2⟩ := U.split
    rw [e0] at N'
    have nk := N' (kS, seqObj "list" (List.toArray ks) e) (List.mem_append_right _ (.head _))
    have s1 := Heap.SameBut.update s''.heap kS (Obj.mapSeq (·.push k))
    have ea : (List.toArray ks).push k = List.toArray (ks ++ [k]) := by simp
    obtain ⟨c2, hc2⟩ : ∃ c2, (s''.heap.update kS (Obj.mapSeq (·.push k))).get? kS = some (seqObj "list" (List.toArray (ks ++ [k])) c2) := ⟨_, by rw [← ea]; exact get?_update_seq nk.1 (·.push k)⟩
    try dsimp only
    refine wpAny_bind (listUpdate_at nk.1 rfl ?_ (by rw [List.size_toArray, sizeLine_eq]; omega) (Nat.le_trans (Nat.le_of_eq (Array.size_push ..)) (by rw [List.size_toArray, sizeLine_eq]; omega)))
    exact wpAny_pure ⟨rfl, k, c2, hc2, c _ c2 (kas_fr F' s1 nk.2.1 nk.2.2) (by rw [hg]; exact news_set N' x1 x2 s1 hc2)⟩
  · obtain ⟨ks, e, hk', hl, fin⟩ := hd
    try dsimp only
    exact wpAny_bind (listItems_at hk' rfl fin)
theorem tree_any {f : Value} {n : Nat} {P : PySem.Fin → Shared → Prop} (F : Fr h₀ L s.heap m) (N : News h₀ L s.heap news) (ho : s.heap.get? a = some (seqObj "list" vs.toArray n)) (haL : a ≠ L) (ha0 : h₀.get? a = none) (hna : ∀ p ∈ news, p.1 ≠ a) (h64 : vs.length < 64)
    (h : ∀ kS e1 h', Fr h₀ L h' m → News h₀ L h' ((kS, seqObj "list" #[] 0) :: (a, seqObj "list" #[] e1) :: news) → a < kS → (∀ q ∈ news, q.1 < kS) →
      KatKeys prog w A h₀ L m kS f (fun ks e s' => wpAny (model prog w) A (ksk_end a false vs.toArray e1 (.ref kS) (List.toArray ks)) P E s') vs [] 0 { s with heap := h' }) :
    wpAny (model prog w) A (ksk_tree a f false) P E s := by
  have ha : a < s.heap.objs.size := Heap.lt_size ho
  have s1 := Heap.SameBut.update s.heap a (Obj.mapSeq fun _ => (#[] : Array Value))
  obtain ⟨e1, ho1⟩ : ∃ e1, (s.heap.update a (Obj.mapSeq fun _ => (#[] : Array Value))).get? a = some (seqObj "list" #[] e1) := ⟨_, get?_update_seq ho fun _ => #[]⟩
  have F1 := kas_fr F s1 haL ha0
  have N1 := kas_news N s1 hna
  have hkS : ((s.heap.update a (Obj.mapSeq fun _ => (#[] : Array Value))).push (seqObj "tuple" vs.toArray 0)).objs.size = s.heap.objs.size + 1 := by rw [size_push', Heap.size_update]
  have hLk : L < ((s.heap.update a (Obj.mapSeq fun _ => (#[] : Array Value))).push (seqObj "tuple" vs.toArray 0)).objs.size := (F1.push _).ns.lt
  unfold ksk_tree
  refine wpAny_bind (listItems_at ho rfl ?_)
  refine wpAny_bind (listUpdate_at ho rfl ?_ (by rw [List.size_toArray, sizeLine_eq]; omega) (Nat.zero_le _))
  refine wpAny_bind (seqEpoch_at ho1 rfl ?_)
  refine wpAny_bind (wpAny_newTuple ?_ (by show vs.length ≤ _; rw [sizeLine_eq]; omega))
  refine wpAny_bind (wpAny_newList ?_ (Nat.zero_le _))
  refine wpAny_holding ?_
  refine rest_any (s := { s with heap := ((s.heap.update a (Obj.mapSeq fun _ => (#[] : Array Value))).push (seqObj "tuple" vs.toArray 0)).push (seqObj "list" #[] 0) }) (kS := ((s.heap.update a (Obj.mapSeq fun _ => (#[] : Array Value))).push (seqObj "tuple" vs.toArray 0)).objs.size)
    (Heap.get?_push_size _ rfl) h64 (h _ e1 _ ((F1.push _).push _) (fun p hp => ?_) (by rw [hkS]; exact Nat.lt_succ_of_lt ha) fun q hq => by rw [hkS]; exact Nat.lt_succ_of_lt (Heap.lt_size (N q hq).1))
  rcases List.mem_cons.mp hp with rfl | hp
  · exact ⟨Heap.get?_push_size _ rfl, Nat.ne_of_gt hLk, Heap.get?_none_of_le (Nat.le_trans F.above (Nat.le_of_lt hLk))⟩
  · rcases List.mem_cons.mp hp with rfl | hp
    · exact ⟨Heap.get?_push_of_some _ (Heap.get?_push_of_some _ ho1), haL, ha0⟩
    · exact ⟨Heap.get?_push_of_some _ (Heap.get?_push_of_some _ (N1 p hp).1), (N1 p hp).2⟩
theorem keys_any {ns : List Nat} {f : Value} {e1 : Nat} {Fin : List Value → Nat → Shared → Prop} (pl : Nat → Value) (hna : ∀ p ∈ news, @Ne Nat p.1 kS) (hak : @Ne Nat a kS)
    (key : ∀ k t (s' : Shared), k ∈ ns → Fr h₀ L s'.heap m → News h₀ L s'.heap news → wpAny (model prog w) A (call f [.int (k : Int) t]) (fun v s'' => v = pl k ∧ ∃ h' tk', s'' = { s' with heap := h', toks := tk' } ∧ ∀ b o, s'.heap.get? b = some o → h'.get? b = some o) (fun _ _ => False) s')
    (fin : ∀ ks e h' tk, Fr h₀ L h' m → News h₀ L h' ((kS, seqObj "list" (List.toArray ks) e) :: (a, seqObj "list" #[] e1) :: news) → ks = ns.map pl → Fin ks e { s with heap := h', toks := tk }) :
    ∀ (r : List Value) (rn dn : List Nat) (e : Nat) (h' : Heap) (tk : Nat), IntsAre r (nat rn) → dn ++ rn = ns → Fr h₀ L h' m → News h₀ L h' ((kS, seqObj "list" (List.toArray (dn.map pl)) e) :: (a, seqObj "list" #[] e1) :: news) →
      KatKeys prog w A h₀ L m kS f Fin r (dn.map pl) e { s with heap := h', toks := tk }
  | [], rn, dn, e, h', tk, hr, hd, F, N => by
    have : rn = [] := by
      cases rn with
      | nil => rfl
      | cons x r => cases hr
    subst this
    rw [List.append_nil] at hd
    subst hd
    exact KatKeys.nil (fin _ e h' tk F N rfl)
  | v :: r, rn, dn, e, h', tk, hr, hd, F, N => by
    cases rn with
    | nil => cases hr
    | cons x rn =>
      cases hr with
      | cons _ t hr =>
        refine KatKeys.cons (wpAny_mono (key x t { s with heap := h', toks := tk } (hd ▸ List.mem_append_right _ (.head _)) F fun p hp => N p (.tail _ (.tail _ hp))) (fun v s'' hv => ?_) fun _ _ e => e)
        obtain ⟨rfl, h2, tk2, rfl, hk⟩ := hv
        refine ⟨(kS, seqObj "list" (List.toArray (dn.map pl)) e) :: (a, seqObj "list" #[] e1) :: news, fun o => (kS, o) :: (a, seqObj "list" #[] e1) :: news, F.keeps hk, N.grown hk, .head ?_, fun h3 c F3 N3 => ?_⟩
        · intro p hp
          rcases List.mem_cons.mp hp with rfl | hp
          · exact hak
          · exact hna p hp
        · have e2 : (dn.map pl) ++ [pl x] = (dn ++ [x]).map pl := by rw [List.map_append]; rfl
          have N4 : News h₀ L h3 ((kS, seqObj "list" (List.toArray (dn.map pl ++ [pl x])) c) :: (a, seqObj "list" #[] e1) :: news) := N3
          show KatKeys prog w A h₀ L m kS f Fin r (dn.map pl ++ [pl x]) c _
          rw [e2] at N4 ⊢
          exact keys_any pl hna hak key fin r rn (dn ++ [x]) c h3 tk2 hr (by rw [List.append_assoc]; exact hd) F3 N4
end
theorem pw_or {R : Nat → Nat → Prop} : ∀ {l : List Nat}, l.Pairwise R → ∀ {x y : Nat}, x ∈ l → y ∈ l → x ≠ y → R x y ∨ R y x
  | [], _, x, _, hx, _, _ => nomatch hx
  | z :: l, h, x, y, hx, hy, hne => by
    obtain ⟨h1, h2⟩ := List.pairwise_cons.mp h
    rcases List.mem_cons.mp hx with e1 | hx1
    · rcases List.mem_cons.mp hy with e2 | hy1
      · exact absurd (e1.trans e2.symm) hne
      · exact .inl (e1 ▸ h1 y hy1)
    · rcases List.mem_cons.mp hy with e2 | hy1
      · exact .inr (e2 ▸ h1 x hx1)
      · exact pw_or h2 hx1 hy1 hne
theorem place_inj {T : List Row} (W : WF T) {i x y : Nat} (hx : In T i x) (hy : In T i y) (hne : x ≠ y) : placeN T x ≠ placeN T y := fun e => by
  rcases pw_or (doc_pw' W i) (in_doc W x x (Nat.le_refl _) hx) (in_doc W y y (Nat.le_refl _) hy) hne with h | h
  · unfold before at h; rw [e, lexlt_irr] at h; cases h
  · unfold before at h; rw [e, lexlt_irr] at h; cases h
theorem pm_mem {n : Nat} {p : Array Nat} (P : Pm n p) {i : Nat} (hi : i < n) : i ∈ p.toList := by
  have hz : p.toList.length = n := by rw [Array.length_toList]; exact P.1
  have hg : ∀ a (h : a < p.toList.length), p.toList[a] = p.getD a 0 := fun a h => by
    have h' : a < p.size := by rw [← Array.length_toList]; exact h
    simp [Array.getD, h']
  apply Classical.byContradiction
  intro hn
  have hnd : (i :: p.toList).Nodup := by
    refine List.nodup_cons.mpr ⟨hn, ?_⟩
    unfold List.Nodup
    rw [List.pairwise_iff_getElem]
    intro a b ha hb hab
    rw [hg a ha, hg b hb]
    exact P.2.2 a b (by k_extra "om") (by k_extra "om") (by k_extra "om")
  have := nodup_len n _ hnd (fun x hx => by
    rcases List.mem_cons.mp hx with rfl | hx
    · exact hi
    · obtain ⟨a, ha, rfl⟩ := List.getElem_of_mem hx
      rw [hg a ha]
      exact P.2.1 a (by k_extra "om"))
  rw [List.length_cons] at this
  omega
theorem sorted_list {T : List Row} {ns : List Nat} {p : Array Nat} (P : Pm ns.length p) (S : Sd (fun i j => lexlt (placeN T (ns.getD i 0)) (placeN T (ns.getD j 0))) p ns.length) :
    (p.toList.map fun i => ns.getD i 0).Pairwise (before T) ∧ ∀ x, x ∈ (p.toList.map fun i => ns.getD i 0) ↔ x ∈ ns := by
  have hz : p.toList.length = ns.length := by rw [Array.length_toList]; exact P.1
  have hg : ∀ a (h : a < p.toList.length), p.toList[a] = p.getD a 0 := fun a h => by
    have h' : a < p.size := by rw [← Array.length_toList]; exact h
    simp [Array.getD, h']
  refine ⟨?_, fun x => ⟨fun hx => ?_, fun hx => ?_⟩⟩
  · rw [List.pairwise_iff_getElem]
    intro a b ha hb hab
    rw [List.length_map] at ha hb
    rw [List.getElem_map, List.getElem_map, hg a ha, hg b hb]
    exact S a b hab (by k_extra "om")
  · obtain ⟨i, hi, rfl⟩ := List.mem_map.mp hx
    obtain ⟨a, ha, rfl⟩ := List.getElem_of_mem hi
    rw [hg a ha]
    have : p.getD a 0 < ns.length := P.2.1 a (by k_extra "om")
    rw [List.getD_eq_getElem?_getD, List.getElem?_eq_getElem this]
    exact List.getElem_mem _
  · obtain ⟨i, hi, rfl⟩ := List.getElem_of_mem hx
    exact List.mem_map.mpr ⟨i, pm_mem P hi, by rw [List.getD_eq_getElem?_getD, List.getElem?_eq_getElem hi]; rfl⟩
theorem ints_pick {vs : List Value} {ns : List Nat} (h : IntsAre vs (nat ns)) : ∀ (l : List Nat), (∀ i ∈ l, i < ns.length) → IntsAre (l.map fun i => vs.getD i Value.none) (nat (l.map fun i => ns.getD i 0))
  | [], _ => .nil
  | i :: l, hl => by
    have hi := hl i (.head _)
    obtain ⟨t, ht⟩ := h.get i (ns[i] : Int) (by unfold nat; simp [hi])
    have e1 : vs.getD i Value.none = .int (ns.getD i 0 : Int) t := by
      rw [List.getD_eq_getElem?_getD, ht, List.getD_eq_getElem?_getD, List.getElem?_eq_getElem hi]; rfl
    show IntsAre (vs.getD i Value.none :: _) ((ns.getD i 0 : Int) :: _)
    rw [e1]
    exact .cons _ _ (ints_pick h l fun j hj => hl j (.tail _ hj))
section
variable {prog : Program} {w : World} {A : Around} {s : Shared} {h₀ : Heap} {L : Addr} {m : Str → Option Value} {news : List (Addr × Obj)}
theorem kat_tups_of {T : List Row} {h : Heap} {pl : Nat → Value} : ∀ {ns : List Nat}, (∀ k ∈ ns, ∃ a vs n, pl k = .ref a ∧ h.get? a = some (tupOf vs n) ∧ IntsAre vs (nat (placeN T k)) ∧ placeN T k ≠ []) →
    ∃ fs : List Value, fs.length = ns.length ∧ KatTups h (ns.map pl) fs ∧ ∀ v ∈ fs, ∃ n t, v = .int n t
  | [], _ => ⟨[], rfl, .nil, fun _ h => nomatch h⟩
  | k :: r, H => by
    obtain ⟨fs, h1, h2, h3⟩ := kat_tups_of (ns := r) fun x hx => H x (.tail _ hx)
    obtain ⟨a, vs, n, e, ho, hi, hne⟩ := H k (.head _)
    cases hp : placeN T k with
    | nil => exact absurd hp hne
    | cons z zs =>
      rw [hp] at hi
      cases hi with
      | cons _ t hi =>
        refine ⟨.int (z : Int) t :: fs, by simp [h1], ?_, fun v hv => ?_⟩
        · show KatTups h (pl k :: r.map pl) _
          rw [e]
          exact .cons ho rfl rfl (by simp) h2
        · rcases List.mem_cons.mp hv with rfl | hv
          · exact ⟨_, _, rfl⟩
          · exact h3 v hv
theorem sorted_places {T : List Row} {rt : Nat} {ns : List Nat} {d : Addr} {oD : Obj} {kvs : List (Int × Value)} {f : Addr} {Q : Value → Shared → Prop} (W : WF T) (hrt : rt < T.length) (hh : A.handled = none) (F : Fr h₀ L s.heap m) (N : News h₀ L s.heap news) (hd : (d, oD) ∈ news) (hD : oD.IsDictOf (PySem.intKind prog w) kvs)
    (lo : (d == sysModules) = false) (hks : kvs.map (·.1) = nat ns) (hnd : ns.Nodup) (hin : ∀ x ∈ ns, In T rt x) (pl : Nat → Value)
    (tup : ∀ k ∈ ns, ∃ a vs n, pl k = .ref a ∧ (a, tupOf vs n) ∈ news ∧ IntsAre vs (nat (placeN T k)) ∧ placeN T k ≠ [])
    (key : ∀ k t (s' : Shared), k ∈ ns → Fr h₀ L s'.heap m → News h₀ L s'.heap news → wpAny (model prog w) A.in1.in1 (call (.ref f) [.int (k : Int) t]) (fun v s'' => v = pl k ∧ ∃ h' tk', s'' = { s' with heap := h', toks := tk' } ∧ ∀ b o, s'.heap.get? b = some o → h'.get? b = some o) (fun _ _ => False) s')
    (done : ∀ D vs' c h' tk, Fr h₀ L h' m → News h₀ L h' ((D, listOf (List.toArray vs') c) :: news) → (∀ q ∈ news, @Ne Nat q.1 D) → IntsAre vs' (nat ((doc T rt).filter fun x => ns.contains x)) → Q (.ref D) { s with heap := h', toks := tk }) :
    wpAny (model prog w) A (call (.builtin "sorted") [.ref d] [(Str.ofString "key", .ref f)]) Q NoErr s := by
  have hlen : ns.length ≤ 20 := Nat.le_trans (nodup_len _ _ hnd fun x hx => (hin x hx).1) W.small
  have hkl : kvs.length = ns.length := by rw [← nat_len, ← hks, List.length_map]
  obtain ⟨ep, hat⟩ := (Heap.dictOf_iff.mpr ⟨oD, (N _ hd).1, hD⟩ : s.heap.DictOf (PySem.intKind prog w) d kvs).dictAt
  refine call_function_entry_kw kind_sorted plain_sorted entry_sorted (ksk_s1 _ _) ?_
  unfold Builtin.«sorted»
  refine wpAny_bind (m := checkCount "sorted" 1 1 _) (wpAny_pure ?_)
  refine wpAny_bind (kdu_collect (A := A.in1) (kdl_dict (knd := PySem.intKind prog w) (kvs := kvs) (ep := ep) lo) hh hat (by rw [PySem.sizeLine_eq]; omega) fun h1 tk1 acc hk1 hacc => ?_)
  have hl : acc.toList.length = ns.length := by rw [Array.length_toList, hacc.1, hkl]
  have hints : IntsAre acc.toList (nat ns) := by
    have key : ∀ (vs : List Value) (ks : List Int), vs.length = ks.length → (∀ (j : Nat) (k : Int), ks[j]? = some k → ∃ t, vs[j]? = some (Value.int k t)) → IntsAre vs ks := by
      intro vs
      induction vs with
      | nil => intro ks h _; cases ks with
        | nil => exact .nil
        | cons => cases h
      | cons v vs ih =>
        intro ks h hj
        cases ks with
        | nil => cases h
        | cons k ks =>
          obtain ⟨t, ht⟩ := hj 0 k rfl
          cases ht
          exact .cons _ _ (ih ks (by simpa using h) fun j k hk => hj (j + 1) k hk)
    refine key _ _ (by rw [hl, nat_len]) fun j k hk => ?_
    have hjl : j < acc.toList.length := by
      have := (List.getElem?_eq_some_iff.mp hk).1
      rw [nat_len] at this; omega
    obtain ⟨kk, x, h1, h2⟩ := hacc.2 j acc.toList[j] (by rw [← Array.getElem?_toList]; exact List.getElem?_eq_getElem hjl)
    have : kk = k := by
      rw [← hks, List.getElem?_map, h1] at hk
      cases hk; rfl
    subst this
    obtain ⟨t, ht⟩ := Value.isInt_shape h2
    exact ⟨t, by rw [List.getElem?_eq_getElem hjl, ht]⟩
  generalize acc.toList = vs at *
  refine wpAny_bind (wpAny_newList ?_ (by rw [hl, PySem.sizeLine_eq]; omega))
  refine wpAny_bind (wpAny_holding (wpAny_call_entry_kw slot_list_sort ⟨_, Heap.get?_push_size _ rfl, rfl⟩ entry_list_sort ?_ (ksk_l1 _ _)))
  show wpAny (model prog w) A.in1.in1 (Builtin.«list.sort» ⟨[.ref _], [(Str.ofString "key", .ref f)]⟩) _ _ _
  rw [ksk_t1]
  have F1 := F.keeps hk1
  have N1 : News h₀ L h1 news := N.grown hk1
  have Na : ∀ p ∈ news, p.1 ≠ h1.objs.size := fun p hp => Nat.ne_of_lt (Heap.lt_size (N1 p hp).1)
  have N1' : News h₀ L (h1.push (seqObj "list" vs.toArray 0)) news := fun p hp => ⟨Heap.get?_push_of_some _ (N1 p hp).1, (N1 p hp).2⟩
  refine tree_any (s := { s with heap := h1.push (seqObj "list" vs.toArray 0), toks := tk1 }) (F1.push _) N1' (Heap.get?_push_size _ rfl) (Nat.ne_of_gt F1.ns.lt) (Heap.get?_none_of_le (Nat.le_trans F1.above (Nat.le_of_lt F1.ns.lt))) Na (by rw [hl]; omega) ?_
  intro kS e1 h2 F2 N2 hak hnk
  refine keys_any (s := { s with heap := h1.push (seqObj "list" vs.toArray 0), toks := tk1 }) (ns := ns) (dn := []) pl (fun p hp => Nat.ne_of_lt (hnk p hp)) (Nat.ne_of_lt hak) key ?_ vs ns 0 h2 tk1 hints rfl F2 N2
  intro ks e h3 tk3 F3 N3 hks3
  subst hks3
  have fin : ∀ (out : List Value) (on : List Nat), IntsAre out (nat on) → on.Pairwise (before T) → (∀ x, x ∈ on ↔ x ∈ ns) →
      KatFin h₀ L m kS h1.objs.size (ns.map pl) e e1 out (fun s3 => ∃ v, (PySem.Fin.done (.ret .none) : PySem.Fin) = .done (.ret v) ∧ wpAny (model prog w) A.in1 (ret (.ref h1.objs.size)) (fun fin s' => ∃ v, fin = .done (.ret v) ∧ Q v s') NoErr s3) { s with heap := h3, toks := tk3 } := by
    intro out on ho hpw hmem
    refine ⟨_, fun o => (kS, o) :: (h1.objs.size, seqObj "list" #[] e1) :: news, F3, N3, .head ?_, fun h4 c4 F4 N4 => ⟨_, fun o => (kS, seqObj "list" #[] c4) :: (h1.objs.size, o) :: news, F4, N4, .tail (Nat.ne_of_gt hak) (.head Na), fun h5 c5 F5 N5 => ⟨_, rfl, wpAny_pure ⟨_, rfl, ?_⟩⟩⟩⟩
    · intro p hp
      rcases List.mem_cons.mp hp with rfl | hp
      · exact Nat.ne_of_lt hak
      · exact Nat.ne_of_lt (hnk p hp)
    · refine done _ out c5 h5 tk3 F5 (fun p hp => N5 p (.tail _ hp)) (fun q hq => Na q hq) ?_
      rw [← sorted_is W hrt hpw hmem hin]
      exact ho
  by_cases h2n : vs.length < 2
  · refine end_one (by rw [List.length_map, hl]) h2n (fin vs ns hints ?_ fun _ => Iff.rfl)
    rw [hl] at h2n
    match ns, h2n with
    | [], _ => exact .nil
    | [x], _ => exact List.pairwise_singleton _ _
  · refine kat_end (b := false) (h₀ := h₀) (L := L) (m := m) (e := e) (by rw [List.length_map, hl]) (by k_extra "om") (by k_extra "om") ?_
    obtain ⟨fs, hf1, hf2, hf3⟩ := kat_tups_of (T := T) (h := h3) (pl := pl) (ns := ns) fun k hk => by
      obtain ⟨a, vs, n, e1, e2, e3, e4⟩ := tup k hk
      exact ⟨a, vs, n, e1, (N3 _ (.tail _ (.tail _ e2))).1, e3, e4⟩
    refine kat_kind (T := .type "int") hf2 (by k_extra "om") (fun v hv => ?_) rfl ?_
    · obtain ⟨n, t, rfl⟩ := hf3 v hv
      exact Looks.of_pure rfl
    · have O : Ord vs.length (fun i j => lexlt (placeN T (ns.getD i 0)) (placeN T (ns.getD j 0))) := by
        refine ⟨fun i j k h1 h2 => lexlt_tr _ _ _ h1 h2, fun i j h => lexlt_as h, fun i j hi hj hne h => lexlt_di _ _ ?_ h⟩
        have hi' : i < ns.length := by omega
        have hj' : j < ns.length := by omega
        refine place_inj W (i := rt) (hin _ ?_) (hin _ ?_) ?_
        · rw [List.getD_eq_getElem?_getD, List.getElem?_eq_getElem hi']; exact List.getElem_mem _
        · rw [List.getD_eq_getElem?_getD, List.getElem?_eq_getElem hj']; exact List.getElem_mem _
        · rw [List.getD_eq_getElem?_getD, List.getElem?_eq_getElem hi', List.getD_eq_getElem?_getD, List.getElem?_eq_getElem hj']
          intro e
          have := (List.pairwise_iff_getElem.mp hnd)
          rcases Nat.lt_or_ge i j with h | h
          · exact this i j hi' hj' h e
          · exact this j i hj' hi' (by k_extra "om") e.symm
      refine KOk.wp (fun s' => s' = { s with heap := h3, toks := tk3 }) ?_ ?_ _ _ (sort_ok O (by k_extra "om")) rfl
      · rintro i j C s' hi hj rfl hC
        show wpAny (model prog w) _ (keyLt' _ (List.getD (ns.map pl) i Value.none) (List.getD (ns.map pl) j Value.none)) C _ _
        have get : ∀ i, i < vs.length → ∃ a vs n, List.getD (ns.map pl) i Value.none = .ref a ∧ h3.get? a = some (tupOf vs n) ∧ IntsAre vs (nat (placeN T (ns.getD i 0))) := fun i hi => by
          have hi' : i < ns.length := by omega
          obtain ⟨a, vs, n, e1, e2, e3, e4⟩ := tup ns[i] (List.getElem_mem _)
          refine ⟨a, vs, n, ?_, (N3 _ (.tail _ (.tail _ e2))).1, ?_⟩
          · rw [List.getD_eq_getElem?_getD, List.getElem?_map, List.getElem?_eq_getElem hi']; exact e1
          · rw [List.getD_eq_getElem?_getD, List.getElem?_eq_getElem hi']; exact e3
        obtain ⟨a, va, na, ea, ha, hia⟩ := get i hi
        obtain ⟨b, vb, nb, eb, hb, hib⟩ := get j hj
        rw [ea, eb]
        exact lt_ok ha hb hia hib (hC _ rfl)
      · rintro p s' ⟨P, S⟩ rfl
        rw [hl] at P S
        obtain ⟨h1, h2⟩ := sorted_list P S
        refine fin _ (p.toList.map fun i => ns.getD i 0) (ints_pick hints _ fun i hi => ?_) h1 h2
        obtain ⟨a, ha, rfl⟩ := List.getElem_of_mem hi
        have hz : p.toList.length = ns.length := by rw [Array.length_toList]; exact P.1
        have h' : a < p.size := by rw [← Array.length_toList]; exact ha
        have : p.toList[a] = p.getD a 0 := by simp [Array.getD, h']
        rw [this]
        exact P.2.1 a (by k_extra "om")
end
example : True := by w_top off; trivial
example : True := by
  (k_with "eval DictComp" => (k_here; refine stop_out ?_))
  (k_with "TurnD" => (refine stop_out ?_))
  (k_with "call ref" => (k_here; (with_reducible show wpAny _ _ (call (Value.ref 189) _) _ _ _); refine stop_out ?_))
  trivial
noncomputable def Plcd (T : List Row) (ns : List Nat) (kvs : List (Int × Value)) (led : List (Addr × Obj)) : Prop :=
  kvs.map (·.1) = nat ns ∧ ∀ p ∈ kvs, ∃ k a vs n, k ∈ ns ∧ p = ((k : Int), Value.ref a) ∧ (a, tupOf vs n) ∈ led ∧ IntsAre vs (nat (placeN T k))
theorem stored_new {K : Type} [DecidableEq K] (k : K) (v : Value) : ∀ (kvs : List (K × Value)), k ∉ kvs.map (·.1) → stored kvs k v = kvs ++ [(k, v)] := by
  intro kvs h
  unfold stored
  rw [if_neg]
  intro q
  obtain ⟨p, hp, e⟩ := List.any_eq_true.mp q
  exact h (List.mem_map.mpr ⟨p, hp, of_decide_eq_true e⟩)
theorem Plcd.snoc {T : List Row} {ns : List Nat} {kvs : List (Int × Value)} {led : List (Addr × Obj)} {k : Nat} {a : Addr} {vs : List Value} {n : Nat} (P : Plcd T ns kvs led) (hk : k ∉ ns) (hi : IntsAre vs (nat (placeN T k))) :
    Plcd T (ns ++ [k]) (stored kvs (k : Int) (.ref a)) ((a, tupOf vs n) :: led) := by
  rw [stored_new]
  · refine ⟨by rw [List.map_append, P.1, nat_append]; rfl, fun p hp => ?_⟩
    rcases List.mem_append.mp hp with hp | hp
    · obtain ⟨k', a', vs', n', h1, h2, h3, h4⟩ := P.2 p hp
      exact ⟨k', a', vs', n', List.mem_append_left _ h1, h2, .tail _ h3, h4⟩
    · exact ⟨k, a, vs, n, List.mem_append_right _ (.head _), List.mem_singleton.mp hp, .head _, hi⟩
  · rw [P.1]
    intro h
    obtain ⟨j, hj, e⟩ := List.mem_map.mp h
    have : j = k := by omega
    exact hk (this ▸ hj)
noncomputable def TabIn (h : Heap) (P : Addr) (line col : Nat) (qual : Str) : Prop := ∃ ps, h.get? P = some (tabObj ps) ∧ (ps = #[] ∨ ∃ c' oc vs t, ps = #[rawInt line, rawInt col, .ref c'] ∧ h.get? c' = some oc ∧ oc.data = .fields vs ∧ vs[1]? = some (.str qual t))
example : True := by
  (k_with "eval Name" => (k_here; k_dflt (refine' nameX_G (by k_asm) (by rfl) (by with_reducible assumption) (by with_reducible assumption) ?_)))
  (k_with "subscriptTail" => (k_here; (with_reducible show wpAny _ _ (subscriptTail _ _ (Value.ref _) (Value.int _ _)) _ _ _); (refine' dict_tail (by first | with_reducible assumption | exact Fr.keep (by k_asm) _ _ (by with_reducible assumption)) (by with_reducible assumption) (by with_reducible assumption) ?_ (by with_unfolding_all rfl)); intro _))
  (k_with "k_all" => with_reducible assumption)
  (k_with "call builtin:sorted" => (k_here; refine stop_out ?_))
  trivial
theorem in_order_C {w : World} {A : Around} {s : Shared} {g : Heap} {t l : Addr} {T : List Row} {vs : List Value} {n : Nat} {ns : List Nat} {rt : Nat}
   (H : On w A g s.heap [191] 20 900) (hC : CodeHd g 193 191) (hP : TabIn s.heap 191 161 29 (Str.ofString "in_order.<locals>.<lambda>")) (W : WF T) (TT : TreeAt w g t T) (hl : g.get? l = some (listOf (List.toArray vs) n)) (hi : IntsAre vs (nat ns)) (hn : ns.Nodup) (hrt : rt < T.length) (hin : ∀ x ∈ ns, In T rt x) :
   wpAny (model prg w) A (call (.ref 194) [.ref t, .ref l]) (BackG g s fun v h' => ListOut s (nat ((doc T rt).filter fun x => ns.contains x)) v h' ∧ TabIn h' 191 161 29 (Str.ofString "in_order.<locals>.<lambda>")) NoErr s := by
  refine hidP fun P9 k9 => ?_
  obtain ⟨ps, hps, hps2⟩ := hP
  refine k9 ?_; clear k9 P9
  refine' enterC (binds := [(Str.ofString "tree", .ref t), (Str.ofString "nodes", .ref l)]) [(191, tabObj ps)] H (by k_extra "om") (by k_extra "om") ?hown ?ho ?hcd ?hb ?hk ?hnd ?_ ?c2 ?c3 ?c4
  case hown => intro p hp; rw [List.mem_singleton.mp hp]; exact ⟨hps, .head _⟩
  case ho => k_is
  case hcd => k_is
  case hb => exact BindsTo.of_eq rfl
  case hk => rfl
  case hnd => decide
  case c2 => exact rfl
  case c3 => exact rfl
  case c4 => exact rfl
  intro h₁ tk₁ cells gn9 dr9 os9 A9 L9 pr9 loose9 mean9 mg9 mb9 F' N' Y' lo' X' T' C' hroom hun K9 hK9
  have hab9 := F'.above
  refine hidP fun P9 k9 => ?_
  obtain ⟨o1, o2, rfl, d1, d2⟩ := CellsAre.two Y'
  refine k9 ?_; clear k9 P9
  have F2 : Fr g L9 h₁ (fun y => if y = Str.ofString "nodes" then some (.ref l) else none) := by with_unfolding_all exact F'
  have d3 : o1.data = .cell none := by with_unfolding_all exact d1
  have d4 : o2.data = .cell (some (.ref t)) := by with_unfolding_all exact d2
  clear F' d1 d2 Y'
  rw [List.cons_append, List.cons_append, List.nil_append] at N'
  k_steps
  refine Stop.in (DictComp_N rfl rfl (by decide) ?_)
  walk1
  have hs : ∀ x ∈ ns, x < T.length := fun x hx => (hin x hx).1
  have hnl : vs.toArray.size = ns.length := by rw [List.size_toArray, hi.length, nat_len]
  have hns20 : ns.length ≤ 20 := Nat.le_trans (nodup_len _ _ hn hs) W.small
  refine block_D (knd := PySem.intKind prg w) (fun i kvs nx => kvs.length = i ∧ ∃ led, Plcd T (ns.take i) kvs led ∧ (∀ p ∈ led, @Ne Nat p.1 (L9 + 1 + 1) ∧ @Ne Nat p.1 191) ∧ nx = (L9 + 1 + 1, o1) :: (L9 + 1, o2) :: (191, tabObj ps) :: led) rfl (by k_extra "om") ?_ (by decide) rfl rfl (isList_base F2 hl) F2 N' ⟨rfl, [], ⟨rfl, fun p hp => nomatch hp⟩, (fun p hp => nomatch hp), rfl⟩ ?_ ?_
  · intro i kvs nx hJ1
    refine hidP fun P9 k9 => ?_
    obtain ⟨h1, led, h2, _, rfl⟩ := hJ1
    refine k9 ?_; clear k9 P9
    exact ⟨by omega, .inl ⟨_, hl, rfl, _, rfl⟩⟩
  · intro i v I oI C oC D oD m₂ kvs nx h tk E' hv hJ1 hC hx hd F3 N3 n1 n2 n3 off
    refine hidP fun P9 k9 => ?_
    obtain ⟨h1, led, hpl, hle, rfl⟩ := hJ1
    refine k9 ?_; clear k9 P9
    have hlt : i < ns.length := by
      have := (Array.getElem?_eq_some_iff.mp hv).1
      omega
    refine hidP fun P9 k9 => ?_
    obtain ⟨tv, hv'⟩ := hi.get i (ns[i] : Int) (by unfold nat; simp [hlt])
    refine k9 ?_; clear k9 P9
    have hv2 : v = .int (ns[i] : Int) tv := by
      have : vs[i]? = some v := by simpa using hv
      rw [this] at hv'; cases hv'; rfl
    subst hv2
    have hxl : ns[i] < T.length := hs _ (List.getElem_mem hlt)
    have hxi : ns.take (i + 1) = ns.take i ++ [ns[i]] := by rw [List.take_add_one, List.getElem?_eq_getElem hlt]; rfl
    have hxn : ns[i] ∉ ns.take i := fun hm => by
      refine hidP fun P9 k9 => ?_
      obtain ⟨j, hj, e⟩ := List.getElem_of_mem hm
      refine k9 ?_; clear k9 P9
      rw [List.getElem_take] at e
      rw [List.length_take] at hj
      exact List.pairwise_iff_getElem.mp hn j i (by k_extra "om") hlt (by k_extra "om") e
    generalize ns[i] = x at *
    clear F2 N'
    have N4 : News g L9 h [(I, oI), (C, oC), (L9 + 1, o2)] := fun p hp => N3 p (by
      refine hidP fun P9 k9 => ?_
      rcases List.mem_cons.mp hp with rfl | hp <;> (refine k9 ?_; clear k9 P9)
      · exact .head _
      · refine hidP fun P9 k9 => ?_
        rcases List.mem_cons.mp hp with rfl | hp <;> (refine k9 ?_; clear k9 P9)
        · exact .tail _ (.head _)
        · rw [List.mem_singleton.mp hp]
          exact .tail _ (.tail _ (.tail _ (.tail _ (.head _)))))
    have N5 := Stop.in N3
    clear N3
    k_steps
    refine Stop.in (place_of_U C' F3 (stop_out N5) W TT hxl (by k_extra "om") (by k_extra "om") ?_)
    intro a' vs' n' h' tk' F6 N6 l6 hi6
    refine ⟨(x : Int), h', tk', (L9 + 1 + 1, o1) :: (L9 + 1, o2) :: (191, tabObj ps) :: (a', tupOf vs' n') :: led, (by show Value.isInt (x : Int) (.int (x : Int) tv) = true; simp [Value.isInt]), rfl, F6, fun p hp => N6 p ?_, ?_, ?_, (a', tupOf vs' n') :: led, ?_, ?_, rfl⟩
    · simp only [List.mem_cons] at hp ⊢
      rcases hp with h | h | h | h | h | h | h | h <;> simp [h]
    · intro q hq
      simp only [List.mem_cons] at hq off
      refine hidP fun P9 k9 => ?_
      rcases hq with e | e | e | e | e <;> (refine k9 ?_; clear k9 P9)
      · exact off q (.inl e)
      · exact off q (.inr (.inl e))
      · exact off q (.inr (.inr (.inl e)))
      · subst e
        exact ⟨(l6 _ (.head _)).symm, (l6 _ (.tail _ (.head _))).symm, (l6 _ (.tail _ (.tail _ (.head _)))).symm⟩
      · exact off q (.inr (.inr (.inr e)))
    · have hkn : (x : Int) ∉ kvs.map (·.1) := by
        rw [hpl.1]
        intro hm
        refine hidP fun P9 k9 => ?_
        obtain ⟨j, hj, e⟩ := List.mem_map.mp hm
        refine k9 ?_; clear k9 P9
        have e2 : (j : Int) = (x : Int) := e
        have e3 : j = x := by omega
        subst e3
        exact hxn hj
      rw [stored_new _ _ _ hkn, List.length_append, h1]; rfl
    · rw [hxi]
      exact hpl.snoc hxn hi6
    · intro p hp
      refine hidP fun P9 k9 => ?_
      rcases List.mem_cons.mp hp with rfl | hp <;> (refine k9 ?_; clear k9 P9)
      · exact ⟨(l6 _ (.tail _ (.tail _ (.tail _ (.head _))))).symm, (l6 _ (.tail _ (.tail _ (.tail _ (.tail _ (.tail _ (.head _))))))).symm⟩
      · exact hle p hp
  · intro D oD kvs nx h tk hLD hJ1 hd F3 N3 off
    refine hidP fun P9 k9 => ?_
    obtain ⟨h1, led, hpl, hle, rfl⟩ := hJ1
    refine k9 ?_; clear k9 P9
    rw [hnl, List.take_length] at hpl
    clear F2 N'
    simp only [List.forall_mem_cons] at off
    refine hidP fun P9 k9 => ?_
    obtain ⟨off1, off2, off3, off4⟩ := off
    have ne1 : ∀ p ∈ led, @Ne Nat p.1 (L9 + 1 + 1) := fun p hp => (hle p hp).1
    have ne2 : ∀ p ∈ led, @Ne Nat p.1 191 := fun p hp => (hle p hp).2
    have lt1 : @LT.lt Nat _ 191 L9 := lo' _ (.head _)
    have hDm : (D == sysModules) = false := by
      have h2 := modules_low T'.nolimit
      have h3 := H.size
      refine beq_eq_false_iff_ne.mpr fun e => ?_
      have e2 : @Eq Nat D sysModules := e
      have h2' : @LT.lt Nat _ sysModules g.objs.size := h2
      omega
    have hfull : ∀ a, g.get? a = none → @Ne Nat a 191 → s.heap.get? a = none := fun a e1 e2 => by
      cases q : s.heap.get? a with
      | none => rfl
      | some o =>
        refine hidP fun P9 k9 => ?_
        rcases H.full _ _ q with h | h <;> (refine k9 ?_; clear k9 P9)
        · rw [e1] at h; cases h
        · exact absurd (List.mem_singleton.mp h) e2
    have hpv : ∀ k ∈ ns, ∃ a vs n, valueAt kvs (k : Int) = some (.ref a) ∧ (a, tupOf vs n) ∈ led ∧ IntsAre vs (nat (placeN T k)) := fun k hk => by
      have hm : (k : Int) ∈ kvs.map (·.1) := by rw [hpl.1]; exact List.mem_map.mpr ⟨k, hk, rfl⟩
      refine hidP fun P9 k9 => ?_
      obtain ⟨⟨k', v'⟩, hp, e⟩ := List.mem_map.mp hm
      obtain ⟨k2, a, vs, n, h1, h2, h3, h4⟩ := hpl.2 _ hp
      refine k9 ?_; clear k9 P9
      cases h2
      dsimp only at e
      have : k2 = k := by omega
      subst this
      refine ⟨a, vs, n, valueAt_of ?_ hp, h3, h4⟩
      rw [hpl.1]
      exact (List.pairwise_map.mpr (hn.imp fun {a b} h e => h (by k_extra "om")))
    have hpn : ∀ k, placeN T k ≠ [] := fun k e => by
      have := congrArg List.length e
      have h2 := downL_eq W k
      unfold placeN at this
      rw [h2] at this
      simp at this
    rcases hps2 with rfl | ⟨c', oc, vsc, tc, rfl, hc1, hc2, hc3⟩ <;> (refine k9 ?_; clear k9 P9)
    · k_steps
      rename Fr _ _ _ _ => F5
      rename News _ _ _ _ => N5
      rename_i h5 o1' _ _ d5 f' c' oc' vsc tc ctv h6 tk6 d6 d7 l1 l2
      refine Stop.in (sorted_places (T := T) (rt := rt) (ns := ns) (oD := oD) (kvs := kvs) W hrt rfl F5 N5 (by k_mem) hd hDm hpl.1 hn hin (fun k => (valueAt kvs (k : Int)).getD .none) ?_ ?_ ?_)
      · intro k hk
        refine hidP fun P9 k9 => ?_
        obtain ⟨a, vs, n, e1, e2, e3⟩ := hpv k hk
        refine k9 ?_; clear k9 P9
        exact ⟨a, vs, n, by rw [e1]; rfl, .tail _ (.tail _ (.tail _ (.tail _ (.tail _ (.tail _ e2))))), e3, hpn k⟩
      · intro k tk' s' hk F7 N7
        refine hidP fun P9 k9 => ?_
        obtain ⟨a, vs, n, e1, e2, e3⟩ := hpv k hk
        refine k9 ?_; clear k9 P9
        have hcell := (N7 _ (.tail _ (.tail _ (.tail _ (.head _))))).1
        have hdict := (N7 _ (.tail _ (.tail _ (.head _)))).1
        dsimp only at hcell hdict
        refine wpAny_mono (enterLam (dp := 10) (un := 100) (P := fun v _ => v = .ref a) (((C' _ _ F7).mono (dp' := 10) (un' := 100 + 1 + 1) (by k_extra "om") (by k_extra "om")).in1.in1) (by k_extra "om") (by k_extra "om") (N7 _ (.head _)).1 (codeRec_news N7 (by k_mem) d6 d7) rfl (locs rfl) ?_ (by decide) rfl rfl rfl) (fun v s'' hb => ?_) fun _ _ y => y
        · intro h₁ gn8 dr8 os8 A8 L8 tk8 pr8 loose8 mean8 mg8 mb8 F8 N8 X8 T8 C8 hroom8 hun8
          (try dsimp only)
          clear F5 N5 F7 N7
          k_steps
          exact endB (by k_asm) rfl
        · refine hidP fun P9 k9 => ?_
          obtain ⟨h', tk', e, hk', hv⟩ := hb
          refine k9 ?_; clear k9 P9
          exact ⟨by rw [hv, e1]; rfl, h', tk', e, hk'⟩
      · intro D' vs' c9 h9 tk9 F9 N9 ne9 hi9
        have q1 := ne9 (191, _) (by k_mem)
        have q2 := (N9 (191, _) (by k_mem)).1
        refine stepR (by with_reducible assumption) ?_
        refine endK hK9 F9 ⟨⟨D', vs', c9, rfl, hfull _ (News.fresh N9 (.head _)) (Ne.symm q1), (N9 _ (.head _)).1, hi9⟩, _, q2, .inr ⟨c', oc', vsc, tc, rfl, (N9 (c', oc') (by k_mem)).1, d6, ?_⟩⟩
        with_unfolding_all exact d7
    · have hcg : g.get? c' = some oc := by
        refine hidP fun P9 k9 => ?_
        rcases H.full _ _ hc1 with h | h <;> (refine k9 ?_; clear k9 P9)
        · exact h
        · rw [List.mem_singleton.mp h, hps] at hc1
          cases hc1
          cases hc2
          cases hc3
      k_steps
      rename Fr _ _ _ _ => F5
      rename News _ _ _ _ => N5
      rename_i h5 o1' _ _ d5 f' ctv h6 tk6 l1
      refine Stop.in (sorted_places (T := T) (rt := rt) (ns := ns) (oD := oD) (kvs := kvs) W hrt rfl F5 N5 (by k_mem) hd hDm hpl.1 hn hin (fun k => (valueAt kvs (k : Int)).getD .none) ?_ ?_ ?_)
      · intro k hk
        refine hidP fun P9 k9 => ?_
        obtain ⟨a, vs, n, e1, e2, e3⟩ := hpv k hk
        refine k9 ?_; clear k9 P9
        exact ⟨a, vs, n, by rw [e1]; rfl, .tail _ (.tail _ (.tail _ (.tail _ (.tail _ e2)))), e3, hpn k⟩
      · intro k tk' s' hk F7 N7
        refine hidP fun P9 k9 => ?_
        obtain ⟨a, vs, n, e1, e2, e3⟩ := hpv k hk
        refine k9 ?_; clear k9 P9
        have hcell := (N7 _ (.tail _ (.tail _ (.head _)))).1
        have hdict := (N7 _ (.tail _ (.head _))).1
        dsimp only at hcell hdict
        refine wpAny_mono (enterLam (dp := 10) (un := 100) (P := fun v _ => v = .ref a) (((C' _ _ F7).mono (dp' := 10) (un' := 100 + 1 + 1) (by k_extra "om") (by k_extra "om")).in1.in1) (by k_extra "om") (by k_extra "om") (N7 _ (.head _)).1 ⟨c', oc, vsc, tc, rfl, F7.keep _ _ hcg, hc2, hc3⟩ rfl (locs rfl) ?_ (by decide) rfl rfl rfl) (fun v s'' hb => ?_) fun _ _ y => y
        · intro h₁ gn8 dr8 os8 A8 L8 tk8 pr8 loose8 mean8 mg8 mb8 F8 N8 X8 T8 C8 hroom8 hun8
          (try dsimp only)
          clear F5 N5 F7 N7
          k_steps
          exact endB (by k_asm) rfl
        · refine hidP fun P9 k9 => ?_
          obtain ⟨h', tk', e, hk', hv⟩ := hb
          refine k9 ?_; clear k9 P9
          exact ⟨by rw [hv, e1]; rfl, h', tk', e, hk'⟩
      · intro D' vs' c9 h9 tk9 F9 N9 ne9 hi9
        have q1 := ne9 (191, _) (by k_mem)
        have q2 := (N9 (191, _) (by k_mem)).1
        refine stepR (by with_reducible assumption) ?_
        refine endK hK9 F9 ⟨⟨D', vs', c9, rfl, hfull _ (News.fresh N9 (.head _)) (Ne.symm q1), (N9 _ (.head _)).1, hi9⟩, _, q2, .inr ⟨c', oc, vsc, tc, rfl, F9.keep _ _ hcg, hc2, hc3⟩⟩
example : True := by w_top off; trivial
theorem axis_len {T : List Row} (W : WF T) {r i : Nat} (hr : pa T r = none) (hi : In T r i) (ax : Ax) : (axisL T i ax).length ≤ 20 :=
  Nat.le_trans (nodup_len _ _ (axis_nd W i ax) fun x hx => (axis_in W hr hi ax x hx).1) W.small
theorem axis_U {w : World} {A : Around} {s : Shared} {g : Heap} {L : Addr} {m : Str → Option Value} {news : List (Addr × Obj)} {dp un : Nat} {Q E : Value → Shared → Prop} {t : Addr} {T : List Row} {i : Nat} {tk tn : Tok} {ax : Ax}
   (C : Callee w A g L dp un) (F : Fr g L s.heap m) (N : News g L s.heap news) (W : WF T) (TT : TreeAt w g t T) (hi : i < T.length) (hd : 24 ≤ dp) (hu : 800 ≤ un)
   (k : ∀ a vs n h' tk', Fr g L h' m → News g L h' ((a, listOf (List.toArray vs) n) :: news) → (∀ p ∈ news, @Ne Nat p.1 a) → IntsAre vs (nat (axisL T i ax)) → Q (.ref a) { s with heap := h', toks := tk' }) :
   wpAny (model prg w) A (call (.ref 140) [.ref t, .int (i : Int) tk, .str ax.str tn]) Q E s :=
  useL (axis_C ax (C.at F hd hu) W (TT.keep F.keep) hi) F N k
theorem passes_U {w : World} {A : Around} {s : Shared} {g : Heap} {L : Addr} {m : Str → Option Value} {news : List (Addr × Obj)} {dp un : Nat} {Q E : Value → Shared → Prop} {t a d : Addr} {T : List Row} {i : Nat} {tk tx : Tok} {x : Str} {ts : Ts}
   (C : Callee w A g L dp un) (F : Fr g L s.heap m) (N : News g L s.heap news) (W : WF T) (TT : TreeAt w g t T) (hi : i < T.length) (hx : (Str.ofString "namespace" == x) = false) (hT : TestAt g a ts) (hd : 12 ≤ dp) (hu : 300 ≤ un)
   (k : ∀ h' tk', Fr g L h' m → News g L h' news → Q (.bool (passB T i x ts)) { s with heap := h', toks := tk' }) :
   wpAny (model prg w) A (call (.ref 168) [.ref t, .int (i : Int) tk, .str x tx, .ref a, .ref d]) Q E s :=
  use (passes_C ts (C.at F hd hu) W (TT.keep F.keep) hi hx (hT.keep F.keep)) F N fun v h' tk' F' N' _ e => by subst e; exact k h' tk' F' N'
inductive StepAt (w : World) (h : Heap) (st : Addr) (x : Str) (a p : Addr) : Prop
  | mk (dx : _) (t0 : _) (t1 : _) (t2 : _) (u : _) (n : _) (e1 : h.get? st = some (instObj 460 dx)) (e2 : h.get? dx = some (dictOf [ ⟨PyData.keyHash w.params (Str.ofString "axis"), .str (Str.ofString "axis") t0, .str x u⟩, ⟨PyData.keyHash w.params (Str.ofString "test"), .str (Str.ofString "test") t1, .ref a⟩, ⟨PyData.keyHash w.params (Str.ofString "predicates"), .str (Str.ofString "predicates") t2, .ref p⟩] n)) : StepAt w h st x a p
theorem StepAt.keep {w : World} {h h' : Heap} {st : Addr} {x : Str} {a p : Addr} (H : StepAt w h st x a p) (kp : ∀ b o, h.get? b = some o → h'.get? b = some o) : StepAt w h' st x a p := let ⟨dx, t0, t1, t2, u, n, e1, e2⟩ := H; ⟨dx, t0, t1, t2, u, n, kp _ _ e1, kp _ _ e2⟩
example : True := by
  (k_with "exec Assign cons ListComp" => (k_here; (with_reducible show wpAny _ _ (exec (Stmt.Assign [PySem.Expr.Name (Str.ofString "along") _] _ _) _) _ _ _); refine stop_out ?_))
  (k_with "CompSrcT" => (k_here; refine stop_out ?_))
  (k_with "TurnT" => (k_here; refine stop_out ?_))
  (k_with "call ref" => (k_here; (with_reducible show wpAny _ _ (call (Value.ref 140) _) _ _ _); k_dflt (refine' axis_U (by with_reducible assumption) (by k_asm) (by k_asm) (by with_reducible assumption) (by with_reducible assumption) (by k_extra "lt") (by k_extra "om") (by k_extra "om") ?_); intro _ _ _ _ _ _ _ _ _; (try k_sweep); (try k_extra "nne")))
  (k_with "call ref" => (k_here; (with_reducible show wpAny _ _ (call (Value.ref 168) _) _ _ _); k_dflt (refine' passes_U (by with_reducible assumption) (by k_asm) (by k_asm) (by with_reducible assumption) (by with_reducible assumption) (by k_extra "lt") (by with_reducible assumption) (by with_reducible assumption) (by k_extra "om") (by k_extra "om") ?_); intro _ _ _ _; (try k_sweep)))
  (k_with "call ref" => (k_here; (with_reducible show wpAny _ _ (call (Value.ref 208) _) _ _ _); k_dflt (refine' kept_U (by with_reducible assumption) (by k_asm) (by k_asm) (by with_reducible assumption) (by k_mem) (by with_reducible assumption) (by with_reducible assumption) (by with_reducible assumption) (by with_reducible assumption) (by with_reducible assumption) (by with_reducible assumption) (by with_reducible assumption) (by k_extra "om") (by k_extra "om") ?_); intro _ _ _ _ _ _ _ _ _; (try k_sweep)))
  trivial
noncomputable def stepL (T : List Row) (i : Nat) (ax : Ax) (ts : Ts) (ws : List (Wd × Nat)) : List Nat := keptL T ((axisL T i ax).filter fun j => passB T j ax.str ts) ws
theorem step_from_C {w : World} {A : Around} {s : Shared} {t st nm f a p : Addr} {T : List Row} {r i : Nat} {ti : Tok} {ax : Ax} {ts : Ts} {ws : List (Wd × Nat)}
   (H : At w A s.heap 30 900) (W : WF T) (TT : TreeAt w s.heap t T) (hr : pa T r = none) (hi : In T r i) (hS : StepAt w s.heap st ax.str a p) (hT : TestAt s.heap a ts) (hw : WordsAt s.heap p ws) (hwl : ws.length ≤ 100) (hw0 : ws ≠ []) (hf : FnV w s.heap f t) :
   wpAny (model prg w) A (call (.ref 213) [.ref t, .int (i : Int) ti, .ref st, .ref nm, .ref f]) (Back s (ListOut s (nat (stepL T i ax ts ws)))) NoErr s := by
  refine hidP fun P9 k9 => ?_
  obtain ⟨dx, t0, t1, t2, u, n, hs1, hs2⟩ := hS
  refine k9 ?_; clear k9 P9
  refine' enterC (binds := [(Str.ofString "tree", .ref t), (Str.ofString "node", .int (i : Int) ti), (Str.ofString "step", .ref st), (Str.ofString "names", .ref nm), (Str.ofString "value_of", .ref f)]) [] H.on (by k_extra "om") (by k_extra "om") ?hown ?ho ?hcd ?hb ?hk ?hnd ?_ ?c2 ?c3 ?c4
  case hown => exact fun p hp => nomatch hp
  case ho => k_is
  case hcd => k_is
  case hb => exact BindsTo.of_eq rfl
  case hk => rfl
  case hnd => decide
  case c2 => exact rfl
  case c3 => exact rfl
  case c4 => exact rfl
  intro h₁ tk₁ cells gn9 dr9 os9 A9 L9 pr9 loose9 mean9 mg9 mb9 F' N' Y' lo' X' T' C' hroom hun K9 hK9
  refine hidP fun P9 k9 => ?_
  obtain ⟨o1, o2, o3, rfl, d1, d2, d3⟩ := CellsAre.three Y'
  refine k9 ?_; clear k9 P9
  have F2 : Fr s.heap L9 h₁ (fun y => if y = Str.ofString "value_of" then some (.ref f) else if y = Str.ofString "node" then some (.int (i : Int) ti) else none) := by with_unfolding_all exact F'
  have d4 : o1.data = .cell (some (.ref nm)) := by with_unfolding_all exact d1
  have d5 : o2.data = .cell (some (.ref st)) := by with_unfolding_all exact d2
  have d6 : o3.data = .cell (some (.ref t)) := by with_unfolding_all exact d3
  clear F' d1 d2 d3 Y'
  rw [List.cons_append, List.cons_append, List.cons_append, List.nil_append] at N'
  have hil := hi.1
  k_steps
  refine Stop.in (LCt.Assign_ListComp_T (F₀ := F2) (by rfl) (by with_unfolding_all rfl) (by with_unfolding_all rfl) (by decide) (by rfl) (by decide) (by rfl) (by rfl) (by rfl) ?_)
  k_steps
  rename Fr _ _ _ _ => F3
  rename News _ _ _ _ => N3
  rename IntsAre _ _ => hia
  rename_i ax' vsa na _ _ l1
  have hal := axis_len W hr hi ax
  refine Stop.in (comp_filter (fun j => passB T j ax.str ts) rfl F3 N3 (.inr ⟨_, .head _, rfl, _, rfl⟩) hia (by k_extra "om") rfl rfl rfl ?_ ?_)
  · intro j t9 I oI C oC D m₂ ys h tk hj hC hx F4 N4 n1 n2 n3 off
    have hjl : j < T.length := (axis_in W hr hi ax j hj).1
    have hxn : (Str.ofString "namespace" == ax.str) = false := by cases ax <;> rfl
    clear F3 N3
    k_steps
    exact Stop.in ⟨_, _, _, rfl, by k_asm, by k_asm, off, rfl, rfl⟩
  · intro g9 ys hys D h tk F4 N4 off4
    clear F3 N3
    have hfl : ((axisL T i ax).filter fun j => passB T j ax.str ts).length ≤ 900 := Nat.le_trans (List.length_filter_le _ _) (by k_extra "om")
    have hft : ∀ x ∈ (axisL T i ax).filter fun j => passB T j ax.str ts, x < T.length := fun x hx => (axis_in W hr hi ax x ((List.mem_filter.mp hx).1)).1
    k_steps
    refine endK hK9 (by k_asm) ⟨_, _, _, rfl, News.fresh (by k_asm) (by k_mem), News.get (by k_asm) (by k_mem), by assumption⟩
theorem step_from_U {w : World} {A : Around} {s : Shared} {g : Heap} {L : Addr} {m : Str → Option Value} {news : List (Addr × Obj)} {dp un : Nat} {Q E : Value → Shared → Prop} {t st nm f a p : Addr} {T : List Row} {r i : Nat} {ti : Tok} {ax : Ax} {ts : Ts} {ws : List (Wd × Nat)}
   (C : Callee w A g L dp un) (F : Fr g L s.heap m) (N : News g L s.heap news) (W : WF T) (TT : TreeAt w g t T) (hr : pa T r = none) (hi : In T r i) (hS : StepAt w g st ax.str a p) (hT : TestAt g a ts) (hw : WordsAt g p ws) (hwl : ws.length ≤ 100) (hw0 : ws ≠ []) (hf : FnV w g f t) (hd : 30 ≤ dp) (hu : 900 ≤ un)
   (k : ∀ a vs n h' tk', Fr g L h' m → News g L h' ((a, listOf (List.toArray vs) n) :: news) → (∀ p ∈ news, @Ne Nat p.1 a) → IntsAre vs (nat (stepL T i ax ts ws)) → Q (.ref a) { s with heap := h', toks := tk' }) :
   wpAny (model prg w) A (call (.ref 213) [.ref t, .int (i : Int) ti, .ref st, .ref nm, .ref f]) Q E s :=
  useL (step_from_C (C.at F hd hu) W (TT.keep F.keep) hr hi (hS.keep F.keep) (hT.keep F.keep) (hw.keep F.keep) hwl hw0 (hf.keep F.keep)) F N k
theorem on_up {w : World} {A : Around} {g g' h : Heap} {L : Addr} {m : Str → Option Value} {as : List Addr} {dp un : Nat} (O : On w A g' h as dp un) (F : Fr g L h m) (gone : ∀ a ∈ as, g.get? a = none) : ∀ b o, g.get? b = some o → g'.get? b = some o := fun b o e => by
  rcases O.full b o (F.keep b o e) with h | h
  · exact h
  · rw [gone b h] at e; cases e
theorem stepL_in {T : List Row} (W : WF T) {r i : Nat} (hr : pa T r = none) (hi : In T r i) (ax : Ax) (ts : Ts) (ws : List (Wd × Nat)) : (stepL T i ax ts ws).Nodup ∧ ∀ x ∈ stepL T i ax ts ws, In T r x := by
  have h1 := keptL_sub (T := T) (ws := ws) (nodes := (axisL T i ax).filter fun j => passB T j ax.str ts)
  exact ⟨((axis_nd W i ax).filter _).sublist h1, fun x hx => axis_in W hr hi ax x (List.mem_filter.mp (h1.subset hx)).1⟩
example : True := by
  (k_with "call ref" => (k_here; (with_reducible show wpAny _ _ (call (Value.ref 213) _) _ _ _); k_dflt (refine' step_from_U (by with_reducible assumption) (by k_asm) (by k_asm) (by with_reducible assumption) (by with_reducible assumption) (by with_reducible assumption) (by with_reducible assumption) (by with_reducible assumption) (by with_reducible assumption) (by with_reducible assumption) (by with_reducible assumption) (by with_reducible assumption) (by with_reducible assumption) (by k_extra "om") (by k_extra "om") ?_); intro _ _ _ _ _ _ _ _ _; (try k_sweep)))
  (k_with "call ref" => (k_here; (with_reducible show wpAny _ _ (call (Value.ref 194) _) _ _ _); refine stop_out ?_))
  trivial
noncomputable abbrev lamQ : Str := Str.ofString "in_order.<locals>.<lambda>"
theorem step_nodes_C {w : World} {A : Around} {s : Shared} {g : Heap} {t st nm f a p : Addr} {T : List Row} {r i : Nat} {ti : Tok} {ax : Ax} {ts : Ts} {ws : List (Wd × Nat)}
   (H : On w A g s.heap [191] 40 1200) (hC : CodeHd g 193 191) (hP : TabIn s.heap 191 161 29 lamQ) (W : WF T) (TT : TreeAt w g t T) (hr : pa T r = none) (hrt : r < T.length) (hi : In T r i) (hS : StepAt w g st ax.str a p) (hT : TestAt g a ts) (hw : WordsAt g p ws) (hwl : ws.length ≤ 100) (hw0 : ws ≠ []) (hf : FnV w g f t) :
   wpAny (model prg w) A (call (.ref 220) [.ref t, .int (i : Int) ti, .ref st, .ref nm, .ref f]) (BackG g s fun v h' => ListOut s (nat ((doc T r).filter fun x => (stepL T i ax ts ws).contains x)) v h' ∧ TabIn h' 191 161 29 lamQ) NoErr s := by
  refine hidP fun P9 k9 => ?_
  obtain ⟨ps, hps, hps2⟩ := hP
  refine k9 ?_; clear k9 P9
  refine' enterG (binds := [(Str.ofString "tree", .ref t), (Str.ofString "node", .int (i : Int) ti), (Str.ofString "step", .ref st), (Str.ofString "names", .ref nm), (Str.ofString "value_of", .ref f)]) [(191, tabObj ps)] H (by k_extra "om") (by k_extra "om") ?hown ?ho ?hcd ?hb ?hl ?_ ?c1 ?c2 ?c3 ?c4
  case hown => intro p hp; rw [List.mem_singleton.mp hp]; exact ⟨hps, .head _⟩
  case ho => k_is
  case hcd => k_is
  case hb => exact BindsTo.of_eq rfl
  case hl => exact locs rfl
  case c1 => decide
  case c2 => exact rfl
  case c3 => exact rfl
  case c4 => exact rfl
  intro h₁ gn9 dr9 os9 A9 L9 tk9 pr9 loose9 mean9 mg9 mb9 F' N' lo' X' T' C' hroom hun K9 hK9
  (try dsimp only)
  k_steps
  rename Fr _ _ _ _ => F3
  rename News _ _ _ _ => N3
  rename IntsAre _ _ => hia
  rename_i ax' vsa na h3 _ l1
  have hgone : ∀ a ∈ [(191 : Addr)], g.get? a = none := H.gone
  have hne : @Ne Nat ax' 191 := fun e => l1 _ (.head _) e.symm
  refine hidP fun P9 k9 => ?_
  obtain ⟨hnd, hin⟩ := stepL_in W hr hi ax ts ws
  refine k9 ?_; clear k9 P9
  refine Stop.in (useG (as := [191]) (dp' := 20) (un' := 900) (fun g' O => in_order_C O (hC.keeps (on_up O F3 hgone)) ?_ W (TT.keep (on_up O F3 hgone)) (l := ax') (vs := vsa) (n := na) ?_ hia hnd hrt hin) C' F3 N3 ?_ (by k_extra "om") (by k_extra "om") ?_)
  · refine ⟨ps, (N3 _ (.tail _ (.head _))).1, hps2.imp id ?_⟩
    intro hJ1
    refine hidP fun P9 k9 => ?_
    obtain ⟨c', oc, vs, t9, e1, e2, e3, e4⟩ := hJ1
    refine k9 ?_; clear k9 P9
    refine ⟨c', oc, vs, t9, e1, ?_, e3, e4⟩
    refine hidP fun P9 k9 => ?_
    rcases H.full _ _ e2 with h | h <;> (refine k9 ?_; clear k9 P9)
    · exact F3.keep _ _ h
    · exfalso
      rw [List.mem_singleton.mp h, hps] at e2
      cases e2
      cases e3
      rw [e1] at e4
      cases e4
  · refine hidP fun P9 k9 => ?_
    rcases O.full _ _ (N3 _ (.head _)).1 with h | h <;> (refine k9 ?_; clear k9 P9)
    · exact h
    · exact absurd (List.mem_singleton.mp h) hne
  · intro a ha
    rw [List.mem_singleton.mp ha]
    exact ⟨_, .tail _ (.head _)⟩
  · intro v h' tk' F4 _ up hP
    refine hidP fun P9 k9 => ?_
    obtain ⟨⟨b, vs, n, rfl, e1, e2, e3⟩, hT⟩ := hP
    refine k9 ?_; clear k9 P9
    refine stepR (by with_reducible assumption) ?_
    refine endK hK9 F4 ⟨⟨b, vs, n, rfl, ?_, e2, e3⟩, hT⟩
    cases q : s.heap.get? b with
    | none => rfl
    | some o =>
      dsimp only at e1
      refine hidP fun P9 k9 => ?_
      rcases H.full _ _ q with h | h <;> (refine k9 ?_; clear k9 P9)
      · rw [F3.keep _ _ h] at e1; cases e1
      · have := (N3 _ (.tail _ (.head _))).1
        rw [List.mem_singleton.mp h, this] at e1; cases e1
example : True := by w_top off; trivial
theorem law_holds_C {w : World} {A : Around} {s : Shared} {t a : Addr} {T : List Row} {wd : Wd} {k i pos size : Nat} {ti tp tz : Tok}
   (H : At w A s.heap 10 200) (TT : TreeAt w s.heap t T) (hi : i < T.length) (hw : WordAt s.heap a wd k) :
   wpAny (model prg w) A (call (.ref 513) [.ref t, .ref a, .int (i : Int) ti, .int (pos : Int) tp, .int (size : Int) tz]) (Back s fun v h' => v = .bool ((wordV T k i pos size wd).holds pos)) NoErr s := by
  refine hidP fun P9 k9 => ?_
  obtain ⟨t0, u0, n0, ha⟩ := hw
  refine k9 ?_; clear k9 P9
  refine' enter (binds := [(Str.ofString "tree", .ref t), (Str.ofString "word", .ref a), (Str.ofString "node", .int (i : Int) ti), (Str.ofString "position", .int (pos : Int) tp), (Str.ofString "size", .int (size : Int) tz)]) H (by k_extra "om") (by k_extra "om") (by k_is) (by k_is) (BindsTo.of_eq rfl) (locs rfl) ?_ (by decide) rfl rfl rfl
  intro h₁ gn9 dr9 os9 A9 L9 tk9 pr9 loose9 mean9 mg9 mb9 F' N' X' T' C' hroom hun K9 hK9
  (try dsimp only)
  cases wd <;> dsimp only [Wd.str] at ha
  · k_steps
    · have e1 : ((pos : Int) == (k : Int)) = true := beq_iff_eq.mpr (by k_extra "om")
      have e2 : (((k : Int)) == (pos : Int)) = true := by rw [← e1]; exact BEq.comm
      refine endK hK9 (by k_asm) (congrArg Value.bool ?_)
      show _ = (((k : Int)) == (pos : Int) && ((1 : Int) == 1))
      rw [e2]; rfl
    · have e1 : ((pos : Int) == (k : Int)) = false := beq_eq_false_iff_ne.mpr (by k_extra "om")
      have e2 : (((k : Int)) == (pos : Int)) = false := by rw [← e1]; exact BEq.comm
      refine endK hK9 (by k_asm) (congrArg Value.bool ?_)
      show _ = (((k : Int)) == (pos : Int) && ((1 : Int) == 1))
      rw [e1, e2]; rfl
  · k_steps
    · refine endK hK9 (by k_asm) (congrArg Value.bool ?_)
      show _ = (_ && ((2 : Int) == 1))
      rw [show ((2 : Int) == 1) = false from rfl, Bool.and_false]; rfl
    · have e1 : ((pos : Int) == (k : Int)) = false := beq_eq_false_iff_ne.mpr (by k_extra "om")
      refine endK hK9 (by k_asm) (congrArg Value.bool ?_)
      show _ = (_ && ((2 : Int) == 1))
      rw [show ((2 : Int) == 1) = false from rfl, Bool.and_false, e1]
  · k_steps
    · have e1 : ((pos : Int) == (size : Int)) = true := beq_iff_eq.mpr (by k_extra "om")
      have e2 : (((size : Int)) == (pos : Int)) = true := by rw [← e1]; exact BEq.comm
      refine endK hK9 (by k_asm) (congrArg Value.bool ?_)
      show _ = (((size : Int)) == (pos : Int) && ((1 : Int) == 1))
      rw [e2]; rfl
    · have e1 : ((pos : Int) == (size : Int)) = false := beq_eq_false_iff_ne.mpr (by k_extra "om")
      have e2 : (((size : Int)) == (pos : Int)) = false := by rw [← e1]; exact BEq.comm
      refine endK hK9 (by k_asm) (congrArg Value.bool ?_)
      show _ = (((size : Int)) == (pos : Int) && ((1 : Int) == 1))
      rw [e1, e2]; rfl
  · k_steps
    exact endK hK9 (by k_asm) rfl
  · k_steps
    exact endK hK9 (by k_asm) rfl
  · k_steps
    refine endK hK9 (by k_asm) (congrArg Value.bool ?_)
    show decide (0 < (k : Int)) = decide (0 < ((List.replicate k 120).toArray).size)
    congr 1
    simp
  · k_steps
    exact endK hK9 (by k_asm) rfl
theorem law_holds_U {w : World} {A : Around} {s : Shared} {g : Heap} {L : Addr} {m : Str → Option Value} {news : List (Addr × Obj)} {dp un : Nat} {Q E : Value → Shared → Prop} {t a : Addr} {T : List Row} {wd : Wd} {k i pos size : Nat} {ti tp tz : Tok} {P : Int}
   (C : Callee w A g L dp un) (F : Fr g L s.heap m) (N : News g L s.heap news) (TT : TreeAt w g t T) (hi : i < T.length) (hw : WordAt g a wd k) (hP : P = (pos : Int)) (hd : 10 ≤ dp) (hu : 200 ≤ un)
   (kk : ∀ h' tk', Fr g L h' m → News g L h' news → Q (.bool ((wordV T k i pos size wd).holds pos)) { s with heap := h', toks := tk' }) :
   wpAny (model prg w) A (call (.ref 513) [.ref t, .ref a, .int (i : Int) ti, .int P tp, .int (size : Int) tz]) Q E s := by
  subst hP
  exact use (law_holds_C (C.at F hd hu) (TT.keep F.keep) hi (hw.keep F.keep)) F N fun v h' tk' F' N' _ e => by subst e; exact kk h' tk' F' N'
example : True := by w_top off; trivial
open LCg LCt
section
variable {prog : Program} {w : World} {A : Around} {h₀ : Heap} {L : Addr} {m : Str → Option Value} {env : Env} {ct elt : PySem.Expr} {x : Str} {scope : Scope} {cl : List (Str × Addr)} {s : Shared} {Fin : Shared → List Value → List (Addr × Obj) → Prop}
theorem sel_succ (p : Nat → Bool) (el : Nat → Nat) (i : Nat) : ((List.range (i + 1)).filter p).map el = ((List.range i).filter p).map el ++ if p i = true then [el i] else [] := by
  rw [List.range_succ, List.filter_append, List.map_append]
  congr 1
  cases q : p i with
  | true => rw [show [i].filter p = [i] by simp [q]]; rfl
  | false => rw [show [i].filter p = [] by simp [q]]; rfl
theorem comp_keep {r : Addr} {n : Nat} {b : Int} {ta tb tc : Tok} {news : List (Addr × Obj)} (el : Nat → Nat) (p : Nat → Bool) (hh : A.handled = none) (F : Fr h₀ L s.heap m) (N : News h₀ L s.heap news) (hr : IsRange s.heap r 0 b 1 ta tb tc) (hb : b = (n : Int)) (hn : n ≤ 10000)
    (turn : ∀ i t I oI C oC D m₂ ys h tk, i < n → NsObj oC m₂ → m₂ x = some (.int (i : Int) t) → Fr h₀ L h m → News h₀ L h ((I, oI) :: (C, oC) :: (D, lst ys) :: news) → (@Ne Nat I C) → (@Ne Nat I D) → (@Ne Nat C D) → (∀ q ∈ news, @Ne Nat q.1 I ∧ @Ne Nat q.1 C ∧ @Ne Nat q.1 D) →
      wpAny (model prog w) A (isTrue ct (compEnvC scope cl C env) (eval ct (compEnvC scope cl C env))) (TurnT h₀ L m { s with heap := h, toks := tk } I oI C oC D (lst ys) fun ok nx' => ok = p i ∧ nx' = news) NoErr { s with heap := h, toks := tk })
    (helt : ∀ i t I oI C oC D m₂ ys h tk, i < n → NsObj oC m₂ → m₂ x = some (.int (i : Int) t) → Fr h₀ L h m → News h₀ L h ((I, oI) :: (C, oC) :: (D, lst ys) :: news) →
      wpAny (model prog w) A (eval elt (compEnvC scope cl C env)) (ElEnd h₀ L m { s with heap := h, toks := tk } ((I, oI) :: (C, oC) :: (D, lst ys) :: news) ((el i : Nat) : Int)) NoErr { s with heap := h, toks := tk })
    (fin : ∀ g ys, IntsAre ys (nat (((List.range n).filter p).map el)) → Fin { s with heap := g } ys news) :
    CompSrcT prog w A h₀ L m env ct elt x scope cl Fin (.ref r) s := by
  subst hb
  have e : Builtin.Range.rangeSize 0 (n : Int) 1 = ((n : Nat) : Int) := by
    have := rangeSize_nat 0 n
    simpa using this
  refine LCt.CompSrcT.range (n := n) hh F N hr (small_one (by k_extra "om") (by k_extra "om") (by k_extra "om") (by k_extra "om")) e (by rw [PySem.sizeLine_eq]; omega) fun g => ?_
  refine comp_J (n := n) (fun i => ((el i : Nat) : Int)) (fun i l nx => nx = news ∧ l = nat (((List.range i).filter p).map el) ∧ True) (fun _ _ _ _ => trivial) ?_ ?_ ?_ n 0 [] [] news (by k_extra "om") ⟨rfl, rfl, trivial⟩ .nil
  · rintro i v I oI C oC D m₂ ys l nx h tk hlt ⟨t, rfl⟩ ⟨rfl, rfl, _⟩ hy hC hx F' N' n1 n2 n3 off
    have e0 : (0 : Int) + (i : Int) = (i : Int) := by omega
    rw [e0] at hx
    refine wpAny_mono (turn i t I oI C oC D m₂ ys h tk hlt hC hx F' N' n1 n2 n3 off) (fun ok s' hq => ?_) fun _ _ e => e
    obtain ⟨h', tk', nx', e, F'', N'', off', rfl, rfl⟩ := hq
    refine ⟨h', tk', _, e, F'', N'', off', rfl, ?_, trivial⟩
    rw [sel_succ, nat_append]
    cases q : p i <;> simp [nat]
  · rintro i v I oI C oC D m₂ ys l nx h tk hlt ⟨t, rfl⟩ ⟨hnx, hl, _⟩ hC hx F' N'
    have e0 : (0 : Int) + (i : Int) = (i : Int) := by omega
    rw [e0] at hx
    subst hnx
    exact helt i t I oI C oC D m₂ ys h tk hlt hC hx F' N'
  · rintro ys l nx ⟨rfl, rfl, _⟩ hy
    exact fin g ys hy
end
example : True := by w_top off; trivial
section
variable {prog : Program} {w : World} {A : Around} {s : Shared} {env : Env} {g : Heap} {body : List Stmt} {Q : Flow → Shared → Prop}
theorem for_tupA {target : PySem.Expr} {m₀ : Str → Option Value} {news : List (Addr × Obj)} {l : Addr} {vs : List Value} (J : Nat → (Str → Option Value) → List (Addr × Obj) → Prop)
    (hh : A.handled = none) (hl : s.heap.IsTuple l vs.toArray) (hlL : l ≠ env.locals) (F : Fr g env.locals s.heap m₀) (N : News g env.locals s.heap news)
    (hsrc : ∃ o, g.get? l = some o) (hj : J 0 m₀ news)
    (turn : ∀ i v m nx h tk I oI, vs[i]? = some v → J i m nx → (∀ q ∈ nx, @Ne Nat q.1 I) → Fr g env.locals h m → News g env.locals h ((I, oI) :: nx) →
      wpAny (model prog w) A (assign target env v) (fun _ s₂ => wpAny (model prog w) A (execs body env) (TurnOver g env.locals I oI (J (i + 1)) { s with heap := h, toks := tk } Q) NoErr s₂) NoErr { s with heap := h, toks := tk })
    (done : ∀ m nx h tk, J vs.length m nx → Fr g env.locals h m → News g env.locals h nx → Q .next { s with heap := h, toks := tk })
    (hgo : ∀ it v, letOwnedTupleGo target it v = pure () := by intro _ _; rfl) :
    wpAny (model prog w) A (pyIter (.ref l)) (fun it s₂ => codeAny (model prog w) A (.forLoop target it body [] env) (fun r s' => match r with | .ok f => Q f s' | .error _ => False) s₂) NoErr s := by
  refine wpAny_pyIter_tuple hl ?_
  have hlt : l < s.heap.objs.size := by obtain ⟨o, ho, _⟩ := id hl; exact Heap.lt_size ho
  have W := Walks.tuple (prog := prog) (w := w) hh s.heap.objs.size l (Nat.ne_of_lt hlt) vs.toArray
  have hsz : vs.toArray.size = vs.length := List.size_toArray ..
  rw [hsz] at W
  have hIn : g.get? s.heap.objs.size = none := next_is_new F
  have hIl : @LT.lt Nat _ env.locals s.heap.objs.size := F.ns.lt
  have hLI : env.locals ≠ s.heap.objs.size := Nat.ne_of_lt hIl
  refine codeAny_forLoop_any
    (RunI g env.locals (fun i h' => h'.IsTupleIter s.heap.objs.size l i ∧ h'.IsTuple l vs.toArray) [s.heap.objs.size] J vs.length s) ?_ (vs.length + 1)
    ⟨s.heap.push { cls := .type "tuple_iterator", data := .fields #[.ref l, .int 0 0] }, s.toks, m₀, news, 0, rfl, ⟨⟨_, Heap.get?_push_size _ rfl, rfl, rfl⟩, hl.at fun o e => Heap.get?_push_of_some _ e⟩, F.push _, fun p hp => ⟨Heap.get?_push_of_some _ (N p hp).1, (N p hp).2⟩, fun p hp hm => Nat.ne_of_lt (Heap.lt_size (N p hp).1) (List.mem_singleton.mp hm), hj, Nat.zero_le _, rfl⟩
  intro k s' hI9
  obtain ⟨H, tk, m', nx, i, rfl, hst', F', N', hoff, hJ, hi, rfl⟩ := hI9
  have old : ∀ b o, g.get? b = some o → b ∉ [s.heap.objs.size] := fun b o e hb => by rw [List.mem_singleton.mp hb, hIn] at e; cases e
  have next : ∀ h₁ : Heap, (∀ b o, b ∉ [s.heap.objs.size] → H.get? b = some o → h₁.get? b = some o) → Fr g env.locals h₁ m' ∧ News g env.locals h₁ nx := fun h₁ hk₁ =>
    ⟨⟨F'.ns.at' fun o e => hk₁ _ o (by simpa using hLI) e, fun b o e => hk₁ b o (old b o e) (F'.keep b o e), F'.above⟩, fun p hp => ⟨hk₁ _ _ (hoff p hp) (N' p hp).1, (N' p hp).2⟩⟩
  by_cases hlt : i < vs.length
  · refine W.item i _ _ _ hlt hst' fun v h₁ tk₁ hPt hst₁ hk₁ => ?_
    obtain ⟨F₁, N₁⟩ := next h₁ hk₁
    obtain ⟨oI, heI, hoI⟩ := hst₁.1
    refine wpAny_of_eq (hgo _ v) ?_
    refine wpAny_mono (turn i v m' nx h₁ tk₁ s.heap.objs.size oI (by simpa using hPt) hJ (fun q hq e => hoff q hq (List.mem_singleton.mpr e)) F₁ (fun p hp => ?_)) (fun _ s₂ h₂ => wpAny_mono h₂ (fun f s₃ h₃ => ?_) fun _ _ e => e.elim) fun _ _ e => e.elim
    · rcases List.mem_cons.mp hp with rfl | hp
      · exact ⟨heI, Ne.symm hLI, hIn⟩
      · exact N₁ p hp
    · have fin : TurnNx g env.locals s.heap.objs.size oI (J (i + 1)) { s with heap := h₁, toks := tk₁ } s₃ → ∃ k, k < vs.length + 1 - i ∧ RunI g env.locals (fun i h' => h'.IsTupleIter s.heap.objs.size l i ∧ h'.IsTuple l vs.toArray) [s.heap.objs.size] J vs.length s k s₃ := by
        rintro ⟨h₄, tk₄, m₄, nx₄, rfl, F₄, N₄, ha₄, hJ₄⟩
        obtain ⟨ol, hol⟩ := hsrc
        have e1 := F₁.keep _ _ hol
        obtain ⟨ol', e2, r2⟩ := hst₁.2
        rw [e1] at e2
        cases e2
        exact ⟨vs.length + 1 - (i + 1), run_lt hlt, h₄, tk₄, m₄, nx₄, i + 1, rfl, ⟨⟨oI, (N₄ _ (.head _)).1, hoI⟩, ⟨ol, F₄.keep _ _ hol, r2⟩⟩, F₄, fun p hp => N₄ p (.tail _ hp), fun p hp hm => ha₄ p hp (List.mem_singleton.mp hm), hJ₄, hlt, rfl⟩
      cases f with
      | ret v => exact h₃
      | brk => exact h₃
      | next => exact fin h₃
      | cont => exact fin h₃
  · have hin : i = vs.length := Nat.le_antisymm hi (Nat.le_of_not_lt hlt)
    subst hin
    refine W.done _ _ _ hst' fun h₁ tk₁ hk₁ => wpAny_execs_nil ?_
    obtain ⟨F₁, N₁⟩ := next h₁ hk₁
    exact done m' nx h₁ tk₁ hJ F₁ N₁
end
example : True := by w_top off; trivial
example : True := by
  (k_with "exec For Name Name cons nil" => (k_here; (with_unfolding_all refine' for_stmt ?_ (by intro _; rfl); k_whole)))
  (k_with "eval ListComp" => (k_here; refine stop_out ?_))
  (k_with "CompSrcT" => (k_here; refine stop_out ?_))
  (k_with "TurnT" => (k_here; refine stop_out ?_))
  (k_with "ElEnd" => (k_here; refine stop_out ?_))
  (k_with "subscriptTail Name Name ref int" => (k_here; (with_reducible show wpAny _ _ (subscriptTail _ _ (Value.ref _) (Value.int _ _)) _ _ _); (refine' item_of (by is_list) (by with_reducible assumption) (by k_extra "om") ?_ (by with_unfolding_all rfl))))
  (k_with "call ref" => (k_here; (with_reducible show wpAny _ _ (call (Value.ref 513) _) _ _ _); k_dflt (refine' law_holds_U (by with_reducible assumption) (by k_asm) (by k_asm) (by with_reducible assumption) (by with_reducible assumption) (by with_reducible assumption) (by with_reducible assumption) (by k_extra "om") (by k_extra "om") ?_); intro _ _ _ _; (try k_sweep)))
  trivial
inductive LkpJ (g : Heap) (L p : Addr) (o4 : Obj) (T : List Row) (ns : List Nat) (ws : List (Wd × Nat)) (i : Nat) (m : Str → Option Value) (nx : List (Addr × Obj)) : Prop
  | mk (a : Addr) (va : List Value) (na : Nat) (oS oW oN : Obj) (vS vW : Option Value) (e1 : m (Str.ofString "words") = some (.ref p)) (e2 : oS.data = .cell vS) (e3 : oW.data = .cell vW) (e4 : oN.data = .cell (some (.ref a))) (e5 : IntsAre va (nat (keptL T ns (ws.take i))))
      (e6 : (i = 0 ∧ nx = [(L + 1 + 1 + 1 + 1, oS), (L + 1 + 1 + 1, oW), (L + 1 + 1, oN), (L + 1, o4)] ∧ g.get? a = some (listOf (List.toArray va) na)) ∨
        (nx = [(L + 1 + 1 + 1 + 1, oS), (L + 1 + 1 + 1, oW), (L + 1 + 1, oN), (L + 1, o4), (a, listOf (List.toArray va) na)] ∧ @Ne Nat a (L + 1 + 1 + 1 + 1) ∧ @Ne Nat a (L + 1 + 1 + 1) ∧ @Ne Nat a (L + 1 + 1))) : LkpJ g L p o4 T ns ws i m nx
theorem law_kept_C {w : World} {A : Around} {s : Shared} {t l p : Addr} {T : List Row} {vs : List Value} {n : Nat} {ns : List Nat} {ws : List (Wd × Nat)}
   (H : At w A s.heap 14 300) (TT : TreeAt w s.heap t T) (hl : s.heap.get? l = some (listOf (List.toArray vs) n)) (hi : IntsAre vs (nat ns)) (hs : ∀ x ∈ ns, x < T.length) (hn : ns.length ≤ 900) (hw : WordsAt s.heap p ws) (hwl : ws.length ≤ 100) (hw0 : ws ≠ []) :
   wpAny (model prg w) A (call (.ref 518) [.ref t, .ref l, .ref p]) (Back s (ListOut s (nat (keptL T ns ws)))) NoErr s := by
  refine hidP fun P9 k9 => ?_
  obtain ⟨wv, nw, hwp, hwa⟩ := hw
  refine k9 ?_; clear k9 P9
  refine' enterC (binds := [(Str.ofString "tree", .ref t), (Str.ofString "nodes", .ref l), (Str.ofString "words", .ref p)]) [] H.on (by k_extra "om") (by k_extra "om") ?hown ?ho ?hcd ?hb ?hk ?hnd ?_ ?c2 ?c3 ?c4
  case hown => exact fun p hp => nomatch hp
  case ho => k_is
  case hcd => k_is
  case hb => exact BindsTo.of_eq rfl
  case hk => rfl
  case hnd => decide
  case c2 => exact rfl
  case c3 => exact rfl
  case c4 => exact rfl
  intro h₁ tk₁ cells gn9 dr9 os9 A9 L pr9 loose9 mean9 mg9 mb9 F' N' Y' lo' X' T' C' hroom hun K9 hK9
  refine hidP fun P9 k9 => ?_
  obtain ⟨o1, o2, o3, o4, rfl, d1, d2, d3, d4⟩ := CellsAre.four Y'
  refine k9 ?_; clear k9 P9
  have F2 : Fr s.heap L h₁ (fun y => if y = Str.ofString "words" then some (.ref p) else none) := by with_unfolding_all exact F'
  have e1 : o1.data = .cell none := by with_unfolding_all exact d1
  have e2 : o2.data = .cell none := by with_unfolding_all exact d2
  have e3 : o3.data = .cell (some (.ref l)) := by with_unfolding_all exact d3
  have e4 : o4.data = .cell (some (.ref t)) := by with_unfolding_all exact d4
  clear F' d1 d2 d3 d4 Y'
  rw [List.append_nil] at N'
  k_steps
  refine Stop.in (for_tupA (LkpJ s.heap L p o4 T ns ws) rfl (vs := wv) ⟨_, F2.keep _ _ hwp, rfl, nw, rfl⟩ ?_ F2 N' ⟨_, hwp⟩
    ⟨l, vs, n, o1, o2, o3, none, none, rfl, e1, e2, e3, hi, .inl ⟨rfl, rfl, hl⟩⟩ ?_ ?_)
  · exact base_ne F2 hwp
  · intro i v m nx h tk I oI hv hJ1 hne F1 N1
    refine hidP fun P9 k9 => ?_
    obtain ⟨a, va, na, oS, oW, oN, vS, vW, m1, f1, f2, f3, hia, hcase⟩ := hJ1
    refine k9 ?_; clear k9 P9
    clear F2 N' e1 e2 e3
    refine hidP fun P9 k9 => ?_
    obtain ⟨b, wd, k, rfl, hwi, hwb, hk⟩ := hwa.get hv
    refine k9 ?_; clear k9 P9
    have hwt : ws.take (i + 1) = ws.take i ++ [(wd, k)] := by rw [List.take_add_one, hwi]; rfl
    have hsub := keptL_sub (T := T) (ws := ws.take i) (nodes := ns)
    have hlen := hsub.length_le
    have hs' : ∀ x ∈ keptL T ns (ws.take i), x < T.length := fun x hx => hs x (hsub.subset hx)
    have hfin : nat (keptL T ns (ws.take (i + 1))) = nat (keptI T (keptL T ns (ws.take i)) wd k (keptL T ns (ws.take i)).length) := by rw [hwt, keptL_snoc]; rfl
    clear hwt hwi
    generalize keptL T ns (ws.take i) = nodes at *
    have hb1 : (nat nodes).length ≤ 900 := by rw [nat_len]; omega
    have hFL : Fr s.heap L h (fun y => if y = Str.ofString "words" then some (.ref p) else m y) := know F1 m1
    clear F1
    refine hidP fun P9 k9 => ?_
    obtain ⟨ex, rfl, hS, x4, x3, x2⟩ : ∃ ex, nx = (L + 1 + 1 + 1 + 1, oS) :: (L + 1 + 1 + 1, oW) :: (L + 1 + 1, oN) :: (L + 1, o4) :: ex ∧ Src s.heap ex a (listOf (List.toArray va) na) ∧ (∀ p ∈ ex, @Ne Nat p.1 (L + 1 + 1 + 1 + 1)) ∧ (∀ p ∈ ex, @Ne Nat p.1 (L + 1 + 1 + 1)) ∧ ∀ p ∈ ex, @Ne Nat p.1 (L + 1 + 1) := by
      rcases hcase with ⟨_, rfl, hba⟩ | ⟨rfl, z1, z2, z3⟩
      · exact ⟨[], rfl, .inl ⟨rfl, hba⟩, List.forall_mem_nil _, List.forall_mem_nil _, List.forall_mem_nil _⟩
      · exact ⟨_, rfl, .inr rfl, fun p hp => by rw [List.mem_singleton.mp hp]; exact z1, fun p hp => by rw [List.mem_singleton.mp hp]; exact z2, fun p hp => by rw [List.mem_singleton.mp hp]; exact z3⟩
    clear hcase
    simp only [List.forall_mem_cons] at hne
    obtain ⟨q1, q2, q3, q4, q5⟩ := hne
    refine k9 ?_; clear k9 P9
    k_steps
    rename Fr _ _ _ _ => F3
    rename News _ _ _ _ => N3
    rename_i h5 oW' dW _ _ _ h6 oS' dS _ _
    refine Stop.in (LCt.ListComp_T (F₀ := F3) (by with_unfolding_all rfl) (by decide) (by rfl) (by decide) (by rfl) ?_)
    k_steps
    rename Fr _ _ _ _ => F4
    rename News _ _ _ _ => N4
    rename IsRange _ _ _ _ _ _ _ _ => hR
    refine Stop.in (comp_keep (n := nodes.length) (fun i => nodes.getD i 0) (fun j => (wordV T k (nodes.getD j 0) (j + 1) (nat nodes).length wd).holds (j + 1)) rfl F4 N4 hR (by rw [nat_len]) (by k_extra "om") ?_ ?_ ?_)
    · intro j t9 I' oI' C9 oC D m₂ ys h9 tk9 hjl hC hx F5 N5 n1 n2 n3 off
      clear F4 N4
      refine hidP fun P9 k9 => ?_
      obtain ⟨tx, htx⟩ := hia.get j (nodes.getD j 0 : Int) (by unfold nat; rw [List.getElem?_map, List.getElem?_eq_getElem hjl, List.getD_eq_getElem?_getD, List.getElem?_eq_getElem hjl]; rfl)
      refine k9 ?_; clear k9 P9
      have hxT : nodes.getD j 0 < T.length := hs' _ (by rw [List.getD_eq_getElem?_getD, List.getElem?_eq_getElem hjl]; exact List.getElem_mem _)
      have hPj : (j : Int) + 1 = ((j + 1 : Nat) : Int) := rfl
      have htx2 : va.toArray[j]? = some (.int (nodes.getD j 0 : Int) tx) := by simpa using htx
      generalize hxx : nodes.getD j 0 = x at *
      k_steps
      exact Stop.in ⟨_, _, _, rfl, by k_asm, by k_asm, off, rfl, rfl⟩
    · intro j t9 I' oI' C9 oC D m₂ ys h9 tk9 hjl hC hx F5 N5
      clear F4 N4
      refine hidP fun P9 k9 => ?_
      obtain ⟨tx, htx⟩ := hia.get j (nodes.getD j 0 : Int) (by unfold nat; rw [List.getElem?_map, List.getElem?_eq_getElem hjl, List.getD_eq_getElem?_getD, List.getElem?_eq_getElem hjl]; rfl)
      refine k9 ?_; clear k9 P9
      have htx2 : va.toArray[j]? = some (.int (nodes.getD j 0 : Int) tx) := by simpa using htx
      generalize hxx : nodes.getD j 0 = x at *
      k_steps
      exact Stop.in ⟨⟨_, rfl⟩, _, _, rfl, by k_asm, by k_asm⟩
    · intro g9 ys hys D h9 tk9 F5 N5 off5
      clear F4 N4
      refine hidP fun P9 k9 => ?_
      obtain ⟨w0, w1, w2, w3, w4, w5⟩ := off5
      refine k9 ?_; clear k9 P9
      have v0 := Ne.symm w0
      k_steps
      rename Fr _ _ _ _ => F6
      rename News _ _ _ _ => N6
      refine turn_over [(L + 1 + 1 + 1 + 1, oS'), (L + 1 + 1 + 1, oW'), (L + 1 + 1, _), (L + 1, o4), (D, LCg.lst ys)] F6 N6 (by k_mem) (fun q hq => ?_) (fun q hq => ?_) ⟨D, ys, ys.length, oS', oW', _, _, _, rfl, dS, dW, by assumption, ?_, .inr ⟨rfl, Ne.symm w1, Ne.symm w2, Ne.symm w3⟩⟩
      · simp only [List.mem_cons, List.not_mem_nil, or_false] at hq ⊢
        rcases hq with h | h | h | h | h <;> simp [h]
      · simp only [List.mem_cons, List.not_mem_nil, or_false] at hq
        rcases hq with h | h | h | h | h <;> (subst h; first | assumption | exact v0)
      · rw [hfin]
        rw [nat_len] at hys
        exact hys
  · intro m nx h tk hJ1 F1 N1
    refine hidP fun P9 k9 => ?_
    obtain ⟨a, va, na, oS, oW, oN, vS, vW, m1, f1, f2, f3, hia, hcase⟩ := hJ1
    refine k9 ?_; clear k9 P9
    clear F2 N' e1 e2 e3
    rw [hwa.length, List.take_length] at hia
    refine hidP fun P9 k9 => ?_
    rcases hcase with ⟨h0, _, _⟩ | ⟨rfl, z1, z2, z3⟩ <;> (refine k9 ?_; clear k9 P9)
    · rw [hwa.length] at h0
      exact absurd (List.length_eq_zero_iff.mp h0) hw0
    · k_steps
      exact endK hK9 (by k_asm) ⟨_, _, _, rfl, News.fresh (by k_asm) (by k_mem), News.get (by k_asm) (by k_mem), hia⟩
example : True := by w_top off; trivial
theorem law_value_C {w : World} {A : Around} {s : Shared} {g : Heap} {t : Addr}
   (H : On w A g s.heap [501] 10 300) (hC : CodeHd g 505 501) (hP : s.heap.get? 501 = some (tabObj #[])) :
   wpAny (model prg w) A (call (.ref 506) [.ref t]) (BackG g s fun v h' => ∃ (f : Addr) (led : List (Addr × Obj)), v = .ref f ∧ (∃ ps, h'.get? 501 = some (tabObj ps)) ∧ (∀ p ∈ led, s.heap.get? p.1 = none ∧ h'.get? p.1 = some p.2) ∧ ∀ h2 : Heap, (∀ p ∈ led, h2.get? p.1 = some p.2) → FnV w h2 f t) NoErr s := by
  refine' enterC (binds := [(Str.ofString "tree", .ref t)]) [(501, tabObj #[])] H (by k_extra "om") (by k_extra "om") ?hown ?ho ?hcd ?hb ?hk ?hnd ?_ ?c2 ?c3 ?c4
  case hown => intro p hp; rw [List.mem_singleton.mp hp]; exact ⟨hP, .head _⟩
  case ho => k_is
  case hcd => k_is
  case hb => exact BindsTo.of_eq rfl
  case hk => rfl
  case hnd => decide
  case c2 => exact rfl
  case c3 => exact rfl
  case c4 => exact rfl
  intro h₁ tk₁ cells gn9 dr9 os9 A9 L9 pr9 loose9 mean9 mg9 mb9 F' N' Y' lo' X' T' C' hroom hun K9 hK9
  have hab9 : @LE.le Nat _ s.heap.objs.size L9 := H.size ▸ F'.above
  refine hidP fun P9 k9 => ?_
  obtain ⟨o1, rfl, d1⟩ := CellsAre.one Y'
  refine k9 ?_; clear k9 P9
  have F2 : Fr g L9 h₁ (fun y => none) := by with_unfolding_all exact F'
  have e1 : o1.data = .cell (some (.ref t)) := by with_unfolding_all exact d1
  clear F' d1 Y'
  rw [List.cons_append, List.nil_append] at N'
  have lt1 : @LT.lt Nat _ 501 L9 := lo' _ (.head _)
  k_steps
  rename Fr _ _ _ _ => F3
  rename News _ _ _ _ => N3
  rename_i f' c' oc' vsc tc ctv dc _ _ d6 d7 l1 l2 _ _ _
  have hf0 := (N3 _ (.head _)).1
  dsimp only at hf0
  generalize hO : fnMade _ _ _ _ _ _ _ _ _ _ = oF at hf0
  have hc0 := (N3 (c', oc') (.tail _ (.head _))).1
  have ho0 := (N3 (L9 + 1, o1) (.tail _ (.tail _ (.head _)))).1
  refine endK hK9 F3 ⟨f', [(f', oF), (c', oc'), (L9 + 1, o1)], rfl, ⟨_, (N3 (501, _) (by k_mem)).1⟩, ?_, fun h2 hk => ⟨⟨_, _, _, _, _, c', _, L9 + 1, o1, _, ?hv, (hk (f', oF) (.head _)).trans (congrArg some hO.symm), ⟨c', oc', vsc, tc, rfl, hk (c', oc') (.tail _ (.head _)), d6, d7⟩, hk (L9 + 1, o1) (.tail _ (.tail _ (.head _))), e1⟩⟩⟩
  case hv => exact ⟨_, by k_is, rfl⟩
  intro p hp
  have z : ∀ a, @LE.le Nat _ L9 a → s.heap.get? a = none := fun a ha => Heap.get?_none_of_le (Nat.le_trans hab9 ha)
  refine hidP fun P9 k9 => ?_
  rcases List.mem_cons.mp hp with rfl | hp <;> (refine k9 ?_; clear k9 P9)
  · exact ⟨fresh_of H (News.fresh N3 (.head _)) (fun q => by
      have h5 : f' = 501 := List.mem_singleton.mp q
      have h6 := (N3 (501, _) (by k_mem)).1
      dsimp only at h6
      rw [h5, h6] at hf0
      injection hf0 with e9
      rw [← hO] at e9; cases e9), hf0⟩
  · refine hidP fun P9 k9 => ?_
    rcases List.mem_cons.mp hp with rfl | hp <;> (refine k9 ?_; clear k9 P9)
    · exact ⟨fresh_of H (News.fresh N3 (.tail _ (.head _))) (fun q => dlt_ne l1 (.tail _ (.head _)) (List.mem_singleton.mp q).symm), hc0⟩
    · rw [List.mem_singleton.mp hp]
      exact ⟨z _ (Nat.le_succ _), ho0⟩
example : True := by w_top off; trivial
theorem with_callee {w : World} {g base : Heap} {outer : List Env} {L : Addr} {c : Sem Flow} {Q : Flow → Shared → Prop} {E : Value → Shared → Prop} {s : Shared} {env : Env} {p : Program} {loose : List Str} {mean : ExcName → Option Value} {mg mb : Str → Option Value} {dp un : Nat}
    (K : Below callerA base outer g) (X : (hd.heap_1 w.params).In g) (T : Top p loose mean mg mb g) (hf : env.frame = some L) (hk : env.scope.kind = .function) (hd' : callerA.depth + 1 + dp < recursionLimit) (hu : callerA.units + 3 + un < cLine)
    (k : ∀ A' Q', Callee w (nA A') g L dp un → (nA A').units + un < cLine → (∀ f s, Q f s → Q' f s) → wpAny (model prg w) (nA A') c Q' NoErr s) : wpAny (model prg w) (callerA.deeper env) c Q E s :=
  wpAny_mono (k (callerA.deeper env) Q (fun h' m' F' => ⟨rfl, hd', hu, ⟨_, _, pushX K F' hf hk⟩, X.keeps F'.keep, ⟨_, _, _, _, _, T.keeps F'.keep⟩⟩) hu fun _ _ h => h) (fun _ _ h => h) fun _ _ h => h.elim
section
variable {w : World} {A : Around} {s : Shared} {g : Heap} {L : Addr} {m : Str → Option Value} {news : List (Addr × Obj)} {dp un dp' un' : Nat} {c : Sem Value} {Q E : Value → Shared → Prop}
theorem live_ne {h : Heap} (N : News g L h news) {a : Addr} (e : h.get? a = none) : ∀ p ∈ news, @Ne Nat p.1 a := fun p hp q => by
  have h1 := (N p hp).1
  have q' : p.1 = a := q
  rw [q', e] at h1; cases h1
theorem pool_U {l : Addr} {vs : List Value} {ns : List Int} (C : Callee w A g L dp un) (F : Fr g L s.heap m) (N : News g L s.heap news) (hl : s.heap.IsList l (List.toArray vs)) (hi : IntsAre vs ns) (hn : ns.length ≤ 100) (hd : 8 ≤ dp) (hu : 200 ≤ un)
    (k : ∀ a o h' tk', Fr g L h' m → News g L h' ((a, o) :: news) → (∀ p ∈ news, @Ne Nat p.1 a) → SrcIs o → Q (.ref a) { s with heap := h', toks := tk' }) :
    wpAny (model prg w) A (call (.ref 471) [.ref l]) Q E s := by
  refine use (pool_C (n := 0) (C.at F hd hu) hl hi hn) F N fun v h' tk' F' N' hk hP => ?_
  obtain ⟨a, o, rfl, hnone, e, ho⟩ := hP
  refine k a o h' tk' F' (fun p hp => ?_) (live_ne N hnone) ho
  rcases List.mem_cons.mp hp with rfl | hp
  · exact ledger_new F hnone e
  · exact N' p hp
theorem useSrcL {P : Value → List (Addr × Obj) → Prop} {src : Addr} {o : Obj} {upd : Obj → List (Addr × Obj)}
    (call : ∀ g, On w A g s.heap [src] dp' un' → s.heap.get? src = some o → wpAny (model prg w) A c (BackG g s fun v h' => (∃ led, P v led ∧ ∀ q ∈ led, s.heap.get? q.1 = none ∧ h'.get? q.1 = some q.2) ∧ ∃ o, h'.get? src = some o ∧ SrcIs o) NoErr s)
    (C : Callee w A g L dp un) (F : Fr g L s.heap m) (N : News g L s.heap news) (U : UpdF src o news upd) (hd : dp' ≤ dp) (hu : un' ≤ un)
    (k : ∀ v led o' h' tk', P v led → Fr g L h' m → News g L h' (upd o' ++ led) → SrcIs o' → (∀ p ∈ news, ∀ q ∈ led, @Ne Nat q.1 p.1) → Q v { s with heap := h', toks := tk' }) :
    wpAny (model prg w) A c Q E s := by
  obtain ⟨pre, post, rfl, hg, x1, x2⟩ := U.split
  have hm : (src, o) ∈ pre ++ (src, o) :: post := List.mem_append_right _ (.head _)
  refine useG (as := [src]) (fun g O => call g O (N _ hm).1) C F N (fun a ha => ⟨o, by rw [List.mem_singleton.mp ha]; exact hm⟩) hd hu fun v h' tk' F' up _ hP => ?_
  obtain ⟨⟨led, hv, hled⟩, o', e, ho⟩ := hP
  refine k v led o' h' tk' hv F' (fun p hp => ?_) ho fun p hp q hq e => ?_
  · rcases List.mem_append.mp hp with hp | hp
    · rw [hg] at hp
      rcases List.mem_append.mp hp with hp | hp
      · have hp' : p ∈ pre ++ (src, o) :: post := List.mem_append_left _ hp
        exact ⟨up p hp' (fun q => x1 p hp (List.mem_singleton.mp q)), (N p hp').2⟩
      · rcases List.mem_cons.mp hp with rfl | hp
        · exact ⟨e, (N _ hm).2⟩
        · have hp' : p ∈ pre ++ (src, o) :: post := List.mem_append_right _ (.tail _ hp)
          exact ⟨up p hp' (fun q => x2 p hp (List.mem_singleton.mp q)), (N p hp').2⟩
    · exact ledger_new F (hled p hp).1 (hled p hp).2
  · have h1 := (N p hp).1
    have e' : q.1 = p.1 := e
    rw [← e', (hled q hq).1] at h1; cases h1
theorem tree_U {src : Addr} {o : Obj} {upd : Obj → List (Addr × Obj)} {tt : Tok} {P7 : Int} (hP : P7 = ((7 : Nat) : Int)) (C : Callee w A g L dp un) (F : Fr g L s.heap m) (N : News g L s.heap news) (U : UpdF src o news upd) (ho : SrcIs o) (hd : 30 ≤ dp) (hu : 600 ≤ un)
    (k : ∀ a t dt rl tk n led qs T o' h' tk', Fr g L h' m → News g L h' (upd o' ++ (a, listOf (List.toArray [.ref t, .int 0 tk]) n) :: led) → SrcIs o' → (∀ p ∈ news, @Ne Nat a p.1) → (∀ p ∈ news, ∀ q ∈ led, @Ne Nat q.1 p.1) → (∀ q ∈ led, @Ne Nat q.1 a) → TreeL w led t dt rl qs T → Good 12 T → Q (.ref a) { s with heap := h', toks := tk' }) :
    wpAny (model prg w) A (call (.ref 492) [.ref src, .int P7 tt]) Q E s := by
  subst hP
  refine useSrcL (P := fun v led => ∃ (a t dt rl : Addr) (tk : Tok) (n : Nat) (led' : List (Addr × Obj)) (qs : List Rep) (T : List Row), v = .ref a ∧ led = (a, listOf (List.toArray [.ref t, .int 0 tk]) n) :: led' ∧ (∀ q ∈ led', @Ne Nat q.1 a) ∧ TreeL w led' t dt rl qs T ∧ Good 12 T)
    (fun g' O hs => wpAny_mono (law_tree_C O hs ho) (fun v s' h => ?_) fun _ _ e => e) C F N U hd hu ?_
  · obtain ⟨h', tk', e, kp, ⟨a, t, dt, rl, tk, n, led, qs, T, rfl, h1, h2, h3, h4, h5, h6⟩, h7⟩ := h
    refine ⟨h', tk', e, kp, ⟨_, ⟨a, t, dt, rl, tk, n, led, qs, T, rfl, rfl, h4, h5, h6⟩, fun q hq => ?_⟩, h7⟩
    rcases List.mem_cons.mp hq with rfl | hq
    · exact ⟨h1, h2⟩
    · exact h3 q hq
  · rintro v led o' h' tk' ⟨a, t, dt, rl, tk, n, led', qs, T, rfl, rfl, h4, h5, h6⟩ F' N' ho' dis
    exact k a t dt rl tk n led' qs T o' h' tk' F' N' ho' (fun p hp => dis p hp _ (.head _)) (fun p hp q hq => dis p hp q (.tail _ hq)) h4 h5 h6
theorem words_U {src : Addr} {o : Obj} {upd : Obj → List (Addr × Obj)} (C : Callee w A g L dp un) (F : Fr g L s.heap m) (N : News g L s.heap news) (U : UpdF src o news upd) (ho : SrcIs o) (hd : 14 ≤ dp) (hu : 400 ≤ un)
    (k : ∀ p led ws o' h' tk', Fr g L h' m → News g L h' (upd o' ++ led) → SrcIs o' → (∀ p ∈ news, ∀ q ∈ led, @Ne Nat q.1 p.1) → (∀ h2, Held led h2 → WordsAt h2 p ws) → 0 < ws.length → ws.length ≤ 3 → Q (.ref p) { s with heap := h', toks := tk' }) :
    wpAny (model prg w) A (call (.ref 532) [.ref src]) Q E s := by
  refine useSrcL (P := fun v led => ∃ p ws, v = .ref p ∧ (∀ h2, Held led h2 → WordsAt h2 p ws) ∧ 0 < ws.length ∧ ws.length ≤ 3)
    (fun g' O hs => wpAny_mono (law_words_C O hs ho) (fun v s' h => ?_) fun _ _ e => e) C F N U hd hu ?_
  · obtain ⟨h', tk', e, kp, ⟨p, led, ws, rfl, h1, h2, h3, h4⟩, h7⟩ := h
    exact ⟨h', tk', e, kp, ⟨led, ⟨p, ws, rfl, h2, h3, h4⟩, h1⟩, h7⟩
  · rintro v led o' h' tk' ⟨p, ws, rfl, h2, h3, h4⟩ F' N' ho' dis
    exact k p led ws o' h' tk' F' N' ho' dis h2 h3 h4
theorem value_U {t : Addr} {upd : Obj → List (Addr × Obj)} (C : Callee w A g L dp un) (F : Fr g L s.heap m) (N : News g L s.heap news) (U : UpdF 501 (tabObj #[]) news upd) (hC : CodeHd g 505 501) (hd : 10 ≤ dp) (hu : 300 ≤ un)
    (k : ∀ f led ps h' tk', Fr g L h' m → News g L h' (upd (tabObj ps) ++ led) → (∀ p ∈ news, ∀ q ∈ led, @Ne Nat q.1 p.1) → (∀ h2, Held led h2 → FnV w h2 f t) → Q (.ref f) { s with heap := h', toks := tk' }) :
    wpAny (model prg w) A (call (.ref 506) [.ref t]) Q E s := by
  obtain ⟨pre, post, rfl, hg, x1, x2⟩ := U.split
  have hm : ((501 : Addr), tabObj #[]) ∈ pre ++ (501, tabObj #[]) :: post := List.mem_append_right _ (.head _)
  refine useG (as := [501]) (fun g' O => law_value_C O ?_ (N _ hm).1) C F N (fun a ha => ⟨tabObj #[], by rw [List.mem_singleton.mp ha]; exact hm⟩) hd hu fun v h' tk' F' up _ hP => ?_
  · obtain ⟨o, vs, file, tf, flags, tg, inF, text, tt, e, r⟩ := hC
    refine ⟨o, vs, file, tf, flags, tg, inF, text, tt, O.inG (F.keep _ _ e) fun q => ?_, r⟩
    have := (N _ hm).2.2
    rw [List.mem_singleton.mp q] at e
    dsimp only at this
    rw [this] at e; cases e
  obtain ⟨f, led, rfl, ⟨ps, e⟩, hled, hv⟩ := hP
  refine k f led ps h' tk' F' (fun p hp => ?_) (fun p hp q hq e => ?_) fun h2 hh => hv h2 hh
  · rcases List.mem_append.mp hp with hp | hp
    · rw [hg] at hp
      rcases List.mem_append.mp hp with hp | hp
      · have hp' : p ∈ pre ++ (501, tabObj #[]) :: post := List.mem_append_left _ hp
        exact ⟨up p hp' (fun q => x1 p hp (List.mem_singleton.mp q)), (N p hp').2⟩
      · rcases List.mem_cons.mp hp with rfl | hp
        · exact ⟨e, (N _ hm).2⟩
        · have hp' : p ∈ pre ++ (501, tabObj #[]) :: post := List.mem_append_right _ (.tail _ hp)
          exact ⟨up p hp' (fun q => x2 p hp (List.mem_singleton.mp q)), (N p hp').2⟩
    · exact ledger_new F (hled p hp).1 (hled p hp).2
  · have h1 := (N p hp).1
    have e' : q.1 = p.1 := e
    rw [← e', (hled q hq).1] at h1; cases h1
end
theorem app_ne {led led2 : List (Addr × Obj)} {x : Addr} (h1 : ∀ q ∈ led, @Ne Nat q.1 x) (h2 : ∀ q ∈ led2, @Ne Nat q.1 x) : ∀ q ∈ led ++ led2, @Ne Nat q.1 x := fun q hq => (List.mem_append.mp hq).elim (h1 q) (h2 q)
theorem held_l {led led2 : List (Addr × Obj)} {h : Heap} (H : Held (led ++ led2) h) : Held led h := fun p hp => H p (List.mem_append_left _ hp)
theorem held_r {led led2 : List (Addr × Obj)} {h : Heap} (H : Held (led ++ led2) h) : Held led2 h := fun p hp => H p (List.mem_append_right _ hp)
theorem nodes_U {w : World} {A : Around} {s : Shared} {g : Heap} {L : Addr} {m : Str → Option Value} {news : List (Addr × Obj)} {dp un : Nat} {Q E : Value → Shared → Prop} {t st nm f a p : Addr} {T : List Row} {i : Nat} {ti : Tok} {ax : Ax} {ts : Ts} {ws : List (Wd × Nat)} {ps : Array Value} {upd : Obj → List (Addr × Obj)}
   (C : Callee w A g L dp un) (F : Fr g L s.heap m) (N : News g L s.heap news) (U : UpdF 191 (tabObj ps) news upd) (hC : CodeHd g 193 191) (hTab : TabIn s.heap 191 161 29 lamQ) (W : WF T) (hr : pa T 0 = none) (hrt : 0 < T.length) (hi : In T 0 i) (hwl : ws.length ≤ 100) (hw0 : ws ≠ [])
   (hg : ∀ g', (∀ b o, @Ne Nat b 191 → s.heap.get? b = some o → g'.get? b = some o) → TreeAt w g' t T ∧ StepAt w g' st ax.str a p ∧ TestAt g' a ts ∧ WordsAt g' p ws ∧ FnV w g' f t) (hd : 40 ≤ dp) (hu : 1200 ≤ un)
   (k : ∀ x vs n ps' lc h' tk', Fr g L h' m → News g L h' ((x, listOf (List.toArray vs) n) :: (upd (tabObj ps') ++ lc)) → (∀ p ∈ news, @Ne Nat p.1 x) → (∀ q ∈ lc, @Ne Nat q.1 x) → (∀ q ∈ lc, @Ne Nat q.1 191) → (∀ q ∈ lc, Fld q.2) →
     (∀ h2 m2, Fr g L h2 m2 → Held ((191, tabObj ps') :: lc) h2 → TabIn h2 191 161 29 lamQ) → IntsAre vs (nat ((doc T 0).filter fun x => (stepL T i ax ts ws).contains x)) → Q (.ref x) { s with heap := h', toks := tk' }) :
   wpAny (model prg w) A (call (.ref 220) [.ref t, .int (i : Int) ti, .ref st, .ref nm, .ref f]) Q E s := by
  obtain ⟨pre, post, rfl, hgu, x1, x2⟩ := U.split
  have hm : ((191 : Addr), tabObj ps) ∈ pre ++ (191, tabObj ps) :: post := List.mem_append_right _ (.head _)
  refine useG (P := fun v h' => ListOut s (nat ((doc T 0).filter fun x => (stepL T i ax ts ws).contains x)) v h' ∧ TabIn h' 191 161 29 lamQ) (as := [191]) (fun g' O => ?_) C F N (fun a ha => ⟨tabObj ps, by rw [List.mem_singleton.mp ha]; exact hm⟩) hd hu fun v h' tk' F' up _ hP => ?_
  · have ig : ∀ b o, @Ne Nat b 191 → s.heap.get? b = some o → g'.get? b = some o := fun b o hb e => O.inG e fun q => hb (List.mem_singleton.mp q)
    obtain ⟨k1, k2, k3, k4, k5⟩ := hg g' ig
    refine step_nodes_C O ?_ hTab W k1 hr hrt hi k2 k3 k4 hwl hw0 k5
    obtain ⟨o, vs, file, tf, flags, tg, inF, text, tt, e, r⟩ := hC
    refine ⟨o, vs, file, tf, flags, tg, inF, text, tt, ig _ _ ?_ (F.keep _ _ e), r⟩
    decide
  obtain ⟨⟨x, vs, n, rfl, hx0, hx1, hix⟩, ps', e, hps⟩ := hP
  have base : ∀ p ∈ upd (tabObj ps'), h'.get? p.1 = some p.2 ∧ p.1 ≠ L ∧ g.get? p.1 = none := fun p hp => by
    rw [hgu] at hp
    rcases List.mem_append.mp hp with hp | hp
    · have hp' : p ∈ pre ++ (191, tabObj ps) :: post := List.mem_append_left _ hp
      exact ⟨up p hp' (fun q => x1 p hp (List.mem_singleton.mp q)), (N p hp').2⟩
    · rcases List.mem_cons.mp hp with rfl | hp
      · exact ⟨e, (N _ hm).2⟩
      · have hp' : p ∈ pre ++ (191, tabObj ps) :: post := List.mem_append_right _ (.tail _ hp)
        exact ⟨up p hp' (fun q => x2 p hp (List.mem_singleton.mp q)), (N p hp').2⟩
  have lx := live_ne N hx0
  have nx := ledger_new F hx0 hx1
  have fin : ∀ lc : List (Addr × Obj), (∀ q ∈ lc, (h'.get? q.1 = some q.2 ∧ q.1 ≠ L ∧ g.get? q.1 = none) ∧ Fld q.2 ∧ @Ne Nat q.1 191) → (∀ h2 m2, Fr g L h2 m2 → Held ((191, tabObj ps') :: lc) h2 → TabIn h2 191 161 29 lamQ) → Q (.ref x) { s with heap := h', toks := tk' } := fun lc hlc htab => by
    refine k x vs n ps' lc h' tk' F' (fun p hp => ?_) lx (fun q hq e2 => ?_) (fun q hq => (hlc q hq).2.2) (fun q hq => (hlc q hq).2.1) htab hix
    · rcases List.mem_cons.mp hp with rfl | hp
      · exact nx
      · rcases List.mem_append.mp hp with hp | hp
        · exact base p hp
        · exact (hlc p hp).1
    · have e3 : q.1 = x := e2
      have e4 := (hlc q hq).1.1
      obtain ⟨fv, _, _, hfv, _⟩ := (hlc q hq).2.1
      rw [e3, hx1] at e4
      rw [← Option.some.inj e4] at hfv
      cases hfv
  rcases hps with rfl | ⟨c', oc, fv, tq, rfl, ec, hfd, hq0⟩
  · exact fin [] (fun q hq => nomatch hq) fun h2 m2 F2 hh => ⟨_, hh _ (.head _), .inl rfl⟩
  · cases eg : g.get? c' with
    | some oc' =>
      have e5 := F'.keep _ _ eg
      rw [ec] at e5
      cases e5
      exact fin [] (fun q hq => nomatch hq) fun h2 m2 F2 hh => ⟨_, hh _ (.head _), .inr ⟨c', oc, fv, tq, rfl, F2.keep _ _ eg, hfd, hq0⟩⟩
    | none =>
      have hcL : c' ≠ L := fun q => by
        obtain ⟨oL, es, ep, hL, hLd, _⟩ := F'.ns
        rw [← q, ec] at hL
        cases hL
        rw [hfd] at hLd; cases hLd
      have hc191 : @Ne Nat c' 191 := fun q => by
        have q' : c' = 191 := q
        rw [q', e] at ec
        cases ec
        cases hfd
        simp [rawInt] at hq0
      refine fin [(c', oc)] (fun q hq => by rw [List.mem_singleton.mp hq]; exact ⟨⟨ec, hcL, eg⟩, ⟨_, _, _, hfd, hq0⟩, hc191⟩) fun h2 m2 F2 hh => ⟨_, hh _ (.head _), .inr ⟨c', oc, fv, tq, rfl, hh _ (.tail _ (.head _)), hfd, hq0⟩⟩
section
open LCg LCt
variable {prog : Program} {w : World} {A : Around} {h₀ : Heap} {L : Addr} {m : Str → Option Value} {env : Env} {ct : PySem.Expr} {x : Str} {xp : Pos} {scope : Scope} {cl : List (Str × Addr)} {s : Shared} {Fin : Shared → List Value → List (Addr × Obj) → Prop}
theorem comp_sel {ax : Addr} {vs : List Value} {ns : List Nat} {nv : Nat} {o : Obj} (upd : Obj → List (Addr × Obj)) (hh : A.handled = none) (F : Fr h₀ L s.heap m) (N : News h₀ L s.heap (upd o)) (ho : SrcIs o) (hax : ∀ o, (ax, listOf (List.toArray vs) nv) ∈ upd o) (hi : IntsAre vs (nat ns)) (hsz : ns.length ≤ 10000)
    (hk : scope.kind = .function) (hxl : scope.names.lookup x = some .local) (hxd : (x == ("__debug__" : Str)) = false)
    (turn : ∀ j t I oI C oC D m₂ ys h tk o, SrcIs o → j ∈ ns → NsObj oC m₂ → m₂ x = some (.int (j : Int) t) → Fr h₀ L h m → News h₀ L h ((I, oI) :: (C, oC) :: (D, lst ys) :: upd o) → (@Ne Nat I C) → (@Ne Nat I D) → (@Ne Nat C D) → (∀ q ∈ upd o, @Ne Nat q.1 I ∧ @Ne Nat q.1 C ∧ @Ne Nat q.1 D) →
      wpAny (model prog w) A (isTrue ct (compEnvC scope cl C env) (eval ct (compEnvC scope cl C env))) (TurnT h₀ L m { s with heap := h, toks := tk } I oI C oC D (lst ys) fun ok nx' => ∃ o', SrcIs o' ∧ nx' = upd o') NoErr { s with heap := h, toks := tk })
    (fin : ∀ g ys sel o, SrcIs o → sel.Sublist ns → IntsAre ys (nat sel) → Fin { s with heap := g } ys (upd o)) :
    CompSrcT prog w A h₀ L m env ct (.Name x xp) x scope cl Fin (.ref ax) s := by
  have hl := hi.length
  rw [nat_len] at hl
  have hl2 : vs.toArray.size = ns.length := (List.size_toArray ..).trans hl
  refine .inl ⟨ax, _, upd o, rfl, hh, F, N, .inr ⟨_, hax o, rfl, _, rfl⟩, by rw [hl2, PySem.sizeLine_eq]; omega, ?_⟩
  rintro s₂ ⟨g, rfl⟩
  have hP : ∀ (i : Nat) (v : Value), vs.toArray[i]? = some v → ∃ j t, ns[i]? = some j ∧ v = Value.int (j : Int) t := fun i v hv => by
    have hv' : vs[i]? = some v := by simpa using hv
    have hlt : i < ns.length := by rw [← hl]; exact (List.getElem?_eq_some_iff.mp hv').1
    obtain ⟨t, ht⟩ := hi.get i (ns[i] : Int) (by unfold nat; simp [hlt])
    rw [hv'] at ht
    cases ht
    exact ⟨_, t, by simp [hlt], rfl⟩
  refine comp_J (n := vs.toArray.size) (fun i => ((ns.getD i 0 : Nat) : Int)) (fun i l nx => ∃ o sel, SrcIs o ∧ nx = upd o ∧ l = nat sel ∧ sel.Sublist (ns.take i)) (fun i l nx h => by obtain ⟨o, _, _, rfl, _⟩ := h; exact .inr ⟨_, hax o, rfl, _, rfl⟩) ?_ ?_ ?_ _ 0 [] [] (upd o) (by k_extra "om") ⟨o, [], ho, rfl, rfl, List.nil_sublist _⟩ .nil
  · rintro i v I oI C oC D m₂ ys l nx h tk hlt hv ⟨o1, sel, ho1, rfl, rfl, hsel⟩ hy hC hx F' N' n1 n2 n3 off
    obtain ⟨j, t, hj, rfl⟩ := hP i v hv
    refine wpAny_mono (turn j t I oI C oC D m₂ ys h tk o1 ho1 (List.mem_of_getElem? hj) hC hx F' N' n1 n2 n3 off) (fun ok s' hq => ?_) fun _ _ e => e
    obtain ⟨h', tk', nx', e, F'', N'', off', o2, ho2, rfl⟩ := hq
    refine ⟨h', tk', _, e, F'', N'', off', o2, sel ++ (if ok = true then [ns.getD i 0] else []), ho2, rfl, ?_, ?_⟩
    · cases ok
      · simp
      · simp [nat]
    · rw [List.take_add_one, hj, List.getD_eq_getElem?_getD, hj]
      cases ok
      · simpa using hsel.trans (List.sublist_append_left _ _)
      · exact hsel.append (List.Sublist.refl _)
  · rintro i v I oI C oC D m₂ ys l nx h tk hlt hv _ hC hx F' N'
    obtain ⟨j, t, hj, rfl⟩ := hP i v hv
    refine LCgL.ld_own N' (.tail _ (.head _)) hC hx ⟨⟨t, ?_⟩, h, tk, rfl, F', N'⟩ ?_ ?_ hxd
    · rw [List.getD_eq_getElem?_getD, hj]; rfl
    · exact hk
    · exact lookup_relabel_local hxl
  · rintro ys l nx ⟨o1, sel, ho1, rfl, rfl, hsel⟩ hy
    rw [hl2, List.take_length] at hsel
    exact fin g ys sel o1 ho1 hsel hy
end
inductive LawJ (w : World) (gg : Heap) (L : Nat) (src ev nml tsl t f : Addr) (T : List Row) (vsE : List Value) (nE : Nat) (m : Str → Option Value) (nx : List (Addr × Obj)) : Prop
  | mk (o oS oT oN oX oD : Obj) (ps : Array Value) (lx : List (Addr × Obj)) (vsN vsT : List Value) (e1 : m (Str.ofString "tests") = some (.ref tsl)) (e2 : m (Str.ofString "names") = some (.ref nml)) (e3 : m (Str.ofString "every") = some (.ref ev)) (e4 : m (Str.ofString "value_of") = some (.ref f)) (e5 : nx = (src, o) :: (L + 1 + 1 + 1 + 1 + 1, oD) :: (L + 1 + 1 + 1 + 1, oX) :: (L + 1 + 1 + 1, oN) :: (L + 1 + 1, oT) :: (L + 1, oS) :: (191, tabObj ps) :: (ev, listOf (List.toArray vsE) nE) :: (nml, listOf (List.toArray vsN) 0) :: (tsl, listOf (List.toArray vsT) 0) :: lx) (e6 : SrcIs o) (e7 : oS.data = .cell (some (.ref src))) (e8 : oT.data = .cell (some (.ref t))) (e9 : (∃ v, oN.data = .cell v)) (e10 : (∃ v, oX.data = .cell v)) (e11 : (∃ v, oD.data = .cell v)) (e12 : vsN.length = 7) (e13 : vsT.length = 6) (e14 : (∀ (r : Nat) v, vsN[r]? = some v → ∃ (ax : Ax) (t : Tok), v = .str ax.str t)) (e15 : (∀ (r : Nat) v, vsT[r]? = some v → ∃ (a : Addr) (ts : Ts), v = .ref a ∧ ∀ h2, Held lx h2 → TestAt h2 a ts)) (e16 : (∀ h2, Held lx h2 → TreeAt w h2 t T)) (e17 : (∀ h2, Held lx h2 → FnV w h2 f t)) (e18 : (∀ h2 m2, Fr gg L h2 m2 → Held ((191, tabObj ps) :: lx) h2 → TabIn h2 191 161 29 lamQ)) (e19 : (∃ p5, ((501 : Addr), tabObj p5) ∈ lx)) (e20 : (∀ q ∈ lx, @Ne Nat q.1 src)) (e21 : (∀ q ∈ lx, @Ne Nat q.1 (L + 1 + 1 + 1 + 1 + 1))) (e22 : (∀ q ∈ lx, @Ne Nat q.1 (L + 1 + 1 + 1 + 1))) (e23 : (∀ q ∈ lx, @Ne Nat q.1 (L + 1 + 1 + 1))) (e24 : (∀ q ∈ lx, @Ne Nat q.1 191)) : LawJ w gg L src ev nml tsl t f T vsE nE m nx
theorem reord_all {α : Type} {X : α → Prop} {a0 d0 d1 d2 d3 d4 d5 a1 a2 a3 a4 c5 c4 c3 c2 c1 t5 t1 ra : α} {ld : List α} (N : ∀ p ∈ a0 :: d0 :: d1 :: d2 :: d3 :: d4 :: d5 :: a1 :: a2 :: a3 :: a4 :: c5 :: c4 :: c3 :: c2 :: c1 :: t5 :: t1 :: ra :: ld, X p) :
    ∀ p ∈ a4 :: c5 :: c4 :: c3 :: c2 :: c1 :: t1 :: a3 :: a1 :: a0 :: d0 :: d1 :: d2 :: d3 :: d4 :: d5 :: t5 :: ld, X p :=
  List.forall_mem_cons.mpr ⟨N _ (.tail _ (.tail _ (.tail _ (.tail _ (.tail _ (.tail _ (.tail _ (.tail _ (.tail _ (.tail _ (.head _))))))))))), List.forall_mem_cons.mpr ⟨N _ (.tail _ (.tail _ (.tail _ (.tail _ (.tail _ (.tail _ (.tail _ (.tail _ (.tail _ (.tail _ (.tail _ (.head _)))))))))))), List.forall_mem_cons.mpr ⟨N _ (.tail _ (.tail _ (.tail _ (.tail _ (.tail _ (.tail _ (.tail _ (.tail _ (.tail _ (.tail _ (.tail _ (.tail _ (.head _))))))))))))), List.forall_mem_cons.mpr ⟨N _ (.tail _ (.tail _ (.tail _ (.tail _ (.tail _ (.tail _ (.tail _ (.tail _ (.tail _ (.tail _ (.tail _ (.tail _ (.tail _ (.head _)))))))))))))), List.forall_mem_cons.mpr ⟨N _ (.tail _ (.tail _ (.tail _ (.tail _ (.tail _ (.tail _ (.tail _ (.tail _ (.tail _ (.tail _ (.tail _ (.tail _ (.tail _ (.tail _ (.head _))))))))))))))), List.forall_mem_cons.mpr ⟨N _ (.tail _ (.tail _ (.tail _ (.tail _ (.tail _ (.tail _ (.tail _ (.tail _ (.tail _ (.tail _ (.tail _ (.tail _ (.tail _ (.tail _ (.tail _ (.head _)))))))))))))))), List.forall_mem_cons.mpr ⟨N _ (.tail _ (.tail _ (.tail _ (.tail _ (.tail _ (.tail _ (.tail _ (.tail _ (.tail _ (.tail _ (.tail _ (.tail _ (.tail _ (.tail _ (.tail _ (.tail _ (.tail _ (.head _)))))))))))))))))), List.forall_mem_cons.mpr ⟨N _ (.tail _ (.tail _ (.tail _ (.tail _ (.tail _ (.tail _ (.tail _ (.tail _ (.tail _ (.head _)))))))))), List.forall_mem_cons.mpr ⟨N _ (.tail _ (.tail _ (.tail _ (.tail _ (.tail _ (.tail _ (.tail _ (.head _)))))))), List.forall_mem_cons.mpr ⟨N _ (.head _), List.forall_mem_cons.mpr ⟨N _ (.tail _ (.head _)), List.forall_mem_cons.mpr ⟨N _ (.tail _ (.tail _ (.head _))), List.forall_mem_cons.mpr ⟨N _ (.tail _ (.tail _ (.tail _ (.head _)))), List.forall_mem_cons.mpr ⟨N _ (.tail _ (.tail _ (.tail _ (.tail _ (.head _))))), List.forall_mem_cons.mpr ⟨N _ (.tail _ (.tail _ (.tail _ (.tail _ (.tail _ (.head _)))))), List.forall_mem_cons.mpr ⟨N _ (.tail _ (.tail _ (.tail _ (.tail _ (.tail _ (.tail _ (.head _))))))), List.forall_mem_cons.mpr ⟨N _ (.tail _ (.tail _ (.tail _ (.tail _ (.tail _ (.tail _ (.tail _ (.tail _ (.tail _ (.tail _ (.tail _ (.tail _ (.tail _ (.tail _ (.tail _ (.tail _ (.head _))))))))))))))))), fun p hp => N p (.tail _ (.tail _ (.tail _ (.tail _ (.tail _ (.tail _ (.tail _ (.tail _ (.tail _ (.tail _ (.tail _ (.tail _ (.tail _ (.tail _ (.tail _ (.tail _ (.tail _ (.tail _ (.tail _ hp)))))))))))))))))))⟩⟩⟩⟩⟩⟩⟩⟩⟩⟩⟩⟩⟩⟩⟩⟩⟩
theorem reord {g h : Heap} {L : Addr} {a0 d0 d1 d2 d3 d4 d5 a1 a2 a3 a4 c5 c4 c3 c2 c1 t5 t1 ra : Addr × Obj} {ld : List (Addr × Obj)} (N : News g L h (a0 :: d0 :: d1 :: d2 :: d3 :: d4 :: d5 :: a1 :: a2 :: a3 :: a4 :: c5 :: c4 :: c3 :: c2 :: c1 :: t5 :: t1 :: ra :: ld)) :
   ∃ lx, lx = d0 :: d1 :: d2 :: d3 :: d4 :: d5 :: t5 :: ld ∧ News g L h (a4 :: c5 :: c4 :: c3 :: c2 :: c1 :: t1 :: a3 :: a1 :: a0 :: lx) :=
  ⟨_, rfl, reord_all N⟩
theorem pick_axis {t0 t1 t2 t3 t4 t5 t6 : Tok} {vs : List Value} (e : vs = [.str (Str.ofString "child") t0, .str (Str.ofString "descendant") t1, .str (Str.ofString "ancestor-or-self") t2, .str (Str.ofString "preceding") t3, .str (Str.ofString "following") t4, .str (Str.ofString "attribute") t5, .str (Str.ofString "preceding-sibling") t6]) (r : Nat) (v : Value) (h : vs[r]? = some v) : ∃ (ax : Ax) (t : Tok), v = .str ax.str t := by
  subst e
  match r, h with
  | 0, h => cases h; exact ⟨.child, _, rfl⟩
  | 1, h => cases h; exact ⟨.descendant, _, rfl⟩
  | 2, h => cases h; exact ⟨.ancestorOrSelf, _, rfl⟩
  | 3, h => cases h; exact ⟨.preceding, _, rfl⟩
  | 4, h => cases h; exact ⟨.following, _, rfl⟩
  | 5, h => cases h; exact ⟨.attribute, _, rfl⟩
  | 6, h => cases h; exact ⟨.precedingSibling, _, rfl⟩
  | n + 7, h => simp at h
theorem pick_test {P : Addr → Ts → Prop} {b0 b1 b2 b3 b4 b5 : Addr} {vs : List Value} (e : vs = [.ref b0, .ref b1, .ref b2, .ref b3, .ref b4, .ref b5]) (k0 : P b0 .node) (k1 : P b1 .any) (k2 : P b2 .nameA) (k3 : P b3 .nameK) (k4 : P b4 .text) (k5 : P b5 .comment) (r : Nat) (v : Value) (h : vs[r]? = some v) : ∃ (a : Addr) (ts : Ts), v = .ref a ∧ P a ts := by
  subst e
  match r, h with
  | 0, h => cases h; exact ⟨_, .node, rfl, k0⟩
  | 1, h => cases h; exact ⟨_, .any, rfl, k1⟩
  | 2, h => cases h; exact ⟨_, .nameA, rfl, k2⟩
  | 3, h => cases h; exact ⟨_, .nameK, rfl, k3⟩
  | 4, h => cases h; exact ⟨_, .text, rfl, k4⟩
  | 5, h => cases h; exact ⟨_, .comment, rfl, k5⟩
  | n + 6, h => simp at h
theorem list_ne_cell {g h : Heap} {L : Addr} {news : List (Addr × Obj)} (N : News g L h news) {a c : Addr} {its : Array Value} {n : Nat} {oc : Obj} {v : Option Value} (h1 : (a, listOf its n) ∈ news) (h2 : (c, oc) ∈ news) (hd : oc.data = .cell v) : @Ne Nat a c :=
  news_differ N h1 h2 fun e => by rw [← e] at hd; cases hd
theorem repack {g h : Heap} {L : Addr} {news news' : List (Addr × Obj)} (N : News g L h news) (k : ∀ p ∈ news', p ∈ news) : News g L h news' := fun p hp => N p (k p hp)
section
variable {prog : Program} {w : World} {A : Around} {E : Value → Shared → Prop} {s : Shared} {env : Env} {g : Heap} {x : Str} {body : List Stmt} {Q : Flow → Shared → Prop}
end
theorem fld_ne {g h : Heap} {L : Addr} {news : List (Addr × Obj)} (N : News g L h news) {lc : List (Addr × Obj)} (hs : ∀ q ∈ lc, q ∈ news) (hf : ∀ q ∈ lc, Fld q.2) {c : Addr} {oc : Obj} (h2 : (c, oc) ∈ news) (hd : ¬ Fld oc) : ∀ q ∈ lc, @Ne Nat q.1 c := fun q hq =>
  news_differ N (o := q.2) (hs q hq) h2 fun e => hd (e ▸ hf q hq)
theorem cell_nf {o : Obj} {v : Option Value} (h : o.data = .cell v) : ¬ Fld o := fun ⟨fv, q, t, h1, _⟩ => by rw [h] at h1; cases h1
theorem src_nf {o : Obj} (h : SrcIs o) : ¬ Fld o := fun ⟨fv, q, t, h1, _⟩ => by obtain ⟨_, _, _, _, _, rfl, _⟩ := h; cases h1
theorem any_nat (R : List Nat) (j : Nat) : ((nat R).any fun x => x == (j : Int)) = R.contains j := by
  induction R with
  | nil => rfl
  | cons x r ih =>
    show (((x : Int) == (j : Int)) || (nat r).any fun x => x == (j : Int)) = _
    rw [ih, List.contains_cons]
    have : ((x : Int) == (j : Int)) = (j == x) := by
      by_cases h : x = j
      · subst h; rw [beq_self_eq_true, beq_self_eq_true]
      · have h' : (x : Int) ≠ (j : Int) := by omega
        rw [beq_eq_false_iff_ne.mpr h', beq_eq_false_iff_ne.mpr (Ne.symm h)]
    rw [this]
theorem comp_sel2 {prog : Program} {w : World} {A : Around} {h₀ : Heap} {L : Addr} {m : Str → Option Value} {env : Env} {ct : PySem.Expr} {x : Str} {xp : Pos} {scope : Scope} {cl : List (Str × Addr)} {s : Shared} {Fin : Shared → List Value → List (Addr × Obj) → Prop}
    {ax src : Addr} {vs : List Value} {ns : List Nat} {nv : Nat} {o : Obj} {a : Addr × Obj} {rest : List (Addr × Obj)} (hh : A.handled = none) (F : Fr h₀ L s.heap m) (N : News h₀ L s.heap (a :: (src, o) :: rest)) (ho : SrcIs o) (hax : (ax, listOf (List.toArray vs) nv) ∈ rest) (hi : IntsAre vs (nat ns)) (hsz : ns.length ≤ 10000)
    (hk : scope.kind = .function) (hxl : scope.names.lookup x = some .local) (hxd : (x == ("__debug__" : Str)) = false)
    (turn : ∀ j t I oI C oC D m₂ ys h tk o, SrcIs o → j ∈ ns → LCg.NsObj oC m₂ → m₂ x = some (.int (j : Int) t) → Fr h₀ L h m → News h₀ L h ((I, oI) :: (C, oC) :: (D, LCg.lst ys) :: a :: (src, o) :: rest) → (@Ne Nat I C) → (@Ne Nat I D) → (@Ne Nat C D) → (∀ q ∈ a :: (src, o) :: rest, @Ne Nat q.1 I ∧ @Ne Nat q.1 C ∧ @Ne Nat q.1 D) →
      wpAny (model prog w) A (isTrue ct (compEnvC scope cl C env) (eval ct (compEnvC scope cl C env))) (TurnT h₀ L m { s with heap := h, toks := tk } I oI C oC D (LCg.lst ys) fun ok nx' => ∃ o', SrcIs o' ∧ nx' = a :: (src, o') :: rest) NoErr { s with heap := h, toks := tk })
    (fin : ∀ g ys sel o, SrcIs o → sel.Sublist ns → IntsAre ys (nat sel) → Fin { s with heap := g } ys (a :: (src, o) :: rest)) :
    LCt.CompSrcT prog w A h₀ L m env ct (.Name x xp) x scope cl Fin (.ref ax) s :=
  comp_sel (fun o => a :: (src, o) :: rest) hh F N ho (fun _ => .tail _ (.tail _ hax)) hi hsz hk hxl hxd turn fin
theorem step_init_C {w : World} {A : Around} {s : Shared} {g : Heap} {x dx : Addr} {v1 v2 v3 : Value}
   (H : On w A g s.heap [x, dx] 6 100) (hx : s.heap.get? x = some (instObj 460 dx)) (hdx : s.heap.get? dx = some (dictOf [] 0)) (hlt : @LT.lt Nat _ dx x) :
   codeAny (model prg w) A (.call (.ref 450) ⟨[.ref x, v1, v2, v3], []⟩) (BackR g s fun v h' => v = .none ∧ ∃ t1 t2 t3 n, h'.get? x = some (instObj 460 dx) ∧ h'.get? dx = some (dictOf [⟨PyData.keyHash w.params (Str.ofString "axis"), .str (Str.ofString "axis") t1, v1⟩, ⟨PyData.keyHash w.params (Str.ofString "test"), .str (Str.ofString "test") t2, v2⟩, ⟨PyData.keyHash w.params (Str.ofString "predicates"), .str (Str.ofString "predicates") t3, v3⟩] n)) s := by
  refine' enterGC (binds := [(Str.ofString "self", .ref x), (Str.ofString "axis", v1), (Str.ofString "test", v2), (Str.ofString "predicates", v3)]) [(x, instObj 460 dx), (dx, dictOf [] 0)] H (by k_extra "om") (by k_extra "om") ?hown (by k_is) (by k_is) (BindsTo.of_eq rfl) (locs rfl) ?_ (by decide) rfl rfl rfl
  case hown =>
    intro p hp
    refine hidP fun P9 k9 => ?_
    rcases List.mem_cons.mp hp with rfl | hp <;> (refine k9 ?_; clear k9 P9)
    · exact ⟨hx, .head _⟩
    · rw [List.mem_singleton.mp hp]; exact ⟨hdx, .tail _ (.head _)⟩
  intro h₁ gn9 dr9 os9 A9 L9 tk9 pr9 loose9 mean9 mg9 mb9 F' N' lo' X' T' C' hroom hun K9 hK9
  (try dsimp only)
  clear lo'
  k_steps
  rename Fr _ _ _ _ => F4
  rename News _ _ _ _ => N4
  exact endN hK9 F4 ⟨rfl, _, _, _, _, (N4 (x, _) (by k_mem)).1, (N4 (dx, _) (by k_mem)).1⟩
theorem step_new_U {w : World} {A : Around} {s : Shared} {h₀ : Heap} {L : Addr} {news : List (Addr × Obj)} {m : Str → Option Value} {dp un : Nat} {Q E : Value → Shared → Prop} {v1 v2 v3 : Value}
   (C : Callee w A h₀ L dp un) (F : Fr h₀ L s.heap m) (N : News h₀ L s.heap news) (X : (hd.heap_1 w.params).In h₀) (hd' : 7 ≤ dp) (hu : 102 ≤ un)
   (kk : ∀ x dx t1 t2 t3 n h' tk', Fr h₀ L h' m → News h₀ L h' ((x, instObj 460 dx) :: (dx, dictOf [⟨PyData.keyHash w.params (Str.ofString "axis"), .str (Str.ofString "axis") t1, v1⟩, ⟨PyData.keyHash w.params (Str.ofString "test"), .str (Str.ofString "test") t2, v2⟩, ⟨PyData.keyHash w.params (Str.ofString "predicates"), .str (Str.ofString "predicates") t3, v3⟩] n) :: news) →
     Dlt dx (news.map (·.1)) → @LT.lt Nat _ dx x → Q (.ref x) { s with heap := h', toks := tk' }) :
   wpAny (model prg w) A (call (.ref 460) [v1, v2, v3]) Q E s := by
  refine cls_new (fun x dx h1 h' => ∃ t1 t2 t3 n, h'.get? x = some (instObj 460 dx) ∧ h'.get? dx = some (dictOf [⟨PyData.keyHash w.params (Str.ofString "axis"), .str (Str.ofString "axis") t1, v1⟩, ⟨PyData.keyHash w.params (Str.ofString "test"), .str (Str.ofString "test") t2, v2⟩, ⟨PyData.keyHash w.params (Str.ofString "predicates"), .str (Str.ofString "predicates") t3, v3⟩] n)) C F N X (by k_is) (by k_is) (by k_is) hd' hu (fun A' g' s' x dx H hx hdx hlt => step_init_C H hx hdx hlt) fun x dx h1 h' tk' F' N' hf hdl hlt hP => ?_
  obtain ⟨t1, t2, t3, n, e1, e2⟩ := hP
  refine kk x dx t1 t2 t3 n h' tk' F' (fun p hp => ?_) (dlt_of hdl) hlt
  rcases List.mem_cons.mp hp with rfl | hp
  · exact ledger_new F (hf _ (.inl rfl)) e1
  rcases List.mem_cons.mp hp with rfl | hp
  · exact ledger_new F (hf _ (.inr (.inl rfl))) e2
  · exact N' p hp
example : True := by w_top off; trivial
example : True := by
  (k_with "call ref" => (k_here; (with_reducible show wpAny _ _ (call (Value.ref 471) _) _ _ _); refine stop_out ?_))
  (k_with "call ref" => (k_here; (with_reducible show wpAny _ _ (call (Value.ref 478) _) _ _ _); refine stop_out ?_))
  (k_with "call ref" => (k_here; (with_reducible show wpAny _ _ (call (Value.ref 485) _) _ _ _); refine stop_out ?_))
  (k_with "call ref" => (k_here; (with_reducible show wpAny _ _ (call (Value.ref 492) _) _ _ _); refine stop_out ?_))
  (k_with "call ref" => (k_here; (with_reducible show wpAny _ _ (call (Value.ref 499) _) _ _ _); refine stop_out ?_))
  (k_with "call ref" => (k_here; (with_reducible show wpAny _ _ (call (Value.ref 506) _) _ _ _); refine stop_out ?_))
  (k_with "call ref" => (k_here; (with_reducible show wpAny _ _ (call (Value.ref 532) _) _ _ _); refine stop_out ?_))
  (k_with "call ref" => (k_here; (with_reducible show wpAny _ _ (call (Value.ref 525) _) _ _ _); refine stop_out ?_))
  (k_with "call ref" => (k_here; (with_reducible show wpAny _ _ (call (Value.ref 518) _) _ _ _); refine stop_out ?_))
  (k_with "call ref" => (k_here; (with_reducible show wpAny _ _ (call (Value.ref 140) _) _ _ _); refine stop_out ?_))
  (k_with "call ref" => (k_here; (with_reducible show wpAny _ _ (call (Value.ref 208) _) _ _ _); refine stop_out ?_))
  (k_with "call ref" => (k_here; (with_reducible show wpAny _ _ (call (Value.ref 213) _) _ _ _); refine stop_out ?_))
  (k_with "call ref" => (k_here; (with_reducible show wpAny _ _ (call (Value.ref 220) _) _ _ _); refine stop_out ?_))
  (k_with "pyIter ref" => ((with_reducible show wpAny _ _ (pyIter (Value.ref _)) (fun it s₂ => LoopAtV _ _ _ _ _ _ _ _ _ it s₂) _ _); k_here; refine stop_out ?_))
  (k_with "exec For Name Call cons nil" => (k_here; (with_unfolding_all refine' for_name (by assumption) (by exact rfl) (by exact rfl) ?_; k_whole)))
  (k_with "compareOp NotEq ref ref" => (k_here; refine stop_out ?_))
  (k_with "exec Assign cons ListComp" => (k_here; refine stop_out ?_))
  (k_with "subscriptTail Name Slice ref ref" => (k_here; refine stop_out ?_))
  (k_with "eval ListComp" => (k_here; refine stop_out ?_))
  (k_with "compareOp In int ref" => (k_here; refine stop_out ?_))
  (k_with "CompSrcT" => (k_here; refine stop_out ?_))
  (k_with "TurnT" => (k_here; refine stop_out ?_))
  (k_with "k_ne" => (refine neN ?_; (try dsimp only); first | with_reducible assumption | (refine Ne.symm ?_; with_reducible assumption) | (simp; done) | (refine Nat.ne_of_lt ?_; with_reducible assumption) | (refine Nat.ne_of_gt ?_; with_reducible assumption) | omega))
  (k_with "callWith ref" => (k_here; k_dflt (refine' callWith_K (by k_asm) (by k_is) ?_; k_whole)))
  (k_with "call ref" => (k_here; (with_reducible show wpAny _ _ (call (Value.ref 460) _) _ _ _); k_dflt (refine' step_new_U (by with_reducible assumption) (by k_asm) (by k_asm) (by k_asm) (by k_extra "om") (by k_extra "om") ?_); intro _ _ _ _ _ _ _ _ _ _ _ _; (try k_sweep)))
  (k_with "k_all" => with_reducible assumption)
  trivial
theorem law_try : PySem.Challenge.rw_nu0070_01.Holds := hd (by
  k_go0
  rename_i w s0 s1 mg mb G Y fa oF pm cd docV hoF hcdF hgF X8 V8 T8 B8 TE TW ns hs8 hlay8 hL8 hr8 hl28 w81 w82 scr vs w83 hLs ra w1 r0 hI hr9 hc1 hc2 hD h₁ tk₁ c5 c4 c3 c2 c1 d5 d4 d3 d2 d1 X0 X' T' K' F' codeA N' l0
  clear G Y hoF hcdF X8 V8 T8 B8 TE TW hs8 hlay8 hL8 hr8 hl28 ra w1 r0 hr9 hc2 hD X0 hT8 hT9
  refine with_callee (dp := 60) (un := 2000) K' X' T' rfl rfl (by decide) (by decide) fun A9 Q9 C' hun9 hQ9 => ?_
  have lq1 : @LT.lt Nat _ 501 s1.heap.objs.size := l0 _ (.head _)
  have lq2 : @LT.lt Nat _ 191 s1.heap.objs.size := l0 _ (.tail _ (.head _))
  clear l0
  have e5 : c5.data = .cell none := by with_unfolding_all exact d5
  have e4 : c4.data = .cell none := by with_unfolding_all exact d4
  have e3 : c3.data = .cell none := by with_unfolding_all exact d3
  have e2 : c2.data = .cell none := by with_unfolding_all exact d2
  have e1 : c1.data = .cell none := by with_unfolding_all exact d1
  clear d5 d4 d3 d2 d1
  generalize hgg : ghostOf s1.heap [(505, 501), (193, 191)] = gg at *
  generalize hsz : s1.heap.objs.size = L at *
  have F2 : Fr gg L h₁ (fun y => if y = Str.ofString "script" then some (.ref scr) else none) := by with_unfolding_all exact F'
  clear F'
  k_steps
  rename Fr _ _ _ _ => F0
  rename News _ _ _ _ => N0
  refine Stop.in (pool_U C' F0 N0 (by obtain ⟨o, e, r⟩ := lifted; exact ⟨o, F0.keep _ _ e, r⟩) hI (by k_extra "om") (by k_extra "om") (by k_extra "om") ?_)
  intro src o h2 tk2 F2 N2 dis2 ho
  clear F0 N0 lifted hI hLs hc1
  simp only [List.forall_mem_cons, List.forall_mem_nil, and_true, List.not_mem_nil, false_implies, implies_true, forall_const] at dis2
  obtain ⟨n5, n4, n3, n2, n1, n501, n191⟩ := dis2
  k_steps
  rename Fr _ _ _ _ => F0
  rename News _ _ _ _ => N0
  refine Stop.in (tree_U rfl C' F0 N0 (by k_updF) ho (by k_extra "om") (by k_extra "om") ?_)
  intro ra t dt rl tkr nr led qs T o3 h3 tk3 F3 N3 ho3 dis3 dis4 dra TL G
  clear F0 N0 ho
  simp only [List.forall_mem_cons, List.forall_mem_nil, and_true, List.not_mem_nil, false_implies, implies_true, forall_const] at dis3 dis4
  (try dsimp only [List.cons_append, List.nil_append] at N3)
  obtain ⟨r0, r5, r4, r3, r2, r1, r501, r191⟩ := dis3
  obtain ⟨l0s, l5, l4, l3, l2, l1, l501, l191⟩ := dis4
  k_steps
  rename Fr _ _ _ _ => F0
  rename News _ _ _ _ => N0
  have W := G.wf
  have hlen := G.len
  have hT0 := G.pos
  have hTL : ∀ h2, Held led h2 → TreeAt w h2 t T := fun h2 hh => ⟨dt, rl, qs, (TL.tn h2 hh).e⟩
  clear TL
  refine Stop.in (useL (walked_all 12 _ _ _ _ _ _ tkr (C'.at F0 (by k_extra "om") (by k_extra "om")) W (hTL _ fun p hp => (N0 p (by repeat (first | exact hp | refine List.Mem.tail _ ?_))).1) hT0 (by k_extra "om")) F0 N0 ?_)
  intro ev vsE nE h4 tk4 F4 N4 disE hiE
  simp only [List.forall_mem_cons, List.forall_mem_nil, and_true, List.not_mem_nil, false_implies, implies_true, forall_const] at disE
  clear F0 N0
  k_steps
  obtain ⟨v0s, v5, v4, v3, v2, v1, v501, v191, vra, vld⟩ := disE
  rename Fr _ _ _ _ => F0
  rename News _ _ _ _ => N0
  refine Stop.in (value_U C' F0 N0 (by k_updF) codeA (by k_extra "om") (by k_extra "om") ?_)
  intro f ldv ps5 h5 tk5 F5 N5 disV hFn
  simp only [List.forall_mem_cons] at disV
  obtain ⟨we, w0s, w5, w4, w3, w2, w1, w501, w191, wra, wld⟩ := disV
  (try dsimp only [List.cons_append, List.nil_append] at N5)
  have z0s := app_ne l0s w0s
  have z5 := app_ne l5 w5
  have z4 := app_ne l4 w4
  have z3 := app_ne l3 w3
  have z2 := app_ne l2 w2
  have z1 := app_ne l1 w1
  have z191 := app_ne l191 w191
  have ze := app_ne vld we
  have hTL2 : ∀ h2, Held (led ++ ldv) h2 → TreeAt w h2 t T := fun h2 hh => hTL h2 (held_l hh)
  have hFn2 : ∀ h2, Held (led ++ ldv) h2 → FnV w h2 f t := fun h2 hh => hFn h2 (held_r hh)
  clear F0 N0 hTL hFn l0s l5 l4 l3 l2 l1 l501 l191 w0s we w5 w4 w3 w2 w1 w501 w191 wld vld dra wra
  generalize led ++ ldv = ld at *
  k_steps
  rename Fr _ _ _ _ => F0
  rename News _ _ _ _ => N0
  rename_i nml _ lnm _ _ _ _ D5 _ lD5 D4 _ lD4 D3 _ lD3 D2 _ lD2 D1 _ lD1 D0 _ lD0 tsl _ lts _ _ _ _ _ _ _ _ hR up9
  simp only [Dlt, List.forall_mem_cons, List.forall_mem_map] at lnm lD5 lD4 lD3 lD2 lD1 lD0 lts
  have tr := G.root
  have tnm := lnm.2.2
  have tts := lts.2.2.2.2.2.2.2.2.2
  have tD5 := lD5.2.2.2
  have tD4 := lD4.2.2.2.2
  have tD3 := lD3.2.2.2.2.2
  have tD2 := lD2.2.2.2.2.2.2
  have tD1 := lD1.2.2.2.2.2.2.2
  have tD0 := lD0.2.2.2.2.2.2.2.2
  obtain ⟨lx, hlx, N1⟩ := reord N0
  clear N0
  refine Stop.in (for_rngF (n := 2) (fun _ => LawJ w gg L src ev nml tsl t f T vsE nE) rfl hR (by k_extra "om") F0 N1 ?_ ?_ ?_)
  · exact ⟨_, _, _, _, _, _, _, lx, _, _, rfl, rfl, rfl, rfl, rfl, ho3, by with_reducible assumption, by with_reducible assumption, ⟨_, e3⟩, ⟨_, e4⟩, ⟨_, e5⟩, rfl, rfl, pick_axis rfl, pick_test rfl
    (fun h2 hh => by rw [hlx] at hh; exact ⟨_, _, hh _ (.tail _ (.tail _ (.tail _ (.tail _ (.tail _ (.head _)))))), .cons .nil⟩) (fun h2 hh => by rw [hlx] at hh; exact ⟨_, _, hh _ (.tail _ (.tail _ (.tail _ (.tail _ (.head _))))), .cons .nil⟩) (fun h2 hh => by rw [hlx] at hh; exact ⟨_, _, hh _ (.tail _ (.tail _ (.tail _ (.head _)))), .cons (.cons (.cons .nil))⟩) (fun h2 hh => by rw [hlx] at hh; exact ⟨_, _, hh _ (.tail _ (.tail _ (.head _))), .cons (.cons (.cons .nil))⟩) (fun h2 hh => by rw [hlx] at hh; exact ⟨_, _, hh _ (.tail _ (.head _)), .cons .nil⟩) (fun h2 hh => by rw [hlx] at hh; exact ⟨_, _, hh _ (.head _), .cons .nil⟩),
    fun h2 hh => hTL2 h2 fun p hp => hh p (by rw [hlx]; exact .tail _ (.tail _ (.tail _ (.tail _ (.tail _ (.tail _ (.tail _ hp))))))), fun h2 hh => hFn2 h2 fun p hp => hh p (by rw [hlx]; exact .tail _ (.tail _ (.tail _ (.tail _ (.tail _ (.tail _ (.tail _ hp))))))), fun h2 m2 F2 hh => ⟨#[], hh _ (.head _), .inl rfl⟩,
    ⟨ps5, by rw [hlx]; exact .tail _ (.tail _ (.tail _ (.tail _ (.tail _ (.tail _ (.head _))))))⟩,
    hlx ▸ List.forall_mem_cons.mpr ⟨Nat.ne_of_gt (tD0.1), List.forall_mem_cons.mpr ⟨Nat.ne_of_gt (tD1.1), List.forall_mem_cons.mpr ⟨Nat.ne_of_gt (tD2.1), List.forall_mem_cons.mpr ⟨Nat.ne_of_gt (tD3.1), List.forall_mem_cons.mpr ⟨Nat.ne_of_gt (tD4.1), List.forall_mem_cons.mpr ⟨Nat.ne_of_gt (tD5.1), List.forall_mem_cons.mpr ⟨n501, z0s⟩⟩⟩⟩⟩⟩⟩, hlx ▸ List.forall_mem_cons.mpr ⟨Nat.ne_of_gt (tD0.2.1), List.forall_mem_cons.mpr ⟨Nat.ne_of_gt (tD1.2.1), List.forall_mem_cons.mpr ⟨Nat.ne_of_gt (tD2.2.1), List.forall_mem_cons.mpr ⟨Nat.ne_of_gt (tD3.2.1), List.forall_mem_cons.mpr ⟨Nat.ne_of_gt (tD4.2.1), List.forall_mem_cons.mpr ⟨Nat.ne_of_gt (tD5.2.1), List.forall_mem_cons.mpr ⟨(by k_extra "om"), z5⟩⟩⟩⟩⟩⟩⟩, hlx ▸ List.forall_mem_cons.mpr ⟨Nat.ne_of_gt (tD0.2.2.1), List.forall_mem_cons.mpr ⟨Nat.ne_of_gt (tD1.2.2.1), List.forall_mem_cons.mpr ⟨Nat.ne_of_gt (tD2.2.2.1), List.forall_mem_cons.mpr ⟨Nat.ne_of_gt (tD3.2.2.1), List.forall_mem_cons.mpr ⟨Nat.ne_of_gt (tD4.2.2.1), List.forall_mem_cons.mpr ⟨Nat.ne_of_gt (tD5.2.2.1), List.forall_mem_cons.mpr ⟨(by k_extra "om"), z4⟩⟩⟩⟩⟩⟩⟩, hlx ▸ List.forall_mem_cons.mpr ⟨Nat.ne_of_gt (tD0.2.2.2.1), List.forall_mem_cons.mpr ⟨Nat.ne_of_gt (tD1.2.2.2.1), List.forall_mem_cons.mpr ⟨Nat.ne_of_gt (tD2.2.2.2.1), List.forall_mem_cons.mpr ⟨Nat.ne_of_gt (tD3.2.2.2.1), List.forall_mem_cons.mpr ⟨Nat.ne_of_gt (tD4.2.2.2.1), List.forall_mem_cons.mpr ⟨Nat.ne_of_gt (tD5.2.2.2.1), List.forall_mem_cons.mpr ⟨(by k_extra "om"), z3⟩⟩⟩⟩⟩⟩⟩, hlx ▸ List.forall_mem_cons.mpr ⟨Nat.ne_of_gt (tD0.2.2.2.2.2.2.2.1), List.forall_mem_cons.mpr ⟨Nat.ne_of_gt (tD1.2.2.2.2.2.2.2.1), List.forall_mem_cons.mpr ⟨Nat.ne_of_gt (tD2.2.2.2.2.2.2.2.1), List.forall_mem_cons.mpr ⟨Nat.ne_of_gt (tD3.2.2.2.2.2.2.2.1), List.forall_mem_cons.mpr ⟨Nat.ne_of_gt (tD4.2.2.2.2.2.2.2.1), List.forall_mem_cons.mpr ⟨Nat.ne_of_gt (tD5.2.2.2.2.2.2.2.1), List.forall_mem_cons.mpr ⟨(show (501 : Nat) ≠ 191 by decide), z191⟩⟩⟩⟩⟩⟩⟩⟩
  all_goals clear hlx hTL2 hFn2 z0s z5 z4 z3 z2 z1 z191 ze lts lnm lD5 lD4 lD3 lD2 lD1 lD0 tD5 tD4 tD3 tD2 tD1 tD0 e5 e4 e3 e2 e1 F0 N1 hR
  · rintro i tt m nx h tk I oI hfI hi ⟨o, oS, oT, oN, oX, oD, ps, lx, vsN, vsT, m1, m2, m3, m4, rfl, ho, dS, dT, ⟨yN, dN⟩, ⟨yX, dX⟩, ⟨yD, dD⟩, lnN, lnT, hN, hX, hTr, hFn, hTab, ⟨p5, m5⟩, u_s, u_5, u_4, u_3, u_191⟩ hne F1 N2
    have hne0 := hne
    simp only [List.forall_mem_cons] at hne
    obtain ⟨i_s, i_5, i_4, i_3, i_2, i_1, i_191, i_ev, i_nm, i_ts, i_lx⟩ := hne
    have F2 := know (know (know (know F1 ((if_neg (by decide)).trans m1)) ((if_neg (by decide)).trans ((if_neg (by decide)).trans m2))) ((if_neg (by decide)).trans ((if_neg (by decide)).trans ((if_neg (by decide)).trans m3)))) ((if_neg (by decide)).trans ((if_neg (by decide)).trans ((if_neg (by decide)).trans ((if_neg (by decide)).trans m4))))
    clear F1
    have hvE : vsE.length = (Mine.doc T 0).length := by rw [hiE.length, nat_len]
    have hdl := doc_len W hT0
    have hd0 : 0 < (Mine.doc T 0).length := by rw [doc_eq W]; exact Nat.succ_pos _
    k_steps
    rename Fr _ _ _ _ => F3
    rename News _ _ _ _ => N3
    refine Stop.in (one_U C' F3 N3 (by k_updF) ho (N3 (ev, listOf (List.toArray vsE) nE) (by k_mem)).1 (Ne.symm v0s) (by k_extra "om") (by k_extra "om") (by k_extra "om") (by k_extra "om") ?_)
    intro r1 w1 o1 h1 tk1 hr1 ho1 F4 N4
    (try dsimp only at N4)
    clear F3 N3 ho
    have hrl : r1 < (Mine.doc T 0).length := by rw [← hvE]; exact (List.getElem?_eq_some_iff.mp hr1).1
    obtain ⟨tx, htx⟩ := hiE.get r1 ((Mine.doc T 0)[r1] : Int) (by unfold nat; show ((Mine.doc T 0).map _)[r1]? = _; simp [hrl])
    rw [hr1] at htx
    cases htx
    have hj := List.getElem_mem hrl
    have hin := doc_in W _ 0 (Nat.le_refl _) hT0 _ hj
    generalize (Mine.doc T 0)[r1] = j at *
    k_steps
    rename Fr _ _ _ _ => F3
    rename News _ _ _ _ => N3
    refine Stop.in (one_U C' F3 N3 (by k_updF) ho1 (N3 (nml, listOf (List.toArray vsN) 0) (by k_mem)).1 (Nat.ne_of_gt tnm.1) (by k_extra "om") (by k_extra "om") (by k_extra "om") (by k_extra "om") ?_)
    intro r2 w2 o2 h2 tk2 hr2 ho2 F4 N4
    (try dsimp only at N4)
    clear F3 N3 ho1
    obtain ⟨ax, ta, rfl⟩ := hN r2 w2 hr2
    k_steps
    rename Fr _ _ _ _ => F3
    rename News _ _ _ _ => N3
    refine Stop.in (one_U C' F3 N3 (by k_updF) ho2 (N3 (tsl, listOf (List.toArray vsT) 0) (by k_mem)).1 (Nat.ne_of_gt tts.1) (by k_extra "om") (by k_extra "om") (by k_extra "om") (by k_extra "om") ?_)
    intro r3 w3 o3 h3 tk3 hr3 ho3 F4 N4
    (try dsimp only at N4)
    clear F3 N3 ho2
    obtain ⟨a, ts, rfl, hTst⟩ := hX r3 w3 hr3
    k_steps
    rename Fr _ _ _ _ => F3
    rename News _ _ _ _ => N3
    refine Stop.in (words_U C' F3 N3 (by k_updF) ho3 (by k_extra "om") (by k_extra "om") ?_)
    intro pw ldw ws o4 h4 tk4 F4 N4 ho4 disW hW hw0 hw3
    simp only [List.forall_mem_cons] at disW
    obtain ⟨-, jI, j_s, j_5, j_4, j_3, -, -, j_191, -, -, -, -⟩ := disW
    (try dsimp only [List.cons_append] at N4)
    clear F3 N3 ho3
    have y_s := app_ne u_s j_s
    have y_5 := app_ne u_5 j_5
    have y_4 := app_ne u_4 j_4
    have y_3 := app_ne u_3 j_3
    have y_191 := app_ne u_191 j_191
    have y_I := app_ne i_lx jI
    have hTr2 : ∀ h2, Held (lx ++ ldw) h2 → TreeAt w h2 t T := fun h2 hh => hTr h2 (held_l hh)
    have hFn2 : ∀ h2, Held (lx ++ ldw) h2 → FnV w h2 f t := fun h2 hh => hFn h2 (held_l hh)
    have hTst2 : ∀ h2, Held (lx ++ ldw) h2 → TestAt h2 a ts := fun h2 hh => hTst h2 (held_l hh)
    have hW2 : ∀ h2, Held (lx ++ ldw) h2 → WordsAt h2 pw ws := fun h2 hh => hW h2 (held_r hh)
    have hX2 : ∀ (r : Nat) v, vsT[r]? = some v → ∃ (a : Addr) (ts : Ts), v = .ref a ∧ ∀ h2, Held (lx ++ ldw) h2 → TestAt h2 a ts := fun r v e => let ⟨a, ts, e1, k⟩ := hX r v e; ⟨a, ts, e1, fun h2 hh => k h2 (held_l hh)⟩
    have hTab2 : ∀ h2 m2, Fr gg L h2 m2 → Held ((191, tabObj ps) :: (lx ++ ldw)) h2 → TabIn h2 191 161 29 lamQ := fun h2 m2 F hh => hTab h2 m2 F fun p hp => hh p ((List.mem_cons.mp hp).elim (fun e => e ▸ .head _) fun e => .tail _ (List.mem_append_left _ e))
    have m52 : ((501 : Addr), tabObj p5) ∈ lx ++ ldw := List.mem_append_left _ m5
    clear u_s u_5 u_4 u_3 u_191 i_lx j_s j_5 j_4 j_3 j_191 jI hTr hFn hTst hW hX hTab m5
    generalize lx ++ ldw = ly at *
    k_steps
    rename Fr _ _ _ _ => F2
    refine Stop.in (LCt.Assign_ListComp_T (F₀ := F2) (by rfl) (by with_unfolding_all rfl) (by with_unfolding_all rfl) (by decide) (by rfl) (by decide) (by rfl) (by rfl) (by rfl) ?_)
    k_steps
    rename Fr _ _ _ _ => F3
    rename News _ _ _ _ => N3
    refine Stop.in (useL (axis_C ax (C'.at F3 (by k_extra "om") (by k_extra "om")) W (hTr2 _ fun p hp => (N3 p (by repeat (first | exact hp | refine List.Mem.tail _ ?_))).1) hin.1) F3 N3 ?_)
    intro xa vsa na h5 tk5 F5 N5 disA hia
    simp only [List.forall_mem_cons] at disA
    obtain ⟨-, kI, k_s, k_5, k_4, k_3, -, -, k_191, -, -, -, k_y⟩ := disA
    clear F3 N3
    have hal := axis_len W tr hin ax
    k_steps
    rename Fr _ _ _ _ => F3
    rename News _ _ _ _ => N3
    refine Stop.in (comp_filter (fun j => passB T j ax.str ts) rfl F3 N3 (.inr ⟨_, .head _, rfl, _, rfl⟩) hia (by k_extra "om") rfl rfl rfl ?_ ?_)
    · intro j9 t9 I9 oI9 C9 oC9 D9 m₂ ys h9 tk9 hj9 hC9 hx9 F6 N6 n1 n2 n3 off9
      have hjl : j9 < T.length := (axis_in W tr hin ax j9 hj9).1
      have hxn : (Str.ofString "namespace" == ax.str) = false := by cases ax <;> rfl
      clear F3 N3
      k_steps
      rename Fr _ _ _ _ => F3
      rename News _ _ _ _ => N3
      refine Stop.in (use (law_passes_C ts (C'.at F3 (by k_extra "om") (by k_extra "om")) W (hTr2 _ fun p hp => (N3 p (by repeat (first | exact hp | refine List.Mem.tail _ ?_))).1) hjl hxn (hTst2 _ fun p hp => (N3 p (by repeat (first | exact hp | refine List.Mem.tail _ ?_))).1)) F3 N3 ?_)
      intro v8 h8 tk8 F8 N8 _ e8
      subst e8
      clear F3 N3
      k_steps
      exact Stop.in ⟨_, _, _, rfl, by k_asm, by k_asm, off9, rfl, rfl⟩
    · intro g9 ys hys D9 h9 tk9 F6 N6 off9
      clear F3 N3
      have hfl : ((axisL T j ax).filter fun j => passB T j ax.str ts).length ≤ 900 := Nat.le_trans (List.length_filter_le _ _) (by k_extra "om")
      have hft : ∀ x ∈ (axisL T j ax).filter fun j => passB T j ax.str ts, x < T.length := fun x hx => (axis_in W tr hin ax x ((List.mem_filter.mp hx).1)).1
      k_steps
      rename Fr _ _ _ _ => F3
      rename News _ _ _ _ => N3
      have hwe : ws ≠ [] := fun e => by rw [e] at hw0; exact absurd hw0 (Nat.lt_irrefl _)
      have N4 := repack (news' := (D9, listOf (List.toArray ys) ys.length) :: (I, oI) :: (src, o4) :: (L + 1 + 1 + 1 + 1 + 1, oD) :: _) N3 fun p hp => (List.mem_cons.mp hp).elim (fun e => e ▸ .head _) fun hp => .tail _ (.tail _ (.tail _ hp))
      clear N3 off9 kI k_s k_5 k_4 k_3 k_191 k_y
      refine Stop.in (useL (law_kept_C (C'.at F3 (by k_extra "om") (by k_extra "om")) (hTr2 _ (fun p hp => (N4 p (by repeat (first | exact hp | refine List.Mem.tail _ ?_))).1)) (N4 _ (.head _)).1 hys hft hfl (hW2 _ (fun p hp => (N4 p (by repeat (first | exact hp | refine List.Mem.tail _ ?_))).1)) (by k_extra "om") hwe) F3 N4 ?_)
      intro da vsd nd h10 tk10 F7 N7 disD hid
      have N8 := repack (news' := (da, listOf (List.toArray vsd) nd) :: (I, oI) :: (src, o4) :: (L + 1 + 1 + 1 + 1 + 1, oD) :: _) N7 fun p hp => (List.mem_cons.mp hp).elim (fun e => e ▸ .head _) fun hp => .tail _ (.tail _ hp)
      have d_5 := list_ne_cell N8 (.head _) (.tail _ (.tail _ (.tail _ (.head _)))) dD
      have d_s : @Ne Nat src da := disD _ (.tail _ (.tail _ (.head _)))
      have d_191 : @Ne Nat 191 da := disD _ (.tail _ (.tail _ (.tail _ (.tail _ (.tail _ (.tail _ (.tail _ (.tail _ (.head _)))))))))
      clear N4 N7 F3 disD
      k_steps
      rename Fr _ _ _ _ => F3
      rename News _ _ _ _ => N3
      refine Stop.in (useL (step_from_C (r := 0) (a := a) (p := pw) (ts := ts) (ws := ws) (C'.at F3 (by k_extra "om") (by k_extra "om")) W (hTr2 _ (fun p hp => (N3 p (by repeat (first | exact hp | refine List.Mem.tail _ ?_))).1)) tr hin ⟨_, _, _, _, _, _, (N3 _ (.tail _ (.head _))).1, (N3 _ (.tail _ (.tail _ (.head _)))).1⟩ (hTst2 _ (fun p hp => (N3 p (by repeat (first | exact hp | refine List.Mem.tail _ ?_))).1)) (hW2 _ (fun p hp => (N3 p (by repeat (first | exact hp | refine List.Mem.tail _ ?_))).1)) (by k_extra "om") hwe (hFn2 _ (fun p hp => (N3 p (by repeat (first | exact hp | refine List.Mem.tail _ ?_))).1))) F3 N3 ?_)
      intro sa vss nss h11 tk11 F7 N7 disS his
      have hid2 : IntsAre vsd (nat (stepL T j ax ts ws)) := hid
      clear hid F3
      k_steps
      refine Stop.in (ne_at (bv := false) (News.isList N7 (.head _)) (News.isList N7 (by k_mem)) his hid2 (Nat.lt_of_le_of_lt (Nat.add_le_add_left (by decide) _) hun9) (by simp) ?_)
      k_steps
      rename Fr _ _ _ _ => F3
      rename News _ _ _ _ => N3
      have N4 := repack (news' := _) N3 fun p hp => .tail _ (.tail _ (.tail _ hp))
      clear N3
      refine Stop.in (nodes_U (a := a) (p := pw) (ax := ax) (ts := ts) (ws := ws) C' F3 N4 (by k_updF) codeHd (hTab2 _ _ F3 fun p hp => ?_) W tr hT0 hin (by k_extra "om") hwe (fun g' ig => ?_) (by k_extra "om") (by k_extra "om") ?_)
      · rcases List.mem_cons.mp hp with rfl | hp
        · exact (N4 ((191 : Addr), tabObj ps) (by k_mem)).1
        · exact (N4 p (by repeat (first | exact hp | refine List.Mem.tail _ ?_))).1
      · have hl : Held ly g' := fun p hp => ig _ _ (y_191 p hp) (N4 p (by repeat (first | exact hp | refine List.Mem.tail _ ?_))).1
        exact ⟨hTr2 _ hl, ⟨_, _, _, _, _, _, ig _ _ (dlt_up' (by with_reducible assumption) (by with_reducible assumption) (by k_mem)) (N4 _ (.head _)).1, ig _ _ (dlt_ne' (by with_reducible assumption) (by k_mem)) (N4 _ (.tail _ (.head _))).1⟩, hTst2 _ hl, hW2 _ hl, hFn2 _ hl⟩
      intro sx vsx nsx ps2 lc h12 tk12 F8 N9 disX disL disL191 hFl hTab3 hix
      (try dsimp only [List.cons_append] at N9)
      clear F3 N4
      have e_I := fld_ne N9 (lc := lc) (fun q hq => (.tail _ (.tail _ (.tail _ (.tail _ (.tail _ (.tail _ (.tail _ (.tail _ (.tail _ (.tail _ (.tail _ (.tail _ (.tail _ (.tail _ (.tail _ (List.mem_append_right _ hq))))))))))))))))) hFl (c := I) (oc := oI) (.tail _ (.tail _ (.tail _ (.tail _ (.head _))))) hfI
      have e_s := fld_ne N9 (lc := lc) (fun q hq => (.tail _ (.tail _ (.tail _ (.tail _ (.tail _ (.tail _ (.tail _ (.tail _ (.tail _ (.tail _ (.tail _ (.tail _ (.tail _ (.tail _ (.tail _ (List.mem_append_right _ hq))))))))))))))))) hFl (c := src) (oc := o4) (.tail _ (.tail _ (.tail _ (.tail _ (.tail _ (.head _)))))) (src_nf ho4)
      have e_5 : ∀ q ∈ lc, @Ne Nat q.1 (L + 1 + 1 + 1 + 1 + 1) := by
        refine' fld_ne N9 (lc := lc) (fun q hq => (.tail _ (.tail _ (.tail _ (.tail _ (.tail _ (.tail _ (.tail _ (.tail _ (.tail _ (.tail _ (.tail _ (.tail _ (.tail _ (.tail _ (.tail _ (List.mem_append_right _ hq))))))))))))))))) hFl (.tail _ (.tail _ (.tail _ (.tail _ (.tail _ (.tail _ (.head _))))))) (cell_nf ?h)
        case h => with_reducible assumption
      have e_4 : ∀ q ∈ lc, @Ne Nat q.1 (L + 1 + 1 + 1 + 1) := by
        refine' fld_ne N9 (lc := lc) (fun q hq => (.tail _ (.tail _ (.tail _ (.tail _ (.tail _ (.tail _ (.tail _ (.tail _ (.tail _ (.tail _ (.tail _ (.tail _ (.tail _ (.tail _ (.tail _ (List.mem_append_right _ hq))))))))))))))))) hFl (.tail _ (.tail _ (.tail _ (.tail _ (.tail _ (.tail _ (.tail _ (.head _)))))))) (cell_nf ?h)
        case h => with_reducible assumption
      have e_3 : ∀ q ∈ lc, @Ne Nat q.1 (L + 1 + 1 + 1) := by
        refine' fld_ne N9 (lc := lc) (fun q hq => (.tail _ (.tail _ (.tail _ (.tail _ (.tail _ (.tail _ (.tail _ (.tail _ (.tail _ (.tail _ (.tail _ (.tail _ (.tail _ (.tail _ (.tail _ (List.mem_append_right _ hq))))))))))))))))) hFl (.tail _ (.tail _ (.tail _ (.tail _ (.tail _ (.tail _ (.tail _ (.tail _ (.head _))))))))) (cell_nf ?h)
        case h => with_reducible assumption
      have z_I := app_ne y_I e_I
      have z_s := app_ne y_s e_s
      have z_5 := app_ne y_5 e_5
      have z_4 := app_ne y_4 e_4
      have z_3 := app_ne y_3 e_3
      have z_191 := app_ne y_191 disL191
      have x_s : @Ne Nat src sx := disX _ (.tail _ (.tail _ (.tail _ (.tail _ (.head _)))))
      have N10 := repack (news' := (sx, listOf (List.toArray vsx) nsx) :: _) N9 fun p hp => (List.mem_cons.mp hp).elim (fun e => e ▸ .head _) fun hp => .tail _ (.tail _ (.tail _ hp))
      have hTr3 : ∀ h2, Held (ly ++ lc) h2 → TreeAt w h2 t T := fun h2 hh => hTr2 h2 (held_l hh)
      have hFn3 : ∀ h2, Held (ly ++ lc) h2 → FnV w h2 f t := fun h2 hh => hFn2 h2 (held_l hh)
      have hW3 : ∀ h2, Held (ly ++ lc) h2 → WordsAt h2 pw ws := fun h2 hh => hW2 h2 (held_l hh)
      have hX3 : ∀ (r : Nat) v, vsT[r]? = some v → ∃ (a : Addr) (ts : Ts), v = .ref a ∧ ∀ h2, Held (ly ++ lc) h2 → TestAt h2 a ts := fun r v e => let ⟨a, ts, e1, k⟩ := hX2 r v e; ⟨a, ts, e1, fun h2 hh => k h2 (held_l hh)⟩
      have hTab4 : ∀ h2 m2, Fr gg L h2 m2 → Held ((191, tabObj ps2) :: (ly ++ lc)) h2 → TabIn h2 191 161 29 lamQ := fun h2 m2 F hh => hTab3 h2 m2 F fun p hp => hh p ((List.mem_cons.mp hp).elim (fun e => e ▸ .head _) fun e => .tail _ (List.mem_append_right _ e))
      have m53 : ((501 : Addr), tabObj p5) ∈ ly ++ lc := List.mem_append_left _ m52
      clear N9 y_I y_s y_5 y_4 y_3 y_191 e_I e_s e_5 e_4 e_3 disL disL191 disX hTr2 hFn2 hTst2 hW2 hX2 hTab2 hTab3 m52 hFl
      generalize ly ++ lc = lz at *
      k_steps
      refine Stop.in (LCt.ListComp_T (F₀ := F8) (by with_unfolding_all rfl) (by decide) (by rfl) (by decide) (by rfl) ?_)
      k_steps
      rename Fr _ _ _ _ => F3
      rename News _ _ _ _ => N3
      refine Stop.in (comp_filter (fun x => (stepL T j ax ts ws).contains x) rfl F3 N3 (.inr ⟨listOf (List.toArray vsE) nE, by k_mem, rfl, _, rfl⟩) hiE (Nat.le_trans (doc_len W hT0) (by decide)) rfl rfl rfl ?_ ?_)
      · intro j9 t9 I9 oI9 C9 oC9 D8 m₂ y9 h9 tk9 hj9 hC9 hx9 F6 N6 n1 n2 n3 off9
        clear F3 N3
        k_steps
        rename News _ _ _ _ => N7
        refine Stop.in (in_list_ints (News.isList N7 (by k_mem)) hid2 ?_)
        rw [any_nat]
        k_steps
        exact Stop.in ⟨_, _, _, rfl, by k_asm, by k_asm, off9, rfl, rfl⟩
      · intro g8 yE hyE DE h13 tk13 F9 N9 offE
        clear F3 N3
        k_steps
        rename News _ _ _ _ => N3
        rename Fr _ _ _ _ => F3
        refine Stop.in (ne_at (bv := false) (News.isList N3 (.tail _ (.head _))) (News.isList N3 (.head _)) hix hyE (Nat.lt_of_le_of_lt (Nat.add_le_add_left (by decide) _) hun9) (by simp) ?_)
        have N4 := repack (news' := _) N3 fun p hp => (.tail _ (.tail _ (.tail _ hp)))
        clear N3 hix hyE offE hid2
        k_steps
        rename News _ _ _ _ => N3
        rename Fr _ _ _ _ => F4
        refine Stop.in (LCt.Assign_ListComp_T (F₀ := F4) (by rfl) (by with_unfolding_all rfl) (by with_unfolding_all rfl) (by decide) (by rfl) (by decide) (by rfl) (by rfl) (by rfl) ?_)
        k_steps
        rename News _ _ _ _ => N3
        rename Fr _ _ _ _ => F4
        refine Stop.in (comp_sel2 (vs := vsE) (nv := nE) rfl F4 N3 ho4 (by k_mem) hiE (Nat.le_trans (doc_len W hT0) (by decide)) rfl rfl rfl ?_ ?_)
        · intro j9 t9 I9 oI9 C9 oC9 D8 m₂ y9 h9 tk9 o9 ho9 hj9 hC9 hx9 F6 N6 n1 n2 n3 off9
          clear F4 N3
          have b1 : @Ne Nat src I9 := (off9 _ (.tail _ (.head _))).1
          have b2 : @Ne Nat src C9 := (off9 _ (.tail _ (.head _))).2.1
          have b3 : @Ne Nat src D8 := (off9 _ (.tail _ (.head _))).2.2
          have b4 : @Ne Nat src nml := Nat.ne_of_lt tnm.1
          have b5 : @Ne Nat src tsl := Nat.ne_of_lt tts.1
          k_steps
          rename News _ _ _ _ => N7
          rename Fr _ _ _ _ => F7
          refine Stop.in (take_U C' F7 N7 (by k_updF) ho9 (by with_unfolding_all exact rfl) (by decide) (by decide) (by decide) (by decide) ?_)
          intro r9 t8 o8 h8 tk8 hr9 ho8 F10 N10
          (try dsimp only at N10)
          clear N7 F7
          k_steps
          exact Stop.in ⟨_, _, _, rfl, F10, N10, List.forall_mem_cons.mpr ⟨off9 _ (.head _), List.forall_mem_cons.mpr ⟨off9 (src, o9) (.tail _ (.head _)), fun q hq => off9 q (.tail _ (.tail _ hq))⟩⟩, o8, ho8, rfl⟩
        · intro g9 yS sel o8 ho8 hsel hyS DS h14 tk14 F10 N10 offS
          clear F4 N3 offS i_s i_5 i_4 i_3 i_2 i_1 i_191 i_ev i_nm i_ts n5 n4 n3 n2 n1 n191 v0s v5 v4 v3 v2 v1 v191 d_5 d_s d_191 x_s
          have hsl : sel.length ≤ 20 := Nat.le_trans hsel.length_le (doc_len W hT0)
          have hst : ∀ x ∈ sel.reverse, x < T.length := fun x hx => (doc_in W _ 0 (Nat.le_refl _) hT0 x (hsel.subset (List.mem_reverse.mp hx))).1
          have hnl : (nat sel).length ≤ 20 := by rw [nat_len]; exact hsl
          have hrl : sel.reverse.length ≤ 900 := by rw [List.length_reverse]; omega
          k_steps
          refine Stop.in ?_
          k_dflt (refine' krv_ints F10 N10 ?qz1 ?qz2 hyS ?_ ?qz3 ?qz4 ?qz5)
          case qz1 => exact News.isList N10 (.head _)
          case qz2 => exact IsPart.int _ _
          case qz3 => with_unfolding_all rfl
          case qz4 => kmk_pure
          case qz5 => (refine kmk_sz hyS ?_; refine bd_line ?_; omega)
          intro DA wA hpA FsA NsA lA hiA _
          rw [← nat_reverse] at hiA
          clear F10 N10 lA
          k_steps
          rename Fr _ _ _ _ => F11
          rename News _ _ _ _ => N11
          refine Stop.in (useL (kept_C (C'.at F11 (by decide) (by decide)) (hTr3 _ (fun p hp => (N11 p (by repeat (first | exact hp | refine List.Mem.tail _ ?_))).1)) (N11 _ (.head _)).1 hiA hst hrl (hW3 _ (fun p hp => (N11 p (by repeat (first | exact hp | refine List.Mem.tail _ ?_))).1)) (by k_extra "om") hwe (hFn3 _ (fun p hp => (N11 p (by repeat (first | exact hp | refine List.Mem.tail _ ?_))).1))) F11 N11 ?_)
          intro ka vk nk h15 tk15 F12 N12 disK hik
          clear F11 N11 disK
          k_steps
          rename Fr _ _ _ _ => F11
          rename News _ _ _ _ => N11
          refine Stop.in ?_
          k_dflt (refine' krv_ints F11 N11 ?qy1 ?qy2 hyS ?_ ?qy3 ?qy4 ?qy5)
          case qy1 => exact News.isList N11 (.tail _ (.tail _ (.head _)))
          case qy2 => exact IsPart.int _ _
          case qy3 => with_unfolding_all rfl
          case qy4 => kmk_pure
          case qy5 => (refine kmk_sz hyS ?_; refine bd_line ?_; omega)
          intro DB wB hpB FsB NsB lB hiB _
          rw [← nat_reverse] at hiB
          clear F11 N11 lB
          k_steps
          rename Fr _ _ _ _ => F11
          rename News _ _ _ _ => N11
          refine Stop.in (useL (law_kept_C (C'.at F11 (by decide) (by decide)) (hTr3 _ (fun p hp => (N11 p (by repeat (first | exact hp | refine List.Mem.tail _ ?_))).1)) (N11 _ (.head _)).1 hiB hst hrl (hW3 _ (fun p hp => (N11 p (by repeat (first | exact hp | refine List.Mem.tail _ ?_))).1)) (by k_extra "om") hwe) F11 N11 ?_)
          intro kb vb nb h16 tk16 F12 N12 disB hib
          clear F11 N11 disB
          k_steps
          rename Fr _ _ _ _ => F11
          rename News _ _ _ _ => N11
          refine Stop.in (ne_at (bv := false) (News.isList N11 (by k_mem)) (News.isList N11 (.head _)) hik hib (Nat.lt_of_le_of_lt (Nat.add_le_add_left (by decide) _) hun9) (by simp) ?_)
          have N14 := repack (news' := _) N11 fun p hp => (.tail _ (.tail _ (.tail _ (.tail _ (.tail _ hp)))))
          clear N11
          k_steps
          rename Fr _ _ _ _ => F14
          refine turn_over _ F14 N14 (.head _) (fun q hq => .tail _ hq) (List.forall_mem_cons.mpr ⟨hne0 (src, o) (.head _), List.forall_mem_cons.mpr ⟨hne0 (L + 1 + 1 + 1 + 1 + 1, oD) (.tail _ (.head _)), List.forall_mem_cons.mpr ⟨hne0 (L + 1 + 1 + 1 + 1, oX) (.tail _ (.tail _ (.head _))), List.forall_mem_cons.mpr ⟨hne0 (L + 1 + 1 + 1, oN) (.tail _ (.tail _ (.tail _ (.head _)))), List.forall_mem_cons.mpr ⟨hne0 (L + 1 + 1, oT) (.tail _ (.tail _ (.tail _ (.tail _ (.head _))))), List.forall_mem_cons.mpr ⟨hne0 (L + 1, oS) (.tail _ (.tail _ (.tail _ (.tail _ (.tail _ (.head _)))))), List.forall_mem_cons.mpr ⟨hne0 ((191 : Addr), tabObj ps) (.tail _ (.tail _ (.tail _ (.tail _ (.tail _ (.tail _ (.head _))))))), List.forall_mem_cons.mpr ⟨hne0 _ (.tail _ (.tail _ (.tail _ (.tail _ (.tail _ (.tail _ (.tail _ (.head _)))))))), List.forall_mem_cons.mpr ⟨hne0 _ (.tail _ (.tail _ (.tail _ (.tail _ (.tail _ (.tail _ (.tail _ (.tail _ (.head _))))))))), List.forall_mem_cons.mpr ⟨hne0 _ (.tail _ (.tail _ (.tail _ (.tail _ (.tail _ (.tail _ (.tail _ (.tail _ (.tail _ (.head _)))))))))), z_I⟩⟩⟩⟩⟩⟩⟩⟩⟩⟩)
            ⟨o8, oS, oT, _, _, _, ps2, lz, vsN, vsT, rfl, rfl, rfl, rfl, rfl, ho8, dS, dT, ⟨_, by with_reducible assumption⟩, ⟨_, by with_reducible assumption⟩, ⟨_, by with_reducible assumption⟩, lnN, lnT, hN, hX3, hTr3, hFn3, hTab4, ⟨p5, m53⟩, z_s, z_5, z_4, z_3, z_191⟩
  · rintro m nx h tk ⟨o, oS, oT, oN, oX, oD, ps, lx, vsN, vsT, m1, m2, m3, m4, rfl, ho, dS, dT, ⟨yN, dN⟩, ⟨yX, dX⟩, ⟨yD, dD⟩, lnN, lnT, hN, hX, hTr, hFn, hTab, ⟨p5, m5⟩, _⟩ F1 N1
    k_steps
    refine hQ9 _ _ ?_
    refine And.intro ?_ ⟨⟨p5, (N1 _ (.tail _ (.tail _ (.tail _ (.tail _ (.tail _ (.tail _ (.tail _ (.tail _ (.tail _ (.tail _ m5))))))))))).1⟩, ⟨ps, (N1 _ (.tail _ (.tail _ (.tail _ (.tail _ (.tail _ (.tail _ (.head _)))))))).1⟩, trivial⟩
    refine goodW_bool F1 hgF ?_ ?_
    · intro cls; with_unfolding_all rfl
    · with_unfolding_all rfl)
end Mine
theorem PySem.Challenge.cw_nu0070_01_holds : PySem.Challenge.rw_nu0070_01.Holds :=
  Mine.law_try
