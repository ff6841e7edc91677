import PyProof.Rows.All
import Wide.Line
import Wide.FinOn
import KE.KSortTup
import KE.KEqDat
import KE.KDictOf
import KE.KPar
import Open.FastLooks
import Open.FastT9
import Open.FastRun
import PyProof.LetGo
import PyProof.AttrMissHeap
import Lean
import PySem.Challenge.RW_pq0557_01
set_option Elab.async false
set_option compiler.extract_closed false
set_option tactic.hygienic false
set_option maxRecDepth 100000
set_option maxHeartbeats 4000000
set_option linter.unusedVariables false
section
open PySem PySem.W PyProof.Rows
set_option maxHeartbeats 0
namespace Hk
noncomputable def pg : Program := PySem.Challenge.rw_pq0557_01.row.toRowW.1
noncomputable def s (x : String) (n : Nat) : Value := .str (.ofString x) n
noncomputable def i (n : Int) : Value := .int n 0
noncomputable def r (a : Nat) : Value := .ref a
noncomputable def o (v : Value) : Option Value := some v
noncomputable def e (P : Params) (k : String) (n : Nat) (v : Value) : DictEntry := { hash := PyData.keyHash P (.ofString k), key := s k n, val := v }
noncomputable def tu (l : List Value) : Obj := { cls := .type "tuple", data := .seq ⟨l⟩ }
noncomputable def fi (c : String) (l : List Value) : Obj := { cls := .type c, data := .fields ⟨l⟩ }
noncomputable def fl (l : List Value) : Obj := { cls := .none, data := .fields ⟨l⟩ }
noncomputable def tr (l : List (Nat × Nat × Nat)) : Obj := fl (l.flatMap fun x => [i x.1, i x.2.1, r x.2.2])
noncomputable def fr (l : List (Option Value)) : Obj := { cls := .type "frame", slots := ⟨l⟩ }
noncomputable def di (c : Value) (l : List DictEntry) (n : Nat) : Obj := { cls := c, data := .dict ⟨l⟩ n }
noncomputable def co (n q : String) (t l a b c f : Nat) (u : Nat) (x : Bool) (v : Nat) (w : List Value) (k : Nat) : Obj :=
 fi "code" ([s n t, s q (t + 1), s "/claim/cut.py" (t + 2), i l, i a, i b, i c, i f, r u, .bool x, i 181, r v] ++ w ++ [i k, i l, s "/claim/cut.py" (k + 1)])
noncomputable def cl (n : String) (b m : List Value) (a : Nat) (u : List Value) (l : List (Option Value)) : Obj := { cls := .type "type", data := .cls { name := .ofString n, bases := b, mro := m, ns := a, qualname := .ofString n, subclasses := u }, slots := ⟨l⟩ }
noncomputable def gl : List Stmt → Nat → Stmt
 | [], _ => .Pass default
 | x :: _, 0 => x
 | _ :: l, n+1 => gl l n
noncomputable def st (k : Nat) : Stmt := gl pg.main.body k
noncomputable def qu (q : String) : Stmt → Stmt
 | .FunctionDef n a b c d t e f _ p => .FunctionDef n a b c d t e f (.ofString q) p
 | x => x
noncomputable def cb (k j : Nat) (q : String) : Stmt := match st k with | .ClassDef _ _ _ b _ _ _ _ _ _ _ => qu q (gl b j) | x => x
noncomputable def fd (g : Nat) (d m c : Value) : Stmt → FuncData
 | .FunctionDef n a b _ _ _ e _ q _ => { name := n, qualname := q, params := a, body := .stmts b, scope := e, globals := g, closure := [], defaults := d, kwdefaults := .none, pyModule := m, code := c }
 | _ => default
noncomputable def fo (x : Stmt) : Obj := { cls := .none, data := .func (fd 0 .none .none .none x) }
noncomputable def fu (x : Stmt) (d m : Value) (c : Nat) : Obj := { cls := .type "function", data := .func (fd 3 d m (r c) x) }
noncomputable def o43 := tu []
noncomputable def o44 := fl []
noncomputable def o45 := co "<module>" "<module>" 182 1 0 0 0 0 11 false 12 [.none, .none, .none, .none] 185
noncomputable def o46 := fr [o (r 13), o (r 3), o (r 3), .none, o (s "__main__" 164), .none, o (r 0)]
noncomputable def o49 (P : Params) := di .none [e P "type.__subclasses__.Exception.0" 230 (i 46), e P "type.__subclasses__.Exception.n" 231 (i 1)] 2
noncomputable def d50 (P : Params) : List DictEntry := [e P "__name__" 165 (s "grammarmill.source" 194), e P "__doc__" 166 .none, e P "__package__" 167 .none, e P "__loader__" 168 (.builtin "__main__.__loader__#opaque"), e P "__spec__" 169 .none, e P "__annotations__" 170 (r 6), e P "__builtins__" 171 (r 4), e P "__file__" 173 (s "/claim/cut.py" 172), e P "__cached__" 174 .none, e P "_wall" 193 (r 21), e P "ToolError" 233 (r 46)]
noncomputable def o50 (P : Params) := di (.type "dict") (d50 P) 11
noncomputable def o51 := tr [(1, 0, 20), (5, 0, 27)]
noncomputable def o52 := tu []
noncomputable def o53 := fl []
noncomputable def o54 := tu [s "k" 190]
noncomputable def o55 := tu []
noncomputable def o56 := fo (st 0)
noncomputable def o57 := co "_wall" "_wall" 187 1 1 0 0 3 15 true 16 [.none, r 17, r 18, r 19] 191
noncomputable def o58 := fu (st 0) .none (s "__main__" 164) 20
noncomputable def o59 := tu [.type "Exception"]
noncomputable def o60 := fi "builtin_function_or_method" [.builtin "type.__prepare__", .type "type"]
noncomputable def d61 (P : Params) : List DictEntry := [e P "__module__" 203 (s "grammarmill.source" 194), e P "__qualname__" 205 (s "ToolError" 204), e P "__firstlineno__" 207 (.int 5 206), e P "__init__" 216 (r 36), e P "told" 223 (r 43), e P "__static_attributes__" 226 (r 44)]
noncomputable def o61 (P : Params) := di (.type "dict") (d61 P) 6
noncomputable def o62 := tu []
noncomputable def o63 := tr [(7, 4, 35), (12, 4, 42)]
noncomputable def o64 := co "ToolError" "ToolError" 198 5 0 0 0 0 25 false 26 [.none, .none, .none, .none] 201
noncomputable def o65 := fr [o (r 27), o (r 3), o (r 24), .none, o (s "grammarmill.source" 194), .none, o (r 0)]
noncomputable def o66 := tu [.none]
noncomputable def o67 := tu []
noncomputable def o68 := fl []
noncomputable def o69 := tu [s "self" 211, s "what" 212, s "at" 213]
noncomputable def o70 := tu []
noncomputable def o71 := fo (cb 2 0 "ToolError.__init__")
noncomputable def o72 := co "__init__" "ToolError.__init__" 208 7 3 0 0 3 30 true 31 [.none, r 32, r 33, r 34] 214
noncomputable def o73 := fu (cb 2 0 "ToolError.__init__") (r 29) (s "grammarmill.source" 194) 35
noncomputable def o74 := tu []
noncomputable def o75 := fl []
noncomputable def o76 := tu [s "self" 220]
noncomputable def o77 := tu []
noncomputable def o78 := fo (cb 2 1 "ToolError.told")
noncomputable def o79 := co "told" "ToolError.told" 217 12 1 0 0 3 37 true 38 [.none, r 39, r 40, r 41] 221
noncomputable def o80 := fu (cb 2 1 "ToolError.told") .none (s "grammarmill.source" 194) 42
noncomputable def o81 := tu [s "at" 224, s "what" 225]
noncomputable def d82 (P : Params) : List DictEntry := [e P "__module__" 203 (s "grammarmill.source" 194), e P "__firstlineno__" 207 (.int 5 206), e P "__init__" 216 (r 36), e P "told" 223 (r 43), e P "__static_attributes__" 226 (r 44), e P "__weakref__" 228 (r 47), e P "__doc__" 229 .none]
noncomputable def o82 (P : Params) := di (.type "dict") (d82 P) 3
noncomputable def o83 := cl "ToolError" [.type "Exception"] [r 46, .type "Exception", .type "BaseException", .type "object"] 45 [] [o (r 22), .none, o (s "ToolError" 196), o (s "ToolError" 204), o (.builtin "Exception.__new__"), o (.bool true)]
noncomputable def o84 := fi "getset_descriptor" [s "__weakref__" 227, r 46, .builtin "ExceptionGroup.__weakref__", .none]
noncomputable def o85 := fi "super" [r 46, r 46, r 46]
noncomputable def o86 := fi "builtin_function_or_method" [.builtin "object.__init_subclass__", r 46]
noncomputable def d87 (P : Params) : List DictEntry := (d50 P).set 0 (e P "__name__" 165 (s "grammarmill.dfa" 271)) ++ [e P "TableError" 249 (r 59), e P "spread" 264 (r 68), e P "turned" 270 (r 73), e P "DEAD" 275 (.int (-1) 274)]
noncomputable def o87 (P : Params) := di (.type "dict") (d87 P) 15
noncomputable def o88 := tr [(1, 0, 20), (5, 0, 27), (14, 0, 55), (17, 0, 67), (29, 0, 72)]
noncomputable def o89 := cl "ToolError" [.type "Exception"] [r 46, .type "Exception", .type "BaseException", .type "object"] 45 [r 59] [o (r 22), .none, o (s "ToolError" 196), o (s "ToolError" 204), o (.builtin "Exception.__new__"), o (.bool true)]
noncomputable def o90 := tu [r 46]
noncomputable def o91 := fi "builtin_function_or_method" [.builtin "type.__prepare__", .type "type"]
noncomputable def d92 (P : Params) : List DictEntry := [e P "__module__" 241 (s "grammarmill.source" 194), e P "__qualname__" 243 (s "TableError" 242), e P "__firstlineno__" 245 (.int 14 244), e P "__static_attributes__" 246 (r 57)]
noncomputable def o92 (P : Params) := di (.type "dict") (d92 P) 4
noncomputable def o93 := tu []
noncomputable def o94 := fl []
noncomputable def o95 := co "TableError" "TableError" 236 14 0 0 0 0 53 false 54 [.none, .none, .none, .none] 239
noncomputable def o96 := fr [o (r 55), o (r 3), o (r 52), .none, o (s "grammarmill.source" 194), .none, o (r 0)]
noncomputable def o97 := tu []
noncomputable def d98 (P : Params) : List DictEntry := [e P "__module__" 241 (s "grammarmill.source" 194), e P "__firstlineno__" 245 (.int 14 244), e P "__static_attributes__" 246 (r 57), e P "__doc__" 247 .none]
noncomputable def o98 (P : Params) := di (.type "dict") (d98 P) 2
noncomputable def o99 := cl "TableError" [r 46] [r 59, r 46, .type "Exception", .type "BaseException", .type "object"] 58 [] [o (r 50), .none, o (s "TableError" 234), o (s "TableError" 242), o (.builtin "Exception.__new__"), o (.bool true)]
noncomputable def o100 := fi "super" [r 59, r 59, r 59]
noncomputable def o101 := fi "builtin_function_or_method" [.builtin "object.__init_subclass__", r 59]
noncomputable def o102 := tu []
noncomputable def o103 := fl []
noncomputable def o104 := tu [s "links" 255, s "seeds" 256, s "seen" 257, s "seed" 258, s "waiting" 259, s "place" 260, s "goal" 261]
noncomputable def o105 := tu []
noncomputable def o106 := fo (st 5)
noncomputable def o107 := co "spread" "spread" 252 17 2 0 0 3 62 true 63 [.none, r 64, r 65, r 66] 262
noncomputable def o108 := fu (st 5) .none (s "grammarmill.nfa" 250) 67
noncomputable def o109 := tu []
noncomputable def o110 := fl []
noncomputable def o111 := fo (st 6)
noncomputable def o112 := co "turned" "turned" 265 29 1 0 0 3 69 true 70 [.none, .none, .none, r 71] 268
noncomputable def o113 := fu (st 6) .none (s "grammarmill.nfa" 250) 72
noncomputable def d114 (P : Params) : List DictEntry := d87 P ++ [e P "Dfa" 342 (r 123)]
noncomputable def o114 (P : Params) := di (.type "dict") (d114 P) 16
noncomputable def o115 := tr [(1, 0, 20), (5, 0, 27), (14, 0, 55), (17, 0, 67), (29, 0, 72), (37, 0, 79)]
noncomputable def o116 := tu []
noncomputable def o117 := fi "builtin_function_or_method" [.builtin "type.__prepare__", .type "type"]
noncomputable def d118 (P : Params) : List DictEntry := [e P "__module__" 283 (s "grammarmill.dfa" 271), e P "__qualname__" 285 (s "Dfa" 284), e P "__firstlineno__" 287 (.int 37 286), e P "__init__" 296 (r 87), e P "class_count" 303 (r 94), e P "state_count" 310 (r 101), e P "step" 319 (r 108), e P "links" 325 (r 113), e P "told" 332 (r 120), e P "__static_attributes__" 335 (r 121)]
noncomputable def o118 (P : Params) := di (.type "dict") (d118 P) 10
noncomputable def o119 := tu []
noncomputable def o120 := tr [(39, 4, 86), (43, 4, 93), (46, 4, 100), (49, 4, 107), (54, 4, 112), (57, 4, 119)]
noncomputable def o121 := co "Dfa" "Dfa" 278 37 0 0 0 0 77 false 78 [.none, .none, .none, .none] 281
noncomputable def o122 := fr [o (r 79), o (r 3), o (r 76), .none, o (s "grammarmill.dfa" 271), .none, o (r 0)]
noncomputable def o123 := tu []
noncomputable def o124 := fl []
noncomputable def o125 := tu [s "self" 291, s "rows" 292, s "tags" 293]
noncomputable def o126 := tu []
noncomputable def o127 := fo (cb 9 0 "Dfa.__init__")
noncomputable def o128 := co "__init__" "Dfa.__init__" 288 39 3 0 0 3 81 true 82 [.none, r 83, r 84, r 85] 294
noncomputable def o129 := fu (cb 9 0 "Dfa.__init__") .none (s "grammarmill.dfa" 271) 86
noncomputable def o130 := tu []
noncomputable def o131 := fl []
noncomputable def o132 := tu [s "self" 300]
noncomputable def o133 := tu []
noncomputable def o134 := fo (cb 9 1 "Dfa.class_count")
noncomputable def o135 := co "class_count" "Dfa.class_count" 297 43 1 0 0 3 88 true 89 [.none, r 90, r 91, r 92] 301
noncomputable def o136 := fu (cb 9 1 "Dfa.class_count") .none (s "grammarmill.dfa" 271) 93
noncomputable def o137 := tu []
noncomputable def o138 := fl []
noncomputable def o139 := tu [s "self" 307]
noncomputable def o140 := tu []
noncomputable def o141 := fo (cb 9 2 "Dfa.state_count")
noncomputable def o142 := co "state_count" "Dfa.state_count" 304 46 1 0 0 3 95 true 96 [.none, r 97, r 98, r 99] 308
noncomputable def o143 := fu (cb 9 2 "Dfa.state_count") .none (s "grammarmill.dfa" 271) 100
noncomputable def o144 := tu []
noncomputable def o145 := fl []
noncomputable def o146 := tu [s "self" 314, s "state" 315, s "number" 316]
noncomputable def o147 := tu []
noncomputable def o148 := fo (cb 9 3 "Dfa.step")
noncomputable def o149 := co "step" "Dfa.step" 311 49 3 0 0 3 102 true 103 [.none, r 104, r 105, r 106] 317
noncomputable def o150 := fu (cb 9 3 "Dfa.step") .none (s "grammarmill.dfa" 271) 107
noncomputable def o151 := tu []
noncomputable def o152 := fl []
noncomputable def o153 := fo (cb 9 4 "Dfa.links")
noncomputable def o154 := co "links" "Dfa.links" 320 54 1 0 0 3 109 true 110 [.none, .none, .none, r 111] 323
noncomputable def o155 := fu (cb 9 4 "Dfa.links") .none (s "grammarmill.dfa" 271) 112
noncomputable def o156 := tu []
noncomputable def o157 := fl []
noncomputable def o158 := tu [s "self" 329]
noncomputable def o159 := tu []
noncomputable def o160 := fo (cb 9 5 "Dfa.told")
noncomputable def o161 := co "told" "Dfa.told" 326 57 1 0 0 3 114 true 115 [.none, r 116, r 117, r 118] 330
noncomputable def o162 := fu (cb 9 5 "Dfa.told") .none (s "grammarmill.dfa" 271) 119
noncomputable def o163 := tu [s "rows" 333, s "tags" 334]
noncomputable def d164 (P : Params) : List DictEntry := [e P "__module__" 283 (s "grammarmill.dfa" 271), e P "__firstlineno__" 287 (.int 37 286), e P "__init__" 296 (r 87), e P "class_count" 303 (r 94), e P "state_count" 310 (r 101), e P "step" 319 (r 108), e P "links" 325 (r 113), e P "told" 332 (r 120), e P "__static_attributes__" 335 (r 121), e P "__dict__" 337 (r 124), e P "__weakref__" 339 (r 125), e P "__doc__" 340 .none]
noncomputable def o164 (P : Params) := di (.type "dict") (d164 P) 4
noncomputable def o165 := cl "Dfa" [.type "object"] [r 123, .type "object"] 122 [] [.none, .none, o (s "Dfa" 276), o (s "Dfa" 284), o (.builtin "object.__new__"), o (.bool true)]
noncomputable def o166 := fi "getset_descriptor" [s "__dict__" 336, r 123, .builtin "function.__dict__", .builtin "function.__dict__#set"]
noncomputable def o167 := fi "getset_descriptor" [s "__weakref__" 338, r 123, .builtin "ExceptionGroup.__weakref__", .none]
noncomputable def o168 := fi "super" [r 123, r 123, r 123]
noncomputable def o169 := fi "builtin_function_or_method" [.builtin "object.__init_subclass__", r 123]
noncomputable def d170 (P : Params) : List DictEntry := (d114 P).set 0 (e P "__name__" 165 (s "grammarmill.minimal" 389)) ++ [e P "run" 353 (r 135), e P "accepts" 362 (r 142), e P "alive" 368 (r 147), e P "numbered" 374 (r 152), e P "numbered_dfa" 375 (r 152), e P "trimmed" 382 (r 159), e P "completed" 388 (r 164)]
noncomputable def o170 (P : Params) := di (.type "dict") (d170 P) 23
noncomputable def o171 := tr [(1, 0, 20), (5, 0, 27), (14, 0, 55), (17, 0, 67), (29, 0, 72), (37, 0, 79), (59, 0, 134), (63, 0, 141), (68, 0, 146), (71, 0, 151), (88, 0, 158), (90, 0, 163)]
noncomputable def o172 := tu [.int 0 343]
noncomputable def o173 := tu []
noncomputable def o174 := fl []
noncomputable def o175 := tu [s "dfa" 347, s "numbers" 348, s "state" 349, s "number" 350]
noncomputable def o176 := tu []
noncomputable def o177 := fo (st 10)
noncomputable def o178 := co "run" "run" 344 59 3 0 0 3 129 true 130 [.none, r 131, r 132, r 133] 351
noncomputable def o179 := fu (st 10) (r 128) (s "grammarmill.dfa" 271) 134
noncomputable def o180 := tu []
noncomputable def o181 := fl []
noncomputable def o182 := tu [s "dfa" 357, s "numbers" 358, s "state" 359]
noncomputable def o183 := tu []
noncomputable def o184 := fo (st 11)
noncomputable def o185 := co "accepts" "accepts" 354 63 2 0 0 3 136 true 137 [.none, r 138, r 139, r 140] 360
noncomputable def o186 := fu (st 11) .none (s "grammarmill.dfa" 271) 141
noncomputable def o187 := tu []
noncomputable def o188 := fl []
noncomputable def o189 := fo (st 12)
noncomputable def o190 := co "alive" "alive" 363 68 1 0 0 3 143 true 144 [.none, .none, .none, r 145] 366
noncomputable def o191 := fu (st 12) .none (s "grammarmill.dfa" 271) 146
noncomputable def o192 := tu []
noncomputable def o193 := fl []
noncomputable def o194 := fo (st 13)
noncomputable def o195 := co "numbered" "numbered" 369 71 3 0 0 3 148 true 149 [.none, .none, .none, r 150] 372
noncomputable def o196 := fu (st 13) .none (s "grammarmill.dfa" 271) 151
noncomputable def o197 := tu []
noncomputable def o198 := fl []
noncomputable def o199 := tu [s "dfa" 379]
noncomputable def o200 := tu []
noncomputable def o201 := fo (st 15)
noncomputable def o202 := co "trimmed" "trimmed" 376 88 1 0 0 3 153 true 154 [.none, r 155, r 156, r 157] 380
noncomputable def o203 := fu (st 15) .none (s "grammarmill.dfa" 271) 158
noncomputable def o204 := tu []
noncomputable def o205 := fl []
noncomputable def o206 := fo (st 16)
noncomputable def o207 := co "completed" "completed" 383 90 1 0 0 3 160 true 161 [.none, .none, .none, r 162] 386
noncomputable def o208 := fu (st 16) .none (s "grammarmill.dfa" 271) 163
noncomputable def d209 (P : Params) : List DictEntry := d170 P ++ [e P "Partition" 472 (r 216)]
noncomputable def o209 (P : Params) := di (.type "dict") (d209 P) 24
noncomputable def o210 := tr [(1, 0, 20), (5, 0, 27), (14, 0, 55), (17, 0, 67), (29, 0, 72), (37, 0, 79), (59, 0, 134), (63, 0, 141), (68, 0, 146), (71, 0, 151), (88, 0, 158), (90, 0, 163), (99, 0, 170)]
noncomputable def o211 := tu []
noncomputable def o212 := fi "builtin_function_or_method" [.builtin "type.__prepare__", .type "type"]
noncomputable def d213 (P : Params) : List DictEntry := [e P "__module__" 398 (s "grammarmill.minimal" 389), e P "__qualname__" 400 (s "Partition" 399), e P "__firstlineno__" 402 (.int 99 401), e P "__init__" 410 (r 178), e P "block_count" 417 (r 185), e P "size" 425 (r 192), e P "members" 433 (r 199), e P "mark" 445 (r 206), e P "split" 457 (r 213), e P "__static_attributes__" 465 (r 214)]
noncomputable def o213 (P : Params) := di (.type "dict") (d213 P) 10
noncomputable def o214 := tu []
noncomputable def o215 := tr [(101, 4, 177), (110, 4, 184), (113, 4, 191), (116, 4, 198), (119, 4, 205), (134, 4, 212)]
noncomputable def o216 := co "Partition" "Partition" 393 99 0 0 0 0 168 false 169 [.none, .none, .none, .none] 396
noncomputable def o217 := fr [o (r 170), o (r 3), o (r 167), .none, o (s "grammarmill.minimal" 389), .none, o (r 0)]
noncomputable def o218 := tu []
noncomputable def o219 := fl []
noncomputable def o220 := tu [s "self" 406, s "count" 407]
noncomputable def o221 := tu []
noncomputable def o222 := fo (cb 18 0 "Partition.__init__")
noncomputable def o223 := co "__init__" "Partition.__init__" 403 101 2 0 0 3 172 true 173 [.none, r 174, r 175, r 176] 408
noncomputable def o224 := fu (cb 18 0 "Partition.__init__") .none (s "grammarmill.minimal" 389) 177
noncomputable def o225 := tu []
noncomputable def o226 := fl []
noncomputable def o227 := tu [s "self" 414]
noncomputable def o228 := tu []
noncomputable def o229 := fo (cb 18 1 "Partition.block_count")
noncomputable def o230 := co "block_count" "Partition.block_count" 411 110 1 0 0 3 179 true 180 [.none, r 181, r 182, r 183] 415
noncomputable def o231 := fu (cb 18 1 "Partition.block_count") .none (s "grammarmill.minimal" 389) 184
noncomputable def o232 := tu []
noncomputable def o233 := fl []
noncomputable def o234 := tu [s "self" 421, s "block" 422]
noncomputable def o235 := tu []
noncomputable def o236 := fo (cb 18 2 "Partition.size")
noncomputable def o237 := co "size" "Partition.size" 418 113 2 0 0 3 186 true 187 [.none, r 188, r 189, r 190] 423
noncomputable def o238 := fu (cb 18 2 "Partition.size") .none (s "grammarmill.minimal" 389) 191
noncomputable def o239 := tu []
noncomputable def o240 := fl []
noncomputable def o241 := tu [s "self" 429, s "block" 430]
noncomputable def o242 := tu []
noncomputable def o243 := fo (cb 18 3 "Partition.members")
noncomputable def o244 := co "members" "Partition.members" 426 116 2 0 0 3 193 true 194 [.none, r 195, r 196, r 197] 431
noncomputable def o245 := fu (cb 18 3 "Partition.members") .none (s "grammarmill.minimal" 389) 198
noncomputable def o246 := tu []
noncomputable def o247 := fl []
noncomputable def o248 := tu [s "self" 437, s "state" 438, s "block" 439, s "border" 440, s "here" 441, s "other" 442]
noncomputable def o249 := tu []
noncomputable def o250 := fo (cb 18 4 "Partition.mark")
noncomputable def o251 := co "mark" "Partition.mark" 434 119 2 0 0 3 200 true 201 [.none, r 202, r 203, r 204] 443
noncomputable def o252 := fu (cb 18 4 "Partition.mark") .none (s "grammarmill.minimal" 389) 205
noncomputable def o253 := tu []
noncomputable def o254 := fl []
noncomputable def o255 := tu [s "self" 449, s "new_blocks" 450, s "block" 451, s "border" 452, s "new" 453, s "state" 454]
noncomputable def o256 := tu []
noncomputable def o257 := fo (cb 18 5 "Partition.split")
noncomputable def o258 := co "split" "Partition.split" 446 134 1 0 0 3 207 true 208 [.none, r 209, r 210, r 211] 455
noncomputable def o259 := fu (cb 18 5 "Partition.split") .none (s "grammarmill.minimal" 389) 212
noncomputable def o260 := tu [s "begins" 458, s "blocks" 459, s "ends" 460, s "marked" 461, s "places" 462, s "row" 463, s "touched" 464]
noncomputable def d261 (P : Params) : List DictEntry := [e P "__module__" 398 (s "grammarmill.minimal" 389), e P "__firstlineno__" 402 (.int 99 401), e P "__init__" 410 (r 178), e P "block_count" 417 (r 185), e P "size" 425 (r 192), e P "members" 433 (r 199), e P "mark" 445 (r 206), e P "split" 457 (r 213), e P "__static_attributes__" 465 (r 214), e P "__dict__" 467 (r 217), e P "__weakref__" 469 (r 218), e P "__doc__" 470 .none]
noncomputable def o261 (P : Params) := di (.type "dict") (d261 P) 4
noncomputable def o262 := cl "Partition" [.type "object"] [r 216, .type "object"] 215 [] [.none, .none, o (s "Partition" 391), o (s "Partition" 399), o (.builtin "object.__new__"), o (.bool true)]
noncomputable def o263 := fi "getset_descriptor" [s "__dict__" 466, r 216, .builtin "function.__dict__", .builtin "function.__dict__#set"]
noncomputable def o264 := fi "getset_descriptor" [s "__weakref__" 468, r 216, .builtin "ExceptionGroup.__weakref__", .none]
noncomputable def o265 := fi "super" [r 216, r 216, r 216]
noncomputable def o266 := fi "builtin_function_or_method" [.builtin "object.__init_subclass__", r 216]
noncomputable def d267 (P : Params) : List DictEntry := (d209 P).set 19 (e P "numbered" 374 (r 227)) ++ [e P "numbered_minimal" 483 (r 227), e P "ways_back" 489 (r 232), e P "refine" 509 (r 239), e P "joined" 515 (r 244), e P "least" 523 (r 251)]
noncomputable def o267 (P : Params) := di (.type "dict") (d267 P) 29
noncomputable def o268 := tr [(1, 0, 20), (5, 0, 27), (14, 0, 55), (17, 0, 67), (29, 0, 72), (37, 0, 79), (59, 0, 134), (63, 0, 141), (68, 0, 146), (71, 0, 151), (88, 0, 158), (90, 0, 163), (99, 0, 170), (156, 0, 226), (165, 0, 231), (177, 0, 238), (208, 0, 243), (217, 0, 250)]
noncomputable def o269 := tu []
noncomputable def o270 := fl []
noncomputable def o271 := tu [s "marks" 476, s "known" 477, s "numbers" 478, s "mark" 479]
noncomputable def o272 := tu []
noncomputable def o273 := fo (st 19)
noncomputable def o274 := co "numbered" "numbered" 473 156 1 0 0 3 221 true 222 [.none, r 223, r 224, r 225] 480
noncomputable def o275 := fu (st 19) .none (s "grammarmill.minimal" 389) 226
noncomputable def o276 := tu []
noncomputable def o277 := fl []
noncomputable def o278 := fo (st 21)
noncomputable def o279 := co "ways_back" "ways_back" 484 165 1 0 0 3 228 true 229 [.none, .none, .none, r 230] 487
noncomputable def o280 := fu (st 21) .none (s "grammarmill.minimal" 389) 231
noncomputable def o281 := tu []
noncomputable def o282 := fl []
noncomputable def o283 := tu [s "dfa" 493, s "back" 494, s "parts" 495, s "groups" 496, s "state" 497, s "tags" 498, s "group" 499, s "widest" 500, s "block" 501, s "waiting" 502, s "number" 503, s "goal" 504, s "new" 505, s "other" 506]
noncomputable def o284 := tu []
noncomputable def o285 := fo (st 22)
noncomputable def o286 := co "refine" "refine" 490 177 1 0 0 3 233 true 234 [.none, r 235, r 236, r 237] 507
noncomputable def o287 := fu (st 22) .none (s "grammarmill.minimal" 389) 238
noncomputable def o288 := tu []
noncomputable def o289 := fl []
noncomputable def o290 := fo (st 23)
noncomputable def o291 := co "joined" "joined" 510 208 2 0 0 3 240 true 241 [.none, .none, .none, r 242] 513
noncomputable def o292 := fu (st 23) .none (s "grammarmill.minimal" 389) 243
noncomputable def o293 := tu []
noncomputable def o294 := fl []
noncomputable def o295 := tu [s "dfa" 519, s "whole" 520]
noncomputable def o296 := tu []
noncomputable def o297 := fo (st 24)
noncomputable def o298 := co "least" "least" 516 217 1 0 0 3 245 true 246 [.none, r 247, r 248, r 249] 521
noncomputable def o299 := fu (st 24) .none (s "grammarmill.minimal" 389) 250
noncomputable def d300 (P : Params) : List DictEntry := d267 P ++ [e P "Merger" 572 (r 282), e P "goal_of" 581 (r 293), e P "tags_at" 589 (r 300), e P "place_of" 597 (r 307)]
noncomputable def o300 (P : Params) := di (.type "dict") (d300 P) 33
noncomputable def o301 := tr [(1, 0, 20), (5, 0, 27), (14, 0, 55), (17, 0, 67), (29, 0, 72), (37, 0, 79), (59, 0, 134), (63, 0, 141), (68, 0, 146), (71, 0, 151), (88, 0, 158), (90, 0, 163), (99, 0, 170), (156, 0, 226), (165, 0, 231), (177, 0, 238), (208, 0, 243), (217, 0, 250), (220, 0, 257), (242, 0, 292), (246, 0, 299), (250, 0, 306)]
noncomputable def o302 := tu []
noncomputable def o303 := fi "builtin_function_or_method" [.builtin "type.__prepare__", .type "type"]
noncomputable def d304 (P : Params) : List DictEntry := [e P "__module__" 531 (s "grammarmill.minimal" 389), e P "__qualname__" 533 (s "Merger" 532), e P "__firstlineno__" 535 (.int 220 534), e P "__init__" 543 (r 265), e P "head" 551 (r 272), e P "join" 562 (r 279), e P "__static_attributes__" 565 (r 280)]
noncomputable def o304 (P : Params) := di (.type "dict") (d304 P) 7
noncomputable def o305 := tu []
noncomputable def o306 := tr [(222, 4, 264), (226, 4, 271), (232, 4, 278)]
noncomputable def o307 := co "Merger" "Merger" 526 220 0 0 0 0 255 false 256 [.none, .none, .none, .none] 529
noncomputable def o308 := fr [o (r 257), o (r 3), o (r 254), .none, o (s "grammarmill.minimal" 389), .none, o (r 0)]
noncomputable def o309 := tu []
noncomputable def o310 := fl []
noncomputable def o311 := tu [s "self" 539, s "count" 540]
noncomputable def o312 := tu []
noncomputable def o313 := fo (cb 25 0 "Merger.__init__")
noncomputable def o314 := co "__init__" "Merger.__init__" 536 222 2 0 0 3 259 true 260 [.none, r 261, r 262, r 263] 541
noncomputable def o315 := fu (cb 25 0 "Merger.__init__") .none (s "grammarmill.minimal" 389) 264
noncomputable def o316 := tu []
noncomputable def o317 := fl []
noncomputable def o318 := tu [s "self" 547, s "number" 548]
noncomputable def o319 := tu []
noncomputable def o320 := fo (cb 25 1 "Merger.head")
noncomputable def o321 := co "head" "Merger.head" 544 226 2 0 0 3 266 true 267 [.none, r 268, r 269, r 270] 549
noncomputable def o322 := fu (cb 25 1 "Merger.head") .none (s "grammarmill.minimal" 389) 271
noncomputable def o323 := tu []
noncomputable def o324 := fl []
noncomputable def o325 := tu [s "self" 555, s "one" 556, s "other" 557, s "high" 558, s "low" 559]
noncomputable def o326 := tu []
noncomputable def o327 := fo (cb 25 2 "Merger.join")
noncomputable def o328 := co "join" "Merger.join" 552 232 3 0 0 3 273 true 274 [.none, r 275, r 276, r 277] 560
noncomputable def o329 := fu (cb 25 2 "Merger.join") .none (s "grammarmill.minimal" 389) 278
noncomputable def o330 := tu [s "heads" 563, s "sizes" 564]
noncomputable def d331 (P : Params) : List DictEntry := [e P "__module__" 531 (s "grammarmill.minimal" 389), e P "__firstlineno__" 535 (.int 220 534), e P "__init__" 543 (r 265), e P "head" 551 (r 272), e P "join" 562 (r 279), e P "__static_attributes__" 565 (r 280), e P "__dict__" 567 (r 283), e P "__weakref__" 569 (r 284), e P "__doc__" 570 .none]
noncomputable def o331 (P : Params) := di (.type "dict") (d331 P) 4
noncomputable def o332 := cl "Merger" [.type "object"] [r 282, .type "object"] 281 [] [.none, .none, o (s "Merger" 524), o (s "Merger" 532), o (.builtin "object.__new__"), o (.bool true)]
noncomputable def o333 := fi "getset_descriptor" [s "__dict__" 566, r 282, .builtin "function.__dict__", .builtin "function.__dict__#set"]
noncomputable def o334 := fi "getset_descriptor" [s "__weakref__" 568, r 282, .builtin "ExceptionGroup.__weakref__", .none]
noncomputable def o335 := fi "super" [r 282, r 282, r 282]
noncomputable def o336 := fi "builtin_function_or_method" [.builtin "object.__init_subclass__", r 282]
noncomputable def o337 := tu []
noncomputable def o338 := fl []
noncomputable def o339 := tu [s "dfa" 576, s "state" 577, s "number" 578]
noncomputable def o340 := tu []
noncomputable def o341 := fo (st 26)
noncomputable def o342 := co "goal_of" "goal_of" 573 242 3 0 0 3 287 true 288 [.none, r 289, r 290, r 291] 579
noncomputable def o343 := fu (st 26) .none (s "grammarmill.minimal" 389) 292
noncomputable def o344 := tu []
noncomputable def o345 := fl []
noncomputable def o346 := tu [s "dfa" 585, s "state" 586]
noncomputable def o347 := tu []
noncomputable def o348 := fo (st 27)
noncomputable def o349 := co "tags_at" "tags_at" 582 246 2 0 0 3 294 true 295 [.none, r 296, r 297, r 298] 587
noncomputable def o350 := fu (st 27) .none (s "grammarmill.minimal" 389) 299
noncomputable def o351 := tu []
noncomputable def o352 := fl []
noncomputable def o353 := tu [s "state" 593, s "lead" 594]
noncomputable def o354 := tu []
noncomputable def o355 := fo (st 28)
noncomputable def o356 := co "place_of" "place_of" 590 250 2 0 0 3 301 true 302 [.none, r 303, r 304, r 305] 595
noncomputable def o357 := fu (st 28) .none (s "grammarmill.minimal" 389) 306
noncomputable def d358 (P : Params) : List DictEntry := (d300 P).set 0 (e P "__name__" 165 (s "law_pq0557_01" 689)) ++ [e P "check_counts" 605 (r 314), e P "same" 619 (r 321), e P "first_word" 642 (r 328), e P "difference" 650 (r 335), e P "pair_key" 658 (r 342), e P "way_apart" 669 (r 349), e P "words_apart" 688 (r 356), e P "_law_pen" 699 (r 363), e P "_law_draw" 708 (r 370), e P "_law_automaton" 714 (r 375), e P "_law_bound" 720 (r 380), e P "_law_tags" 730 (r 387)]
noncomputable def o358 (P : Params) := di (.type "dict") (d358 P) 45
noncomputable def o359 := tr [(1, 0, 20), (5, 0, 27), (14, 0, 55), (17, 0, 67), (29, 0, 72), (37, 0, 79), (59, 0, 134), (63, 0, 141), (68, 0, 146), (71, 0, 151), (88, 0, 158), (90, 0, 163), (99, 0, 170), (156, 0, 226), (165, 0, 231), (177, 0, 238), (208, 0, 243), (217, 0, 250), (220, 0, 257), (242, 0, 292), (246, 0, 299), (250, 0, 306), (254, 0, 313), (257, 0, 320), (270, 0, 327), (298, 0, 334), (300, 0, 341), (302, 0, 348), (307, 0, 355), (339, 0, 362), (344, 0, 369), (351, 0, 374), (358, 0, 379), (363, 0, 386)]
noncomputable def o360 := tu []
noncomputable def o361 := fl []
noncomputable def o362 := tu [s "one" 601, s "other" 602]
noncomputable def o363 := tu []
noncomputable def o364 := fo (st 29)
noncomputable def o365 := co "check_counts" "check_counts" 598 254 2 0 0 3 308 true 309 [.none, r 310, r 311, r 312] 603
noncomputable def o366 := fu (st 29) .none (s "grammarmill.minimal" 389) 313
noncomputable def o367 := tu []
noncomputable def o368 := fl []
noncomputable def o369 := tu [s "one" 609, s "other" 610, s "first" 611, s "kins" 612, s "waiting" 613, s "left" 614, s "right" 615, s "number" 616]
noncomputable def o370 := tu []
noncomputable def o371 := fo (st 30)
noncomputable def o372 := co "same" "same" 606 257 2 0 0 3 315 true 316 [.none, r 317, r 318, r 319] 617
noncomputable def o373 := fu (st 30) .none (s "grammarmill.minimal" 389) 320
noncomputable def o374 := tu []
noncomputable def o375 := fl []
noncomputable def o376 := tu [s "one" 623, s "other" 624, s "is_within" 625, s "width" 626, s "pairs" 627, s "froms" 628, s "known" 629, s "at" 630, s "left" 631, s "right" 632, s "mine" 633, s "yours" 634, s "word" 635, s "number" 636, s "left_goal" 637, s "right_goal" 638, s "key" 639]
noncomputable def o377 := tu []
noncomputable def o378 := fo (st 31)
noncomputable def o379 := co "first_word" "first_word" 620 270 3 0 0 3 322 true 323 [.none, r 324, r 325, r 326] 640
noncomputable def o380 := fu (st 31) .none (s "grammarmill.minimal" 389) 327
noncomputable def o381 := tu []
noncomputable def o382 := fl []
noncomputable def o383 := tu [s "one" 646, s "other" 647]
noncomputable def o384 := tu []
noncomputable def o385 := fo (st 32)
noncomputable def o386 := co "difference" "difference" 643 298 2 0 0 3 329 true 330 [.none, r 331, r 332, r 333] 648
noncomputable def o387 := fu (st 32) .none (s "grammarmill.minimal" 389) 334
noncomputable def o388 := tu []
noncomputable def o389 := fl []
noncomputable def o390 := tu [s "one" 654, s "other" 655]
noncomputable def o391 := tu []
noncomputable def o392 := fo (st 33)
noncomputable def o393 := co "pair_key" "pair_key" 651 300 2 0 0 3 336 true 337 [.none, r 338, r 339, r 340] 656
noncomputable def o394 := fu (st 33) .none (s "grammarmill.minimal" 389) 341
noncomputable def o395 := tu []
noncomputable def o396 := fl []
noncomputable def o397 := tu [s "dfa" 662, s "words" 663, s "low" 664, s "high" 665, s "number" 666]
noncomputable def o398 := tu []
noncomputable def o399 := fo (st 34)
noncomputable def o400 := co "way_apart" "way_apart" 659 302 4 0 0 3 343 true 344 [.none, r 345, r 346, r 347] 667
noncomputable def o401 := fu (st 34) .none (s "grammarmill.minimal" 389) 348
noncomputable def o402 := tu []
noncomputable def o403 := fl []
noncomputable def o404 := tu [s "dfa" 673, s "whole" 674, s "words" 675, s "waiting" 676, s "high" 677, s "low" 678, s "is_growing" 679, s "found" 680, s "still" 681, s "number" 682, s "goals" 683, s "word" 684, s "told_apart" 685]
noncomputable def o405 := tu []
noncomputable def o406 := fo (st 35)
noncomputable def o407 := co "words_apart" "words_apart" 670 307 1 0 0 3 350 true 351 [.none, r 352, r 353, r 354] 686
noncomputable def o408 := fu (st 35) .none (s "grammarmill.minimal" 389) 355
noncomputable def o409 := tu []
noncomputable def o410 := fl []
noncomputable def o411 := tu [s "script" 694, s "number" 695, s "cell" 696]
noncomputable def o412 := tu []
noncomputable def o413 := fo (st 37)
noncomputable def o414 := co "_law_pen" "_law_pen" 691 339 1 0 0 3 357 true 358 [.none, r 359, r 360, r 361] 697
noncomputable def o415 := fu (st 37) .none (s "law_pq0557_01" 689) 362
noncomputable def o416 := tu []
noncomputable def o417 := fl []
noncomputable def o418 := tu [s "pen" 703, s "many" 704, s "digit" 705]
noncomputable def o419 := tu []
noncomputable def o420 := fo (st 38)
noncomputable def o421 := co "_law_draw" "_law_draw" 700 344 2 0 0 3 364 true 365 [.none, r 366, r 367, r 368] 706
noncomputable def o422 := fu (st 38) .none (s "law_pq0557_01" 689) 369
noncomputable def o423 := tu []
noncomputable def o424 := fl []
noncomputable def o425 := fo (st 39)
noncomputable def o426 := co "_law_automaton" "_law_automaton" 709 351 2 0 0 3 371 true 372 [.none, .none, .none, r 373] 712
noncomputable def o427 := fu (st 39) .none (s "law_pq0557_01" 689) 374
noncomputable def o428 := tu []
noncomputable def o429 := fl []
noncomputable def o430 := fo (st 40)
noncomputable def o431 := co "_law_bound" "_law_bound" 715 358 1 0 0 3 376 true 377 [.none, .none, .none, r 378] 718
noncomputable def o432 := fu (st 40) .none (s "law_pq0557_01" 689) 379
noncomputable def o433 := tu []
noncomputable def o434 := fl []
noncomputable def o435 := tu [s "dfa" 724, s "state" 725, s "word" 726, s "number" 727]
noncomputable def o436 := tu []
noncomputable def o437 := fo (st 41)
noncomputable def o438 := co "_law_tags" "_law_tags" 721 363 3 0 0 3 381 true 382 [.none, r 383, r 384, r 385] 728
noncomputable def o439 := fu (st 41) .none (s "law_pq0557_01" 689) 386
noncomputable def d440 (P : Params) : List DictEntry := d358 P ++ [e P "_law_words" 736 (r 392), e P "_law_first" 749 (r 399), e P "law" 755 (r 404)]
noncomputable def o440 (P : Params) := di (.type "dict") (d440 P) 48
noncomputable def o441 := tr [(1, 0, 20), (5, 0, 27), (14, 0, 55), (17, 0, 67), (29, 0, 72), (37, 0, 79), (59, 0, 134), (63, 0, 141), (68, 0, 146), (71, 0, 151), (88, 0, 158), (90, 0, 163), (99, 0, 170), (156, 0, 226), (165, 0, 231), (177, 0, 238), (208, 0, 243), (217, 0, 250), (220, 0, 257), (242, 0, 292), (246, 0, 299), (250, 0, 306), (254, 0, 313), (257, 0, 320), (270, 0, 327), (298, 0, 334), (300, 0, 341), (302, 0, 348), (307, 0, 355), (339, 0, 362), (344, 0, 369), (351, 0, 374), (358, 0, 379), (363, 0, 386), (367, 0, 391), (372, 0, 398), (377, 0, 403)]
noncomputable def o442 := tu []
noncomputable def o443 := fl []
noncomputable def o444 := fo (st 42)
noncomputable def o445 := co "_law_words" "_law_words" 731 367 2 0 0 3 388 true 389 [.none, .none, .none, r 390] 734
noncomputable def o446 := fu (st 42) .none (s "law_pq0557_01" 689) 391
noncomputable def o447 := tu []
noncomputable def o448 := fl []
noncomputable def o449 := tu [s "one" 740, s "two" 741, s "state" 742, s "other" 743, s "width" 744, s "most" 745, s "word" 746]
noncomputable def o450 := tu []
noncomputable def o451 := fo (st 43)
noncomputable def o452 := co "_law_first" "_law_first" 737 372 6 0 0 3 393 true 394 [.none, r 395, r 396, r 397] 747
noncomputable def o453 := fu (st 43) .none (s "law_pq0557_01" 689) 398
noncomputable def o454 := tu []
noncomputable def o455 := fl []
noncomputable def o456 := fo (st 44)
noncomputable def o457 := co "law" "law" 750 377 1 0 0 3 400 true 401 [.none, .none, .none, r 402] 753
noncomputable def o458 := fu (st 44) .none (s "law_pq0557_01" 689) 403
noncomputable def L0 (P : Params) : List Obj := [boot_o_0 P, boot_o_1 P, boot_o_2 P, boot_o_3 P, boot_o_4 P, boot_o_5 P, boot_o_6 P, boot_o_7 P, boot_o_8 P, boot_o_9 P, boot_o_10 P, o43, o44, o45, o46]
noncomputable def L1 (P : Params) : List Obj := (((L0 P).set 2 (o49 P)).set 3 (o50 P)).set 12 o51 ++ [o52, o53, o54, o55, o56, o57, o58, o59, o60, o61 P, o62, o63, o64, o65, o66, o67, o68, o69, o70, o71, o72, o73, o74, o75, o76, o77, o78, o79, o80, o81, o82 P, o83, o84, o85, o86]
noncomputable def L2 (P : Params) : List Obj := (((L1 P).set 3 (o87 P)).set 12 o88).set 46 o89 ++ [o90, o91, o92 P, o93, o94, o95, o96, o97, o98 P, o99, o100, o101, o102, o103, o104, o105, o106, o107, o108, o109, o110, o111, o112, o113]
noncomputable def L3 (P : Params) : List Obj := ((L2 P).set 3 (o114 P)).set 12 o115 ++ [o116, o117, o118 P, o119, o120, o121, o122, o123, o124, o125, o126, o127, o128, o129, o130, o131, o132, o133, o134, o135, o136, o137, o138, o139, o140, o141, o142, o143, o144, o145, o146, o147, o148, o149, o150, o151, o152, o153, o154, o155, o156, o157, o158, o159, o160, o161, o162, o163, o164 P, o165, o166, o167, o168, o169]
noncomputable def L4 (P : Params) : List Obj := ((L3 P).set 3 (o170 P)).set 12 o171 ++ [o172, o173, o174, o175, o176, o177, o178, o179, o180, o181, o182, o183, o184, o185, o186, o187, o188, o189, o190, o191, o192, o193, o194, o195, o196, o197, o198, o199, o200, o201, o202, o203, o204, o205, o206, o207, o208]
noncomputable def L5 (P : Params) : List Obj := ((L4 P).set 3 (o209 P)).set 12 o210 ++ [o211, o212, o213 P, o214, o215, o216, o217, o218, o219, o220, o221, o222, o223, o224, o225, o226, o227, o228, o229, o230, o231, o232, o233, o234, o235, o236, o237, o238, o239, o240, o241, o242, o243, o244, o245, o246, o247, o248, o249, o250, o251, o252, o253, o254, o255, o256, o257, o258, o259, o260, o261 P, o262, o263, o264, o265, o266]
noncomputable def L6 (P : Params) : List Obj := ((L5 P).set 3 (o267 P)).set 12 o268 ++ [o269, o270, o271, o272, o273, o274, o275, o276, o277, o278, o279, o280, o281, o282, o283, o284, o285, o286, o287, o288, o289, o290, o291, o292, o293, o294, o295, o296, o297, o298, o299]
noncomputable def L7 (P : Params) : List Obj := ((L6 P).set 3 (o300 P)).set 12 o301 ++ [o302, o303, o304 P, o305, o306, o307, o308, o309, o310, o311, o312, o313, o314, o315, o316, o317, o318, o319, o320, o321, o322, o323, o324, o325, o326, o327, o328, o329, o330, o331 P, o332, o333, o334, o335, o336, o337, o338, o339, o340, o341, o342, o343, o344, o345, o346, o347, o348, o349, o350, o351, o352, o353, o354, o355, o356, o357]
noncomputable def L8 (P : Params) : List Obj := ((L7 P).set 3 (o358 P)).set 12 o359 ++ [o360, o361, o362, o363, o364, o365, o366, o367, o368, o369, o370, o371, o372, o373, o374, o375, o376, o377, o378, o379, o380, o381, o382, o383, o384, o385, o386, o387, o388, o389, o390, o391, o392, o393, o394, o395, o396, o397, o398, o399, o400, o401, o402, o403, o404, o405, o406, o407, o408, o409, o410, o411, o412, o413, o414, o415, o416, o417, o418, o419, o420, o421, o422, o423, o424, o425, o426, o427, o428, o429, o430, o431, o432, o433, o434, o435, o436, o437, o438, o439]
noncomputable def L9 (P : Params) : List Obj := ((L8 P).set 3 (o440 P)).set 12 o441 ++ [o442, o443, o444, o445, o446, o447, o448, o449, o450, o451, o452, o453, o454, o455, o456, o457, o458]
noncomputable def Ha (P : Params) : Heap := ⟨⟨[boot_o_0 P, boot_o_1 P, boot_o_2 P, boot_o_3 P, boot_o_4 P, boot_o_5 P, boot_o_6 P, boot_o_7 P, boot_o_8 P, boot_o_9 P, boot_o_10 P, o43, o44, o45, o46]⟩, {}⟩
noncomputable def Hf (P : Params) : Heap := ⟨⟨[boot_o_0 P, boot_o_1 P, o49 P, o440 P, boot_o_4 P, boot_o_5 P, boot_o_6 P, boot_o_7 P, boot_o_8 P, boot_o_9 P, boot_o_10 P, o43, o441, o45, o46, o52, o53, o54, o55, o56, o57, o58, o59, o60, o61 P, o62, o63, o64, o65, o66, o67, o68, o69, o70, o71, o72, o73, o74, o75, o76, o77, o78, o79, o80, o81, o82 P, o89, o84, o85, o86, o90, o91, o92 P, o93, o94, o95, o96, o97, o98 P, o99, o100, o101, o102, o103, o104, o105, o106, o107, o108, o109, o110, o111, o112, o113, o116, o117, o118 P, o119, o120, o121, o122, o123, o124, o125, o126, o127, o128, o129, o130, o131, o132, o133, o134, o135, o136, o137, o138, o139, o140, o141, o142, o143, o144, o145, o146, o147, o148, o149, o150, o151, o152, o153, o154, o155, o156, o157, o158, o159, o160, o161, o162, o163, o164 P, o165, o166, o167, o168, o169, o172, o173, o174, o175, o176, o177, o178, o179, o180, o181, o182, o183, o184, o185, o186, o187, o188, o189, o190, o191, o192, o193, o194, o195, o196, o197, o198, o199, o200, o201, o202, o203, o204, o205, o206, o207, o208, o211, o212, o213 P, o214, o215, o216, o217, o218, o219, o220, o221, o222, o223, o224, o225, o226, o227, o228, o229, o230, o231, o232, o233, o234, o235, o236, o237, o238, o239, o240, o241, o242, o243, o244, o245, o246, o247, o248, o249, o250, o251, o252, o253, o254, o255, o256, o257, o258, o259, o260, o261 P, o262, o263, o264, o265, o266, o269, o270, o271, o272, o273, o274, o275, o276, o277, o278, o279, o280, o281, o282, o283, o284, o285, o286, o287, o288, o289, o290, o291, o292, o293, o294, o295, o296, o297, o298, o299, o302, o303, o304 P, o305, o306, o307, o308, o309, o310, o311, o312, o313, o314, o315, o316, o317, o318, o319, o320, o321, o322, o323, o324, o325, o326, o327, o328, o329, o330, o331 P, o332, o333, o334, o335, o336, o337, o338, o339, o340, o341, o342, o343, o344, o345, o346, o347, o348, o349, o350, o351, o352, o353, o354, o355, o356, o357, o360, o361, o362, o363, o364, o365, o366, o367, o368, o369, o370, o371, o372, o373, o374, o375, o376, o377, o378, o379, o380, o381, o382, o383, o384, o385, o386, o387, o388, o389, o390, o391, o392, o393, o394, o395, o396, o397, o398, o399, o400, o401, o402, o403, o404, o405, o406, o407, o408, o409, o410, o411, o412, o413, o414, o415, o416, o417, o418, o419, o420, o421, o422, o423, o424, o425, o426, o427, o428, o429, o430, o431, o432, o433, o434, o435, o436, o437, o438, o439, o442, o443, o444, o445, o446, o447, o448, o449, o450, o451, o452, o453, o454, o455, o456, o457, o458]⟩, {}⟩
noncomputable def K (P : Params) : Frag := [(2, o49 P), (3, o440 P), (15, o52), (17, o54), (18, o55), (20, o57), (21, o58), (22, o59), (29, o66), (30, o67), (32, o69), (33, o70), (35, o72), (36, o73), (37, o74), (39, o76), (40, o77), (42, o79), (43, o80), (44, o81), (45, o82 P), (46, o89), (47, o84), (50, o90), (57, o97), (58, o98 P), (59, o99), (62, o102), (64, o104), (65, o105), (67, o107), (68, o108), (69, o109), (72, o112), (73, o113), (81, o123), (83, o125), (84, o126), (86, o128), (87, o129), (88, o130), (90, o132), (91, o133), (93, o135), (94, o136), (95, o137), (97, o139), (98, o140), (100, o142), (101, o143), (102, o144), (104, o146), (105, o147), (107, o149), (108, o150), (109, o151), (112, o154), (113, o155), (114, o156), (116, o158), (117, o159), (119, o161), (120, o162), (121, o163), (122, o164 P), (123, o165), (124, o166), (125, o167), (128, o172), (129, o173), (131, o175), (132, o176), (134, o178), (135, o179), (136, o180), (138, o182), (139, o183), (141, o185), (142, o186), (143, o187), (146, o190), (147, o191), (148, o192), (151, o195), (152, o196), (153, o197), (155, o199), (156, o200), (158, o202), (159, o203), (160, o204), (163, o207), (164, o208), (172, o218), (174, o220), (175, o221), (177, o223), (178, o224), (179, o225), (181, o227), (182, o228), (184, o230), (185, o231), (186, o232), (188, o234), (189, o235), (191, o237), (192, o238), (193, o239), (195, o241), (196, o242), (198, o244), (199, o245), (200, o246), (202, o248), (203, o249), (205, o251), (206, o252), (207, o253), (209, o255), (210, o256), (212, o258), (213, o259), (214, o260), (215, o261 P), (216, o262), (217, o263), (218, o264), (221, o269), (223, o271), (224, o272), (226, o274), (227, o275), (228, o276), (231, o279), (232, o280), (233, o281), (235, o283), (236, o284), (238, o286), (239, o287), (240, o288), (243, o291), (244, o292), (245, o293), (247, o295), (248, o296), (250, o298), (251, o299), (259, o309), (261, o311), (262, o312), (264, o314), (265, o315), (266, o316), (268, o318), (269, o319), (271, o321), (272, o322), (273, o323), (275, o325), (276, o326), (278, o328), (279, o329), (280, o330), (281, o331 P), (282, o332), (283, o333), (284, o334), (287, o337), (289, o339), (290, o340), (292, o342), (293, o343), (294, o344), (296, o346), (297, o347), (299, o349), (300, o350), (301, o351), (303, o353), (304, o354), (306, o356), (307, o357), (308, o360), (310, o362), (311, o363), (313, o365), (314, o366), (315, o367), (317, o369), (318, o370), (320, o372), (321, o373), (322, o374), (324, o376), (325, o377), (327, o379), (328, o380), (329, o381), (331, o383), (332, o384), (334, o386), (335, o387), (336, o388), (338, o390), (339, o391), (341, o393), (342, o394), (343, o395), (345, o397), (346, o398), (348, o400), (349, o401), (350, o402), (352, o404), (353, o405), (355, o407), (356, o408), (357, o409), (359, o411), (360, o412), (362, o414), (363, o415), (364, o416), (366, o418), (367, o419), (369, o421), (370, o422), (371, o423), (374, o426), (375, o427), (376, o428), (379, o431), (380, o432), (381, o433), (383, o435), (384, o436), (386, o438), (387, o439), (388, o442), (391, o445), (392, o446), (393, o447), (395, o449), (396, o450), (398, o452), (399, o453), (400, o454), (403, o457), (404, o458)]
noncomputable def Ki : List Addr := [2, 3, 15, 17, 18, 20, 21, 22, 29, 30, 32, 33, 35, 36, 37, 39, 40, 42, 43, 44, 45, 46, 47, 50, 57, 58, 59, 62, 64, 65, 67, 68, 69, 72, 73, 81, 83, 84, 86, 87, 88, 90, 91, 93, 94, 95, 97, 98, 100, 101, 102, 104, 105, 107, 108, 109, 112, 113, 114, 116, 117, 119, 120, 121, 122, 123, 124, 125, 128, 129, 131, 132, 134, 135, 136, 138, 139, 141, 142, 143, 146, 147, 148, 151, 152, 153, 155, 156, 158, 159, 160, 163, 164, 172, 174, 175, 177, 178, 179, 181, 182, 184, 185, 186, 188, 189, 191, 192, 193, 195, 196, 198, 199, 200, 202, 203, 205, 206, 207, 209, 210, 212, 213, 214, 215, 216, 217, 218, 221, 223, 224, 226, 227, 228, 231, 232, 233, 235, 236, 238, 239, 240, 243, 244, 245, 247, 248, 250, 251, 259, 261, 262, 264, 265, 266, 268, 269, 271, 272, 273, 275, 276, 278, 279, 280, 281, 282, 283, 284, 287, 289, 290, 292, 293, 294, 296, 297, 299, 300, 301, 303, 304, 306, 307, 308, 310, 311, 313, 314, 315, 317, 318, 320, 321, 322, 324, 325, 327, 328, 329, 331, 332, 334, 335, 336, 338, 339, 341, 342, 343, 345, 346, 348, 349, 350, 352, 353, 355, 356, 357, 359, 360, 362, 363, 364, 366, 367, 369, 370, 371, 374, 375, 376, 379, 380, 381, 383, 384, 386, 387, 388, 391, 392, 393, 395, 396, 398, 399, 400, 403, 404]
noncomputable def env : Env := { scope := pg.main.scope, locals := mainNs, globals := mainNs, cells := [], code := .ref 13, frame := some 14 }
noncomputable def cd : Code := .body (behindTheImports pg) env
noncomputable def q0 : PySem.Pos := ⟨0, 0, 0, 0⟩
noncomputable def ev {α : Type} : List α → List α
 | [] => []
 | [x] => [x]
 | x :: _ :: l => x :: ev l
noncomputable def bt : Nat → List Obj → BT
 | n+1, x :: l => .node x (bt n (ev l)) (bt n (ev l.tail))
 | _, _ => .nil
noncomputable def T (L : Params → List Obj) (n k : Nat) (w : World) (os : OsState) : SharedT := ⟨bt 10 (L w.params), n, {}, ⟨[]⟩, {}, k, os⟩
noncomputable def sub (a n : Nat) : List Stmt := (pg.main.body.drop a).take n
noncomputable def R (N : Nat) (a n : Nat) (L : Params → List Obj) (m k : Nat) (p : PySem.Pos) (L' : Params → List Obj) (m' k' : Nat) (p' : PySem.Pos) : Prop :=
 ∀ w, (fun os => segRunT treeTable pg w 11 (some (.ref 6)) 1 N (T L m k w os) (piecesOf (sub a n) env cd p [topFrame q0])) = fun os => some (.next, T L' m' k' w os, cd, p')
noncomputable def R' (N : Nat) (a n : Nat) (L : Params → List Obj) (m k : Nat) (p : PySem.Pos) (L' : Params → List Obj) (m' k' : Nat) (p' : PySem.Pos) : Prop :=
 ∀ w, (fun os => Fast.tw10110043849684766642 Fast.tw14364793385576792824 pg w 11 (some (.ref 6)) 1 N (T L m k w os) (piecesOf (sub a n) env cd p [topFrame q0])) = fun os => some (.next, T L' m' k' w os, cd, p')
theorem R.of {N a n L m k p L' m' k' p'} (h : R' N a n L m k p L' m' k' p') : R N a n L m k p L' m' k' p' := by
 unfold R; rw [Fast.te10110043849684766642, Fast.te14364793385576792824]; exact h
theorem r0 : R 301 0 3 L0 15 187 ⟨0, 0, 0, 0⟩ L1 50 234 ⟨5, 0, 13, 16⟩ := R.of fun w => by kernel_rfl
theorem r1 : R 307 3 6 L1 50 234 ⟨5, 0, 13, 16⟩ L2 74 276 ⟨36, 0, 36, 4⟩ := R.of fun w => by kernel_rfl
theorem r2 : R 379 9 1 L2 74 276 ⟨36, 0, 36, 4⟩ L3 128 343 ⟨37, 0, 58, 16⟩ := R.of fun w => by kernel_rfl
theorem r3 : R 192 10 8 L3 128 343 ⟨37, 0, 58, 16⟩ L4 165 391 ⟨98, 0, 98, 8⟩ := R.of fun w => by kernel_rfl
theorem r4 : R 396 18 1 L4 165 391 ⟨98, 0, 98, 8⟩ L5 221 473 ⟨99, 0, 155, 25⟩ := R.of fun w => by kernel_rfl
theorem r5 : R 167 19 6 L5 221 473 ⟨99, 0, 155, 25⟩ L6 252 524 ⟨217, 0, 219, 48⟩ := R.of fun w => by kernel_rfl
theorem r6 : R 382 25 4 L6 252 524 ⟨217, 0, 219, 48⟩ L7 308 598 ⟨250, 0, 253, 27⟩ := R.of fun w => by kernel_rfl
theorem r7 : R 401 29 13 L7 308 598 ⟨250, 0, 253, 27⟩ L8 388 731 ⟨363, 0, 366, 48⟩ := R.of fun w => by kernel_rfl
theorem r8 : R 88 42 3 L8 388 731 ⟨363, 0, 366, 48⟩ L9 405 756 ⟨377, 0, 401, 15⟩ := R.of fun w => by kernel_rfl
noncomputable def S0 (w : World) (os : OsState) : Shared := ⟨boot_heap w.params, ⟨[]⟩, boot_drawn, boot_toks, os⟩
noncomputable def Sa (w : World) (os : OsState) : Shared := ⟨Ha w.params, ⟨[]⟩, {}, 187, os⟩
noncomputable def Sf (w : World) (os : OsState) : Shared := ⟨Hf w.params, ⟨[]⟩, {}, 756, os⟩
theorem pre : ∀ w, (fun os => topGo treeTable pg w 11 (some (.ref 6)) 12 (S0 w os) (topStub pg)) = fun os => some (Sa w os, ⟨denote treeTable cd, cd, q0, [topFrame q0]⟩) := fun w => by
 rw [Fast.te15667345088766844465, Fast.te14364793385576792824, Fast.te11892475500146522536]; kernel_rfl
theorem blk : ∀ w, (fun os => segRun treeTable pg w 11 (some (.ref 6)) 1 1 (Sa w os) (blockOf (behindTheImports pg) env cd q0 [topFrame q0])) = fun os => some (.next, (T L0 15 187 w os).abs, cd, q0) := fun w => by
 rw [Fast.te14374325043358763698, Fast.te14364793385576792824]; kernel_rfl
theorem fin : ∀ w, (fun os => topRun treeTable pg w 11 (some (.ref 6)) 2 (T L9 405 756 w os).abs ⟨doneF .next, cd, ⟨377, 0, 401, 15⟩, [topFrame q0]⟩) = fun os => some (Sf w os) := fun w => by
 rw [Fast.te14082659384304107361, Fast.te14364793385576792824]; kernel_rfl
theorem body_ : behindTheImports pg = sub 0 3 ++ (sub 3 6 ++ (sub 9 1 ++ (sub 10 8 ++ (sub 18 1 ++ (sub 19 6 ++ (sub 25 4 ++ (sub 29 13 ++ (sub 42 3 ++ [])))))))) := by kernel_rfl
noncomputable def M : Nat := 12 + (1 + (301 + (307 + (379 + (192 + (396 + (167 + (382 + (401 + (88 + 2))))))))))
theorem run (w : World) (os : OsState) : topRun treeTable pg w 11 (some (.ref 6)) M (S0 w os) (topStub pg) = some (Sf w os) := by
 refine go_top (congrFun (pre w) os) (piece_block (congrFun (blk w) os) ?_)
 rw [body_]
 exact piece_app (segRun_of (congrFun (r0 w) os)) (piece_app (segRun_of (congrFun (r1 w) os)) (piece_app (segRun_of (congrFun (r2 w) os)) (piece_app (segRun_of (congrFun (r3 w) os))
  (piece_app (segRun_of (congrFun (r4 w) os)) (piece_app (segRun_of (congrFun (r5 w) os)) (piece_app (segRun_of (congrFun (r6 w) os)) (piece_app (segRun_of (congrFun (r7 w) os))
  (piece_app (segRun_of (congrFun (r8 w) os)) (piece_nil (congrFun (fin w) os))))))))))
theorem open_ : ∀ w : World, (fencedOpening treeTable pg w 5334).map (fun s => (s.heap, s.gens, s.drawn, s.toks)) = some (boot_heap w.params, ⟨[]⟩, boot_drawn, boot_toks) :=
 boot_open (by kernel_rfl) (by decide) fun s => by kernel_rfl
theorem size : ∀ w : World, ((boot_heap w.params).isNs mainGlobals && (#[] : Array GenState).size == 0, (boot_heap w.params).objs.size, (boot_heap w.params).nsMap mainGlobals "__annotations__") = (true, 11, some (.ref 6)) := fun w => by
 rw [Fast.te8920871248978507458]; kernel_rfl
noncomputable def q : Program := view pg [0, 2, 3, 5, 6, 8, 9, 11, 12, 14, 15, 16, 18, 19, 20, 21, 22, 23, 24, 25, 26, 27, 28, 29, 30, 31, 32, 33, 34, 35, 37, 38, 39, 40, 41, 42, 43, 44]
noncomputable def lo : List Str := [.ofString "ToolError", .ofString "run", .ofString "numbered_dfa", .ofString "numbered_minimal"]
noncomputable def rs : WRecords := PySem.Challenge.rw_pq0557_01.row.toRowW.records
noncomputable def Xt (s : Shared) : Bool := xlAt q [] s && recOk rs s
theorem Kids : ∀ P, Ki = (K P).map (·.1) := fun P => by kernel_rfl
noncomputable def hook : Hook := kHook K Ki Kids
theorem k1 (w : World) : (fun os => (staticsOk (importedModules pg.main.body) (boot_heap w.params) (Hf w.params) && namesBound pg (Hf w.params) && gensDone (Sf w os) && laidKept (boot_heap w.params) (Hf w.params))) = fun _ => true := by
 rw [Fast.te5923862056798008813]; kernel_rfl
theorem k2 (w : World) : (fun os => seen ((recsOf q).map (·.name)) (ownsOf q) [] { Sf w os with gens := #[] }) = fun _ => expectedOf q := by
 rw [R.mapR_eq, Fast.te5160383126252970620, Fast.te3399658132070893891, Fast.te5991557255702980513]; kernel_rfl
theorem k3 (w : World) : (fun os => (Sf w os).heap.bltView) = fun _ => bltViewBooted := by kernel_rfl
theorem k4 (w : World) : (fun os => (Sf w os).heap.keysOk (looseW q lo) ((recsOf q).map (·.name)) ((litsOf q).map (·.1)) ((clssOf q (looseW q lo)).map (·.name)) && (Sf w os).heap.accountedOkI (importedModules pg.main.body) && (Sf w os).heap.isNs mainGlobals && (Sf w os).heap.isNs builtinsNs && tablesOk q (Sf w os).heap && Xt (Sf w os) && (if true then (Sf w os).gens.size == 0 else !leftWithCleanup (Sf w os).gens)) = fun _ => true := by
 rw [R.mapR_eq, Fast.te10880121769531294198, Fast.te821141287760084731, Fast.te3399658132070893891, Fast.te7409074990110511671, Fast.te13664370479719496447, Fast.te14722251495701143533, Fast.te5923862056798008813, Fast.te10994771534591457954]; kernel_rfl
theorem k5 (w : World) : (fun os => tabsOk q (Sf w os)) = fun _ => true := by
 rw [Fast.te479339242167458305]; kernel_rfl
theorem k6 (w : World) : (fun os => pinSeenD q (drecsOf q) (Sf w os)) = fun _ => pinGoodD (drecsOf q) := by
 rw [Fast.te16090120013241838585, Fast.te3247288618530077131]; kernel_rfl
theorem k7 (w : World) : (fun os => plainSeenE q (looseW q lo) (Sf w os)) = fun _ => plainGoodE q (looseW q lo) := by
 rw [Fast.te2386780881361962483, Fast.te821141287760084731]; kernel_rfl
theorem k8 (w : World) : (fun os => plainSeenD q lo (Sf w os)) = fun _ => plainGoodD q lo := by
 rw [Fast.te11698064438423848299]; kernel_rfl
theorem k9 (w : World) : (fun os => wideSeen q (Sf w os)) = fun _ => wideGood q := by
 rw [Fast.te7317090234206586261]; kernel_rfl
theorem k10 (w : World) : (fun os => clsSeenW q lo (Sf w os)) = fun _ => clsGoodW q lo := by
 rw [Fast.te7369524293546568484]; kernel_rfl
theorem k11 (w : World) : (fun os => hook.obs (Sf w os)) = fun _ => hook.val w := by kernel_rfl
theorem left : LeftO pg q lo Xt hook.obs hook.val 5334 true := by
 refine LeftO.of_pieces open_ size run (by decide) fun w => funext fun os => ?_
 exact looks_pair (congrFun (k1 w) os) (looks_pair (looks_pair (congrFun (k2 w) os) (looks_pair (congrFun (k3 w) os) (looks_pair (congrFun (k4 w) os) (looks_pair (congrFun (k5 w) os) (looks_pair (congrFun (k6 w) os)
  (looks_pair (congrFun (k7 w) os) (looks_pair (congrFun (k8 w) os) (looks_pair (congrFun (k9 w) os) (congrFun (k10 w) os))))))))) (congrFun (k11 w) os))
noncomputable def dk : DefRec × List (Str × Expr) := match defOf q (.ofString "law") with | some x => x | none => ⟨⟨default, default, default, default, default⟩, []⟩
theorem sa : namesResolve PySem.Challenge.rw_pq0557_01.row.prog = true := by kernel_rfl
theorem sb : (namesMeet PySem.Challenge.rw_pq0557_01.row.prog PySem.Challenge.rw_pq0557_01.row.prog.main.body fun _ n => attrL n) = true := by kernel_rfl
theorem sc : looksOpen PySem.Challenge.rw_pq0557_01.row.prog = true := by
 delta looksOpen
 repeat' first | with_reducible exact sa | with_reducible exact sb | with_reducible refine look_both ?_ ?_
 all_goals kernel_rfl
theorem sd : PySem.Challenge.rw_pq0557_01.row.wellSaid = true := by
 delta OpenRow.wellSaid OpenRow.partSaid
 repeat' first | with_reducible exact sc | with_reducible refine look_both ?_ ?_
 all_goals kernel_rfl
theorem said : PySem.Challenge.rw_pq0557_01.wellSaid = true := by
 delta OpenLaw.wellSaid
 repeat' first | with_reducible exact sd | with_reducible refine look_both ?_ ?_
 all_goals kernel_rfl
theorem top (h : WalkO q lo (XL q []) hook.says PySem.Challenge.rw_pq0557_01.row.toRowW dk.1 dk.2 fun f vs => PySem.call f vs) : PySem.Challenge.rw_pq0557_01.Holds := by
 refine holds_law said fun said => ?_
 refine holds_open (q := q) (loose := lo) (Xt := Xt) (XP := XL q []) (Yf := hook.obs) (Ya := hook.val) (YP := hook.says) (N := 5334) (d := dk.1) (kwd := dk.2) left hook.of hook.keeps (fun s e => xl_of s (Bool.and_eq_true_iff.mp e).1) XL.keeps
  (by kernel_rfl) (by kernel_rfl) (by kernel_rfl) (fun s e => recFacts_of (Bool.and_eq_true_iff.mp e).2) (by kernel_rfl) said (by kernel_rfl) ⟨rfl, rfl, rfl, rfl, rfl, by kernel_rfl⟩ ?hw h
 case hw => w_witness2
end Hk
set_option maxHeartbeats 4000000
namespace Mine
theorem neWorld : Nonempty World := ⟨{ draws := default, params := { strHash := default, shareClass := default, mergeTok := default, idOf := default, idOfShared := default, followText := default, idOfImm := default } }⟩
theorem neShared : Nonempty Shared := ⟨{}⟩
theorem neAround : Nonempty Around := ⟨{}⟩
noncomputable def ep1 {A : Type} (n : Nonempty (A)) (P : A → Prop) : A := Classical.epsilon fun p => ¬ P p
theorem eps1 {A : Type} {P : A → Prop} (n : Nonempty (A)) (h : P (ep1 n P)) : ∀ xa, P xa := fun xa => Classical.byContradiction fun k => (Classical.epsilon_spec (p := fun p : A => ¬ P p) ⟨xa, k⟩) h
noncomputable def ep2 {A B : Type} (n : Nonempty (A × B)) (P : A → B → Prop) : A × B := Classical.epsilon fun p => ¬ P p.1 p.2
theorem eps2 {A B : Type} {P : A → B → Prop} (n : Nonempty (A × B)) (h : P (ep2 n P).1 (ep2 n P).2) : ∀ xa xb, P xa xb := fun xa xb => Classical.byContradiction fun k => (Classical.epsilon_spec (p := fun p : A × B => ¬ P p.1 p.2) ⟨(xa, xb), k⟩) h
noncomputable def ep3 {A B C : Type} (n : Nonempty (A × (B × C))) (P : A → B → C → Prop) : A × (B × C) := Classical.epsilon fun p => ¬ P p.1 p.2.1 p.2.2
theorem eps3 {A B C : Type} {P : A → B → C → Prop} (n : Nonempty (A × (B × C))) (h : P (ep3 n P).1 (ep3 n P).2.1 (ep3 n P).2.2) : ∀ xa xb xc, P xa xb xc := fun xa xb xc => Classical.byContradiction fun k => (Classical.epsilon_spec (p := fun p : A × (B × C) => ¬ P p.1 p.2.1 p.2.2) ⟨(xa, xb, xc), k⟩) h
noncomputable def ep4 {A B C D : Type} (n : Nonempty (A × (B × (C × D)))) (P : A → B → C → D → Prop) : A × (B × (C × D)) := Classical.epsilon fun p => ¬ P p.1 p.2.1 p.2.2.1 p.2.2.2
theorem eps4 {A B C D : Type} {P : A → B → C → D → Prop} (n : Nonempty (A × (B × (C × D)))) (h : P (ep4 n P).1 (ep4 n P).2.1 (ep4 n P).2.2.1 (ep4 n P).2.2.2) : ∀ xa xb xc xd, P xa xb xc xd := fun xa xb xc xd => Classical.byContradiction fun k => (Classical.epsilon_spec (p := fun p : A × (B × (C × D)) => ¬ P p.1 p.2.1 p.2.2.1 p.2.2.2) ⟨(xa, xb, xc, xd), k⟩) h
noncomputable def ep5 {A B C D E : Type} (n : Nonempty (A × (B × (C × (D × E))))) (P : A → B → C → D → E → Prop) : A × (B × (C × (D × E))) := Classical.epsilon fun p => ¬ P p.1 p.2.1 p.2.2.1 p.2.2.2.1 p.2.2.2.2
theorem eps5 {A B C D E : Type} {P : A → B → C → D → E → Prop} (n : Nonempty (A × (B × (C × (D × E))))) (h : P (ep5 n P).1 (ep5 n P).2.1 (ep5 n P).2.2.1 (ep5 n P).2.2.2.1 (ep5 n P).2.2.2.2) : ∀ xa xb xc xd xe, P xa xb xc xd xe := fun xa xb xc xd xe => Classical.byContradiction fun k => (Classical.epsilon_spec (p := fun p : A × (B × (C × (D × E))) => ¬ P p.1 p.2.1 p.2.2.1 p.2.2.2.1 p.2.2.2.2) ⟨(xa, xb, xc, xd, xe), k⟩) h
noncomputable def ep6 {A B C D E F : Type} (n : Nonempty (A × (B × (C × (D × (E × F)))))) (P : A → B → C → D → E → F → Prop) : A × (B × (C × (D × (E × F)))) := Classical.epsilon fun p => ¬ P p.1 p.2.1 p.2.2.1 p.2.2.2.1 p.2.2.2.2.1 p.2.2.2.2.2
theorem eps6 {A B C D E F : Type} {P : A → B → C → D → E → F → Prop} (n : Nonempty (A × (B × (C × (D × (E × F)))))) (h : P (ep6 n P).1 (ep6 n P).2.1 (ep6 n P).2.2.1 (ep6 n P).2.2.2.1 (ep6 n P).2.2.2.2.1 (ep6 n P).2.2.2.2.2) : ∀ xa xb xc xd xe xf, P xa xb xc xd xe xf := fun xa xb xc xd xe xf => Classical.byContradiction fun k => (Classical.epsilon_spec (p := fun p : A × (B × (C × (D × (E × F)))) => ¬ P p.1 p.2.1 p.2.2.1 p.2.2.2.1 p.2.2.2.2.1 p.2.2.2.2.2) ⟨(xa, xb, xc, xd, xe, xf), k⟩) h
noncomputable def ep7 {A B C D E F G : Type} (n : Nonempty (A × (B × (C × (D × (E × (F × G))))))) (P : A → B → C → D → E → F → G → Prop) : A × (B × (C × (D × (E × (F × G))))) := Classical.epsilon fun p => ¬ P p.1 p.2.1 p.2.2.1 p.2.2.2.1 p.2.2.2.2.1 p.2.2.2.2.2.1 p.2.2.2.2.2.2
theorem eps7 {A B C D E F G : Type} {P : A → B → C → D → E → F → G → Prop} (n : Nonempty (A × (B × (C × (D × (E × (F × G))))))) (h : P (ep7 n P).1 (ep7 n P).2.1 (ep7 n P).2.2.1 (ep7 n P).2.2.2.1 (ep7 n P).2.2.2.2.1 (ep7 n P).2.2.2.2.2.1 (ep7 n P).2.2.2.2.2.2) : ∀ xa xb xc xd xe xf xg, P xa xb xc xd xe xf xg := fun xa xb xc xd xe xf xg => Classical.byContradiction fun k => (Classical.epsilon_spec (p := fun p : A × (B × (C × (D × (E × (F × G))))) => ¬ P p.1 p.2.1 p.2.2.1 p.2.2.2.1 p.2.2.2.2.1 p.2.2.2.2.2.1 p.2.2.2.2.2.2) ⟨(xa, xb, xc, xd, xe, xf, xg), k⟩) h
noncomputable def ep8 {A B C D E F G H : Type} (n : Nonempty (A × (B × (C × (D × (E × (F × (G × H)))))))) (P : A → B → C → D → E → F → G → H → Prop) : A × (B × (C × (D × (E × (F × (G × H)))))) := Classical.epsilon fun p => ¬ P p.1 p.2.1 p.2.2.1 p.2.2.2.1 p.2.2.2.2.1 p.2.2.2.2.2.1 p.2.2.2.2.2.2.1 p.2.2.2.2.2.2.2
theorem eps8 {A B C D E F G H : Type} {P : A → B → C → D → E → F → G → H → Prop} (n : Nonempty (A × (B × (C × (D × (E × (F × (G × H)))))))) (h : P (ep8 n P).1 (ep8 n P).2.1 (ep8 n P).2.2.1 (ep8 n P).2.2.2.1 (ep8 n P).2.2.2.2.1 (ep8 n P).2.2.2.2.2.1 (ep8 n P).2.2.2.2.2.2.1 (ep8 n P).2.2.2.2.2.2.2) : ∀ xa xb xc xd xe xf xg xh, P xa xb xc xd xe xf xg xh := fun xa xb xc xd xe xf xg xh => Classical.byContradiction fun k => (Classical.epsilon_spec (p := fun p : A × (B × (C × (D × (E × (F × (G × H)))))) => ¬ P p.1 p.2.1 p.2.2.1 p.2.2.2.1 p.2.2.2.2.1 p.2.2.2.2.2.1 p.2.2.2.2.2.2.1 p.2.2.2.2.2.2.2) ⟨(xa, xb, xc, xd, xe, xf, xg, xh), k⟩) h
noncomputable def ec {A : Type} (n : Nonempty A) (P : A → Prop) : A := Classical.epsilon P
theorem ex_cl {A : Type} {P : A → Prop} {G : Prop} (n : Nonempty A) (h : P (ec n P) → G) : (∃ a, P a) → G := fun x => h (Classical.epsilon_spec x)
theorem and_el {a b G : Prop} (h : a → b → G) : a ∧ b → G := fun x => h x.1 x.2
theorem ex_el {A : Type} {P : A → Prop} {G : Prop} (h : ∀ a, P a → G) : (∃ a, P a) → G := fun ⟨a, x⟩ => h a x
theorem prod_el {A B : Type} {P : A × B → Prop} (h : ∀ a b, P (a, b)) : ∀ p, P p := fun ⟨a, b⟩ => h a b
theorem or_el {a b G : Prop} (h : a ∨ b) (l : a → G) (r : b → G) : G := h.elim l r
theorem cut {A G : Prop} (a : A) (h : A → G) : G := h a
theorem gll {α : Type} {l : List α} {i : Nat} {a : α} (h : l[i]? = some a) : i < l.length := (List.getElem?_eq_some_iff.mp h).1
theorem nlt {a b : Nat} (h : b ≤ a → False) : a < b := Nat.lt_of_not_le h
theorem ilt {a b : Int} (h : b ≤ a → False) : a < b := Int.not_le.mp h
theorem nadd {a b c k : Nat} (h : a < b) (d : b + k ≤ c) : a + k < c := Nat.lt_of_lt_of_le (Nat.add_lt_add_right h k) d
section
variable {x y z m : Int} {a b c k n : Nat}
theorem c1 (h : 0 ≤ x := by assumption) : (x.toNat : Int) = x := Int.toNat_of_nonneg h
theorem c2 (h : x < y := by assumption) : x ≤ y := Int.le_of_lt h
theorem c3 (h : a < b := by assumption) : a ≤ b := Nat.le_of_lt h
theorem c4 {P Q : Prop} (h : P ∧ Q := by assumption) : P := h.1
theorem c5 {P Q : Prop} (h : P ∧ Q := by assumption) : Q := h.2
theorem c6 (h : a ≤ b := by assumption) (d : b ≤ c := by decide) : a ≤ c := Nat.le_trans h d
theorem c7 (h : a < b := by assumption) (d : b ≤ c := by decide) : a < c := Nat.lt_of_lt_of_le h d
theorem c8 (h : a < b := by assumption) (d : b + k ≤ c := by decide) : a + k < c := nadd h d
theorem c9 : 0 ≤ (a : Int) := Int.natCast_nonneg a
theorem tn1 (h : 0 ≤ x := by assumption) (k : x < n := by assumption) : x.toNat < n := (Int.toNat_lt h).mpr k
theorem tn2 (h : a < b := by assumption) (k : (b : Int) = x := by assumption) : (a : Int) < x := k ▸ Int.ofNat_lt.mpr h
theorem tn3 (h : a < b := by assumption) (k : b = c := by assumption) : (a : Int) < c := k ▸ Int.ofNat_lt.mpr h
theorem d1 (h : x < y := by assumption) (k : y ≤ z := by assumption) : x < z := Int.lt_of_lt_of_le h k
theorem d2 (h : x ≤ y := by assumption) (k : y < z := by assumption) : x < z := Int.lt_of_le_of_lt h k
theorem d3 (h : x < y := by assumption) (k : y < z := by assumption) : x < z := Int.lt_trans h k
theorem d4 (h : a < b := by assumption) (k : b ≤ c := by assumption) : a < c := Nat.lt_of_lt_of_le h k
theorem d5 (h : a ≤ b := by assumption) (k : b ≤ c := by assumption) : a ≤ c := Nat.le_trans h k
theorem d6 (h : x ≤ y := by assumption) (k : y ≤ z := by assumption) : x ≤ z := Int.le_trans h k
theorem le2 (h : a = b := by assumption) (l : b ≤ k := by assumption) (d : k ≤ n := by decide) : a ≤ n := h ▸ Nat.le_trans l d
theorem le3 (h : a ≤ b := by assumption) (l : b ≤ k := by assumption) (d : k ≤ n := by decide) : a ≤ n := Nat.le_trans h (Nat.le_trans l d)
theorem lt2 (h : x < n := by assumption) (l : n ≤ k := by assumption) (d : (k : Int) ≤ m := by decide) : x < m := Int.lt_of_lt_of_le h (Int.le_trans (Int.ofNat_le.mpr l) d)
theorem tl1 (h : 0 ≤ x := by assumption) (k : x < n := by assumption) (e : c = n := by assumption) : x.toNat < c := e ▸ (Int.toNat_lt h).mpr k
theorem tl2 (h : 0 ≤ x := by assumption) (k : x < n := by assumption) (e : n = c := by assumption) : x.toNat < c := e ▸ (Int.toNat_lt h).mpr k
end
def altsC (a b : Lean.TSyntax `tactic) : Lean.MacroM (Lean.TSyntax `tactic) := `(tactic| case zz => first | $a:tactic | $b:tactic)
def altsQ (a b : Lean.TSyntax `tactic) : Lean.MacroM (Lean.TSyntax `tactic) := `(tactic| ($a:tactic; $b:tactic))
def altsI (i : Lean.Ident) : Lean.MacroM (Lean.TSyntax `tactic) := `(tactic| refine $i ?_)
def altsX (i : Lean.Ident) : Lean.MacroM (Lean.TSyntax `tactic) := `(tactic| exact $i)
def altsE (q : Array (Lean.TSyntax `rintroPat)) : Lean.MacroM (Lean.TSyntax `tactic) := `(tactic| rintro $q*)
def altsB (s : Lean.Syntax) : Bool := (s.find? fun s => s.isOfKind ``Lean.Parser.Tactic.rcasesPatMed && s[0].getNumArgs > 1).isSome
def altsD (p : Lean.Syntax) : Bool := p.isOfKind ``Lean.Parser.Tactic.rcasesPat.one && p[0].getId != `rfl
def altsO (x : Lean.Syntax) : Lean.TSyntax `rintroPat := ⟨Lean.mkNode ``Lean.Parser.Tactic.rintroPat.one #[x]⟩
def alts : List String → Lean.TSyntax `tactic → (Lean.Ident → Lean.MacroM (Lean.TSyntax `tactic)) → Lean.MacroM (Lean.TSyntax `tactic)
 | [], r, _ => return r
 | s :: ss, r, f => do alts ss (← altsC (← f (Lean.mkIdent s.toName)) r) f
def altsP (k : Nat) (t s : Lean.Syntax) : Lean.MacroM Lean.Syntax := if t.getId.eraseMacroScopes == `zz then return s[0][0][0][1][k][1] else Lean.Macro.throwUnsupported
def altsG (f : Lean.Ident → Lean.MacroM (Lean.TSyntax `tactic)) : List String → Lean.TSyntax `tactic → Lean.MacroM (Lean.TSyntax `tactic)
 | h :: s :: l, r => do altsG f l (← altsC (← altsQ (← `(tactic| fail_if_success (fail_if_success with_reducible show $(Lean.mkIdent h.toName) ..))) (← alts (s.splitOn " ") (← `(tactic| fail)) f)) r)
 | _, r => return r
def altsA (e : Lean.Term) : List Lean.Ident → Lean.MacroM (Array (Lean.TSyntax ``Lean.Parser.Tactic.generalizeArg))
 | [x] => return #[← `(Lean.Parser.Tactic.generalizeArg| $e = $x)]
 | x :: l => return #[← `(Lean.Parser.Tactic.generalizeArg| ($e).1 = $x)] ++ (← altsA (← `(($e).2)) l)
 | [] => return #[]
def altsN (ne : Lean.TSyntax `tactic) (ids : List Lean.Ident) (ps : Array (Lean.TSyntax `rintroPat)) : Nat → Lean.MacroM (Lean.TSyntax `tactic)
 | 0 => `(tactic| fail)
 | n + 1 => do
  let i (s : String) := Lean.mkIdent (.mkSimple (s ++ toString (n + 1)))
  altsC (← `(tactic| (refine no_implicit_lambda% ($(i "eps") ?_ ?_); ($ne:tactic); generalize $(← altsA (← `($(i "ep") _ _)) (ids.take (n + 1))),*; $(← altsE (ps.extract (n + 1) ps.size)):tactic))) (← altsN ne ids ps n)
end Mine
end
open Mine
local macro_rules | `(tactic| case $t:ident => $s) => altsP 1 t s
local macro_rules | `(tactic| case $t:ident => $s) => altsP 0 t s
local macro_rules
 | `(tactic| obtain $m:rcasesPatMed : $ty := $e) => `(tactic| obtain $m:rcasesPatMed := ($e : $ty))
 | `(tactic| obtain $m:rcasesPatMed := $e) => do
  if altsB m then Lean.Macro.throwUnsupported
  let a := m.raw[0][0]
  `(tactic| first | (rename True => cl; refine cut $e ?_; $(← altsE #[altsO a]):tactic) | (rcases $e:term with $(⟨a⟩):rcasesPat))
 | `(tactic| rcases $e:term with $a:rcasesPat | $b:rcasesPat) => do
  `(tactic| focus (refine or_el $e ?_ ?_; rotate_left; $(← altsE #[altsO b]):tactic; rotate_right; $(← altsE #[altsO a]):tactic))
 | `(tactic| rintro $ps:rintroPat*) => do
  if ps.any fun r => r.raw.isOfKind ``Lean.Parser.Tactic.rintroPat.binder || altsB r then Lean.Macro.throwUnsupported
  if ps.size == 0 then return ← `(tactic| skip)
  let p := ps[0]!.raw[0]
  let qs := ps.extract 1 ps.size
  let rest ← altsE qs
  let ne ← alts ("neWx neWd neHb neCx neV neAObj neAF nePt neWorld neShared neAround".splitOn " ") (← `(tactic| refine @instNonemptyProd _ _ ?_ ?_)) altsX
  let ne ← `(tactic| focus ((repeat first | infer_instance | $ne:tactic); done))
  let cl ← `(tactic| rename True => cl)
  if altsD p then
   let ids : List Lean.Ident := ((ps.toList.map fun r => r.raw[0]).takeWhile altsD).map fun p => ⟨p[0]⟩
   return ← `(tactic| first | $(← altsQ cl (← altsN ne ids ps (min 8 ids.length))):tactic | (intro $(ids[0]!):ident; $rest:tactic))
  let plain ← if p.isOfKind ``Lean.Parser.Tactic.rcasesPat.ignore then `(tactic| intro _) else if p.isOfKind ``Lean.Parser.Tactic.rcasesPat.one then `(tactic| (intro h; subst h)) else `(tactic| (intro h; rcases h with $(⟨p⟩):rcasesPat))
  let plain ← altsQ plain rest
  let rs := p[1].getSepArgs
  if !p.isOfKind ``Lean.Parser.Tactic.rcasesPat.tuple || rs.size < 2 then return plain
  let es := rs.map fun x => altsO x[0][0][0]
  let r0 := es[0]!.raw[0]
  let r1 := if rs.size == 2 then es[1]! else altsO (Lean.mkNode ``Lean.Parser.Tactic.rcasesPat.tuple #[p[0], Lean.mkNullNode (p[1].getArgs.extract 2 p[1].getNumArgs), p[2]])
  let all ← altsE (#[es[0]!, r1] ++ qs)
  let i n := altsI (Lean.mkIdent n)
  let ex ← if altsD r0 then altsC (← `(tactic| (refine ex_cl ?_ ?_; ($ne:tactic); generalize ec _ _ = $(⟨r0[0]⟩):ident; $(← altsE (#[r1] ++ qs)):tactic))) (← altsQ (← `(tactic| refine no_implicit_lambda% (prod_el ?_))) all) else altsQ (← i `ex_el) all
  let el ← alts ("JPost.el PPost.el TupV.el LstV.el ObjV.el DctV.el RngV.el ValV.el NsR.el CelR.el CpEnd.el CpIe.el CpSt.el".splitOn " ") (← `(tactic| fail)) altsI
  let r ← altsC (← altsQ (← i `and_el) all) (← altsC (← altsQ el (← altsE (es ++ qs))) ex)
  `(tactic| first | $(← altsQ cl r):tactic | $plain:tactic)
local macro_rules | `(tactic| lia) => do
 let c (s : String) := do `(tactic| with_reducible first | assumption | $(← alts (s.splitOn " ") (← `(tactic| fail)) altsX):tactic)
 let r ← c "c1 c2 c3 c4 c5 c6 c7 c8 c9 tn1"
 let q ← c "tn1 tn2 tn3 d1 d2 d3 d4 d5 d6 le2 le3 lt2 tl1 tl2"
 `(tactic| first | $r:tactic | (refine And.intro ?_ ?_ <;> lia) | ((repeat first | ((with_reducible rename _ ∧ _ => h); generalize And.left h = a; generalize And.right h = b; clear h) | ((with_reducible rename Exists _ => h); clear h)); first | $q:tactic | ((first | (refine nlt ?_; intro) | (refine ilt ?_; intro) | skip); lia -abstractProof)))
section
open PySem PySem.W PyProof.Rows
set_option tactic.hygienic false
namespace Mine
theorem memC {α : Type} {a : α} {l : List α} {P : α → Prop} (h : P a) (t : ∀ b, b ∈ l → P b) : ∀ b, b ∈ a :: l → P b := fun b q => (List.mem_cons.mp q).elim (fun e => e ▸ h) (t b)
theorem memN {α : Type} {P : α → Prop} : ∀ b, b ∈ ([] : List α) → P b := fun za q => nomatch q
theorem memM {α β : Type} {f : α → β} {l : List α} {P : β → Prop} (h : ∀ a, a ∈ l → P (f a)) : ∀ b, b ∈ l.map f → P b := fun za q => (List.mem_map.mp q).elim fun a x => x.2 ▸ h a x.1
inductive V where
 | none | bool (b : Bool) | int (i : Int) | tup (xs : List V) | lst (xs : List V)
 | obj (C : Addr) (ns : List Str) (vs : List V) | dct (ks : List (List Int)) (vs : List V) | ref (k : Nat) | rng (n : Int) | vals (xs : List V) | raw (v : Value)
inductive AObj where
 | dead | list (xs : List V) | dictI (ks : List Int) (vs : List V) | dictT (ks : List (List Int)) (vs : List V) | inst (C : Addr) (ns : List Str) (vs : List V)
theorem neV : Nonempty V := ⟨.none⟩
theorem neAObj : Nonempty AObj := ⟨.dead⟩
structure Cx where
 h : Heap
 μ : List (Addr × Addr)
 X : Addr → Prop
theorem neCx : Nonempty Cx := ⟨⟨default, [], fun za => False⟩⟩
noncomputable def TupAt (h : Heap) (a : Addr) (vs : List Value) : Prop := ∃ n, h.get? a = some { cls := .type "tuple", dict := none, data := .seq vs.toArray n, slots := #[] }
noncomputable def LstAt (h : Heap) (a : Addr) (vs : List Value) : Prop := ∃ n, h.get? a = some { cls := .type "list", dict := none, data := .seq vs.toArray n, slots := #[] }
theorem TupAt.isTuple {h a vs} (x : TupAt h a vs) : h.IsTuple a vs.toArray := let ⟨n, e⟩ := x; ⟨_, e, rfl, n, rfl⟩
theorem LstAt.isList {h a vs} (x : LstAt h a vs) : h.IsList a vs.toArray := let ⟨n, e⟩ := x; ⟨_, e, rfl, n, rfl⟩
noncomputable def RngAt (h : Heap) (a : Addr) (n : Int) : Prop := ∃ t u v, IsRange h a 0 n 1 t u v
inductive Two {α β : Type} (R : α → β → Prop) : List α → List β → Prop where
 | nil : Two R [] []
 | cons {a : α} {b : β} {l : List α} {m : List β} (h : R a b) (t : Two R l m) : Two R (a :: l) (b :: m)
inductive Three {α β γ : Type} (R : α → β → γ → Prop) : List α → List β → List γ → Prop where
 | nil : Three R [] [] []
 | cons {a : α} {b : β} {c : γ} {l : List α} {m : List β} {n : List γ} (h : R a b c) (t : Three R l m n) : Three R (a :: l) (b :: m) (c :: n)
theorem Two.len {α β : Type} {R : α → β → Prop} {l : List α} {m : List β} (t : Two R l m) : m.length = l.length := by
 induction t with
 | nil => rfl
 | cons _ _ ih => exact congrArg (· + 1) ih
theorem Two.mono {α β : Type} {R S : α → β → Prop} {l : List α} {m : List β} (t : Two R l m) (k : ∀ a b, R a b → S a b) : Two S l m := by
 induction t with
 | nil => exact .nil
 | cons h _ ih => exact .cons (k _ _ h) ih
theorem Two.at {α β : Type} {R : α → β → Prop} {l : List α} {m : List β} (t : Two R l m) : ∀ {i : Nat} {v : β}, m[i]? = some v → ∃ a, l[i]? = some a ∧ R a v := by
 induction t with
 | nil => exact fun e => nomatch e
 | cons h _ ih =>
  intro i v e
  cases i with
  | zero => exact ⟨_, rfl, Option.some.inj e ▸ h⟩
  | succ i => exact ih e
theorem Three.mono {α β γ : Type} {R S : α → β → γ → Prop} {l : List α} {m : List β} {n : List γ} (t : Three R l m n) (k : ∀ a b c, R a b c → S a b c) : Three S l m n := by
 induction t with
 | nil => exact .nil
 | cons h _ ih => exact .cons (k _ _ _ h) ih
theorem Three.len {α β γ : Type} {R : α → β → γ → Prop} {l : List α} {m : List β} {n : List γ} (t : Three R l m n) : l.length = m.length ∧ n.length = m.length := by
 induction t with
 | nil => exact ⟨rfl, rfl⟩
 | cons _ _ ih => exact ⟨congrArg (· + 1) ih.1, congrArg (· + 1) ih.2⟩
noncomputable abbrev EntsAre : List DictEntry → List Str → List Value → Prop := Three fun e x v => (∃ t, e.key = .str x t) ∧ e.val = v
noncomputable def OwnAt (h : Heap) (d : Addr) (ns : List Str) (vs : List Value) : Prop := ∃ es n, h.get? d = some (dictOf es n) ∧ EntsAre es ns vs
noncomputable abbrev EntI : List DictEntry → List Int → List Value → Prop := Three fun e x v => (∃ t, e.key = .int x t) ∧ e.hash = hashInt x ∧ e.val = v
noncomputable abbrev IntsV : List Int → List Value → Prop := Two fun i v => ∃ t, v = .int i t
noncomputable abbrev EntT (h : Heap) (X : Addr → Prop) : List DictEntry → List (List Int) → List Value → Prop :=
 Three fun e x v => (∃ a us, e.key = .ref a ∧ TupAt h a us ∧ IntsV x us ∧ ¬ X a) ∧ e.hash = reduceHash (Builtin.Tuple.tupleHashOf (x.map hashInt)) ∧ e.val = v
inductive TupV (c : Cx) (P : List Value → Prop) (v : Value) : Prop where
 | mk (a : Addr) (vs : List Value) (e : v = .ref a) (t : TupAt c.h a vs) (n : ¬ c.X a) (r : P vs)
inductive LstV (c : Cx) (P : List Value → Prop) (v : Value) : Prop where
 | mk (a : Addr) (vs : List Value) (e : v = .ref a) (t : LstAt c.h a vs) (n : ¬ c.X a) (r : P vs)
inductive ObjV (c : Cx) (C : Addr) (ns : List Str) (P : List Value → Prop) (v : Value) : Prop where
 | mk (a d : Addr) (vs : List Value) (e : v = .ref a) (t : c.h.get? a = some (instObj C d)) (o : OwnAt c.h d ns vs) (n : ¬ c.X a) (nd : ¬ c.X d) (r : P vs)
inductive DctV (c : Cx) (ks : List (List Int)) (P : List Value → Prop) (v : Value) : Prop where
 | mk (a : Addr) (es : List DictEntry) (n : Nat) (vs : List Value) (e : v = .ref a) (t : c.h.get? a = some (dictOf es n)) (k : ks.Nodup ∧ 1 < a) (na : ¬ c.X a) (h : EntT c.h c.X es ks vs) (r : P vs)
inductive RngV (c : Cx) (n : Int) (v : Value) : Prop where
 | mk (a : Addr) (e : v = .ref a) (t : RngAt c.h a n) (na : ¬ c.X a)
inductive ValV (c : Cx) (P : List Value → Prop) (v : Value) : Prop where
 | mk (a d : Addr) (es : List DictEntry) (n : Nat) (e : v = .ref a) (i : c.h.IsValuesView a d) (t : c.h.get? d = some (dictOf es n)) (na : ¬ c.X a) (nd : ¬ c.X d) (r : P (es.map (·.val)))
section
variable {c : Cx} {P : List Value → Prop} {v : Value} {G : Prop}
theorem TupV.el (h : ∀ a vs, v = .ref a → TupAt c.h a vs → ¬ c.X a → P vs → G) : TupV c P v → G := fun ⟨a, b, d, e, f, g⟩ => h a b d e f g
theorem LstV.el (h : ∀ a vs, v = .ref a → LstAt c.h a vs → ¬ c.X a → P vs → G) : LstV c P v → G := fun ⟨a, b, d, e, f, g⟩ => h a b d e f g
theorem ObjV.el {C ns} (h : ∀ a d vs, v = .ref a → c.h.get? a = some (instObj C d) → OwnAt c.h d ns vs → ¬ c.X a → ¬ c.X d → P vs → G) : ObjV c C ns P v → G := fun ⟨a, b, d, e, f, g, i, j, k⟩ => h a b d e f g i j k
theorem DctV.el {ks} (h : ∀ a es n vs, v = .ref a → c.h.get? a = some (dictOf es n) → (ks.Nodup ∧ 1 < a) → ¬ c.X a → EntT c.h c.X es ks vs → P vs → G) : DctV c ks P v → G := fun ⟨a, b, d, e, f, g, i, j, k, l⟩ => h a b d e f g i j k l
theorem RngV.el {n} (h : ∀ a, v = .ref a → RngAt c.h a n → ¬ c.X a → G) : RngV c n v → G := fun ⟨a, b, d, e⟩ => h a b d e
theorem ValV.el (h : ∀ a d es n, v = .ref a → c.h.IsValuesView a d → c.h.get? d = some (dictOf es n) → ¬ c.X a → ¬ c.X d → P (es.map (·.val)) → G) : ValV c P v → G := fun ⟨a, b, d, e, f, g, i, j, k, l⟩ => h a b d e f g i j k l
end
mutual
noncomputable def VR (c : Cx) : V → Value → Prop
 | .none, v => v = .none
 | .bool b, v => v = .bool b
 | .int i, v => ∃ t, v = .int i t
 | .tup xs, v => TupV c (VRs c xs) v
 | .lst xs, v => LstV c (VRs c xs) v
 | .obj C ns xs, v => ObjV c C ns (VRs c xs) v
 | .dct ks xs, v => DctV c ks (VRs c xs) v
 | .ref k, v => ∃ p, c.μ[k]? = some p ∧ v = .ref p.1
 | .rng n, v => RngV c n v
 | .vals xs, v => ValV c (VRs c xs) v
 | .raw w, v => v = w
noncomputable def VRs (c : Cx) : List V → List Value → Prop
 | [], vs => vs = []
 | x :: xs, vs => ∃ v r, vs = v :: r ∧ VR c x v ∧ VRs c xs r
end
structure Step (c c' : Cx) : Prop where
 keep : ∀ b o, c.h.get? b = some o → ¬ c.X b → c'.h.get? b = some o
 ext : ∀ b, c'.X b → c.X b ∨ c.h.get? b = none
 mu : ∀ (k : Nat) p, c.μ[k]? = some p → c'.μ[k]? = some p
theorem Step.refl (c : Cx) : Step c c := ⟨fun za zb e zc => e, fun za h => .inl h, fun za zb e => e⟩
theorem Step.off {c c' : Cx} (S : Step c c') {b : Addr} {o : Obj} (e : c.h.get? b = some o) (h : ¬ c.X b) : ¬ c'.X b := fun q =>
 (S.ext b q).elim h fun z => by rw [e] at z; cases z
theorem Step.trans {c c' c'' : Cx} (S : Step c c') (T : Step c' c'') : Step c c'' :=
 ⟨fun b o e h => T.keep b o (S.keep b o e h) (S.off e h), fun b h => (T.ext b h).elim (S.ext b) (fun z => by
   cases e : c.h.get? b with
   | none => exact .inr rfl
   | some o =>
    by_cases q : c.X b
    ·exact .inl q
    ·rw [S.keep b o e q] at z; cases z),
  fun k p e => T.mu k p (S.mu k p e)⟩
theorem TupAt.step {c c' : Cx} (S : Step c c') {a vs} (x : TupAt c.h a vs) (h : ¬ c.X a) : TupAt c'.h a vs ∧ ¬ c'.X a :=
 let ⟨o, e⟩ := x; ⟨⟨o, S.keep _ _ e h⟩, S.off e h⟩
theorem EntT.move {h h' : Heap} {X X' : Addr → Prop} (S : ∀ a us, TupAt h a us → ¬ X a → TupAt h' a us ∧ ¬ X' a) {es ks vs} (x : EntT h X es ks vs) : EntT h' X' es ks vs :=
 x.mono fun e k v q => ⟨q.1.elim fun a z => z.elim fun us w => ⟨a, us, w.1, (S _ _ w.2.1 w.2.2.2).1, w.2.2.1, (S _ _ w.2.1 w.2.2.2).2⟩, q.2⟩
theorem EntT.step {c c' : Cx} (S : Step c c') {es ks vs} (x : EntT c.h c.X es ks vs) : EntT c'.h c'.X es ks vs := EntT.move (fun za zb t n => t.step S n) x
mutual
noncomputable def V.within (n : Nat) : V → Bool
 | .tup xs => withins n xs
 | .lst xs => withins n xs
 | .obj _ _ xs => withins n xs
 | .dct _ xs => withins n xs
 | .vals xs => withins n xs
 | .ref k => decide (k < n)
 | _ => true
noncomputable def withins (n : Nat) : List V → Bool
 | [] => true
 | x :: xs => x.within n && withins n xs
end
mutual
theorem VR.isIn {c : Cx} : ∀ (x : V) (v : Value), VR c x v → x.within c.μ.length = true
 | .none, _, _ => rfl
 | .bool _, _, _ => rfl
 | .int _, _, _ => rfl
 | .tup xs, _, h => TupV.el (fun za vs zb zc zd r => VRs.isIn xs vs r) h
 | .lst xs, _, h => LstV.el (fun za vs zb zc zd r => VRs.isIn xs vs r) h
 | .obj _ _ xs, _, h => ObjV.el (fun za zb vs zc zd ze zf zg r => VRs.isIn xs vs r) h
 | .dct _ xs, _, h => DctV.el (fun za zb zc vs zd ze zf zg zh r => VRs.isIn xs vs r) h
 | .ref _, _, h => h.elim fun za q => decide_eq_true (gll q.1)
 | .rng _, _, _ => rfl
 | .vals xs, _, h => ValV.el (fun za zb zc zd ze zf zg zh zi r => VRs.isIn xs _ r) h
 | .raw _, _, _ => rfl
theorem VRs.isIn {c : Cx} : ∀ (xs : List V) (vs : List Value), VRs c xs vs → withins c.μ.length xs = true
 | [], _, _ => rfl
 | x :: xs, _, h => h.elim fun v h => h.elim fun r q => Bool.and_eq_true_iff.mpr ⟨VR.isIn x v q.2.1, VRs.isIn xs r q.2.2⟩
end
section
variable {c c' : Cx} {n : Nat} (S : ∀ b o, c.h.get? b = some o → ¬ c.X b → c'.h.get? b = some o ∧ ¬ c'.X b) (M : ∀ (k : Nat) p, k < n → c.μ[k]? = some p → c'.μ[k]? = some p)
include S
theorem TupAt.map {a vs} (x : TupAt c.h a vs) (h : ¬ c.X a) : TupAt c'.h a vs ∧ ¬ c'.X a := x.elim fun m e => ⟨⟨m, (S _ _ e h).1⟩, (S _ _ e h).2⟩
theorem LstAt.map {a vs} (x : LstAt c.h a vs) (h : ¬ c.X a) : LstAt c'.h a vs ∧ ¬ c'.X a := x.elim fun m e => ⟨⟨m, (S _ _ e h).1⟩, (S _ _ e h).2⟩
theorem OwnAt.map {a ns vs} (x : OwnAt c.h a ns vs) (h : ¬ c.X a) : OwnAt c'.h a ns vs ∧ ¬ c'.X a := x.elim fun es x => x.elim fun m e => ⟨⟨es, m, (S _ _ e.1 h).1, e.2⟩, (S _ _ e.1 h).2⟩
theorem RngAt.map {a m} (x : RngAt c.h a m) (h : ¬ c.X a) : RngAt c'.h a m ∧ ¬ c'.X a := x.elim fun t x => x.elim fun u x => x.elim fun v e => ⟨⟨t, u, v, (S _ _ e h).1⟩, (S _ _ e h).2⟩
theorem ViewAt.map {a d} (x : c.h.IsValuesView a d) (h : ¬ c.X a) : c'.h.IsValuesView a d ∧ ¬ c'.X a := x.elim fun o e => ⟨⟨o, (S _ _ e.1 h).1, e.2⟩, (S _ _ e.1 h).2⟩
include M
mutual
theorem VR.map : ∀ (x : V) (v : Value), VR c x v → x.within n = true → VR c' x v
 | .none, _, e, _ => e
 | .bool _, _, e, _ => e
 | .int _, _, e, _ => e
 | .tup xs, _, h, w => TupV.el (fun a vs e t n r => ⟨a, vs, e, (t.map S n).1, (t.map S n).2, VRs.map xs vs r w⟩) h
 | .lst xs, _, h, w => LstV.el (fun a vs e t n r => ⟨a, vs, e, (t.map S n).1, (t.map S n).2, VRs.map xs vs r w⟩) h
 | .obj _ _ xs, _, h, w => ObjV.el (fun a d vs e t o n nd r => ⟨a, d, vs, e, (S _ _ t n).1, (o.map S nd).1, (S _ _ t n).2, (o.map S nd).2, VRs.map xs vs r w⟩) h
 | .dct _ xs, _, h, w => DctV.el (fun a es k vs e t l n i r => ⟨a, es, k, vs, e, (S _ _ t n).1, l, (S _ _ t n).2, EntT.move (fun za zb t na => t.map S na) i, VRs.map xs vs r w⟩) h
 | .ref k, _, h, w => h.imp fun p q => ⟨M k p (of_decide_eq_true w) q.1, q.2⟩
 | .rng _, _, h, _ => RngV.el (fun a e t n => ⟨a, e, (t.map S n).1, (t.map S n).2⟩) h
 | .vals xs, _, h, w => ValV.el (fun a d es k e i t n nd r => ⟨a, d, es, k, e, (ViewAt.map S i n).1, (S _ _ t nd).1, (ViewAt.map S i n).2, (S _ _ t nd).2, VRs.map xs _ r w⟩) h
 | .raw _, _, e, _ => e
theorem VRs.map : ∀ (xs : List V) (vs : List Value), VRs c xs vs → withins n xs = true → VRs c' xs vs
 | [], _, e, _ => e
 | x :: xs, _, h, w => h.imp fun v h => h.imp fun r q => ⟨q.1, VR.map x v q.2.1 (Bool.and_eq_true_iff.mp w).1, VRs.map xs r q.2.2 (Bool.and_eq_true_iff.mp w).2⟩
end
end
theorem VR.step {c c' : Cx} (S : Step c c') (x : V) (v : Value) (h : VR c x v) : VR c' x v := VR.map (fun b o e na => ⟨S.keep b o e na, S.off e na⟩) (fun k p za e => S.mu k p e) x v h (VR.isIn x v h)
theorem VRs.step {c c' : Cx} (S : Step c c') (xs : List V) (vs : List Value) (h : VRs c xs vs) : VRs c' xs vs := VRs.map (fun b o e na => ⟨S.keep b o e na, S.off e na⟩) (fun k p za e => S.mu k p e) xs vs h (VRs.isIn xs vs h)
theorem VRs.length {c : Cx} : ∀ {xs : List V} {vs : List Value}, VRs c xs vs → vs.length = xs.length
 | [], _, h => by rw [h]; rfl
 | _ :: _, _, ⟨_, _, e, _, t⟩ => by rw [e, List.length_cons, List.length_cons, t.length]
theorem VRs.get {c : Cx} : ∀ {xs : List V} {vs : List Value}, VRs c xs vs → ∀ {i : Nat} {x : V}, xs[i]? = some x → ∃ v, vs[i]? = some v ∧ VR c x v
 | [], _, _, _, _, e => by simp at e
 | y :: ys, _, ⟨v, r, e, h, t⟩, i, x, ex => by
  subst e
  cases i with
  | zero => simp at ex; subst ex; exact ⟨v, rfl, h⟩
  | succ i => simp at ex; obtain ⟨u, e1, e2⟩ := t.get ex; exact ⟨u, by simpa using e1, e2⟩
theorem VRs.append {c : Cx} : ∀ {xs : List V} {vs : List Value} {ys : List V} {us : List Value}, VRs c xs vs → VRs c ys us → VRs c (xs ++ ys) (vs ++ us)
 | [], _, _, _, h, h' => by rw [h]; exact h'
 | _ :: _, _, _, _, ⟨v, r, e, h, t⟩, h' => by subst e; exact ⟨v, _, rfl, h, t.append h'⟩
theorem VRs.one {c : Cx} {x : V} {v : Value} (h : VR c x v) : VRs c [x] [v] := ⟨v, [], rfl, h, rfl⟩
theorem VRs.push {c : Cx} {xs : List V} {vs : List Value} {x : V} {v : Value} (h : VRs c xs vs) (h' : VR c x v) : VRs c (xs ++ [x]) (vs ++ [v]) := h.append (.one h')
theorem VRs.set {c : Cx} : ∀ {xs : List V} {vs : List Value}, VRs c xs vs → ∀ {x : V} {v : Value}, VR c x v → ∀ i, VRs c (xs.set i x) (vs.set i v)
 | [], _, h, _, _, _, _ => by rw [h]; rfl
 | _ :: _, _, ⟨u, r, e, h, t⟩, x, v, hx, i => by
  subst e
  cases i with
  | zero => exact ⟨v, r, rfl, hx, t⟩
  | succ i => exact ⟨u, _, rfl, h, t.set hx i⟩
theorem VRs.reverse {c : Cx} : ∀ {xs : List V} {vs : List Value}, VRs c xs vs → VRs c xs.reverse vs.reverse
 | [], _, h => by rw [h]; rfl
 | _ :: _, _, ⟨u, r, e, h, t⟩ => by subst e; rw [List.reverse_cons, List.reverse_cons]; exact t.reverse.push h
theorem VRs.take {c : Cx} : ∀ {xs : List V} {vs : List Value}, VRs c xs vs → ∀ n, VRs c (xs.take n) (vs.take n)
 | [], _, h, _ => by rw [h]; simp; rfl
 | _ :: _, _, ⟨u, r, e, h, t⟩, 0 => by simp; rfl
 | _ :: _, _, ⟨u, r, e, h, t⟩, n + 1 => by subst e; exact ⟨u, _, rfl, h, t.take n⟩
theorem VRs.drop {c : Cx} : ∀ {xs : List V} {vs : List Value}, VRs c xs vs → ∀ n, VRs c (xs.drop n) (vs.drop n)
 | [], _, h, _ => by rw [h]; simp; rfl
 | _ :: _, _, h, 0 => h
 | _ :: _, _, ⟨u, r, e, h, t⟩, n + 1 => by subst e; exact t.drop n
noncomputable def Live (μ : List (Addr × Addr)) (H : List AObj) (b : Addr) : Prop := ∃ (k : Nat) (o : AObj) (p : Addr × Addr), H[k]? = some o ∧ o ≠ .dead ∧ μ[k]? = some p ∧ (b = p.1 ∨ b = p.2)
noncomputable def ObjR (c : Cx) : AObj → Addr × Addr → Prop
 | .dead, _ => True
 | .list xs, p => p.2 = p.1 ∧ ∃ vs, LstAt c.h p.1 vs ∧ VRs c xs vs
 | .dictI ks xs, p => p.2 = p.1 ∧ ∃ es n vs, c.h.get? p.1 = some (dictOf es n) ∧ ks.Nodup ∧ EntI es ks vs ∧ VRs c xs vs
 | .dictT ks xs, p => p.2 = p.1 ∧ ∃ es n vs, c.h.get? p.1 = some (dictOf es n) ∧ ks.Nodup ∧ EntT c.h c.X es ks vs ∧ VRs c xs vs
 | .inst C ns xs, p => p.1 ≠ p.2 ∧ c.h.get? p.1 = some (instObj C p.2) ∧ ∃ vs, OwnAt c.h p.2 ns vs ∧ VRs c xs vs
noncomputable abbrev cx (Φ : List Addr) (μ : List (Addr × Addr)) (H : List AObj) (h : Heap) : Cx := ⟨h, μ, fun b => Live μ H b ∨ b ∈ Φ⟩
structure Hb where
 h : Heap
 K : Frag
 mg : Str → Option Value
 mb : Str → Option Value
theorem neHb : Nonempty Hb := ⟨⟨default, default, default, default⟩⟩
structure Hb.Ok (x : Hb) : Prop where
 kin : x.K.In x.h
 nsg : x.h.Ns mainGlobals x.mg
 nsb : x.h.Ns builtinsNs x.mb
 blt : ∀ y : Str, y ≠ "__name__" → x.mb y = bootBuiltins y
 nolimit : x.h.NoLimit
structure Inv (hb : Hb) (Φ : List Addr) (μ : List (Addr × Addr)) (H : List AObj) (h : Heap) : Prop where
 len : μ.length = H.length
 base : ∀ b o, hb.h.get? b = some o → h.get? b = some o
 obj : ∀ (k : Nat) o p, H[k]? = some o → μ[k]? = some p → ObjR (cx Φ μ H h) o p
 apart : ∀ (k j : Nat) o o' p q, k ≠ j → H[k]? = some o → o ≠ .dead → μ[k]? = some p → H[j]? = some o' → o' ≠ .dead → μ[j]? = some q → p.1 ≠ q.1 ∧ p.1 ≠ q.2 ∧ p.2 ≠ q.1 ∧ p.2 ≠ q.2
 live : ∀ b, Live μ H b → hb.h.get? b = none ∧ ∃ o, h.get? b = some o
 phi : ∀ b, b ∈ Φ → hb.h.get? b = none ∧ (∃ o, h.get? b = some o) ∧ ¬ Live μ H b
 lo : ∀ b, Live μ H b → 1 < b
 two : (∃ o, hb.h.get? cStatics = some o) ∧ hb.Ok
theorem Inv.size2 {hb Φ μ H h} (I : Inv hb Φ μ H h) : 2 < h.objs.size := by
 obtain ⟨o, e⟩ := I.two.1
 exact Heap.lt_size (I.base _ _ e)
structure Keep (P : List Addr) (μ : List (Addr × Addr)) (H : List AObj) (s : Shared) (μ' : List (Addr × Addr)) (H' : List AObj) (s' : Shared) : Prop where
 gens : s'.gens = s.gens
 drawn : s'.drawn = s.drawn
 os : s'.os = s.os
 alive : ∀ b o, s.heap.get? b = some o → ∃ o', s'.heap.get? b = some o'
 keep : ∀ b o, s.heap.get? b = some o → ¬ Live μ H b → b ∉ P → s'.heap.get? b = some o
 live : ∀ b, Live μ' H' b → Live μ H b ∨ s.heap.get? b = none
 mu : ∀ (k : Nat) p, μ[k]? = some p → μ'[k]? = some p
theorem Keep.refl (P μ H s) : Keep P μ H s μ H s := ⟨rfl, rfl, rfl, fun za o e => ⟨o, e⟩, fun za zb e zc zd => e, fun za h => .inl h, fun za zb e => e⟩
theorem Keep.off {P μ H s μ' H' s'} (x : Keep P μ H s μ' H' s') {b o} (e : s.heap.get? b = some o) (n : ¬ Live μ H b) : ¬ Live μ' H' b := fun q =>
 (x.live b q).elim n fun z => by rw [e] at z; cases z
theorem Keep.trans {P μ H s μ' H' s' μ'' H'' s''} (x : Keep P μ H s μ' H' s') (y : Keep P μ' H' s' μ'' H'' s'') : Keep P μ H s μ'' H'' s'' where
 gens := y.gens.trans x.gens
 drawn := y.drawn.trans x.drawn
 os := y.os.trans x.os
 alive := fun b o e => let ⟨o', e'⟩ := x.alive b o e; y.alive b o' e'
 keep := fun b o e n p => y.keep b o (x.keep b o e n p) (x.off e n) p
 live := fun b q => (y.live b q).elim (x.live b) fun z => by
  cases e : s.heap.get? b with
  | none => exact .inr rfl
  | some o => obtain ⟨o', e'⟩ := x.alive b o e; rw [e'] at z; cases z
 mu := fun k p e => y.mu k p (x.mu k p e)
theorem Keep.weak {P P' μ H s μ' H' s'} (x : Keep P μ H s μ' H' s') (h : ∀ b, b ∈ P → b ∈ P' ∨ s.heap.get? b = none) : Keep P' μ H s μ' H' s' :=
 { x with keep := fun b o e n p => x.keep b o e n fun q => (h b q).elim p fun z => by rw [e] at z; cases z }
theorem Keep.weak0 {P' μ H s μ' H' s'} (x : Keep [] μ H s μ' H' s') : Keep P' μ H s μ' H' s' := x.weak fun za q => nomatch q
theorem Keep.step {P Φ μ H s μ' H' s'} (x : Keep P μ H s μ' H' s') (h : ∀ b, b ∈ P → b ∈ Φ) : Step (cx Φ μ H s.heap) (cx Φ μ' H' s'.heap) where
 keep := fun b o e n => x.keep b o e (fun q => n (.inl q)) fun q => n (.inr (h b q))
 ext := fun b q => q.elim (fun z => (x.live b z).elim (fun y => .inl (.inl y)) .inr) fun z => .inl (.inr z)
 mu := x.mu
theorem Keep.step0 {Φ μ H s μ' H' s'} (x : Keep [] μ H s μ' H' s') : Step (cx Φ μ H s.heap) (cx Φ μ' H' s'.heap) := x.step fun za h => nomatch h
theorem get_size (h : Heap) : h.get? h.objs.size = none := by
 cases e : h.get? h.objs.size with
 | none => rfl
 | some o => exact absurd (Heap.lt_size e) (Nat.lt_irrefl _)
theorem ObjR.step {c c' : Cx} (S : Step c c') {o : AObj} {p : Addr × Addr} (hk : ∀ b ob, (b = p.1 ∨ b = p.2) → c.h.get? b = some ob → c'.h.get? b = some ob) (x : ObjR c o p) : ObjR c' o p := by
 cases o with
 | dead => trivial
 | list xs => obtain ⟨e, vs, ⟨o, h⟩, r⟩ := x; exact ⟨e, vs, ⟨o, hk _ _ (.inl rfl) h⟩, r.step S⟩
 | dictI ks xs => obtain ⟨e, es, n, vs, h, nd, h1, r⟩ := x; exact ⟨e, es, n, vs, hk _ _ (.inl rfl) h, nd, h1, r.step S⟩
 | dictT ks xs => obtain ⟨e, es, n, vs, h, nd, h1, r⟩ := x; exact ⟨e, es, n, vs, hk _ _ (.inl rfl) h, nd, h1.step S, r.step S⟩
 | inst C ns xs => obtain ⟨e, h, vs, ⟨es, n, h1, h2⟩, r⟩ := x; exact ⟨e, hk _ _ (.inl rfl) h, vs, ⟨es, n, hk _ _ (.inr rfl) h1, h2⟩, r.step S⟩
section
variable {hb : Hb} {h h' : Heap} {Φ : List Addr} {μ : List (Addr × Addr)} {H : List AObj}
theorem grow_step (k : ∀ b o, h.get? b = some o → h'.get? b = some o) : Step (cx Φ μ H h) (cx Φ μ H h') := ⟨fun b o e za => k b o e, fun za q => .inl q, fun za zb e => e⟩
theorem Inv.grow (I : Inv hb Φ μ H h) (k : ∀ b o, h.get? b = some o → h'.get? b = some o) : Inv hb Φ μ H h' where
 len := I.len
 base := fun b o e => k b o (I.base b o e)
 obj := fun j o p e1 e2 => (I.obj j o p e1 e2).step (grow_step k) fun b ob za e => k b ob e
 apart := I.apart
 live := fun b q => let ⟨a, o, e⟩ := I.live b q; ⟨a, o, k _ _ e⟩
 phi := fun b q => let ⟨a, ⟨o, e⟩, n⟩ := I.phi b q; ⟨a, ⟨o, k _ _ e⟩, n⟩
 lo := I.lo
 two := I.two
theorem Keep.grow {P} {s : Shared} {t : Tok} (k : ∀ b o, s.heap.get? b = some o → h'.get? b = some o) : Keep P μ H s μ H { s with heap := h', toks := t } :=
 ⟨rfl, rfl, rfl, fun b o e => ⟨o, k b o e⟩, fun b o e za zb => k b o e, fun za q => .inl q, fun za zb e => e⟩
theorem live_append {o : AObj} {p : Addr × Addr} (hl : μ.length = H.length) {b : Addr} (q : Live (μ ++ [p]) (H ++ [o]) b) : Live μ H b ∨ (o ≠ .dead ∧ (b = p.1 ∨ b = p.2)) := by
 have cX : True := trivial
 revert μ H o p hl b q
 rintro μ H o p hl b q
 obtain ⟨k, o', p', e1, e2, e3, e4⟩ := q
 by_cases hk : k < H.length
 ·rw [List.getElem?_append_left hk] at e1
  rw [List.getElem?_append_left (by lia)] at e3
  exact .inl ⟨k, o', p', e1, e2, e3, e4⟩
 ·have hk' : k = H.length := by
   have := (gll e1)
   rw [List.length_append, List.length_singleton] at this; lia
  subst hk'
  rw [List.getElem?_concat_length] at e1
  rw [← hl, List.getElem?_concat_length] at e3
  cases e1; cases e3
  exact .inr ⟨e2, e4⟩
theorem add_step {o : AObj} {p : Addr × Addr} (hl : μ.length = H.length) (k : ∀ b o, h.get? b = some o → h'.get? b = some o) (f1 : h.get? p.1 = none) (f2 : h.get? p.2 = none) :
  Step (cx Φ μ H h) (cx Φ (μ ++ [p]) (H ++ [o]) h') where
 keep := fun b o e za => k b o e
 ext := fun b q => q.elim (fun z => (live_append hl z).elim (fun y => .inl (.inl y)) fun y => .inr (y.2.elim (fun e => e ▸ f1) fun e => e ▸ f2)) fun z => .inl (.inr z)
 mu := fun j q e => by show (μ ++ [p])[j]? = some q; rw [List.getElem?_append_left (gll e)]; exact e
theorem Inv.add (I : Inv hb Φ μ H h) (k : ∀ b o, h.get? b = some o → h'.get? b = some o) {o : AObj} {p : Addr × Addr} (f1 : h.get? p.1 = none) (f2 : h.get? p.2 = none)
  (g1 : ∃ x, h'.get? p.1 = some x) (g2 : ∃ x, h'.get? p.2 = some x) (z1 : 1 < p.1) (z2 : 1 < p.2)
  (ho : Step (cx Φ μ H h) (cx Φ (μ ++ [p]) (H ++ [o]) h') → ObjR (cx Φ (μ ++ [p]) (H ++ [o]) h') o p) : Inv hb Φ (μ ++ [p]) (H ++ [o]) h' := by
 have cX : True := trivial
 revert hb h h' Φ μ H I k o p f1 f2 g1 g2 z1 z2 ho
 rintro hb h h' Φ μ H I k o p f1 f2 g1 g2 z1 z2 ho
 have S := add_step (Φ := Φ) (o := o) I.len k f1 f2
 have off : ∀ b, (∃ x, h.get? b = some x) → b ≠ p.1 ∧ b ≠ p.2 := fun b ⟨x, e⟩ => ⟨(fun q => by rw [q, f1] at e; cases e), (fun q => by rw [q, f2] at e; cases e)⟩
 have nb : ∀ a, h.get? a = none → hb.h.get? a = none := fun a e => by
  cases q : hb.h.get? a with
  | none => rfl
  | some x => rw [I.base _ _ q] at e; cases e
 have look : ∀ (j : Nat) o' q, (H ++ [o])[j]? = some o' → (μ ++ [p])[j]? = some q → (H[j]? = some o' ∧ μ[j]? = some q) ∨ (j = H.length ∧ o' = o ∧ q = p) := by
  rintro j o' q e1 e2
  by_cases hj : j < H.length
  ·rw [List.getElem?_append_left hj] at e1
   rw [List.getElem?_append_left (by have := I.len; lia +abstractProof)] at e2
   exact .inl ⟨e1, e2⟩
  ·have hj' : j = H.length := by
    have := (gll e1)
    rw [List.length_append, List.length_singleton] at this; lia +abstractProof
   subst hj'
   rw [List.getElem?_concat_length] at e1
   rw [← I.len, List.getElem?_concat_length] at e2
   cases e1; cases e2
   exact .inr ⟨rfl, rfl, rfl⟩
 refine ⟨by simp [I.len], fun b o e => k b o (I.base b o e), ?_, ?_, ?_, ?_, fun b q => (live_append I.len q).elim (I.lo b) fun z => z.2.elim (fun e => e ▸ z1) fun e => e ▸ z2, I.two⟩
 ·rintro j o' q e1 e2
  rcases look j o' q e1 e2 with ⟨a1, a2⟩ | ⟨_, rfl, rfl⟩
  ·exact (I.obj j o' q a1 a2).step S fun b ob za e => k b ob e
  ·exact ho S
 ·rintro i j o1 o2 q1 q2 hij a1 a2 a3 b1 b2 b3
  rcases look i o1 q1 a1 a3 with ⟨x1, x2⟩ | ⟨hi, rfl, rfl⟩ <;> rcases look j o2 q2 b1 b3 with ⟨y1, y2⟩ | ⟨hj, rfl, rfl⟩
  ·exact I.apart i j o1 o2 q1 q2 hij x1 a2 x2 y1 b2 y2
  ·have u := off _ (I.live q1.1 ⟨i, o1, q1, x1, a2, x2, .inl rfl⟩).2
   have v := off _ (I.live q1.2 ⟨i, o1, q1, x1, a2, x2, .inr rfl⟩).2
   exact ⟨u.1, u.2, v.1, v.2⟩
  ·have u := off _ (I.live q2.1 ⟨j, o2, q2, y1, b2, y2, .inl rfl⟩).2
   have v := off _ (I.live q2.2 ⟨j, o2, q2, y1, b2, y2, .inr rfl⟩).2
   exact ⟨fun e => u.1 e.symm, fun e => v.1 e.symm, fun e => u.2 e.symm, fun e => v.2 e.symm⟩
  ·exact absurd (hi.trans hj.symm) hij
 ·rintro b q
  rcases live_append I.len q with z | ⟨_, rfl | rfl⟩
  ·obtain ⟨a, x, e⟩ := I.live b z; exact ⟨a, x, k _ _ e⟩
  ·exact ⟨nb _ f1, g1⟩
  ·exact ⟨nb _ f2, g2⟩
 ·rintro b q
  obtain ⟨a, ⟨x, e⟩, n⟩ := I.phi b q
  refine ⟨a, ⟨x, k _ _ e⟩, fun z => ?_⟩
  rcases live_append I.len z with z | ⟨_, z | z⟩
  ·exact n z
  ·exact (off b ⟨x, e⟩).1 z
  ·exact (off b ⟨x, e⟩).2 z
theorem Keep.add {P} {s : Shared} {t : Tok} {o : AObj} {p : Addr × Addr} (hl : μ.length = H.length) (k : ∀ b o, s.heap.get? b = some o → h'.get? b = some o) (f1 : s.heap.get? p.1 = none) (f2 : s.heap.get? p.2 = none) :
  Keep P μ H s (μ ++ [p]) (H ++ [o]) { s with heap := h', toks := t } :=
 ⟨rfl, rfl, rfl, fun b o e => ⟨o, k b o e⟩, fun b o e za zb => k b o e, fun b q => (live_append hl q).elim .inl fun y => .inr (y.2.elim (fun e => e ▸ f1) fun e => e ▸ f2), fun j q e => by
  rw [List.getElem?_append_left (gll e)]; exact e⟩
theorem live_set {k : Nat} {o o' : AObj} (hk : H[k]? = some o) (hd : o ≠ .dead) {b : Addr} (q : Live μ (H.set k o') b) : Live μ H b := by
 have cX : True := trivial
 revert μ H k o o' hk hd b q
 rintro μ H k o o' hk hd b q
 obtain ⟨j, x, p, e1, e2, e3, e4⟩ := q
 by_cases h : k = j
 ·subst h; exact ⟨k, o, p, hk, hd, e3, e4⟩
 ·rw [List.getElem?_set_ne h] at e1; exact ⟨j, x, p, e1, e2, e3, e4⟩
theorem set_step {k : Nat} {o o' : AObj} {p : Addr × Addr} (hk : H[k]? = some o) (hd : o ≠ .dead) (hp : μ[k]? = some p)
  (kp : ∀ b ob, b ≠ p.1 → b ≠ p.2 → h.get? b = some ob → h'.get? b = some ob) : Step (cx Φ μ H h) (cx Φ μ (H.set k o') h') where
 keep := fun b ob e n => kp b ob (fun q => n (.inl ⟨k, o, p, hk, hd, hp, .inl q⟩)) (fun q => n (.inl ⟨k, o, p, hk, hd, hp, .inr q⟩)) e
 ext := fun b q => .inl (q.elim (fun z => .inl (live_set hk hd z)) .inr)
 mu := fun za zb e => e
theorem Inv.set (I : Inv hb Φ μ H h) {k : Nat} {o o' : AObj} {p : Addr × Addr} (hk : H[k]? = some o) (hd : o ≠ .dead) (hp : μ[k]? = some p)
  (kp : ∀ b ob, b ≠ p.1 → b ≠ p.2 → h.get? b = some ob → h'.get? b = some ob) (g1 : ∃ x, h'.get? p.1 = some x) (g2 : ∃ x, h'.get? p.2 = some x)
  (ho : Step (cx Φ μ H h) (cx Φ μ (H.set k o') h') → ObjR (cx Φ μ (H.set k o') h') o' p) : Inv hb Φ μ (H.set k o') h' := by
 have cX : True := trivial
 revert hb h h' Φ μ H I k o o' p hk hd hp kp g1 g2 ho
 rintro hb h h' Φ μ H I k o o' p hk hd hp kp g1 g2 ho
 have S := set_step (Φ := Φ) (o' := o') hk hd hp kp
 have L1 : Live μ H p.1 := ⟨k, o, p, hk, hd, hp, .inl rfl⟩
 have L2 : Live μ H p.2 := ⟨k, o, p, hk, hd, hp, .inr rfl⟩
 have al : ∀ b, (∃ x, h.get? b = some x) → ∃ x, h'.get? b = some x := fun b ⟨x, e⟩ => by
  by_cases q1 : b = p.1
  ·rw [q1]; exact g1
  ·by_cases q2 : b = p.2
   ·rw [q2]; exact g2
   ·exact ⟨x, kp b x q1 q2 e⟩
 refine ⟨by rw [List.length_set]; exact I.len, fun b ob e => kp b ob (fun q => ?_) (fun q => ?_) (I.base b ob e), ?_, ?_, ?_, ?_, fun b q => I.lo b (live_set hk hd q), I.two⟩
 ·rw [q, (I.live _ L1).1] at e; cases e
 ·rw [q, (I.live _ L2).1] at e; cases e
 ·rintro j x q e1 e2
  by_cases hj : k = j
  ·subst hj
   have hlt : k < H.length := (gll hk)
   rw [List.getElem?_set_self hlt] at e1
   cases e1
   rw [hp] at e2; cases e2
   exact ho S
  ·rw [List.getElem?_set_ne hj] at e1
   have X := I.obj j x q e1 e2
   by_cases hx : x = .dead
   ·subst hx; trivial
   ·obtain ⟨a1, a2, a3, a4⟩ := I.apart j k x o q p (Ne.symm hj) e1 hx e2 hk hd hp
    exact X.step S fun b ob hb e => kp b ob (hb.elim (fun z => z ▸ a1) fun z => z ▸ a3) (hb.elim (fun z => z ▸ a2) fun z => z ▸ a4) e
 ·rintro i j o1 o2 q1 q2 hij a1 a2 a3 b1 b2 b3
  have f : ∀ (i : Nat) x, (H.set k o')[i]? = some x → x ≠ .dead → ∃ y, H[i]? = some y ∧ y ≠ .dead := fun i x e n => by
   by_cases hi : k = i
   ·subst hi; exact ⟨o, hk, hd⟩
   ·rw [List.getElem?_set_ne hi] at e; exact ⟨x, e, n⟩
  obtain ⟨y1, u1, v1⟩ := f i o1 a1 a2
  obtain ⟨y2, u2, v2⟩ := f j o2 b1 b2
  exact I.apart i j y1 y2 q1 q2 hij u1 v1 a3 u2 v2 b3
 ·rintro b q
  obtain ⟨a, x⟩ := I.live b (live_set hk hd q)
  exact ⟨a, al b x⟩
 ·rintro b q
  obtain ⟨a, x, n⟩ := I.phi b q
  exact ⟨a, al b x, fun z => n (live_set hk hd z)⟩
theorem Keep.set {P} {s : Shared} {t : Tok} {k : Nat} {o o' : AObj} {p : Addr × Addr} (hk : H[k]? = some o) (hd : o ≠ .dead) (hp : μ[k]? = some p)
  (kp : ∀ b ob, b ≠ p.1 → b ≠ p.2 → s.heap.get? b = some ob → h'.get? b = some ob) (g1 : ∃ x, h'.get? p.1 = some x) (g2 : ∃ x, h'.get? p.2 = some x) :
  Keep P μ H s μ (H.set k o') { s with heap := h', toks := t } := by
 refine ⟨rfl, rfl, rfl, (fun b o e => ?_), fun b ob e n za => kp b ob (fun q => n ⟨k, o, p, hk, hd, hp, .inl q⟩) (fun q => n ⟨k, o, p, hk, hd, hp, .inr q⟩) e, fun b q => .inl (live_set hk hd q), fun za zb e => e⟩
 by_cases q1 : b = p.1
 ·rw [q1]; exact g1
 ·by_cases q2 : b = p.2
  ·rw [q2]; exact g2
  ·exact ⟨o, kp b o q1 q2 e⟩
theorem live_take {n : Nat} {b : Addr} (q : Live (μ.take n) (H.take n) b) : Live μ H b := by
 have cX : True := trivial
 revert μ H n b q
 rintro μ H n b q
 obtain ⟨j, x, p, e1, e2, e3, e4⟩ := q
 have f : ∀ {α} (l : List α) y, (l.take n)[j]? = some y → l[j]? = some y := fun l y e => by
  rw [List.getElem?_take] at e; split at e <;> first | exact e | cases e
 exact ⟨j, x, p, f _ _ e1, e2, f _ _ e3, e4⟩
end
theorem take_off {Φ μ H h n} (b : Addr) (o : Obj) (e : (cx Φ μ H h).h.get? b = some o) (na : ¬ (cx Φ μ H h).X b) : (cx Φ (μ.take n) (H.take n) h).h.get? b = some o ∧ ¬ (cx Φ (μ.take n) (H.take n) h).X b := ⟨e, fun q => na (q.elim (fun z => .inl (live_take z)) .inr)⟩
theorem take_mu {μ : List (Addr × Addr)} {n : Nat} (k : Nat) (p : Addr × Addr) (hk : k < n) (e : μ[k]? = some p) : (μ.take n)[k]? = some p := by rw [List.getElem?_take, if_pos hk]; exact e
theorem VR.take {Φ μ H h n} (x : V) (v : Value) (r : VR (cx Φ μ H h) x v) (w : x.within n = true) : VR (cx Φ (μ.take n) (H.take n) h) x v := VR.map take_off take_mu x v r w
theorem VRs.take' {Φ μ H h n} (xs : List V) (vs : List Value) (r : VRs (cx Φ μ H h) xs vs) (w : withins n xs = true) : VRs (cx Φ (μ.take n) (H.take n) h) xs vs := VRs.map take_off take_mu xs vs r w
noncomputable def AObj.within (n : Nat) : AObj → Bool
 | .dead => true
 | .list xs => withins n xs
 | .dictI _ xs => withins n xs
 | .dictT _ xs => withins n xs
 | .inst _ _ xs => withins n xs
theorem ObjR.isIn {c : Cx} {o : AObj} {p} (x : ObjR c o p) : o.within c.μ.length = true := by
 have cX : True := trivial
 revert c o p x
 rintro c o p x
 cases o with
 | dead => rfl
 | list xs => obtain ⟨_, vs, _, r⟩ := x; exact VRs.isIn _ _ r
 | dictI ks xs => obtain ⟨_, _, _, vs, _, _, _, r⟩ := x; exact VRs.isIn _ _ r
 | dictT ks xs => obtain ⟨_, _, _, vs, _, _, _, r⟩ := x; exact VRs.isIn _ _ r
 | inst C ns xs => obtain ⟨_, _, vs, _, r⟩ := x; exact VRs.isIn _ _ r
theorem Inv.isIn {hb Φ μ H h} (I : Inv hb Φ μ H h) {k : Nat} {o : AObj} (e : H[k]? = some o) : o.within H.length = true := by
 have hlt : k < H.length := (gll e)
 have := (I.obj k o _ e (List.getElem?_eq_getElem (by rw [I.len]; exact hlt))).isIn
 rwa [show (cx Φ μ H h).μ.length = H.length from I.len] at this
theorem ObjR.take {Φ μ H h n} {o : AObj} {p} (x : ObjR (cx Φ μ H h) o p) (w : o.within n = true) : ObjR (cx Φ (μ.take n) (H.take n) h) o p := by
 cases o with
 | dead => trivial
 | list xs => obtain ⟨e, vs, t, r⟩ := x; exact ⟨e, vs, t, VRs.take' _ _ r w⟩
 | dictI ks xs => obtain ⟨e, es, m, vs, t, nd, h1, r⟩ := x; exact ⟨e, es, m, vs, t, nd, h1, VRs.take' _ _ r w⟩
 | dictT ks xs =>
  obtain ⟨e, es, m, vs, t, nd, h1, r⟩ := x
  exact ⟨e, es, m, vs, t, nd, h1.move (fun za zb t na => ⟨t, fun q => na (q.elim (fun z => .inl (live_take z)) .inr)⟩), VRs.take' _ _ r w⟩
 | inst C ns xs => obtain ⟨e, t, vs, g, r⟩ := x; exact ⟨e, t, vs, g, VRs.take' _ _ r w⟩
theorem Inv.take {hb Φ μ H h} (I : Inv hb Φ μ H h) {n : Nat} (w : ∀ (k : Nat) o, (H.take n)[k]? = some o → o.within n = true) : Inv hb Φ (μ.take n) (H.take n) h := by
 have f : ∀ {α} (l : List α) (j : Nat) y, (l.take n)[j]? = some y → l[j]? = some y := fun l j y e => by
  rw [List.getElem?_take] at e; split at e <;> first | exact e | cases e
 refine ⟨by simp [I.len], I.base, fun k o p e1 e2 => (I.obj k o p (f _ _ _ e1) (f _ _ _ e2)).take (w k o e1), ?_, fun b q => I.live b (live_take q), fun b q => ?_, fun b q => I.lo b (live_take q), I.two⟩
 ·intro i j o1 o2 q1 q2 hij a1 a2 a3 b1 b2 b3
  exact I.apart i j o1 o2 q1 q2 hij (f _ _ _ a1) a2 (f _ _ _ a3) (f _ _ _ b1) b2 (f _ _ _ b3)
 ·obtain ⟨a, x, n⟩ := I.phi b q
  exact ⟨a, x, fun z => n (live_take z)⟩
end Mine
set_option tactic.hygienic false
namespace Mine
noncomputable abbrev Loc := Str → Option V
structure Wd where
 prog : Program
 w : World
 hb : Hb
theorem neWd : Nonempty Wd := let ⟨w⟩ := neWorld; let ⟨x⟩ := neHb; ⟨⟨default, w, x⟩⟩
noncomputable abbrev Wd.K (W : Wd) : Frag := W.hb.K
noncomputable abbrev Wd.M (W : Wd) : Model := model W.prog W.w
noncomputable abbrev Bot : Value → Shared → Prop := fun za zb => False
structure AOk (d : Nat) (A : Around) : Prop where
 handled : A.handled = none
 depth : A.depth ≤ 301 + 2 * d
 units : A.units ≤ 4 + 8 * d
 small : d ≤ 100
theorem AOk.room1 {d A} (h : AOk d A) : A.in1.units < cLine := by have := h.units; have := h.small; rw [Around.in1_units]; unfold cLine; lia
structure EnvOk (sc : Scope) (env : Env) : Prop where
 scope : env.scope = sc
 glob : env.globals = mainGlobals
 blt : env.builtins = builtinsNs
 kind : sc.kind = .function
noncomputable def Fp (env : Env) : List Addr := env.locals :: env.cells.map (·.2)
structure FrameOk (env : Env) (Φ : List Addr) : Prop where
 sub : ∀ b, b ∈ Fp env → b ∈ Φ
 off : ∀ x c, env.cells.lookup x = some c → c ≠ env.locals
 apart : ∀ x y c, env.cells.lookup x = some c → env.cells.lookup y = some c → x = y
theorem mem_of_look {α : Type} {l : List (Str × α)} {n : Str} {c : α} (h : l.lookup n = some c) : c ∈ l.map (·.2) := List.mem_map.mpr ⟨(n, c), mem_of_lookup h, rfl⟩
theorem FrameOk.loc {env Φ} (F : FrameOk env Φ) : env.locals ∈ Φ := F.sub _ (.head _)
theorem FrameOk.cell {env Φ} (F : FrameOk env Φ) {x c} (h : env.cells.lookup x = some c) : c ∈ Φ := F.sub _ (.tail _ (mem_of_look h))
inductive NsR (env : Env) (m : Loc) (c : Cx) : Prop where
 | mk (ml : Str → Option Value) (n : c.h.Ns env.locals ml) (h : ∀ x a, env.kindOf x = some .local → m x = some a → ∃ v, ml x = some v ∧ VR c a v)
inductive CelR (env : Env) (m : Loc) (c : Cx) (x : Str) : Prop where
 | mk (cl : Addr) (v : Option Value) (e : env.cells.lookup x = some cl) (n : c.h.IsCell cl v) (h : ∀ a, m x = some a → ∃ v', v = some v' ∧ VR c a v')
theorem NsR.el {env m c} {G : Prop} (h : ∀ ml, c.h.Ns env.locals ml → (∀ x a, env.kindOf x = some .local → m x = some a → ∃ v, ml x = some v ∧ VR c a v) → G) : NsR env m c → G := fun ⟨a, b, d⟩ => h a b d
theorem CelR.el {env m c x} {G : Prop} (h : ∀ cl v, env.cells.lookup x = some cl → c.h.IsCell cl v → (∀ a, m x = some a → ∃ v', v = some v' ∧ VR c a v') → G) : CelR env m c x → G := fun ⟨a, b, d, e, f⟩ => h a b d e f
structure LocR (env : Env) (m : Loc) (c : Cx) : Prop where
 ns : NsR env m c
 cell : ∀ x, (env.kindOf x = some .cell ∨ env.kindOf x = some .free) → CelR env m c x
structure Fm (W : Wd) (sc : Scope) (d : Nat) (env : Env) (A : Around) (Φ : List Addr) (m : Loc) (μ : List (Addr × Addr)) (H : List AObj) (s : Shared) : Prop where
 en : EnvOk sc env
 fr : FrameOk env Φ
 a : AOk d A
 inv : Inv W.hb Φ μ H s.heap
 loc : LocR env m (cx Φ μ H s.heap)
section
variable {W : Wd} {sc : Scope} {d : Nat} {env : Env} {A : Around} {Φ : List Addr} {m : Loc} {μ μ' : List (Addr × Addr)} {H H' : List AObj} {s s' : Shared}
theorem Inv.kept {P} (I : Inv W.hb Φ μ H s.heap) (K : Keep P μ H s μ' H' s') {b o} (hb : b ∈ Φ) (hP : b ∉ P) (e : s.heap.get? b = some o) : s'.heap.get? b = some o :=
 K.keep b o e (I.phi b hb).2.2 hP
theorem Fm.move {P} (F : Fm W sc d env A Φ m μ H s) (K : Keep P μ H s μ' H' s') (I : Inv W.hb Φ μ' H' s'.heap) (hP : ∀ b, b ∈ P → b ∉ Fp env ∧ b ∈ Φ) : Fm W sc d env A Φ m μ' H' s' := by
 have cX : True := trivial
 revert W sc d env A Φ m μ μ' H H' s s' P F K I hP
 rintro W sc d env A Φ m μ μ' H H' s s' P F K I hP
 have S := K.step (Φ := Φ) fun b hb => (hP b hb).2
 refine ⟨F.en, F.fr, F.a, I, ?_, ?_⟩
 ·obtain ⟨ml, ⟨o, es, ep, ho, r⟩, hm⟩ := F.loc.ns
  have hL := F.inv.kept K F.fr.loc (fun q => (hP _ q).1 (.head _)) ho
  exact ⟨ml, ⟨o, es, ep, hL, r⟩, fun x a hk hx => let ⟨v, e, r⟩ := hm x a hk hx; ⟨v, e, r.step S⟩⟩
 ·rintro x hk
  obtain ⟨cl, v, hc, ⟨o, ho, r⟩, hm⟩ := F.loc.cell x hk
  exact ⟨cl, v, hc, ⟨o, F.inv.kept K (F.fr.cell hc) (fun q => (hP _ q).1 (.tail _ (mem_of_look hc))) ho, r⟩, fun a ha => let ⟨v', e, r⟩ := hm a ha; ⟨v', e, r.step S⟩⟩
theorem Fm.move0 (F : Fm W sc d env A Φ m μ H s) (K : Keep [] μ H s μ' H' s') (I : Inv W.hb Φ μ' H' s'.heap) : Fm W sc d env A Φ m μ' H' s' := F.move K I fun za h => nomatch h
theorem Fm.toks (F : Fm W sc d env A Φ m μ H s) (t : Tok) : Fm W sc d env A Φ m μ H { s with toks := t } := ⟨F.en, F.fr, F.a, F.inv, F.loc⟩
end
inductive JPost {α β : Type} (W : Wd) (env : Env) (Φ : List Addr) (μ : List (Addr × Addr)) (H : List AObj) (s : Shared) (RR : Cx → β → α → Prop) (Q : β → Loc → List AObj → Prop) (v : α) (s' : Shared) : Prop where
 | mk (b : β) (m' : Loc) (H' : List AObj) (μ' : List (Addr × Addr)) (K : Keep (Fp env) μ H s μ' H' s') (I : Inv W.hb Φ μ' H' s'.heap) (L : LocR env m' (cx Φ μ' H' s'.heap)) (r : RR (cx Φ μ' H' s'.heap) b v) (q : Q b m' H')
inductive PPost {α β : Type} (W : Wd) (Φ : List Addr) (μ : List (Addr × Addr)) (H : List AObj) (s : Shared) (RR : Cx → β → α → Prop) (Q : β → List AObj → Prop) (v : α) (s' : Shared) : Prop where
 | mk (b : β) (H' : List AObj) (μ' : List (Addr × Addr)) (K : Keep [] μ H s μ' H' s') (I : Inv W.hb Φ μ' H' s'.heap) (r : RR (cx Φ μ' H' s'.heap) b v) (q : Q b H')
theorem JPost.el {α β : Type} {W : Wd} {env : Env} {Φ : List Addr} {μ : List (Addr × Addr)} {H : List AObj} {s s' : Shared} {RR : Cx → β → α → Prop} {Q : β → Loc → List AObj → Prop} {v : α} {G : Prop}
  (h : ∀ b m' H' μ', Keep (Fp env) μ H s μ' H' s' → Inv W.hb Φ μ' H' s'.heap → LocR env m' (cx Φ μ' H' s'.heap) → RR (cx Φ μ' H' s'.heap) b v → Q b m' H' → G) : JPost W env Φ μ H s RR Q v s' → G := fun ⟨b, m, H, μ, K, I, L, r, q⟩ => h b m H μ K I L r q
theorem PPost.el {α β : Type} {W : Wd} {Φ : List Addr} {μ : List (Addr × Addr)} {H : List AObj} {s s' : Shared} {RR : Cx → β → α → Prop} {Q : β → List AObj → Prop} {v : α} {G : Prop}
  (h : ∀ b H' μ', Keep [] μ H s μ' H' s' → Inv W.hb Φ μ' H' s'.heap → RR (cx Φ μ' H' s'.heap) b v → Q b H' → G) : PPost W Φ μ H s RR Q v s' → G := fun ⟨b, H, μ, K, I, r, q⟩ => h b H μ K I r q
theorem wpm {α : Type} {M : Model} {A : Around} {t : Sem α} {Q R : α → Shared → Prop} {E : Value → Shared → Prop} {s : Shared} (h : wpAny M A t Q E s) (k : ∀ v s', Q v s' → R v s') : wpAny M A t R E s := wpAny_mono h k fun za zb x => x
noncomputable def Jd {α β : Type} (W : Wd) (sc : Scope) (d : Nat) (RR : Cx → β → α → Prop) (t : Env → Sem α) (m : Loc) (H : List AObj) (Q : β → Loc → List AObj → Prop) : Prop :=
 ∀ env A Φ μ s, Fm W sc d env A Φ m μ H s → wpAny W.M A (t env) (JPost W env Φ μ H s RR Q) Bot s
inductive AF where
 | next | brk | cont | ret (a : V)
theorem neAF : Nonempty AF := ⟨.next⟩
noncomputable def FlR (c : Cx) : AF → Flow → Prop
 | .next, f => f = .next
 | .brk, f => f = .brk
 | .cont, f => f = .cont
 | .ret a, f => ∃ v, f = .ret v ∧ VR c a v
theorem FlR.step {c c' : Cx} (S : Step c c') {a : AF} {f : Flow} (h : FlR c a f) : FlR c' a f := by
 cases a with
 | ret a => obtain ⟨v, e, r⟩ := h; exact ⟨v, e, r.step S⟩
 | _ => exact h
noncomputable def Ev (W : Wd) (sc : Scope) (d : Nat) (e : Expr) (m : Loc) (H : List AObj) (Q : V → List AObj → Prop) : Prop := Jd W sc d VR (eval e) m H fun a m' H' => m' = m ∧ Q a H'
noncomputable def Evs (W : Wd) (sc : Scope) (d : Nat) (pos : Pos) (es : List Expr) (m : Loc) (H : List AObj) (Q : List V → List AObj → Prop) : Prop :=
 Jd W sc d VRs (fun env => spliced (backTo pos (starEach es env))) m H fun a m' H' => m' = m ∧ Q a H'
noncomputable def Tv (W : Wd) (sc : Scope) (d : Nat) (e : Expr) (m : Loc) (H : List AObj) (Q : Bool → List AObj → Prop) : Prop :=
 Jd W sc d (fun za b v => v = b) (fun env => isTrue e env (eval e env)) m H fun b m' H' => m' = m ∧ Q b H'
noncomputable def Tvs (W : Wd) (sc : Scope) (d : Nat) (op : BoolOp) (es : List Expr) (m : Loc) (H : List AObj) (Q : Bool → List AObj → Prop) : Prop :=
 Jd W sc d (fun za b v => v = b) (fun env => allTrue op es env) m H fun b m' H' => m' = m ∧ Q b H'
noncomputable def Sx (W : Wd) (sc : Scope) (d : Nat) (st : Stmt) (m : Loc) (H : List AObj) (Q : AF → Loc → List AObj → Prop) : Prop := Jd W sc d FlR (exec st) m H Q
noncomputable def Ss (W : Wd) (sc : Scope) (d : Nat) (sts : List Stmt) (m : Loc) (H : List AObj) (Q : AF → Loc → List AObj → Prop) : Prop := Jd W sc d FlR (execs sts) m H Q
noncomputable def As (W : Wd) (sc : Scope) (d : Nat) (t : Expr) (a : V) (m : Loc) (H : List AObj) (Q : Loc → List AObj → Prop) : Prop :=
 ∀ env A Φ μ s v, Fm W sc d env A Φ m μ H s → VR (cx Φ μ H s.heap) a v → wpAny W.M A (assign t env v) (JPost W env Φ μ H s (fun _ (_ : Unit) (_ : Unit) => True) fun za m' H' => Q m' H') Bot s
noncomputable def Pr1 (W : Wd) (d : Nat) (f : Value → Sem Value) (a : V) (H : List AObj) (Q : V → List AObj → Prop) : Prop :=
 ∀ A Φ μ s v, AOk d A → Inv W.hb Φ μ H s.heap → VR (cx Φ μ H s.heap) a v → wpAny W.M A (f v) (PPost W Φ μ H s VR Q) Bot s
noncomputable def Pr2 (W : Wd) (d : Nat) (f : Value → Value → Sem Value) (a b : V) (H : List AObj) (Q : V → List AObj → Prop) : Prop :=
 ∀ A Φ μ s u v, AOk d A → Inv W.hb Φ μ H s.heap → VR (cx Φ μ H s.heap) a u → VR (cx Φ μ H s.heap) b v → wpAny W.M A (f u v) (PPost W Φ μ H s VR Q) Bot s
noncomputable def Cl (W : Wd) (d : Nat) (f : Value) (as : List V) (H : List AObj) (Q : V → List AObj → Prop) : Prop :=
 ∀ A Φ μ s vs, AOk d A → Inv W.hb Φ μ H s.heap → VRs (cx Φ μ H s.heap) as vs → wpAny W.M A (call f vs) (PPost W Φ μ H s VR Q) Bot s
section
variable {W : Wd} {sc : Scope} {d : Nat} {env : Env} {A : Around} {Φ : List Addr} {m m' : Loc} {μ μ' : List (Addr × Addr)} {H H' : List AObj} {s s' : Shared} {α β γ δ : Type}
theorem JPost.thenFm {RR : Cx → β → α → Prop} {Q : β → Loc → List AObj → Prop} {t : Sem α} {R : α → Shared → Prop} (F : Fm W sc d env A Φ m μ H s) (h : wpAny W.M A t (JPost W env Φ μ H s RR Q) Bot s)
  (k : ∀ v s1 b m1 H1 μ1, Fm W sc d env A Φ m1 μ1 H1 s1 → Keep (Fp env) μ H s μ1 H1 s1 → RR (cx Φ μ1 H1 s1.heap) b v → Q b m1 H1 → R v s1) : wpAny W.M A t R Bot s :=
 wpm h (fun v s1 ⟨b, m1, H1, μ1, K, I, L, r, q⟩ => k v s1 b m1 H1 μ1 ⟨F.en, F.fr, F.a, I, L⟩ K r q)
theorem JPost.goE {m0 : Loc} {RR : Cx → β → α → Prop} {Q : β → List AObj → Prop} {t : Sem α} {R : α → Shared → Prop} (F : Fm W sc d env A Φ m μ H s) (h : wpAny W.M A t (JPost W env Φ μ H s RR fun a m' H' => m' = m0 ∧ Q a H') Bot s)
  (k : ∀ v s1 b H1 μ1, Fm W sc d env A Φ m0 μ1 H1 s1 → Keep (Fp env) μ H s μ1 H1 s1 → RR (cx Φ μ1 H1 s1.heap) b v → Q b H1 → R v s1) : wpAny W.M A t R Bot s :=
 JPost.thenFm F h fun v s1 b m1 H1 μ1 F1 K r q => k v s1 b H1 μ1 (q.1 ▸ F1) K r q.2
theorem JPost.ofK {RR : Cx → β → α → Prop} {Q : β → Loc → List AObj → Prop} {v : α} {s1 : Shared} (K : Keep (Fp env) μ H s μ' H' s1) (h : JPost W env Φ μ' H' s1 RR Q v s') : JPost W env Φ μ H s RR Q v s' :=
 let ⟨b, m1, H1, μ1, K', I, L, r, q⟩ := h; ⟨b, m1, H1, μ1, K.trans K', I, L, r, q⟩
theorem JPost.wp {RR : Cx → β → α → Prop} {Q : β → Loc → List AObj → Prop} {t : Sem α} {s1 : Shared} (K : Keep (Fp env) μ H s μ' H' s1) (h : wpAny W.M A t (JPost W env Φ μ' H' s1 RR Q) Bot s1) : wpAny W.M A t (JPost W env Φ μ H s RR Q) Bot s1 :=
 wpm h (fun za zb x => x.ofK K)
theorem Fm.stepF (F : Fm W sc d env A Φ m μ H s) (K : Keep (Fp env) μ H s μ' H' s') : Step (cx Φ μ H s.heap) (cx Φ μ' H' s'.heap) := K.step F.fr.sub
theorem JPost.here {RR : Cx → β → α → Prop} {Q : β → Loc → List AObj → Prop} {v : α} {b : β} (F : Fm W sc d env A Φ m μ H s) (r : RR (cx Φ μ H s.heap) b v) (q : Q b m H) : JPost W env Φ μ H s RR Q v s :=
 ⟨b, m, H, μ, Keep.refl .., F.inv, F.loc, r, q⟩
theorem JPost.ofP {RR : Cx → β → α → Prop} {Q : β → Loc → List AObj → Prop} {v : α} (F : Fm W sc d env A Φ m μ H s) (h : PPost W Φ μ H s RR (fun b H' => Q b m H') v s') : JPost W env Φ μ H s RR Q v s' :=
 let ⟨b, H', μ', K, I, r, q⟩ := h; ⟨b, m, H', μ', K.weak0, I, (F.move0 K I).loc, r, q⟩
theorem JPost.wpP {RR : Cx → β → α → Prop} {Q : β → Loc → List AObj → Prop} {t : Sem α} (F : Fm W sc d env A Φ m μ H s) (h : wpAny W.M A t (PPost W Φ μ H s RR fun b H' => Q b m H') Bot s) : wpAny W.M A t (JPost W env Φ μ H s RR Q) Bot s :=
 wpm h (fun za zb x => JPost.ofP F x)
theorem JPost.endP {RR : Cx → β → α → Prop} {Q : β → List AObj → Prop} {t : Sem α} (F : Fm W sc d env A Φ m μ H s) (h : wpAny W.M A t (PPost W Φ μ H s RR Q) Bot s) : wpAny W.M A t (JPost W env Φ μ H s RR fun a m' H' => m' = m ∧ Q a H') Bot s :=
 JPost.wpP F (wpm h fun za zb x => x.el fun b H' μ' K I r q => ⟨b, H', μ', K, I, r, rfl, q⟩)
theorem JPost.tok {RR : Cx → β → α → Prop} {Q : β → Loc → List AObj → Prop} {v : α} {b : β} {t : Tok} (F : Fm W sc d env A Φ m μ H s) (r : RR (cx Φ μ H s.heap) b v) (q : Q b m H) : JPost W env Φ μ H s RR Q v { s with toks := t } :=
 ⟨b, m, H, μ, Keep.grow (h' := s.heap) fun za zb e => e, F.inv, F.loc, r, q⟩
theorem PPost.here {RR : Cx → β → α → Prop} {Q : β → List AObj → Prop} {v : α} {b : β} {t : Tok} (I : Inv W.hb Φ μ H s.heap) (r : RR (cx Φ μ H s.heap) b v) (q : Q b H) : PPost W Φ μ H s RR Q v { s with toks := t } :=
 ⟨b, H, μ, Keep.grow (h' := s.heap) fun za zb e => e, I, r, q⟩
theorem Jd.mono {RR : Cx → β → α → Prop} {t : Env → Sem α} {Q Q' : β → Loc → List AObj → Prop} (h : Jd W sc d RR t m H Q) (k : ∀ b m' H', Q b m' H' → Q' b m' H') : Jd W sc d RR t m H Q' :=
 fun env A Φ μ s F => wpm (h env A Φ μ s F) (fun v s' ⟨b, m1, H1, μ1, K, I, L, r, q⟩ => ⟨b, m1, H1, μ1, K, I, L, r, k _ _ _ q⟩)
theorem Ev.mono {e Q Q'} (h : Ev W sc d e m H Q) (k : ∀ a H', Q a H' → Q' a H') : Ev W sc d e m H Q' := Jd.mono h fun za zb zc ⟨e, q⟩ => ⟨e, k _ _ q⟩
theorem Ss.mono {e Q Q'} (h : Ss W sc d e m H Q) (k : ∀ a m' H', Q a m' H' → Q' a m' H') : Ss W sc d e m H Q' := Jd.mono h k
theorem Sx.mono {e Q Q'} (h : Sx W sc d e m H Q) (k : ∀ a m' H', Q a m' H' → Q' a m' H') : Sx W sc d e m H Q' := Jd.mono h k
theorem Tv.mono {e Q Q'} (h : Tv W sc d e m H Q) (k : ∀ a H', Q a H' → Q' a H') : Tv W sc d e m H Q' := Jd.mono h fun za zb zc ⟨e, q⟩ => ⟨e, k _ _ q⟩
theorem Cl.mono {f as Q Q'} (h : Cl W d f as H Q) (k : ∀ a H', Q a H' → Q' a H') : Cl W d f as H Q' :=
 fun A Φ μ s vs ha hi hv => wpm (h A Φ μ s vs ha hi hv) (fun v s' ⟨b, H1, μ1, K, I, r, q⟩ => ⟨b, H1, μ1, K, I, r, k _ _ q⟩)
theorem E_int {i k pos Q} (h : Q (.int i) H) : Ev W sc d (.Constant (.int i) k pos) m H Q := fun env A Φ μ s F => wpAny_Constant_int (JPost.tok (b := V.int i) F ⟨_, rfl⟩ ⟨rfl, h⟩)
theorem E_none {k pos Q} (h : Q .none H) : Ev W sc d (.Constant .none k pos) m H Q := fun env A Φ μ s F => wpAny_Constant_none (JPost.here (b := V.none) F rfl ⟨rfl, h⟩)
theorem E_bool {b k pos Q} (h : Q (.bool b) H) : Ev W sc d (.Constant (.bool b) k pos) m H Q := fun env A Φ μ s F => wpAny_Constant_bool (JPost.here (b := V.bool b) F rfl ⟨rfl, h⟩)
theorem kindOf_of (E : EnvOk sc env) (x : Str) : env.kindOf x = sc.names.lookup x := by unfold Env.kindOf; rw [E.scope]
theorem E_local {x : Str} {pos a Q} (h : Q a H) (hk : sc.names.lookup x = some .local := by left) (hm : m x = some a := by bv_omega) (hd : (x == ("__debug__" : Str)) = false := by decide +kernel) : Ev W sc d (.Name x pos) m H Q := fun env A Φ μ s F => by
 have hk' : env.kindOf x = some .local := (kindOf_of F.en x).trans hk
 obtain ⟨ml, hn, hl⟩ := F.loc.ns
 obtain ⟨v, e, r⟩ := hl x a hk' hm
 exact wpAny_Name (wpAny_loadName_local (by rw [F.en.scope]; exact F.en.kind) hk' hn e (.here F r ⟨rfl, h⟩)) hd
theorem E_cell {x : Str} {pos a Q} (h : Q a H) (hk : sc.names.lookup x = some .cell := by left) (hm : m x = some a := by bv_omega) (hd : (x == ("__debug__" : Str)) = false := by decide +kernel) : Ev W sc d (.Name x pos) m H Q := by
 have cX : True := trivial
 revert W sc d m H x pos a Q h hk hm hd
 rintro W sc d m H x pos a Q h hk hm hd
 rintro env A Φ μ s F
 have hk' : env.kindOf x = some .cell := (kindOf_of F.en x).trans hk
 obtain ⟨cl, v, hc, hv, hl⟩ := F.loc.cell x (.inl hk')
 obtain ⟨v', rfl, r⟩ := hl a hm
 exact wpAny_Name (wpAny_loadName_cell (by rw [F.en.scope]; exact F.en.kind) hk' hc hv (.here F r ⟨rfl, h⟩)) hd
theorem loadGlobalName {x : Str} (hk : sc.names.lookup x = some .globalImplicit) (F : Fm W sc d env A Φ m μ H s) : loadName env x = loadGlobal env x := by
 have cX : True := trivial
 revert W sc d env A Φ m μ H s x hk F
 rintro W sc d env A Φ m μ H s x hk F
 have hk' : env.kindOf x = some .globalImplicit := (kindOf_of F.en x).trans hk
 have hkd : env.scope.kind = .function := by rw [F.en.scope]; exact F.en.kind
 unfold loadName
 simp only [Env.blockKind, hkd, hk', ScopeKind.isAnnotationScope, Bool.false_and, Bool.false_eq_true, if_false]
theorem E_glob {x : Str} {pos v Q} (hk : sc.names.lookup x = some .globalImplicit) (hv : nsIn W.K mainGlobals x = some (some v)) (h : Q (.raw v) H) (hd : (x == ("__debug__" : Str)) = false := by decide +kernel) : Ev W sc d (.Name x pos) m H Q := fun env A Φ μ s F => by
 refine wpAny_Name ?_ hd
 rw [loadGlobalName hk F]
 unfold loadGlobal
 rw [F.en.glob]
 refine wpAny_bind (wpAny_nsGet (F.inv.two.2.nsg.keeps F.inv.base) ?_)
 rw [mg_of F.inv.two.2.kin F.inv.two.2.nsg hv]
 exact wpAny_pure (JPost.here (b := V.raw v) F rfl ⟨rfl, h⟩)
theorem E_blt {x : Str} {pos v Q} (hk : sc.names.lookup x = some .globalImplicit) (hv : nsIn W.K mainGlobals x = some none) (hb : bootBuiltins x = some v) (hn : x ≠ "__name__") (h : Q (.raw v) H) (hd : (x == ("__debug__" : Str)) = false := by decide +kernel) : Ev W sc d (.Name x pos) m H Q := fun env A Φ μ s F => by
 refine wpAny_Name ?_ hd
 rw [loadGlobalName hk F]
 unfold loadGlobal
 rw [F.en.glob, F.en.blt]
 refine wpAny_bind (wpAny_nsGet (F.inv.two.2.nsg.keeps F.inv.base) ?_)
 rw [mg_none_of F.inv.two.2.kin F.inv.two.2.nsg hv]
 refine wpAny_bind (wpAny_nsGet (F.inv.two.2.nsb.keeps F.inv.base) ?_)
 rw [F.inv.two.2.blt x hn, hb]
 exact wpAny_pure (JPost.here (b := V.raw v) F rfl ⟨rfl, h⟩)
theorem E_bin {l op r pos Q} (h : Ev W sc d l m H fun a H1 => Ev W sc d r m H1 fun b H2 => Pr2 W d (binaryOp op) a b H2 Q) : Ev W sc d (.BinOp l op r pos) m H Q := by
 have cX : True := trivial
 revert W sc d m H l op r pos Q h
 rintro W sc d m H l op r pos Q h
 rintro env A Φ μ s F
 exact (wpAny_BinOp (JPost.goE F (h env A Φ μ s F) fun v s1 a H1 μ1 F1 K1 r1 q1 => by
  exact JPost.goE F1 (q1 env A Φ μ1 s1 F1) fun u s2 b H2 μ2 F2 K2 r2 q2 => by
   refine JPost.wp (K1.trans K2) (JPost.endP F2 (q2 A Φ μ2 s2 v u F2.a F2.inv (r1.step (F1.stepF K2)) r2))))
theorem E_un {op x pos Q} (h : Ev W sc d x m H fun a H1 => Pr1 W d (unaryOp op) a H1 Q) : Ev W sc d (.UnaryOp op x pos) m H Q := fun env A Φ μ s F =>
 wpAny_UnaryOp (JPost.goE F (h env A Φ μ s F) fun v s1 a H1 μ1 F1 K1 r1 q1 => by
  exact JPost.wp K1 (JPost.endP F1 (q1 A Φ μ1 s1 v F1.a F1.inv r1)))
theorem E_cmp {l op r pos Q} (h : Ev W sc d l m H fun a H1 => Ev W sc d r m H1 fun b H2 => Pr2 W d (compareOp op) a b H2 Q) (hm : behindInMarks op r = false := by decide +kernel) : Ev W sc d (.Compare l [op] [r] pos) m H Q := by
 have cX : True := trivial
 revert W sc d m H l op r pos Q h hm
 rintro W sc d m H l op r pos Q h hm
 rintro env A Φ μ s F
 exact (wpAny_Compare1 (hm := hm) (JPost.goE F (h env A Φ μ s F) fun v s1 a H1 μ1 F1 K1 r1 q1 => by
  exact JPost.goE F1 (q1 env A Φ μ1 s1 F1) fun u s2 b H2 μ2 F2 K2 r2 q2 => by
   refine JPost.wp (K1.trans K2) (JPost.endP F2 (q2 A Φ μ2 s2 v u F2.a F2.inv (r1.step (F1.stepF K2)) r2))))
theorem E_if {t x y pos Q} (h : Tv W sc d t m H fun b H1 => if b = true then Ev W sc d x m H1 Q else Ev W sc d y m H1 Q) : Ev W sc d (.IfExp t x y pos) m H Q := by
 have cX : True := trivial
 revert W sc d m H t x y pos Q h
 rintro W sc d m H t x y pos Q h
 rintro env A Φ μ s F
 exact (wpAny_IfExp (JPost.goE F (h env A Φ μ s F) fun v s1 b H1 μ1 F1 K1 r1 q1 => by
  subst r1
  cases v
  ·exact JPost.wp K1 (q1 env A Φ μ1 s1 F1)
  ·exact JPost.wp K1 (q1 env A Φ μ1 s1 F1)))
noncomputable def Tr (W : Wd) (d : Nat) (a : V) (H : List AObj) (Q : Bool → Prop) : Prop :=
 ∀ A Φ μ s v, AOk d A → Inv W.hb Φ μ H s.heap → VR (cx Φ μ H s.heap) a v → wpAny W.M A (truthy v) (fun b s' => ∃ t, s' = { s with toks := t } ∧ Q b) Bot s
theorem Tr_bool {b} {Q : Bool → Prop} (h : Q b) : Tr W d (.bool b) H Q := fun A Φ μ s v za zb e => by rw [e]; exact wpAny_truthy_bool ⟨s.toks, rfl, h⟩
theorem T_val {e Q} (h : Ev W sc d e m H fun a H1 => Tr W d a H1 fun b => Q b H1) (hs : ∀ env whole, isTrue e env whole = (do let v ← whole; standAt e.pos; holding [v] (truthy v)) := by intro _ _; with_unfolding_all rfl) : Tv W sc d e m H Q := fun env A Φ μ s F =>
 wpAny_isTrue_value (he := hs env _) (JPost.goE F (h env A Φ μ s F) fun v s1 a H1 μ1 F1 K1 r1 q1 => by
  refine JPost.wp K1 (wpm (q1 A Φ μ1 s1 v F1.a F1.inv r1) (fun b s' ⟨t, e, q⟩ => ?_))
  subst e
  exact JPost.tok F1 rfl ⟨rfl, q⟩)
theorem T_cmp {l op r pos Q} (h : Ev W sc d l m H fun a H1 => Ev W sc d r m H1 fun b H2 => Pr2 W d (compareOp op) a b H2 fun c H3 => Tr W d c H3 fun b => Q b H3) (hm : behindInMarks op r = false := by decide +kernel) : Tv W sc d (.Compare l [op] [r] pos) m H Q := by
 have cX : True := trivial
 revert W sc d m H l op r pos Q h hm
 rintro W sc d m H l op r pos Q h hm
 rintro env A Φ μ s F
 exact (wpAny_isTrue_Compare1 (hm := hm) (JPost.goE F (h env A Φ μ s F) fun v s1 a H1 μ1 F1 K1 r1 q1 => by
  exact JPost.goE F1 (q1 env A Φ μ1 s1 F1) fun u s2 b H2 μ2 F2 K2 r2 q2 => by
   refine wpm (q2 A Φ μ2 s2 v u F2.a F2.inv (r1.step (F1.stepF K2)) r2) (fun x s3 ⟨c, H3, μ3, K3, I3, r3, q3⟩ => ?_)
   have F3 := F2.move0 K3 I3
   refine JPost.wp ((K1.trans K2).trans K3.weak0) (wpm (q3 A Φ μ3 s3 x F3.a F3.inv r3) (fun b s' ⟨t, e, q⟩ => ?_))
   subst e
   exact JPost.tok F3 rfl ⟨rfl, q⟩))
theorem T_not {x pos Q} (h : Tv W sc d x m H fun b H1 => Q (!b) H1) : Tv W sc d (.UnaryOp .Not x pos) m H Q := fun env A Φ μ s F =>
 wpAny_isTrue_Not (JPost.goE F (h env A Φ μ s F) fun v s1 b H1 μ1 F1 K1 r1 q1 => by
  subst r1
  exact JPost.ofK K1 (JPost.here (b := !v) F1 rfl ⟨rfl, q1⟩))
theorem T_bo {op es pos Q} (h : Tvs W sc d op es m H Q) : Tv W sc d (.BoolOp op es pos) m H Q := fun env A Φ μ s F => wpAny_isTrue_BoolOp (h env A Φ μ s F)
theorem T_and0 {Q} (h : Q true H) : Tvs W sc d .And [] m H Q := fun env A Φ μ s F => wpAny_allTrue_And_nil (JPost.here (b := true) F rfl ⟨rfl, h⟩)
theorem T_or0 {Q} (h : Q false H) : Tvs W sc d .Or [] m H Q := fun env A Φ μ s F => wpAny_allTrue_Or_nil (JPost.here (b := false) F rfl ⟨rfl, h⟩)
theorem T_and {x rest Q} (h : Tv W sc d x m H fun b H1 => if b = true then Tvs W sc d .And rest m H1 Q else Q false H1) : Tvs W sc d .And (x :: rest) m H Q := fun env A Φ μ s F =>
 wpAny_allTrue_And_cons (JPost.goE F (h env A Φ μ s F) fun v s1 b H1 μ1 F1 K1 r1 q1 => by
  subst r1
  cases v
  ·exact JPost.ofK K1 (JPost.here (RR := fun za b v => v = b) (Q := fun b m' H' => m' = m ∧ Q b H') (b := false) F1 rfl ⟨rfl, q1⟩)
  ·exact JPost.wp K1 (q1 env A Φ μ1 s1 F1))
theorem T_or {x rest Q} (h : Tv W sc d x m H fun b H1 => if b = true then Q true H1 else Tvs W sc d .Or rest m H1 Q) : Tvs W sc d .Or (x :: rest) m H Q := by
 have cX : True := trivial
 revert W sc d m H x rest Q h
 rintro W sc d m H x rest Q h
 rintro env A Φ μ s F
 exact (wpAny_allTrue_Or_cons (JPost.goE F (h env A Φ μ s F) fun v s1 b H1 μ1 F1 K1 r1 q1 => by
  subst r1
  cases v
  ·exact JPost.wp K1 (q1 env A Φ μ1 s1 F1)
  ·exact JPost.ofK K1 (JPost.here (RR := fun za b v => v = b) (Q := fun b m' H' => m' = m ∧ Q b H') (b := true) F1 rfl ⟨rfl, q1⟩)))
theorem S_nil {Q : AF → Loc → List AObj → Prop} (h : Q .next m H) : Ss W sc d [] m H Q := fun env A Φ μ s F => wpAny_execs_nil (JPost.here (b := AF.next) F rfl h)
theorem S_cons {st rest Q} (h : Sx W sc d st m H fun f m1 H1 => match f with | .next => Ss W sc d rest m1 H1 Q | f => Q f m1 H1) : Ss W sc d (st :: rest) m H Q := fun env A Φ μ s F =>
 wpAny_execs_cons (JPost.thenFm F (h env A Φ μ s F) fun v s1 b m1 H1 μ1 F1 K1 r1 q1 => by
  cases b with
  | next => cases r1; exact JPost.wp K1 (q1 env A Φ μ1 s1 F1)
  | brk => cases r1; exact JPost.ofK K1 (JPost.here (b := AF.brk) F1 rfl q1)
  | cont => cases r1; exact JPost.ofK K1 (JPost.here (b := AF.cont) F1 rfl q1)
  | ret a => obtain ⟨u, rfl, r⟩ := r1; exact JPost.ofK K1 (JPost.here (b := AF.ret a) F1 ⟨u, rfl, r⟩ q1))
theorem S_if {t x y pos Q} (h : Tv W sc d t m H fun b H1 => if b = true then Ss W sc d x m H1 Q else Ss W sc d y m H1 Q) : Sx W sc d (.If t x y pos) m H Q := by
 have cX : True := trivial
 revert W sc d m H t x y pos Q h
 rintro W sc d m H t x y pos Q h
 rintro env A Φ μ s F
 exact (wpAny_If (JPost.goE F (h env A Φ μ s F) fun v s1 b H1 μ1 F1 K1 r1 q1 => by
  subst r1
  cases v
  ·exact JPost.wp K1 (q1 env A Φ μ1 s1 F1)
  ·exact JPost.wp K1 (q1 env A Φ μ1 s1 F1)))
theorem S_ret {e pos} {Q : AF → Loc → List AObj → Prop} (h : Ev W sc d e m H fun a H1 => Q (.ret a) m H1) : Sx W sc d (.Return (some e) pos) m H Q := fun env A Φ μ s F =>
 wpAny_Return_some (JPost.goE F (h env A Φ μ s F) fun v s1 b H1 μ1 F1 K1 r1 q1 => by
  exact JPost.ofK K1 (JPost.here (b := AF.ret b) F1 ⟨v, rfl, r1⟩ q1))
theorem S_ret0 {pos} {Q : AF → Loc → List AObj → Prop} (h : Q (.ret .none) m H) : Sx W sc d (.Return none pos) m H Q := fun env A Φ μ s F =>
 wpAny_Return_none (JPost.here (b := AF.ret .none) F ⟨.none, rfl, rfl⟩ h)
theorem S_cont {pos} {Q : AF → Loc → List AObj → Prop} (h : Q .cont m H) : Sx W sc d (.Continue pos) m H Q := fun env A Φ μ s F => wpAny_Continue (JPost.here (b := AF.cont) F rfl h)
theorem S_expr {e pos} {Q : AF → Loc → List AObj → Prop} (h : Ev W sc d e m H fun za H1 => Q .next m H1) (hs : ∀ env, swapsWith e none pos.line env = pure false := by intro _; with_unfolding_all rfl) : Sx W sc d (.Expr e pos) m H Q := fun env A Φ μ s F =>
 wpAny_Expr_any (JPost.goE F (h env A Φ μ s F) fun v s1 b H1 μ1 F1 K1 r1 q1 => by
  exact JPost.ofK K1 (JPost.here (b := AF.next) F1 rfl q1)) (by unfold interactive; rw [F.en.scope, F.en.kind]; rfl) (hs env)
theorem kp (F : Fm W sc d env A Φ m μ H s) : (env.scope.kind == .class || (env.scope.kind == .module && env.locals != env.globals)) = false := by rw [F.en.scope, F.en.kind]; rfl
theorem Inv.frame {hb : Hb} {h h' : Heap} (I : Inv hb Φ μ H h) (k : ∀ b o, b ∉ Φ → h.get? b = some o → h'.get? b = some o) (al : ∀ b o, h.get? b = some o → ∃ o', h'.get? b = some o') : Inv hb Φ μ H h' := by
 have S : Step (cx Φ μ H h) (cx Φ μ H h') := ⟨fun b o e n => k b o (fun q => n (.inr q)) e, fun za q => .inl q, fun za zb e => e⟩
 refine ⟨I.len, fun b o e => k b o (fun q => ?_) (I.base b o e), fun j o p e1 e2 => ?_, I.apart, fun b q => ⟨(I.live b q).1, let ⟨o, e⟩ := (I.live b q).2; al b o e⟩, fun b q => ⟨(I.phi b q).1, let ⟨o, e⟩ := (I.phi b q).2.1; al b o e, (I.phi b q).2.2⟩, I.lo, I.two⟩
 ·rw [(I.phi b q).1] at e; cases e
 ·by_cases hd : o = .dead
  ·subst hd; trivial
  ·refine (I.obj j o p e1 e2).step S fun b ob hbp e => k b ob (fun q => (I.phi b q).2.2 ⟨j, o, p, e1, hd, e2, hbp⟩) e
noncomputable def Loc.put (m : Loc) (x : Str) (a : V) : Loc := fun y => if y = x then some a else m y
theorem storeLocal {x : Str} {a : V} {v : Value} {Q : Loc → List AObj → Prop} (hk : sc.names.lookup x = some .local) (F : Fm W sc d env A Φ m μ H s) (r : VR (cx Φ μ H s.heap) a v) (h : Q (m.put x a) H) :
  wpAny W.M A (storeName env x v) (JPost W env Φ μ H s (fun _ (_ : Unit) (_ : Unit) => True) fun za m' H' => Q m' H') Bot s := by
 have cX : True := trivial
 revert W sc d env A Φ m μ H s x a v Q hk F r h
 rintro W sc d env A Φ m μ H s x a v Q hk F r h
 have hk' : env.kindOf x = some .local := (kindOf_of F.en x).trans hk
 obtain ⟨ml, hn, hl⟩ := F.loc.ns
 refine wpAny_storeName_local hk' hn (fun h' hn' hs => ?_) (kp F)
 have al : ∀ b o, s.heap.get? b = some o → ∃ o', h'.get? b = some o' := fun b o e => by
  by_cases q : b = env.locals
  ·obtain ⟨o', _, _, e', _⟩ := hn'; exact ⟨o', q ▸ e'⟩
  ·exact ⟨o, (hs.2 b q).trans e⟩
 have K : Keep (Fp env) μ H s μ H { s with heap := h', toks := s.toks + 1 } :=
  ⟨rfl, rfl, rfl, al, fun b o e za p => (hs.2 b fun q => p (q ▸ .head _)).trans e, fun za q => .inl q, fun za zb e => e⟩
 have S := F.stepF K
 have I : Inv W.hb Φ μ H h' := F.inv.frame (fun b o p e => (hs.2 b fun q => p (q ▸ F.fr.loc)).trans e) al
 refine ⟨(), m.put x a, H, μ, K, I, ⟨⟨_, hn', fun y b hy hm => ?_⟩, fun y hy => ?_⟩, trivial, h⟩
 ·unfold Loc.put at hm
  by_cases q : y = x
  ·rw [if_pos q] at hm; cases hm; exact ⟨v, by rw [if_pos q], r.step S⟩
  ·rw [if_neg q] at hm
   obtain ⟨u, e, r'⟩ := hl y b hy hm
   exact ⟨u, by rw [if_neg q]; exact e, r'.step S⟩
 ·obtain ⟨cl, u, hc, ⟨o, ho, hd⟩, hm⟩ := F.loc.cell y hy
  refine ⟨cl, u, hc, ⟨o, (hs.2 cl (F.fr.off _ _ hc)).trans ho, hd⟩, fun b hb => ?_⟩
  unfold Loc.put at hb
  have q : y ≠ x := fun q => by rw [q, hk'] at hy; rcases hy with z | z <;> cases z
  rw [if_neg q] at hb
  obtain ⟨v', e, r'⟩ := hm b hb
  exact ⟨v', e, r'.step S⟩
theorem storeCell {x : Str} {a : V} {v : Value} {Q : Loc → List AObj → Prop} (hk : sc.names.lookup x = some .cell) (F : Fm W sc d env A Φ m μ H s) (r : VR (cx Φ μ H s.heap) a v) (h : Q (m.put x a) H) :
  wpAny W.M A (storeName env x v) (JPost W env Φ μ H s (fun _ (_ : Unit) (_ : Unit) => True) fun za m' H' => Q m' H') Bot s := by
 have cX : True := trivial
 revert W sc d env A Φ m μ H s x a v Q hk F r h
 rintro W sc d env A Φ m μ H s x a v Q hk F r h
 have hk' : env.kindOf x = some .cell := (kindOf_of F.en x).trans hk
 obtain ⟨cl, v0, hc, hv, _⟩ := F.loc.cell x (.inl hk')
 refine wpAny_storeName_cell (by rw [F.en.scope]; exact F.en.kind) hk' hc hv ?_
 rintro h' hv' hs
 have al : ∀ b o, s.heap.get? b = some o → ∃ o', h'.get? b = some o' := fun b o e => by
  by_cases q : b = cl
  ·obtain ⟨o', e', _⟩ := hv'; exact ⟨o', q ▸ e'⟩
  ·exact ⟨o, (hs.2 b q).trans e⟩
 have K : Keep (Fp env) μ H s μ H { s with heap := h' } :=
  ⟨rfl, rfl, rfl, al, fun b o e za p => (hs.2 b fun q => p (q ▸ .tail _ (mem_of_look hc))).trans e, fun za q => .inl q, fun za zb e => e⟩
 have S := F.stepF K
 have I : Inv W.hb Φ μ H h' := F.inv.frame (fun b o p e => (hs.2 b fun q => p (q ▸ F.fr.cell hc)).trans e) al
 obtain ⟨ml, ⟨oL, es, ep, hoL, rL⟩, hl⟩ := F.loc.ns
 refine ⟨(), m.put x a, H, μ, K, I, ⟨⟨ml, ⟨oL, es, ep, (hs.2 _ (F.fr.off _ _ hc).symm).trans hoL, rL⟩, fun y b hy hm => ?_⟩, fun y hy => ?_⟩, trivial, h⟩
 ·have q : y ≠ x := fun q => by rw [q, hk'] at hy; cases hy
  unfold Loc.put at hm
  rw [if_neg q] at hm
  obtain ⟨u, e, r'⟩ := hl y b hy hm
  exact ⟨u, e, r'.step S⟩
 ·by_cases q : y = x
  ·subst q
   exact ⟨cl, some v, hc, hv', fun b hb => by unfold Loc.put at hb; rw [if_pos rfl] at hb; cases hb; exact ⟨v, rfl, r.step S⟩⟩
  ·obtain ⟨cl', u, hc', ⟨o, ho, hd⟩, hm⟩ := F.loc.cell y hy
   refine ⟨cl', u, hc', ⟨o, (hs.2 cl' fun z => q ?_).trans ho, hd⟩, fun b hb => ?_⟩
   ·exact F.fr.apart y x cl (z ▸ hc') hc
   ·unfold Loc.put at hb
    rw [if_neg q] at hb
    obtain ⟨v', e, r'⟩ := hm b hb
    exact ⟨v', e, r'.step S⟩
theorem storeAny {x : Str} {a : V} {v : Value} {Q : Loc → List AObj → Prop} (hk : sc.names.lookup x = some .local ∨ sc.names.lookup x = some .cell) (F : Fm W sc d env A Φ m μ H s) (r : VR (cx Φ μ H s.heap) a v) (h : Q (m.put x a) H) :
  wpAny W.M A (storeName env x v) (JPost W env Φ μ H s (fun _ (_ : Unit) (_ : Unit) => True) fun za m' H' => Q m' H') Bot s := hk.elim (fun k => storeLocal k F r h) fun k => storeCell k F r h
theorem A_name {x : Str} {pos a Q} (hk : (sc.names.lookup x == some .local || sc.names.lookup x == some .cell) = true) (h : Q (m.put x a) H) : As W sc d (.Name x pos) a m H Q := fun env A Φ μ s v F r =>
 wpAny_assign_Name (storeAny (by simpa using hk) F r h)
theorem S_set {x : Str} {px e pos} {Q : AF → Loc → List AObj → Prop} (h : Ev W sc d e m H fun a H1 => Q .next (m.put x a) H1) (hk : (sc.names.lookup x == some .local || sc.names.lookup x == some .cell) = true := by left)
  (hs : ∀ env, swapsWith e (some (.Name x px)) pos.line env = pure false := by intro _; with_unfolding_all rfl) : Sx W sc d (.Assign [.Name x px] e pos) m H Q := fun env A Φ μ s F =>
 wpAny_Assign_Name (JPost.goE F (h env A Φ μ s F) fun v s1 b H1 μ1 F1 K1 r1 q1 => by
  refine JPost.thenFm F1 (storeAny (Q := fun m' H' => Q .next m' H') (by simpa using hk) F1 r1 q1) fun za s2 zb m2 H2 μ2 F2 K2 zc q2 => ?_
  exact JPost.ofK (K1.trans K2) (JPost.here (b := AF.next) F2 rfl q2)) (hs env)
end
end Mine
set_option tactic.hygienic false
namespace Mine
section
variable {W : Wd} {sc : Scope} {d : Nat} {env : Env} {A : Around} {Φ : List Addr} {m m' : Loc} {μ μ' : List (Addr × Addr)} {H H' : List AObj} {s s' : Shared}
theorem P_add {a b Q} (h : Q (.int (a + b)) H) : Pr2 W d (binaryOp .Add) (.int a) (.int b) H Q := fun A Φ μ s u v ha I ⟨t, e⟩ ⟨t', e'⟩ => by
 subst e e'; exact P.add_int (PPost.here (b := V.int (a + b)) I ⟨_, rfl⟩ h)
theorem P_sub {a b Q} (h : Q (.int (a - b)) H) : Pr2 W d (binaryOp .Sub) (.int a) (.int b) H Q := fun A Φ μ s u v ha I ⟨t, e⟩ ⟨t', e'⟩ => by
 subst e e'; exact P.sub_int (PPost.here (b := V.int (a - b)) I ⟨_, rfl⟩ h)
theorem P_mul {a b Q} (hm : IntMulOk a b) (h : Q (.int (a * b)) H) : Pr2 W d (binaryOp .Mult) (.int a) (.int b) H Q := fun A Φ μ s u v ha I ⟨t, e⟩ ⟨t', e'⟩ => by
 subst e e'; exact P.mul_int (PPost.here (b := V.int (a * b)) I ⟨_, rfl⟩ h) hm
theorem P_mod {a b Q} (hb : b ≠ 0) (h : Q (.int (a.fmod b)) H) : Pr2 W d (binaryOp .Mod) (.int a) (.int b) H Q := fun A Φ μ s u v ha I ⟨t, e⟩ ⟨t', e'⟩ => by
 subst e e'; exact mod_int hb (PPost.here (b := V.int (a.fmod b)) I ⟨_, rfl⟩ h)
theorem P_div {a b Q} (hb : b ≠ 0) (hp : Builtin.divisionGoesByPylong a b = false) (h : Q (.int (a.fdiv b)) H) : Pr2 W d (binaryOp .FloorDiv) (.int a) (.int b) H Q := fun A Φ μ s u v ha I ⟨t, e⟩ ⟨t', e'⟩ => by
 subst e e'; exact floordiv_int hb (PPost.here (b := V.int (a.fdiv b)) I ⟨_, rfl⟩ h) (.inl hp)
theorem P_pow {a n Q} (hn : 0 ≤ n) (hsz : (Builtin.Int.intBits a : Int) * n ≤ 2 ^ 27) (h : Q (.int (a ^ n.toNat)) H) : Pr2 W d (binaryOp .Pow) (.int a) (.int n) H Q := fun A Φ μ s u v ha I ⟨t, e⟩ ⟨t', e'⟩ => by
 subst e e'; exact pow_int hn hsz (PPost.here (b := V.int (a ^ n.toNat)) I ⟨_, rfl⟩ h)
theorem P_neg {a Q} (h : Q (.int (-a)) H) : Pr1 W d (unaryOp .USub) (.int a) H Q := fun A Φ μ s u ha I ⟨t, e⟩ => by
 subst e; exact P.neg_int (PPost.here (b := V.int (-a)) I ⟨_, rfl⟩ h)
theorem P_lt {a b Q} (h : Q (.bool (decide (a < b))) H) : Pr2 W d (compareOp .Lt) (.int a) (.int b) H Q := fun A Φ μ s u v ha I ⟨t, e⟩ ⟨t', e'⟩ => by
 subst e e'; exact P.lt_int (PPost.here (t := s.toks) (b := V.bool _) I rfl h)
theorem P_le {a b Q} (h : Q (.bool (decide (a ≤ b))) H) : Pr2 W d (compareOp .LtE) (.int a) (.int b) H Q := fun A Φ μ s u v ha I ⟨t, e⟩ ⟨t', e'⟩ => by
 subst e e'; exact P.le_int (PPost.here (t := s.toks) (b := V.bool _) I rfl h)
theorem P_gt {a b Q} (h : Q (.bool (decide (a > b))) H) : Pr2 W d (compareOp .Gt) (.int a) (.int b) H Q := fun A Φ μ s u v ha I ⟨t, e⟩ ⟨t', e'⟩ => by
 subst e e'; exact P.gt_int (PPost.here (t := s.toks) (b := V.bool _) I rfl h)
theorem P_ge {a b Q} (h : Q (.bool (decide (a ≥ b))) H) : Pr2 W d (compareOp .GtE) (.int a) (.int b) H Q := fun A Φ μ s u v ha I ⟨t, e⟩ ⟨t', e'⟩ => by
 subst e e'; exact P.ge_int (PPost.here (t := s.toks) (b := V.bool _) I rfl h)
theorem P_eqI {a b Q} (h : Q (.bool (decide (a = b))) H) : Pr2 W d (compareOp .Eq) (.int a) (.int b) H Q := fun A Φ μ s u v ha I ⟨t, e⟩ ⟨t', e'⟩ => by
 subst e e'; exact P.eq_int (PPost.here (t := s.toks) (b := V.bool (a == b)) I rfl (by rw [show (a == b) = decide (a = b) from rfl]; exact h))
theorem P_neI {a b Q} (h : Q (.bool (!decide (a = b))) H) : Pr2 W d (compareOp .NotEq) (.int a) (.int b) H Q := fun A Φ μ s u v ha I ⟨t, e⟩ ⟨t', e'⟩ => by
 subst e e'; exact P.ne_int (PPost.here (t := s.toks) (b := V.bool (a != b)) I rfl (by rw [show (a != b) = !decide (a = b) from rfl]; exact h))
theorem P_neB {a b Q} (h : Q (.bool (a != b)) H) : Pr2 W d (compareOp .NotEq) (.bool a) (.bool b) H Q := fun A Φ μ s u v ha I e e' => by
 rw [show u = .bool a from e, show v = .bool b from e']; exact ne_bool (PPost.here (t := s.toks) (b := V.bool _) I rfl h)
noncomputable def V.isNone : V → Bool
 | .none => true
 | _ => false
theorem VR.isNone {c : Cx} {a : V} {v : Value} (h : VR c a v) (hr : ∀ w, a ≠ .raw w) : (v == .none) = a.isNone := by
 cases a with
 | none => rw [show v = .none from h]; rfl
 | bool b => rw [show v = .bool b from h]; rfl
 | int i => obtain ⟨t, rfl⟩ := h; rfl
 | tup xs => obtain ⟨a, vs, rfl, _⟩ := h; rfl
 | lst xs => obtain ⟨a, vs, rfl, _⟩ := h; rfl
 | obj C ns xs => obtain ⟨a, d, vs, rfl, _⟩ := h; rfl
 | dct ks xs => obtain ⟨a, es, n, vs, rfl, _⟩ := h; rfl
 | ref k => obtain ⟨p, _, rfl⟩ := h; rfl
 | rng n => obtain ⟨a, rfl, _⟩ := h; rfl
 | vals xs => obtain ⟨a, d, es, n, rfl, _⟩ := h; rfl
 | raw w => exact absurd rfl (hr w)
theorem P_is {a : V} {Q} (hr : ∀ w, a ≠ .raw w) (h : Q (.bool a.isNone) H) : Pr2 W d (compareOp .Is) a .none H Q := fun A Φ μ s u v ha I e e' => by
 rw [show v = .none from e']; exact is_none (by rw [e.isNone hr]; exact PPost.here (t := s.toks) (b := V.bool _) I rfl h)
theorem P_isnot {a : V} {Q} (hr : ∀ w, a ≠ .raw w) (h : Q (.bool (!a.isNone)) H) : Pr2 W d (compareOp .IsNot) a .none H Q := fun A Φ μ s u v ha I e e' => by
 rw [show v = .none from e']; exact isNot_none (by rw [e.isNone hr]; exact PPost.here (t := s.toks) (b := V.bool _) I rfl h)
mutual
noncomputable def toDat : V → Dat
 | .none => .none
 | .int i => .int i
 | .tup xs => .tuple (toDats xs)
 | .lst xs => .list (toDats xs)
 | _ => .bytes #[]
noncomputable def toDats : List V → List Dat
 | [] => []
 | x :: xs => toDat x :: toDats xs
end
noncomputable def plainV (n : Nat) (x : V) : Bool := kqdOk n (toDat x)
noncomputable def plainVs (n : Nat) (xs : List V) : Bool := (toDats xs).all (kqdOk n)
theorem plainVs_cons {n x xs} : plainVs n (x :: xs) = true ↔ plainV n x = true ∧ plainVs n xs = true := Bool.and_eq_true_iff
theorem plainV_tup {n xs} : plainV (n + 1) (.tup xs) = plainVs n xs := rfl
theorem plainV_lst {n xs} : plainV (n + 1) (.lst xs) = plainVs n xs := rfl
theorem badD {n : Nat} (h : kqdOk n (.bytes #[]) = true) : False := by cases n <;> cases h
mutual
noncomputable def ofDat : Dat → V
 | .int i => .int i
 | .tuple ds => .tup (ofDats ds)
 | .list ds => .lst (ofDats ds)
 | _ => .none
noncomputable def ofDats : List Dat → List V
 | [] => []
 | d :: ds => ofDat d :: ofDats ds
end
mutual
theorem ofDat_to : ∀ (x : V) (n : Nat), plainV n x = true → ofDat (toDat x) = x
 | .none, _, _ => rfl
 | .int _, _, _ => rfl
 | .tup _, 0, h => nomatch h
 | .tup xs, n + 1, h => congrArg V.tup (ofDats_to xs n h)
 | .lst _, 0, h => nomatch h
 | .lst xs, n + 1, h => congrArg V.lst (ofDats_to xs n h)
 | .bool _, _, h => (badD h).elim
 | .obj _ _ _, _, h => (badD h).elim
 | .dct _ _, _, h => (badD h).elim
 | .ref _, _, h => (badD h).elim
 | .rng _, _, h => (badD h).elim
 | .vals _, _, h => (badD h).elim
 | .raw _, _, h => (badD h).elim
theorem ofDats_to : ∀ (xs : List V) (n : Nat), plainVs n xs = true → ofDats (toDats xs) = xs
 | [], _, _ => rfl
 | x :: xs, n, h => by
  have h := plainVs_cons.mp h
  show ofDat (toDat x) :: ofDats (toDats xs) = x :: xs
  rw [ofDat_to x n h.1, ofDats_to xs n h.2]
end
theorem toDat_inj (n k : Nat) (x y : V) (hx : plainV n x = true) (hy : plainV k y = true) (e : toDat x = toDat y) : x = y := (ofDat_to x n hx).symm.trans ((congrArg ofDat e).trans (ofDat_to y k hy))
mutual
theorem VR.reads {c : Cx} : ∀ (x : V) (n : Nat) (v : Value), plainV n x = true → VR c x v → ∃ as, Reads c.h v (kqdP (toDat x)) as
 | .none, _, v, _, h => by rw [show v = .none from h]; exact ⟨_, .none⟩
 | .int i, _, v, _, h => by obtain ⟨t, e⟩ := h; rw [e]; exact ⟨_, .int i t⟩
 | .tup _, 0, _, h, _ => nomatch h
 | .tup xs, n + 1, v, hx, h => by
  obtain ⟨a, vs, e, ht, _, r⟩ := h
  obtain ⟨o, ho, hc, k, hd⟩ := ht.isTuple
  obtain ⟨as, q⟩ := VRs.reads xs n vs hx r
  rw [e]; exact ⟨as, .tuple ho hc hd (by simpa using q)⟩
 | .lst _, 0, _, h, _ => nomatch h
 | .lst xs, n + 1, v, hx, h => by
  obtain ⟨a, vs, e, ht, _, r⟩ := h
  obtain ⟨o, ho, hc, k, hd⟩ := ht.isList
  obtain ⟨as, q⟩ := VRs.reads xs n vs hx r
  rw [e]; exact ⟨_, .list ho hc hd (by simpa using q)⟩
 | .bool _, _, _, h, _ => (badD h).elim
 | .obj _ _ _, _, _, h, _ => (badD h).elim
 | .dct _ _, _, _, h, _ => (badD h).elim
 | .ref _, _, _, h, _ => (badD h).elim
 | .rng _, _, _, h, _ => (badD h).elim
 | .vals _, _, _, h, _ => (badD h).elim
 | .raw _, _, _, h, _ => (badD h).elim
theorem VRs.reads {c : Cx} : ∀ (xs : List V) (n : Nat) (vs : List Value), plainVs n xs = true → VRs c xs vs → ∃ as, ReadsAll c.h vs (kqdPs (toDats xs)) as
 | [], _, vs, _, h => by rw [show vs = [] from h]; exact ⟨_, .nil⟩
 | x :: xs, n, _, hx, ⟨v, r, e, h, t⟩ => by
  obtain ⟨as, q⟩ := VR.reads x n v (plainVs_cons.mp hx).1 h
  obtain ⟨bs, p⟩ := VRs.reads xs n r (plainVs_cons.mp hx).2 t
  rw [e]; exact ⟨_, .cons q p⟩
end
theorem eqv_plain {x y : V} (hx : plainV 8 x = true) (hy : plainV 8 y = true) : (PyData.eqv (kqdP (toDat x)) (kqdP (toDat y)) = true ↔ x = y) := by
 rw [kqd_eqv 8 (toDat x) (toDat y) 8 hx hy]
 exact ⟨toDat_inj 8 8 x y hx hy, fun e => by rw [e]⟩
theorem shaped_plain {x : V} (hx : plainV 8 x = true) : SeqAt.shaped (kqdP (toDat x)) = true := by
 have l := kqd_lay 8 (toDat x) hx
 unfold SeqAt.shaped; rw [l.1, Bool.true_and]; exact decide_eq_true (Nat.le_trans l.2 (by decide))
theorem AOk.room64 {d A} (h : AOk d A) : A.units + 64 < cLine := by have := h.units; have := h.small; unfold cLine; lia
theorem P_eq {x y : V} {Q} (hx : plainV 8 x = true) (hy : plainV 8 y = true) (h : ∀ b : Bool, (b = true ↔ x = y) → Q (.bool b) H) : Pr2 W d (compareOp .Eq) x y H Q := fun A Φ μ s u v ha I r r' => by
 obtain ⟨as, ra⟩ := VR.reads x 8 u hx r
 obtain ⟨bs, rb⟩ := VR.reads y 8 v hy r'
 exact eq_dataH ra rb (shaped_plain hx) (shaped_plain hy) ha.room64 (PPost.here (t := s.toks) (b := V.bool _) I rfl (h _ (eqv_plain hx hy)))
theorem P_ne {x y : V} {Q} (hx : plainV 8 x = true) (hy : plainV 8 y = true) (h : ∀ b : Bool, (b = true ↔ x ≠ y) → Q (.bool b) H) : Pr2 W d (compareOp .NotEq) x y H Q := fun A Φ μ s u v ha I r r' => by
 obtain ⟨as, ra⟩ := VR.reads x 8 u hx r
 obtain ⟨bs, rb⟩ := VR.reads y 8 v hy r'
 refine ne_dataH ra rb (shaped_plain hx) (shaped_plain hy) ha.room64 (PPost.here (t := s.toks) (b := V.bool _) I rfl (h _ ?_))
 have := eqv_plain hx hy
 cases q : PyData.eqv (kqdP (toDat x)) (kqdP (toDat y)) <;> simp_all
end
end Mine
set_option tactic.hygienic false
namespace Mine
section
variable {W : Wd} {sc : Scope} {d : Nat} {env : Env} {A : Around} {Φ : List Addr} {m m' : Loc} {μ μ' : List (Addr × Addr)} {H H' : List AObj} {s s' : Shared}
noncomputable def Kept (W : Wd) (f : Value) : Prop := ∀ h, W.K.In h → ∃ k, (k = Keeper.frame ∨ k = Keeper.machine ∨ k = Keeper.boundFrame) ∧ Looks W.M h (keeperOf f) k
theorem Kept.fn {f : Value} (hk : keepIn W.K f = true) : Kept W f := fun h X => keeps_K hk h X
theorem Kept.blt {i : String} : Kept W (.builtin i) := fun h X => ⟨.machine, .inr (.inl rfl), Looks.of_pure rfl⟩
theorem Kept.typ {i : String} : Kept W (.type i) := fun h X => ⟨.machine, .inr (.inl rfl), Looks.of_pure rfl⟩
theorem evalArgs_any {M : Model} {E : Value → Shared → Prop} {f : Value} {args : List (Bool × Sem Value)} {Q : Args → Shared → Prop} (hp : args.any (·.1) = false)
  (h : wpAny M A (spliced args) (fun vs s' => Q ⟨vs, []⟩ s') E s) : wpAny M A (evalArgs f true args []) Q E s := by
 cases args with
 | nil =>
  unfold evalArgs
  show wpAny M A (spliced [] >>= _) Q E s
  refine wpAny_bind (wpm h (fun vs s' h' => ?_))
  refine wpAny_bind (wpAny_pure ?_)
  refine wpAny_holding ?_
  exact wpAny_bind (wpAny_pure (wpAny_bind (wpAny_pure (wpAny_pure h'))))
 | cons x r =>
  obtain ⟨b, x⟩ := x
  have : b = false := (Bool.or_eq_false_iff.mp (show (b || r.any (·.1)) = false from hp)).1
  subst this
  exact Calls.evalArgs_plain h
theorem Inv.kin (I : Inv W.hb Φ μ H s.heap) : W.K.In s.heap := I.two.2.kin.keeps I.base
theorem callWithF {f : Value} {first : List Value} {fs : List V} {args : List Expr} {pos : Pos} {Q : V → Loc → List AObj → Prop} (hk : Kept W f) (hp : (backTo pos (starEach args env)).any (·.1) = false) (F : Fm W sc d env A Φ m μ H s)
  (rf : VRs (cx Φ μ H s.heap) fs first) (h : Evs W sc d pos args m H fun as H1 => Cl W d f (fs ++ as) H1 fun r H2 => Q r m H2) :
  wpAny W.M A (callWith pos f first (backTo pos (starEach args env)) []) (JPost W env Φ μ H s VR Q) Bot s := by
 refine callWith_of (P := W.K.In) (by rw [hp]; rfl) hk (evalArgs_any hp (JPost.goE F (h env A Φ μ s F) fun vs s1 as H1 μ1 F1 K1 r1 q1 => ⟨F1.inv.kin, ?_⟩))
 exact JPost.wp K1 (JPost.wpP F1 (q1 A Φ μ1 s1 _ F1.a F1.inv ((rf.step (F.stepF K1)).append r1)))
theorem E_call {x : Str} {px pos : Pos} {args : List Expr} {Q} (h : Ev W sc d (.Name x px) m H fun a H1 => ∃ v, a = .raw v ∧ Kept W v ∧ Evs W sc d pos args m H1 fun as H2 => Cl W d v as H2 Q)
  (hp : ∀ env, (backTo pos (starEach args env)).any (·.1) = false := by intro _; rfl) : Ev W sc d (.Call (.Name x px) args [] pos) m H Q := by
 have cX : True := trivial
 revert W sc d m H x px pos args Q h hp
 rintro W sc d m H x px pos args Q h hp
 rintro env A Φ μ s F
 show wpAny W.M A (do callWith pos (← eval (.Name x px) env) [] (backTo pos (starEach args env)) (backToKw pos (keywordEach [] env))) _ _ s
 refine wpAny_bind (JPost.goE F (h env A Φ μ s F) fun v s1 a H1 μ1 F1 K1 r1 ⟨v', e2, k, q⟩ => ?_)
 subst e2
 rw [show v = v' from r1]
 exact JPost.wp K1 (callWithF (fs := []) (Q := fun r m' H' => m' = m ∧ Q r H') k (hp env) F1 rfl (Jd.mono q fun as m' H' ⟨e, c⟩ => ⟨e, c.mono fun za zb q => ⟨rfl, q⟩⟩))
theorem Es_nil {pos Q} (h : Q [] H) : Evs W sc d pos [] m H Q := fun env A Φ μ s F => wpAny_items_nil (JPost.here (b := ([] : List V)) F rfl ⟨rfl, h⟩)
theorem Es_cons {e rest pos} {Q : List V → List AObj → Prop} (h : Ev W sc d e m H fun a H1 => Evs W sc d pos rest m H1 fun as H2 => Q (a :: as) H2)
  (hs : ∀ env, starEach (e :: rest) env = (false, eval e env) :: starEach rest env := by intro _; with_unfolding_all rfl) : Evs W sc d pos (e :: rest) m H Q := by
 have cX : True := trivial
 revert W sc d m H e rest pos Q h hs
 rintro W sc d m H e rest pos Q h hs
 rintro env A Φ μ s F
 exact (wpAny_items_cons (he := hs env) (JPost.goE F (h env A Φ μ s F) fun v s1 a H1 μ1 F1 K1 r1 q1 => by
  exact JPost.goE F1 (q1 env A Φ μ1 s1 F1) fun vs s2 as H2 μ2 F2 K2 r2 q2 => by
   exact JPost.ofK (K1.trans K2) (JPost.here (b := a :: as) F2 ⟨v, vs, rfl, r1.step (F1.stepF K2), r2⟩ ⟨rfl, q2⟩)))
noncomputable def MethOf (W : Wd) (a : V) (H : List AObj) (name : Str) (f : Value) : Prop :=
 ∀ A Φ μ s v pl (R : Value × List Value → Shared → Prop), Inv W.hb Φ μ H s.heap → VR (cx Φ μ H s.heap) a v → R (f, [v]) s → wpAny W.M A (getMethod v name pl) R Bot s
theorem E_meth {o : Expr} {name : Str} {apos pos : Pos} {args : List Expr} {Q} (h : Ev W sc d o m H fun a H1 => ∃ f, MethOf W a H1 name f ∧ Kept W f ∧ Evs W sc d pos args m H1 fun as H2 => Cl W d f (a :: as) H2 Q)
  (hp : ∀ env, (backTo pos (starEach args env)).any (·.1) = false := by intro _; rfl)
  (he : ∀ env, eval (.Call (.Attribute o name apos) args [] pos) env = (do
   let ov ← eval o env
   standAt apos.atName
   let (f, first) ← holding [ov] (getMethod ov name (do return (← importBound o env).getD true))
   callWith pos f first (backTo pos (starEach args env)) []) := by intro _; rfl) :
  Ev W sc d (.Call (.Attribute o name apos) args [] pos) m H Q := by
 have cX : True := trivial
 revert W sc d m H o name apos pos args Q h hp he
 rintro W sc d m H o name apos pos args Q h hp he
 rintro env A Φ μ s F
 rw [he env]
 refine wpAny_bind (JPost.goE F (h env A Φ μ s F) fun v s1 a H1 μ1 F1 K1 r1 ⟨f, hm, k, q⟩ => wpAny_bind (wpAny_standAt (wpAny_bind (wpAny_holding (hm A Φ μ1 s1 v _ _ F1.inv r1 ?_)))))
 exact JPost.wp K1 (callWithF (fs := [a]) (Q := fun r m' H' => m' = m ∧ Q r H') k (hp env) F1 (.one r1) (Jd.mono q fun as m' H' ⟨e, c⟩ => ⟨e, c.mono fun za zb q => ⟨rfl, q⟩⟩))
theorem fresh_off {hb : Hb} {h : Heap} (I : Inv hb Φ μ H h) : ¬ (cx Φ μ H h).X h.objs.size := by
 rintro (q | q)
 ·obtain ⟨_, o, e⟩ := I.live _ q; rw [get_size] at e; cases e
 ·obtain ⟨_, ⟨o, e⟩, _⟩ := I.phi _ q; rw [get_size] at e; cases e
theorem push_keeps {h : Heap} (o : Obj) : ∀ b x, h.get? b = some x → (h.push o).get? b = some x := fun b x e => Heap.get?_push_of_some o e
theorem PPost.push {Q : V → List AObj → Prop} {o : Obj} {b : V} {t : Tok} (I : Inv W.hb Φ μ H s.heap) (hf : o.isFreed = false)
  (r : Step (cx Φ μ H s.heap) (cx Φ μ H (s.heap.push o)) → (s.heap.push o).get? s.heap.objs.size = some o → ¬ (cx Φ μ H (s.heap.push o)).X s.heap.objs.size → VR (cx Φ μ H (s.heap.push o)) b (.ref s.heap.objs.size)) (q : Q b H) :
  PPost W Φ μ H s VR Q (.ref s.heap.objs.size) { s with heap := s.heap.push o, toks := t } :=
 ⟨b, H, μ, Keep.grow (push_keeps o), I.grow (push_keeps o), r (grow_step (push_keeps o)) (Heap.get?_push_size _ hf) (fresh_off I), q⟩
theorem PPost.pushM {Q : V → List AObj → Prop} {o : Obj} {x : AObj} {t : Tok} (I : Inv W.hb Φ μ H s.heap) (hf : o.isFreed = false)
  (r : Step (cx Φ μ H s.heap) (cx Φ (μ ++ [(s.heap.objs.size, s.heap.objs.size)]) (H ++ [x]) (s.heap.push o)) → (s.heap.push o).get? s.heap.objs.size = some o → ObjR (cx Φ (μ ++ [(s.heap.objs.size, s.heap.objs.size)]) (H ++ [x]) (s.heap.push o)) x (s.heap.objs.size, s.heap.objs.size)) (q : Q (.ref H.length) (H ++ [x])) :
  PPost W Φ μ H s VR Q (.ref s.heap.objs.size) { s with heap := s.heap.push o, toks := t } := by
 have g := Heap.get?_push_size s.heap hf
 refine ⟨.ref H.length, H ++ [x], μ ++ [(s.heap.objs.size, s.heap.objs.size)], Keep.add I.len (push_keeps o) (get_size _) (get_size _), I.add (push_keeps o) (get_size _) (get_size _) ⟨_, g⟩ ⟨_, g⟩ (Nat.lt_of_succ_lt I.size2) (Nat.lt_of_succ_lt I.size2) fun S => r S g, ⟨(s.heap.objs.size, s.heap.objs.size), ?_, rfl⟩, q⟩
 show (μ ++ [(s.heap.objs.size, s.heap.objs.size)])[H.length]? = _
 rw [← I.len, List.getElem?_concat_length]
theorem E_tup {es k pos Q} (h : Evs W sc d pos es m H fun as H1 => as.length ≤ 1000 ∧ Q (.tup as) H1) : Ev W sc d (.Tuple es k pos) m H Q := fun env A Φ μ s F =>
 wpAny_Tuple (JPost.goE F (h env A Φ μ s F) fun vs s1 as H1 μ1 F1 K1 r1 ⟨hl, q⟩ => by
  refine ⟨by rw [r1.length, sizeLine_eq]; lia, JPost.ofK K1 (JPost.ofP F1 (PPost.push (b := .tup as) (Q := fun r H' => m = m ∧ Q r H') F1.inv rfl (fun S g n => ⟨_, vs, rfl, ⟨_, g⟩, n, r1.step S⟩) ⟨rfl, q⟩))⟩)
theorem E_lstF {es pos Q} (h : Evs W sc d pos es m H fun as H1 => as.length ≤ 1000 ∧ Q (.lst as) H1) : Ev W sc d (.List es pos) m H Q := fun env A Φ μ s F =>
 wpAny_List (JPost.goE F (h env A Φ μ s F) fun vs s1 as H1 μ1 F1 K1 r1 ⟨hl, q⟩ => by
  refine ⟨by rw [r1.length, sizeLine_eq]; lia, JPost.ofK K1 (JPost.ofP F1 (PPost.push (b := .lst as) (Q := fun r H' => m = m ∧ Q r H') F1.inv rfl (fun S g n => ⟨_, vs, rfl, ⟨_, g⟩, n, r1.step S⟩) ⟨rfl, q⟩))⟩)
theorem E_lstM {es pos Q} (h : Evs W sc d pos es m H fun as H1 => as.length ≤ 1000 ∧ Q (.ref H1.length) (H1 ++ [.list as])) : Ev W sc d (.List es pos) m H Q := fun env A Φ μ s F =>
 wpAny_List (JPost.goE F (h env A Φ μ s F) fun vs s1 as H1 μ1 F1 K1 r1 ⟨hl, q⟩ => by
  refine ⟨by rw [r1.length, sizeLine_eq]; lia, JPost.ofK K1 (JPost.ofP F1 (PPost.pushM (x := .list as) (Q := fun r H' => m = m ∧ Q r H') F1.inv rfl (fun S g => ⟨rfl, vs, ⟨_, g⟩, r1.step S⟩) ⟨rfl, q⟩))⟩)
theorem E_dictI0 {pos Q} (h : Q (.ref H.length) (H ++ [.dictI [] []])) : Ev W sc d (.Dict [] [] pos) m H Q := fun env A Φ μ s F =>
 wpAny_Dict_empty (JPost.ofP F (PPost.pushM (x := .dictI [] []) (Q := fun r H' => m = m ∧ Q r H') F.inv rfl (fun S g => ⟨rfl, [], 0, [], g, List.nodup_nil, .nil, rfl⟩) ⟨rfl, h⟩))
theorem E_dictT0 {pos Q} (h : Q (.ref H.length) (H ++ [.dictT [] []])) : Ev W sc d (.Dict [] [] pos) m H Q := fun env A Φ μ s F =>
 wpAny_Dict_empty (JPost.ofP F (PPost.pushM (x := .dictT [] []) (Q := fun r H' => m = m ∧ Q r H') F.inv rfl (fun S g => ⟨rfl, [], 0, [], g, List.nodup_nil, .nil, rfl⟩) ⟨rfl, h⟩))
theorem Inv.at (I : Inv W.hb Φ μ H s.heap) {k : Nat} {o : AObj} (hk : H[k]? = some o) {v : Value} (r : VR (cx Φ μ H s.heap) (.ref k) v) : ∃ p, μ[k]? = some p ∧ v = .ref p.1 ∧ ObjR (cx Φ μ H s.heap) o p := by
 obtain ⟨p, e, rfl⟩ := r
 exact ⟨p, e, rfl, I.obj k o p hk e⟩
theorem PPost.setList {Q : V → List AObj → Prop} {k : Nat} {xs ys : List V} {us : List Value} {b : V} {v : Value} {p : Addr × Addr} {h' : Heap} {t : Tok} (I : Inv W.hb Φ μ H s.heap) (hk : H[k]? = some (.list xs)) (hp : μ[k]? = some p)
  (h2 : p.2 = p.1) (hs : Heap.SameBut p.1 s.heap h') (g : LstAt h' p.1 us) (r : Step (cx Φ μ H s.heap) (cx Φ μ (H.set k (.list ys)) h') → VRs (cx Φ μ (H.set k (.list ys)) h') ys us ∧ VR (cx Φ μ (H.set k (.list ys)) h') b v) (q : Q b (H.set k (.list ys))) :
  PPost W Φ μ H s VR Q v { s with heap := h', toks := t } := by
 have kp : ∀ b ob, b ≠ p.1 → b ≠ p.2 → s.heap.get? b = some ob → h'.get? b = some ob := fun b ob n1 za e => (hs.2 b n1).trans e
 have g1 : ∃ x, h'.get? p.1 = some x := let ⟨n, e⟩ := g; ⟨_, e⟩
 have g2 : ∃ x, h'.get? p.2 = some x := by rw [h2]; exact g1
 have S := set_step (Φ := Φ) (o' := .list ys) hk (by intro e; cases e) hp kp
 exact ⟨b, H.set k (.list ys), μ, Keep.set hk (by intro e; cases e) hp kp g1 g2, I.set (o' := .list ys) hk (by intro e; cases e) hp kp g1 g2 fun za => ⟨h2, us, g, (r S).1⟩, (r S).2, q⟩
theorem LstAt.upd {h : Heap} {a : Addr} {vs : List Value} (x : LstAt h a vs) (f : Array Value → Array Value) (us : List Value) (e : f vs.toArray = us.toArray) : LstAt (h.update a (Obj.mapSeq f)) a us := by
 obtain ⟨n, g⟩ := x
 refine ⟨if us.toArray.size == vs.toArray.size then n else n + 1, ?_⟩
 rw [Heap.get?_update_self _ g rfl]
 simp only [Obj.mapSeq, e]
theorem M_list {k : Nat} {xs : List V} {name : Str} {id : String} (hk : H[k]? = some (.list xs)) (slot : Slot "list" name id) (hty : typeOf (.builtin id) = pure (.type "method_descriptor")) : MethOf W (.ref k) H name (.builtin id) :=
 fun A Φ μ s v pl R I r h => by
  obtain ⟨p, hp, rfl, h2, vs, ⟨n, g⟩, rr⟩ := I.at hk r
  exact getMethod_builtin (T := "list") ⟨_, g, rfl⟩ F.plainAttrs_list slot hty (fun a e => by cases e; exact ⟨_, g, rfl⟩) h
theorem M_append {k : Nat} {xs : List V} (hk : H[k]? = some (.list xs)) : MethOf W (.ref k) H "append" (.builtin "list.append") :=
 M_list hk F.slot_list_append (by show builtinType _ = _; rw [builtinType_eq_fast]; kernel_rfl)
theorem M_pop {k : Nat} {xs : List V} (hk : H[k]? = some (.list xs)) : MethOf W (.ref k) H "pop" (.builtin "list.pop") :=
 M_list hk F.slot_list_pop (by show builtinType _ = _; rw [builtinType_eq_fast]; kernel_rfl)
theorem M_reverse {k : Nat} {xs : List V} (hk : H[k]? = some (.list xs)) : MethOf W (.ref k) H "reverse" (.builtin "list.reverse") :=
 M_list hk F.slot_list_reverse (by show builtinType _ = _; rw [builtinType_eq_fast]; kernel_rfl)
theorem C_append {k : Nat} {xs : List V} {a : V} {Q} (hk : H[k]? = some (.list xs)) (hl : xs.length ≤ 1000000) (h : Q .none (H.set k (.list (xs ++ [a])))) : Cl W d (.builtin "list.append") [.ref k, a] H Q := fun A Φ μ s vs ha I r => by
 obtain ⟨v, r1, rfl, hv, u, r2, rfl, hu, rfl⟩ := r
 obtain ⟨p, hp, rfl, h2, vs, g, rr⟩ := I.at hk hv
 obtain ⟨n, g'⟩ := g
 refine wpAny_list_append_plain (hsz := by rw [List.size_toArray, rr.length, sizeLine_eq]; lia) ⟨n, g'⟩ fun h' ⟨n', g''⟩ hs => ?_
 refine PPost.setList (b := .none) (us := vs ++ [u]) I hk hp h2 hs ⟨n', by rw [g'']; simp⟩ (fun S => ⟨(rr.step S).push (hu.step S), rfl⟩) h
theorem C_pop {k : Nat} {xs : List V} {a : V} {Q} (hk : H[k]? = some (.list (xs ++ [a]))) (hl : xs.length ≤ 1000000) (h : Q a (H.set k (.list xs))) : Cl W d (.builtin "list.pop") [.ref k] H Q := fun A Φ μ s vs ha I r => by
 obtain ⟨v, r1, rfl, hv, rfl⟩ := r
 obtain ⟨p, hp, rfl, h2, vs, g, rr⟩ := I.at hk hv
 have hlen := rr.length
 rw [List.length_append, List.length_singleton] at hlen
 obtain ⟨us, u, rfl⟩ : ∃ us u, vs = us ++ [u] := ⟨vs.dropLast, vs.getLast (by intro e; rw [e] at hlen; simp at hlen), (List.dropLast_concat_getLast _).symm⟩
 rw [List.length_append, List.length_singleton] at hlen
 obtain ⟨u', e1, e2⟩ := rr.get (i := xs.length) (x := a) (by simp)
 have : us.length = xs.length := by lia
 rw [← this, List.getElem?_concat_length] at e1
 cases e1
 have rr' : VRs (cx Φ μ H s.heap) xs us := by
  have z := rr.take xs.length
  rw [List.take_left' rfl, List.take_left' this] at z
  exact z
 obtain ⟨n, g'⟩ := id g
 have hz : (us ++ [u]).toArray.size - 1 = us.length := by simp
 refine call_meets F.slot_list_pop ⟨_, g', rfl⟩ F.entry_list_pop (F.args_list_pop_1 _) (MeetsSeq.list_pop_last p.1 (us ++ [u]).toArray n u (by rw [hz]; simp) (by rw [sizeLine_eq]; simp; lia)) ⟨g', ?_⟩
 show PPost W Φ μ H s VR Q u _
 refine PPost.setList (b := a) (us := us) I hk hp h2 (Heap.SameBut.update ..) (g.upd _ _ ?_) (fun S => ⟨rr'.step S, e2.step S⟩) h
 rw [hz]
 apply Array.ext'
 simp [Array.eraseIdxIfInBounds]
 rw [List.eraseIdx_append_of_length_le (Nat.le_refl _)]; simp
theorem C_reverse {k : Nat} {xs : List V} {Q} (hk : H[k]? = some (.list xs)) (hl : xs.length ≤ 1000000) (h : Q .none (H.set k (.list xs.reverse))) : Cl W d (.builtin "list.reverse") [.ref k] H Q := fun A Φ μ s vs ha I r => by
 obtain ⟨v, r1, rfl, hv, rfl⟩ := r
 obtain ⟨p, hp, rfl, h2, vs, g, rr⟩ := I.at hk hv
 obtain ⟨n, g'⟩ := id g
 refine call_meets F.slot_list_reverse ⟨_, g', rfl⟩ F.entry_list_reverse (F.args_list_reverse_1 _) (AutoSeq1.list_reverse_list_0 p.1 vs.toArray n (by rw [List.size_toArray, rr.length, sizeLine_eq]; lia)) ⟨g', ?_⟩
 show PPost W Φ μ H s VR Q .none _
 exact PPost.setList (b := .none) (us := vs.reverse) I hk hp h2 (Heap.SameBut.update ..) (g.upd _ _ (by simp)) (fun S => ⟨(rr.step S).reverse, rfl⟩) h
end
end Mine
set_option tactic.hygienic false
namespace Mine
section
variable {W : Wd} {sc : Scope} {d : Nat} {env : Env} {A : Around} {Φ : List Addr} {m m' : Loc} {μ μ' : List (Addr × Addr)} {H H' : List AObj} {s s' : Shared}
theorem isInt_of {k : Int} {v : Value} (h : ∃ t, v = .int k t) : (intKind W.prog W.w).is k v = true := h.elim fun t e => by show Value.isInt k v = true; rw [e]; simp [Value.isInt]
theorem EntI.get {es : List DictEntry} {ks : List Int} {vs : List Value} (h : EntI es ks vs) : Pairs (intKind W.prog W.w) es (ks.zip vs) ∧ (∀ e ∈ es, ∃ k, (intKind W.prog W.w).is k e.key = true ∧ e.hash = hashInt k) ∧ es.length = ks.length ∧ vs.length = ks.length := by
 refine ⟨?_, ?_, h.len⟩
 ·induction h with
  | nil => exact .nil
  | cons q _ ih => exact .cons (isInt_of q.1) q.2.2 ih
 ·induction h with
  | nil => exact memN
  | cons q _ ih => exact memC ⟨_, isInt_of q.1, q.2.1⟩ ih
theorem EntI.of {es : List DictEntry} {kvs : List (Int × Value)} (h : Pairs (intKind W.prog W.w) es kvs) : (∀ e ∈ es, ∃ k, (intKind W.prog W.w).is k e.key = true ∧ e.hash = hashInt k) → EntI es (kvs.map (·.1)) (kvs.map (·.2)) := by
 induction h with
 | nil => exact fun za => .nil
 | cons h1 h2 h3 ih =>
  intro q
  refine .cons ⟨Value.isInt_shape h1, (q _ (.head _)).elim fun k z => ?_, h2⟩ (ih fun x hx => q x (.tail _ hx))
  rw [z.2, (intKind W.prog W.w).inj _ _ _ z.1 h1]
theorem dictOf_I {h : Heap} {a : Addr} {es n ks vs} (g : h.get? a = some (dictOf es n)) (nd : ks.Nodup) (e : EntI es ks vs) : h.DictOf (intKind W.prog W.w) a (ks.zip vs) := by
 obtain ⟨p, q, l1, l2⟩ := e.get (W := W)
 refine ⟨_, es.toArray, n, g, ⟨rfl, rfl, rfl⟩, rfl, fun x hx => q x (by simpa using hx), by simpa using p, ?_⟩
 rw [List.map_fst_zip (by lia)]; exact nd
theorem of_dictOf_I {h : Heap} {a : Addr} {kvs : List (Int × Value)} (x : h.DictOf (intKind W.prog W.w) a kvs) : ∃ es n, h.get? a = some (dictOf es n) ∧ (kvs.map (·.1)).Nodup ∧ EntI es (kvs.map (·.1)) (kvs.map (·.2)) := by
 have cX : True := trivial
 revert W h a kvs x
 rintro W h a kvs x
 obtain ⟨o, es, ep, ho, ⟨h1, h2, h3⟩, hd, hk, hp, hn⟩ := x
 obtain ⟨c, di, da, sl⟩ := o
 dsimp only at h1 h2 h3 hd
 subst h1 h2 h3 hd
 exact ⟨es.toList, ep, by simpa [dictOf] using ho, hn, EntI.of (W := W) hp fun e he => hk e (by simpa using he)⟩
theorem IntsV.items {is : List Int} {vs : List Value} (h : IntsV is vs) : ItemsAre (intKind W.prog W.w) is vs := by
 induction h with
 | nil => exact .nil
 | cons q _ ih => exact .cons (isInt_of q) ih
theorem IntsV.vr {c : Cx} {is : List Int} {vs : List Value} (h : IntsV is vs) : VRs c (is.map V.int) vs := by
 induction h with
 | nil => rfl
 | cons q _ ih => exact ⟨_, _, rfl, q, ih⟩
theorem IntsV.ofVR {c : Cx} {is : List Int} : ∀ {vs : List Value}, VRs c (is.map V.int) vs → IntsV is vs := by
 induction is with
 | nil => exact fun h => by rw [show _ = [] from h]; exact .nil
 | cons i is ih => exact fun h => h.elim fun v h => h.elim fun r q => q.1 ▸ .cons q.2.1 (ih q.2.2)
noncomputable abbrev tK (W : Wd) : HeapKind W.prog W.w (List Int) := tupleKind (intKind W.prog W.w)
theorem tK_is {h : Heap} {a : Addr} {us : List Value} {ks : List Int} (t : TupAt h a us) (r : IntsV ks us) : (tK W).is h ks a := by
 obtain ⟨n, e⟩ := t
 exact ⟨_, us.toArray, n, e, rfl, rfl, by simpa using r.items⟩
theorem EntT.get {h : Heap} {X : Addr → Prop} {es : List DictEntry} {ks : List (List Int)} {vs : List Value} (t : EntT h X es ks vs) :
  ∃ xs : List (List Int × Addr × Value), es = xs.map (entryOfKey (tK W)) ∧ (∀ x ∈ xs, (tK W).is h x.1 x.2.1) ∧ xs.map (·.1) = ks ∧ xs.map (·.2.2) = vs ∧ ∀ x ∈ xs, ∃ us, TupAt h x.2.1 us ∧ IntsV x.1 us ∧ ¬ X x.2.1 := by
 induction t with
 | nil => exact ⟨[], rfl, memN, rfl, rfl, memN⟩
 | @cons e k v es ks vs q _ ih =>
  refine ih.elim fun xs z => q.1.elim fun a w => w.elim fun us w => ⟨(k, a, v) :: xs, ?_, memC (tK_is w.2.1 w.2.2.1) z.2.1, congrArg (k :: ·) z.2.2.1, congrArg (v :: ·) z.2.2.2.1, memC ⟨us, w.2⟩ z.2.2.2.2⟩
  rw [List.map_cons, ← z.1]
  congr 1
  obtain ⟨eh, ek, ev⟩ := e
  obtain ⟨_, h5, h6⟩ := q
  have h1 := w.1
  dsimp only at h1 h5 h6
  subst h1 h5 h6
  rfl
theorem EntT.of {h : Heap} {X : Addr → Prop} {xs : List (List Int × Addr × Value)} : (∀ x ∈ xs, ∃ us, TupAt h x.2.1 us ∧ IntsV x.1 us ∧ ¬ X x.2.1) → EntT h X (xs.map (entryOfKey (tK W))) (xs.map (·.1)) (xs.map (·.2.2)) := by
 induction xs with
 | nil => exact fun za => .nil
 | cons x xs ih => exact fun q => .cons ⟨(q x (.head _)).elim fun us w => ⟨x.2.1, us, rfl, w⟩, rfl, rfl⟩ (ih fun y hy => q y (.tail _ hy))
theorem dictOf_T {h : Heap} {a : Addr} {es n} {xs : List (List Int × Addr × Value)} (g : h.get? a = some (dictOf es n)) (e : es = xs.map (entryOfKey (tK W))) (q : ∀ x ∈ xs, (tK W).is h x.1 x.2.1) (nd : (xs.map (·.1)).Nodup) : h.DictOfH (tK W) a xs :=
 ⟨_, es.toArray, n, g, ⟨rfl, rfl, rfl⟩, rfl, by simpa using e, q, nd⟩
theorem of_dictOf_T {h : Heap} {a : Addr} {xs : List (List Int × Addr × Value)} (x : h.DictOfH (tK W) a xs) : ∃ n, h.get? a = some (dictOf (xs.map (entryOfKey (tK W))) n) ∧ (xs.map (·.1)).Nodup := by
 have cX : True := trivial
 revert W h a xs x
 rintro W h a xs x
 obtain ⟨o, es, ep, ho, ⟨h1, h2, h3⟩, hd, he, hi, hn⟩ := x
 obtain ⟨c, di, da, sl⟩ := o
 dsimp only at h1 h2 h3 hd
 subst h1 h2 h3 hd
 refine ⟨ep, ?_, hn⟩
 rw [ho, ← he]
theorem VR.tupInts {c : Cx} {ks : List Int} {v : Value} (r : VR c (.tup (ks.map V.int)) v) : ∃ a us, v = .ref a ∧ TupAt c.h a us ∧ IntsV ks us ∧ ¬ c.X a := by
 obtain ⟨a, us, e, t, n, r⟩ := r
 exact ⟨a, us, e, t, IntsV.ofVR r, n⟩
noncomputable def Gi (W : Wd) (d : Nat) (a i : V) (H : List AObj) (Q : V → List AObj → Prop) : Prop :=
 ∀ A Φ μ s u v, AOk d A → Inv W.hb Φ μ H s.heap → VR (cx Φ μ H s.heap) a u → VR (cx Φ μ H s.heap) i v →
  ∃ T id, s.TypeIs u T ∧ typeLookup (.type T) "__getitem__" = pure (some (.builtin id)) ∧ wpAny W.M A (getItem u v) (PPost W Φ μ H s VR Q) Bot s
theorem E_sub {value slice pos Q} (h : Ev W sc d value m H fun a H1 => Ev W sc d slice m H1 fun i H2 => Gi W d a i H2 Q) (hs : ∀ o i, subscripted slice false o i = operate [o, i] (getItem o i) := by intro _ _; with_unfolding_all rfl) :
  Ev W sc d (.Subscript value slice pos) m H Q := by
 have cX : True := trivial
 revert W sc d m H value slice pos Q h hs
 rintro W sc d m H value slice pos Q h hs
 rintro env A Φ μ s F
 exact (Subscript_ (JPost.goE F (h env A Φ μ s F) fun v s1 a H1 μ1 F1 K1 r1 q1 => by
  exact JPost.goE F1 (q1 env A Φ μ1 s1 F1) fun u s2 b H2 μ2 F2 K2 r2 q2 => by
   obtain ⟨T, id, hT, hl, hg⟩ := q2 A Φ μ2 s2 v u F2.a F2.inv (r1.step (F1.stepF K2)) r2
   refine JPost.wp (K1.trans K2) (JPost.wpP F2 (tail_any hT hl (wpm hg (fun za zb ⟨b, H', μ', K, I, r, q⟩ => ⟨b, H', μ', K, I, r, rfl, q⟩)) (hs _ _)))))
theorem LstAt.typeIs {a vs} (g : LstAt s.heap a vs) : s.TypeIs (.ref a) "list" := let ⟨n, e⟩ := g; ⟨_, e, rfl⟩
theorem getItem_lst {a : Addr} {vs : List Value} {i : Int} {t : Tok} {v : Value} {R : Value → Shared → Prop} (g : LstAt s.heap a vs) (h0 : 0 ≤ i) (h1 : i < 2 ^ 63) (e : vs[i.toNat]? = some v) (h : R v s) : wpAny W.M A (getItem (.ref a) (.int i t)) R Bot s :=
 wpAny_getItem_list g.isList h0 h1 (by simpa using e) h
theorem G_list {k : Nat} {xs : List V} {i : Int} {a : V} {Q} (hk : H[k]? = some (.list xs)) (h0 : 0 ≤ i) (h1 : i < 2 ^ 63) (e : xs[i.toNat]? = some a) (h : Q a H) : Gi W d (.ref k) (.int i) H Q := fun A Φ μ s u v ha I r ⟨t, e'⟩ => by
 subst e'
 obtain ⟨p, hp, rfl, h2, vs, g, rr⟩ := I.at hk r
 obtain ⟨x, e1, e2⟩ := rr.get e
 exact ⟨"list", _, g.typeIs, slot_list_getitem.lookup, getItem_lst g h0 h1 e1 (PPost.here (t := s.toks) I e2 h)⟩
theorem G_lst {xs : List V} {i : Int} {a : V} {Q} (h0 : 0 ≤ i) (h1 : i < 2 ^ 63) (e : xs[i.toNat]? = some a) (h : Q a H) : Gi W d (.lst xs) (.int i) H Q := by
 have cX : True := trivial
 revert W d H xs i a Q h0 h1 e h
 rintro W d H xs i a Q h0 h1 e h
 rintro A Φ μ s u v ha I ⟨p, vs, e1, g, n, rr⟩ ⟨t, e'⟩
 subst e' e1
 obtain ⟨x, e1, e2⟩ := rr.get e
 exact ⟨"list", _, LstAt.typeIs g, slot_list_getitem.lookup, getItem_lst g h0 h1 e1 (PPost.here (t := s.toks) I e2 h)⟩
theorem seqIndex_nat {i : Int} {n : Nat} (h0 : 0 ≤ i) (h1 : i.toNat < n) : seqIndex? i n = some i.toNat := by
 unfold seqIndex?
 have : ¬ i < 0 := by lia
 have h2 : i < n := by lia
 simp [this, h0, h2]
theorem G_tup {xs : List V} {i : Int} {a : V} {Q} (h0 : 0 ≤ i) (h1 : i < 2 ^ 63) (e : xs[i.toNat]? = some a) (h : Q a H) : Gi W d (.tup xs) (.int i) H Q := by
 have cX : True := trivial
 revert W d H xs i a Q h0 h1 e h
 rintro W d H xs i a Q h0 h1 e h
 rintro A Φ μ s u v ha I ⟨p, vs, e1, g, n, rr⟩ ⟨t, e'⟩
 subst e' e1
 obtain ⟨x, e1, e2⟩ := rr.get e
 have hlt : i.toNat < vs.length := (gll e1)
 obtain ⟨k, g'⟩ := id g
 exact ⟨"tuple", _, ⟨_, g', rfl⟩, slot_tuple_getitem.lookup, PyProof.Rows.getItem_tuple (items := vs.toArray) ⟨_, g', rfl, k, rfl⟩ (by lia) h1 (seqIndex_nat h0 (by simpa using hlt)) (by simpa using e1) (PPost.here (t := s.toks) I e2 h)⟩
theorem valueAt_zip {ks : List Int} {vs : List Value} (nd : ks.Nodup) {j : Nat} {k : Int} {v : Value} (e1 : ks[j]? = some k) (e2 : vs[j]? = some v) : valueAt (ks.zip vs) k = some v := by
 induction ks generalizing vs j with
 | nil => simp at e1
 | cons x ks ih =>
  cases vs with
  | nil => simp at e2
  | cons y vs =>
   obtain ⟨n1, n2⟩ := List.nodup_cons.mp nd
   cases j with
   | zero => simp at e1 e2; subst e1 e2; simp [valueAt]
   | succ j =>
    simp at e1 e2
    have hne : x ≠ k := fun e => n1 (e ▸ List.mem_of_getElem? e1)
    have := ih n2 e1 e2
    simp only [valueAt, List.zip_cons_cons, List.find?_cons, hne, decide_false]
    exact this
theorem mapOf_pairs {h : Heap} {a : Addr} {kvs : List (Int × Value)} (x : h.DictOf (intKind W.prog W.w) a kvs) : h.MapOf (intKind W.prog W.w) a (valueAt kvs) := by
 obtain ⟨o, es, ep, ho, hx, hd, hk, hp, hn⟩ := x
 exact ⟨o, es, ep, ho, hx, hd, hk, fun k => by
  have := hp.find k
  unfold findBy
  rw [← Array.find?_toList]; exact this⟩
theorem G_dictI {k : Nat} {ks : List Int} {xs : List V} {i : Int} {j : Nat} {a : V} {Q} (hk : H[k]? = some (.dictI ks xs)) (e : ks[j]? = some i) (e' : xs[j]? = some a) (h : Q a H) : Gi W d (.ref k) (.int i) H Q := by
 have cX : True := trivial
 revert W d H k ks xs i j a Q hk e e' h
 rintro W d H k ks xs i j a Q hk e e' h
 rintro A Φ μ s u v ha I r ⟨t, et⟩
 subst et
 obtain ⟨p, hp, rfl, h2, es, n, vs, g, nd, en, rr⟩ := I.at hk r
 obtain ⟨x, e1, e2⟩ := rr.get e'
 have D := dictOf_I (W := W) g nd en
 exact ⟨"dict", _, ⟨_, g, rfl⟩, slot_dict_getitem.lookup, wpAny_getItem_of (knd := intKind W.prog W.w) (k := i) (by show Value.isInt i (Value.int i t) = true; simp [Value.isInt]) (mapOf_pairs D) (valueAt_zip nd e e1) (PPost.here I e2 h)⟩
theorem atKey_at {xs : List (List Int × Addr × Value)} (nd : (xs.map (·.1)).Nodup) {j : Nat} {k : List Int} {v : Value} (e1 : (xs.map (·.1))[j]? = some k) (e2 : (xs.map (·.2.2))[j]? = some v) : ∃ a, atKey xs k = some (a, v) := by
 rw [List.getElem?_map] at e1 e2
 obtain ⟨x, hx, rfl⟩ := Option.map_eq_some_iff.mp e1
 rw [hx] at e2
 cases e2
 exact ⟨x.2.1, atKey_of_get nd (i := j) (p := x.2) hx⟩
theorem getItem_T {a : Addr} {es n vs} {ks : List (List Int)} {k : List Int} {c : Addr} {us : List Value} {j : Nat} {v : Value} {R : Value → Shared → Prop} {X : Addr → Prop} (ha : AOk d A) (g : s.heap.get? a = some (dictOf es n)) (nd : ks.Nodup) (en : EntT s.heap X es ks vs)
  (t : TupAt s.heap c us) (r : IntsV k us) (e : ks[j]? = some k) (e' : vs[j]? = some v) (h : ∀ tk, R v { s with toks := tk }) : wpAny W.M A (getItem (.ref a) (.ref c)) R Bot s := by
 obtain ⟨xs, x1, x2, x3, x4, x5⟩ := en.get (W := W)
 subst x3 x4
 obtain ⟨b, hb⟩ := atKey_at nd e e'
 exact wpAny_getItem_heap (knd := tK W) ha.room1 (tK_is t r) (dictOf_T g x1 x2 nd) hb (h _)
theorem G_dictT {k : Nat} {ks : List (List Int)} {xs : List V} {i : List Int} {j : Nat} {a : V} {Q} (hk : H[k]? = some (.dictT ks xs)) (e : ks[j]? = some i) (e' : xs[j]? = some a) (h : Q a H) : Gi W d (.ref k) (.tup (i.map V.int)) H Q := by
 have cX : True := trivial
 revert W d H k ks xs i j a Q hk e e' h
 rintro W d H k ks xs i j a Q hk e e' h
 rintro A Φ μ s u v ha I r r'
 obtain ⟨c, us, rfl, t, iu, nc⟩ := r'.tupInts
 obtain ⟨p, hp, rfl, h2, es, n, vs, g, nd, en, rr⟩ := I.at hk r
 obtain ⟨x, e1, e2⟩ := rr.get e'
 exact ⟨"dict", _, ⟨_, g, rfl⟩, slot_dict_getitem.lookup, getItem_T ha g nd en t iu e e1 fun tk => PPost.here I e2 h⟩
theorem G_dct {ks : List (List Int)} {xs : List V} {i : List Int} {j : Nat} {a : V} {Q} (e : ks[j]? = some i) (e' : xs[j]? = some a) (h : Q a H) : Gi W d (.dct ks xs) (.tup (i.map V.int)) H Q := by
 have cX : True := trivial
 revert W d H ks xs i j a Q e e' h
 rintro W d H ks xs i j a Q e e' h
 rintro A Φ μ s u v ha I r r'
 obtain ⟨c, us, rfl, t, iu, nc⟩ := r'.tupInts
 obtain ⟨b, es, n, vs, rfl, g, ⟨nd, _⟩, nb, en, rr⟩ := r
 obtain ⟨x, e1, e2⟩ := rr.get e'
 exact ⟨"dict", _, ⟨_, g, rfl⟩, slot_dict_getitem.lookup, getItem_T ha g nd en t iu e e1 fun tk => PPost.here I e2 h⟩
theorem valueAt_isSome {ks : List Int} {vs : List Value} (hl : vs.length = ks.length) (k : Int) : (valueAt (ks.zip vs) k).isSome = decide (k ∈ ks) := by
 induction ks generalizing vs with
 | nil => simp [valueAt]
 | cons x ks ih =>
  cases vs with
  | nil => simp at hl
  | cons y vs =>
   have := ih (vs := vs) (by simpa using hl)
   simp only [valueAt, List.zip_cons_cons, List.find?_cons] at this ⊢
   by_cases h : x = k
   ·subst h; simp
   ·have : ¬ k = x := fun e => h e.symm
    simp only [h, decide_false]
    simp_all
theorem off1 {p : Addr × Addr} {k : Nat} {o : AObj} (I : Inv W.hb Φ μ H s.heap) (hk : H[k]? = some o) (hd : o ≠ .dead) (hp : μ[k]? = some p) : (p.1 == sysModules) = false := by
 have := I.lo p.1 ⟨k, o, p, hk, hd, hp, .inl rfl⟩
 exact beq_eq_false_iff_ne.mpr (Nat.ne_of_gt this)
theorem P_notInI {k : Nat} {ks : List Int} {xs : List V} {i : Int} {Q} (hk : H[k]? = some (.dictI ks xs)) (h : Q (.bool (!decide (i ∈ ks))) H) : Pr2 W d (compareOp .NotIn) (.int i) (.ref k) H Q := by
 have cX : True := trivial
 revert W d H k ks xs i Q hk h
 rintro W d H k ks xs i Q hk h
 rintro A Φ μ s u v ha I ⟨t, et⟩ r
 subst et
 obtain ⟨p, hp, rfl, h2, es, n, vs, g, nd, en, rr⟩ := I.at hk r
 have D := dictOf_I (W := W) g nd en
 refine wpAny_notIn_of (knd := intKind W.prog W.w) (k := i) (by show Value.isInt i (Value.int i t) = true; simp [Value.isInt]) (off1 I hk (by intro e; cases e) hp) (mapOf_pairs D) ?_
 rw [valueAt_isSome (en.get (W := W)).2.2.2]
 exact PPost.here (b := V.bool _) I rfl h
theorem atKey_isSome {xs : List (List Int × Addr × Value)} (k : List Int) : (atKey xs k).isSome = decide (k ∈ xs.map (·.1)) := by
 induction xs with
 | nil => simp [atKey]
 | cons x xs ih =>
  simp only [atKey, List.find?_cons] at ih ⊢
  by_cases h : x.1 = k
  ·subst h; simp
  ·have : ¬ k = x.1 := fun e => h e.symm
   simp only [h, decide_false]
   simp_all
theorem P_inT {k : Nat} {ks : List (List Int)} {xs : List V} {i : List Int} {Q} (hk : H[k]? = some (.dictT ks xs)) (h : Q (.bool (decide (i ∈ ks))) H) : Pr2 W d (compareOp .In) (.tup (i.map V.int)) (.ref k) H Q := fun A Φ μ s u v ha I r' r => by
 obtain ⟨c, us, rfl, t, iu, nc⟩ := r'.tupInts
 obtain ⟨p, hp, rfl, h2, es, n, vs, g, nd, en, rr⟩ := I.at hk r
 obtain ⟨ys, x1, x2, x3, x4, x5⟩ := en.get (W := W)
 subst x3
 refine wpAny_in_heap (knd := tK W) ha.room1 (tK_is t iu) (off1 I hk (by intro e; cases e) hp) (dictOf_T g x1 x2 nd) ?_
 rw [atKey_isSome]
 exact PPost.here (b := V.bool _) I rfl h
theorem P_notInT {k : Nat} {ks : List (List Int)} {xs : List V} {i : List Int} {Q} (hk : H[k]? = some (.dictT ks xs)) (h : Q (.bool (!decide (i ∈ ks))) H) : Pr2 W d (compareOp .NotIn) (.tup (i.map V.int)) (.ref k) H Q := by
 have cX : True := trivial
 revert W d H k ks xs i Q hk h
 rintro W d H k ks xs i Q hk h
 rintro A Φ μ s u v ha I r' r
 obtain ⟨c, us, rfl, t, iu, nc⟩ := r'.tupInts
 obtain ⟨p, hp, rfl, h2, es, n, vs, g, nd, en, rr⟩ := I.at hk r
 obtain ⟨ys, x1, x2, x3, x4, x5⟩ := en.get (W := W)
 subst x3
 refine wpAny_notIn_heap (knd := tK W) ha.room1 (tK_is t iu) (off1 I hk (by intro e; cases e) hp) (dictOf_T g x1 x2 nd) ?_
 rw [atKey_isSome]
 exact PPost.here (b := V.bool _) I rfl h
theorem toDats_map : ∀ xs : List V, toDats xs = xs.map toDat
 | [] => rfl
 | x :: xs => by rw [toDats, toDats_map xs, List.map_cons]
theorem P_inLst {xs : List V} {a : V} {Q} (hx : plainVs 8 xs = true) (ha' : plainV 8 a = true) (h : ∀ b : Bool, (b = true ↔ a ∈ xs) → Q (.bool b) H) : Pr2 W d (compareOp .In) a (.lst xs) H Q := by
 have cX : True := trivial
 revert W d H xs a Q hx ha' h
 rintro W d H xs a Q hx ha' h
 rintro A Φ μ s u v ha I r ⟨p, vs, e1, g, n, rr⟩
 subst e1
 obtain ⟨as, ra⟩ := VRs.reads xs 8 vs hx rr
 obtain ⟨bs, rb⟩ := VR.reads a 8 u ha' r
 obtain ⟨o, ho, hc, k, hd⟩ := LstAt.isList g
 have hall : ∀ e ∈ toDats xs, kqdOk 8 e = true := List.all_eq_true.mp hx
 have l := kqd_layL hall
 have ld := kqd_lay 8 (toDat a) ha'
 refine SeqAt.in_list_reads (.list ho hc hd (by simpa using ra)) rb l.1 ld.1 ?_ (PPost.here (t := s.toks) (b := V.bool _) I rfl (h _ ?_))
 ·have := Nat.min_le_right (PyData.depthAll (kqdPs (toDats xs))) (kqdP (toDat a)).depth
  have := ld.2
  have := ha.room64
  lia
 ·rw [kqd_any (toDats xs) (toDat a) hall ha', toDats_map, List.mem_map]
  constructor
  ·rintro ⟨y, hy, e⟩
   have py : plainV 8 y = true := hall _ (by rw [toDats_map]; exact List.mem_map.mpr ⟨y, hy, rfl⟩)
   rw [← toDat_inj 8 8 y a py ha' e]; exact hy
  ·exact fun hm => ⟨a, hm, rfl⟩
end
end Mine
set_option tactic.hygienic false
namespace Mine
noncomputable def fld {α : Type} : List Str → List α → Str → Option α
 | n :: ns, v :: vs, x => if n = x then some v else fld ns vs x
 | _, _, _ => none
noncomputable def fputN : List Str → Str → List Str
 | [], x => [x]
 | n :: ns, x => if n = x then n :: ns else n :: fputN ns x
noncomputable def fputV {α : Type} : List Str → List α → Str → α → List α
 | n :: ns, v :: vs, x, a => if n = x then a :: vs else v :: fputV ns vs x a
 | [], [], _, a => [a]
 | _, vs, _, _ => vs
theorem fputV_c {α : Type} {n : Str} {ns : List Str} {v : α} {vs : List α} {x : Str} {a : α} : fputV (n :: ns) (v :: vs) x a = if n = x then a :: vs else v :: fputV ns vs x a := rfl
theorem fputN_c {n : Str} {ns : List Str} {x : Str} : fputN (n :: ns) x = if n = x then n :: ns else n :: fputN ns x := rfl
theorem fld_c {α : Type} {n : Str} {ns : List Str} {v : α} {vs : List α} {x : Str} : Mine.fld (n :: ns) (v :: vs) x = if n = x then some v else Mine.fld ns vs x := rfl
theorem isStr_of {k : Value} {n x : Str} (h : ∃ t, k = .str n t) : k.isStr x = decide (n = x) := h.elim fun t e => by
 rw [e]; show (n == x) = _
 by_cases q : n = x
 ·rw [q]; simp
 ·simp [q]
theorem EntsAre.getL {es : List DictEntry} {ns : List Str} {vs : List Value} (h : EntsAre es ns vs) (x : Str) : getL x es = some (fld ns vs x) ∧ es.any (·.refKey) = false := by
 induction h with
 | nil => exact ⟨rfl, rfl⟩
 | @cons e n v es ns vs h _ ih =>
  have hr : e.refKey = false := h.1.elim fun t z => by unfold DictEntry.refKey; rw [z]
  refine ⟨?_, by rw [List.any_cons, hr, ih.2]; rfl⟩
  have a := ih.1
  unfold PySem.W.getL at a ⊢
  rw [List.find?_cons, isStr_of h.1]
  by_cases q : n = x
  ·simp [q, h.2, fld_c]
  ·simp only [q, decide_false, if_false, fld_c]
   rw [List.any_cons, hr, Bool.false_or]
   exact a
theorem EntsAre.put {hsh : Int} {t : Tok} {x : Str} {a : Value} {es : List DictEntry} {ns : List Str} {vs : List Value} (h : EntsAre es ns vs) : EntsAre (putL x hsh (.str x t) a es) (fputN ns x) (fputV ns vs x a) := by
 induction h with
 | nil => exact .cons ⟨⟨t, rfl⟩, rfl⟩ .nil
 | @cons e n v es ns vs h k ih =>
  unfold putL
  rw [isStr_of h.1, fputN_c, fputV_c]
  by_cases q : n = x
  ·simp only [q, decide_true, if_true]
   exact .cons ⟨q ▸ h.1, rfl⟩ k
  ·simp only [q, decide_false, if_false]
   exact .cons h ih
theorem VRs.fld {c : Cx} : ∀ {ns : List Str} {xs : List V} {vs : List Value}, VRs c xs vs → ∀ {x : Str} {a : V}, Mine.fld ns xs x = some a → ∃ v, Mine.fld ns vs x = some v ∧ VR c a v
 | [], [], _, _, _, _, e => nomatch (show (none : Option V) = some _ from e)
 | [], _ :: _, _, _, _, _, e => nomatch (show (none : Option V) = some _ from e)
 | _ :: _, [], _, _, _, _, e => nomatch (show (none : Option V) = some _ from e)
 | n :: ns, y :: ys, _, ⟨v, r, e0, h, t⟩, x, a, e => by
  subst e0
  rw [fld_c] at e ⊢
  by_cases q : n = x
  ·simp only [q, if_true] at e ⊢; cases e; exact ⟨v, rfl, h⟩
  ·simp only [q, if_false] at e ⊢; exact t.fld e
theorem fld_none {α β : Type} : ∀ {ns : List Str} {xs : List α} {vs : List β} (x : Str), xs.length = vs.length → fld ns xs x = none → fld ns vs x = none
 | [], _, _, _, _, _ => rfl
 | _ :: _, [], [], _, _, _ => rfl
 | _ :: _, [], _ :: _, _, h, _ => by simp at h
 | _ :: _, _ :: _, [], _, h, _ => by simp at h
 | n :: ns, y :: ys, v :: vs, x, h, e => by
  rw [fld_c] at e ⊢
  by_cases q : n = x
  ·simp [q] at e
  ·simp only [q, if_false] at e ⊢; exact fld_none x (by simpa using h) e
theorem VRs.fput {c : Cx} : ∀ {ns : List Str} {xs : List V} {vs : List Value}, VRs c xs vs → ∀ {x : Str} {a : V} {v : Value}, VR c a v → VRs c (fputV ns xs x a) (fputV ns vs x v)
 | [], [], _, h, x, a, v, hv => by rw [show _ = [] from h]; exact .one hv
 | [], y :: ys, _, ⟨u, r, e0, h, t⟩, _, _, _, _ => by subst e0; exact ⟨u, r, rfl, h, t⟩
 | _ :: _, [], _, h, _, _, _, _ => by rw [show _ = [] from h]; rfl
 | n :: ns, y :: ys, _, ⟨u, r, e0, h, t⟩, x, a, v, hv => by
  subst e0
  rw [fputV_c, fputV_c]
  by_cases q : n = x
  ·simp only [q, if_true]; exact ⟨v, r, rfl, hv, t⟩
  ·simp only [q, if_false]; exact ⟨u, _, rfl, h, t.fput hv⟩
section
variable {W : Wd} {sc : Scope} {d : Nat} {env : Env} {A : Around} {Φ : List Addr} {m m' : Loc} {μ μ' : List (Addr × Addr)} {H H' : List AObj} {s s' : Shared}
theorem VR.handed {c : Cx} {a : V} {v : Value} (h : VR c a v) (hr : ∀ w, a ≠ .raw w) : handedIn v = true := by
 cases a with
 | none => rw [show v = .none from h]; rfl
 | bool b => rw [show v = .bool b from h]; rfl
 | int i => obtain ⟨t, rfl⟩ := h; rfl
 | tup xs => obtain ⟨a, vs, rfl, _⟩ := h; rfl
 | lst xs => obtain ⟨a, vs, rfl, _⟩ := h; rfl
 | obj C ns xs => obtain ⟨a, d, vs, rfl, _⟩ := h; rfl
 | dct ks xs => obtain ⟨a, es, n, vs, rfl, _⟩ := h; rfl
 | ref k => obtain ⟨p, _, rfl⟩ := h; rfl
 | rng n => obtain ⟨a, rfl, _⟩ := h; rfl
 | vals xs => obtain ⟨a, d, es, n, rfl, _⟩ := h; rfl
 | raw w => exact absurd rfl (hr w)
noncomputable def attrOk (K : Frag) (C : Addr) (x : Str) : Bool := plainGet K C x && hasDictIn K C && (findIn K (.ref C) x).any (noGet K)
theorem getAttr_inst {x : Str} {a dd C : Addr} {ns : List Str} {vs : List Value} {v : Value} {R : Value → Shared → Prop} {ex : Bool} (I : Inv W.hb Φ μ H s.heap) (ok : attrOk W.K C x = true) (g : s.heap.get? a = some (instObj C dd)) (o : OwnAt s.heap dd ns vs)
  (e : fld ns vs x = some v) (hv : handedIn v = true) (h : ∀ t, R v { s with toks := t }) : wpAny W.M A (getAttr (.ref a) x ex) R Bot s := by
 obtain ⟨es, n, g2, en⟩ := o
 simp only [attrOk, Bool.and_eq_true] at ok
 obtain ⟨⟨h1, h2⟩, h3⟩ := ok
 obtain ⟨attr, h4, h5⟩ := any_some h3
 refine get_value I.kin (od := some (dictOf es n)) ⟨g, rfl, rfl, g2⟩ (plainGet_of h1).1 (findObj_own h2 h4 h5 (v := v) ?_) hv (h _)
 rw [lookIn_dict, (en.getL x).1, e]
noncomputable def Ga (W : Wd) (d : Nat) (a : V) (x : Str) (H : List AObj) (Q : V → List AObj → Prop) : Prop :=
 ∀ A Φ μ s v, AOk d A → Inv W.hb Φ μ H s.heap → VR (cx Φ μ H s.heap) a v → wpAny W.M A (getAttr v x true) (PPost W Φ μ H s VR Q) Bot s
theorem Ga_inst {k : Nat} {C : Addr} {ns : List Str} {xs : List V} {x : Str} {a : V} {Q} (hk : H[k]? = some (.inst C ns xs)) (ok : attrOk W.K C x = true) (e : fld ns xs x = some a) (hr : ∀ w, a ≠ .raw w) (h : Q a H) : Ga W d (.ref k) x H Q := by
 have cX : True := trivial
 revert W d H k C ns xs x a Q hk ok e hr h
 rintro W d H k C ns xs x a Q hk ok e hr h
 rintro A Φ μ s v ha I r
 obtain ⟨p, hp, rfl, h2, g, vs, o, rr⟩ := I.at hk r
 obtain ⟨u, e1, e2⟩ := rr.fld e
 exact getAttr_inst I ok g o e1 (e2.handed hr) fun t => PPost.here I e2 h
theorem Ga_obj {C : Addr} {ns : List Str} {xs : List V} {x : Str} {a : V} {Q} (ok : attrOk W.K C x = true) (e : fld ns xs x = some a) (hr : ∀ w, a ≠ .raw w) (h : Q a H) : Ga W d (.obj C ns xs) x H Q := by
 have cX : True := trivial
 revert W d H C ns xs x a Q ok e hr h
 rintro W d H C ns xs x a Q ok e hr h
 rintro A Φ μ s v ha I r
 obtain ⟨b, dd, vs, rfl, g, o, _, _, rr⟩ := r
 obtain ⟨u, e1, e2⟩ := rr.fld e
 exact getAttr_inst I ok g o e1 (e2.handed hr) fun t => PPost.here I e2 h
theorem E_attr {value : Expr} {x : Str} {pos : Pos} {Q} (h : Ev W sc d value m H fun a H1 => Ga W d a x H1 Q)
  (hs : ∀ env, eval (.Attribute value x pos) env = (do
   let o ← eval value env
   standAt pos.atName
   let r ← holding [o] (getAttr o x true)
   letTemporaryGo value o r
   pure r) := by intro _; with_unfolding_all rfl) : Ev W sc d (.Attribute value x pos) m H Q := fun env A Φ μ s F =>
 Attribute_any_ (he := hs env) (JPost.goE F (h env A Φ μ s F) fun v s1 a H1 μ1 F1 K1 r1 q1 => by
  exact JPost.wp K1 (JPost.endP F1 (q1 A Φ μ1 s1 v F1.a F1.inv r1)))
noncomputable def methOk (K : Frag) (C : Addr) (x : Str) (f : Addr) : Bool := plainGet K C x && findIn K (.ref C) x == some (some (.ref f)) && isFn K (.ref f)
theorem getMethod_inst {x : Str} {a dd C f : Addr} {ns : List Str} {vs : List Value} {R : Value × List Value → Shared → Prop} {pl : Sem Bool} (I : Inv W.hb Φ μ H s.heap) (ok : methOk W.K C x f = true) (g : s.heap.get? a = some (instObj C dd)) (o : OwnAt s.heap dd ns vs)
  (e : fld ns vs x = none) (h : R (.ref f, [.ref a]) s) : wpAny W.M A (getMethod (.ref a) x pl) R Bot s := by
 obtain ⟨es, n, g2, en⟩ := o
 simp only [methOk, Bool.and_eq_true, beq_iff_eq] at ok
 obtain ⟨⟨h1, h2⟩, h3⟩ := ok
 refine method_fn I.kin (od := some (dictOf es n)) ⟨g, rfl, rfl, g2⟩ (plainGet_of h1).1 (plainGet_of h1).2 h2 (beq_iff_eq.mp h3) ?_ h
 show (lookIn x (dictOf es n)).map _ = _
 rw [lookIn_dict, (en.getL x).1, e]; rfl
theorem M_inst {k : Nat} {C f : Addr} {ns : List Str} {xs : List V} {x : Str} (hk : H[k]? = some (.inst C ns xs)) (ok : methOk W.K C x f = true) (e : fld ns xs x = none) : MethOf W (.ref k) H x (.ref f) := fun A Φ μ s v pl R I r h => by
 obtain ⟨p, hp, rfl, h2, g, vs, o, rr⟩ := I.at hk r
 exact getMethod_inst I ok g o (fld_none x rr.length.symm e) h
theorem M_obj {C f : Addr} {ns : List Str} {xs : List V} {x : Str} (ok : methOk W.K C x f = true) (e : fld ns xs x = none) : MethOf W (.obj C ns xs) H x (.ref f) := fun A Φ μ s v pl R I r h => by
 obtain ⟨b, dd, vs, rfl, g, o, _, _, rr⟩ := r
 exact getMethod_inst I ok g o (fld_none x rr.length.symm e) h
noncomputable def UPost (W : Wd) (Φ : List Addr) (μ : List (Addr × Addr)) (H : List AObj) (s : Shared) (Q : List AObj → Prop) : Unit → Shared → Prop := PPost W Φ μ H s (fun _ (_ : Unit) (_ : Unit) => True) fun za H' => Q H'
theorem UPost.set {Q : List AObj → Prop} {k : Nat} {o o' : AObj} {p : Addr × Addr} {h' : Heap} {t : Tok} {b : Addr} (I : Inv W.hb Φ μ H s.heap) (hk : H[k]? = some o) (hd : o ≠ .dead) (hp : μ[k]? = some p) (hb : b = p.1 ∨ b = p.2)
  (hs : Heap.SameBut b s.heap h') (g : ∃ x, h'.get? b = some x) (r : Step (cx Φ μ H s.heap) (cx Φ μ (H.set k o') h') → ObjR (cx Φ μ (H.set k o') h') o' p) (q : Q (H.set k o')) : UPost W Φ μ H s Q () { s with heap := h', toks := t } := by
 have kp : ∀ c ob, c ≠ p.1 → c ≠ p.2 → s.heap.get? c = some ob → h'.get? c = some ob := fun c ob n1 n2 e => (hs.2 c (by rcases hb with rfl | rfl <;> assumption)).trans e
 have al : ∀ c, (∃ x, s.heap.get? c = some x) → ∃ x, h'.get? c = some x := fun c ⟨x, e⟩ => by
  by_cases z : c = b
  ·rw [z]; exact g
  ·exact ⟨x, (hs.2 c z).trans e⟩
 have g1 := al _ (I.live p.1 ⟨k, o, p, hk, hd, hp, .inl rfl⟩).2
 have g2 := al _ (I.live p.2 ⟨k, o, p, hk, hd, hp, .inr rfl⟩).2
 exact ⟨(), _, μ, Keep.set hk hd hp kp g1 g2, I.set (o' := o') hk hd hp kp g1 g2 r, trivial, q⟩
noncomputable def Si (W : Wd) (d : Nat) (a i x : V) (H : List AObj) (Q : List AObj → Prop) : Prop :=
 ∀ A Φ μ s u v w, AOk d A → Inv W.hb Φ μ H s.heap → VR (cx Φ μ H s.heap) a u → VR (cx Φ μ H s.heap) i v → VR (cx Φ μ H s.heap) x w → wpAny W.M A (setItem u v w) (UPost W Φ μ H s Q) Bot s
theorem U_list {k : Nat} {xs : List V} {i : Int} {a : V} {Q} (hk : H[k]? = some (.list xs)) (h0 : 0 ≤ i) (h1 : i.toNat < xs.length) (hl : xs.length ≤ 1000000) (h : Q (H.set k (.list (xs.set i.toNat a)))) : Si W d (.ref k) (.int i) a H Q := by
 have cX : True := trivial
 revert W d H k xs i a Q hk h0 h1 hl h
 rintro W d H k xs i a Q hk h0 h1 hl h
 rintro A Φ μ s u v w ha I r ⟨t, e'⟩ rw'
 subst e'
 obtain ⟨p, hp, rfl, h2, vs, g, rr⟩ := I.at hk r
 obtain ⟨n, g'⟩ := id g
 have hlen := rr.length
 have hi : i < 2 ^ 63 := by lia
 refine ki_setAt (items := vs.toArray) g' h0 hi (by rw [List.size_toArray]; lia) ?_
 have gg := g.upd (fun z => z.setIfInBounds i.toNat w) (vs.set i.toNat w) (by simp)
 refine UPost.set (b := p.1) (o' := .list (xs.set i.toNat a)) I hk (by intro e; cases e) hp (.inl rfl) (Heap.SameBut.update ..) (let ⟨_, z⟩ := gg; ⟨_, z⟩) (fun S => ⟨h2, _, gg, (rr.step S).set (rw'.step S) _⟩) h
theorem stored_new {ks : List Int} {vs : List Value} {k : Int} {v : Value} (hl : vs.length = ks.length) (hn : k ∉ ks) : stored (ks.zip vs) k v = (ks ++ [k]).zip (vs ++ [v]) := by
 unfold stored
 rw [if_neg]
 ·rw [List.zip_append hl.symm]; rfl
 ·intro z
  obtain ⟨x, hx, e⟩ := List.any_eq_true.mp z
  have : x.1 = k := of_decide_eq_true e
  exact hn (this ▸ (List.of_mem_zip hx).1)
theorem U_dictI {k : Nat} {ks : List Int} {xs : List V} {i : Int} {a : V} {Q} (hk : H[k]? = some (.dictI ks xs)) (hn : i ∉ ks) (hl : ks.length ≤ 1000000) (h : Q (H.set k (.dictI (ks ++ [i]) (xs ++ [a])))) : Si W d (.ref k) (.int i) a H Q := by
 have cX : True := trivial
 revert W d H k ks xs i a Q hk hn hl h
 rintro W d H k ks xs i a Q hk hn hl h
 rintro A Φ μ s u v w ha I r ⟨t, e'⟩ rw'
 subst e'
 obtain ⟨p, hp, rfl, h2, es, n, vs, g, nd, en, rr⟩ := I.at hk r
 have D := dictOf_I (W := W) g nd en
 have hlen := (en.get (W := W)).2.2.2
 refine wpAny_setItem_pairs (knd := intKind W.prog W.w) (k := i) (hsz := by rw [List.length_zip, sizeLine_eq]; lia +abstractProof) (by show Value.isInt i (Value.int i t) = true; simp [Value.isInt]) D ?_
 rintro h' D' hs
 rw [stored_new hlen hn] at D'
 obtain ⟨es', n', g', nd', en'⟩ := of_dictOf_I D'
 rw [List.map_fst_zip (by simp [hlen]), List.map_snd_zip (by simp [hlen])] at en'
 rw [List.map_fst_zip (by simp [hlen])] at nd'
 exact UPost.set (b := p.1) (o' := .dictI (ks ++ [i]) (xs ++ [a])) I hk (by intro e; cases e) hp (.inl rfl) hs ⟨_, g'⟩ (fun S => ⟨h2, es', n', _, g', nd', en', (rr.step S).push (rw'.step S)⟩) h
theorem U_dictT {k : Nat} {ks : List (List Int)} {xs : List V} {i : List Int} {a : V} {Q} (hk : H[k]? = some (.dictT ks xs)) (hn : i ∉ ks) (hl : ks.length ≤ 1000000) (h : Q (H.set k (.dictT (ks ++ [i]) (xs ++ [a])))) : Si W d (.ref k) (.tup (i.map V.int)) a H Q := by
 have cX : True := trivial
 revert W d H k ks xs i a Q hk hn hl h
 rintro W d H k ks xs i a Q hk hn hl h
 rintro A Φ μ s u v w ha I r r' rw'
 obtain ⟨c, us, rfl, t, iu, nc⟩ := r'.tupInts
 obtain ⟨p, hp, rfl, h2, es, n, vs, g, nd, en, rr⟩ := I.at hk r
 obtain ⟨ys, x1, x2, x3, x4, x5⟩ := en.get (W := W)
 subst x3 x4
 refine wpAny_setItem_heap (knd := tK W) (hsz := by rw [List.length_map] at hl; rw [sizeLine_eq]; lia) ha.room1 (tK_is t iu) (dictOf_T g x1 x2 nd) ?_
 rintro h' D' hs
 have hnone : atKey ys i = none := by
  have := atKey_isSome (xs := ys) i
  rw [decide_eq_false hn] at this
  simpa using this
 rw [storedH_new hnone] at D'
 obtain ⟨n', g', nd'⟩ := of_dictOf_T D'
 refine UPost.set (b := p.1) (o' := .dictT (ys.map (·.1) ++ [i]) (xs ++ [a])) I hk (by intro e; cases e) hp (.inl rfl) hs ⟨_, g'⟩ (fun S => ⟨h2, _, n', ys.map (·.2.2) ++ [w], g', by simpa using nd', ?_, (rr.step S).push (rw'.step S)⟩) h
 have := EntT.of (W := W) (h := h') (X := (cx Φ μ (H.set k (.dictT (ys.map (·.1) ++ [i]) (xs ++ [a]))) h').X) (xs := ys ++ [(i, c, w)]) fun y hy => ?_
 ·simpa using this
 ·rcases List.mem_append.mp hy with hy | hy
  ·obtain ⟨us', t', iu', nx⟩ := x5 y hy
   obtain ⟨z1, z2⟩ := t'.step S nx
   exact ⟨us', z1, iu', z2⟩
  ·rw [List.mem_singleton.mp hy]
   obtain ⟨z1, z2⟩ := t.step S nc
   exact ⟨us, z1, iu, z2⟩
theorem S_setSub {o i : Expr} {px : Pos} {e : Expr} {pos : Pos} {Q : AF → Loc → List AObj → Prop} (h : Ev W sc d e m H fun a H1 => Ev W sc d o m H1 fun b H2 => Ev W sc d i m H2 fun c H3 => Si W d b c a H3 fun H4 => Q .next m H4)
  (hs : ∀ env, swapsWith e (some (.Subscript o i px)) pos.line env = pure false := by intro _; with_unfolding_all rfl) : Sx W sc d (.Assign [.Subscript o i px] e pos) m H Q := by
 have cX : True := trivial
 revert W sc d m H o i px e pos Q h hs
 rintro W sc d m H o i px e pos Q h hs
 rintro env A Φ μ s F
 exact (wpAny_Assign_Subscript (JPost.goE F (h env A Φ μ s F) fun v s1 a H1 μ1 F1 K1 r1 q1 => by
  exact JPost.goE F1 (q1 env A Φ μ1 s1 F1) fun u s2 b H2 μ2 F2 K2 r2 q2 => by
   exact JPost.goE F2 (q2 env A Φ μ2 s2 F2) fun w s3 c H3 μ3 F3 K3 r3 q3 => by
    refine wpm (q3 A Φ μ3 s3 u w v F3.a F3.inv (r2.step (F2.stepF K3)) r3 ((r1.step (F1.stepF K2)).step (F2.stepF K3))) (fun za s4 ⟨zb, H4, μ4, K4, I4, zc, q4⟩ => ?_)
    have F4 := F3.move0 K4 I4
    exact JPost.ofK (((K1.trans K2).trans K3).trans K4.weak0) (JPost.here (b := AF.next) F4 rfl q4)) (hs env))
noncomputable def storeOk (K : Frag) (C : Addr) (x : Str) : Bool := findIn K (.ref C) "__setattr__" == some (some (.builtin "object.__setattr__")) && plainOver K C && takerIn K C x == some none && hasDictIn K C
theorem setAttr_inst {x : Str} {a dd C : Addr} {ns : List Str} {vs : List Value} {v : Value} {R : Unit → Shared → Prop} (I : Inv W.hb Φ μ H s.heap) (ok : storeOk W.K C x = true) (g : s.heap.get? a = some (instObj C dd)) (o : OwnAt s.heap dd ns vs) (hl : ns.length ≤ 900) (hne : a ≠ dd)
  (h : ∀ h' t, OwnAt h' dd (fputN ns x) (fputV ns vs x v) → Heap.SameBut dd s.heap h' → R () { s with heap := h', toks := t }) : wpAny W.M A (setAttr (.ref a) x v) R Bot s := by
 have cX : True := trivial
 revert W A Φ μ H s x a dd C ns vs v R I ok g o hl hne h
 rintro W A Φ μ H s x a dd C ns vs v R I ok g o hl hne h
 obtain ⟨es, n, g2, en⟩ := o
 simp only [storeOk, Bool.and_eq_true, beq_iff_eq] at ok
 obtain ⟨⟨⟨h1, h2⟩, h3⟩, h4⟩ := ok
 have IA : InstAt s.heap a (instObj C dd) C (some (dictOf es n)) := ⟨g, rfl, rfl, g2⟩
 refine set_plain I.kin IA h1 ?_
 refine osa_open (s := { s with toks := s.toks + 1 }) I.kin IA h2 h3 ?_
 rintro b
 obtain ⟨cd, hc, hd'⟩ := any_some h4
 refine wpAny_bind (wpAny_pure (wpAny_bind (wpAny_bind (wpAny_loadPart g (wpAny_bind (Looks.here (s := { s with toks := s.toks + 1 }) (looks_clsIn (M := W.M) I.kin hc) ?_))))))
 rw [hd']
 refine wpAny_pure (a := some dd) (wpAny_bind (wpAny_pure (wpAny_bind ?_)))
 unfold nsSet
 refine wpAny_bind (wpAny_bind (wpAny_askSetting (wpAny_pure (wpAny_bind (wpAny_mkText (wpAny_bind (wpAny_loadPart g2 ?_)))))))
 dsimp only
 have c : (!es.toArray.any (·.key.isStr x) && es.toArray.any (·.refKey)) = false := by
  have := (en.getL x).2
  rw [List.any_toArray, List.any_toArray, this, Bool.and_false]
 rw [aRefKeyMayBeTheName_at, c]
 have e := putName_dict x (PyData.keyHash W.w.params x) (.str x (s.toks + 1)) v es n
 have g3 : (s.heap.update dd (Obj.putName x (PyData.keyHash W.w.params x) (.str x (s.toks + 1)) v)).get? dd = some (dictOf (putL x (PyData.keyHash W.w.params x) (.str x (s.toks + 1)) v es) (putN x es n)) := by
  rw [Heap.get?_update_self _ g2 (by rw [e]; rfl), e]
 refine wpAny_updatePart g2 ?_
 have hz : (putL x (PyData.keyHash W.w.params x) (.str x (s.toks + 1)) v es).length ≤ 1000 := by
  have q := (en.put (x := x) (a := v) (hsh := PyData.keyHash W.w.params x) (t := s.toks + 1)).len.1
  have : ∀ l : List Str, (fputN l x).length ≤ l.length + 1 := fun l => by
   induction l with
   | nil => simp [fputN]
   | cons y l ih => unfold fputN; split <;> simp <;> lia
  have := this ns
  lia
 refine wpAny_bind (wpAny_lookBehind g3 (pastItsLine_dict (by rw [List.size_toArray, sizeLine_eq]; lia)) ?_)
 exact wpAny_pure (h _ _ ⟨_, _, g3, en.put⟩ (Heap.SameBut.update ..))
end
end Mine
set_option tactic.hygienic false
namespace Mine
section
variable {prog : Program} {w : World} {A : Around} {E : Value → Shared → Prop} {s : Shared}
theorem next_key {it d : Addr} {i ep : Nat} {es : List DictEntry} {Q : Option Value → Shared → Prop} (hh : A.handled = none) (hit : s.heap.IsKeyIter it d i es.length ep) (hm : s.heap.get? d = some (dictOf es ep))
  (h : ∀ h', Heap.ExtBut it s.heap h' → (∀ e, es[i]? = some e → h'.IsKeyIter it d (i + 1) es.length ep) → Q (es[i]?.map (·.key)) { s with heap := h' }) : wpAny (model prog w) A (pyNext (.ref it)) Q E s := by
 have cX : True := trivial
 revert prog w A E s it d i ep es Q hh hit hm h
 rintro prog w A E s it d i ep es Q hh hit hm h
 obtain ⟨o, ho, hc, hd⟩ := id hit
 unfold pyNext
 refine wpAny_bind (wpAny_attempt (wpAny_callSpecial?_slot (name := Str.ofString "__next__") hit.typeIs F.slot_dict_keyiterator_next (wpAny_call_entry F.slot_dict_keyiterator_next hit.typeIs F.entry_dict_keyiterator_next ?_ (F.args_dict_keyiterator_next_1 _))))
 refine wpAny_bind (wpAny_pure (wpAny_bind (wpAny_bind (wpAny_bind (wpAny_typeNameOfWhole_keyiter hit.typeIs (wpAny_pure (wpAny_bind (wpAny_fieldsOf ho hd ?_))))))))
 show wpAny _ _ (if (Value.ref d == Value.none) = true then _ else _) _ _ s
 rw [if_neg (show ¬ ((Value.ref d == Value.none) = true) from Bool.false_ne_true)]
 refine wpAny_bind (wpAny_pure (wpAny_bind (wpAny_dictEntries hm rfl ?_)))
 rw [if_neg (by simp)]
 refine wpAny_bind (wpAny_pure (wpAny_bind (wpAny_dictEpoch hm rfl ?_)))
 rw [if_neg (by simp)]
 refine wpAny_pure ?_
 simp only [show ¬ ((i : Int) < 0) from by lia +abstractProof, if_false, Int.toNat_natCast]
 show wpAny _ _ (match es.toArray[i]? with | some e => _ | none => _) _ _ _
 have ee : es.toArray[i]? = es[i]? := by simp
 cases hx : es[i]? with
 | some e =>
  rw [ee, hx]
  rw [hx] at h
  refine wpAny_bind (wpAny_bind (wpAny_typeNameOfWhole_keyiter hit.typeIs (wpAny_pure (wpAny_bind (wpAny_isOneOf_keyiter hit.typeIs ?_)))))
  show wpAny _ _ (setField (.ref it) 1 (rawInt ((i : Int) + 1)) >>= _) _ _ s
  refine wpAny_bind (wpAny_setField ho hd (by simp) ?_)
  have hit' : (s.heap.update it (Obj.mapFields (·.setIfInBounds 1 (rawInt ((i : Int) + 1))))).IsKeyIter it d (i + 1) es.length ep :=
   ⟨_, Heap.get?_update_self _ ho (Obj.isFreed_of_fields (Obj.data_mapFields hd _)), (Obj.cls_mapFields ..).trans hc, by rw [Obj.data_mapFields hd]; simp [rawInt]⟩
  refine wpAny_bind (wpAny_holding ?_)
  refine wpAny_bind (wpAny_isOneOf_keyiter (s := { s with heap := s.heap.update it (Obj.mapFields (·.setIfInBounds 1 (rawInt ((i : Int) + 1)))) }) hit'.typeIs ?_)
  exact wpAny_pure (wpAny_pure ⟨_, rfl, wpAny_pure (h _ (Heap.SameBut.update ..).extBut fun za zb => hit')⟩)
 | none =>
  rw [ee, hx]
  rw [hx] at h
  refine wpAny_bind (wpAny_bind (wpAny_typeNameOfWhole_keyiter hit.typeIs (wpAny_pure ?_)))
  show wpAny _ _ (setField (.ref it) 0 .none >>= _) _ _ s
  refine wpAny_bind (wpAny_setField ho hd (by simp) (wpAny_bind ?_))
  simp only [newExc, newTuple]
  refine wpAny_bind (wpAny_newObj_type ?_ (by size_fits))
  refine wpAny_bind (m := firstArgMember _ _) (wpAny_of_eq (a := Value.none) (by first | rfl | (simp only [firstArgMember]; rfl)) ?_)
  refine wpAny_newObj_type ?_ (by size_fits)
  simp only [raiseNew]
  refine wpAny_bind (wpAny_handled ?_)
  rw [show A.in1.handled = none from hh]
  refine wpAny_bind (wpAny_pure (wpAny_throw ?_))
  refine wpAny_bind (wpAny_isInstance (T := "StopIteration") (b := true) ⟨_, Heap.get?_push_size _ rfl, rfl⟩ isSubtype_stop ?_)
  exact wpAny_pure (h _ (((Heap.SameBut.update ..).extBut.push _).push _) fun za e => nomatch e)
theorem next_val {it d : Addr} {i ep : Nat} {es : List DictEntry} {Q : Option Value → Shared → Prop} (hh : A.handled = none) (hit : s.heap.IsValIter it d i es.length ep) (hm : s.heap.get? d = some (dictOf es ep))
  (h : ∀ h', Heap.ExtBut it s.heap h' → (∀ e, es[i]? = some e → h'.IsValIter it d (i + 1) es.length ep) → Q (es[i]?.map (·.val)) { s with heap := h' }) : wpAny (model prog w) A (pyNext (.ref it)) Q E s := by
 have cX : True := trivial
 revert prog w A E s it d i ep es Q hh hit hm h
 rintro prog w A E s it d i ep es Q hh hit hm h
 obtain ⟨o, ho, hc, hd⟩ := id hit
 unfold pyNext
 refine wpAny_bind (wpAny_attempt (wpAny_callSpecial?_slot (name := Str.ofString "__next__") hit.typeIs F.slot_dict_valueiterator_next (wpAny_call_entry F.slot_dict_valueiterator_next hit.typeIs F.entry_dict_valueiterator_next ?_ (F.args_dict_valueiterator_next_1 _))))
 refine wpAny_bind (wpAny_pure (wpAny_bind (wpAny_bind (wpAny_bind (wpAny_typeNameOfWhole_valiter hit.typeIs (wpAny_pure (wpAny_bind (wpAny_fieldsOf ho hd ?_))))))))
 show wpAny _ _ (if (Value.ref d == Value.none) = true then _ else _) _ _ s
 rw [if_neg (show ¬ ((Value.ref d == Value.none) = true) from Bool.false_ne_true)]
 refine wpAny_bind (wpAny_pure (wpAny_bind (wpAny_dictEntries hm rfl ?_)))
 rw [if_neg (by simp)]
 refine wpAny_bind (wpAny_pure (wpAny_bind (wpAny_dictEpoch hm rfl ?_)))
 rw [if_neg (by simp)]
 refine wpAny_pure ?_
 simp only [show ¬ ((i : Int) < 0) from by lia +abstractProof, if_false, Int.toNat_natCast]
 show wpAny _ _ (match es.toArray[i]? with | some e => _ | none => _) _ _ _
 have ee : es.toArray[i]? = es[i]? := by simp
 cases hx : es[i]? with
 | some e =>
  rw [ee, hx]
  rw [hx] at h
  refine wpAny_bind (wpAny_bind (wpAny_typeNameOfWhole_valiter hit.typeIs (wpAny_pure (wpAny_bind (wpAny_isOneOf_valiter hit.typeIs ?_)))))
  show wpAny _ _ (setField (.ref it) 1 (rawInt ((i : Int) + 1)) >>= _) _ _ s
  refine wpAny_bind (wpAny_setField ho hd (by simp) ?_)
  have hit' : (s.heap.update it (Obj.mapFields (·.setIfInBounds 1 (rawInt ((i : Int) + 1))))).IsValIter it d (i + 1) es.length ep :=
   ⟨_, Heap.get?_update_self _ ho (Obj.isFreed_of_fields (Obj.data_mapFields hd _)), (Obj.cls_mapFields ..).trans hc, by rw [Obj.data_mapFields hd]; simp [rawInt]⟩
  refine wpAny_bind (wpAny_holding ?_)
  refine wpAny_bind (wpAny_isOneOf_valiter (s := { s with heap := s.heap.update it (Obj.mapFields (·.setIfInBounds 1 (rawInt ((i : Int) + 1)))) }) hit'.typeIs ?_)
  refine wpAny_bind (wpAny_isOneOf_valiter (s := { s with heap := s.heap.update it (Obj.mapFields (·.setIfInBounds 1 (rawInt ((i : Int) + 1)))) }) hit'.typeIs ?_)
  exact wpAny_pure (wpAny_pure ⟨_, rfl, wpAny_pure (h _ (Heap.SameBut.update ..).extBut fun za zb => hit')⟩)
 | none =>
  rw [ee, hx]
  rw [hx] at h
  refine wpAny_bind (wpAny_bind (wpAny_typeNameOfWhole_valiter hit.typeIs (wpAny_pure ?_)))
  show wpAny _ _ (setField (.ref it) 0 .none >>= _) _ _ s
  refine wpAny_bind (wpAny_setField ho hd (by simp) (wpAny_bind ?_))
  simp only [newExc, newTuple]
  refine wpAny_bind (wpAny_newObj_type ?_ (by size_fits))
  refine wpAny_bind (m := firstArgMember _ _) (wpAny_of_eq (a := Value.none) (by first | rfl | (simp only [firstArgMember]; rfl)) ?_)
  refine wpAny_newObj_type ?_ (by size_fits)
  simp only [raiseNew]
  refine wpAny_bind (wpAny_handled ?_)
  rw [show A.in1.handled = none from hh]
  refine wpAny_bind (wpAny_pure (wpAny_throw ?_))
  refine wpAny_bind (wpAny_isInstance (T := "StopIteration") (b := true) ⟨_, Heap.get?_push_size _ rfl, rfl⟩ isSubtype_stop ?_)
  exact wpAny_pure (h _ (((Heap.SameBut.update ..).extBut.push _).push _) fun za e => nomatch e)
theorem iter_keys {d : Addr} {es : List DictEntry} {ep : Nat} {Q : Value → Shared → Prop} (hd : (d == sysModules) = false) (hm : s.heap.get? d = some (dictOf es ep))
  (hQ : Q (.ref s.heap.objs.size) { s with heap := s.heap.push { cls := .type "dict_keyiterator", data := .fields #[.ref d, .int 0 0, .int es.length 0, .int ep 0] } }) :
  wpAny (model prog w) A (pyIter (.ref d)) Q E s := by
 have cX : True := trivial
 revert prog w A E s d es ep Q hd hm hQ
 rintro prog w A E s d es ep Q hd hm hQ
 have hT : s.TypeIs (.ref d) "dict" := ⟨_, hm, rfl⟩
 refine wpAny_pyIter_slot hT F.slot_dict_iter (wpAny_call_entry F.slot_dict_iter hT F.entry_dict_iter ?_ (F.args_dict_iter_1 _))
 unfold Builtin.«dict.__iter__»
 refine wpAny_bind ?_
 unfold Builtin.Dict.dictSlotNone
 refine wpAny_bind (wpAny_notOrdered_dict hT (wpAny_pure ?_))
 show wpAny _ _ (Builtin.Dict.showsAll d >>= _) _ _ s
 unfold Builtin.Dict.showsAll
 rw [if_neg (by rw [hd]; exact Bool.false_ne_true)]
 refine wpAny_bind (wpAny_pure (wpAny_bind (wpAny_dictEntries hm rfl (wpAny_bind (wpAny_dictEpoch hm rfl ?_)))))
 refine wpAny_bind (wpAny_newObj_type (wpAny_pure ⟨_, rfl, "dict_keyiterator", _, ⟨_, Heap.get?_push_size _ rfl, rfl⟩, F.slot_dict_keyiterator_next.lookup, ?_⟩))
 simpa [rawInt] using hQ
theorem iter_vals {v d : Addr} {es : List DictEntry} {ep : Nat} {Q : Value → Shared → Prop} (hv : s.heap.IsValuesView v d) (hm : s.heap.get? d = some (dictOf es ep))
  (hQ : Q (.ref s.heap.objs.size) { s with heap := s.heap.push { cls := .type "dict_valueiterator", data := .fields #[.ref d, .int 0 0, .int es.length 0, .int ep 0] } }) :
  wpAny (model prog w) A (pyIter (.ref v)) Q E s := by
 have cX : True := trivial
 revert prog w A E s v d es ep Q hv hm hQ
 rintro prog w A E s v d es ep Q hv hm hQ
 obtain ⟨ov, hov, hcv, hdv⟩ := id hv
 refine wpAny_pyIter_slot hv.typeIs F.slot_dict_values_iter (wpAny_call_entry F.slot_dict_values_iter hv.typeIs F.entry_dict_values_iter ?_ (F.args_dict_values_iter_1 _))
 unfold Builtin.«dict_values.__iter__»
 refine wpAny_bind (wpAny_pure (wpAny_bind ?_))
 unfold Builtin.Dict_items.dictOf
 refine wpAny_bind (wpAny_field hov hdv (x := .ref d) rfl (wpAny_pure (wpAny_bind ?_)))
 unfold Builtin.Dict_items.newIterator
 refine wpAny_bind (wpAny_dictEntries hm rfl (wpAny_bind (wpAny_dictEpoch hm rfl ?_)))
 simp only [show Builtin.Dict_items.ownsTuple "dict_valueiterator" = false by decide, Bool.false_eq_true, if_false]
 refine wpAny_newObj_type (wpAny_pure ⟨_, rfl, "dict_valueiterator", _, ⟨_, Heap.get?_push_size _ rfl, rfl⟩, F.slot_dict_valueiterator_next.lookup, ?_⟩)
 simpa [rawInt] using hQ
end
end Mine
set_option tactic.hygienic false
namespace Mine
section
variable {hb : Hb} {h h' : Heap} {Φ Ψ : List Addr} {μ : List (Addr × Addr)} {H : List AObj}
theorem widen_step (k : ∀ b o, h.get? b = some o → h'.get? b = some o) (f : ∀ b, b ∈ Ψ → h.get? b = none) : Step (cx Φ μ H h) (cx (Ψ ++ Φ) μ H h') :=
 ⟨fun b o e za => k b o e, fun b q => q.elim (fun z => .inl (.inl z)) fun z => (List.mem_append.mp z).elim (fun y => .inr (f b y)) fun y => .inl (.inr y), fun za zb e => e⟩
theorem Inv.widen (I : Inv hb Φ μ H h) (k : ∀ b o, h.get? b = some o → h'.get? b = some o) (f : ∀ b, b ∈ Ψ → h.get? b = none) (g : ∀ b, b ∈ Ψ → ∃ o, h'.get? b = some o) : Inv hb (Ψ ++ Φ) μ H h' where
 len := I.len
 base := fun b o e => k b o (I.base b o e)
 obj := fun j o p e1 e2 => (I.obj j o p e1 e2).step (widen_step k f) fun b ob za e => k b ob e
 apart := I.apart
 live := fun b q => let ⟨a, o, e⟩ := I.live b q; ⟨a, o, k _ _ e⟩
 phi := fun b q => by
  rcases List.mem_append.mp q with y | y
  ·refine ⟨?_, g b y, fun z => ?_⟩
   ·cases e : hb.h.get? b with
    | none => rfl
    | some o => have := I.base _ _ e; rw [f b y] at this; cases this
   ·obtain ⟨_, o, e⟩ := I.live b z; rw [f b y] at e; cases e
  ·obtain ⟨a, ⟨o, e⟩, n⟩ := I.phi b y; exact ⟨a, ⟨o, k _ _ e⟩, n⟩
 lo := I.lo
 two := I.two
theorem narrow_step : Step (cx (Ψ ++ Φ) μ H h) (cx Φ μ H h) := ⟨fun za zb e zc => e, fun b q => .inl (q.elim .inl fun z => .inr (List.mem_append_right _ z)), fun za zb e => e⟩
theorem Inv.narrow (I : Inv hb (Ψ ++ Φ) μ H h) : Inv hb Φ μ H h where
 len := I.len
 base := I.base
 obj := fun j o p e1 e2 => (I.obj j o p e1 e2).step narrow_step fun b ob za e => e
 apart := I.apart
 live := I.live
 phi := fun b q => I.phi b (List.mem_append_right _ q)
 lo := I.lo
 two := I.two
theorem off_step {i : Addr} (hi : ¬ Live μ H i) (hΦ : i ∉ Φ) (k : ∀ b o, b ≠ i → h.get? b = some o → h'.get? b = some o) {i0 : Cx} (S : Step i0 (cx (i :: Φ) μ H h)) : Step i0 (cx Φ μ H h') :=
 ⟨fun b o e n => k b o (fun q => by
   by_cases hx : i0.h.get? b = none
   ·rw [e] at hx; cases hx
   ·exact absurd (S.off e n) (by subst q; exact fun z => z (.inr (.head _)))) (S.keep b o e n), fun b q => S.ext b (q.elim .inl fun z => .inr (.tail _ z)), S.mu⟩
theorem Inv.off {i : Addr} (I : Inv hb (i :: Φ) μ H h) (hΦ : i ∉ Φ) (k : ∀ b o, b ≠ i → h.get? b = some o → h'.get? b = some o) : Inv hb Φ μ H h' := by
 have cX : True := trivial
 revert hb h h' Φ μ H i I hΦ k
 rintro hb h h' Φ μ H i I hΦ k
 obtain ⟨n0, _, nl⟩ := I.phi i (.head _)
 have S : Step (cx (i :: Φ) μ H h) (cx Φ μ H h') := off_step nl hΦ k (Step.refl _)
 refine ⟨I.len, fun b o e => k b o (fun q => by rw [q, n0] at e; cases e) (I.base b o e), fun j o p e1 e2 => ?_, I.apart, fun b q => ?_, fun b q => ?_, I.lo, I.two⟩
 ·by_cases hd : o = .dead
  ·subst hd; trivial
  ·refine (I.obj j o p e1 e2).step S fun b ob hbp e => k b ob (fun q => nl ⟨j, o, p, e1, hd, e2, q ▸ hbp⟩) e
 ·obtain ⟨a, o, e⟩ := I.live b q; exact ⟨a, o, k b o (fun z => nl (z ▸ q)) e⟩
 ·obtain ⟨a, ⟨o, e⟩, n⟩ := I.phi b (.tail _ q); exact ⟨a, ⟨o, k b o (fun z => hΦ (z ▸ q)) e⟩, n⟩
theorem Inv.poke {i : Addr} (I : Inv hb Φ μ H h) (hi : i ∈ Φ) (k : ∀ b o, b ≠ i → h.get? b = some o → h'.get? b = some o) (al : ∃ o, h'.get? i = some o) : Inv hb Φ μ H h' :=
 I.frame (fun b o q e => k b o (fun z => q (z ▸ hi)) e) fun b o e => by
  by_cases q : b = i
  ·exact q ▸ al
  ·exact ⟨o, k b o q e⟩
theorem poke_step {i : Addr} (hi : i ∈ Φ) (k : ∀ b o, b ≠ i → h.get? b = some o → h'.get? b = some o) : Step (cx Φ μ H h) (cx Φ μ H h') :=
 ⟨fun b o e n => k b o (fun q => n (.inr (q ▸ hi))) e, fun za q => .inl q, fun za zb e => e⟩
end
theorem LocR.step {env : Env} {m : Loc} {c c' : Cx} (S : Step c c') (kh : ∀ b o, b ∈ Fp env → c.h.get? b = some o → c'.h.get? b = some o) (L : LocR env m c) : LocR env m c' := by
 have cX : True := trivial
 revert env m c c' S kh L
 rintro env m c c' S kh L
 refine ⟨?_, fun x hk => ?_⟩
 ·obtain ⟨ml, ⟨o, es, ep, ho, r⟩, hm⟩ := L.ns
  exact ⟨ml, ⟨o, es, ep, kh _ _ (.head _) ho, r⟩, fun x a hk hx => let ⟨v, e, r⟩ := hm x a hk hx; ⟨v, e, r.step S⟩⟩
 ·obtain ⟨cl, v, hc, ⟨o, ho, r⟩, hm⟩ := L.cell x hk
  exact ⟨cl, v, hc, ⟨o, kh _ _ (.tail _ (mem_of_look hc)) ho, r⟩, fun a ha => let ⟨v', e, r⟩ := hm a ha; ⟨v', e, r.step S⟩⟩
theorem LocR.sub {env : Env} {m m' : Loc} {c : Cx} (L : LocR env m c) (h : ∀ x a, m' x = some a → m x = some a) : LocR env m' c :=
 ⟨let ⟨ml, r, hm⟩ := L.ns; ⟨ml, r, fun x a hk hx => hm x a hk (h x a hx)⟩, fun x hk => let ⟨cl, v, hc, r, hm⟩ := L.cell x hk; ⟨cl, v, hc, r, fun a ha => hm a (h x a ha)⟩⟩
section
variable {W : Wd} {sc : Scope} {d : Nat} {env : Env} {A : Around} {Φ Ψ : List Addr} {m m' : Loc} {μ μ' : List (Addr × Addr)} {H H' : List AObj} {s s' : Shared}
theorem Fm.widen {h' : Heap} {t : Tok} (F : Fm W sc d env A Φ m μ H s) (k : ∀ b o, s.heap.get? b = some o → h'.get? b = some o) (f : ∀ b, b ∈ Ψ → s.heap.get? b = none) (g : ∀ b, b ∈ Ψ → ∃ o, h'.get? b = some o) :
  Fm W sc d env A (Ψ ++ Φ) m μ H { s with heap := h', toks := t } :=
 ⟨F.en, ⟨fun b q => List.mem_append_right _ (F.fr.sub b q), F.fr.off, F.fr.apart⟩, F.a, F.inv.widen k f g, F.loc.step (widen_step k f) fun b o za e => k b o e⟩
theorem Fm.off {i : Addr} {h' : Heap} {t : Tok} (F : Fm W sc d env A (i :: Φ) m μ H s) (hΦ : i ∉ Φ) (hs : FrameOk env Φ) (k : ∀ b o, b ≠ i → s.heap.get? b = some o → h'.get? b = some o) :
  Fm W sc d env A Φ m μ H { s with heap := h', toks := t } := by
 refine ⟨F.en, hs, F.a, F.inv.off hΦ k, F.loc.step (off_step (F.inv.phi i (.head _)).2.2 hΦ k (Step.refl _)) fun b o q e => k b o (fun z => hΦ (z ▸ hs.sub b q)) e⟩
theorem Fm.poke {i : Addr} {h' : Heap} {t : Tok} (F : Fm W sc d env A Φ m μ H s) (hi : i ∈ Φ) (hn : i ∉ Fp env) (k : ∀ b o, b ≠ i → s.heap.get? b = some o → h'.get? b = some o) (al : ∃ o, h'.get? i = some o) :
  Fm W sc d env A Φ m μ H { s with heap := h', toks := t } :=
 ⟨F.en, F.fr, F.a, F.inv.poke hi k al, F.loc.step (poke_step hi k) fun b o q e => k b o (fun z => hn (z ▸ q)) e⟩
theorem Keep.poke {P : List Addr} {h' : Heap} {t : Tok} {i : Addr} (hi : i ∈ P) (k : ∀ b o, b ≠ i → s.heap.get? b = some o → h'.get? b = some o) (al : ∃ o, h'.get? i = some o) : Keep P μ H s μ H { s with heap := h', toks := t } :=
 ⟨rfl, rfl, rfl, fun b o e => by
  by_cases q : b = i
  ·exact q ▸ al
  ·exact ⟨o, k b o q e⟩, fun b o e za p => k b o (fun q => p (q ▸ hi)) e, fun za q => .inl q, fun za zb e => e⟩
noncomputable def Nx (src : V) (H : List AObj) (i : Nat) (R : Option V → Prop) : Prop := match src with
 | .lst xs => R xs[i]?
 | .ref k => ∃ xs, H[k]? = some (.list xs) ∧ R xs[i]?
 | .rng n => R (if (i : Int) < n then some (.int i) else none)
 | .dct ks _ => R (ks[i]?.map fun k => .tup (k.map V.int))
 | .vals xs => R xs[i]?
 | _ => False
noncomputable def ItSt (src : V) (sv : Value) (i : Nat) (I : Addr) (h : Heap) : Prop := match src with
 | .lst _ | .ref _ => ∃ a, sv = .ref a ∧ h.IsListIter I a i
 | .rng n => IsRangeIter h I i ((n.toNat : Int) - i) 1
 | .dct _ _ => ∃ a es ep, sv = .ref a ∧ h.get? a = some (dictOf es ep) ∧ h.IsKeyIter I a i es.length ep
 | .vals _ => ∃ a b es ep, sv = .ref a ∧ h.IsValuesView a b ∧ h.get? b = some (dictOf es ep) ∧ h.IsValIter I b i es.length ep
 | _ => False
noncomputable def SrcOk (src : V) (H : List AObj) : Prop := match src with
 | .lst _ | .dct _ _ | .vals _ => True
 | .ref k => ∃ xs, H[k]? = some (.list xs)
 | .rng n => 0 ≤ n ∧ n ≤ 1000000
 | _ => False
theorem EntT.keyAt {c : Cx} {es : List DictEntry} {ks : List (List Int)} {vs : List Value} (h : EntT c.h c.X es ks vs) : ∀ (i : Nat), (∀ e, es[i]? = some e → ∃ k, ks[i]? = some k ∧ VR c (.tup (k.map V.int)) e.key) ∧ (es[i]? = none → ks[i]? = none) := by
 induction h with
 | nil => exact fun i => ⟨fun e q => (nomatch q), fun za => rfl⟩
 | cons h _ ih =>
  intro i
  cases i with
  | zero => exact ⟨fun e q => ⟨_, rfl, Option.some.inj q ▸ h.1.elim fun a w => w.elim fun us w => ⟨a, us, w.1, w.2.1, w.2.2.2, IntsV.vr w.2.2.1⟩⟩, fun q => nomatch q⟩
  | succ i => exact ih i
theorem iter_start {src : V} {sv : Value} {Q : Value → Shared → Prop} (I : Inv W.hb Φ μ H s.heap) (r : VR (cx Φ μ H s.heap) src sv) (ok : SrcOk src H)
  (h : ∀ o, o.isFreed = false → ItSt src sv 0 s.heap.objs.size (s.heap.push o) → Q (.ref s.heap.objs.size) { s with heap := s.heap.push o }) : wpAny W.M A (pyIter sv) Q Bot s := by
 have cX : True := trivial
 revert W A Φ μ H s src sv Q I r ok h
 rintro W A Φ μ H s src sv Q I r ok h
 cases src with
 | lst xs =>
  obtain ⟨a, vs, rfl, ⟨n, g⟩, _, _⟩ := r
  exact wpAny_pyIter_list (items := vs.toArray) ⟨_, g, rfl, n, rfl⟩ (h _ rfl ⟨a, rfl, _, Heap.get?_push_size _ rfl, rfl, rfl⟩)
 | ref k =>
  obtain ⟨xs, hk⟩ := ok
  obtain ⟨p, hp, rfl, h2, vs, ⟨n, g⟩, rr⟩ := I.at hk r
  exact wpAny_pyIter_list (items := vs.toArray) ⟨_, g, rfl, n, rfl⟩ (h _ rfl ⟨_, rfl, _, Heap.get?_push_size _ rfl, rfl, rfl⟩)
 | rng n =>
  obtain ⟨a, rfl, ⟨t, u, v, g⟩, _⟩ := r
  obtain ⟨h0, h1⟩ := ok
  have hz : Builtin.Range.rangeSize 0 n 1 = n := by unfold Builtin.Range.rangeSize; simp; lia +abstractProof
  refine wpAny_pyIter_range g ?_ (h _ rfl ?_)
  ·unfold Builtin.Range.small
   rw [hz]
   simp [Builtin.Range.rangeFitsLong]
   lia +abstractProof
  ·show IsRangeIter _ _ _ _ _
   rw [hz, show ((n.toNat : Int) - ((0 : Nat) : Int)) = n by lia +abstractProof]
   exact Heap.get?_push_size _ rfl
 | dct ks vs =>
  obtain ⟨a, es, n, us, rfl, g, ⟨nd, l1⟩, na, _, _⟩ := r
  exact iter_keys (beq_eq_false_iff_ne.mpr fun e => by rw [e] at l1; exact absurd l1 (by decide)) g (h _ rfl ⟨a, es, n, rfl, Heap.get?_push_of_some _ g, _, Heap.get?_push_size _ rfl, rfl, rfl⟩)
 | vals xs =>
  obtain ⟨a, b, es, n, rfl, hv, g, na, nb, _⟩ := r
  obtain ⟨ov, hov, hv'⟩ := id hv
  exact iter_vals hv g (h _ rfl ⟨a, b, es, n, rfl, ⟨ov, Heap.get?_push_of_some _ hov, hv'⟩, Heap.get?_push_of_some _ g, _, Heap.get?_push_size _ rfl, rfl, rfl⟩)
 | _ => exact ok.elim
theorem Heap.SameBut.ext {a : Addr} {h h' : Heap} (x : Heap.SameBut a h h') : ∀ b o, b ≠ a → h.get? b = some o → h'.get? b = some o := fun b o n e => (x.2 b n).trans e
theorem VRs.look {c : Cx} {xs : List V} {vs : List Value} (rr : VRs c xs vs) (i : Nat) {G : Prop} (h0 : vs[i]? = none → xs[i]? = none → G) (h1 : ∀ v a, vs[i]? = some v → xs[i]? = some a → VR c a v → G) : G := by
 cases hx : xs[i]? with
 | none => exact h0 (by rw [List.getElem?_eq_none_iff] at hx ⊢; rw [rr.length]; exact hx) hx
 | some a => exact (rr.get hx).elim fun v q => h1 v a q.1 hx q.2
theorem dict_inj {es es' : List DictEntry} {n n' : Nat} (h : some (dictOf es n) = some (dictOf es' n')) : (es, n) = (es', n') :=
 congrArg (fun o : Option Obj => match o with | some ⟨_, _, .dict a n, _⟩ => (a.toList, n) | _ => ([], 0)) h
theorem same_dict {h : Heap} {a a' : Addr} {sv : Value} {es es' : List DictEntry} {n n' : Nat} {P : Addr → List DictEntry → Nat → Prop} (e : sv = .ref a) (e' : sv = .ref a') (g : h.get? a = some (dictOf es n)) (g' : h.get? a' = some (dictOf es' n')) (p : P a' es' n') : P a es n :=
 have k : a' = a := Value.ref.inj (e'.symm.trans e)
 (congrArg (fun q : List DictEntry × Nat => P a q.1 q.2) (dict_inj (g.symm.trans (k ▸ g')))).mpr (k ▸ p)
theorem same_view {h : Heap} {a a' b b' : Addr} {sv : Value} {es es' : List DictEntry} {n n' : Nat} {P : Addr → List DictEntry → Nat → Prop} (e : sv = .ref a) (e' : sv = .ref a') (v : h.IsValuesView a b) (v' : h.IsValuesView a' b') (g : h.get? b = some (dictOf es n)) (g' : h.get? b' = some (dictOf es' n')) (p : P b' es' n') : P b es n :=
 have k : a' = a := Value.ref.inj (e'.symm.trans e)
 v.elim fun o x => v'.elim fun o' x' =>
  have y : o' = o := Option.some.inj ((k ▸ x'.1).symm.trans x.1)
  have z : Data.fields #[.ref b] = Data.fields #[.ref b'] := x.2.2.symm.trans ((congrArg Obj.data y).symm.trans x'.2.2)
  same_dict (sv := .ref b) rfl (congrArg (fun d : Data => match d with | .fields a => a.getD 0 .none | _ => .none) z) g g' p
section
variable {i : Nat} {J : Addr} {R : Option V → Prop} {Q : Option Value → Shared → Prop} (hh : A.handled = none) (hJ : J ∈ Φ) (h0 : ∀ h' t, (∀ b ob, b ≠ J → s.heap.get? b = some ob → h'.get? b = some ob) → R none → Q none { s with heap := h', toks := t })
include hh hJ h0
theorem next_lst {a : Addr} {xs : List V} {vs : List Value} (g : LstAt s.heap a vs) (rr : VRs (cx Φ μ H s.heap) xs vs) (it : s.heap.IsListIter J a i) (hR : R xs[i]?)
  (h1 : ∀ b v h' t, (∀ b ob, b ≠ J → s.heap.get? b = some ob → h'.get? b = some ob) → (∃ ob, h'.get? J = some ob) → h'.IsListIter J a (i + 1) → VR (cx Φ μ H h') b v → R (some b) → Q (some v) { s with heap := h', toks := t }) :
  wpAny W.M A (pyNext (.ref J)) Q Bot s :=
 rr.look i (fun e e' => wpAny_pyNext_list_end hh it g.isList (by simpa using e) fun h' he => h0 h' s.toks (fun b ob n q => he b ob n q) (e' ▸ hR)) fun v b e e' r =>
  wpAny_pyNext_list_item it g.isList (x := v) (by simpa using e) fun h' it' hs => h1 b v h' s.toks (Heap.SameBut.ext hs) (it'.elim fun o q => ⟨o, q.1⟩) it' (r.step (poke_step hJ (Heap.SameBut.ext hs))) (e' ▸ hR)
theorem next_dct {a : Addr} {es : List DictEntry} {n : Nat} {ks : List (List Int)} {vs : List Value} (g : s.heap.get? a = some (dictOf es n)) (na : ¬ (cx Φ μ H s.heap).X a) (en : EntT s.heap (cx Φ μ H s.heap).X es ks vs) (it : s.heap.IsKeyIter J a i es.length n)
  (hR : R (ks[i]?.map fun k => .tup (k.map V.int)))
  (h1 : ∀ b v h' t, (∀ b ob, b ≠ J → s.heap.get? b = some ob → h'.get? b = some ob) → (∃ ob, h'.get? J = some ob) → h'.get? a = some (dictOf es n) → h'.IsKeyIter J a (i + 1) es.length n → VR (cx Φ μ H h') b v → R (some b) → Q (some v) { s with heap := h', toks := t }) :
  wpAny W.M A (pyNext (.ref J)) Q Bot s := by
 refine next_key hh it g fun h' he hit => ?_
 have ex : ∀ b ob, b ≠ J → s.heap.get? b = some ob → h'.get? b = some ob := fun b ob n q => he b ob n q
 have en := en.keyAt (c := cx Φ μ H s.heap) i
 cases hx : es[i]? with
 | none => rw [en.2 hx] at hR; exact h0 h' s.toks ex hR
 | some e =>
  refine (en.1 e hx).elim fun k q => ?_
  rw [q.1] at hR
  exact h1 _ _ h' s.toks ex ((hit e hx).elim fun o q => ⟨o, q.1⟩) (ex _ _ (fun q => na (.inr (q ▸ hJ))) g) (hit e hx) (q.2.step (poke_step hJ ex)) hR
theorem next_vals {b : Addr} {es : List DictEntry} {n : Nat} {xs : List V} (g : s.heap.get? b = some (dictOf es n)) (nb : ¬ (cx Φ μ H s.heap).X b) (rr : VRs (cx Φ μ H s.heap) xs (es.map (·.val))) (it : s.heap.IsValIter J b i es.length n) (hR : R xs[i]?)
  (h1 : ∀ a v h' t, (∀ b ob, b ≠ J → s.heap.get? b = some ob → h'.get? b = some ob) → (∃ ob, h'.get? J = some ob) → h'.get? b = some (dictOf es n) → h'.IsValIter J b (i + 1) es.length n → VR (cx Φ μ H h') a v → R (some a) → Q (some v) { s with heap := h', toks := t }) :
  wpAny W.M A (pyNext (.ref J)) Q Bot s := by
 refine next_val hh it g fun h' he hit => ?_
 have ex : ∀ b ob, b ≠ J → s.heap.get? b = some ob → h'.get? b = some ob := fun b ob n q => he b ob n q
 refine rr.look i (fun e e' => ?_) fun v a e e' r => ?_
 ·rw [e'] at hR; rw [List.getElem?_map] at e; rw [Option.map_eq_none_iff.mp e]; exact h0 h' s.toks ex hR
 ·rw [e'] at hR; rw [List.getElem?_map] at e
  refine (Option.map_eq_some_iff.mp e).elim fun d q => ?_
  rw [e]
  exact h1 _ _ h' s.toks ex ((hit d q.1).elim fun o q => ⟨o, q.1⟩) (ex _ _ (fun q => nb (.inr (q ▸ hJ))) g) (hit d q.1) (r.step (poke_step hJ ex)) hR
theorem next_rng {n : Int} (it : IsRangeIter s.heap J i ((n.toNat : Int) - i) 1) (hR : R (if (i : Int) < n then some (.int i) else none))
  (h1 : ∀ a v h' t, (∀ b ob, b ≠ J → s.heap.get? b = some ob → h'.get? b = some ob) → (∃ ob, h'.get? J = some ob) → IsRangeIter h' J (i + 1 : Nat) ((n.toNat : Int) - (i + 1 : Nat)) 1 → VR (cx Φ μ H h') a v → R (some a) → Q (some v) { s with heap := h', toks := t }) :
  wpAny W.M A (pyNext (.ref J)) Q Bot s := by
 by_cases hl : (i : Int) < n
 ·rw [if_pos hl] at hR
  refine wpAny_pyNext_range_item it (by lia) fun h' it' hs => ?_
  refine h1 (.int i) _ h' _ (Heap.SameBut.ext hs) ⟨_, it'⟩ ?_ ⟨_, rfl⟩ hR
  rw [show ((n.toNat : Int) - ((i + 1 : Nat) : Int)) = (n.toNat : Int) - i - 1 by lia, show (((i + 1 : Nat) : Int)) = (i : Int) + 1 by lia]
  exact it'
 ·rw [if_neg hl] at hR
  exact wpAny_pyNext_range_end hh it (by lia) fun h' he => h0 h' s.toks (fun b ob n q => he b ob n q) hR
end
theorem iter_next {src : V} {sv : Value} {i : Nat} {J : Addr} {R : Option V → Prop} {Q : Option Value → Shared → Prop} (ha : AOk d A) (I : Inv W.hb Φ μ H s.heap) (hJ : J ∈ Φ) (r : VR (cx Φ μ H s.heap) src sv) (st : ItSt src sv i J s.heap) (nx : Nx src H i R)
  (h0 : ∀ h' t, (∀ b ob, b ≠ J → s.heap.get? b = some ob → h'.get? b = some ob) → R none → Q none { s with heap := h', toks := t })
  (h1 : ∀ a v h' t, (∀ b ob, b ≠ J → s.heap.get? b = some ob → h'.get? b = some ob) → (∃ ob, h'.get? J = some ob) → ItSt src sv (i + 1) J h' → VR (cx Φ μ H h') a v → R (some a) → Q (some v) { s with heap := h', toks := t }) :
  wpAny W.M A (pyNext (.ref J)) Q Bot s := by
 cases src with
 | lst xs => exact LstV.el (fun a vs e g na rr => st.elim fun a' q => next_lst ha.handled hJ h0 g rr (Value.ref.inj (q.1.symm.trans e) ▸ q.2) nx fun b v h' t x o it => h1 b v h' t x o ⟨a, e, it⟩) r
 | ref k => exact nx.elim fun xs q => st.elim fun a z => (I.at q.1 r).elim fun p y => y.2.2.2.elim fun vs w => next_lst ha.handled hJ h0 w.1 w.2 (Value.ref.inj (z.1.symm.trans y.2.1) ▸ z.2) q.2 fun b v h' t x o it => h1 b v h' t x o ⟨_, y.2.1, it⟩
 | rng n => exact next_rng ha.handled hJ h0 st nx h1
 | dct ks ys => exact DctV.el (fun a es n vs e g nd na en rr => st.elim fun a' z => z.elim fun es' z => z.elim fun ep z => next_dct ha.handled hJ h0 g na en (same_dict (P := fun a es n => s.heap.IsKeyIter J a i es.length n) e z.1 g z.2.1 z.2.2) nx fun b v h' t x o g' it => h1 b v h' t x o ⟨a, es, n, e, g', it⟩) r
 | vals xs => exact ValV.el (fun a b es n e hv g na nb rr => st.elim fun a' z => z.elim fun b' z => z.elim fun es' z => z.elim fun ep z => next_vals ha.handled hJ h0 g nb rr (same_view (P := fun a es n => s.heap.IsValIter J a i es.length n) e z.1 hv z.2.1 g z.2.2.1 z.2.2.2) nx fun c v h' t x o g' it =>
   h1 c v h' t x o ⟨a, b, es, n, e, hv.elim fun ov p => ⟨ov, x _ _ (fun q => na (.inr (q ▸ hJ))) p.1, p.2⟩, g', it⟩) r
 | _ => exact nx.elim
end
end Mine
set_option tactic.hygienic false
namespace Mine
section
variable {W : Wd} {sc : Scope} {d : Nat} {env : Env} {A : Around} {Φ Ψ : List Addr} {m m' : Loc} {μ μ' : List (Addr × Addr)} {H H' : List AObj} {s s' : Shared}
theorem notOwner {x : Str → Bool} {n : String} (h : n = "list_iterator" ∨ n = "range_iterator" ∨ n = "dict_keyiterator" ∨ n = "dict_valueiterator") :
  ["enumerate", "zip", "dict_itemiterator", "dict_reverseitemiterator", "odict_iterator", "itertools.zip_longest", "itertools.pairwise"].contains n = false := by
 rcases h with rfl | rfl | rfl | rfl <;> decide
theorem itSt_obj {src : V} {sv : Value} {i : Nat} {J : Addr} {h : Heap} (st : ItSt src sv i J h) : ∃ o n vs, h.get? J = some o ∧ o.cls = .type n ∧ o.data = .fields vs ∧ (n = "list_iterator" ∨ n = "range_iterator" ∨ n = "dict_keyiterator" ∨ n = "dict_valueiterator") := by
 have cX : True := trivial
 revert src sv i J h st
 rintro src sv i J h st
 cases src with
 | lst xs => obtain ⟨a, _, o, ho, hc, hd⟩ := st; exact ⟨o, _, _, ho, hc, hd, .inl rfl⟩
 | ref k => obtain ⟨a, _, o, ho, hc, hd⟩ := st; exact ⟨o, _, _, ho, hc, hd, .inl rfl⟩
 | rng n => exact ⟨_, _, _, st, rfl, rfl, .inr (.inl rfl)⟩
 | dct ks vs => obtain ⟨a, es, ep, _, _, o, ho, hc, hd⟩ := st; exact ⟨o, _, _, ho, hc, hd, .inr (.inr (.inl rfl))⟩
 | vals xs => obtain ⟨a, b, es, ep, _, _, _, o, ho, hc, hd⟩ := st; exact ⟨o, _, _, ho, hc, hd, .inr (.inr (.inr rfl))⟩
 | _ => exact st.elim
theorem letGo {src : V} {sv : Value} {i : Nat} {J : Addr} {target : Expr} {v : Value} {E : Value → Shared → Prop} {Q : Unit → Shared → Prop} (st : ItSt src sv i J s.heap) (h : Q () s) : wpAny W.M A (letOwnedTupleGo target (.ref J) v) Q E s := by
 have cX : True := trivial
 revert W A s src sv i J target v E Q st h
 rintro W A s src sv i J target v E Q st h
 obtain ⟨o, n, vs, ho, hc, hd, hn⟩ := itSt_obj st
 have go : wpAny W.M A (do
   let (.ref r, .ref a) := ((Value.ref J, v) : Value × Value) | return
   let o ← load r
   match o.cls, o.data with
   | .type n, .fields vs =>
    if ["enumerate", "zip", "dict_itemiterator", "dict_reverseitemiterator", "odict_iterator", "itertools.zip_longest", "itertools.pairwise"].contains n && vs[0]? == some (rawInt a) then
     rule "for.unpacks-the-owned-tuple"
     updateField r 0 .none
   | _, _ => pure () : Sem Unit) Q E s := by
  cases v
  case ref a =>
   refine wpAny_bind (wpAny_load ho ?_)
   rw [hc, hd]
   dsimp only
   rw [notOwner (x := fun za => true) hn, Bool.false_and]
   exact wpAny_pure h
  all_goals exact wpAny_pure h
 cases target <;> first | exact wpAny_pure h | exact go
theorem ItSt.ext {src : V} {sv : Value} {i : Nat} {J : Addr} {c c' : Cx} (S : Step c c') (r : VR c src sv) (hJ : ∀ o, c.h.get? J = some o → c'.h.get? J = some o) (st : ItSt src sv i J c.h) : ItSt src sv i J c'.h := by
 cases src with
 | lst xs => obtain ⟨a, e, o, ho, q⟩ := st; exact ⟨a, e, o, hJ _ ho, q⟩
 | ref k => obtain ⟨a, e, o, ho, q⟩ := st; exact ⟨a, e, o, hJ _ ho, q⟩
 | rng n => exact hJ _ st
 | dct ks vs =>
  obtain ⟨a, es, n, us, rfl, g, nd, na, _, _⟩ := r
  obtain ⟨a', es', ep, e, g', o, ho, q⟩ := st
  cases e
  exact ⟨_, _, _, rfl, S.keep _ _ g' na, o, hJ _ ho, q⟩
 | vals xs =>
  obtain ⟨a, b, es, n, rfl, hv, g, na, nb, rr⟩ := r
  obtain ⟨a', b', es', ep, e, hv', g', o, ho, q⟩ := st
  cases e
  obtain ⟨ov, o1, o5, o2⟩ := id hv
  obtain ⟨ov', o3, _, o4⟩ := id hv'
  rw [o1] at o3; cases o3
  rw [o2] at o4; cases o4
  exact ⟨_, _, _, _, rfl, ⟨ov, S.keep _ _ o1 na, o5, o2⟩, S.keep _ _ g' nb, o, hJ _ ho, q⟩
 | _ => exact st.elim
noncomputable def Lp (W : Wd) (sc : Scope) (d : Nat) (target : Expr) (body : List Stmt) (src : V) (Q : AF → Loc → List AObj → Prop) (N : Nat) (J : Nat → Loc → List AObj → Prop) : Prop :=
 (∀ i m H, J i m H → i ≤ N) ∧ ∀ i m H, J i m H → Nx src H i fun o => match o with
  | none => Q .next m H
  | some a => As W sc d target a m H fun m1 H1 => Ss W sc d body m1 H1 fun f m2 H2 => match f with
   | .next | .cont => J (i + 1) m2 H2
   | .brk => Q .next m2 H2
   | .ret a => Q (.ret a) m2 H2
inductive LpSt (W : Wd) (sc : Scope) (d : Nat) (env : Env) (A : Around) (Φ : List Addr) (μ : List (Addr × Addr)) (H : List AObj) (s : Shared) (N : Nat) (J : Nat → Loc → List AObj → Prop) (src : V) (sv : Value) (j : Addr) (n : Nat) (s' : Shared) : Prop where
 | mk (i : Nat) (m' : Loc) (H' : List AObj) (μ' : List (Addr × Addr)) (e : n = N + 1 - i) (q : J i m' H') (F : Fm W sc d env A ([j] ++ Φ) m' μ' H' s') (K : Keep (j :: Fp env) μ H s μ' H' s') (r : VR (cx ([j] ++ Φ) μ' H' s'.heap) src sv) (st : ItSt src sv i j s'.heap)
inductive WhSt (W : Wd) (sc : Scope) (d : Nat) (env : Env) (A : Around) (Φ : List Addr) (μ : List (Addr × Addr)) (H : List AObj) (s : Shared) (J : Nat → Loc → List AObj → Prop) (n : Nat) (s' : Shared) : Prop where
 | mk (m' : Loc) (H' : List AObj) (μ' : List (Addr × Addr)) (q : J n m' H') (F : Fm W sc d env A Φ m' μ' H' s') (K : Keep (Fp env) μ H s μ' H' s')
theorem S_for {target iter : Expr} {body : List Stmt} {pos : Pos} {Q : AF → Loc → List AObj → Prop} (h : Ev W sc d iter m H fun src H1 => SrcOk src H1 ∧ ∃ N J, J 0 m H1 ∧ Lp W sc d target body src Q N J)
  (hs : ∀ env x, foldedSetIterable iter env x = pure x := by intro _ _; rfl) : Sx W sc d (.For target iter body [] pos) m H Q := fun env A Φ μ s F => by
 refine wpAny_For (hs := hs env) (JPost.goE F (h env A Φ μ s F) fun sv s1 src H1 μ1 F1 K1 r1 ⟨ok, N, J, hJ0, hN, hT⟩ => ?_)
 refine iter_start F1.inv r1 ok fun o hfr st => ?_
 have hf : s1.heap.get? s1.heap.objs.size = none := get_size _
 have kp : ∀ b ob, s1.heap.get? b = some ob → (s1.heap.push o).get? b = some ob := push_keeps o
 have al : ∃ ob, (s1.heap.push o).get? s1.heap.objs.size = some ob := ⟨_, Heap.get?_push_size _ hfr⟩
 have hF : ∀ b, b ∈ [s1.heap.objs.size] → s1.heap.get? b = none := fun b q => by rw [List.mem_singleton.mp q]; exact hf
 have FW : Fm W sc d env A ([s1.heap.objs.size] ++ Φ) m μ1 H1 { s1 with heap := s1.heap.push o } := F1.widen kp hF fun b q => by rw [List.mem_singleton.mp q]; exact al
 have rW := r1.step (widen_step (Φ := Φ) (μ := μ1) (H := H1) kp hF)
 have oldne : ∀ b ob, s.heap.get? b = some ob → b ≠ s1.heap.objs.size := fun b ob e q => by
  obtain ⟨o', e'⟩ := K1.alive b ob e
  rw [q, hf] at e'; cases e'
 have jo : s1.heap.objs.size ∉ Φ := fun q => by obtain ⟨_, ⟨o', e⟩, _⟩ := F1.inv.phi _ q; rw [hf] at e; cases e
 have jn : s1.heap.objs.size ∉ Fp env := fun q => jo (F1.fr.sub _ q)
 have K0 : Keep (s1.heap.objs.size :: Fp env) μ H s μ1 H1 { s1 with heap := s1.heap.push o } := (K1.trans (Keep.grow (t := s1.toks) kp)).weak fun b q => .inl (.tail _ q)
 refine codeAny_forLoop_any (I := LpSt W sc d env A Φ μ H s N J src sv s1.heap.objs.size) ?_ (N + 1) ⟨0, m, H1, μ1, rfl, hJ0, FW, K0, rW, st⟩
 rintro n s2 ⟨i, m2, H2, μ2, rfl, hJ, F2, K2, r2, st2⟩
 have fin : ∀ (b : AF) (v : Flow) m' H' μ' s' t h', Fm W sc d env A ([s1.heap.objs.size] ++ Φ) m' μ' H' s' → Keep (s1.heap.objs.size :: Fp env) μ H s μ' H' s' → FlR (cx ([s1.heap.objs.size] ++ Φ) μ' H' s'.heap) b v →
   (∀ b ob, b ≠ s1.heap.objs.size → s'.heap.get? b = some ob → h'.get? b = some ob) → Q b m' H' → JPost W env Φ μ H s FlR Q v { s' with heap := h', toks := t } := by
  intro b v m' H' μ' s' t h' F' K' r' ex q
  have F'' : Fm W sc d env A Φ m' μ' H' { s' with heap := h', toks := t } := Fm.off F' jo F.fr ex
  refine ⟨b, m', H', μ', ⟨K'.gens, K'.drawn, K'.os, fun b ob e => ?_, fun b ob e n p => ?_, K'.live, K'.mu⟩, F''.inv, F''.loc, r'.step (off_step (F'.inv.phi _ (.head _)).2.2 jo ex (Step.refl _)), q⟩
  ·obtain ⟨o', e'⟩ := K'.alive b ob e
   exact ⟨o', ex b o' (oldne b ob e) e'⟩
  ·exact ex b ob (oldne b ob e) (K'.keep b ob e n fun z => (List.mem_cons.mp z).elim (oldne b ob e) p)
 refine wpAny_mono (iter_next F2.a F2.inv (.head _) r2 st2 (hT i m2 H2 hJ) (Q := fun r s₁ => match r with
   | none => wpAny W.M A (execs [] env) (fun f s₃ => JPost W env Φ μ H s FlR Q f s₃) Bot s₁
   | some v => wpAny W.M A (letOwnedTupleGo target (.ref s1.heap.objs.size) v) (fun za s₁' =>
     wpAny W.M A (assign target env v) (fun za s₂ => wpAny W.M A (execs body env) (fun f s₃ => match f with
      | .next | .cont => ∃ m, m < N + 1 - i ∧ LpSt W sc d env A Φ μ H s N J src sv s1.heap.objs.size m s₃
      | .brk => JPost W env Φ μ H s FlR Q .next s₃
      | .ret v => JPost W env Φ μ H s FlR Q (.ret v) s₃) Bot s₂) Bot s₁') Bot s₁) ?_ ?_) ?_ fun za zb x => x.elim
 ·intro h' t ex q
  exact wpAny_execs_nil (fin .next .next m2 H2 μ2 s2 t h' F2 K2 rfl ex q)
 ·intro a v h' t ex al' st' ra q
  have F3 : Fm W sc d env A ([s1.heap.objs.size] ++ Φ) m2 μ2 H2 { s2 with heap := h', toks := t } := F2.poke (.head _) jn ex al'
  have K3 : Keep (s1.heap.objs.size :: Fp env) μ H s μ2 H2 { s2 with heap := h', toks := t } := K2.trans (Keep.poke (.head _) ex al')
  have r3 := r2.step (poke_step (Φ := [s1.heap.objs.size] ++ Φ) (μ := μ2) (H := H2) (.head _) ex)
  refine letGo st' ?_
  refine JPost.thenFm F3 (q env A _ μ2 _ v F3 ra) fun za s4 zb m4 H4 μ4 F4 K4 zc q4 => ?_
  refine JPost.thenFm F4 (q4 env A _ μ4 s4 F4) fun f s5 b m5 H5 μ5 F5 K5 r5 q5 => ?_
  have KK : Keep (Fp env) μ2 H2 { s2 with heap := h', toks := t } μ5 H5 s5 := K4.trans K5
  have K6 : Keep (s1.heap.objs.size :: Fp env) μ H s μ5 H5 s5 := K3.trans (KK.weak fun b q => .inl (.tail _ q))
  have jl : ¬ Live μ2 H2 s1.heap.objs.size := (F2.inv.phi _ (.head _)).2.2
  have again : J (i + 1) m5 H5 → ∃ m, m < N + 1 - i ∧ LpSt W sc d env A Φ μ H s N J src sv s1.heap.objs.size m s5 := fun hJ' =>
   ⟨N + 1 - (i + 1), Nat.sub_lt_sub_left (Nat.lt_succ_of_lt (hN _ _ _ hJ')) (Nat.lt_succ_self i), i + 1, m5, H5, μ5, rfl, hJ', F5, K6, r3.step (F3.stepF KK),
    ItSt.ext (F3.stepF KK) r3 (fun o e => KK.keep _ o e jl jn) st'⟩
  cases b with
  | next => cases r5; exact again q5
  | cont => cases r5; exact again q5
  | brk => cases r5; exact fin .next .next m5 H5 μ5 s5 s5.toks s5.heap F5 K6 rfl (fun za zb zc e => e) q5
  | ret a =>
   obtain ⟨u, rfl, ru⟩ := r5
   exact fin (.ret a) (.ret u) m5 H5 μ5 s5 s5.toks s5.heap F5 K6 ⟨u, rfl, ru⟩ (fun za zb zc e => e) q5
 ·intro r s₁ hr
  cases r with
  | none => exact wpAny_mono hr (fun za zb x => x) fun za zb x => x.elim
  | some v => exact wpAny_mono hr (fun za zb x => wpAny_mono x (fun za zb x => wpAny_mono x (fun za zb x => x) fun za zb x => x.elim) fun za zb x => x.elim) fun za zb x => x.elim
theorem S_while {test : Expr} {body : List Stmt} {pos : Pos} {Q : AF → Loc → List AObj → Prop} (N : Nat) (J : Nat → Loc → List AObj → Prop) (h0 : J N m H)
  (h : ∀ n m H, J n m H → Tv W sc d test m H fun b H1 => if b = true then Ss W sc d body m H1 fun f m2 H2 => match f with
   | .next | .cont => ∃ k, k < n ∧ J k m2 H2
   | .brk => Q .next m2 H2
   | .ret a => Q (.ret a) m2 H2 else Q .next m H1) : Sx W sc d (.While test body [] pos) m H Q := fun env A Φ μ s F => by
 refine wpAny_While (codeAny_whileLoop (I := WhSt W sc d env A Φ μ H s J) (fun n s1 ⟨m1, H1, μ1, hJ, F1, K1⟩ => ?_) N ⟨m, H, μ, h0, F, Keep.refl ..⟩)
 have key : wpAny W.M A (isTrue test env (eval test env)) (fun b s₂ => if b then wpAny W.M A (execs body env) (fun f s₃ => match f with
      | .next | .cont => ∃ m, m < n ∧ WhSt W sc d env A Φ μ H s J m s₃
      | .brk => JPost W env Φ μ H s FlR Q .next s₃
      | .ret v => JPost W env Φ μ H s FlR Q (.ret v) s₃) Bot s₂
    else wpAny W.M A (execs [] env) (fun f s₃ => JPost W env Φ μ H s FlR Q f s₃) Bot s₂) Bot s1 := by
  refine JPost.goE F1 (h n m1 H1 hJ env A Φ μ1 s1 F1) fun v s2 b H2 μ2 F2 K2 r2 q2 => by
   subst r2
   cases v with
   | false => exact wpAny_execs_nil (JPost.ofK (K1.trans K2) (JPost.here (b := AF.next) F2 rfl q2))
   | true =>
    refine JPost.thenFm F2 (q2 env A Φ μ2 s2 F2) fun f s5 b m5 H5 μ5 F5 K5 r5 q5 => ?_
    have K6 := (K1.trans K2).trans K5
    cases b with
    | next => cases r5; obtain ⟨k, hk, hJ'⟩ := q5; exact ⟨k, hk, m5, H5, μ5, hJ', F5, K6⟩
    | cont => cases r5; obtain ⟨k, hk, hJ'⟩ := q5; exact ⟨k, hk, m5, H5, μ5, hJ', F5, K6⟩
    | brk => cases r5; exact JPost.ofK K6 (JPost.here (b := AF.next) F5 rfl q5)
    | ret a => obtain ⟨u, rfl, ru⟩ := r5; exact JPost.ofK K6 (JPost.here (b := AF.ret a) F5 ⟨u, rfl, ru⟩ q5)
 refine wpAny_mono key (fun b s₂ hb => ?_) fun za zb x => x.elim
 cases b with
 | false => exact wpAny_mono hb (fun za zb x => x) fun za zb x => x.elim
 | true => exact wpAny_mono hb (fun za zb x => x) fun za zb x => x.elim
end
end Mine
set_option tactic.hygienic false
namespace Mine
noncomputable def relabS (sc scope : Scope) : Scope := { scope with names := scope.names.map fun (n, k) => if (k == .free && sc.kind == .function && sc.names.lookup n == some .cell) then (n, .cell) else (n, k) }
theorem relabel_eq {sc : Scope} {env : Env} (E : EnvOk sc env) (scope : Scope) : relabel scope env = relabS sc scope := by
 unfold relabel relabS Env.kindOf
 rw [E.scope]
noncomputable def compOk (sc scope : Scope) : Bool := scope.kind == .function && scope.names.all fun y => y.2 != .cell && (y.2 != .local || scope.names.lookup y.1 == some .local) &&
 (y.2 != .free || (scope.names.lookup y.1 == some .free && (sc.names.lookup y.1 == some .cell || sc.names.lookup y.1 == some .free)))
noncomputable def compLoc (sc scope : Scope) (m : Loc) : Loc := fun x => if (scope.names.lookup x == some .free) = true then m x else none
theorem lookup_relab {sc : Scope} {x : Str} : ∀ {names : List (Str × NameKind)}, (names.map fun (n, k) => if (k == NameKind.free && sc.kind == .function && sc.names.lookup n == some .cell) then (n, NameKind.cell) else (n, k)).lookup x =
  (names.lookup x).map fun k => if (k == NameKind.free && sc.kind == .function && sc.names.lookup x == some .cell) = true then NameKind.cell else k
 | [] => rfl
 | (n, k) :: r => by
  have ih := @lookup_relab sc x r
  rw [List.map_cons]
  by_cases hx : x = n
  ·subst hx
   have e : ∀ q : NameKind, ((if (k == NameKind.free && sc.kind == .function && sc.names.lookup x == some .cell) = true then (x, NameKind.cell) else (x, k)) : Str × NameKind) = (x, if (k == NameKind.free && sc.kind == .function && sc.names.lookup x == some .cell) = true then NameKind.cell else k) := fun q => by split <;> rfl
   show List.lookup x ((if (k == NameKind.free && sc.kind == .function && sc.names.lookup x == some .cell) = true then (x, NameKind.cell) else (x, k)) :: _) = _
   rw [e k]
   simp
  ·have hb : (x == n) = false := beq_eq_false_iff_ne.mpr hx
   show List.lookup x ((if (k == NameKind.free && sc.kind == .function && sc.names.lookup n == some .cell) = true then (n, NameKind.cell) else (n, k)) :: _) = _
   rw [List.lookup_cons (a := x) (as := r), hb]
   split <;> (rw [List.lookup_cons, hb]; exact ih)
inductive ClOf (env : Env) (names : List (Str × NameKind)) (cs : List (Str × Addr)) (t : Sem (List (Str × Addr))) : Prop where
 | mk (cl : List (Str × Addr)) (h1 : t = pure cl) (h2 : ∀ p, p ∈ cl → env.cells.lookup p.1 = some p.2) (h3 : ∀ y, (∃ c, cs.lookup y = some c) → ∃ c, cl.lookup y = some c) (h4 : ∀ y, y ∈ names → y.2 = .free → ∃ c, cl.lookup y.1 = some c) (h5 : ∀ p, p ∈ cl → p ∈ cs ∨ (p.1, NameKind.free) ∈ names)
theorem clOf {env : Env} : ∀ (names : List (Str × NameKind)) (cs : List (Str × Addr)), (∀ y, y ∈ names → y.2 = .free → ∃ c, env.cells.lookup y.1 = some c) → (∀ p, p ∈ cs → env.cells.lookup p.1 = some p.2) →
  ClOf env names cs (forIn names cs fun (x : Str × NameKind) (r : List (Str × Addr)) => (match x with
    | (name, kind) => if (kind == NameKind.free) = true then do let c ← cellOf env name; pure (ForInStep.yield ((name, c) :: r)) else pure (ForInStep.yield r) : Sem (ForInStep (List (Str × Addr))))) := by
 intro names
 induction names with
 | nil => exact fun cs za hc => ⟨cs, rfl, hc, fun za q => q, (fun za q => nomatch q), fun za q => .inl q⟩
 | cons y r ih =>
  intro cs hn hc
  rw [List.forIn_cons]
  dsimp only
  by_cases hk : y.2 = .free
  ·refine (hn y (.head _) hk).elim fun c e => ?_
   have ec : cellOf env y.1 = pure c := by unfold cellOf; rw [e]
   rw [if_pos (by rw [hk]; rfl), ec]
   obtain ⟨cl, h1, h2, h3, h4, h5⟩ := ih ((y.1, c) :: cs) (fun y q => hn y (.tail _ q)) (memC e hc)
   have h0 : ∀ x, (x = y.1 ∨ ∃ c, cs.lookup x = some c) → ∃ c, cl.lookup x = some c := fun x q => h3 x (by
    rw [List.lookup_cons]
    by_cases z : (x == y.1) = true
    ·rw [z]; exact ⟨_, rfl⟩
    ·rw [Bool.eq_false_iff.mpr z]; exact q.elim (fun q => absurd (beq_iff_eq.mpr q) z) id)
   exact ⟨cl, h1, h2, fun x q => h0 x (.inr q), fun x q f => (List.mem_cons.mp q).elim (fun q => h0 _ (.inl (q ▸ rfl))) fun q => h4 x q f,
    fun p q => (h5 p q).elim (fun z => (List.mem_cons.mp z).elim (fun z => .inr (by rw [z, ← hk]; exact .head _)) .inl) fun z => .inr (.tail _ z)⟩
  ·rw [if_neg (by simpa using hk)]
   obtain ⟨cl, h1, h2, h3, h4, h5⟩ := ih cs (fun y q => hn y (.tail _ q)) hc
   exact ⟨cl, h1, h2, h3, fun x q f => (List.mem_cons.mp q).elim (fun q => absurd (q ▸ f) hk) fun q => h4 x q f, fun p q => (h5 p q).imp id fun z => .tail _ z⟩
theorem closureFor_of {env : Env} {scope : Scope} (h : ∀ y, y ∈ scope.names → y.2 = .free → ∃ c, env.cells.lookup y.1 = some c) :
  ∃ cl, closureFor scope env = pure cl ∧ (∀ p, p ∈ cl → env.cells.lookup p.1 = some p.2) ∧ (∀ y, y ∈ scope.names → y.2 = .free → ∃ c, cl.lookup y.1 = some c) ∧ (∀ p, p ∈ cl → (p.1, NameKind.free) ∈ scope.names) := by
 obtain ⟨cl, h1, h2, _, h4, h5⟩ := clOf scope.names [] h fun za q => nomatch q
 refine ⟨cl, ?_, h2, h4, fun p q => (h5 p q).elim (fun z => nomatch z) id⟩
 unfold closureFor
 exact (bind_congr (fun za => rfl)).trans (congrArg (· >>= fun r => pure r) h1)
section
variable {W : Wd} {sc scope : Scope} {d : Nat} {env : Env} {A : Around} {Φ Ψ : List Addr} {m m' : Loc} {μ μ' : List (Addr × Addr)} {H H' : List AObj} {s s' : Shared}
noncomputable def CpIfs (W : Wd) (sc : Scope) (d : Nat) (ifs : List Expr) (m : Loc) (H : List AObj) (Q : Bool → List AObj → Prop) : Prop := match ifs with
 | [] => Q true H
 | [c] => Tv W sc d c m H Q
 | _ => False
noncomputable def CpLp (W : Wd) (sc : Scope) (d : Nat) (body : Loc → List AObj → List V → (List AObj → List V → Prop) → Prop) (g : Comprehension) (src : V) (m : Loc) (H : List AObj) (xs : List V) (Q : List AObj → List V → Prop) : Prop :=
 SrcOk src H ∧ ∃ x px, g.target = .Name x px ∧ sc.names.lookup x = some .local ∧ m x = none ∧ ∃ N, ∃ J : Nat → List AObj → List V → Prop, J 0 H xs ∧ (∀ i H xs, J i H xs → i ≤ N) ∧
  ∀ i H xs, J i H xs → Nx src H i fun o => match o with
   | none => Q H xs
   | some a => CpIfs W sc d g.ifs (m.put x a) H fun b H2 => if b = true then body (m.put x a) H2 xs (J (i + 1)) else J (i + 1) H2 xs
noncomputable def CpIn (W : Wd) (sc : Scope) (d : Nat) (elt : Expr) : List Comprehension → Loc → List AObj → List V → (List AObj → List V → Prop) → Prop
 | [], m, H, xs, Q => Ev W sc d elt m H fun a H1 => xs.length ≤ 1000000 ∧ Q H1 (xs ++ [a])
 | g :: gs, m, H, xs, Q => Ev W sc d g.iter m H fun src H1 => CpLp W sc d (CpIn W sc d elt gs) g src m H1 xs Q
theorem CpIfs_n {Q : Bool → List AObj → Prop} : CpIfs W sc d [] m H Q = Q true H := rfl
theorem CpIfs_o {c : Expr} {Q : Bool → List AObj → Prop} : CpIfs W sc d [c] m H Q = Tv W sc d c m H Q := rfl
theorem CpIn_n {elt : Expr} {xs : List V} {Q : List AObj → List V → Prop} : CpIn W sc d elt [] m H xs Q = Ev W sc d elt m H fun a H1 => xs.length ≤ 1000000 ∧ Q H1 (xs ++ [a]) := rfl
theorem compTurn_at {elt : Expr} {gens : List Comprehension} {scope : Scope} {pos : Pos} {depth : Nat} {it acc : Value} {env : Env} {g : Comprehension} (hg : gens[depth]? = some g) (ha : g.is_async = 0) :
  compTurn (.ListComp elt gens scope pos) depth it acc env = (do
   standAt g.iter.pos
   match ← pyNext it with
   | none => pure (.done .next)
   | some v =>
    letOwnedTupleGo g.target it v
    assign g.target env v
    let ok ← forIn g.ifs true fun c r => if r = true then do let ok ← isTrue c env (eval c env); pure (ForInStep.yield ok) else pure (ForInStep.yield r)
    if ok then
     match gens[depth + 1]? with
     | some g' =>
      let x ← eval g'.iter env
      standAt g'.iter.pos
      let x ← if g'.is_async != 0 then foldedIterable g'.iter x else foldedSetIterable g'.iter env x
      let _ ← runOwn (.compStart (.ListComp elt gens scope pos) (depth + 1) (← holding [x] (if g'.is_async != 0 then asyncIter x else pyIter x)) acc env) env
     | none => (do let _ ← call (.builtin "list.append") [acc, ← eval elt env])
    again (.compLoop (.ListComp elt gens scope pos) depth it acc env)) := by
 have cX : True := trivial
 revert elt gens scope pos depth it acc env g hg ha
 rintro elt gens scope pos depth it acc env g hg ha
 unfold compTurn
 simp only [hg, ha]
 rfl
noncomputable def Acc (Φ : List Addr) (μ : List (Addr × Addr)) (H : List AObj) (h : Heap) (D : Addr) (xs : List V) : Prop := ∃ vs, LstAt h D vs ∧ VRs (cx Φ μ H h) xs vs
theorem Acc.step {Φ' μ H μ' H' h h' D xs} (S : Step (cx Φ μ H h) (cx Φ' μ' H' h')) (k : ∀ o, h.get? D = some o → h'.get? D = some o) (x : Acc Φ μ H h D xs) : Acc Φ' μ' H' h' D xs :=
 let ⟨vs, ⟨n, g⟩, r⟩ := x; ⟨vs, ⟨n, k _ g⟩, r.step S⟩
inductive CpEnd (W : Wd) (sc : Scope) (d : Nat) (env : Env) (A : Around) (Φ : List Addr) (m : Loc) (J D : Addr) (μ : List (Addr × Addr)) (H : List AObj) (s : Shared) (Q : List AObj → List V → Prop) (s' : Shared) : Prop where
 | mk (H' : List AObj) (μ' : List (Addr × Addr)) (xs : List V) (K : Keep (J :: D :: Fp env) μ H s μ' H' s') (F : Fm W sc d env A Φ m μ' H' s') (a : Acc Φ μ' H' s'.heap D xs) (q : Q H' xs)
inductive CpIe (W : Wd) (sc : Scope) (d : Nat) (env : Env) (A : Around) (Φ : List Addr) (m : Loc) (D : Addr) (μ : List (Addr × Addr)) (H : List AObj) (s : Shared) (Q : List AObj → List V → Prop) (s' : Shared) : Prop where
 | mk (H' : List AObj) (μ' : List (Addr × Addr)) (xs : List V) (K : Keep (D :: Fp env) μ H s μ' H' s') (F : Fm W sc d env A Φ m μ' H' s') (a : Acc Φ μ' H' s'.heap D xs) (q : Q H' xs)
inductive CpSt (W : Wd) (sc : Scope) (d : Nat) (env : Env) (A : Around) (Φ : List Addr) (m : Loc) (J D : Addr) (μ : List (Addr × Addr)) (H : List AObj) (s : Shared) (N : Nat) (I : Nat → List AObj → List V → Prop) (src : V) (sv : Value) (n : Nat) (s' : Shared) : Prop where
 | mk (i : Nat) (H' : List AObj) (μ' : List (Addr × Addr)) (xs : List V) (e : n = N + 1 - i) (q : I i H' xs) (K : Keep (J :: D :: Fp env) μ H s μ' H' s') (F : Fm W sc d env A (J :: Φ) m μ' H' s') (a : Acc (J :: Φ) μ' H' s'.heap D xs) (r : VR (cx (J :: Φ) μ' H' s'.heap) src sv) (st : ItSt src sv i J s'.heap)
theorem CpEnd.el {G : Prop} {J D : Addr} {Q : List AObj → List V → Prop} (h : ∀ H' μ' xs, Keep (J :: D :: Fp env) μ H s μ' H' s' → Fm W sc d env A Φ m μ' H' s' → Acc Φ μ' H' s'.heap D xs → Q H' xs → G) : CpEnd W sc d env A Φ m J D μ H s Q s' → G := fun ⟨a, b, c, e, f, g, i⟩ => h a b c e f g i
theorem CpIe.el {G : Prop} {D : Addr} {Q : List AObj → List V → Prop} (h : ∀ H' μ' xs, Keep (D :: Fp env) μ H s μ' H' s' → Fm W sc d env A Φ m μ' H' s' → Acc Φ μ' H' s'.heap D xs → Q H' xs → G) : CpIe W sc d env A Φ m D μ H s Q s' → G := fun ⟨a, b, c, e, f, g, i⟩ => h a b c e f g i
theorem CpSt.el {G : Prop} {J D : Addr} {N n : Nat} {I : Nat → List AObj → List V → Prop} {src : V} {sv : Value} (h : ∀ i H' μ' xs, n = N + 1 - i → I i H' xs → Keep (J :: D :: Fp env) μ H s μ' H' s' → Fm W sc d env A (J :: Φ) m μ' H' s' → Acc (J :: Φ) μ' H' s'.heap D xs → VR (cx (J :: Φ) μ' H' s'.heap) src sv → ItSt src sv i J s'.heap → G) : CpSt W sc d env A Φ m J D μ H s N I src sv n s' → G := fun ⟨a, b, c, e, f, g, i, j, k, l, o⟩ => h a b c e f g i j k l o
theorem wpAny_ifs {ifs : List Expr} {Q : Bool → List AObj → Prop} {R : Bool → Shared → Prop} (h : CpIfs W sc d ifs m H Q) (F : Fm W sc d env A Φ m μ H s)
  (k : ∀ b s1 H1 μ1, Fm W sc d env A Φ m μ1 H1 s1 → Keep (Fp env) μ H s μ1 H1 s1 → Q b H1 → R b s1) :
  wpAny W.M A (forIn ifs true fun c r => if r = true then do let ok ← isTrue c env (eval c env); pure (ForInStep.yield ok) else pure (ForInStep.yield r)) R Bot s := by
 match ifs, h with
 | [], h => exact wpAny_tests_nil (k true s H μ F (Keep.refl ..) h)
 | [c], h =>
  exact wpAny_tests_one (JPost.goE F (h env A Φ μ s F) fun v s1 b H1 μ1 F1 K1 r1 q1 => by subst r1; exact k _ s1 H1 μ1 F1 K1 q1)
theorem comp_start {elt : Expr} {gens : List Comprehension} {scope : Scope} {pos : Pos} {depth : Nat} {J : Addr} {src : V} {sv acc : Value} {env : Env} {R : Result → Shared → Prop} {i : Nat} {g : Comprehension} (hg : gens[depth]? = some g) (ha : g.is_async = 0)
  (st : ItSt src sv i J s.heap) (h : codeAny W.M A (.compLoop (.ListComp elt gens scope pos) depth (.ref J) acc env) R s) : codeAny W.M A (.compStart (.ListComp elt gens scope pos) depth (.ref J) acc env) R s := by
 have cX : True := trivial
 revert W A s elt gens scope pos depth J src sv acc env R i g hg ha st h
 rintro W A s elt gens scope pos depth J src sv acc env R i g hg ha st h
 have self : ∀ {Q : Value → Shared → Prop} {E : Value → Shared → Prop}, Q (.ref J) s → wpAny W.M A (pyIter (.ref J)) Q E s := by
  rintro Q E q
  cases src with
  | lst xs => obtain ⟨a, _, it⟩ := st; exact wpAny_pyIter_listiter it q
  | ref k => obtain ⟨a, _, it⟩ := st; exact wpAny_pyIter_listiter it q
  | rng n => exact wpAny_pyIter_rangeiter st q
  | dct ks vs => obtain ⟨a, es, ep, _, _, it⟩ := st; exact wpAny_pyIter_keyiter it q
  | vals xs => obtain ⟨a, b, es, ep, _, _, _, it⟩ := st; exact wpAny_pyIter_valiter it q
  | _ => exact st.elim
 refine codeAny_of_tree ?_
 show wpAny _ _ ((compStart (.ListComp elt gens scope pos) depth (.ref J) acc env).onRaise (fun x => do noteFrame x env; standAt theWindowsPlace)) _ _ s
 refine wpAny_notedAt ?_
 unfold compStart
 have hc : (clausesOf (.ListComp elt gens scope pos))[depth]? = some g := hg
 rw [hc]
 simp only [Option.elim_some, ha, bne_self_eq_false, Bool.false_eq_true, if_false]
 refine wpAny_bind (wpAny_askSetting (wpAny_ite ?_))
 split
 ·exact wpAny_bind (wpAny_pure (wpAny_pure (And.intro rfl h)))
 ·refine wpAny_bind (wpAny_rule (wpAny_bind (wpAny_standAt (wpAny_bind (self (wpAny_pure (And.intro rfl h)))))))
noncomputable def innerOf (elt : Expr) (gens : List Comprehension) (scope : Scope) (pos : Pos) (depth : Nat) (acc : Value) (env : Env) : Sem Unit := match gens[depth + 1]? with
 | some g' => do
  let x ← eval g'.iter env
  standAt g'.iter.pos
  let x ← if g'.is_async != 0 then foldedIterable g'.iter x else foldedSetIterable g'.iter env x
  let _ ← runOwn (.compStart (.ListComp elt gens scope pos) (depth + 1) (← holding [x] (if g'.is_async != 0 then asyncIter x else pyIter x)) acc env) env
 | none => (do let _ ← call (.builtin "list.append") [acc, ← eval elt env])
theorem compTurn_in {elt : Expr} {gens : List Comprehension} {scope : Scope} {pos : Pos} {depth : Nat} {it acc : Value} {env : Env} {g : Comprehension} (hg : gens[depth]? = some g) (ha : g.is_async = 0) :
  compTurn (.ListComp elt gens scope pos) depth it acc env = (do
   standAt g.iter.pos
   match ← pyNext it with
   | none => pure (.done .next)
   | some v =>
    letOwnedTupleGo g.target it v
    assign g.target env v
    let ok ← forIn g.ifs true fun c r => if r = true then do let ok ← isTrue c env (eval c env); pure (ForInStep.yield ok) else pure (ForInStep.yield r)
    if ok then innerOf elt gens scope pos depth acc env
    again (.compLoop (.ListComp elt gens scope pos) depth it acc env)) := by
 have cX : True := trivial
 revert elt gens scope pos depth it acc env g hg ha
 rintro elt gens scope pos depth it acc env g hg ha
 rw [compTurn_at hg ha]
 unfold innerOf
 cases gens[depth + 1]? with
 | none => rfl
 | some g' =>
  dsimp only
  refine bind_congr fun za => bind_congr ?_
  rintro r
  cases r with
  | none => rfl
  | some v =>
   refine bind_congr fun za => bind_congr fun za => bind_congr ?_
   rintro ok
   cases ok with
   | false => rfl
   | true =>
    simp only [if_true, bind_assoc]
    refine bind_congr fun za => bind_congr ?_
    rintro _
    split <;> simp only [bind_assoc, pure_bind]
noncomputable def Inner (W : Wd) (sc : Scope) (d : Nat) (elt : Expr) (gens : List Comprehension) (scope : Scope) (pos : Pos) (depth : Nat) (gs : List Comprehension) : Prop :=
 ∀ (env : Env) (A : Around) (Φ : List Addr) (μ : List (Addr × Addr)) (m : Loc) (H : List AObj) (s : Shared) (D : Addr) (xs : List V) (Q : List AObj → List V → Prop),
  Fm W sc d env A Φ m μ H s → D ∈ Φ → D ∉ Fp env → Acc Φ μ H s.heap D xs → CpIn W sc d elt gs m H xs Q → wpAny W.M A (innerOf elt gens scope pos depth (.ref D) env) (fun za s' => CpIe W sc d env A Φ m D μ H s Q s') Bot s
noncomputable def Loop (W : Wd) (sc : Scope) (d : Nat) (elt : Expr) (gens : List Comprehension) (scope : Scope) (pos : Pos) (depth : Nat) (g : Comprehension) (gs : List Comprehension) : Prop :=
 ∀ (env : Env) (A : Around) (Φ : List Addr) (μ0 : List (Addr × Addr)) (H0 : List AObj) (s0 : Shared) (μ : List (Addr × Addr)) (m : Loc) (H : List AObj) (s : Shared) (J D : Addr) (sv : Value) (src : V) (xs : List V) (Q : List AObj → List V → Prop),
   s0.heap.get? J = none → Keep (J :: D :: Fp env) μ0 H0 s0 μ H s → Fm W sc d env A (J :: Φ) m μ H s → J ∉ Φ → FrameOk env Φ → D ∈ Φ → D ∉ Fp env → Acc (J :: Φ) μ H s.heap D xs → VR (cx (J :: Φ) μ H s.heap) src sv → ItSt src sv 0 J s.heap →
   CpLp W sc d (CpIn W sc d elt gs) g src m H xs Q → codeAny W.M A (.compLoop (.ListComp elt gens scope pos) depth (.ref J) (.ref D) env) (fun r s' => r = .ok .next ∧ CpEnd W sc d env A Φ m J D μ0 H0 s0 Q s') s
theorem inner_nil {elt : Expr} {gens : List Comprehension} {scope : Scope} {pos : Pos} {depth : Nat} (hg : gens[depth + 1]? = none) : Inner W sc d elt gens scope pos depth [] := by
 have cX : True := trivial
 revert W sc d elt gens scope pos depth hg
 rintro W sc d elt gens scope pos depth hg
 rintro env A Φ μ m H s D xs Q F hD hDn hacc hc
 have hc' : Ev W sc d elt m H fun a H1 => xs.length ≤ 1000000 ∧ Q H1 (xs ++ [a]) := hc
 unfold innerOf
 rw [hg]
 refine wpAny_bind (JPost.goE F (hc' env A Φ μ s F) fun v5 s5 y H5 μ5 F5 K5 r5 ⟨hlen, q6⟩ => ?_)
 have dl : ¬ Live μ H D := (F.inv.phi _ hD).2.2
 have S5 := F.stepF K5
 obtain ⟨vs, ⟨n, g5⟩, rr⟩ := hacc.step S5 fun o e => K5.keep _ o e dl hDn
 refine wpAny_bind (wpAny_list_append_plain (hsz := by rw [List.size_toArray, rr.length, sizeLine_eq]; lia) ⟨n, g5⟩ fun h6 ⟨n6, g6⟩ hs6 => ?_)
 have ex6 := Heap.SameBut.ext hs6
 have S6 := poke_step (Φ := Φ) (μ := μ5) (H := H5) hD ex6
 exact wpAny_pure ⟨H5, μ5, xs ++ [y], (K5.weak fun b q => .inl (.tail _ q)).trans (Keep.poke (t := s5.toks) (.head _) ex6 ⟨_, g6⟩), F5.poke (t := s5.toks) hD hDn ex6 ⟨_, g6⟩, ⟨vs ++ [v5], ⟨n6, by rw [g6]; simp⟩, (rr.step S6).push (r5.step S6)⟩, q6⟩
theorem loop_of {elt : Expr} {gens : List Comprehension} {scope : Scope} {pos : Pos} {depth : Nat} {g : Comprehension} {gs : List Comprehension} (hg : gens[depth]? = some g) (has : g.is_async = 0) (inn : Inner W sc d elt gens scope pos depth gs) : Loop W sc d elt gens scope pos depth g gs := by
 have cX : True := trivial
 revert W sc d elt gens scope pos depth g gs hg has inn
 rintro W sc d elt gens scope pos depth g gs hg has inn
 rintro env A Φ μ0 H0 s0 μ m H s J D sv src xs Q hJ0 K0 F hJ hfr hD hDn hacc hsrc hst hc
 obtain ⟨ok, x, px, ht, hx, hmx, N, I, hI0, hIN, hT⟩ := hc
 have hDJ : D ≠ J := fun q => hJ (q ▸ hD)
 have hJn : J ∉ Fp env := fun q => hJ (hfr.sub _ q)
 refine codeAny_loop (I := CpSt W sc d env A Φ m J D μ0 H0 s0 N I src sv) rfl (fun n s1 ⟨i, H1, μ1, xs1, hn, hI, K1, F1, a1, r1, st1⟩ => ?_) (N + 1) ⟨0, H, μ, xs, rfl, hI0, K0, F, hacc, hsrc, hst⟩
 subst hn
 show wpAny _ A ((compTurn (.ListComp elt gens scope pos) depth (.ref J) (.ref D) env).onRaise (fun x => do noteFrame x env; theTreesLotGoes x)) _ _ s1
 refine wpAny_noted (wpAny_mono (E := Bot) ?_ (fun za zb x => x) fun za zb x => x.elim)
 rw [compTurn_in hg has]
 refine wpAny_bind (wpAny_standAt (wpAny_bind ?_))
 refine iter_next F1.a F1.inv (.head _) r1 st1 (hT i H1 xs1 hI) (fun h' t ex q => ?_) fun a v h' t ex al st' ra q => ?_
 ·have oldne : ∀ b ob, s0.heap.get? b = some ob → b ≠ J := fun b ob e q => by rw [q, hJ0] at e; cases e
  refine wpAny_pure ⟨rfl, H1, μ1, xs1, ⟨K1.gens, K1.drawn, K1.os, fun b ob e => ?_, fun b ob e n p => ?_, K1.live, K1.mu⟩, F1.off hJ hfr ex, a1.step (off_step (F1.inv.phi _ (.head _)).2.2 hJ ex (Step.refl _)) fun o e => ex _ _ hDJ e, q⟩
  ·obtain ⟨o', e'⟩ := K1.alive b ob e
   exact ⟨o', ex b o' (oldne b ob e) e'⟩
  ·exact ex b ob (oldne b ob e) (K1.keep b ob e n p)
 ·have F2 : Fm W sc d env A (J :: Φ) m μ1 H1 { s1 with heap := h', toks := t } := F1.poke (.head _) hJn ex al
  have K2 : Keep (J :: D :: Fp env) μ0 H0 s0 μ1 H1 { s1 with heap := h', toks := t } := K1.trans (Keep.poke (.head _) ex al)
  have S2 := poke_step (Φ := J :: Φ) (μ := μ1) (H := H1) (.head _) ex
  have r2 := r1.step S2
  have a2 := a1.step S2 fun o e => ex _ _ hDJ e
  refine wpAny_bind (letGo st' (wpAny_bind ?_))
  rw [ht]
  refine wpAny_assign_Name (JPost.goE F2 (storeLocal (a := a) (Q := fun m' H' => m' = m.put x a ∧ H' = H1) hx F2 ra ⟨rfl, rfl⟩) fun za s3 zb H3 μ3 F3 K3 zc e2 => ?_)
  subst e2
  refine wpAny_bind (wpAny_ifs q F3 fun b s4 H4 μ4 F4 K4 q4 => ?_)
  have sub : ∀ y b, m y = some b → (m.put x a) y = some b := fun y b e => by
   unfold Loc.put
   by_cases z : y = x
   ·rw [z, hmx] at e; cases e
   ·rw [if_neg z]; exact e
  have jl : ¬ Live μ1 H3 J := (F1.inv.phi _ (.head _)).2.2
  have dl : ¬ Live μ1 H3 D := (F1.inv.phi _ (.tail _ hD)).2.2
  have KK := K3.trans K4
  have S4 := F2.stepF KK
  have st4 := ItSt.ext S4 r2 (fun o e => KK.keep _ o e jl hJn) st'
  have r4 := r2.step S4
  have a4 := a2.step S4 fun o e => KK.keep _ o e dl hDn
  have K4' : Keep (J :: D :: Fp env) μ0 H0 s0 μ4 H4 s4 := K2.trans (KK.weak fun b q => .inl (.tail _ (.tail _ q)))
  cases b with
  | false =>
   have q5 : I (i + 1) H4 xs1 := q4
   exact wpAny_pure ⟨rfl, N + 1 - (i + 1), Nat.sub_lt_sub_left (Nat.lt_succ_of_lt (hIN _ _ _ q5)) (Nat.lt_succ_self i), i + 1, H4, μ4, xs1, rfl, q5, K4', ⟨F4.en, F4.fr, F4.a, F4.inv, F4.loc.sub sub⟩, a4, r4, st4⟩
  | true =>
   have q5 : CpIn W sc d elt gs (m.put x a) H4 xs1 (I (i + 1)) := q4
   have jl4 : ¬ Live μ4 H4 J := (F4.inv.phi _ (.head _)).2.2
   refine wpAny_bind (wpm (inn env A (J :: Φ) μ4 (m.put x a) H4 s4 D xs1 _ F4 (.tail _ hD) hDn a4 q5) (fun za s5 ⟨H5, μ5, xs5, K5, F5, a5, q6⟩ => ?_))
   have S5 : Step (cx (J :: Φ) μ4 H4 s4.heap) (cx (J :: Φ) μ5 H5 s5.heap) := K5.step fun b q => by
    rcases List.mem_cons.mp q with rfl | q
    ·exact .tail _ hD
    ·exact F4.fr.sub _ q
   exact wpAny_pure ⟨rfl, N + 1 - (i + 1), Nat.sub_lt_sub_left (Nat.lt_succ_of_lt (hIN _ _ _ q6)) (Nat.lt_succ_self i), i + 1, H5, μ5, xs5, rfl, q6, K4'.trans (K5.weak fun b q => .inl (.tail _ q)), ⟨F5.en, F5.fr, F5.a, F5.inv, F5.loc.sub sub⟩, a5, r4.step S5,
    ItSt.ext S5 r4 (fun o e => K5.keep _ o e jl4 fun q => (List.mem_cons.mp q).elim (fun z => hDJ z.symm) hJn) st4⟩
theorem inner_cons {elt : Expr} {gens : List Comprehension} {scope : Scope} {pos : Pos} {depth : Nat} {g : Comprehension} {gs : List Comprehension} (hg : gens[depth + 1]? = some g) (ha : g.is_async = 0) (hf : ∀ env x, foldedSetIterable g.iter env x = pure x)
  (lp : Loop W sc d elt gens scope pos (depth + 1) g gs) : Inner W sc d elt gens scope pos depth (g :: gs) := by
 have cX : True := trivial
 revert W sc d elt gens scope pos depth g gs hg ha hf lp
 rintro W sc d elt gens scope pos depth g gs hg ha hf lp
 rintro env A Φ μ m H s D xs Q F hD hDn hacc hc
 have hc' : Ev W sc d g.iter m H fun src H1 => CpLp W sc d (CpIn W sc d elt gs) g src m H1 xs Q := hc
 unfold innerOf
 rw [hg]
 simp only [ha, bne_self_eq_false, Bool.false_eq_true, if_false]
 refine wpAny_bind (JPost.goE F (hc' env A Φ μ s F) fun sv s1 src H1 μ1 F1 K1 r1 q1 => ?_)
 refine wpAny_bind (wpAny_standAt (wpAny_bind (wpAny_of_eq (hf env sv) (wpAny_bind (wpAny_holding (iter_start F1.inv r1 q1.1 fun o hfr st => ?_))))))
 have hfz : s1.heap.get? s1.heap.objs.size = none := get_size _
 have kp : ∀ b ob, s1.heap.get? b = some ob → (s1.heap.push o).get? b = some ob := push_keeps o
 have hF : ∀ b, b ∈ [s1.heap.objs.size] → s1.heap.get? b = none := fun b q => by rw [List.mem_singleton.mp q]; exact hfz
 have FW : Fm W sc d env A ([s1.heap.objs.size] ++ Φ) m μ1 H1 { s1 with heap := s1.heap.push o } := F1.widen kp hF fun b q => by rw [List.mem_singleton.mp q]; exact ⟨_, Heap.get?_push_size _ hfr⟩
 have SW := widen_step (Φ := Φ) (μ := μ1) (H := H1) kp hF
 have jo : s1.heap.objs.size ∉ Φ := fun q => by obtain ⟨_, ⟨o', e⟩, _⟩ := F1.inv.phi _ q; rw [hfz] at e; cases e
 have hs0 : s.heap.get? s1.heap.objs.size = none := by
  cases e : s.heap.get? s1.heap.objs.size with
  | none => rfl
  | some o => obtain ⟨o', e'⟩ := K1.alive _ _ e; rw [hfz] at e'; cases e'
 have dl : ¬ Live μ H D := (F.inv.phi _ hD).2.2
 have a1 := hacc.step (F.stepF K1) fun o e => K1.keep _ o e dl hDn
 have K0 : Keep (s1.heap.objs.size :: D :: Fp env) μ H s μ1 H1 { s1 with heap := s1.heap.push o } := (K1.trans (Keep.grow (t := s1.toks) kp)).weak fun b q => .inl (.tail _ (.tail _ q))
 refine wpAny_bind (wpAny_runOwn (comp_start hg ha st (codeAny_mono (lp env A Φ μ H s μ1 m H1 _ s1.heap.objs.size D sv src xs Q hs0 K0 FW jo F1.fr hD hDn (a1.step SW fun o e => kp _ _ e) (r1.step SW) st q1) fun r s' ⟨er, H', μ', xs', K', F', a', q'⟩ => ?_)))
 subst er
 refine wpAny_pure ⟨H', μ', xs', K'.weak fun b q => ?_, F', a', q'⟩
 rcases List.mem_cons.mp q with rfl | q
 ·exact .inr hs0
 ·exact .inl q
theorem loops {elt : Expr} {gens : List Comprehension} {scope : Scope} {pos : Pos} (has : ∀ g, g ∈ gens → g.is_async = 0) (hfs : ∀ g, g ∈ gens → ∀ env x, foldedSetIterable g.iter env x = pure x) :
  ∀ (gs : List Comprehension) (g : Comprehension) (depth : Nat), gens.drop depth = g :: gs → Loop W sc d elt gens scope pos depth g gs := by
 intro gs
 induction gs with
 | nil =>
  intro g depth hd
  have hg : gens[depth]? = some g := by have := congrArg (·[0]?) hd; simpa using this
  have hg1 : gens[depth + 1]? = none := by have := congrArg (·[1]?) hd; simpa using this
  exact loop_of hg (has g (List.mem_of_getElem? hg)) (inner_nil hg1)
 | cons g2 gs ih =>
  intro g depth hd
  have hg : gens[depth]? = some g := by have := congrArg (·[0]?) hd; simpa using this
  have hg1 : gens[depth + 1]? = some g2 := by have := congrArg (·[1]?) hd; simpa using this
  have hd1 : gens.drop (depth + 1) = g2 :: gs := by
   have := congrArg (·.drop 1) hd
   simpa [List.drop_drop] using this
  exact loop_of hg (has g (List.mem_of_getElem? hg)) (inner_cons hg1 (has g2 (List.mem_of_getElem? hg1)) (hfs g2 (List.mem_of_getElem? hg1)) (ih g2 (depth + 1) hd1))
end
end Mine
set_option tactic.hygienic false
namespace Mine
section
variable {W : Wd} {sc scope : Scope} {d : Nat} {env : Env} {A : Around} {Φ Ψ : List Addr} {m m' : Loc} {μ μ' : List (Addr × Addr)} {H H' : List AObj} {s s' : Shared}
noncomputable def Cps (W : Wd) (sc : Scope) (d : Nat) (elt : Expr) (g : Comprehension) (gs : List Comprehension) (scope : Scope) (m : Loc) (H : List AObj) (Q : List AObj → List V → Prop) : Prop :=
 Ev W sc d g.iter m H fun src H1 => CpLp W (relabS sc scope) d (CpIn W (relabS sc scope) d elt gs) g src (compLoc sc scope m) H1 [] Q
set_option tactic.hygienic true in
theorem comp_core {elt : Expr} {g : Comprehension} {gs : List Comprehension} {pos p : Pos} {use : Option (Value → Sem Unit)} {R : Value → Shared → Prop} {Q : List AObj → List V → Prop}
  (has : ∀ x, x ∈ g :: gs → x.is_async = 0) (hfs : ∀ x, x ∈ g :: gs → ∀ env y, foldedSetIterable x.iter env y = pure y) (ok : compOk sc scope = true) (F : Fm W sc d env A Φ m μ H s) (hc : Cps W sc d elt g gs scope m H Q)
  (k : ∀ C D s' H' μ' xs mC, C ≠ D → 1 < D → s.heap.get? C = none → s.heap.get? D = none → Keep (C :: D :: Fp env) μ H s μ' H' s' → Fm W sc d env A ([C, D] ++ Φ) m μ' H' s' → s'.heap.Ns C mC → Acc ([C, D] ++ Φ) μ' H' s'.heap D xs → Q H' xs →
   match use with
   | none => ∀ h', Heap.SameBut C s'.heap h' → R (.ref D) { s' with heap := h' }
   | some u => wpAny W.M A (u (.ref D)) (fun za s'' => ∃ mm, s''.heap.Ns C mm ∧ ∀ h', Heap.SameBut C s''.heap h' → R .none { s'' with heap := h' }) Bot s') :
  wpAny W.M A (comprehension (.ListComp elt (g :: gs) scope pos) scope env p (newList []) false (eval g.iter env) use) R Bot s := by
 have cX : True := trivial
 revert W sc scope d env A Φ m μ H s elt g gs pos p use R Q has hfs ok F hc k
 rintro W sc scope d env A Φ m μ H s elt g gs pos p use R Q has hfs ok F hc k
 simp only [compOk, Bool.and_eq_true, beq_iff_eq, List.all_eq_true, bne_iff_ne, ne_eq, Bool.or_eq_true] at ok
 obtain ⟨hkind, hall⟩ := ok
 have hlocal : ∀ x ∈ scope.names, x.2 = .local → scope.names.lookup x.1 = some .local := fun x hx hl => ((hall x hx).1.2).elim (fun z => absurd hl z) id
 have hnocell : ∀ x ∈ scope.names, x.2 ≠ .cell := fun x hx => (hall x hx).1.1
 have hfree : ∀ x ∈ scope.names, x.2 = .free → scope.names.lookup x.1 = some .free ∧ (sc.names.lookup x.1 = some .cell ∨ sc.names.lookup x.1 = some .free) := fun x hx hl => ((hall x hx).2).elim (fun z => absurd hl z) id
 obtain ⟨cl, hclos, hcl1, hcl2, hcl3⟩ := closureFor_of (env := env) (scope := scope) fun y hy hf => by
  obtain ⟨c, v, hc, _, _⟩ := F.loc.cell y.1 ((hfree y hy hf).2.imp (fun z => (kindOf_of F.en _).trans z) fun z => (kindOf_of F.en _).trans z)
  exact ⟨c, hc⟩
 refine wpAny_comprehension_free (g := g) (gs := gs) rfl (hfs g (.head _) env) hclos hkind hlocal (JPost.goE F (hc env A Φ μ s F) fun sv s1 src H1 μ1 F1 K1 r1 q1 => ?_)
 refine iter_start F1.inv r1 q1.1 fun o hfr st => wpAny_newObj_type (wpAny_newFunctionEnv hnocell (by intro y hy; simp at hy) (fun h4 hns hsb => ?_) hkind)
 dsimp only at hns hsb ⊢
 have z1 : (s1.heap.push o).objs.size = s1.heap.objs.size + 1 := Heap.size_push ..
 generalize hh3 : (s1.heap.push o).push { cls := .type "list", dict := none, data := .seq ([] : List Value).toArray } = h3 at hns hsb
 have z2 : h3.objs.size = s1.heap.objs.size + 2 := by rw [← hh3, Heap.size_push, z1]
 generalize hJ : s1.heap.objs.size = J at st z1 z2 ⊢
 generalize hD : (s1.heap.push o).objs.size = D at z1 ⊢
 generalize hC : h3.objs.size = C at z2 hns hsb ⊢
 have hJC : J < C := by lia
 have hDC : D < C := by lia
 have hJD : J < D := by lia
 have fresh : ∀ b : Nat, J ≤ b → s1.heap.get? b = none := fun b hb => by
  cases e : s1.heap.get? b with
  | none => rfl
  | some o' => exact absurd (Heap.lt_size e) (Nat.not_lt.mpr (hJ ▸ hb))
 have fresh0 : ∀ b : Nat, J ≤ b → s.heap.get? b = none := fun b hb => by
  cases e : s.heap.get? b with
  | none => rfl
  | some o' => obtain ⟨o2, e2⟩ := K1.alive _ _ e; rw [fresh b hb] at e2; cases e2
 have old : ∀ b ob, s1.heap.get? b = some ob → h4.get? b = some ob := fun b ob e => by
  have hb : (b : Nat) < J := by rw [← hJ]; exact Heap.lt_size e
  refine hsb.extBut b ob (Nat.ne_of_lt (Nat.lt_trans hb hJC)) (push_keeps _ b ob ?_)
  rw [← hh3]; exact push_keeps _ b ob (push_keeps _ b ob e)
 have gJ : h4.get? J = some o := by
  refine hsb.extBut J o (Nat.ne_of_lt hJC) (push_keeps _ J o ?_)
  rw [← hh3]; exact push_keeps _ J o (by rw [← hJ]; exact Heap.get?_push_size _ hfr)
 have gD : h4.get? D = some { cls := .type "list", dict := none, data := .seq ([] : List Value).toArray } := by
  refine hsb.extBut D _ (Nat.ne_of_lt hDC) (push_keeps _ D _ ?_)
  rw [← hh3, ← hD]; exact Heap.get?_push_size _ rfl
 have gC : ∃ ob, h4.get? C = some ob := let ⟨ob, _, _, e, _⟩ := hns; ⟨ob, e⟩
 have hΨ : ∀ b, b ∈ [J, C, D] → s1.heap.get? b = none := memC (fresh _ (Nat.le_refl _)) (memC (fresh _ (Nat.le_of_lt hJC)) (memC (fresh _ (Nat.le_of_lt hJD)) memN))
 have hΨ' : ∀ b, b ∈ [J, C, D] → ∃ ob, h4.get? b = some ob := memC ⟨_, gJ⟩ (memC gC (memC ⟨_, gD⟩ memN))
 have offΦ : ∀ b : Nat, J ≤ b → b ∉ Φ := fun b hb q => by obtain ⟨_, ⟨o', e⟩, _⟩ := F1.inv.phi _ q; rw [fresh b hb] at e; cases e
 have offF : ∀ b : Nat, J ≤ b → b ∉ Fp env := fun b hb q => offΦ b hb (F1.fr.sub _ q)
 have SW := widen_step (Φ := Φ) (μ := μ1) (H := H1) old hΨ
 have clmem : ∀ x c, cl.lookup x = some c → env.cells.lookup x = some c := fun x c e => hcl1 (x, c) (mem_of_lookup e)
 have clfp : ∀ b, b ∈ cl.map (·.2) → b ∈ Fp env := memM fun p hp => .tail _ (mem_of_look (hcl1 p hp))
 let cenv : Env := { newEnv scope C env.globals cl env.qual none .none (some env) env.builtins with scope := relabS sc scope }
 have hkr : ∀ x, (relabS sc scope).names.lookup x = (scope.names.lookup x).map fun k => if (k == NameKind.free && sc.kind == .function && sc.names.lookup x == some .cell) = true then NameKind.cell else k := fun x => lookup_relab
 have hfr' : ∀ x, (cenv.kindOf x = some .cell ∨ cenv.kindOf x = some .free) → scope.names.lookup x = some .free := fun x hk => by
  have hk' : (relabS sc scope).names.lookup x = some .cell ∨ (relabS sc scope).names.lookup x = some .free := hk
  rw [hkr x] at hk'
  cases e : scope.names.lookup x with
  | none => rw [e] at hk'; rcases hk' with z | z <;> cases z
  | some k0 =>
   rw [e] at hk'
   have hm := mem_of_lookup e
   have nc : k0 ≠ .cell := hnocell (x, k0) hm
   by_cases z : k0 = .free
   ·rw [z]
   ·have z' : (k0 == NameKind.free) = false := beq_eq_false_iff_ne.mpr z
    simp only [Option.map_some, z', Bool.false_and, Bool.false_eq_true, if_false, Option.some.injEq] at hk'
    rcases hk' with y | y
    ·exact absurd y nc
    ·exact absurd y z
 have ENV : EnvOk (relabS sc scope) cenv := ⟨rfl, F1.en.glob, F1.en.blt, hkind⟩
 have FRO : FrameOk cenv ([C, D] ++ Φ) := by
  refine ⟨memC (.head _) fun b q => .tail _ (.tail _ (F1.fr.sub _ (clfp b q))), fun x c e z => ?_, fun x y c e1 e2 => F1.fr.apart x y c (clmem x c e1) (clmem y c e2)⟩
  ·have z' : c = C := z
   have : C ∈ Φ := z' ▸ F1.fr.cell (clmem x c e)
   exact offΦ C (Nat.le_of_lt hJC) this
 have LOC : LocR cenv (compLoc sc scope m) (cx ([J, C, D] ++ Φ) μ1 H1 h4) := by
  refine ⟨⟨_, hns, fun x a hk hx => ?_⟩, fun x hk => ?_⟩
  ·exfalso
   unfold compLoc at hx
   have hk' : (relabS sc scope).names.lookup x = some .local := hk
   rw [hkr x] at hk'
   split at hx
   ·rename_i hf
    have hf' : scope.names.lookup x = some .free := by simpa using hf
    rw [hf'] at hk'
    simp only [Option.map_some, Option.some.injEq] at hk'
    split at hk' <;> cases hk'
   ·cases hx
  ·have hf := hfr' x hk
   obtain ⟨c, hc'⟩ := hcl2 (x, .free) (mem_of_lookup hf) rfl
   have hk2 := (hfree (x, .free) (mem_of_lookup hf) rfl).2
   obtain ⟨c2, v, hc2, hv, hm⟩ := F1.loc.cell x (hk2.imp (fun z => (kindOf_of F1.en _).trans z) fun z => (kindOf_of F1.en _).trans z)
   have e3 : c = c2 := by have := clmem x c hc'; rw [hc2] at this; exact (Option.some.inj this).symm
   subst e3
   refine ⟨c, v, hc', hv.keeps old, fun a ha => ?_⟩
   unfold compLoc at ha
   rw [hf] at ha
   obtain ⟨v', e, r⟩ := hm a (by simpa using ha)
   exact ⟨v', e, r.step SW⟩
 have FC : Fm W (relabS sc scope) d cenv A (J :: ([C, D] ++ Φ)) (compLoc sc scope m) μ1 H1 { s1 with heap := h4, toks := s1.toks } := by
  refine ⟨ENV, ⟨fun b q => .tail _ (FRO.sub b q), FRO.off, FRO.apart⟩, F1.a, F1.inv.widen (Ψ := [J, C, D]) old hΨ hΨ', LOC⟩
 have hJn : J ∉ [C, D] ++ Φ := by
  simp only [List.mem_append, List.mem_cons, List.not_mem_nil, or_false]
  rintro ((q | q) | q)
  ·exact Nat.ne_of_lt hJC q
  ·exact Nat.ne_of_lt hJD q
  ·exact offΦ J (Nat.le_refl _) q
 have hDf : D ∉ Fp cenv := fun q => by
  rcases List.mem_cons.mp q with q | q
  ·have : D = C := q
   exact Nat.ne_of_lt hDC this
  ·exact offF D (Nat.le_of_lt hJD) (clfp _ q)
 have K4 : Keep (J :: D :: Fp cenv) μ1 H1 s1 μ1 H1 { s1 with heap := h4, toks := s1.toks } := Keep.grow old
 have KJ : ∀ ob, (s1.heap.push o).get? J = some ob → h4.get? J = some ob := fun ob e => by
  rw [← hJ, Heap.get?_push_size _ hfr] at e
  cases e; exact gJ
 have rsrc := r1.step SW
 have st4 : ItSt src sv 0 J h4 := by
  have S0 : Step (cx Φ μ1 H1 (s1.heap.push o)) (cx Φ μ1 H1 h4) := grow_step fun b ob e => by
   by_cases hb : b = J
   ·exact hb ▸ KJ ob (hb ▸ e)
   ·have hlt : (b : Nat) < D := by rw [← hD]; exact Heap.lt_size e
    refine hsb.extBut b ob (Nat.ne_of_lt (Nat.lt_trans hlt hDC)) (push_keeps _ b ob ?_)
    rw [← hh3]; exact push_keeps _ b ob e
  exact ItSt.ext S0 (r1.step (grow_step (push_keeps o))) KJ st
 have hg : (g :: gs)[0]? = some g := rfl
 rw [relabel_eq F1.en]
 have LP := loops (W := W) (sc := relabS sc scope) (d := d) (elt := elt) (gens := g :: gs) (scope := scope) (pos := pos) has hfs gs g 0 rfl
 refine comp_start (src := src) (sv := sv) (i := 0) hg (has g (.head _)) st4 (codeAny_mono (LP cenv A ([C, D] ++ Φ) μ1 H1 s1 μ1 _ H1 { s1 with heap := h4, toks := s1.toks } J D sv src [] Q (fresh J (Nat.le_refl _)) K4 FC hJn FRO (.tail _ (.head _)) hDf ⟨[], ⟨0, gD⟩, rfl⟩ rsrc st4 q1) fun r s5 ⟨er, H5, μ5, xs5, K5, F5, a5, q5⟩ => ?_)
 subst er
 have KC : Keep (C :: D :: Fp env) μ H s μ5 H5 s5 := by
  exact (K1.weak (P' := C :: D :: Fp env) fun b q => .inl (.tail _ (.tail _ q))).trans (K5.weak (memC (.inr (fresh _ (Nat.le_refl _))) (memC (.inl (.tail _ (.head _))) (memC (.inl (.head _)) fun b q => .inl (.tail _ (.tail _ (clfp b q)))))))
 have offC : ∀ b, b ∈ J :: D :: Fp cenv → b ∈ Φ → (∀ x c, cl.lookup x = some c → c ≠ b) → False :=
  memC (fun hb za => offΦ _ (Nat.le_refl _) hb) (memC (fun hb za => offΦ _ (Nat.le_of_lt hJD) hb) (memC (fun hb za => offΦ _ (Nat.le_of_lt hJC) hb) (memM fun p hp hb hcl =>
   (hcl2 (p.1, .free) (hcl3 p hp) rfl).elim fun c e => hcl _ _ e (Option.some.inj ((clmem _ _ e).symm.trans (hcl1 p hp))))))
 have no : ∀ b : Nat, J ≤ b → ∀ ob, s1.heap.get? b = some ob → b ∈ Fp env := fun b hb ob e => nomatch (fresh b hb).symm.trans e
 have off5 : ∀ b, b ∈ J :: D :: Fp cenv → ∀ ob, s1.heap.get? b = some ob → b ∈ Fp env := memC (no _ (Nat.le_refl _)) (memC (no _ (Nat.le_of_lt hJD)) (memC (no _ (Nat.le_of_lt hJC)) fun b q za zb => clfp b q))
 have on2 : ∀ b, b ∈ [C, D] → s1.heap.get? b = none := memC (fresh _ (Nat.le_of_lt hJC)) (memC (fresh _ (Nat.le_of_lt hJD)) memN)
 have S5 : Step (cx Φ μ1 H1 s1.heap) (cx ([C, D] ++ Φ) μ5 H5 s5.heap) :=
  ⟨fun b ob e n => K5.keep b ob e (fun q => n (.inl q)) fun q => n (.inr (F1.fr.sub _ (off5 b q ob e))), fun b q => q.elim (fun q => (K5.live b q).imp .inl id) fun q => (List.mem_append.mp q).elim (fun q => .inr (on2 b q)) fun q => .inl (.inr q), K5.mu⟩
 have FE : Fm W sc d env A ([C, D] ++ Φ) m μ5 H5 s5 := by
  refine ⟨F1.en, ⟨fun b q => .tail _ (.tail _ (F1.fr.sub b q)), F1.fr.off, F1.fr.apart⟩, F1.a, F5.inv, ?_, fun x hk => ?_⟩
  ·obtain ⟨ml, ⟨ob, es, ep, ho, r⟩, hm⟩ := F1.loc.ns
   have hk := K5.keep _ _ ho (F1.inv.phi _ F1.fr.loc).2.2 fun q => offC _ q F1.fr.loc fun x c e z => F1.fr.off x c (clmem x c e) z
   exact ⟨ml, ⟨ob, es, ep, hk, r⟩, fun x a hk hx => let ⟨v, e, r⟩ := hm x a hk hx; ⟨v, e, r.step S5⟩⟩
  ·obtain ⟨c, v, hc, ⟨ob, ho, r⟩, hm⟩ := F1.loc.cell x hk
   cases e : cl.lookup x with
   | none =>
    have hk := K5.keep _ _ ho (F1.inv.phi _ (F1.fr.cell hc)).2.2 fun q => offC _ q (F1.fr.cell hc) fun y c' e' z => by have h := F1.fr.apart y x c' (clmem y c' e') (by rw [z]; exact hc); rw [h, e] at e'; cases e'
    exact ⟨c, v, hc, ⟨ob, hk, r⟩, fun a ha => let ⟨v', e, r⟩ := hm a ha; ⟨v', e, r.step S5⟩⟩
   | some c' =>
    have e1 := clmem x c' e
    rw [hc] at e1; cases e1
    have hf : scope.names.lookup x = some .free := (hfree (x, .free) (hcl3 (x, c) (mem_of_lookup e)) rfl).1
    have hk' : cenv.kindOf x = some .cell ∨ cenv.kindOf x = some .free := by
     show (relabS sc scope).names.lookup x = some .cell ∨ (relabS sc scope).names.lookup x = some .free
     rw [hkr x, hf, Option.map_some]
     split
     ·exact .inl rfl
     ·exact .inr rfl
    obtain ⟨c2, v2, hc2, hv2, hm2⟩ := F5.loc.cell x hk'
    have e2 : c2 = c := by have h : cl.lookup x = some c2 := hc2; rw [e] at h; exact (Option.some.inj h).symm
    subst e2
    refine ⟨c2, v2, hc, hv2, fun a ha => hm2 a ?_⟩
    show compLoc sc scope m x = some a
    unfold compLoc
    rw [hf]; simpa using ha
 obtain ⟨mC, hnC, _⟩ := F5.loc.ns
 have fin := k C D s5 H5 μ5 xs5 mC (Nat.ne_of_gt hDC) (by have := F1.inv.size2; rw [hJ] at this; exact Nat.lt_trans (Nat.lt_of_succ_lt this) hJD) (fresh0 C (Nat.le_of_lt hJC)) (fresh0 D (Nat.le_of_lt hJD)) KC FE hnC a5 q5
 unfold compPost
 cases use with
 | none => exact ⟨mC, hnC, fin⟩
 | some u => exact fin
end
end Mine
set_option tactic.hygienic false
namespace Mine
section
variable {hb : Hb} {h h' : Heap} {Φ Ψ : List Addr} {μ : List (Addr × Addr)} {H : List AObj}
theorem adopt_step {D : Addr} {o : AObj} (hl : μ.length = H.length) : Step (cx (D :: Φ) μ H h) (cx Φ (μ ++ [(D, D)]) (H ++ [o]) h) :=
 ⟨fun za zb e zc => e, fun b q => .inl (q.elim (fun z => (live_append hl z).elim .inl fun y => .inr (by rcases y.2 with e | e <;> (rw [show b = D from e]; exact .head _))) fun z => .inr (.tail _ z)),
  fun j q e => by show (μ ++ [(D, D)])[j]? = some q; rw [List.getElem?_append_left (gll e)]; exact e⟩
theorem Inv.adopt {D : Addr} {o : AObj} (I : Inv hb (D :: Φ) μ H h) (z : 1 < D) (n : D ∉ Φ) (ho : ObjR (cx Φ (μ ++ [(D, D)]) (H ++ [o]) h) o (D, D)) : Inv hb Φ (μ ++ [(D, D)]) (H ++ [o]) h := by
 have cX : True := trivial
 revert hb h Φ μ H D o I z n ho
 rintro hb h Φ μ H D o I z n ho
 have S := adopt_step (Φ := Φ) (h := h) (D := D) (o := o) I.len
 obtain ⟨p1, p2, p3⟩ := I.phi D (.head _)
 have look : ∀ (j : Nat) o' q, (H ++ [o])[j]? = some o' → (μ ++ [(D, D)])[j]? = some q → (H[j]? = some o' ∧ μ[j]? = some q) ∨ (j = H.length ∧ o' = o ∧ q = (D, D)) := by
  rintro j o' q e1 e2
  by_cases hj : j < H.length
  ·rw [List.getElem?_append_left hj] at e1
   rw [List.getElem?_append_left (by have := I.len; lia)] at e2
   exact .inl ⟨e1, e2⟩
  ·have hj' : j = H.length := by
    have := (gll e1)
    rw [List.length_append, List.length_singleton] at this; lia
   subst hj'
   rw [List.getElem?_concat_length] at e1
   rw [← I.len, List.getElem?_concat_length] at e2
   cases e1; cases e2
   exact .inr ⟨rfl, rfl, rfl⟩
 refine ⟨by simp [I.len], I.base, ?_, ?_, ?_, ?_, ?_, I.two⟩
 ·rintro j o' q e1 e2
  rcases look j o' q e1 e2 with ⟨a1, a2⟩ | ⟨_, rfl, rfl⟩
  ·exact (I.obj j o' q a1 a2).step S fun b ob za e => e
  ·exact ho
 ·rintro i j o1 o2 q1 q2 hij a1 a2 a3 b1 b2 b3
  rcases look i o1 q1 a1 a3 with ⟨x1, x2⟩ | ⟨hi, rfl, rfl⟩ <;> rcases look j o2 q2 b1 b3 with ⟨y1, y2⟩ | ⟨hj, rfl, rfl⟩
  ·exact I.apart i j o1 o2 q1 q2 hij x1 a2 x2 y1 b2 y2
  ·have u : q1.1 ≠ D := fun e => p3 ⟨i, o1, q1, x1, a2, x2, .inl e.symm⟩
   have v : q1.2 ≠ D := fun e => p3 ⟨i, o1, q1, x1, a2, x2, .inr e.symm⟩
   exact ⟨u, u, v, v⟩
  ·have u : D ≠ q2.1 := fun e => p3 ⟨j, o2, q2, y1, b2, y2, .inl e⟩
   have v : D ≠ q2.2 := fun e => p3 ⟨j, o2, q2, y1, b2, y2, .inr e⟩
   exact ⟨u, v, u, v⟩
  ·exact absurd (hi.trans hj.symm) hij
 ·rintro b q
  rcases live_append I.len q with y | ⟨_, y | y⟩
  ·exact I.live b y
  ·have : b = D := y
   subst this; exact ⟨p1, p2⟩
  ·have : b = D := y
   subst this; exact ⟨p1, p2⟩
 ·rintro b q
  obtain ⟨a, x, m⟩ := I.phi b (.tail _ q)
  refine ⟨a, x, fun y => ?_⟩
  rcases live_append I.len y with y | ⟨_, y | y⟩
  ·exact m y
  ·have : b = D := y
   exact n (this ▸ q)
  ·have : b = D := y
   exact n (this ▸ q)
 ·rintro b q
  rcases live_append I.len q with y | ⟨_, y | y⟩
  ·exact I.lo b y
  ·have : b = D := y
   rw [this]; exact z
  ·have : b = D := y
   rw [this]; exact z
end
theorem Keep.adopt {P μ H s μ' H' s'} {D : Addr} {o : AObj} (K : Keep P μ H s μ' H' s') (hl : μ'.length = H'.length) (f : s.heap.get? D = none) : Keep P μ H s (μ' ++ [(D, D)]) (H' ++ [o]) s' :=
 ⟨K.gens, K.drawn, K.os, K.alive, K.keep, fun b q => (live_append hl q).elim (K.live b) fun y => .inr (by rcases y.2 with e | e <;> (rw [show b = D from e]; exact f)), fun j q e => by
  have := K.mu j q e
  rw [List.getElem?_append_left (gll this)]; exact this⟩
section
variable {W : Wd} {sc scope : Scope} {d : Nat} {env : Env} {A : Around} {Φ Ψ : List Addr} {m m' : Loc} {μ μ' : List (Addr × Addr)} {H H' : List AObj} {s s' : Shared}
theorem Fm.narrow (F : Fm W sc d env A (Ψ ++ Φ) m μ H s) (hs : FrameOk env Φ) : Fm W sc d env A Φ m μ H s := ⟨F.en, hs, F.a, F.inv.narrow, F.loc.step narrow_step fun za zb zc e => e⟩
theorem Fm.adopt {D : Addr} {o : AObj} (F : Fm W sc d env A (D :: Φ) m μ H s) (hs : FrameOk env Φ) (z : 1 < D) (n : D ∉ Φ) (ho : ObjR (cx Φ (μ ++ [(D, D)]) (H ++ [o]) s.heap) o (D, D)) : Fm W sc d env A Φ m (μ ++ [(D, D)]) (H ++ [o]) s :=
 ⟨F.en, hs, F.a, F.inv.adopt z n ho, F.loc.step (adopt_step F.inv.len) fun za zb zc e => e⟩
noncomputable def cpOut (fz : Bool) (Q : V → List AObj → Prop) (H : List AObj) (xs : List V) : Prop := if fz = true then Q (.lst xs) H else Q (.ref H.length) (H ++ [.list xs])
noncomputable def plainIter : Expr → Bool
 | .Set .. => false
 | _ => true
theorem plainIter_of {e : Expr} (h : plainIter e = true) (env : Env) (x : Value) : foldedSetIterable e env x = pure x := by
 have cX : True := trivial
 revert e h env x
 rintro e h env x
 unfold foldedSetIterable
 cases e <;> first | rfl | cases h
noncomputable def gensOk (gens : List Comprehension) : Bool := gens.all fun g => g.is_async == 0 && plainIter g.iter
theorem comp_res {elt : Expr} {g : Comprehension} {gs : List Comprehension} {pos p : Pos} {use : Option (Value → Sem Unit)} {R : Value → Shared → Prop} {Q : V → List AObj → Prop} (fz : Bool)
  (hg : gensOk (g :: gs) = true) (ok : compOk sc scope = true) (F : Fm W sc d env A Φ m μ H s) (hc : Cps W sc d elt g gs scope m H (cpOut fz Q))
  (k : ∀ C D s' H' μ' b mC, s.heap.get? C = none → Keep (C :: Fp env) μ H s μ' H' s' → Fm W sc d env A ([C] ++ Φ) m μ' H' s' → s'.heap.Ns C mC → VR (cx ([C] ++ Φ) μ' H' s'.heap) b (.ref D) → Q b H' →
   match use with
   | none => ∀ h', Heap.SameBut C s'.heap h' → R (.ref D) { s' with heap := h' }
   | some u => wpAny W.M A (u (.ref D)) (fun za s'' => ∃ mm, s''.heap.Ns C mm ∧ ∀ h', Heap.SameBut C s''.heap h' → R .none { s'' with heap := h' }) Bot s') :
  wpAny W.M A (comprehension (.ListComp elt (g :: gs) scope pos) scope env p (newList []) false (eval g.iter env) use) R Bot s := by
 have cX : True := trivial
 revert W sc scope d env A Φ m μ H s elt g gs pos p use R Q fz hg ok F hc k
 rintro W sc scope d env A Φ m μ H s elt g gs pos p use R Q fz hg ok F hc k
 simp only [gensOk, List.all_eq_true, Bool.and_eq_true, beq_iff_eq] at hg
 refine comp_core (fun x hx => (hg x hx).1) (fun x hx env y => plainIter_of (hg x hx).2 env y) ok F hc ?_
 rintro C D s' H' μ' xs mC hCD hz hC hD K F' hn a q
 obtain ⟨vs, g, r⟩ := a
 have offΦ : ∀ b, s.heap.get? b = none → b ∉ Φ := fun b e q => by obtain ⟨_, ⟨o', e'⟩, _⟩ := F.inv.phi _ q; rw [e] at e'; cases e'
 have hDn : D ∉ [C] ++ Φ := fun q => by
  rcases List.mem_append.mp q with q | q
  ·exact hCD (List.mem_singleton.mp q).symm
  ·exact offΦ D hD q
 have swap : ∀ {c : Cx → Prop}, True := trivial
 have F2 : Fm W sc d env A (D :: ([C] ++ Φ)) m μ' H' s' := by
  have sub : ∀ b, b ∈ [C, D] ++ Φ ↔ b ∈ D :: ([C] ++ Φ) := fun b => by simp only [List.mem_append, List.mem_cons, List.not_mem_nil, or_false]; exact ⟨fun q => by rcases q with (q | q) | q <;> simp [q], fun q => by rcases q with q | q | q <;> simp [q]⟩
  have S : Step (cx ([C, D] ++ Φ) μ' H' s'.heap) (cx (D :: ([C] ++ Φ)) μ' H' s'.heap) := ⟨fun za zb e zc => e, fun b q => .inl (q.imp id fun z => (sub b).mpr z), fun za zb e => e⟩
  refine ⟨F'.en, ⟨fun b q => (sub b).mp (F'.fr.sub b q), F'.fr.off, F'.fr.apart⟩, F'.a, ⟨F'.inv.len, F'.inv.base, fun j o p e1 e2 => (F'.inv.obj j o p e1 e2).step S fun b ob za e => e, F'.inv.apart, F'.inv.live, fun b q => F'.inv.phi b ((sub b).mpr q), F'.inv.lo, F'.inv.two⟩, F'.loc.step S fun za zb zc e => e⟩
 have hfr : FrameOk env ([C] ++ Φ) := ⟨fun b q => .tail _ (F.fr.sub b q), F.fr.off, F.fr.apart⟩
 have KD : Keep (C :: Fp env) μ H s μ' H' s' := K.weak fun b q => by
  rcases List.mem_cons.mp q with rfl | q
  ·exact .inl (.head _)
  rcases List.mem_cons.mp q with rfl | q
  ·exact .inr hD
  ·exact .inl (.tail _ q)
 cases fz with
 | true =>
  have q' : Q (.lst xs) H' := q
  have nx : ¬ (cx ([C] ++ Φ) μ' H' s'.heap).X D := fun z => z.elim (F2.inv.phi D (.head _)).2.2 hDn
  have S : Step (cx ([C, D] ++ Φ) μ' H' s'.heap) (cx ([C] ++ Φ) μ' H' s'.heap) := ⟨fun za zb e zc => e, fun b z => .inl (z.imp id fun y => by
   rcases List.mem_append.mp y with y | y
   ·rw [List.mem_singleton.mp y]; exact .head _
   ·exact .tail _ (.tail _ y)), fun za zb e => e⟩
  exact k C D s' H' μ' (.lst xs) mC hC KD (Fm.narrow (Ψ := [D]) F2 hfr) hn ⟨D, vs, rfl, g, nx, r.step S⟩ q'
 | false =>
  have q' : Q (.ref H'.length) (H' ++ [.list xs]) := q
  have S : Step (cx ([C, D] ++ Φ) μ' H' s'.heap) (cx ([C] ++ Φ) (μ' ++ [(D, D)]) (H' ++ [.list xs]) s'.heap) := by
   refine Step.trans (c' := cx (D :: ([C] ++ Φ)) μ' H' s'.heap) ⟨fun za zb e zc => e, fun b z => .inl (z.imp id fun y => ?_), fun za zb e => e⟩ (adopt_step (Φ := [C] ++ Φ) (D := D) F2.inv.len)
   rcases List.mem_cons.mp y with rfl | y
   ·exact .tail _ (.head _)
   rcases List.mem_cons.mp y with rfl | y
   ·exact .head _
   ·exact .tail _ (.tail _ y)
  refine k C D s' (H' ++ [.list xs]) (μ' ++ [(D, D)]) (.ref H'.length) mC hC (KD.adopt F2.inv.len hD) (Fm.adopt (o := .list xs) F2 hfr hz hDn ⟨rfl, vs, g, r.step S⟩) hn ⟨(D, D), ?_, rfl⟩ q'
  show (μ' ++ [(D, D)])[H'.length]? = _
  rw [← F2.inv.len, List.getElem?_concat_length]
theorem Keep.drop1 {C : Addr} {h' : Heap} {t : Tok} (K : Keep (C :: Fp env) μ H s μ' H' s') (hC : s.heap.get? C = none) (ex : ∀ b o, b ≠ C → s'.heap.get? b = some o → h'.get? b = some o) : Keep (Fp env) μ H s μ' H' { s' with heap := h', toks := t } := by
 have ne : ∀ b ob, s.heap.get? b = some ob → b ≠ C := fun b ob e q => by rw [q, hC] at e; cases e
 refine ⟨K.gens, K.drawn, K.os, fun b ob e => ?_, fun b ob e n p => ?_, K.live, K.mu⟩
 ·obtain ⟨o', e'⟩ := K.alive b ob e
  exact ⟨o', ex b o' (ne b ob e) e'⟩
 ·exact ex b ob (ne b ob e) (K.keep b ob e n fun z => (List.mem_cons.mp z).elim (ne b ob e) p)
theorem E_comp {elt tg it : Expr} {ifs : List Expr} {gs : List Comprehension} {pos : Pos} {Q : V → List AObj → Prop} (fz : Bool) (h : Cps W sc d elt ⟨tg, it, ifs, 0⟩ gs scope m H (cpOut fz Q))
  (hg : gensOk (⟨tg, it, ifs, 0⟩ :: gs) = true := by rfl) (ok : compOk sc scope = true := by rfl) : Ev W sc d (.ListComp elt (⟨tg, it, ifs, 0⟩ :: gs) scope pos) m H Q := fun env A Φ μ s F => by
 rw [eval_ListComp]
 refine comp_res (use := none) fz hg ok F h fun C D s' H' μ' b mC hC K F' hn r q h' hs => ?_
 have ex := Heap.SameBut.ext hs
 have hCΦ : C ∉ Φ := fun q => by obtain ⟨_, ⟨o', e'⟩, _⟩ := F.inv.phi _ q; rw [hC] at e'; cases e'
 have F2 : Fm W sc d env A Φ m μ' H' { s' with heap := h', toks := s'.toks } := Fm.off F' hCΦ F.fr ex
 exact ⟨b, m, H', μ', K.drop1 (t := s'.toks) hC ex, F2.inv, F2.loc, r.step (off_step (F'.inv.phi _ (.head _)).2.2 hCΦ ex (Step.refl _)), rfl, q⟩
noncomputable def useOk (sc scope : Scope) (x : Str) (a b : Nat) : Bool := sc.names.lookup x == some .local && a == b && !(scope.names.any fun y => y.1 == x && (y.2 == .local || y.2 == .cell))
theorem swaps_eq {x : Str} {px pos : Pos} {elt : Expr} {gens : List Comprehension} {line : Nat} (E : EnvOk sc env) : swapsWith (.ListComp elt gens scope pos) (some (.Name x px)) line env = pure (useOk sc scope x px.line pos.line) := by
 unfold swapsWith useOk
 simp only [Env.blockKind, E.scope, E.kind, kindOf_of E]
 rfl
theorem S_setComp {x : Str} {px : Pos} {elt tg it : Expr} {ifs : List Expr} {gs : List Comprehension} {pos spos : Pos} {Q : AF → Loc → List AObj → Prop} (fz : Bool) (h : Cps W sc d elt ⟨tg, it, ifs, 0⟩ gs scope m H (cpOut fz fun a H1 => Q .next (m.put x a) H1))
  (hk : (sc.names.lookup x == some .local || sc.names.lookup x == some .cell) = true) (hg : gensOk (⟨tg, it, ifs, 0⟩ :: gs) = true := by rfl) (ok : compOk sc scope = true := by rfl) :
  Sx W sc d (.Assign [.Name x px] (.ListComp elt (⟨tg, it, ifs, 0⟩ :: gs) scope pos) spos) m H Q := fun env A Φ μ s F => by
 have hk' : sc.names.lookup x = some .local ∨ sc.names.lookup x = some .cell := by simpa using hk
 cases hu : useOk sc scope x px.line pos.line with
 | false =>
  refine wpAny_Assign_Name (JPost.goE F (E_comp fz h hg ok env A Φ μ s F) fun v s1 b H1 μ1 F1 K1 r1 q1 => ?_) ((swaps_eq F.en).trans (by rw [hu]))
  refine JPost.thenFm F1 (storeAny (Q := fun m' H' => Q .next m' H') hk' F1 r1 q1) fun za s2 zb m2 H2 μ2 F2 K2 zc q2 => ?_
  exact JPost.ofK (K1.trans K2) (JPost.here (b := AF.next) F2 rfl q2)
 | true =>
  rw [exec_Assign_Name_used _ _ _ _ ((swaps_eq F.en).trans (by rw [hu]))]
  refine wpAny_bind (wpAny_standAt (wpAny_bind ?_))
  show wpAny _ A (do let _ ← comprehension (.ListComp elt (⟨tg, it, ifs, 0⟩ :: gs) scope pos) scope env _ (newList []) false (eval it env) (some (assign (.Name x px) env))) _ _ s
  refine wpAny_bind (wpAny_mono (comp_res (use := some (assign (.Name x px) env)) (R := fun za s' => JPost W env Φ μ H s FlR Q Flow.next s') fz hg ok F h fun C D s' H' μ' b mC hC K F' hn r q => ?_) (fun za s' hq => wpAny_pure (wpAny_pure hq)) fun za zb e => e)
  have hCΦ : C ∉ Φ := fun q => by obtain ⟨_, ⟨o', e'⟩, _⟩ := F.inv.phi _ q; rw [hC] at e'; cases e'
  refine wpAny_assign_Name (JPost.thenFm F' (storeAny (Q := fun m' H' => Q .next m' H') hk' F' r q) fun za s2 zb m2 H2 μ2 F2 K2 zc q2 => ?_)
  obtain ⟨oC, es, ep, ho, rC⟩ := hn
  refine ⟨mC, ⟨oC, es, ep, K2.keep _ _ ho (F'.inv.phi _ (.head _)).2.2 (fun z => hCΦ (F.fr.sub _ z)), rC⟩, fun h' hs => ?_⟩
  have ex := Heap.SameBut.ext hs
  have F3 : Fm W sc d env A Φ m2 μ2 H2 { s2 with heap := h', toks := s2.toks } := Fm.off F2 hCΦ F.fr ex
  exact ⟨.next, m2, H2, μ2, (K.trans (K2.weak fun b q => .inl (.tail _ q))).drop1 (t := s2.toks) hC ex, F3.inv, F3.loc, rfl, q2⟩
end
end Mine
set_option tactic.hygienic false
namespace Mine
noncomputable def kill (n : Nat) (H : List AObj) : List AObj := H.take n ++ List.replicate (H.length - n) .dead
theorem kill_len (n : Nat) (H : List AObj) : (kill n H).length = H.length := by simp [kill]; lia +abstractProof
theorem kill_get {n : Nat} {H : List AObj} {k : Nat} {o : AObj} (e : (kill n H)[k]? = some o) (hd : o ≠ .dead) : k < n ∧ H[k]? = some o := by
 have cX : True := trivial
 revert n H k o e hd
 rintro n H k o e hd
 unfold kill at e
 by_cases hk : k < (H.take n).length
 ·rw [List.getElem?_append_left hk, List.getElem?_take] at e
  split at e
  ·exact ⟨by assumption, e⟩
  ·cases e
 ·rw [List.getElem?_append_right (by lia +abstractProof), List.getElem?_replicate] at e
  split at e
  ·cases e; exact absurd rfl hd
  ·cases e
theorem live_kill {μ n H b} (q : Live μ (kill n H) b) : Live μ H b := by
 have cX : True := trivial
 revert μ n H b q
 rintro μ n H b q
 obtain ⟨k, o, p, e1, e2, e3, e4⟩ := q
 exact (⟨k, o, p, (kill_get e1 e2).2, e2, e3, e4⟩)
mutual
inductive Rsv (n : Nat) (H : List AObj) : V → V → Prop
 | same (x : V) : Rsv n H x x
 | list {k xs ys} : n ≤ k → H[k]? = some (.list xs) → Rsvs n H xs ys → Rsv n H (.ref k) (.lst ys)
 | inst {k C ns xs ys} : n ≤ k → H[k]? = some (.inst C ns xs) → Rsvs n H xs ys → Rsv n H (.ref k) (.obj C ns ys)
 | dictT {k ks xs ys} : n ≤ k → H[k]? = some (.dictT ks xs) → Rsvs n H xs ys → Rsv n H (.ref k) (.dct ks ys)
inductive Rsvs (n : Nat) (H : List AObj) : List V → List V → Prop
 | nil : Rsvs n H [] []
 | cons {x y xs ys} : Rsv n H x y → Rsvs n H xs ys → Rsvs n H (x :: xs) (y :: ys)
end
theorem Rsvs.refl (n H) : ∀ xs, Rsvs n H xs xs
 | [] => .nil
 | x :: xs => .cons (.same x) (Rsvs.refl n H xs)
section
variable {hb : Hb} {h : Heap} {Φ : List Addr} {μ : List (Addr × Addr)} {H : List AObj} {n : Nat}
theorem kill_step : Step (cx Φ μ H h) (cx Φ μ (kill n H) h) := ⟨fun za zb e zc => e, fun b q => .inl (q.imp live_kill id), fun za zb e => e⟩
theorem Inv.killed (I : Inv hb Φ μ H h) (n : Nat) : Inv hb Φ μ (kill n H) h where
 len := I.len.trans (kill_len n H).symm
 base := I.base
 obj := fun k o p e1 e2 => by
  by_cases hd : o = .dead
  ·subst hd; trivial
  ·exact (I.obj k o p (kill_get e1 hd).2 e2).step kill_step fun za zb zc e => e
 apart := fun k j o o' p q hkj e1 e2 e3 e4 e5 e6 => I.apart k j o o' p q hkj (kill_get e1 e2).2 e2 e3 (kill_get e4 e5).2 e5 e6
 live := fun b q => I.live b (live_kill q)
 phi := fun b q => let ⟨a, x, m⟩ := I.phi b q; ⟨a, x, fun y => m (live_kill y)⟩
 lo := fun b q => I.lo b (live_kill q)
 two := I.two
theorem Inv.off_kill (I : Inv hb Φ μ H h) {k : Nat} {o : AObj} {p : Addr × Addr} (hn : n ≤ k) (hk : H[k]? = some o) (hd : o ≠ .dead) (hp : μ[k]? = some p) {b : Addr} (hb : b = p.1 ∨ b = p.2) : ¬ (cx Φ μ (kill n H) h).X b := by
 rintro (⟨j, x, q, e1, e2, e3, e4⟩ | q)
 ·obtain ⟨j1, j2⟩ := kill_get e1 e2
  obtain ⟨a1, a2, a3, a4⟩ := I.apart k j o x p q (by lia) hk hd hp j2 e2 e3
  rcases hb with rfl | rfl <;> rcases e4 with e4 | e4 <;> first | exact a1 e4 | exact a2 e4 | exact a3 e4 | exact a4 e4
 ·exact (I.phi b q).2.2 ⟨k, o, p, hk, hd, hp, hb⟩
theorem VR.rsv (I : Inv hb Φ μ H h) {x y : V} {v : Value} (R : Rsv n H x y) : VR (cx Φ μ H h) x v → VR (cx Φ μ (kill n H) h) y v :=
 Rsv.rec (motive_1 := fun x y za => ∀ v, VR (cx Φ μ H h) x v → VR (cx Φ μ (kill n H) h) y v) (motive_2 := fun xs ys za => ∀ vs, VRs (cx Φ μ H h) xs vs → VRs (cx Φ μ (kill n H) h) ys vs)
  (fun x v r => r.step kill_step)
  (fun hn hk za ih v r => by
   obtain ⟨p, hp, e⟩ := r
   obtain ⟨h2, vs, g, rr⟩ := I.obj _ _ p hk hp
   exact ⟨p.1, vs, e, g, I.off_kill hn hk (by intro e; cases e) hp (.inl rfl), ih _ rr⟩)
  (fun hn hk za ih v r => by
   obtain ⟨p, hp, e⟩ := r
   obtain ⟨h2, g, vs, o, rr⟩ := I.obj _ _ p hk hp
   exact ⟨p.1, p.2, vs, e, g, o, I.off_kill hn hk (by intro e; cases e) hp (.inl rfl), I.off_kill hn hk (by intro e; cases e) hp (.inr rfl), ih _ rr⟩)
  (fun hn hk za ih v r => by
   obtain ⟨p, hp, e⟩ := r
   obtain ⟨h2, es, m, vs, g, nd, en, rr⟩ := I.obj _ _ p hk hp
   exact ⟨p.1, es, m, vs, e, g, ⟨nd, I.lo _ ⟨_, _, p, hk, (by intro e; cases e), hp, .inl rfl⟩⟩, I.off_kill hn hk (by intro e; cases e) hp (.inl rfl), en.step kill_step, ih _ rr⟩)
  (fun za r => r)
  (fun za zb ia ib vs r => by
   obtain ⟨v, r', e, h1, h2⟩ := r
   exact ⟨v, r', e, ia v h1, ib r' h2⟩) R v
end
theorem Keep.killed {P μ H s} (n : Nat) : Keep P μ H s μ (kill n H) s :=
 ⟨rfl, rfl, rfl, fun za o e => ⟨o, e⟩, fun za zb e zc zd => e, fun b q => .inl (live_kill q), fun za zb e => e⟩
theorem Keep.take {P μ H s μ' H' s' n} (K : Keep P μ H s μ' H' s') (hn : μ.length ≤ n) : Keep P μ H s (μ'.take n) (H'.take n) s' :=
 ⟨K.gens, K.drawn, K.os, K.alive, K.keep, fun b q => K.live b (live_take q), fun k p e => by
  rw [List.getElem?_take, if_pos (Nat.lt_of_lt_of_le (gll e) hn)]; exact K.mu k p e⟩
theorem kill_take {n : Nat} {H : List AObj} : (kill n H).take n = H.take n := by
 unfold kill
 by_cases h : n ≤ H.length
 ·rw [List.take_append_of_le_length (by simp; lia), List.take_take]; simp
 ·rw [show H.length - n = 0 by lia]; simp [List.take_take]
section
variable {W : Wd} {sc scope : Scope} {d : Nat} {env : Env} {A : Around} {Φ Ψ : List Addr} {m m' : Loc} {μ μ' : List (Addr × Addr)} {H H' : List AObj} {s s' : Shared}
theorem S_kill {sts : List Stmt} {Q : AF → Loc → List AObj → Prop} (n : Nat) (m' : Loc) (h : Ss W sc d sts m' (kill n H) Q) (hm : ∀ x b, m' x = some b → ∃ a, m x = some a ∧ Rsv n H a b) : Ss W sc d sts m H Q := fun env A Φ μ s F => by
 have K : Keep (Fp env) μ H s μ (kill n H) s := Keep.killed n
 refine JPost.wp K (h env A Φ μ s ⟨F.en, F.fr, F.a, F.inv.killed n, ?_, fun x hk => ?_⟩)
 ·obtain ⟨ml, hn, hl⟩ := F.loc.ns
  exact ⟨ml, hn, fun x b hk hx => let ⟨a, e, r⟩ := hm x b hx; let ⟨v, e', r'⟩ := hl x a hk e; ⟨v, e', VR.rsv F.inv r r'⟩⟩
 ·obtain ⟨cl, v, hc, hv, hl⟩ := F.loc.cell x hk
  exact ⟨cl, v, hc, hv, fun b hb => let ⟨a, e, r⟩ := hm x b hb; let ⟨v', e', r'⟩ := hl a e; ⟨v', e', VR.rsv F.inv r r'⟩⟩
noncomputable def Ret (H0 : List AObj) (Q : V → List AObj → Prop) : AF → Loc → List AObj → Prop := fun f za H' => ∃ a, (match f with | .ret c => c = a | .next => a = .none | _ => False) ∧ (Q a H' ∨ ∃ b n, Rsv n H' a b ∧ b.within n = true ∧ H0.length ≤ n ∧
 (∀ (k : Nat) (o : AObj), (H'.take n)[k]? = some o → o.within n = true) ∧ Q b (H'.take n))
theorem Ret.keep {H0 H' : List AObj} {Q : V → List AObj → Prop} {a : V} {m : Loc} (q : Q a H') : Ret H0 Q (.ret a) m H' := ⟨a, rfl, .inl q⟩
theorem Ret.none {H0 H' : List AObj} {Q : V → List AObj → Prop} {m : Loc} (q : Q .none H') : Ret H0 Q .next m H' := ⟨.none, rfl, .inl q⟩
theorem Ret.drop {H0 l : List AObj} {Q : V → List AObj → Prop} {a b : V} {m : Loc} (hin : ∀ (k : Nat) (o : AObj), H0[k]? = some o → o.within H0.length = true) (hr : Rsv H0.length (H0 ++ l) a b) (hw : b.within H0.length = true) (q : Q b H0) : Ret H0 Q (.ret a) m (H0 ++ l) :=
 ⟨a, rfl, .inr ⟨b, H0.length, hr, hw, Nat.le_refl _, by rw [List.take_left']; exact hin; rfl, by rw [List.take_left']; exact q; rfl⟩⟩
noncomputable def argLoc : List Str → List V → Loc
 | p :: ps, a :: as => (argLoc ps as).put p a
 | _, _ => fun za => none
theorem argLoc_zip : ∀ (ps : List Str) (as : List V) (x : Str), argLoc ps as x = (ps.zip as).lookup x
 | [], _, _ => rfl
 | _ :: _, [], _ => rfl
 | p :: ps, a :: as, x => by
  rw [List.zip_cons_cons, List.lookup_cons, ← argLoc_zip ps as x]
  show (if x = p then some a else argLoc ps as x) = _
  by_cases h : x = p
  ·rw [if_pos h, beq_iff_eq.mpr h]
  ·rw [if_neg h, beq_eq_false_iff_ne.mpr h]
theorem Loc.put_eq {m : Loc} {x : Str} {a : V} : (m.put x a) x = some a := if_pos rfl
theorem Loc.put_ne {m : Loc} {x y : Str} {a : V} {r : Option V} (h : (x == y) = false) (k : m x = r) : (m.put y a) x = r := (if_neg (beq_eq_false_iff_ne.mp h)).trans k
theorem compLoc_free {sc scope : Scope} {m : Loc} {x : Str} {r : Option V} (h : (scope.names.lookup x == some .free) = true) (k : m x = r) : compLoc sc scope m x = r := (if_pos h).trans k
theorem compLoc_none {sc scope : Scope} {m : Loc} {x : Str} (h : (scope.names.lookup x == some .free) = false) : compLoc sc scope m x = none := if_neg (by rw [h]; exact Bool.false_ne_true)
structure FnOk (W : Wd) (fa : Addr) (fd : FuncData) (body : List Stmt) : Prop where
 here : ∃ o, W.K.lookup fa = some o ∧ o.data = .func fd
 code : codeIn W.K fd.code fd.qualname = true
 body : fd.body = .stmts body
 clo : fd.closure = []
 glob : fd.globals = mainGlobals
 blt : fd.builtins = builtinsNs
 co : fd.scope.isCoroutine = false
 gen : fd.scope.isGenerator = false
 kind : fd.scope.kind = .function
 names : (fd.scope.names.all fun y => y.2 != .free) = true
 nodup : ((cellsFrom 0 fd.scope.names []).map (·.1)).Nodup
theorem bindL_out {kindOf : Str → Option NameKind} {x : Str} : ∀ {binds : List (Str × Value)} {ml : Str → Option Value}, x ∉ binds.map (·.1) → bindL kindOf binds ml x = ml x
 | [], _, _ => rfl
 | (n, v) :: r, ml, h => by
  unfold bindL
  rw [bindL_out (fun q => h (.tail _ q))]
  split
  ·have : x ≠ n := fun q => h (q ▸ .head _)
   show (if x = n then _ else _) = _
   rw [if_neg this]
  ·rfl
theorem bindL_in {kindOf : Str → Option NameKind} {x : Str} {v : Value} (hk : kindOf x = some .local) : ∀ {binds : List (Str × Value)} {ml : Str → Option Value}, (binds.map (·.1)).Nodup → binds.lookup x = some v → bindL kindOf binds ml x = some v
 | (n, u) :: r, ml, hn, h => by
  unfold bindL
  rw [List.map_cons, List.nodup_cons] at hn
  by_cases q : x = n
  ·subst q
   have : u = v := by simpa using h
   subst this
   rw [bindL_out hn.1, if_pos hk]
   simp
  ·exact bindL_in hk hn.2 (by simpa [List.lookup_cons, beq_eq_false_iff_ne.mpr q] using h)
theorem bindC_out {kindOf : Str → Option NameKind} {x : Str} : ∀ {binds : List (Str × Value)} {ml : Str → Option Value}, x ∉ binds.map (·.1) → bindC kindOf binds ml x = ml x
 | [], _, _ => rfl
 | (n, v) :: r, ml, h => by
  unfold bindC
  rw [bindC_out (fun q => h (.tail _ q))]
  split
  ·rfl
  ·have : x ≠ n := fun q => h (q ▸ .head _)
   show (if x = n then _ else _) = _
   rw [if_neg this]
theorem bindC_in {kindOf : Str → Option NameKind} {x : Str} {v : Value} (hk : kindOf x = some .cell) : ∀ {binds : List (Str × Value)} {ml : Str → Option Value}, (binds.map (·.1)).Nodup → binds.lookup x = some v → bindC kindOf binds ml x = some v
 | (n, u) :: r, ml, hn, h => by
  unfold bindC
  rw [List.map_cons, List.nodup_cons] at hn
  by_cases q : x = n
  ·subst q
   have : u = v := by simpa using h
   subst this
   rw [bindC_out hn.1, if_neg (by rw [hk]; intro e; cases e)]
   simp
  ·exact bindC_in hk hn.2 (by simpa [List.lookup_cons, beq_eq_false_iff_ne.mpr q] using h)
theorem cellsFrom_names : ∀ (names : List (Str × NameKind)) (n n' : Nat) (acc acc' : List (Str × Addr)), acc.map (·.1) = acc'.map (·.1) → (cellsFrom n names acc).map (·.1) = (cellsFrom n' names acc').map (·.1)
 | [], _, _, _, _, h => h
 | (x, k) :: r, n, n', acc, acc', h => by
  unfold cellsFrom
  split
  ·exact cellsFrom_names r _ _ _ _ (by simp [h])
  ·exact cellsFrom_names r _ _ _ _ h
theorem lookup_of_nodup {α : Type} : ∀ {l : List (Str × α)} {n : Str} {c : α}, (l.map (·.1)).Nodup → (n, c) ∈ l → l.lookup n = some c
 | (k, v) :: r, n, c, hn, h => by
  rw [List.map_cons, List.nodup_cons] at hn
  rcases List.mem_cons.mp h with e | h
  ·cases e; simp
  ·have q : n ≠ k := fun q => hn.1 (q ▸ List.mem_map.mpr ⟨_, h, rfl⟩)
   rw [List.lookup_cons, beq_eq_false_iff_ne.mpr q]
   exact lookup_of_nodup hn.2 h
theorem zip_lookup {c : Cx} {x : Str} {a : V} : ∀ {ps : List Str} {as : List V} {vs : List Value}, VRs c as vs → (ps.zip as).lookup x = some a → ∃ v, (ps.zip vs).lookup x = some v ∧ VR c a v
 | [], _, _, _, h => by simp at h
 | _ :: _, [], _, _, h => by simp at h
 | p :: ps, b :: as, _, ⟨v, r, e, h1, h2⟩, h => by
  subst e
  rw [List.zip_cons_cons, List.lookup_cons] at h ⊢
  by_cases q : x = p
  ·rw [beq_iff_eq.mpr q] at h ⊢
   cases h
   exact ⟨v, rfl, h1⟩
  ·rw [beq_eq_false_iff_ne.mpr q] at h ⊢
   exact zip_lookup h2 h
theorem zip_names {ps : List Str} {vs : List Value} : ((ps.zip vs).map (·.1)).Nodup ∨ ¬ ps.Nodup := by
 by_cases h : ps.Nodup
 ·refine .inl ?_
  have : (ps.zip vs).map (·.1) = ps.take vs.length := by
   induction ps generalizing vs with
   | nil => simp
   | cons p ps ih =>
    cases vs with
    | nil => simp
    | cons v vs => simp [ih (List.nodup_cons.mp h).2]
  rw [this]
  exact h.sublist (List.take_sublist ..)
 ·exact .inr h
theorem cellsRun {fa : Addr} {fd : FuncData} {body : List Stmt} {ps : List Str} {as ds : List V} {vs dvs : List Value} {Q : V → List AObj → Prop} (hd : d < 100) (hA : A.handled = none ∧ A.depth ≤ 302 + 2 * d ∧ A.units ≤ 9 + 8 * d) (O : FnOk W fa fd body)
  (I : Inv W.hb Φ μ H s.heap) (r : VRs (cx Φ μ H s.heap) (as ++ ds) (vs ++ dvs)) (hbind : BindsTo s fd ⟨vs, []⟩ (ps.zip (vs ++ dvs))) (hps : ps.Nodup) (hk : (ps.all fun x => fd.scope.names.lookup x == some .local || fd.scope.names.lookup x == some .cell) = true)
  (h : (∀ (k : Nat) o, H[k]? = some o → o.within H.length = true) → Ss W fd.scope (d + 1) body (argLoc ps (as ++ ds)) H (Ret H Q)) {R : Result → Shared → Prop} (k : ∀ v s', PPost W Φ μ H s VR Q v s' → R (.ok (.ret v)) s') :
  codeAny W.M A (.call (.ref fa) ⟨vs, []⟩) R s := by
 have cX : True := trivial
 revert W d A Φ μ H s fa fd body ps as ds vs dvs Q hd hA O I r hbind hps hk h R k
 rintro W d A Φ μ H s fa fd body ps as ds vs dvs Q hd hA O I r hbind hps hk h R k
 obtain ⟨o, ho, hdata⟩ := O.here
 have X := I.kin
 have hz : ((ps.zip (vs ++ dvs)).map (·.1)).Nodup := zip_names.elim id fun z => absurd hps z
 have hroom : A.depth < recursionLimit := by have := hA.2.1; unfold recursionLimit; lia
 have hlim := I.two.2.nolimit.keeps I.base
 refine codeAny_call_function hroom (X _ _ ho) hdata O.co O.gen O.body (codeRec_of X O.code) (hbind _ _ _ _ ?_)
 rw [O.clo]
 refine wpAny_newFunctionEnv_cells O.kind (fun y hy => ?_) fun env0 he0 s1 C => ?_
 ·have hm : y.1 ∈ ps := by
   have := List.of_mem_zip (a := y.1) (b := y.2) hy
   exact this.1
  have := List.all_eq_true.mp hk _ hm
  simp only [Bool.or_eq_true, beq_iff_eq] at this
  rcases this with q | q
  ·exact .inl q
  ·exact .inr ⟨q, cellsFrom_some _ _ _ (.inl q)⟩
 subst he0
 refine ⟨hlim.keeps C.toInCall.keep, codeAny_func ?_⟩
 show wpAny W.M (A.deeper (callEnvC fd s.heap.objs.size fa)) (execs body (callEnvC fd s.heap.objs.size fa)) _ _ s1
 have C : InCallC s (callEnvC fd s.heap.objs.size fa).locals (bindL (callEnvC fd s.heap.objs.size fa).kindOf (ps.zip (vs ++ dvs)) fun za => none) (callEnvC fd s.heap.objs.size fa).cells (bindC (callEnvC fd s.heap.objs.size fa).kindOf (ps.zip (vs ++ dvs)) fun za => none) s1 := C
 generalize he : callEnvC fd s.heap.objs.size fa = env at C ⊢
 have hL : env.locals = s.heap.objs.size := by rw [← he]; rfl
 have hC : env.cells = cellsFrom (s.heap.objs.size + 1) fd.scope.names [] := by rw [← he]; rfl
 have hS : env.scope = fd.scope := by rw [← he]; rfl
 obtain ⟨⟨⟨h1, tk, rfl⟩, hns, keep, hfr⟩, hcell, hap, habove⟩ := C
 have hnd : (env.cells.map (·.1)).Nodup := by rw [hC, cellsFrom_names _ _ 0 [] [] rfl]; exact O.nodup
 have fpf : ∀ b, b ∈ Fp env → s.heap.get? b = none := fun b q => by
  have hge : s.heap.objs.size ≤ b := by
   rcases List.mem_cons.mp q with rfl | q
   ·rw [hL]; exact Nat.le_refl _
   ·obtain ⟨p, hp, rfl⟩ := List.mem_map.mp q
    have := habove p.1 p.2 hp
    rw [hL] at this
    exact Nat.le_of_lt this
  cases e : s.heap.get? b with
  | none => rfl
  | some o' => exact absurd (Heap.lt_size e) (Nat.not_lt.mpr hge)
 have fpa : ∀ b, b ∈ Fp env → ∃ o, h1.get? b = some o := fun b q => by
  rcases List.mem_cons.mp q with rfl | q
  ·obtain ⟨o', _, _, e, _⟩ := hns; exact ⟨o', e⟩
  ·obtain ⟨p, hp, rfl⟩ := List.mem_map.mp q
   obtain ⟨o', e, _⟩ := hcell p.1 p.2 (lookup_of_nodup hnd hp)
   exact ⟨o', e⟩
 have SW := widen_step (Φ := Φ) (μ := μ) (H := H) (Ψ := Fp env) keep fpf
 have F : Fm W fd.scope (d + 1) env (A.deeper env) (Fp env ++ Φ) (argLoc ps (as ++ ds)) μ H { s with heap := h1, toks := tk } := by
  refine ⟨⟨hS, by rw [← he]; exact O.glob, by rw [← he]; exact O.blt, O.kind⟩, ⟨fun b q => List.mem_append_left _ q, fun x c e => ?_, fun x y c e1 e2 => ?_⟩, ⟨hA.1, ?_, ?_, hd⟩, I.widen keep fpf fpa, ⟨_, hns, fun x a hkx hx => ?_⟩, fun x hkx => ?_⟩
  ·exact Nat.ne_of_gt (habove x c (mem_of_lookup e))
  ·exact name_of_addr hap (mem_of_lookup e1) (mem_of_lookup e2)
  ·show A.depth + 1 ≤ _; have := hA.2.1; lia
  ·show A.units + 3 ≤ _; have := hA.2.2; lia
  ·obtain ⟨v, e, rv⟩ := zip_lookup r ((argLoc_zip _ _ _).symm.trans hx)
   exact ⟨v, bindL_in hkx hz e, rv.step SW⟩
  ·have hkc : fd.scope.names.lookup x = some .cell := by
    have h0 : env.kindOf x = fd.scope.names.lookup x := by unfold Env.kindOf; rw [hS]
    rw [h0] at hkx
    rcases hkx with q | q
    ·exact q
    ·have := List.all_eq_true.mp O.names _ (mem_of_lookup q)
     simp at this
   obtain ⟨c, hc⟩ := Option.isSome_iff_exists.mp (cellsFrom_some fd.scope.names (s.heap.objs.size + 1) [] (.inl hkc))
   rw [← hC] at hc
   refine ⟨c, _, hc, hcell x c hc, fun a ha => ?_⟩
   obtain ⟨v, e, rv⟩ := zip_lookup r ((argLoc_zip _ _ _).symm.trans ha)
   have h0 : env.kindOf x = some .cell := by unfold Env.kindOf; rw [hS]; exact hkc
   exact ⟨v, bindC_in h0 hz e, rv.step SW⟩
 refine wpAny_mono (h (fun k o e => I.isIn e) env (A.deeper env) _ μ _ F) (fun f s' ⟨b, m', H', μ', K, I', L', rf, a, hf, hq⟩ => ?_) fun za zb x => x.elim
 have KK : Keep [] μ H s μ' H' s' := ((Keep.grow (t := tk) keep : Keep (Fp env) μ H s μ H { s with heap := h1, toks := tk }).trans K).weak fun b q => .inr (fpf b q)
 have IN := I'.narrow
 have fin : ∀ v, VR (cx (Fp env ++ Φ) μ' H' s'.heap) a v → PPost W Φ μ H s VR Q v s' := fun v rv => by
  rcases hq with q | ⟨b', n, hr, hw, hn, hob, q⟩
  ·exact ⟨a, _, _, KK, IN, rv.step narrow_step, q⟩
  ·have hlen : μ.length ≤ n := by rw [I.len]; exact hn
   have IK := IN.killed n
   have IT : Inv W.hb Φ (μ'.take n) ((kill n H').take n) s'.heap := IK.take fun k o e => hob k o (by rw [← kill_take]; exact e)
   have KT : Keep [] μ H s (μ'.take n) ((kill n H').take n) s' := (KK.trans (Keep.killed n)).take hlen
   have r1 := VR.rsv IN hr (rv.step narrow_step)
   exact ⟨b', _, _, KT, IT, VR.take _ _ r1 hw, by rw [kill_take]; exact q⟩
 cases b with
 | next => cases rf; subst hf; exact k _ _ (fin .none rfl)
 | brk => exact hf.elim
 | cont => exact hf.elim
 | ret c => obtain ⟨v, rfl, rv⟩ := rf; subst hf; exact k _ _ (fin v rv)
theorem C_fn {fa : Addr} {fd : FuncData} {body : List Stmt} {ps : List Str} {as : List V} {Q : V → List AObj → Prop} (hd : d < 100) (O : FnOk W fa fd body)
  (hbind : ∀ vs, vs.length = as.length → bindArgs fd ⟨vs, []⟩ = pure (ps.zip vs)) (hps : ps.Nodup) (hk : (ps.all fun x => fd.scope.names.lookup x == some .local || fd.scope.names.lookup x == some .cell) = true)
  (h : (∀ (k : Nat) o, H[k]? = some o → o.within H.length = true) → Ss W fd.scope (d + 1) body (argLoc ps as) H (Ret H Q)) : Cl W d (.ref fa) as H Q := fun A Φ μ s vs ha I r => by
 refine wpAny_call (cellsRun (as := as) (ds := []) (dvs := []) hd ⟨ha.handled, by have := ha.depth; lia, by have := ha.units; lia⟩ O I (by simpa using r) (by rw [List.append_nil]; exact .of_eq (hbind vs r.length)) hps hk (by simpa using h) fun v s' p => p)
theorem C_fnD {fa : Addr} {fd : FuncData} {body : List Stmt} {ps : List Str} {as ds : List V} {dvs : List Value} {Q : V → List AObj → Prop} (hd : d < 100) (O : FnOk W fa fd body)
  (hbind : ∀ vs s, vs.length = as.length → W.K.In s.heap → BindsTo s fd ⟨vs, []⟩ (ps.zip (vs ++ dvs))) (hds : ∀ c, VRs c ds dvs) (hps : ps.Nodup) (hk : (ps.all fun x => fd.scope.names.lookup x == some .local || fd.scope.names.lookup x == some .cell) = true)
  (h : (∀ (k : Nat) o, H[k]? = some o → o.within H.length = true) → Ss W fd.scope (d + 1) body (argLoc ps (as ++ ds)) H (Ret H Q)) : Cl W d (.ref fa) as H Q := fun A Φ μ s vs ha I r => by
 refine wpAny_call (cellsRun (as := as) (ds := ds) (dvs := dvs) hd ⟨ha.handled, by have := ha.depth; lia +abstractProof, by have := ha.units; lia +abstractProof⟩ O I (r.append (hds _)) (hbind vs s r.length I.kin) hps hk h fun v s' p => p)
end
end Mine
set_option tactic.hygienic false
namespace Mine
section
variable {W : Wd} {sc scope : Scope} {d : Nat} {env : Env} {A : Around} {Φ Ψ : List Addr} {m m' : Loc} {μ μ' : List (Addr × Addr)} {H H' : List AObj} {s s' : Shared}
inductive SetA (W : Wd) (x : Str) (a b : V) (H : List AObj) (Q : List AObj → Prop) : Prop where
 | mk (k : Nat) (C : Addr) (ns : List Str) (xs : List V) (e : b = .ref k) (g : H[k]? = some (.inst C ns xs)) (s : storeOk W.K C x = true) (l : ns.length ≤ 900) (l' : xs.length = ns.length) (q : Q (H.set k (.inst C (fputN ns x) (fputV ns xs x a))))
theorem S_setAttr {o : Expr} {x : Str} {px : Pos} {e : Expr} {pos : Pos} {Q : AF → Loc → List AObj → Prop} (h : Ev W sc d e m H fun a H1 => Ev W sc d o m H1 fun b H2 => SetA W x a b H2 (Q .next m))
  (hs : ∀ env, swapsWith e (some (.Attribute o x px)) pos.line env = pure false := by intro _; with_unfolding_all rfl) : Sx W sc d (.Assign [.Attribute o x px] e pos) m H Q := fun env A Φ μ s F =>
 plainObj_wpAny_Assign_Attribute (JPost.goE F (h env A Φ μ s F) fun v s1 a H1 μ1 F1 K1 r1 q1 => by
  exact JPost.goE F1 (q1 env A Φ μ1 s1 F1) fun u s2 b H2 μ2 F2 K2 r2 ⟨k, C, ns, xs, eb, hk, ok, hl, hlx, q⟩ => by
   subst eb
   obtain ⟨p, hp, rfl, hne, g, vs, own, rr⟩ := F2.inv.at hk r2
   have ra := r1.step (F1.stepF K2)
   refine setAttr_inst F2.inv ok g own hl hne fun h' t own' hs => ?_
   have hd : (AObj.inst C ns xs) ≠ .dead := by intro e; cases e
   have kp : ∀ b ob, b ≠ p.1 → b ≠ p.2 → s2.heap.get? b = some ob → h'.get? b = some ob := fun b ob za n2 e => (hs.2 b n2).trans e
   have g1 : h'.get? p.1 = some (instObj C p.2) := (hs.2 _ hne).trans g
   have g2 : ∃ x, h'.get? p.2 = some x := let ⟨es, n, e, _⟩ := own'; ⟨_, e⟩
   have I3 : Inv W.hb Φ μ2 (H2.set k (.inst C (fputN ns x) (fputV ns xs x a))) h' := F2.inv.set hk hd hp kp ⟨_, g1⟩ g2 fun S => ⟨hne, g1, _, own', (rr.step S).fput (ra.step S)⟩
   have K3 : Keep [] μ2 H2 s2 μ2 (H2.set k (.inst C (fputN ns x) (fputV ns xs x a))) { s2 with heap := h', toks := t } := Keep.set hk hd hp kp ⟨_, g1⟩ g2
   have F3 := F2.move0 K3 I3
   exact JPost.ofK ((K1.trans K2).trans K3.weak0) (JPost.here (b := AF.next) F3 rfl q)) (hs env)
noncomputable def putAll : List Expr → List V → Loc → Loc
 | .Name x _ :: ts, a :: as, m => putAll ts as (m.put x a)
 | _, _, m => m
theorem putAll_c {x : Str} {p : Pos} {ts : List Expr} {a : V} {as : List V} {m : Loc} : putAll (.Name x p :: ts) (a :: as) m = putAll ts as (m.put x a) := rfl
theorem putAll_n {as : List V} {m : Loc} : putAll [] as m = m := rfl
noncomputable def nameOf : Expr → Option (Str × Pos)
 | .Name x p => some (x, p)
 | _ => none
theorem nameOf_some {t : Expr} {x : Str × Pos} (h : nameOf t = some x) : t = .Name x.1 x.2 := by
 cases t <;> first | (cases h; done) | (cases h; rfl)
noncomputable def namesOk (sc : Scope) (ts : List Expr) : Bool := ts.all fun t => match nameOf t with
 | some x => sc.names.lookup x.1 == some .local || sc.names.lookup x.1 == some .cell
 | none => false
theorem namesOk_inv {t : Expr} {ts : List Expr} (h : namesOk sc (t :: ts) = true) : (∃ x p, t = .Name x p ∧ (sc.names.lookup x = some .local ∨ sc.names.lookup x = some .cell)) ∧ namesOk sc ts = true := by
 have h := Bool.and_eq_true_iff.mp (show (_ && namesOk sc ts) = true from h)
 refine ⟨?_, h.2⟩
 have z := h.1
 dsimp only at z
 cases e : nameOf t with
 | none => rw [e] at z; cases z
 | some x => rw [e] at z; exact ⟨x.1, x.2, nameOf_some e, by simpa using z⟩
theorem assignNames {Q : Loc → List AObj → Prop} : ∀ (ts : List Expr) (as : List V) (m : Loc) (μ : List (Addr × Addr)) (H : List AObj) (s : Shared) (vs : List Value), namesOk sc ts = true → ts.length = as.length → Fm W sc d env A Φ m μ H s → VRs (cx Φ μ H s.heap) as vs → Q (putAll ts as m) H →
  wpAny W.M A (assignInOrder ((assignEach ts env).map (·.2)) vs) (JPost W env Φ μ H s (fun _ (_ : Unit) (_ : Unit) => True) fun za m' H' => Q m' H') Bot s
 | [], [], m, μ, H, s, vs, _, _, F, r, q => by
  have : vs = [] := r
  subst this
  show wpAny _ _ (pure ()) _ _ _
  exact wpAny_pure (JPost.here (b := ()) F trivial q)
 | [], _ :: _, _, _, _, _, _, _, hl, _, _, _ => by simp at hl
 | _ :: _, [], _, _, _, _, _, _, hl, _, _, _ => by simp at hl
 | t :: ts, a :: as, m, μ, H, s, vs, hk, hl, F, r, q => by
  obtain ⟨v, vs', rfl, r1, r2⟩ := r
  obtain ⟨⟨x, px, rfl, hx⟩, h2⟩ := namesOk_inv hk
  show wpAny _ _ (do holding vs' (assign (.Name x px) env v); assignInOrder ((assignEach ts env).map (·.2)) vs') _ _ _
  refine wpAny_bind (wpAny_holding (wpAny_assign_Name ?_))
  refine JPost.goE F (storeAny (a := a) (Q := fun m' H' => m' = m.put x a ∧ H' = H) hx F r1 ⟨rfl, rfl⟩) fun za s3 zb H3 μ3 F3 K3 zc e2 => ?_
  subst e2
  exact JPost.wp K3 (assignNames ts as _ μ3 H3 s3 vs' h2 (by simpa using hl) F3 (r2.step (F.stepF K3)) q)
theorem each_len {ts : List Expr} (hk : namesOk sc ts = true) : (assignEach ts env).length = ts.length ∧ (assignEach ts env).findIdx? (·.1) = none := by
 have cX : True := trivial
 revert sc env ts hk
 rintro sc env ts hk
 induction ts with
 | nil => exact ⟨rfl, rfl⟩
 | cons t ts ih =>
  obtain ⟨⟨x, px, rfl, _⟩, h2⟩ := namesOk_inv hk
  obtain ⟨i1, i2⟩ := ih h2
  have e : assignEach (.Name x px :: ts) env = (false, assign (.Name x px) env) :: assignEach ts env := rfl
  rw [e]
  exact ⟨by simp [i1], by rw [List.findIdx?_cons]; simpa using i2⟩
theorem A_tup {ts : List Expr} {k : Nat} {pos : Pos} {as : List V} {Q : Loc → List AObj → Prop} (hk : namesOk sc ts = true) (hl : ts.length = as.length) (q : Q (putAll ts as m) H) : As W sc d (.Tuple ts k pos) (.tup as) m H Q := by
 have cX : True := trivial
 revert W sc d m H ts k pos as Q hk hl q
 rintro W sc d m H ts k pos as Q hk hl q
 rintro env A Φ μ s v F r
 obtain ⟨a, vs, rfl, g, na, rr⟩ := r
 obtain ⟨l1, l2⟩ := each_len (env := env) hk
 refine wpAny_assign_Tuple F.a.handled g.isTuple (by rw [l1, hl, List.size_toArray, rr.length]) l2 ?_
 rintro h' he
 have kp : ∀ b o, s.heap.get? b = some o → h'.get? b = some o := fun b o e => he b o (fun q => by rw [q, get_size] at e; cases e) e
 have K : Keep (Fp env) μ H s μ H { s with heap := h' } := Keep.grow (t := s.toks) kp
 have F2 : Fm W sc d env A Φ m μ H { s with heap := h' } := F.move0 (Keep.grow (t := s.toks) kp) (F.inv.grow kp)
 exact JPost.wp K (assignNames ts as m μ H _ vs hk hl F2 (rr.step (grow_step kp)) q)
theorem S_setTup {ts : List Expr} {k : Nat} {tpos : Pos} {value : Expr} {pos : Pos} {Q : AF → Loc → List AObj → Prop} (h : Ev W sc d value m H fun a H1 => As W sc d (.Tuple ts k tpos) a m H1 fun m2 H2 => Q .next m2 H2)
  (hs : ∀ env, EnvOk sc env → swapsWithSole [.Tuple ts k tpos] value pos.line env = pure false := by intro _ _; rfl) (hw : ∀ env, EnvOk sc env → swappedStores [.Tuple ts k tpos] value env = pure none := by intro _ _; rfl) :
  Sx W sc d (.Assign [.Tuple ts k tpos] value pos) m H Q := fun env A Φ μ s F =>
 Assign_Tuple (JPost.goE F (h env A Φ μ s F) fun v s1 a H1 μ1 F1 K1 r1 q1 => by
  refine JPost.thenFm F1 (q1 env A Φ μ1 s1 v F1 r1) fun za s2 zb m2 H2 μ2 F2 K2 zc q2 => ?_
  exact JPost.ofK (K1.trans K2) (JPost.here (b := AF.next) F2 rfl q2)) (hs env F.en) (hw env F.en)
theorem S_swap {x y : Str} {px py p3 p4 : Pos} {k : Nat} {tpos pos : Pos} {vs : List Expr} {kv : Nat} {vpos : Pos} {a b : V} {Q : AF → Loc → List AObj → Prop}
  (h : Ev W sc d (.Tuple vs kv vpos) m H fun r H1 => r = .tup [a, b] ∧ Q .next ((m.put y b).put x a) H1)
  (hx : sc.names.lookup x = some .local) (hy : sc.names.lookup y = some .local)
  (hw : ∀ env, EnvOk sc env → swappedStores [.Tuple [.Name x px, .Name y py] k tpos] (.Tuple vs kv vpos) env = pure (some [x, y])) :
  Sx W sc d (.Assign [.Tuple [.Name x px, .Name y py] k tpos] (.Tuple vs kv vpos) pos) m H Q := fun env A Φ μ s F =>
 Assign_Tuple_swapped (names := [x, y]) (JPost.goE F (h env A Φ μ s F) fun v s1 r H1 μ1 F1 K1 r1 ⟨er, q1⟩ => by
  subst er
  obtain ⟨t, us, rfl, g, na, rr⟩ := r1
  have hl := rr.length
  have hu : us.toArray.size = 2 := by rw [List.size_toArray, hl]; rfl
  show wpAny _ _ (unpackItems (.ref t) 2 none) _ _ _
  rw [← hu]
  refine wpAny_unpackItems_tuple F1.a.handled g.isTuple fun h' he => ?_
  obtain ⟨v1, r2, rfl, g1, v2, r3, rfl, g2, rfl⟩ := rr
  have kp : ∀ b o, s1.heap.get? b = some o → h'.get? b = some o := fun b o e => he b o (fun q => by rw [q, get_size] at e; cases e) e
  have K : Keep (Fp env) μ1 H1 s1 μ1 H1 { s1 with heap := h' } := Keep.grow (t := s1.toks) kp
  have F2 : Fm W sc d env A Φ m μ1 H1 { s1 with heap := h' } := F1.move0 (Keep.grow (t := s1.toks) kp) (F1.inv.grow kp)
  have S := grow_step (Φ := Φ) (μ := μ1) (H := H1) kp
  show wpAny _ _ (do holding [v1] (bindName env y v2); do holding [] (bindName env x v1); pure ()) _ _ _
  refine wpAny_bind (wpAny_holding (wpAny_bindName (JPost.goE F2 (storeLocal (a := b) (Q := fun m' H' => m' = m.put y b ∧ H' = H1) hy F2 (g2.step S) ⟨rfl, rfl⟩) fun za s3 zb H3 μ3 F3 K3 zc e2 => ?_)))
  subst e2
  refine wpAny_bind (wpAny_holding (wpAny_bindName (JPost.thenFm F3 (storeLocal (a := a) (Q := fun m' H' => Q .next m' H') hx F3 ((g1.step S).step (F2.stepF K3)) q1) fun za s4 zb m4 H4 μ4 F4 K4 zc q4 => ?_)))
  exact wpAny_pure (JPost.ofK (((K1.trans K).trans K3).trans K4) (JPost.here (b := AF.next) F4 rfl q4))) rfl (hw env F.en)
theorem C_class {C fI : Addr} {fd : FuncData} {body : List Stmt} {ps : List Str} {as : List V} {Q : V → List AObj → Prop} (hd : d < 100) (hm : makesIn W.K C = true) (hi : findIn W.K (.ref C) "__init__" = some (some (.ref fI)))
  (hf : typeIn W.K (.ref fI) = some (.type "function")) (O : FnOk W fI fd body)
  (hbind : ∀ vs, vs.length = as.length + 1 → bindArgs fd ⟨vs, []⟩ = pure (ps.zip vs)) (hps : ps.Nodup) (hk : (ps.all fun x => fd.scope.names.lookup x == some .local || fd.scope.names.lookup x == some .cell) = true)
  (h : (∀ (k : Nat) o, (H ++ [AObj.inst C [] []])[k]? = some o → o.within (H ++ [AObj.inst C [] []]).length = true) → Ss W fd.scope (d + 1) body (argLoc ps (.ref H.length :: as)) (H ++ [AObj.inst C [] []]) (Ret (H ++ [AObj.inst C [] []]) fun r H' => r = .none ∧ Q (.ref H.length) H')) :
  Cl W d (.ref C) as H Q := fun A Φ μ s vs ha I r => by
 obtain ⟨h0, g, dr, t, os⟩ := s
 have X := I.kin
 refine wpAny_call (make_core (makes_of X hm) (looks_findIn X hi) (fun self => bind_fn X self hf) (.inl rfl) ?_)
 have z1 : (h0.push emptyDict).objs.size = h0.objs.size + 1 := Heap.size_push ..
 have kp : ∀ b o, h0.get? b = some o → ((h0.push emptyDict).push (instObj C h0.objs.size)).get? b = some o := fun b o e => push_keeps _ b o (push_keeps _ b o e)
 have fr : ∀ n, h0.get? (h0.objs.size + n) = none := fun n => by
  cases e : h0.get? (h0.objs.size + n) with
  | none => rfl
  | some o => exact absurd (Heap.lt_size e) (Nat.not_lt.mpr (Nat.le_add_right _ _))
 have g1 : ((h0.push emptyDict).push (instObj C h0.objs.size)).get? (h0.objs.size + 1) = some (instObj C h0.objs.size) := by rw [← z1]; exact Heap.get?_push_size _ rfl
 have g2 : ((h0.push emptyDict).push (instObj C h0.objs.size)).get? h0.objs.size = some (dictOf [] 0) := push_keeps _ _ _ (Heap.get?_push_size h0 rfl)
 have hz := I.size2
 have I1 : Inv W.hb Φ (μ ++ [(h0.objs.size + 1, h0.objs.size)]) (H ++ [AObj.inst C [] []]) ((h0.push emptyDict).push (instObj C h0.objs.size)) :=
  I.add kp (fr 1) (fr 0) ⟨_, g1⟩ ⟨_, g2⟩ (Nat.lt_succ_of_lt (Nat.lt_of_succ_lt hz)) (Nat.lt_of_succ_lt hz) fun S => ⟨Nat.succ_ne_self _, g1, [], ⟨[], 0, g2, .nil⟩, rfl⟩
 have K1 : Keep [] μ H ⟨h0, g, dr, t, os⟩ (μ ++ [(h0.objs.size + 1, h0.objs.size)]) (H ++ [AObj.inst C [] []]) ⟨(h0.push emptyDict).push (instObj C h0.objs.size), g, dr, t, os⟩ := Keep.add I.len kp (fr 1) (fr 0)
 have hself : (μ ++ [(h0.objs.size + 1, h0.objs.size)])[H.length]? = some (h0.objs.size + 1, h0.objs.size) := by rw [← I.len, List.getElem?_concat_length]
 have r1 : VRs (cx Φ (μ ++ [(h0.objs.size + 1, h0.objs.size)]) (H ++ [AObj.inst C [] []]) ((h0.push emptyDict).push (instObj C h0.objs.size))) (.ref H.length :: as) (.ref (h0.objs.size + 1) :: vs) :=
  ⟨_, _, rfl, ⟨_, hself, rfl⟩, r.step (K1.step0)⟩
 refine cellsRun (A := A.under (.builtin "type.__call__" ⟨.ref C :: vs, []⟩)) (Q := fun r H' => r = .none ∧ Q (.ref H.length) H') (H := H ++ [AObj.inst C [] []]) (μ := μ ++ [(h0.objs.size + 1, h0.objs.size)]) (Φ := Φ) (s := ⟨(h0.push emptyDict).push (instObj C h0.objs.size), g, dr, t, os⟩) (vs := .ref (h0.objs.size + 1) :: vs) (as := .ref H.length :: as) (ds := []) (dvs := []) hd ⟨ha.handled, ?_, ?_⟩ O I1 (by simpa using r1) (by rw [List.append_nil]; exact .of_eq (hbind _ (by rw [List.length_cons, r.length]))) hps hk (by simpa using h) fun v s' ⟨b, H', μ', K, I', rv, eb, q⟩ => ?_
 ·show A.depth + 1 ≤ _; have := ha.depth; lia
 ·show A.units + 1 ≤ _; have := ha.units; lia
 ·subst eb
  exact ⟨rv, .ref H.length, H', μ', K1.trans K, I', ⟨_, K.mu _ _ hself, rfl⟩, q⟩
end
end Mine
set_option tactic.hygienic false
namespace Mine
section
variable {W : Wd} {sc scope : Scope} {d : Nat} {env : Env} {A : Around} {Φ Ψ : List Addr} {m m' : Loc} {μ μ' : List (Addr × Addr)} {H H' : List AObj} {s s' : Shared}
theorem PPost.newList {Q : V → List AObj → Prop} {xs : List V} {vs : List Value} {a : Addr} {h' : Heap} {t : Tok} (fz : Bool) (I : Inv W.hb Φ μ H s.heap) (kp : ∀ b o, s.heap.get? b = some o → h'.get? b = some o) (f : s.heap.get? a = none) (z : 1 < a)
  (g : LstAt h' a vs) (rr : VRs (cx Φ μ H s.heap) xs vs) (q : cpOut fz Q H xs) : PPost W Φ μ H s VR Q (.ref a) { s with heap := h', toks := t } := by
 have cX : True := trivial
 revert W Φ μ H s Q xs vs a h' t fz I kp f z g rr q
 rintro W Φ μ H s Q xs vs a h' t fz I kp f z g rr q
 have ga : ∃ o, h'.get? a = some o := let ⟨n, e⟩ := g; ⟨_, e⟩
 cases fz with
 | true =>
  have q' : Q (.lst xs) H := q
  have na : ¬ (cx Φ μ H s.heap).X a := by
   rintro (y | y)
   ·obtain ⟨_, o, e⟩ := I.live _ y; rw [f] at e; cases e
   ·obtain ⟨_, ⟨o, e⟩, _⟩ := I.phi _ y; rw [f] at e; cases e
  exact ⟨.lst xs, H, μ, Keep.grow kp, I.grow kp, ⟨a, vs, rfl, g, na, rr.step (grow_step kp)⟩, q'⟩
 | false =>
  have q' : Q (.ref H.length) (H ++ [.list xs]) := q
  refine ⟨.ref H.length, H ++ [.list xs], μ ++ [(a, a)], Keep.add I.len kp f f, I.add (o := .list xs) kp f f ga ga z z fun S => ⟨rfl, vs, g, rr.step S⟩, ⟨(a, a), ?_, rfl⟩, q'⟩
  show (μ ++ [(a, a)])[H.length]? = _
  rw [← I.len, List.getElem?_concat_length]
theorem Inv.newA (I : Inv W.hb Φ μ H s.heap) (n : Nat) : s.heap.get? (s.heap.objs.size + n) = none ∧ 1 < s.heap.objs.size + n := by
 refine ⟨?_, Nat.lt_of_lt_of_le (Nat.lt_of_succ_lt I.size2) (Nat.le_add_right _ _)⟩
 cases e : s.heap.get? (s.heap.objs.size + n) with
 | none => rfl
 | some o => exact absurd (Heap.lt_size e) (Nat.not_lt.mpr (Nat.le_add_right _ _))
noncomputable def AsList (a : V) (H : List AObj) (xs : List V) : Prop := a = .lst xs ∨ ∃ k, a = .ref k ∧ H[k]? = some (.list xs)
theorem AsList.lst {xs} : AsList (.lst xs) H xs := .inl rfl
theorem AsList.ref {k xs} (h : H[k]? = some (.list xs)) : AsList (.ref k) H xs := .inr ⟨k, rfl, h⟩
theorem AsList.look {a xs v} (h : AsList a H xs) (I : Inv W.hb Φ μ H s.heap) (r : VR (cx Φ μ H s.heap) a v) : ∃ p vs, v = .ref p ∧ LstAt s.heap p vs ∧ VRs (cx Φ μ H s.heap) xs vs := by
 have cX : True := trivial
 revert W Φ μ H s a xs v h I r
 rintro W Φ μ H s a xs v h I r
 rcases h with rfl | ⟨k, rfl, hk⟩
 ·obtain ⟨p, vs, e, g, _, rr⟩ := r; exact ⟨p, vs, e, g, rr⟩
 ·obtain ⟨p, hp, rfl, h2, vs, g, rr⟩ := I.at hk r; exact ⟨p.1, vs, rfl, g, rr⟩
theorem C_len {a : V} {xs : List V} {Q} (hx : AsList a H xs) (hl : xs.length ≤ 1000000) (h : Q (.int xs.length) H) : Cl W d (.builtin "len") [a] H Q := fun A Φ μ s vs ha I r => by
 obtain ⟨v, r1, rfl, hv, rfl⟩ := r
 obtain ⟨p, us, rfl, g, rr⟩ := hx.look I hv
 have e := rr.length
 refine Calls.call_len_list g.isList (by rw [List.size_toArray]; lia) ?_
 exact PPost.here (b := V.int xs.length) I ⟨_, by rw [List.size_toArray, e]⟩ h
theorem C_lenI {k : Nat} {ks : List Int} {xs : List V} {Q} (hk : H[k]? = some (.dictI ks xs)) (hl : ks.length ≤ 1000000) (h : Q (.int ks.length) H) : Cl W d (.builtin "len") [.ref k] H Q := fun A Φ μ s vs ha I r => by
 obtain ⟨v, r1, rfl, hv, rfl⟩ := r
 obtain ⟨p, hp, rfl, h2, es, n, us, g, nd, en, rr⟩ := I.at hk hv
 obtain ⟨_, _, l1, l2⟩ := en.get (W := W)
 have hz : (ks.zip us).length = ks.length := by rw [List.length_zip, l2, Nat.min_self]
 refine call_len_dict (knd := intKind W.prog W.w) (beq_eq_false_iff_ne.mpr fun e => ?_) (dictOf_I g nd en) (by rw [hz]; lia) ?_
 ·have := I.lo p.1 ⟨k, _, p, hk, (by intro e; cases e), hp, .inl rfl⟩
  rw [e] at this; exact absurd this (by decide)
 ·exact PPost.here (b := V.int ks.length) I ⟨_, by rw [hz]⟩ h
theorem Tr_list {a : V} {xs : List V} {Q : Bool → Prop} (hx : AsList a H xs) (hl : xs.length ≤ 1000000) (h : Q (!xs.isEmpty)) : Tr W d a H Q := by
 have cX : True := trivial
 revert W d H a xs Q hx hl h
 rintro W d H a xs Q hx hl h
 rintro A Φ μ s v ha I r
 obtain ⟨p, us, rfl, g, rr⟩ := hx.look I r
 have e := rr.length
 refine wpAny_truthy_list g.isList (by rw [List.size_toArray]; lia +abstractProof) ⟨_, rfl, ?_⟩
 have : (us.toArray.isEmpty) = xs.isEmpty := by
  cases us <;> cases xs <;> simp_all
 rw [this]; exact h
theorem Tr_tup {xs : List V} {Q : Bool → Prop} (hl : xs.length ≤ 1000000) (h : Q (!xs.isEmpty)) : Tr W d (.tup xs) H Q := by
 have cX : True := trivial
 revert W d H xs Q hl h
 rintro W d H xs Q hl h
 rintro A Φ μ s v ha I r
 obtain ⟨p, us, rfl, g, na, rr⟩ := r
 have e := rr.length
 obtain ⟨n, g'⟩ := g
 refine truthy_tuple ⟨_, g', rfl, n, rfl⟩ (by rw [List.size_toArray]; lia +abstractProof) ⟨_, rfl, ?_⟩
 have : (us.toArray.isEmpty) = xs.isEmpty := by
  cases us <;> cases xs <;> simp_all
 rw [this]; exact h
theorem C_range {n : Int} {Q} (h : Q (.rng n) H) : Cl W d (.type "range") [.int n] H Q := fun A Φ μ s vs ha I r => by
 obtain ⟨v, r1, rfl, ⟨t, rfl⟩, rfl⟩ := r
 refine call_range_1 (PPost.push (b := .rng n) I rfl (fun S g nx => ⟨_, rfl, ⟨_, _, _, g⟩, nx⟩) h)
theorem C_listRng {n : Int} {Q : V → List AObj → Prop} (fz : Bool) (h0 : 0 ≤ n) (h1 : n ≤ 1000000) (h : cpOut fz Q H ((List.range n.toNat).map fun i => V.int (i : Nat))) : Cl W d (.type "list") [.rng n] H Q := fun A Φ μ s vs ha I r => by
 obtain ⟨v, r1, rfl, ⟨a, rfl, ⟨t, u, w, g⟩, na⟩, rfl⟩ := r
 have hz : Builtin.Range.rangeSize 0 n 1 = (n.toNat : Int) := by unfold Builtin.Range.rangeSize; simp; lia
 refine call_list_range ha.handled g ?_ hz (by lia) fun h' tk acc c kp g' it => ?_
 ·unfold Builtin.Range.small
  rw [hz]
  simp [Builtin.Range.rangeFitsLong]
  lia
 ·obtain ⟨i1, i2⟩ := id it
  have hN := I.newA 0
  refine PPost.newList (vs := acc.toList) fz I kp hN.1 hN.2 ⟨c, by simpa using g'⟩ ?_ h
  have gen : ∀ (m : Nat), m ≤ n.toNat → VRs (cx Φ μ H s.heap) ((List.range m).map fun i => V.int (i : Nat)) (acc.toList.take m) := by
   intro m
   induction m with
   | zero => intro _; simp; rfl
   | succ m ih =>
    intro hm
    have hlt : m < acc.size := by lia
    rw [List.range_succ, List.map_append, List.take_add_one]
    have : acc.toList[m]? = some acc[m] := by simp [hlt]
    rw [this]
    obtain ⟨t, e⟩ := i2 m acc[m] (by simp [hlt])
    exact (ih (by lia)).push ⟨t, by rw [e]; simp⟩
  have := gen n.toNat (Nat.le_refl _)
  rwa [List.take_of_length_le (by simp; lia)] at this
theorem C_listOf {a : V} {xs : List V} {Q : V → List AObj → Prop} (fz : Bool) (hx : AsList a H xs) (hl : xs.length ≤ 1000000) (h : cpOut fz Q H xs) : Cl W d (.type "list") [a] H Q := fun A Φ μ s vs ha I r => by
 obtain ⟨v, r1, rfl, hv, rfl⟩ := r
 obtain ⟨p, us, rfl, ⟨n, g⟩, rr⟩ := hx.look I hv
 have hN := I.newA 0
 refine call_list_seq (T := "list") p (.inl rfl) g rfl rfl (fun h' c kp g' => ?_) (by rw [List.size_toArray, rr.length, sizeLine_eq]; lia)
 exact PPost.newList (vs := us) (t := s.toks) fz I kp hN.1 hN.2 ⟨c, g'⟩ rr h
theorem P_addL {a b : V} {xs ys : List V} {Q : V → List AObj → Prop} (fz : Bool) (hx : AsList a H xs) (hy : AsList b H ys) (hl : xs.length + ys.length ≤ 1000000) (h : cpOut fz Q H (xs ++ ys)) : Pr2 W d (binaryOp .Add) a b H Q := by
 have cX : True := trivial
 revert W d H a b xs ys Q fz hx hy hl h
 rintro W d H a b xs ys Q fz hx hy hl h
 rintro A Φ μ s u v ha I r r'
 obtain ⟨p, us, rfl, ⟨n, g⟩, rr⟩ := hx.look I r
 obtain ⟨p2, us2, rfl, ⟨n2, g2⟩, rr2⟩ := hy.look I r'
 have hN := I.newA 0
 refine P.add_list g g2 ?_ (by rw [List.size_toArray, List.size_toArray, rr.length, rr2.length, sizeLine_eq]; lia)
 exact PPost.newList (vs := us ++ us2) (t := s.toks) fz I (push_keeps _) hN.1 hN.2 ⟨0, (Heap.get?_push_size _ rfl).trans (by simp)⟩ (rr.append rr2) h
theorem foldl_rep (xs : List Value) : ∀ (k : Nat) (acc : Array Value), List.foldl (fun x1 x2 => x1 ++ x2) acc (List.replicate k xs.toArray) = acc ++ ((List.replicate k xs).flatten).toArray
 | 0, acc => by simp
 | k + 1, acc => by rw [List.replicate_succ, List.foldl_cons, foldl_rep xs k, List.replicate_succ, List.flatten_cons]; simp
theorem VRs.rep {c : Cx} {xs : List V} {vs : List Value} (r : VRs c xs vs) : ∀ k, VRs c (List.replicate k xs).flatten (List.replicate k vs).flatten
 | 0 => rfl
 | k + 1 => by rw [List.replicate_succ, List.replicate_succ, List.flatten_cons, List.flatten_cons]; exact r.append (r.rep k)
theorem P_mulL {a : V} {xs : List V} {n : Int} {Q : V → List AObj → Prop} (fz : Bool) (hx : AsList a H xs) (h0 : -(2 ^ 62) ≤ n) (hl : xs.length * n.toNat ≤ 1000000) (h2 : n ≤ 1000000) (h : cpOut fz Q H (List.replicate n.toNat xs).flatten) : Pr2 W d (binaryOp .Mult) a (.int n) H Q := by
 have cX : True := trivial
 revert W d H a xs n Q fz hx h0 hl h2 h
 rintro W d H a xs n Q fz hx h0 hl h2 h
 rintro A Φ μ s u v ha I r ⟨t, e⟩
 subst e
 obtain ⟨p, us, rfl, ⟨k, g⟩, rr⟩ := hx.look I r
 have hN := I.newA 0
 have hz : us.toArray.size = xs.length := by rw [List.size_toArray, rr.length]
 refine wpAny_binaryOp_repeat_ref (T := "list") (U := "int") (by decide) ⟨_, g, rfl⟩ (fun s' => typeIs_int s' n t) noFill_list_mul F.fills_int_mul F.slot_int_rmul repeat_list F.slot_int_index.lookup
  (call_meets F.slot_int_rmul (typeIs_int s n t) F.entry_int_rmul (F.args_int_rmul_2 _ _) (int___rmul___int_list n t p us.toArray k)
   ⟨g, rfl, ⟨_, g, rfl⟩, call_meets F.slot_list_mul ⟨_, g, rfl⟩ F.entry_list_mul (F.args_list_mul_2 _ _)
    (AutoListH.list___mul___list_int_3 p us.toArray k n t (by simp [Builtin.List.listFitsIndex]; lia) (by rw [hz]; lia) (by rw [hz]; simp [Builtin.List.listTooLong, sizeLine]; lia))
    ⟨g, ?_⟩⟩)
 refine PPost.newList (vs := (List.replicate n.toNat us).flatten) (t := s.toks) fz I (push_keeps _) hN.1 hN.2 ⟨0, ?_⟩ (rr.rep _) h
 refine (Heap.get?_push_size _ rfl).trans ?_
 congr 3
 by_cases he : us = []
 ·subst he; simp
 ·have : us.toArray.isEmpty = false := by cases us <;> simp_all
  rw [this]
  simp only [Bool.false_eq_true, if_false]
  rw [foldl_rep]; simp
theorem C_min {a b : Int} {Q} (h : Q (.int (if b < a then b else a)) H) : Cl W d (.builtin "min") [.int a, .int b] H Q := fun A Φ μ s vs ha I r => by
 obtain ⟨v, r1, rfl, ⟨t, rfl⟩, v2, r2, rfl, ⟨t2, rfl⟩, rfl⟩ := r
 refine min_two_ints ha.handled fun h' tk kp => ?_
 refine ⟨.int (if b < a then b else a), H, μ, Keep.grow kp, I.grow kp, ?_, h⟩
 split
 ·exact ⟨_, rfl⟩
 ·exact ⟨_, rfl⟩
theorem C_max {a b : Int} {Q} (h : Q (.int (if b > a then b else a)) H) : Cl W d (.builtin "max") [.int a, .int b] H Q := fun A Φ μ s vs ha I r => by
 obtain ⟨v, r1, rfl, ⟨t, rfl⟩, v2, r2, rfl, ⟨t2, rfl⟩, rfl⟩ := r
 refine max_two_ints ha.handled fun h' tk kp => ?_
 refine ⟨.int (if b > a then b else a), H, μ, Keep.grow kp, I.grow kp, ?_, h⟩
 split
 ·exact ⟨_, rfl⟩
 ·exact ⟨_, rfl⟩
theorem C_abs {a : Int} {Q} (h : Q (.int (if a < 0 then -a else a)) H) : Cl W d (.builtin "abs") [.int a] H Q := fun A Φ μ s vs ha I r => by
 obtain ⟨v, r1, rfl, ⟨t, rfl⟩, rfl⟩ := r
 exact call_abs_int fun u tk => PPost.here (b := V.int _) I ⟨_, rfl⟩ h
theorem C_int {a : Int} {Q} (h : Q (.int a) H) : Cl W d (.type "int") [.int a] H Q := fun A Φ μ s vs ha I r => by
 obtain ⟨v, r1, rfl, ⟨t, rfl⟩, rfl⟩ := r
 exact call_int_int (PPost.here (t := s.toks) (b := V.int _) I ⟨_, rfl⟩ h)
end
end Mine
set_option tactic.hygienic false
namespace Mine
section
variable {W : Wd} {sc scope : Scope} {d : Nat} {env : Env} {A : Around} {Φ Ψ : List Addr} {m m' : Loc} {μ μ' : List (Addr × Addr)} {H H' : List AObj} {s s' : Shared}
theorem cpOut.same {fz : Bool} {Q : V → List AObj → Prop} {xs : List V} (h : cpOut fz Q H xs) : cpOut fz (fun a' H' => m = m ∧ Q a' H') H xs := by
 cases fz with
 | true => exact ⟨rfl, h⟩
 | false => exact ⟨rfl, h⟩
theorem slice_end {ws : List Value} {ys : List V} {vl vu : Value} {Q : V → List AObj → Prop} (fz : Bool) (I : Inv W.hb Φ μ H s.heap) (rr : VRs (cx Φ μ H s.heap) ys ws) (h : cpOut fz Q H ys) :
  PPost W Φ μ H s VR Q (.ref (s.heap.objs.size + 1)) { s with heap := (s.heap.push { cls := .type "slice", data := .fields #[vl, vu, .none] }).push { cls := .type "list", data := .seq ws.toArray } } := by
 have hN := I.newA 1
 refine PPost.newList (vs := ws) (t := s.toks) fz I (fun b o e => push_keeps _ b o (push_keeps _ b o e)) hN.1 hN.2 ⟨0, ?_⟩ rr h
 have : s.heap.objs.size + 1 = (s.heap.push { cls := .type "slice", data := .fields #[vl, vu, .none] }).objs.size := (Heap.size_push ..).symm
 rw [this]; exact Heap.get?_push_size _ rfl
theorem E_sliceTo {value hi : Expr} {p pos : Pos} {Q : V → List AObj → Prop} (fz : Bool) (h : Ev W sc d value m H fun a H1 => Ev W sc d hi m H1 fun c H3 => ∃ xs j, AsList a H3 xs ∧ c = .int j ∧ 0 ≤ j ∧ xs.length ≤ 2 ^ 20 + 8 ∧ cpOut fz Q H3 (xs.take j.toNat))
  (ht : ∀ o r, letTemporaryGo value o r = pure () := by intro _ _; rfl) : Ev W sc d (.Subscript value (.Slice none (some hi) none p) pos) m H Q := fun env A Φ μ s F => by
 refine wpAny_Subscript_list_slice (JPost.goE F (h env A Φ μ s F) fun v s1 a H1 μ1 F1 K1 r1 q1 => ?_) ht
 rw [evalPart_none]
 refine wpAny_pure ?_
 rw [evalPart_some]
 refine JPost.goE F1 (q1 env A Φ μ1 s1 F1) fun w s3 c H3 μ3 F3 K3 r3 ⟨xs, j, hx, ec, h0, hl, q⟩ => ?_
 subst ec
 obtain ⟨t3, rfl⟩ := r3
 obtain ⟨p, us, rfl, g, rr⟩ := hx.look F3.inv (r1.step (F1.stepF K3))
 have hlen := rr.length
 refine ⟨p, us.toArray, none, some j, rfl, g.isList, by rw [List.size_toArray, hlen, sizeLine_eq]; lia, .none, .int _ _, ?_⟩
 have ey : j = (j.toNat : Int) := by lia
 have e : slicePick us.toArray none (some j) none = (us.take j.toNat).toArray := by
  conv => lhs; rw [ey]
  rw [slicePick_upto']
 rw [e]
 refine JPost.ofK (K1.trans K3) (JPost.ofP F3 ?_)
 exact slice_end (Q := fun a' H' => m = m ∧ Q a' H') fz F3.inv (rr.take _) (cpOut.same q)
theorem C_maxL {a : V} {ns : List Int} {Q} (hx : AsList a H (ns.map V.int)) (hne : ns ≠ []) (h : ∀ M, M ∈ ns → (∀ x, x ∈ ns → x ≤ M) → Q (.int M) H) : Cl W d (.builtin "max") [a] H Q := fun A Φ μ s vs ha I r => by
 obtain ⟨v, r1, rfl, hv, rfl⟩ := r
 obtain ⟨p, us, rfl, g, rr⟩ := hx.look I hv
 have hi : IntsAre us ns := by
  have : ∀ (ns : List Int) (us : List Value), VRs (cx Φ μ H s.heap) (ns.map V.int) us → IntsAre us ns := by
   intro ns
   induction ns with
   | nil => intro us r; rw [show us = [] from r]; exact .nil
   | cons n ns ih => rintro us ⟨v, r, rfl, ⟨t, rfl⟩, h2⟩; exact .cons n t (ih r h2)
  exact this ns us rr
 obtain ⟨xs, e⟩ := hi.allInts.items
 have hns : ns = xs.toList.map (·.1) := by rw [← hi.numsOf, ← nums_intItems, ← e]
 have hsz : 0 < xs.size := by
  have h3 : 0 < ns.length := List.length_pos_iff.mpr hne
  rw [hns, List.length_map, Array.length_toList] at h3; exact h3
 have hl := g.isList
 rw [e] at hl
 refine max_intList ha.handled hl hsz fun v h' tk hv kp => ?_
 obtain ⟨t, rfl⟩ := intItems_at hv
 obtain ⟨h1, h2⟩ := argBest_gt (numAt xs) (xs.size - 1)
 refine ⟨.int _, H, μ, Keep.grow kp, I.grow kp, ⟨t, rfl⟩, h _ ?_ fun a ha => ?_⟩
 ·rw [hns, numAt_eq]; exact getD_mem (by rw [List.length_map, Array.length_toList]; lia +abstractProof)
 ·rw [hns] at ha
  obtain ⟨j, hj, rfl⟩ := mem_getD ha
  rw [List.length_map, Array.length_toList] at hj
  rw [← numAt_eq]; exact h2 j (by lia +abstractProof)
theorem C_any {a : V} {bs : List Bool} {Q} (hx : AsList a H (bs.map V.bool)) (h : Q (.bool (bs.any id)) H) : Cl W d (.builtin "any") [a] H Q := fun A Φ μ s vs ha I r => by
 obtain ⟨v, r1, rfl, hv, rfl⟩ := r
 obtain ⟨p, us, rfl, g, rr⟩ := hx.look I hv
 have hus : us = bs.map Value.bool := by
  have : ∀ (bs : List Bool) (us : List Value), VRs (cx Φ μ H s.heap) (bs.map V.bool) us → us = bs.map Value.bool := by
   intro bs
   induction bs with
   | nil => intro us r; exact r
   | cons b bs ih => rintro us ⟨v, r, rfl, h1, h2⟩; rw [show v = .bool b from h1, ih r h2]; rfl
  exact this bs us rr
 have hlt : p < s.heap.objs.size := by obtain ⟨n, e⟩ := g; exact Heap.lt_size e
 refine call_any_walk (wpAny_pyIter_list g.isList ?_)
 refine ⟨s.heap.objs.size, [s.heap.objs.size, p], [s.heap.objs.size], us.toArray.size, _, _, fun i => (bs[i]?).getD false, rfl, Walks.list (A := A.in1) ha.handled _ p (Nat.ne_of_lt hlt) us.toArray,
  ⟨⟨_, Heap.get?_push_size _ rfl, rfl, rfl⟩, g.isList.push _⟩, fun i v s' Q' E' hP hQ => ?_, fun h' tk hk => ?_⟩
 ·subst hus
  obtain ⟨b, e, rfl⟩ : ∃ b, bs[i]? = some b ∧ v = .bool b := by
   have hP' : (bs.map Value.bool)[i]? = some v := by simpa using hP
   rw [List.getElem?_map] at hP'
   cases e : bs[i]? with
   | none => rw [e] at hP'; cases hP'
   | some b => rw [e] at hP'; cases hP'; exact ⟨b, rfl, rfl⟩
  simp only [e, Option.getD_some] at hQ
  exact wpAny_truthy_bool hQ
 ·have kp : ∀ b o, s.heap.get? b = some o → h'.get? b = some o := fun b o e => hk b o (by
   intro q; rw [List.mem_singleton.mp q] at e; rw [get_size] at e; cases e) (push_keeps _ b o e)
  have e : ((List.range us.toArray.size).any fun i => (bs[i]?).getD false) = bs.any id := by
   rw [List.size_toArray, hus, List.length_map]
   rw [Bool.eq_iff_iff]
   simp only [List.any_eq_true, List.mem_range, id]
   constructor
   ·rintro ⟨i, hi, e⟩
    rw [List.getElem?_eq_getElem hi] at e
    exact ⟨bs[i], List.getElem_mem hi, by simpa using e⟩
   ·rintro ⟨b, hb, e⟩
    obtain ⟨i, hi, rfl⟩ := List.mem_iff_getElem.mp hb
    exact ⟨i, hi, by rw [List.getElem?_eq_getElem hi]; simpa using e⟩
  rw [e]
  exact ⟨.bool _, H, μ, Keep.grow kp, I.grow kp, rfl, h⟩
theorem E_cmp3 {l r1 r2 : Expr} {o1 o2 : CmpOp} {pos : Pos} {Q : V → List AObj → Prop} (h : Ev W sc d l m H fun a H1 => Ev W sc d r1 m H1 fun b H2 => Pr2 W d (compareOp o1) a b H2 fun c H3 => Tr W d c H3 fun t => if t = true then Ev W sc d r2 m H3 fun e H4 => Pr2 W d (compareOp o2) b e H4 Q else Q c H3)
  (hm : lastMarks [o1, o2] [r1, r2] = false := by with_unfolding_all rfl) : Ev W sc d (.Compare l [o1, o2] [r1, r2] pos) m H Q := fun env A Φ μ s F => by
 refine Compare_chain (hm := hm) (JPost.goE F (h env A Φ μ s F) fun v s1 a H1 μ1 F1 K1 ra q1 => chain_link ?_)
 refine JPost.goE F1 (q1 env A Φ μ1 s1 F1) fun u s2 b H2 μ2 F2 K2 rb q2 => ?_
 refine wpm (q2 A Φ μ2 s2 v u F2.a F2.inv (ra.step (F1.stepF K2)) rb) (fun x s3 ⟨c, H3, μ3, K3, I3, rc, q3⟩ => ?_)
 have F3 := F2.move0 K3 I3
 have K13 := ((K1.trans K2).trans K3.weak0)
 refine wpm (q3 A Φ μ3 s3 x F3.a F3.inv rc) (fun t s4 ⟨tk, e4, q4⟩ => ?_)
 subst e4
 cases t with
 | false => exact JPost.ofK K13 (JPost.tok (b := c) F3 rc ⟨rfl, q4⟩)
 | true =>
  have F4 : Fm W sc d env A Φ m μ3 H3 { s3 with toks := tk } := F3.toks tk
  have K4 : Keep (Fp env) μ3 H3 s3 μ3 H3 { s3 with toks := tk } := Keep.grow (h' := s3.heap) fun za zb e => e
  have q4' : Ev W sc d r2 m H3 fun e H4 => Pr2 W d (compareOp o2) b e H4 Q := q4
  refine chain_last (JPost.goE F4 (q4' env A Φ μ3 _ F4) fun w s5 e H5 μ5 F5 K5 re q5 => ?_)
  have rb' := ((rb.step (F2.stepF K3.weak0)).step (F3.stepF K4)).step (F4.stepF K5)
  exact JPost.wp ((K13.trans K4).trans K5) (JPost.endP F5 (q5 A Φ μ5 s5 u w F5.a F5.inv rb' re))
end
end Mine
set_option tactic.hygienic false
namespace Mine
section
variable {W : Wd} {sc scope : Scope} {d : Nat} {env : Env} {A : Around} {Φ Ψ : List Addr} {m m' : Loc} {μ μ' : List (Addr × Addr)} {H H' : List AObj} {s s' : Shared}
theorem E_dictI1 {ke ve : Expr} {pos : Pos} {Q : V → List AObj → Prop} (h : Ev W sc d ke m H fun a H1 => Ev W sc d ve m H1 fun b H2 => ∃ i, a = .int i ∧ Q (.ref H2.length) (H2 ++ [.dictI [i] [b]]))
  (hsh : ∀ env, (evalEachOpt [some ke] env).zip ((evalEach [ve] env).map fun v => do let x ← v; standAt pos; pure x) = [((eval ke env, do let x ← eval ve env; standAt pos; pure x) : Sem Value × Sem Value)].map fun p => (some p.1, p.2) := by intro _; rfl) :
  Ev W sc d (.Dict [some ke] [ve] pos) m H Q := by
 have cX : True := trivial
 revert W sc d m H ke ve pos Q h hsh
 rintro W sc d m H ke ve pos Q h hsh
 rintro env A Φ μ s F
 have hz := F.inv.size2
 have hD : s.heap.get? s.heap.objs.size = none := get_size _
 have kp : ∀ b o, s.heap.get? b = some o → (s.heap.push { cls := .type "dict", data := .dict #[] }).get? b = some o := push_keeps _
 have hF : ∀ b, b ∈ [s.heap.objs.size] → s.heap.get? b = none := fun b q => by rw [List.mem_singleton.mp q]; exact hD
 have gD : (s.heap.push { cls := .type "dict", data := .dict #[] }).get? s.heap.objs.size = some (dictOf [] 0) := Heap.get?_push_size _ rfl
 have FW : Fm W sc d env A ([s.heap.objs.size] ++ Φ) m μ H { s with heap := s.heap.push { cls := .type "dict", data := .dict #[] }, toks := s.toks } := F.widen kp hF fun b q => by rw [List.mem_singleton.mp q]; exact ⟨_, gD⟩
 have jo : s.heap.objs.size ∉ Φ := fun q => by obtain ⟨_, ⟨o', e⟩, _⟩ := F.inv.phi _ q; rw [hD] at e; cases e
 have jn : s.heap.objs.size ∉ Fp env := fun q => jo (F.fr.sub _ q)
 refine wpAny_Dict_pairs (knd := intKind W.prog W.w) (hsh env) (by simp) (by simp) (evalPairs_cons ?_)
 refine JPost.goE FW (h env A _ μ _ FW) ?_
 rintro kv s1 a H1 μ1 F1 K1 r1 q1
 refine wpAny_bind (JPost.goE F1 (q1 env A _ μ1 s1 F1) fun vv s2 b H2 μ2 F2 K2 r2 ⟨i, ea, q⟩ => wpAny_bind (wpAny_standAt (wpAny_pure (evalPairs_nil ?_))))
 subst ea
 obtain ⟨t, rfl⟩ := r1
 have KK := K1.trans K2
 have gD2 := KK.keep _ _ gD (FW.inv.phi _ (.head _)).2.2 jn
 refine ⟨[(i, vv)], ⟨by show Value.isInt i (.int i t) = true; simp [Value.isInt], rfl, trivial⟩, dictOf_I (ks := []) (vs := []) gD2 List.nodup_nil .nil, fun h' hm hs => ?_⟩
 obtain ⟨es, n, g', nd, en⟩ := of_dictOf_I hm
 have ex := Heap.SameBut.ext hs
 have F3 : Fm W sc d env A ([s.heap.objs.size] ++ Φ) m μ2 H2 { s2 with heap := h', toks := s2.toks + 1 } := F2.poke (.head _) jn ex ⟨_, g'⟩
 have S3 := poke_step (Φ := [s.heap.objs.size] ++ Φ) (μ := μ2) (H := H2) (.head _) ex
 have SA := adopt_step (Φ := Φ) (h := h') (D := s.heap.objs.size) (o := .dictI [i] [b]) F2.inv.len
 have F4 : Fm W sc d env A Φ m (μ2 ++ [(s.heap.objs.size, s.heap.objs.size)]) (H2 ++ [.dictI [i] [b]]) { s2 with heap := h', toks := s2.toks + 1 } :=
  Fm.adopt (o := .dictI [i] [b]) F3 F.fr (Nat.lt_of_succ_lt hz) jo ⟨rfl, es, n, [vv], g', nd, en, ⟨vv, [], rfl, (r2.step S3).step SA, rfl⟩⟩
 have K0 : Keep (s.heap.objs.size :: Fp env) μ H s μ2 H2 { s2 with heap := h', toks := s2.toks + 1 } :=
  (((Keep.grow (t := s.toks) kp).trans KK).weak fun b q => .inl (.tail _ q)).trans (Keep.poke (.head _) ex ⟨_, g'⟩)
 have K5 : Keep (Fp env) μ H s μ2 H2 { s2 with heap := h', toks := s2.toks + 1 } := K0.weak fun b q => by
  rcases List.mem_cons.mp q with rfl | q
  ·exact .inr hD
  ·exact .inl q
 refine ⟨.ref H2.length, m, H2 ++ [.dictI [i] [b]], _, K5.adopt F2.inv.len hD, F4.inv, F4.loc, ⟨(s.heap.objs.size, s.heap.objs.size), ?_, rfl⟩, rfl, q⟩
 show (μ2 ++ [(s.heap.objs.size, s.heap.objs.size)])[H2.length]? = _
 rw [← F2.inv.len, List.getElem?_concat_length]
theorem meets_values (prog : Program) (w : World) (d : Addr) (hd : (d == sysModules) = false) :
  MeetsIn prog w (Builtin.«dict.values» ⟨[.ref d], []⟩) (fun za R s => s.TypeIs (.ref d) "dict" ∧ R (.ok (.ret (.ref s.heap.objs.size))) { s with heap := s.heap.push { cls := .type "dict_values", data := .fields #[.ref d] } }) := by
 have cX : True := trivial
 revert prog w d hd
 rintro prog w d hd
 exact (.of_wp fun A R s ⟨hT, h⟩ => by
  refine wpAny_bind ?_
  unfold Builtin.Dict.noArgs
  refine wpAny_bind (wpAny_notOrdered_dict hT (wpAny_pure ?_))
  show wpAny _ _ (Builtin.Dict.showsAll d >>= _) _ _ s
  unfold Builtin.Dict.showsAll
  rw [if_neg (by rw [hd]; exact Bool.false_ne_true)]
  exact wpAny_bind (wpAny_pure (wpAny_bind (wpAny_newObj_type (wpAny_pure ⟨_, rfl, h⟩)))))
theorem M_values {ks : List (List Int)} {xs : List V} : MethOf W (.dct ks xs) H "values" (.builtin "dict.values") := by
 have cX : True := trivial
 revert W H ks xs
 rintro W H ks xs
 rintro A Φ μ s v pl R I r h
 obtain ⟨a, es, n, vs, rfl, g, nd, na, en, rr⟩ := r
 exact getMethod_builtin (T := "dict") ⟨_, g, rfl⟩ F.plainAttrs_dict F.slot_dict_values (by show builtinType _ = _; rw [builtinType_eq_fast]; kernel_rfl) (fun a e => by cases e; exact ⟨_, g, rfl⟩) h
theorem EntT.vals {h : Heap} {X : Addr → Prop} {es : List DictEntry} {ks : List (List Int)} {vs : List Value} (t : EntT h X es ks vs) : es.map (·.val) = vs := by
 induction t with
 | nil => rfl
 | cons q _ ih => rw [List.map_cons, q.2.2, ih]
theorem C_values {ks : List (List Int)} {xs : List V} {Q} (h : Q (.vals xs) H) : Cl W d (.builtin "dict.values") [.dct ks xs] H Q := fun A Φ μ s vs ha I r => by
 obtain ⟨v, r1, rfl, ⟨a, es, n, us, rfl, g, ⟨nd, l1⟩, na, en, rr⟩, rfl⟩ := r
 have hT : s.TypeIs (.ref a) "dict" := ⟨_, g, rfl⟩
 have hd : (a == sysModules) = false := beq_eq_false_iff_ne.mpr fun e => by rw [e] at l1; exact absurd l1 (by decide)
 refine call_meetsIn F.slot_dict_values hT F.entry_dict_values (F.args_dict_values_1 _) (meets_values _ _ a hd) ⟨hT, ?_⟩
 exact PPost.push (b := .vals xs) (t := s.toks) I rfl (fun S g' nx => ⟨_, a, es, n, rfl, ⟨_, g', rfl, rfl⟩, push_keeps _ _ _ g, nx, S.off g na, by rw [en.vals]; exact rr.step S⟩) h
end
end Mine
set_option tactic.hygienic false
namespace Mine
section
variable {W : Wd} {sc scope : Scope} {d : Nat} {env : Env} {A : Around} {Φ Ψ : List Addr} {m m' : Loc} {μ μ' : List (Addr × Addr)} {H H' : List AObj} {s s' : Shared}
theorem getL {xs : List V} (i : Nat) (hi : i ≤ xs.length) : (xs[i]? = none ∧ i = xs.length) ∨ ∃ a, xs[i]? = some a ∧ i + 1 ≤ xs.length := by
 cases e : xs[i]? with
 | none => exact .inl ⟨rfl, Nat.le_antisymm hi (List.getElem?_eq_none_iff.mp e)⟩
 | some a => exact .inr ⟨a, rfl, (gll e)⟩
theorem forBy {target : Expr} {body : List Stmt} {Q : AF → Loc → List AObj → Prop} {src : V} {L : Nat} {o : Nat → Option V} {J : Nat → Loc → List AObj → Prop} (nx : ∀ i m H, J i m H → ∀ R : Option V → Prop, R (o i) → Nx src H i R)
  (hL : ∀ i, i ≤ L → (o i = none ∧ i = L) ∨ ∃ a, o i = some a ∧ i + 1 ≤ L) (h0 : J 0 m H) (h1 : ∀ m H, J L m H → Q .next m H)
  (h2 : ∀ i a m H, o i = some a → J i m H → As W sc d target a m H fun m1 H1 => Ss W sc d body m1 H1 fun f m2 H2 => match f with
    | .next | .cont => J (i + 1) m2 H2
    | .brk => Q .next m2 H2
    | .ret a => Q (.ret a) m2 H2) : ∃ N J, J 0 m H ∧ Lp W sc d target body src Q N J := by
 refine ⟨L, fun i m H => i ≤ L ∧ J i m H, ⟨Nat.zero_le _, h0⟩, fun i m H q => q.1, fun i m H q => nx i m H q.2 _ ?_⟩
 rcases hL i q.1 with ⟨e, z⟩ | ⟨a, e, lt⟩
 ·rw [e]; exact h1 m H (z ▸ q.2)
 ·rw [e]
  intro env A Φ μ s v F r
  refine wpm (h2 i a m H e q.2 env A Φ μ s v F r) fun za s' x => x.el fun u m' H' μ' K I L t q => ⟨u, m', H', μ', K, I, L, t, q.mono fun f m2 H2 q2 => ?_⟩
  cases f with
  | next => exact ⟨lt, q2⟩
  | cont => exact ⟨lt, q2⟩
  | brk => exact q2
  | ret a => exact q2
theorem S_forL {target iter : Expr} {body : List Stmt} {pos : Pos} {Q : AF → Loc → List AObj → Prop} (h : Ev W sc d iter m H fun src H1 => ∃ xs, src = .lst xs ∧ ∃ J : Nat → Loc → List AObj → Prop, J 0 m H1 ∧ (∀ m H, J xs.length m H → Q .next m H) ∧
   ∀ i a m H, xs[i]? = some a → J i m H → As W sc d target a m H fun m1 H1 => Ss W sc d body m1 H1 fun f m2 H2 => match f with
    | .next | .cont => J (i + 1) m2 H2
    | .brk => Q .next m2 H2
    | .ret a => Q (.ret a) m2 H2)
  (hs : ∀ env x, foldedSetIterable iter env x = pure x := by intro _ _; rfl) : Sx W sc d (.For target iter body [] pos) m H Q := by
 exact S_for (h.mono fun src H1 ⟨xs, e, J, h0, h1, h2⟩ => e ▸ ⟨trivial, forBy (src := .lst xs) (o := fun i => xs[i]?) (fun i m H za R r => r) getL h0 h1 h2⟩) hs
theorem S_forR {target iter : Expr} {body : List Stmt} {pos : Pos} {Q : AF → Loc → List AObj → Prop} (h : Ev W sc d iter m H fun src H1 => ∃ n, src = .rng n ∧ 0 ≤ n ∧ n ≤ 1000000 ∧ ∃ J : Nat → Loc → List AObj → Prop, J 0 m H1 ∧ (∀ m H, J n.toNat m H → Q .next m H) ∧
   ∀ (i : Nat) m H, (i : Int) < n → J i m H → As W sc d target (.int i) m H fun m1 H1 => Ss W sc d body m1 H1 fun f m2 H2 => match f with
    | .next | .cont => J (i + 1) m2 H2
    | .brk => Q .next m2 H2
    | .ret a => Q (.ret a) m2 H2)
  (hs : ∀ env x, foldedSetIterable iter env x = pure x := by intro _ _; rfl) : Sx W sc d (.For target iter body [] pos) m H Q := by
 refine S_for (h.mono fun src H1 ⟨n, e, n0, n1, J, h0, h1, h2⟩ => e ▸ ⟨⟨n0, n1⟩, forBy (src := .rng n) (L := n.toNat) (o := fun i => if (i : Int) < n then some (.int i) else none) (fun i m H za R r => r) (fun i hi => ?_) h0 h1 fun i a m H e hJ => ?_⟩) hs
 ·by_cases z : (i : Int) < n
  ·exact .inr ⟨_, if_pos z, Int.lt_toNat.mpr z⟩
  ·exact .inl ⟨if_neg z, Nat.le_antisymm hi (Int.toNat_le.mpr (Int.not_lt.mp z))⟩
 ·by_cases z : (i : Int) < n
  ·rw [if_pos z] at e; cases e; exact h2 i m H z hJ
  ·rw [if_neg z] at e; cases e
theorem S_forK {target iter : Expr} {body : List Stmt} {pos : Pos} {Q : AF → Loc → List AObj → Prop} (h : Ev W sc d iter m H fun src H1 => ∃ k xs, src = .ref k ∧ ∃ J : Nat → Loc → List AObj → Prop, J 0 m H1 ∧ (∀ i m H, J i m H → H[k]? = some (.list xs)) ∧ (∀ m H, J xs.length m H → Q .next m H) ∧
   ∀ i a m H, xs[i]? = some a → J i m H → As W sc d target a m H fun m1 H1 => Ss W sc d body m1 H1 fun f m2 H2 => match f with
    | .next | .cont => J (i + 1) m2 H2
    | .brk => Q .next m2 H2
    | .ret a => Q (.ret a) m2 H2)
  (hs : ∀ env x, foldedSetIterable iter env x = pure x := by intro _ _; rfl) : Sx W sc d (.For target iter body [] pos) m H Q := by
 exact S_for (h.mono fun src H1 ⟨k, xs, e, J, h0, hk, h1, h2⟩ => e ▸ ⟨⟨xs, hk _ _ _ h0⟩, forBy (src := .ref k) (J := J) (o := fun i => xs[i]?) (fun i m H hJ R r => ⟨xs, hk _ _ _ hJ, r⟩) getL h0 h1 h2⟩) hs
theorem S_forV {target iter : Expr} {body : List Stmt} {pos : Pos} {Q : AF → Loc → List AObj → Prop} (h : Ev W sc d iter m H fun src H1 => ∃ xs, src = .vals xs ∧ ∃ J : Nat → Loc → List AObj → Prop, J 0 m H1 ∧ (∀ m H, J xs.length m H → Q .next m H) ∧
   ∀ i a m H, xs[i]? = some a → J i m H → As W sc d target a m H fun m1 H1 => Ss W sc d body m1 H1 fun f m2 H2 => match f with
    | .next | .cont => J (i + 1) m2 H2
    | .brk => Q .next m2 H2
    | .ret a => Q (.ret a) m2 H2)
  (hs : ∀ env x, foldedSetIterable iter env x = pure x := by intro _ _; rfl) : Sx W sc d (.For target iter body [] pos) m H Q := by
 exact S_for (h.mono fun src H1 ⟨xs, e, J, h0, h1, h2⟩ => e ▸ ⟨trivial, forBy (src := .vals xs) (o := fun i => xs[i]?) (fun i m H za R r => r) getL h0 h1 h2⟩) hs
theorem CpIfs.mono {ifs : List Expr} {Q Q' : Bool → List AObj → Prop} (h : CpIfs W sc d ifs m H Q) (k : ∀ b H, Q b H → Q' b H) : CpIfs W sc d ifs m H Q' := by
 match ifs, h with
 | [], h => exact k _ _ h
 | [c], h => exact Tv.mono h k
noncomputable abbrev Bd := Loc → List AObj → List V → (List AObj → List V → Prop) → Prop
noncomputable def BdMono (B : Bd) : Prop := ∀ m H xs Q Q', B m H xs Q → (∀ H xs, Q H xs → Q' H xs) → B m H xs Q'
theorem CpLp.mono {B : Bd} (hB : BdMono B) {g : Comprehension} {src : V} {xs : List V} {Q Q' : List AObj → List V → Prop} (h : CpLp W sc d B g src m H xs Q) (k : ∀ H xs, Q H xs → Q' H xs) : CpLp W sc d B g src m H xs Q' := by
 have cX : True := trivial
 revert W sc d m H B hB g src xs Q Q' h k
 rintro W sc d m H B hB g src xs Q Q' h k
 obtain ⟨ok, x, px, ht, hx, hm, N, J, h0, hN, hT⟩ := h
 refine ⟨ok, x, px, ht, hx, hm, N, J, h0, hN, fun i H xs hJ => ?_⟩
 have := hT i H xs hJ
 have mono : ∀ o : Option V, (match o with
   | none => Q H xs
   | some a => CpIfs W sc d g.ifs (m.put x a) H fun b H2 => if b = true then B (m.put x a) H2 xs (J (i + 1)) else J (i + 1) H2 xs) → (match o with
   | none => Q' H xs
   | some a => CpIfs W sc d g.ifs (m.put x a) H fun b H2 => if b = true then B (m.put x a) H2 xs (J (i + 1)) else J (i + 1) H2 xs) := fun o q => by
  cases o with
  | none => exact k _ _ q
  | some a => exact q
 cases src with
 | lst ys => exact mono _ this
 | ref k => obtain ⟨ys, e, q⟩ := this; exact ⟨ys, e, mono _ q⟩
 | rng n => exact mono _ this
 | dct ks vs => exact mono _ this
 | vals ys => exact mono _ this
 | _ => exact this.elim
theorem CpIn.mono (elt : Expr) : ∀ gs, BdMono (CpIn W sc d elt gs)
 | [] => fun m H xs Q Q' h k => Ev.mono (show Ev W sc d elt m H fun a H1 => xs.length ≤ 1000000 ∧ Q H1 (xs ++ [a]) from h) fun a H1 q => ⟨q.1, k _ _ q.2⟩
 | g :: gs => fun m H xs Q Q' h k => Ev.mono (show Ev W sc d g.iter m H fun src H1 => CpLp W sc d (CpIn W sc d elt gs) g src m H1 xs Q from h) fun a H1 q => CpLp.mono (CpIn.mono elt gs) q k
theorem CpLp.lst {B : Bd} (hB : BdMono B) {x : Str} {px : Pos} {it : Expr} {ifs : List Expr} {a : Int} {ys xs : List V} {Q : List AObj → List V → Prop} (J : Nat → List AObj → List V → Prop) (hx : sc.names.lookup x = some .local) (hm : m x = none) (h0 : J 0 H xs)
  (h1 : ∀ H xs, J ys.length H xs → Q H xs) (h2 : ∀ i a H xs, ys[i]? = some a → J i H xs → CpIfs W sc d ifs (m.put x a) H fun b H2 => if b = true then B (m.put x a) H2 xs (J (i + 1)) else J (i + 1) H2 xs) :
  CpLp W sc d B ⟨.Name x px, it, ifs, a⟩ (.lst ys) m H xs Q := by
 refine ⟨trivial, x, px, rfl, hx, hm, ys.length, fun i H xs => i ≤ ys.length ∧ J i H xs, ⟨Nat.zero_le _, h0⟩, fun i H xs q => q.1, fun i H xs ⟨hi, hJ⟩ => ?_⟩
 show (match ys[i]? with | none => _ | some a => _)
 cases e : ys[i]? with
 | none =>
  have : i = ys.length := by have := List.getElem?_eq_none_iff.mp e; lia
  subst this; exact h1 H xs hJ
 | some a =>
  have hlt : i + 1 ≤ ys.length := (gll e)
  refine (h2 i a H xs e hJ).mono fun b H2 q => ?_
  cases b with
  | true => exact hB _ _ _ _ _ q fun H xs q => ⟨hlt, q⟩
  | false => exact ⟨hlt, q⟩
theorem CpLp.rng {B : Bd} (hB : BdMono B) {x : Str} {px : Pos} {it : Expr} {ifs : List Expr} {a : Int} {n : Int} {xs : List V} {Q : List AObj → List V → Prop} (J : Nat → List AObj → List V → Prop) (hx : sc.names.lookup x = some .local) (hm : m x = none) (n0 : 0 ≤ n) (n1 : n ≤ 1000000) (h0 : J 0 H xs)
  (h1 : ∀ H xs, J n.toNat H xs → Q H xs) (h2 : ∀ (i : Nat) H xs, (i : Int) < n → J i H xs → CpIfs W sc d ifs (m.put x (.int (i : Nat))) H fun b H2 => if b = true then B (m.put x (.int (i : Nat))) H2 xs (J (i + 1)) else J (i + 1) H2 xs) :
  CpLp W sc d B ⟨.Name x px, it, ifs, a⟩ (.rng n) m H xs Q := by
 refine ⟨⟨n0, n1⟩, x, px, rfl, hx, hm, n.toNat, fun i H xs => i ≤ n.toNat ∧ J i H xs, ⟨Nat.zero_le _, h0⟩, fun i H xs q => q.1, fun i H xs ⟨hi, hJ⟩ => ?_⟩
 show (match (if (i : Int) < n then some (V.int i) else none) with | none => _ | some a => _)
 by_cases hlt : (i : Int) < n
 ·rw [if_pos hlt]
  have hlt' : i + 1 ≤ n.toNat := Int.lt_toNat.mpr hlt
  refine (h2 i H xs hlt hJ).mono fun b H2 q => ?_
  cases b with
  | true => exact hB _ _ _ _ _ q fun H xs q => ⟨hlt', q⟩
  | false => exact ⟨hlt', q⟩
 ·rw [if_neg hlt]
  have : i = n.toNat := by lia
  subst this; exact h1 H xs hJ
theorem take_snoc {α β : Type} {ys : List α} {g : α → β} {i : Nat} {a : α} (e : ys[i]? = some a) : (ys.take (i + 1)).map g = (ys.take i).map g ++ [g a] := by
 rw [List.take_add_one, e]; simp
theorem Cp_mapR {elt : Expr} {x : Str} {px : Pos} {it : Expr} {a : Int} {n : Int} {xs : List V} {Q : List AObj → List V → Prop} (g : Nat → V) (hx : sc.names.lookup x = some .local) (hm : m x = none) (n0 : 0 ≤ n) (hl : (xs.length : Int) + n ≤ 1000000)
  (h1 : Q H (xs ++ (List.range n.toNat).map g)) (h2 : ∀ i : Nat, (i : Int) < n → Ev W sc d elt (m.put x (.int i)) H fun c H2 => c = g i ∧ H2 = H) : CpLp W sc d (CpIn W sc d elt []) ⟨.Name x px, it, [], a⟩ (.rng n) m H xs Q := by
 refine CpLp.rng (CpIn.mono elt []) (fun i H' zs => H' = H ∧ zs = xs ++ (List.range i).map g) hx hm n0 (by lia) ⟨rfl, by simp⟩ (fun H' zs ⟨e1, e2⟩ => ?_) fun i H' zs e ⟨e1, e2⟩ => ?_
 ·subst e1 e2; exact h1
 ·subst e1 e2
  simp only [CpIfs_n, CpIfs_o, CpIn_n, if_true]
  refine Ev.mono (h2 i e) fun c H2 ⟨e3, e4⟩ => ?_
  subst e3 e4
  refine ⟨by simp; lia, rfl, ?_⟩
  rw [List.range_succ, List.map_append, List.append_assoc]; rfl
end
end Mine
set_option tactic.hygienic false
namespace Mine
noncomputable def kasEv {α : Type} (lt : Nat → Nat → Bool) : KasT α → α
 | .ret a => a
 | .ask i j k => kasEv lt (k (lt i j))
noncomputable def inR {α : Type} (n : Nat) : KasT α → Bool
 | .ret _ => true
 | .ask i j k => decide (i < n) && decide (j < n) && inR n (k true) && inR n (k false)
theorem inR_a {α : Type} {n i j : Nat} {k : Bool → KasT α} : inR n (.ask i j k) = (decide (i < n) && decide (j < n) && inR n (k true) && inR n (k false)) := rfl
theorem kasWp_ev {α : Type} {cmp : Nat → Nat → (Bool → Shared → Prop) → Shared → Prop} {lt : Nat → Nat → Bool} {n : Nat} {s : Shared} {Q : α → Shared → Prop} (hc : ∀ i j (C : Bool → Shared → Prop), i < n → j < n → C (lt i j) s → cmp i j C s) :
  ∀ (t : KasT α), inR n t = true → Q (kasEv lt t) s → t.kasWp cmp Q s
 | .ret a, _, q => q
 | .ask i j k, hr, q => by
  simp only [inR_a, Bool.and_eq_true, decide_eq_true_eq] at hr
  refine hc i j _ hr.1.1.1 hr.1.1.2 ?_
  show (k (lt i j)).kasWp cmp Q s
  cases e : lt i j with
  | true => exact kasWp_ev hc (k true) hr.1.2 (by rw [← e]; exact q)
  | false => exact kasWp_ev hc (k false) hr.2 (by rw [← e]; exact q)
theorem inR_sort : ∀ n, n < 7 → inR n (kas_sort n) = true := by decide +kernel
noncomputable def pairV (p : Int × Int) : V := .tup [.int p.1, .int p.2]
noncomputable def ltP (p q : Int × Int) : Bool := if p.1 = q.1 then decide (p.2 < q.2) else decide (p.1 < q.1)
noncomputable def sortP (ps : List (Int × Int)) : List V := if ps.length < 2 then ps.map pairV else (kasEv (fun i j => ltP (ps.getD i (0, 0)) (ps.getD j (0, 0))) (kas_sort ps.length)).toList.map fun i => (ps.map pairV).getD i .none
section
variable {W : Wd} {sc scope : Scope} {d : Nat} {env : Env} {A : Around} {Φ Ψ : List Addr} {m m' : Loc} {μ μ' : List (Addr × Addr)} {H H' : List AObj} {s s' : Shared}
inductive PairAt (h : Heap) (p : Int × Int) (v : Value) : Prop where
 | mk (a : Addr) (n : Nat) (t u : Tok) (e : v = .ref a) (g : h.get? a = some { cls := .type "tuple", dict := none, data := .seq [Value.int p.1 t, Value.int p.2 u].toArray n, slots := #[] })
noncomputable abbrev PairsAt (h : Heap) : List (Int × Int) → List Value → Prop := Two (PairAt h)
theorem PairsAt.of {c : Cx} {ps : List (Int × Int)} : ∀ {vs : List Value}, VRs c (ps.map pairV) vs → PairsAt c.h ps vs := by
 induction ps with
 | nil => exact fun h => by rw [show _ = [] from h]; exact .nil
 | cons p ps ih =>
  intro vs ⟨v, r, e, h, t⟩
  obtain ⟨a, us, e0, ⟨n, g⟩, _, u1, r1, rfl, ⟨t1, rfl⟩, u2, r2, rfl, ⟨t2, rfl⟩, rfl⟩ := h
  rw [e]
  exact .cons ⟨a, n, t1, t2, e0, g⟩ (ih t)
theorem PairsAt.at {h : Heap} {ps : List (Int × Int)} {vs : List Value} (t : PairsAt h ps vs) (i : Nat) (hi : i < ps.length) : PairAt h (ps.getD i (0, 0)) (vs.getD i .none) := by
 have l : i < vs.length := by rw [t.len]; exact hi
 obtain ⟨a, e, q⟩ := Two.at t (List.getElem?_eq_getElem l)
 rw [List.getD_eq_getElem?_getD, List.getD_eq_getElem?_getD, e, List.getElem?_eq_getElem l]; exact q
theorem PairsAt.mono {h h' : Heap} (k : ∀ b o, h.get? b = some o → h'.get? b = some o) {ps : List (Int × Int)} {vs : List Value} (t : PairsAt h ps vs) : PairsAt h' ps vs := Two.mono t fun za zb ⟨a, n, t, u, e, g⟩ => ⟨a, n, t, u, e, k _ _ g⟩
theorem PairsAt.kat {h : Heap} {ps : List (Int × Int)} {vs : List Value} (t : PairsAt h ps vs) : ∃ fs, KatTups h vs fs ∧ fs.length = ps.length ∧ ∀ f ∈ fs, ∃ i t, f = .int i t := by
 induction t with
 | nil => exact ⟨[], trivial, rfl, memN⟩
 | cons q _ ih =>
  obtain ⟨a, n, t, u, e, g⟩ := q
  obtain ⟨fs, h1, h2, h3⟩ := ih
  rw [e]
  exact ⟨.int _ t :: fs, KatTups.cons g rfl rfl rfl h1, congrArg (· + 1) h2, memC ⟨_, _, rfl⟩ h3⟩
theorem lt_pair {E : Value → Shared → Prop} {p q : Int × Int} {u v : Value} {C : Bool → Shared → Prop} (hp : PairAt s.heap p u) (hq : PairAt s.heap q v) (h : C (ltP p q) s) : wpAny W.M A (keyLt' (tuples' true) u v) C E s := by
 have cX : True := trivial
 revert W A s E p q u v C hp hq h
 rintro W A s E p q u v C hp hq h
 obtain ⟨a, n, t1, t2, rfl, g⟩ := hp
 obtain ⟨b, k, u1, u2, rfl, g'⟩ := hq
 refine kat_lt g rfl g' rfl ?_
 refine kat_cons (wpAny_eqBool_int ?_)
 unfold ltP at h
 by_cases e : p.1 = q.1
 ·rw [if_pos e] at h
  rw [show (p.1 == q.1) = true by simpa using e]
  refine kat_yes (kat_cons (wpAny_eqBool_int ?_))
  by_cases e2 : p.2 = q.2
  ·rw [show (p.2 == q.2) = true by simpa using e2]
   refine kat_yes (kat_nil ?_)
   rw [show decide (p.2 < q.2) = false by simp [e2]] at h
   exact h
  ·rw [show (p.2 == q.2) = false by simpa using e2]
   refine kat_no (kat_one _ _ ?_)
   exact P.lt_int h
 ·rw [if_neg e] at h
  rw [show (p.1 == q.1) = false by simpa using e]
  exact kat_no (oneLt_int h)
theorem kind_pairs {E : Value → Shared → Prop} {ps : List (Int × Int)} {vs : List Value} {Q : SortKind → Shared → Prop} (t : PairsAt s.heap ps vs) (h1 : 0 < ps.length) (h : Q (tuples' true) s) : wpAny W.M A (keyKind' vs.toArray) Q E s := by
 obtain ⟨fs, k1, k2, k3⟩ := t.kat
 refine kat_kind (T := .type "int") k1 (by lia +abstractProof) (fun v hv => ?_) (by rfl) h
 obtain ⟨i, t, rfl⟩ := k3 v hv
 exact Looks.of_pure rfl
noncomputable def Ext (h h' : Heap) : Prop := ∀ b o, h.get? b = some o → h'.get? b = some o
theorem list_sort_pairs {a : Addr} {ps : List (Int × Int)} {vs : List Value} {n : Nat} {P : PySem.Fin → Shared → Prop} {E : Value → Shared → Prop} {hb : Heap} (kb : Ext hb s.heap) (hn0 : hb.get? a = none) (t : PairsAt hb ps vs) (ho : s.heap.get? a = some (seqObj "list" vs.toArray n)) (h64 : ps.length < 7)
  (h : ∀ h' us, Ext hb h' → LstAt h' a us → (∃ js : List Nat, us = js.map (fun i => vs.getD i .none) ∧ sortP ps = js.map fun i => (ps.map pairV).getD i .none) → P (.done (.ret .none)) { s with heap := h' }) :
  wpAny W.M A (Builtin.«list.sort» ⟨[.ref a], []⟩) P E s := by
 have cX : True := trivial
 revert W A s a ps vs n P E hb kb hn0 t ho h64 h
 rintro W A s a ps vs n P E hb kb hn0 t ho h64 h
 have hl := t.len
 have ha : a < s.heap.objs.size := Heap.lt_size ho
 have s1 := Heap.SameBut.update s.heap a (Obj.mapSeq fun za => (#[] : Array Value))
 obtain ⟨e1, ho1⟩ : ∃ e1, (s.heap.update a (Obj.mapSeq fun za => (#[] : Array Value))).get? a = some (seqObj "list" #[] e1) := ⟨_, get?_update_seq ho fun za => #[]⟩
 have nea : ∀ b o, hb.get? b = some o → b ≠ a := fun b o e q => by rw [q, hn0] at e; cases e
 have k1 : Ext hb (s.heap.update a (Obj.mapSeq fun za => (#[] : Array Value))) := fun b o e => (s1.2 b (nea b o e)).trans (kb b o e)
 have k3 : Ext hb (((s.heap.update a (Obj.mapSeq fun za => (#[] : Array Value))).push (seqObj "tuple" vs.toArray 0)).push (seqObj "list" #[] 0)) := fun b o e => Heap.get?_push_of_some _ (Heap.get?_push_of_some _ (k1 b o e))
 have ho3 : (((s.heap.update a (Obj.mapSeq fun za => (#[] : Array Value))).push (seqObj "tuple" vs.toArray 0)).push (seqObj "list" #[] 0)).get? a = some (seqObj "list" #[] e1) := Heap.get?_push_of_some _ (Heap.get?_push_of_some _ ho1)
 rw [list_sort_plain]
 refine wpAny_bind (listItems_at ho rfl ?_)
 refine wpAny_bind (listUpdate_at ho rfl ?_ (by rw [List.size_toArray, sizeLine_eq]; lia) (Nat.zero_le _))
 refine wpAny_bind (seqEpoch_at ho1 rfl ?_)
 refine wpAny_bind (wpAny_newTuple ?_ (by show vs.length ≤ _; rw [sizeLine_eq]; lia))
 refine wpAny_bind (wpAny_newList ?_ (Nat.zero_le _))
 refine wpAny_holding ?_
 show wpAny _ A _ P E { s with heap := ((s.heap.update a (Obj.mapSeq fun za => (#[] : Array Value))).push (seqObj "tuple" vs.toArray 0)).push (seqObj "list" #[] 0) }
 dsimp only
 have fin : ∀ (st' : SortSt) (us : List Value), (arrOf st').map (·.2) = us.toArray → us.length ≤ 64 → failedOf st' = none → (∃ js : List Nat, us = js.map (fun i => vs.getD i .none) ∧ sortP ps = js.map fun i => (ps.map pairV).getD i .none) →
   wpAny W.M A (do
    let touched := (← seqEpoch a) != e1
    Builtin.List.listUpdate (.ref a) fun za => (arrOf st').map (·.2)
    if let some e := failedOf st' then rule "list.sort.comparison-raised"; throw e
    if touched then rule "list.sort.modified"; raiseError "ValueError" "list modified during sort"
    ret .none) P E { s with heap := ((s.heap.update a (Obj.mapSeq fun za => (#[] : Array Value))).push (seqObj "tuple" vs.toArray 0)).push (seqObj "list" #[] 0) } := by
  rintro st' us hus hl2 hf hjs
  have s2 := Heap.SameBut.update (((s.heap.update a (Obj.mapSeq fun za => (#[] : Array Value))).push (seqObj "tuple" vs.toArray 0)).push (seqObj "list" #[] 0)) a (Obj.mapSeq fun za => us.toArray)
  refine wpAny_bind (seqEpoch_at ho3 rfl ?_)
  rw [hus]
  refine wpAny_bind (listUpdate_at ho3 rfl ?_ (Nat.zero_le _) (by rw [List.size_toArray, sizeLine_eq]; lia))
  rw [hf]
  simp only [bne_self_eq_false, Bool.false_eq_true, if_false]
  refine wpAny_pure (h _ us (fun b o e => (s2.2 b (nea b o e)).trans (k3 b o e)) ⟨_, get?_update_seq ho3 fun za => us.toArray⟩ hjs)
 by_cases h2 : vs.toArray.size < 2
 ·rw [if_pos h2, if_pos h2]
  refine wpAny_bind (wpAny_pure ?_)
  rw [StateT.run_pure]
  refine wpAny_bind (wpAny_pure ?_)
  dsimp only
  rw [List.size_toArray] at h2
  refine fin (SortSt.mk' general' (vs.toArray.zip vs.toArray) #[] 7 none) vs ?_ (by lia) rfl ⟨List.range vs.length, ?_, ?_⟩
  ·show (vs.toArray.zip vs.toArray).map (·.2) = vs.toArray
   apply Array.toList_inj.mp
   simp [List.map_snd_zip]
  ·exact (List.ext_getElem (by simp) fun i h1 h2 => by simp; rw [List.getElem?_eq_getElem (by simpa using h1)]; rfl).symm
  ·unfold sortP
   rw [if_pos (by lia), hl]
   exact (List.ext_getElem (by simp) fun i h1 h2 => by simp; rw [List.getElem?_eq_getElem (by simpa using h1)]; rfl).symm
 ·rw [if_neg h2, if_neg h2]
  rw [List.size_toArray] at h2
  have t3 := t.mono k3
  refine wpAny_bind (kind_pairs t3 (by lia) ?_)
  refine wpAny_bind (wpAny_mono (kat_run (Q := fun st' s' => ∃ p : Array Nat, p.size = vs.length ∧ arrOf st' = p.map (kas_item (vs.toArray.zip vs.toArray)) ∧ failedOf st' = none ∧
    (p = kasEv (fun i j => ltP (ps.getD i (0, 0)) (ps.getD j (0, 0))) (kas_sort vs.length) ∧ s' = { s with heap := ((s.heap.update a (Obj.mapSeq fun za => (#[] : Array Value))).push (seqObj "tuple" vs.toArray 0)).push (seqObj "list" #[] 0) }))
   rfl (by lia) (by lia) (fun p' st' s' a1 a2 a3 a4 => ⟨p', a1, a2, a3, a4⟩) ?_) ?_ fun za zb e => e)
  ·refine kasWp_ev (n := vs.length) (lt := fun i j => ltP (ps.getD i (0, 0)) (ps.getD j (0, 0))) (fun i j C hi hj hC => ?_) _ (inR_sort _ (by lia)) ⟨rfl, rfl⟩
   exact lt_pair (t3.at i (by lia)) (t3.at j (by lia)) hC
  ·rintro ⟨⟨⟩, st'⟩ s' ⟨p, hp, har, hf, rfl, rfl⟩
   dsimp only
   refine fin st' _ (kat_snds rfl har) (by rw [List.length_map, Array.length_toList, hp]; lia) hf ⟨_, rfl, ?_⟩
   unfold sortP
   rw [if_neg (by lia), hl]
end
end Mine
set_option tactic.hygienic false
namespace Mine
noncomputable def nubL : List (List Int) → List (List Int) → List (List Int)
 | acc, [] => acc
 | acc, k :: ks => nubL (if k ∈ acc then acc else acc ++ [k]) ks
theorem nubL_snoc : ∀ (ks acc : List (List Int)) (k : List Int), nubL acc (ks ++ [k]) = if k ∈ nubL acc ks then nubL acc ks else nubL acc ks ++ [k]
 | [], acc, k => rfl
 | j :: ks, acc, k => nubL_snoc ks _ k
inductive KvAt (X : Addr → Prop) (h : Heap) (t : List Int) (v : Value) : Prop where
 | mk (p c : Addr) (us : List Value) (e : v = .ref p) (g : TupAt h p [.ref c, .bool true]) (g' : TupAt h c us) (i : IntsV t us) (n : ¬ X c)
noncomputable abbrev KvsAt (X : Addr → Prop) (h : Heap) : List (List Int) → List Value → Prop := Two (KvAt X h)
theorem KvsAt.of {c : Cx} {ts : List (List Int)} : ∀ {vs : List Value}, VRs c (ts.map fun t => .tup [.tup (t.map V.int), .bool true]) vs → KvsAt c.X c.h ts vs := by
 induction ts with
 | nil => exact fun h => by rw [show _ = [] from h]; exact .nil
 | cons p ps ih =>
  intro vs ⟨v, r, e, h, t⟩
  obtain ⟨a, us, e0, g, _, u1, r1, rfl, h1, u2, r2, rfl, h2, rfl⟩ := h
  obtain ⟨b, ws, rfl, g', nx, h3⟩ := h1
  rw [show u2 = .bool true from h2] at g
  rw [e]
  exact .cons ⟨a, b, ws, e0, g, g', IntsV.ofVR h3, nx⟩ (ih t)
set_option tactic.hygienic true in
theorem mem_nubL {k : List Int} : ∀ (ks acc : List (List Int)), k ∈ nubL acc ks ↔ k ∈ acc ∨ k ∈ ks
 | [], acc => by simp [nubL]
 | j :: ks, acc => by
  rw [nubL, mem_nubL ks]
  split
  ·rename_i h
   constructor
   ·rintro (q | q)
    ·exact .inl q
    ·exact .inr (.tail _ q)
   ·rintro (q | q)
    ·exact .inl q
    ·rcases List.mem_cons.mp q with rfl | q
     ·exact .inl h
     ·exact .inr q
  ·constructor
   ·rintro (q | q)
    ·rcases List.mem_append.mp q with q | q
     ·exact .inl q
     ·exact .inr (by rw [List.mem_singleton.mp q]; exact .head _)
    ·exact .inr (.tail _ q)
   ·rintro (q | q)
    ·exact .inl (List.mem_append_left _ q)
    ·rcases List.mem_cons.mp q with rfl | q
     ·exact .inl (List.mem_append_right _ (.head _))
     ·exact .inr q
theorem nubL_len : ∀ (ks acc : List (List Int)), (nubL acc ks).length ≤ acc.length + ks.length
 | [], acc => by simp [nubL]
 | j :: ks, acc => by
  rw [nubL]
  have := nubL_len ks (if j ∈ acc then acc else acc ++ [j])
  refine Nat.le_trans this ?_
  split <;> simp <;> lia
section
variable {W : Wd} {sc scope : Scope} {d : Nat} {env : Env} {A : Around} {Φ Ψ : List Addr} {m m' : Loc} {μ μ' : List (Addr × Addr)} {H H' : List AObj} {s s' : Shared}
theorem putAt_key {k : List Int} {v : Value} {x : List Int × Addr × Value} : (putAt k v x).1 = x.1 := by unfold putAt; split <;> rfl
theorem storedH_keys {xs : List (List Int × Addr × Value)} {k : List Int} {a : Addr} {v : Value} : (storedH xs k a v).map (·.1) = if k ∈ xs.map (·.1) then xs.map (·.1) else xs.map (·.1) ++ [k] := by
 have e := atKey_isSome (xs := xs) k
 by_cases h : k ∈ xs.map (·.1)
 ·rw [if_pos h]
  unfold storedH
  rw [decide_eq_true h] at e
  rw [if_pos e, List.map_map]
  exact List.map_congr_left fun x za => putAt_key
 ·rw [if_neg h]
  rw [decide_eq_false h] at e
  rw [storedH_new (by simpa using e)]
  simp
structure Mk (W : Wd) (X : Addr → Prop) (h0 : Heap) (D : Addr) (h : Heap) (xs : List (List Int × Addr × Value)) : Prop where
 ext : Ext h0 h
 at_ : ∃ ep, h.get? D = some (dictOf (xs.map (entryOfKey (tK W))) ep)
 keys : ∀ x ∈ xs, (∃ us, TupAt h0 x.2.1 us ∧ IntsV x.1 us ∧ ¬ X x.2.1) ∧ x.2.2 = .bool true
 nd : (xs.map (·.1)).Nodup
theorem TupAt.ext {h h' : Heap} {a : Addr} {us : List Value} (k : Ext h h') (t : TupAt h a us) : TupAt h' a us := let ⟨n, e⟩ := t; ⟨n, k _ _ e⟩
theorem Mk.dictOfH {X : Addr → Prop} {h0 : Heap} {D : Addr} {h : Heap} {xs} (M : Mk W X h0 D h xs) : h.DictOfH (tK W) D xs := by
 obtain ⟨ep, e⟩ := M.at_
 exact dictOf_T e rfl (fun x hx => let ⟨us, t, i, _⟩ := (M.keys x hx).1; tK_is (t.ext M.ext) i) M.nd
theorem entry_upd_loop : entryFor table "dict.update.loop" = some Builtin.«dict.update.loop» := entryFor_of_tree (by kernel_rfl)
theorem plain_upd_loop : plainId "dict.update.loop" = true := by decide +kernel
theorem upd_loop {X : Addr → Prop} {h0 : Heap} {D J L : Addr} {ts : List (List Int)} {vs : List Value} {R : Result → Shared → Prop} (hh : A.in1.handled = none) (hu : A.in1.units < cLine) (hD : h0.get? D = none) (hJ : h0.get? J = none) (hDJ : D ≠ J) (hL : LstAt h0 L vs) (hv : KvsAt X h0 ts vs) (hl : vs.length ≤ 1000000)
  (k : ∀ h' t xs, Mk W X h0 D h' xs → xs.map (·.1) = nubL [] ts → R (.ok (.ret .none)) { s with heap := h', toks := t }) :
  ∀ (n i : Nat) (h : Heap) (tk : Tok) (xs : List (List Int × Addr × Value)) (t : Tok), i ≤ vs.length → vs.length < i + n → Mk W X h0 D h xs → h.IsListIter J L i → xs.map (·.1) = nubL [] (ts.take i) →
   codeAny W.M A (.builtin "dict.update.loop" ⟨[.ref D, .ref J, .int i t, .none], []⟩) R { s with heap := h, toks := tk } := by
 intro n
 induction n with
 | zero => intro i h tk xs t a b; lia
 | succ n ih =>
  intro i h tk xs t hil hn M it hx
  refine codeAny_builtin entry_upd_loop ?_
  rw [Around.under_plainId plain_upd_loop _]
  have gl : h.IsList L vs.toArray := by obtain ⟨z, e⟩ := hL; exact LstAt.isList ⟨z, M.ext _ _ e⟩
  show wpAny _ A.in1 (pyNext (.ref J) >>= _) _ _ _
  refine wpAny_bind ?_
  cases hi : vs[i]? with
  | none =>
   refine wpAny_pyNext_list_end hh it gl (by simpa using hi) fun h' he => ?_
   refine wpAny_bind (wpAny_pure (wpAny_pure ?_))
   have hlen := hv.len
   rw [List.take_of_length_le (by rw [← hlen]; exact List.getElem?_eq_none_iff.mp hi)] at hx
   have Dd : ∀ b o, h0.get? b = some o → b ≠ J := fun b o e q => by rw [q, hJ] at e; cases e
   exact k h' tk xs ⟨fun b o e => he b o (Dd b o e) (M.ext b o e), let ⟨ep, e⟩ := M.at_; ⟨ep, he _ _ hDJ e⟩, M.keys, M.nd⟩ hx
  | some v =>
   obtain ⟨key, ek, p, c, us, rfl, tp, tc, ik, nc⟩ := hv.at hi
   refine wpAny_pyNext_list_item it gl (x := .ref p) (by simpa using hi) fun h' it' hs => ?_
   have Dd : ∀ b o, h0.get? b = some o → b ≠ J := fun b o e q => by rw [q, hJ] at e; cases e
   have x1 : Ext h0 h' := fun b o e => (hs.2 b (Dd b o e)).trans (M.ext b o e)
   have M1 : Mk W X h0 D h' xs := ⟨x1, let ⟨ep, e⟩ := M.at_; ⟨ep, (hs.2 _ hDJ).trans e⟩, M.keys, M.nd⟩
   obtain ⟨np, gp⟩ := tp.ext x1
   dsimp only
   refine wpAny_bind (wpAny_holding ?_)
   refine wpAny_bind (wpAny_tryCatch ?_)
   unfold Builtin.Dict.pairItems
   refine wpAny_bind (wpAny_typeOf (T := "tuple") ⟨_, gp, rfl⟩ ?_)
   rw [if_pos (by rfl)]
   refine wpAny_bind (wpAny_seqItems gp rfl (wpAny_pure ?_))
   dsimp only [Option.getD]
   show wpAny _ _ (holding _ _) _ _ _
   refine wpAny_holding ?_
   refine wpAny_dictSet_heap (knd := tK W) hu (tK_is (tc.ext x1) ik) M1.dictOfH (fun h2 D2 hs2 => ?_) (by
    have e : xs.length = (xs.map (·.1)).length := by simp
    rw [e, hx]
    have := nubL_len (ts.take i) []
    have := hv.len
    rw [List.length_take] at *
    simp at *
    rw [sizeLine_eq]; lia)
   obtain ⟨ep2, e2, nd2⟩ := of_dictOf_T D2
   have hlt := (gll hi)
   refine wpAny_pure ⟨plainId_quiet plain_upd_loop _, ?_⟩
   refine ih (i + 1) h2 _ (storedH xs key c (.bool true)) _ hlt (by lia) ⟨fun b o e => (hs2.2 b fun q => by rw [q, hD] at e; cases e).trans (x1 b o e), ⟨ep2, e2⟩, fun x hx => ?_, nd2⟩ ?_ ?_
   ·unfold storedH at hx
    split at hx
    ·obtain ⟨y, hy, rfl⟩ := List.mem_map.mp hx
     have := M.keys y hy
     unfold putAt
     split
     ·exact ⟨this.1, rfl⟩
     ·exact this
    ·rcases List.mem_append.mp hx with q | q
     ·exact M.keys x q
     ·rw [List.mem_singleton.mp q]; exact ⟨⟨us, tc, ik, nc⟩, rfl⟩
   ·obtain ⟨o, ho, r⟩ := it'
    exact ⟨o, (hs2.2 _ (Ne.symm hDJ)).trans ho, r⟩
   ·rw [storedH_keys, hx, List.take_add_one, ek]
    exact (nubL_snoc _ _ _).symm
theorem miss_keys : typeLookup (.type "list") "keys" = pure none := am_miss_of_fast (by kernel_rfl)
theorem getAttr_keys {prog : Program} {w : World} {A : Around} {E : Value → Shared → Prop} {s : Shared} {a : Addr} {xs : Array Value} {k : Nat} {Q : Option Value → Shared → Prop}
  (hx : s.heap.get? a = some { cls := .type "list", dict := none, data := .seq xs k, slots := #[] }) (hA : A.handled = none)
  (h : ∀ h' tk, Ext s.heap h' → Q none { s with heap := h', toks := tk }) : wpAny (model prog w) A (getAttr? (.ref a) "keys") Q E s := by
 have cX : True := trivial
 revert prog w A E s a xs k Q hx hA h
 rintro prog w A E s a xs k Q hx hA h
 obtain ⟨hp, g, d, tk, os⟩ := s
 have hT : ∀ tk', (⟨hp, g, d, tk', os⟩ : Shared).TypeIs (.ref a) "list" := fun za => ⟨_, hx, rfl⟩
 have f1 := sub_AttributeError
 have f3 := F.slot_list_getattribute.lookup
 have f4 := F.slot_list_getattribute.bind (.ref a)
 have f5 := am_list_getattr_none
 unfold getAttr? getAttrBy? getAttrBy
 repeat (any_goals (first | assumption | exact hT _ | ((with_reducible show wpAny _ _ (call (Value.builtin "list.__getattribute__") _ _) _ _ _); refine call_meets F.slot_list_getattribute (hT _) am_entry_list_getattribute (F.args_list_getattribute_2 _ _) (meets_getattribute_miss_list a xs k #[] "keys" _ miss_keys (by decide +kernel)) ⟨hx, hA, fun h' tk' e hx' => ?_⟩) | wp_step))
 obtain ⟨t', u', he⟩ := hx'.there
 show wpAny _ _ (getattributeRaised _ _ _ _ _ _ _) _ _ _
 unfold getattributeRaised
 repeat (any_goals (first | assumption | wp_step))
 exact h _ _ hx'.keeps
theorem C_dictPairs {a : V} {ts : List (List Int)} {Q : V → List AObj → Prop} (hx : AsList a H (ts.map fun t => .tup [.tup (t.map V.int), .bool true])) (hl : ts.length ≤ 1000000) (h : ∀ xs, Q (.dct (nubL [] ts) xs) H) : Cl W d (.type "dict") [a] H Q := fun A Φ μ s vs ha I r => by
 obtain ⟨v, r1, rfl, hv, rfl⟩ := r
 obtain ⟨L, us, rfl, g, rr⟩ := hx.look I hv
 have kv := KvsAt.of rr
 have hlen := kv.len
 obtain ⟨nL, gL⟩ := id g
 have gnone := get_size s.heap
 refine callType_codes (Q₁ := fun obj s₁ => obj = .ref s.heap.objs.size ∧ s₁ = { s with heap := s.heap.push { cls := .type "dict", data := .dict #[] } }) F.kt_called_dict (F.kt_typeCall_dict_1 _) F.entry_dict_init (kt_code_dict_new _ ⟨rfl, rfl⟩) ?_
 rintro obj s₁ ⟨rfl, rfl⟩
 have gD : (s.heap.push { cls := .type "dict", data := .dict #[] }).get? s.heap.objs.size = some { cls := .type "dict", data := .dict #[] } := Heap.get?_push_size _ rfl
 have hT : ({ s with heap := s.heap.push { cls := .type "dict", data := .dict #[] } } : Shared).TypeIs (.ref s.heap.objs.size) "dict" := ⟨_, gD, rfl⟩
 have gL1 : (s.heap.push { cls := .type "dict", data := .dict #[] }).get? L = some { cls := .type "list", dict := none, data := .seq us.toArray nL, slots := #[] } := Heap.get?_push_of_some _ gL
 refine ⟨hT, F.args_dict_init_2 _ _, ?_⟩
 unfold Builtin.«dict.__init__»
 refine wpAny_bind ?_
 unfold Builtin.Dict.selfAndRest
 refine wpAny_bind (wpAny_notOrdered_dict hT ?_)
 show wpAny _ _ (pure (s.heap.objs.size, [Value.ref L])) _ _ _
 refine wpAny_pure ?_
 show wpAny _ _ (Builtin.Dict.updateFrom "dict.__init__" s.heap.objs.size (.ref L) [] .none) _ _ _
 unfold Builtin.Dict.updateFrom
 refine wpAny_bind (wpAny_typeOf (T := "list") ⟨_, gL1, rfl⟩ ?_)
 rw [if_pos (by rfl)]
 refine wpAny_bind (getAttr_keys gL1 (by exact ha.handled) fun h1 t1 k1 => ?_)
 rw [if_pos (show (none : Option Value).isNone = true from rfl)]
 refine wpAny_bind (wpAny_rule ?_)
 have gL2 : h1.IsList L us.toArray := ⟨_, k1 _ _ gL1, rfl, nL, rfl⟩
 refine wpAny_bind (wpAny_pyIter_list gL2 ?_)
 have gD1 := k1 _ _ gD
 have hne : s.heap.objs.size ≠ h1.objs.size := fun e => absurd (Heap.lt_size gD1) (by rw [e]; exact Nat.lt_irrefl _)
 have hJ : s.heap.get? h1.objs.size = none := by
  cases e : s.heap.get? h1.objs.size with
  | none => rfl
  | some o => exact absurd (Heap.lt_size (k1 _ _ (Heap.get?_push_of_some _ e))) (Nat.lt_irrefl _)
 have x0 : Ext s.heap (h1.push { cls := .type "list_iterator", data := .fields #[.ref L, .int 0 0] }) := fun b o e => Heap.get?_push_of_some _ (k1 _ _ (Heap.get?_push_of_some _ e))
 refine wpAny_pure ⟨plainId_quiet plain_upd_loop _, ?_⟩
 refine upd_loop (X := (cx Φ μ H s.heap).X) (s := s) (by exact ha.handled) (by have := ha.units; have := ha.small; simp only [Around.in1_units]; unfold cLine; lia) gnone hJ hne g kv (by lia) ?_ (us.length + 1) 0 _ _ [] _ (Nat.zero_le _) (by lia) ⟨x0, ⟨0, Heap.get?_push_of_some _ gD1⟩, (fun za q => nomatch q), List.nodup_nil⟩ ⟨_, Heap.get?_push_size _ rfl, rfl, rfl⟩ rfl
 intro h' t xs M hk
 obtain ⟨ep, e⟩ := M.at_
 have S : Step (cx Φ μ H s.heap) (cx Φ μ H h') := grow_step M.ext
 refine ⟨rfl, .dct (nubL [] ts) (xs.map fun za => .bool true), H, μ, Keep.grow M.ext, I.grow M.ext, ?_, h _⟩
 refine ⟨_, _, _, xs.map (·.2.2), rfl, e, ⟨hk ▸ M.nd, I.newA 0 |>.2⟩, fresh_off I, ?_, ?_⟩
 ·rw [← hk]
  exact EntT.of fun x hx => by
   obtain ⟨ws, t1, t2, t3⟩ := (M.keys x hx).1
   exact ⟨ws, t1.ext M.ext, t2, t3⟩
 ·have : ∀ ys : List (List Int × Addr × Value), (∀ x ∈ ys, x.2.2 = .bool true) → VRs (cx Φ μ H h') (ys.map fun za => .bool true) (ys.map (·.2.2)) := fun ys => by
   induction ys with
   | nil => intro _; rfl
   | cons y ys ih => exact fun q => ⟨_, _, rfl, q y (.head _), ih fun x hx => q x (.tail _ hx)⟩
  exact this xs fun x hx => (M.keys x hx).2
end
end Mine
set_option tactic.hygienic false
namespace Mine
section
variable {W : Wd} {sc scope : Scope} {d : Nat} {env : Env} {A : Around} {Φ Ψ : List Addr} {m m' : Loc} {μ μ' : List (Addr × Addr)} {H H' : List AObj} {s s' : Shared}
theorem silent_dict : typeLookup (.type "dict") "__len__" = pure (some (.builtin "dict.__len__")) := F.slot_dict_len.lookup
theorem keys_loop {h0 : Heap} {D S J : Addr} {es : List DictEntry} {ep : Nat} {R : Result → Shared → Prop} (hh : A.in1.handled = none) (hS : h0.get? S = none) (hJ : h0.get? J = none) (hSJ : S ≠ J) (hD : h0.get? D = some (dictOf es ep)) (hl : es.length ≤ 1000000)
  (k : ∀ h', Ext h0 h' → LstAt h' S (es.map (·.key)) → R (.ok (.ret (.ref S))) { s with heap := h' }) :
  ∀ (n i : Nat) (h : Heap), i ≤ es.length → es.length < i + n → Ext h0 h → LstAt h S ((es.take i).map (·.key)) → h.IsKeyIter J D i es.length ep →
   codeAny W.M A (.builtin "list.extend.loop" ⟨[.ref S, .ref J, .ref S], []⟩) R { s with heap := h } := by
 intro n
 induction n with
 | zero => intro i h a b; lia
 | succ n ih =>
  intro i h hil hn x g it
  refine codeAny_builtin F.entry_extend_loop ?_
  rw [Around.under_plainId F.plain_extend_loop _]
  show wpAny _ A.in1 (pyNext (.ref J) >>= _) _ _ _
  have Dd : ∀ b o, h0.get? b = some o → b ≠ J := fun b o e q => by rw [q, hJ] at e; cases e
  obtain ⟨nS, gS⟩ := id g
  refine wpAny_bind (next_key (s := { s with heap := h }) hh it (x _ _ hD) fun h' he hit => ?_)
  have x1 : Ext h0 h' := fun b o e => he b o (Dd b o e) (x b o e)
  have gS1 := he _ _ hSJ gS
  cases hi : es[i]? with
  | none =>
   have : es.length ≤ i := by rw [List.getElem?_eq_none_iff] at hi; lia
   rw [List.take_of_length_le this] at gS1
   exact wpAny_pure (k h' x1 ⟨nS, gS1⟩)
  | some e =>
   have hlt := (gll hi)
   show wpAny _ A.in1 (updateSeq S (·.push e.key) >>= _) _ _ _
   refine wpAny_bind (wpAny_updateSeq (s := { s with heap := h' }) gS1 rfl (wpAny_pure ⟨plainId_quiet F.plain_extend_loop _, ?_⟩) (by simp; rw [sizeLine_eq]; lia) (by simp; rw [sizeLine_eq]; lia))
   have oth : ∀ b, b ≠ S → (h'.update S (Obj.mapSeq (·.push e.key))).get? b = h'.get? b := fun b hb => Heap.get?_update_other _ _ (Ne.symm hb)
   refine ih (i + 1) _ hlt (by lia) (fun b o q => (oth b fun z => by rw [z, hS] at q; cases q).trans (x1 b o q)) ?_ ?_
   ·have := (LstAt.upd (h := h') (a := S) ⟨nS, gS1⟩ (fun z => z.push e.key) ((es.take (i + 1)).map (·.key)) (by rw [List.take_add_one, hi]; simp))
    exact this
   ·obtain ⟨o, ho, r⟩ := hit e hi
    exact ⟨o, (oth J (Ne.symm hSJ)).trans ho, r⟩
theorem collect_dict {D : Addr} {es : List DictEntry} {ep : Nat} {E : Value → Shared → Prop} {Q : List Value → Shared → Prop} (hh : A.handled = none) (hs : (D == sysModules) = false) (hD : s.heap.get? D = some (dictOf es ep)) (hl : es.length ≤ 1000000)
  (h : ∀ h', Ext s.heap h' → Q (es.map (·.key)) { s with heap := h' }) : wpAny W.M A (collect (.ref D)) Q E s := by
 have cX : True := trivial
 revert W A s D es ep E Q hh hs hD hl h
 rintro W A s D es ep E Q hh hs hD hl h
 unfold collect
 refine wpAny_bind (wpAny_runValue (codeAny_builtin F.entry_proto_collect ?_))
 rw [Around.under_plainId F.plain_proto_collect _]
 show wpAny _ A.in1 (newList [] >>= fun l => again (.builtin "list.__iadd__" ⟨[l, .ref D], []⟩)) _ _ s
 refine wpAny_bind (wpAny_newObj_type ?_)
 refine wpAny_pure ⟨plainId_quiet F.plain_list_iadd _, codeAny_builtin F.entry_list_iadd ?_⟩
 rw [Around.under_plainId F.plain_list_iadd _]
 have hS₁ : (s.heap.push { cls := .type "list", data := .seq ([] : List Value).toArray }).get? s.heap.objs.size = some { cls := .type "list", data := .seq ([] : List Value).toArray } := Heap.get?_push_size _ rfl
 have gnone := get_size s.heap
 have hDS : s.heap.objs.size ≠ D := fun e => by rw [e, hD] at gnone; cases gnone
 have hD1 : (s.heap.push { cls := .type "list", data := .seq ([] : List Value).toArray }).get? D = some (dictOf es ep) := Heap.get?_push_of_some _ hD
 have hT : ({ s with heap := s.heap.push { cls := .type "list", data := .seq ([] : List Value).toArray } } : Shared).TypeIs (.ref D) "dict" := ⟨_, hD1, rfl⟩
 have h1 : Builtin.List.listSameRef (.ref s.heap.objs.size) (.ref D) = false := by simp [Builtin.List.listSameRef, hDS]
 show wpAny _ A.in1 (Builtin.List.listExtendWith (.ref s.heap.objs.size) (.ref D) (.ref s.heap.objs.size)) _ _ _
 unfold Builtin.List.listExtendWith
 refine wpAny_bind (wpAny_typeOf hT ?_)
 rw [if_neg (by rw [h1]; decide)]
 refine wpAny_bind (iter_keys hs hD1 ?_)
 have hD2 : ((s.heap.push { cls := .type "list", data := .seq ([] : List Value).toArray }).push { cls := .type "dict_keyiterator", data := .fields #[.ref D, .int 0 0, .int es.length 0, .int ep 0] }).get? D = some (dictOf es ep) := Heap.get?_push_of_some _ hD1
 have hT2 : ({ s with heap := (s.heap.push { cls := .type "list", data := .seq ([] : List Value).toArray }).push { cls := .type "dict_keyiterator", data := .fields #[.ref D, .int 0 0, .int es.length 0, .int ep 0] } } : Shared).TypeIs (.ref D) "dict" := ⟨_, hD2, rfl⟩
 refine wpAny_bind (wpAny_holding ?_)
 unfold Builtin.List.listLengthHint
 refine wpAny_bind (wpAny_specialOf hT2 silent_dict ?_)
 (generalize hid : ("dict.__len__" : String) = id0; (fail_if_success (clear hid id0)); wp_delta; rw [show splitId id0 = some ("dict", "__len__") from by subst hid; decide +kernel]; subst hid)
 refine wpAny_bind (wpAny_isInstance (b := true) hT2 isSubtype_dict_dict ?_)
 refine wpAny_bind (wpAny_typeOf hT2 ?_)
 refine wpAny_pure ?_
 show wpAny _ A.in1 (rule "list.extend.makes-room" >>= fun za => Builtin.List.listTouch (.ref s.heap.objs.size) >>= fun za =>
  again (.builtin "list.extend.loop" ⟨[.ref s.heap.objs.size, _, .ref s.heap.objs.size], []⟩)) _ _ _
 refine wpAny_bind (wpAny_rule ?_)
 refine wpAny_bind ?_
 have hS2 : ((s.heap.push { cls := .type "list", data := .seq ([] : List Value).toArray }).push { cls := .type "dict_keyiterator", data := .fields #[.ref D, .int 0 0, .int es.length 0, .int ep 0] }).get? s.heap.objs.size = some { cls := .type "list", data := .seq ([] : List Value).toArray } := Heap.get?_push_of_some _ hS₁
 show wpAny _ A.in1 (updateSeq s.heap.objs.size (·.push .none) >>= fun za => updateSeq s.heap.objs.size (·.pop)) _ _ _
 refine wpAny_bind (wpAny_updateSeq hS2 rfl ?_ (by simp) (by simp))
 have hS3 := Heap.get?_update_self (Obj.mapSeq (·.push Value.none)) hS2 rfl
 refine wpAny_updateSeq hS3 rfl ?_ (by simp [Obj.mapSeq]; try (rw [sizeLine_eq]; lia +abstractProof)) (by simp [Obj.mapSeq])
 have hS4 := Heap.get?_update_self (Obj.mapSeq (·.pop)) hS3 rfl
 generalize hp2 : (s.heap.push { cls := .type "list", data := .seq ([] : List Value).toArray }).push { cls := .type "dict_keyiterator", data := .fields #[.ref D, .int 0 0, .int es.length 0, .int ep 0] } = hp at *
 have k0 : Ext s.heap hp := fun b o e => by rw [← hp2]; exact Heap.get?_push_of_some _ (Heap.get?_push_of_some _ e)
 have oth : ∀ b, b ≠ s.heap.objs.size → ((hp.update s.heap.objs.size (Obj.mapSeq (·.push Value.none))).update s.heap.objs.size (Obj.mapSeq (·.pop))).get? b = hp.get? b := fun b hb =>
  (Heap.get?_update_other _ _ (Ne.symm hb)).trans (Heap.get?_update_other _ _ (Ne.symm hb))
 have hsz : (s.heap.push { cls := .type "list", data := .seq ([] : List Value).toArray }).objs.size = s.heap.objs.size + 1 := size_push' _ _
 have hJ : hp.get? (s.heap.push { cls := .type "list", data := .seq ([] : List Value).toArray }).objs.size = some { cls := .type "dict_keyiterator", data := .fields #[.ref D, .int 0 0, .int es.length 0, .int ep 0] } := by
  rw [← hp2]; exact Heap.get?_push_size _ rfl
 have hne : s.heap.objs.size ≠ (s.heap.push { cls := .type "list", data := .seq ([] : List Value).toArray }).objs.size := by rw [hsz]; exact Nat.ne_of_lt (Nat.lt_succ_self _)
 refine wpAny_pure ⟨plainId_quiet F.plain_extend_loop _, ?_⟩
 refine keys_loop (W := W) (h0 := s.heap) (s := s) (S := s.heap.objs.size) (by exact hh) gnone (J := (s.heap.push { cls := .type "list", data := .seq ([] : List Value).toArray }).objs.size) ?_ hne hD hl ?_ (es.length + 1) 0 _ (Nat.zero_le _) (by lia +abstractProof) (fun b o e => (oth b fun z => by rw [z, gnone] at e; cases e).trans (k0 b o e)) ⟨_, hS4⟩ ⟨_, (oth _ (Ne.symm hne)).trans hJ, rfl, rfl⟩
 ·cases e : s.heap.get? (s.heap.push { cls := .type "list", data := .seq ([] : List Value).toArray }).objs.size with
  | none => rfl
  | some o => exact absurd (Heap.lt_size e) (by rw [hsz]; exact Nat.not_lt.mpr (Nat.le_succ _))
 ·rintro h' x ⟨n, g⟩
  show wpAny _ A (load s.heap.objs.size >>= _) _ _ _
  refine wpAny_bind (wpAny_load g ?_)
  refine wpAny_pure ?_
  show Q ((es.map (·.key)).toArray.toList) _
  exact h h' x
theorem args_sorted0 (a : Value) : argsOk "sorted" ⟨[a], []⟩ := by unfold argsOk; kernel_rfl
theorem sorted_of {v : Value} {ps : List (Int × Int)} {vs : List Value} {E : Value → Shared → Prop} {Q : Value → Shared → Prop} (t : PairsAt s.heap ps vs) (h64 : ps.length < 7)
  (hcol : ∀ {E : Value → Shared → Prop} {Q' : List Value → Shared → Prop}, (∀ h', Ext s.heap h' → Q' vs { s with heap := h' }) → wpAny W.M A.in1 (collect v) Q' E s)
  (h : ∀ h' a us, Ext s.heap h' → s.heap.get? a = none → 1 < a → LstAt h' a us → (∃ js : List Nat, us = js.map (fun i => vs.getD i .none) ∧ sortP ps = js.map fun i => (ps.map pairV).getD i .none) → Q (.ref a) { s with heap := h' }) (h2 : ∃ o, s.heap.get? cStatics = some o) :
  wpAny W.M A (call (.builtin "sorted") [v]) Q E s := by
 refine Calls.call_function_entry kind_sorted plain_sorted entry_sorted (args_sorted0 _) ?_
 unfold Builtin.«sorted»
 refine wpAny_bind (m := checkCount "sorted" 1 1 _) (wpAny_pure ?_)
 have hl := t.len
 refine wpAny_bind (hcol fun h1 k1 => ?_)
 refine wpAny_bind (wpAny_newList ?_ (by rw [sizeLine_eq]; lia +abstractProof))
 have hoL : (h1.push (seqObj "list" vs.toArray 0)).get? h1.objs.size = some (seqObj "list" vs.toArray 0) := Heap.get?_push_size _ rfl
 have hn : s.heap.get? h1.objs.size = none := by
  cases e : s.heap.get? h1.objs.size with
  | none => rfl
  | some o => exact absurd (Heap.lt_size (k1 _ _ e)) (Nat.lt_irrefl _)
 show wpAny _ _ _ _ _ { s with heap := h1.push (seqObj "list" vs.toArray 0) }
 refine wpAny_bind (wpAny_holding (wpAny_call_entry slot_list_sort ⟨_, hoL, rfl⟩ entry_list_sort ?_ (args_list_sort _)))
 have k2 : Ext s.heap (h1.push (seqObj "list" vs.toArray 0)) := fun b o e => Heap.get?_push_of_some _ (k1 _ _ e)
 have z : 1 < h1.objs.size := by
  obtain ⟨o, e⟩ := h2
  exact Nat.lt_of_succ_lt (Heap.lt_size (k1 _ _ e))
 refine list_sort_pairs (s := { s with heap := h1.push (seqObj "list" vs.toArray 0) }) (hb := s.heap) k2 hn t hoL h64 fun h' us x g js => ⟨_, rfl, ?_⟩
 exact wpAny_pure ⟨_, rfl, h h' _ us x hn z g js⟩
theorem VRs.pick {c : Cx} {xs : List V} {vs : List Value} (r : VRs c xs vs) : ∀ js : List Nat, VRs c (js.map fun i => xs.getD i .none) (js.map fun i => vs.getD i .none)
 | [] => rfl
 | i :: js => by
  refine ⟨_, _, rfl, ?_, r.pick js⟩
  have e := r.length
  show VR c (xs.getD i .none) (vs.getD i .none)
  cases h : xs[i]? with
  | none =>
   have h' : vs[i]? = none := by rw [List.getElem?_eq_none_iff] at h ⊢; lia +abstractProof
   rw [List.getD_eq_getElem?_getD, List.getD_eq_getElem?_getD, h, h']; rfl
  | some x =>
   obtain ⟨v, e1, e2⟩ := r.get h
   rw [List.getD_eq_getElem?_getD, List.getD_eq_getElem?_getD, h, e1]; exact e2
theorem EntT.keysV {c : Cx} {ps : List (Int × Int)} : ∀ {es : List DictEntry} {vs : List Value}, EntT c.h c.X es (ps.map fun p => [p.1, p.2]) vs → VRs c (ps.map pairV) (es.map (·.key)) := by
 induction ps with
 | nil => intro es vs h; cases h; rfl
 | cons p ps ih =>
  intro es vs h
  cases h with
  | cons q t => exact ⟨_, _, rfl, q.1.elim fun a w => w.elim fun us w => ⟨a, us, w.1, w.2.1, w.2.2.2, IntsV.vr w.2.2.1⟩, ih t⟩
theorem C_sorted {a : V} {ps : List (Int × Int)} {Q : V → List AObj → Prop} (hx : AsList a H (ps.map pairV) ∨ ∃ xs, a = .dct (ps.map fun p => [p.1, p.2]) xs) (hl : ps.length < 7) (h : Q (.lst (sortP ps)) H) : Cl W d (.builtin "sorted") [a] H Q := fun A Φ μ s vs ha I r => by
 obtain ⟨v, r1, rfl, hv, rfl⟩ := r
 have two : ∃ o, s.heap.get? cStatics = some o := let ⟨o, e⟩ := I.two.1; ⟨o, I.base _ _ e⟩
 have fin : ∀ ws, VRs (cx Φ μ H s.heap) (ps.map pairV) ws → ∀ h' a us, Ext s.heap h' → s.heap.get? a = none → 1 < a → LstAt h' a us → (∃ js : List Nat, us = js.map (fun i => ws.getD i .none) ∧ sortP ps = js.map fun i => (ps.map pairV).getD i .none) → PPost W Φ μ H s VR Q (.ref a) { s with heap := h' } := by
  rintro ws rr h' b us x hn z g ⟨js, rfl, e⟩
  refine PPost.newList (t := s.toks) true I x hn z g (xs := sortP ps) ?_ h
  rw [e]; exact rr.pick js
 rcases hx with hx | ⟨xs, rfl⟩
 ·obtain ⟨p, us, rfl, g, rr⟩ := hx.look I hv
  have hlen := rr.length
  rw [List.length_map] at hlen
  refine sorted_of (PairsAt.of rr) hl (fun hq => ?_) (fin us rr) two
  refine collect_list g.isList (hq _ fun b o e => ?_) (by rw [sizeLine_eq]; lia +abstractProof)
  have hb : b ≠ s.heap.objs.size := Nat.ne_of_lt (Heap.lt_size e)
  exact (Heap.get?_update_other _ _ (Ne.symm hb)).trans (Heap.get?_push_of_some _ e)
 ·obtain ⟨p, es, n, us, rfl, g, ⟨nd, z⟩, nx, en, rr⟩ := hv
  have rk := en.keysV
  have hlen := rk.length
  rw [List.length_map, List.length_map] at hlen
  exact sorted_of (PairsAt.of rk) hl (fun hq => collect_dict (by exact ha.handled) (beq_eq_false_iff_ne.mpr fun e => by rw [e] at z; exact absurd z (by decide)) g (by lia +abstractProof) hq) (fin _ rk) two
theorem meets_len (prog : Program) (w : World) (d : Addr) (hd : (d == sysModules) = false) :
  MeetsIn prog w (Builtin.«dict.__len__» ⟨[.ref d], []⟩) (fun za R s => ∃ es ep, s.heap.get? d = some (dictOf es ep) ∧ R (.ok (.ret (.int es.length s.toks))) { s with toks := s.toks + 1 }) :=
 .of_wp fun A R s ⟨es, ep, ho, h⟩ => by
  show wpAny _ _ (dictSize d >>= _) _ _ s
  unfold dictSize
  refine wpAny_bind (wpAny_bind (wpAny_dictEntries ho rfl (wpAny_pure ?_)))
  show wpAny _ _ (Builtin.Dict.pendingCount d >>= _) _ _ s
  refine wpAny_bind (wpAny_pendingCount_other hd ?_)
  refine wpAny_ret_mkInt ?_
  have : es.toArray.size = es.length := by simp
  rw [Nat.add_zero, this]; exact h
theorem call_len_dct {prog : Program} {w : World} {A : Around} {E : Value → Shared → Prop} {s : Shared} {d : Addr} {es : List DictEntry} {ep : Nat} {Q : Value → Shared → Prop} (hd : (d == sysModules) = false) (hm : s.heap.get? d = some (dictOf es ep)) (hfit : (es.length : Int) < 2 ^ 63)
  (h : Q (.int es.length (s.toks + 1)) { s with toks := s.toks + 1 + 1 }) : wpAny (model prog w) A (call (.builtin "len") [.ref d]) Q E s := by
 have cX : True := trivial
 revert prog w A E s d es ep Q hd hm hfit h
 rintro prog w A E s d es ep Q hd hm hfit h
 refine Calls.call_function_entry kind_len plain_len entry_len (args_len1 _) ?_
 have hT : s.TypeIs (.ref d) "dict" := ⟨_, hm, rfl⟩
 unfold Builtin.«len»
 refine wpAny_bind (m := oneArg "len" _) (wpAny_pure ?_)
 refine wpAny_bind (m := callSpecial? (.ref d) (Str.ofString "__len__")) (wpAny_callSpecial?_slot (name := Str.ofString "__len__") hT F.slot_dict_len
  (call_meetsIn F.slot_dict_len hT F.entry_dict_len (F.args_dict_len_1 _) (meets_len prog w d hd) ⟨es, ep, hm, ?_⟩))
 show wpAny _ _ _ _ _ { s with toks := s.toks + 1 }
 refine wpAny_bind (wpAny_holding (wpAny_pure ?_))
 refine wpAny_bind (wpAny_letGo ?_)
 show wpAny _ _ (if ((es.length : Nat) : Int) < 0 then _ else _) _ _ _
 rw [if_neg (by lia +abstractProof)]
 show wpAny _ _ (if ((es.length : Nat) : Int) ≥ 2 ^ 63 then _ else _) _ _ _
 rw [if_neg (by lia +abstractProof)]
 exact wpAny_bind (wpAny_mkInt (wpAny_pure ⟨_, rfl, h⟩))
theorem C_lenT {ks : List (List Int)} {xs : List V} {Q} (hl : ks.length ≤ 1000000) (h : Q (.int ks.length) H) : Cl W d (.builtin "len") [.dct ks xs] H Q := fun A Φ μ s vs ha I r => by
 obtain ⟨v, r1, rfl, hv, rfl⟩ := r
 obtain ⟨p, es, n, us, rfl, g, ⟨nd, z⟩, nx, en, rr⟩ := hv
 obtain ⟨ys, x1, x2, x3, x4, x5⟩ := en.get (W := W)
 have hz : es.length = ks.length := by rw [x1, ← x3]; simp
 refine call_len_dct (beq_eq_false_iff_ne.mpr fun e => by rw [e] at z; exact absurd z (by decide)) g (by lia +abstractProof) ?_
 exact PPost.here (b := V.int ks.length) I ⟨_, by rw [hz]⟩ h
end
end Mine
set_option tactic.hygienic false
namespace Mine
section
variable {W : Wd} {sc scope : Scope} {d : Nat} {env : Env} {A : Around} {Φ Ψ : List Addr} {m m' : Loc} {μ μ' : List (Addr × Addr)} {H H' : List AObj} {s s' : Shared}
theorem CpLp.src {B : Bd} (hB : BdMono B) {x : Str} {px : Pos} {it : Expr} {ifs : List Expr} {a : Int} {src : V} {ys xs : List V} {Q : List AObj → List V → Prop} (J : Nat → List AObj → List V → Prop) (ok : SrcOk src H) (hn : ∀ i H xs R, J i H xs → R ys[i]? → Nx src H i R)
  (hx : sc.names.lookup x = some .local) (hm : m x = none) (h0 : J 0 H xs)
  (h1 : ∀ H xs, J ys.length H xs → Q H xs) (h2 : ∀ i a H xs, ys[i]? = some a → J i H xs → CpIfs W sc d ifs (m.put x a) H fun b H2 => if b = true then B (m.put x a) H2 xs (J (i + 1)) else J (i + 1) H2 xs) :
  CpLp W sc d B ⟨.Name x px, it, ifs, a⟩ src m H xs Q := by
 refine ⟨ok, x, px, rfl, hx, hm, ys.length, fun i H xs => i ≤ ys.length ∧ J i H xs, ⟨Nat.zero_le _, h0⟩, fun i H xs q => q.1, fun i H xs ⟨hi, hJ⟩ => hn i H xs _ hJ ?_⟩
 cases e : ys[i]? with
 | none =>
  have : i = ys.length := by have := List.getElem?_eq_none_iff.mp e; lia +abstractProof
  subst this; exact h1 H xs hJ
 | some a =>
  have hlt : i + 1 ≤ ys.length := (gll e)
  refine (h2 i a H xs e hJ).mono fun b H2 q => ?_
  cases b with
  | true => exact hB _ _ _ _ _ q fun H xs q => ⟨hlt, q⟩
  | false => exact ⟨hlt, q⟩
theorem CpLp.dct {B : Bd} (hB : BdMono B) {x : Str} {px : Pos} {it : Expr} {ifs : List Expr} {a : Int} {ks : List (List Int)} {vs xs : List V} {Q : List AObj → List V → Prop} (J : Nat → List AObj → List V → Prop) (hx : sc.names.lookup x = some .local) (hm : m x = none) (h0 : J 0 H xs)
  (h1 : ∀ H xs, J ks.length H xs → Q H xs) (h2 : ∀ i k H xs, ks[i]? = some k → J i H xs → CpIfs W sc d ifs (m.put x (.tup (k.map V.int))) H fun b H2 => if b = true then B (m.put x (.tup (k.map V.int))) H2 xs (J (i + 1)) else J (i + 1) H2 xs) :
  CpLp W sc d B ⟨.Name x px, it, ifs, a⟩ (.dct ks vs) m H xs Q := CpLp.src (ys := ks.map fun k => .tup (k.map V.int)) hB J trivial (fun i H xs R hJ r => by show R _; rw [List.getElem?_map] at r; exact r) hx hm h0 (by rw [List.length_map]; exact h1)
  fun i a H xs e hJ => by
   rw [List.getElem?_map] at e
   obtain ⟨k, ek, rfl⟩ := Option.map_eq_some_iff.mp e
   exact h2 i k H xs ek hJ
theorem Cp_mapS {elt : Expr} {x : Str} {px : Pos} {it : Expr} {a : Int} {src : V} {ys xs : List V} {Q : List AObj → List V → Prop} (g : V → V) (hsrc : AsList src H ys) (hx : sc.names.lookup x = some .local) (hm : m x = none) (hl : xs.length + ys.length ≤ 1000000)
  (h1 : Q H (xs ++ ys.map g)) (h2 : ∀ b, b ∈ ys → Ev W sc d elt (m.put x b) H fun c H2 => c = g b ∧ H2 = H) : CpLp W sc d (CpIn W sc d elt []) ⟨.Name x px, it, [], a⟩ src m H xs Q := by
 refine CpLp.src (ys := ys) (CpIn.mono elt []) (fun i H' zs => H' = H ∧ zs = xs ++ (ys.take i).map g) ?_ ?_ hx hm ⟨rfl, by simp⟩ (fun H' zs ⟨e1, e2⟩ => ?_) fun i b H' zs e ⟨e1, e2⟩ => ?_
 ·rcases hsrc with rfl | ⟨k, rfl, hk⟩
  ·trivial
  ·exact ⟨ys, hk⟩
 ·rintro i H' zs R ⟨rfl, _⟩ r
  rcases hsrc with rfl | ⟨k, rfl, hk⟩
  ·exact r
  ·exact ⟨ys, hk, r⟩
 ·subst e1 e2; rw [List.take_length]; exact h1
 ·subst e1 e2
  simp only [CpIfs_n, CpIfs_o, CpIn_n, if_true]
  refine Ev.mono (h2 b (List.mem_of_getElem? e)) fun c H2 ⟨e3, e4⟩ => ?_
  subst e3 e4
  refine ⟨by simp; lia +abstractProof, rfl, ?_⟩
  rw [take_snoc e, List.append_assoc]
theorem Cp_filter {x : Str} {px pe : Pos} {it c : Expr} {a : Int} {ys xs : List V} {Q : List AObj → List V → Prop} (p : V → Bool) (hdb : (x == ("__debug__" : Str)) = false) (hx : sc.names.lookup x = some .local) (hm : m x = none) (hl : xs.length + ys.length ≤ 1000000)
  (h1 : Q H (xs ++ ys.filter p)) (h2 : ∀ b, b ∈ ys → Tv W sc d c (m.put x b) H fun r H2 => r = p b ∧ H2 = H) : CpLp W sc d (CpIn W sc d (.Name x pe) []) ⟨.Name x px, it, [c], a⟩ (.lst ys) m H xs Q := by
 refine CpLp.lst (CpIn.mono _ []) (fun i H' zs => H' = H ∧ zs = xs ++ (ys.take i).filter p) hx hm ⟨rfl, by simp⟩ (fun H' zs ⟨e1, e2⟩ => ?_) fun i b H' zs e ⟨e1, e2⟩ => ?_
 ·subst e1 e2; rw [List.take_length]; exact h1
 ·subst e1 e2
  simp only [CpIfs_n, CpIfs_o]
  refine Tv.mono (h2 b (List.mem_of_getElem? e)) fun r H2 ⟨e3, e4⟩ => ?_
  subst e3 e4
  have tk : (ys.take (i + 1)).filter p = (ys.take i).filter p ++ [b].filter p := by rw [List.take_add_one, e]; simp
  cases hp : p b with
  | true =>
   simp only [if_true, CpIn_n]
   have hlt := (gll e)
   refine E_local ?_ hx Loc.put_eq hdb
   refine ⟨?_, rfl, ?_⟩
   ·rw [List.length_append]
    have := List.length_filter_le p (ys.take i)
    rw [List.length_take] at this; lia +abstractProof
   ·rw [tk, List.append_assoc, List.filter_cons, hp]; rfl
  | false =>
   simp only [Bool.false_eq_true, if_false]
   refine ⟨trivial, ?_⟩
   rw [tk, List.filter_cons, hp]; simp
theorem S_mid {st : Stmt} {rest : List Stmt} {Q : AF → Loc → List AObj → Prop} (P : Loc → List AObj → Prop) (h1 : Sx W sc d st m H fun f m1 H1 => f = .next ∧ P m1 H1) (h2 : ∀ m1 H1, P m1 H1 → Ss W sc d rest m1 H1 Q) : Ss W sc d (st :: rest) m H Q :=
 S_cons (h1.mono fun f m1 H1 ⟨e, p⟩ => by subst e; exact h2 m1 H1 p)
end
end Mine
set_option tactic.hygienic false
namespace Mine
section
variable {prog : Program} {w : World} {A : Around} {E : Value → Shared → Prop} {s : Shared} {env : Env}
theorem sub_slice {value : Expr} {lower upper : Option Expr} {p pos : Pos} {T id : String} {Q : Value → Shared → Prop}
  (hl : typeLookup (.type T) "__getitem__" = pure (some (.builtin id)))
  (h : wpAny (model prog w) A (eval value env) (fun o s₁ => wpAny (model prog w) A (eval (.Slice lower upper none p) env) (fun i s₂ => s₂.TypeIs o T ∧ wpAny (model prog w) A (getItem o i) Q E s₂) E s₁) E s) :
  wpAny (model prog w) A (eval (.Subscript value (.Slice lower upper none p) pos) env) Q E s := by
 rw [eval_Subscript]
 refine wpAny_bind (wpAny_mono h (fun o s₁ h₁ => wpAny_bind (wpAny_holding (wpm h₁ (fun i s₂ h₂ => wpAny_bind (wpAny_standAt ?_)))))
  fun za zb x => x)
 have fin : wpAny (model prog w) A (operate [i, o] (getItem o i)) (fun r s₃ => wpAny (model prog w) A (letTemporaryGo value o r >>= fun za => pure r) Q E s₃) E s₂ :=
  wpAny_operating (wpm h₂.2 (fun r s₃ h₃ => wpAny_bind (wpAny_letTemporaryGo (wpAny_pure h₃))))
 first
  | (refine wpAny_bind ?_; rw [getitemInPython_of_ne h₂.1.not_modules]; refine wpAny_bind (wpAny_specialOf h₂.1 hl ?_); first | exact wpAny_pure (wpAny_bind fin) | exact wpAny_bind (wpAny_pure (wpAny_bind fin)) | exact wpAny_bind fin)
  | (refine wpAny_bind (wpAny_specialOf h₂.1 hl ?_); first | exact wpAny_bind (wpAny_pure (wpAny_bind fin)) | exact wpAny_bind fin)
theorem sub_list_slice {value : Expr} {lower upper : Option Expr} {p pos : Pos} {Q : Value → Shared → Prop}
  (h : wpAny (model prog w) A (eval value env) (fun o s₁ => wpAny (model prog w) A (evalPart lower env) (fun vl s₂ => wpAny (model prog w) A (evalPart upper env) (fun vu s₃ =>
   ∃ l items lo hi, o = .ref l ∧ s₃.heap.IsList l items ∧ items.size ≤ sizeLine ∧ IsPart vl lo ∧ IsPart vu hi ∧
    Q (.ref (s₃.heap.objs.size + 1)) { s₃ with heap := (s₃.heap.push { cls := .type "slice", data := .fields #[vl, vu, .none] }).push { cls := .type "list", data := .seq (slicePick items lo hi none) } }) E s₂) E s₁) E s) :
  wpAny (model prog w) A (eval (.Subscript value (.Slice lower upper none p) pos) env) Q E s := by
 refine sub_slice (T := "list") list_getitem_lookup (wpAny_mono h (fun o s₁ h₁ => wpAny_Slice (wpAny_mono h₁ (fun vl s₂ h₂ => wpAny_mono h₂ (fun vu s₃ h₃ => ?_) fun za zb e => e) fun za zb e => e)) fun za zb e => e)
 obtain ⟨l, items, lo, hi, rfl, hl, hsz, pl, pu, hQ⟩ := h₃
 rw [evalPart_none]
 refine wpAny_pure ⟨(hl.push _).typeIs, wpAny_getItem_list_slice (hl.push _) (Heap.IsSliceOf.new ..) pl pu .none (by simp) ?_ hsz⟩
 rw [Heap.size_push]
 exact hQ
end
section
variable {W : Wd} {sc scope : Scope} {d : Nat} {env : Env} {A : Around} {Φ Ψ : List Addr} {m m' : Loc} {μ μ' : List (Addr × Addr)} {H H' : List AObj} {s s' : Shared}
theorem E_sliceA {value lo hi : Expr} {p pos : Pos} {Q : V → List AObj → Prop} (fz : Bool) (h : Ev W sc d value m H fun a H1 => Ev W sc d lo m H1 fun b H2 => Ev W sc d hi m H2 fun c H3 => ∃ xs i j, AsList a H3 xs ∧ b = .int i ∧ c = .int j ∧ 0 ≤ i ∧ i ≤ j ∧ j ≤ xs.length ∧ xs.length ≤ 1000000 ∧ cpOut fz Q H3 ((xs.drop i.toNat).take (j.toNat - i.toNat))) :
  Ev W sc d (.Subscript value (.Slice (some lo) (some hi) none p) pos) m H Q := fun env A Φ μ s F => by
 refine sub_list_slice (JPost.goE F (h env A Φ μ s F) fun v s1 a H1 μ1 F1 K1 r1 q1 => ?_)
 rw [evalPart_some]
 refine JPost.goE F1 (q1 env A Φ μ1 s1 F1) fun u s2 b H2 μ2 F2 K2 r2 q2 => ?_
 rw [evalPart_some]
 refine JPost.goE F2 (q2 env A Φ μ2 s2 F2) fun w s3 c H3 μ3 F3 K3 r3 ⟨xs, i, j, hx, eb, ec, h0, h1, h2, hl, q⟩ => ?_
 subst eb ec
 obtain ⟨t2, rfl⟩ := r2
 obtain ⟨t3, rfl⟩ := r3
 obtain ⟨p, us, rfl, g, rr⟩ := hx.look F3.inv ((r1.step (F1.stepF K2)).step (F2.stepF K3))
 have hlen := rr.length
 refine ⟨p, us.toArray, some i, some j, rfl, g.isList, by rw [List.size_toArray, hlen, sizeLine_eq]; lia +abstractProof, .int _ _, .int _ _, ?_⟩
 have ex : i = (i.toNat : Int) := by lia +abstractProof
 have ey : j = (j.toNat : Int) := by lia +abstractProof
 have e : slicePick us.toArray (some i) (some j) none = ((us.drop i.toNat).take (j.toNat - i.toNat)).toArray := by
  conv => lhs; rw [ex, ey]
  rw [slicePick_run us.toArray i.toNat j.toNat (by simp; lia +abstractProof) (by lia +abstractProof)]
 rw [e]
 refine JPost.ofK ((K1.trans K2).trans K3) (JPost.ofP F3 ?_)
 exact slice_end (Q := fun a' H' => m = m ∧ Q a' H') fz F3.inv ((rr.drop _).take _) (cpOut.same q)
end
end Mine
end
set_option tactic.hygienic false
namespace Mine
noncomputable def goalOf (rows : List (List Int)) (s c : Int) : Int := if s = -1 then -1 else (rows.getD s.toNat []).getD c.toNat (-1)
noncomputable def tagOf (tags : List (List Int)) (s : Int) : List Int := if s = -1 then [] else tags.getD s.toNat []
noncomputable def runOf (rows : List (List Int)) (s : Int) : List Int → Int
 | [] => s
 | c :: u => runOf rows (goalOf rows s c) u
noncomputable def T (rows tags : List (List Int)) (s : Int) (u : List Int) : List Int := tagOf tags (runOf rows s u)
noncomputable def WordOk (w : Nat) (u : List Int) : Prop := ∀ c, c ∈ u → 0 ≤ c ∧ c < w
structure Aut (w : Nat) (rows tags : List (List Int)) : Prop where
 same : tags.length = rows.length
 pos : 1 ≤ rows.length
 small : rows.length ≤ 100
 row : ∀ r, r ∈ rows → r.length = w ∧ ∀ g, g ∈ r → -1 ≤ g ∧ g < rows.length
 width : 1 ≤ w ∧ w ≤ 2
 tag : ∀ t, t ∈ tags → t.length ≤ 5
noncomputable def At (rows : List (List Int)) (s : Int) : Prop := -1 ≤ s ∧ s < rows.length
theorem get_of_lt {α : Type} {l : List α} {i : Nat} (h : i < l.length) : ∃ a, l[i]? = some a ∧ a ∈ l := ⟨l[i], List.getElem?_eq_getElem h, List.getElem_mem h⟩
theorem getD_of {α : Type} {l : List α} {i : Nat} {a b : α} (h : l[i]? = some a) : l.getD i b = a := by rw [List.getD_eq_getElem?_getD, h]; rfl
theorem Aut.rowAt {w rows tags} (A : Aut w rows tags) {s : Int} (h0 : 0 ≤ s) (h1 : s < rows.length) : ∃ r, rows[s.toNat]? = some r ∧ r.length = w ∧ ∀ g, g ∈ r → -1 ≤ g ∧ g < rows.length := by
 obtain ⟨r, e, hr⟩ := get_of_lt (l := rows) (i := s.toNat) (by lia)
 exact ⟨r, e, A.row r hr⟩
theorem Aut.tagAt {w rows tags} (A : Aut w rows tags) {s : Int} (h0 : 0 ≤ s) (h1 : s < rows.length) : ∃ t, tags[s.toNat]? = some t ∧ t.length ≤ 5 := by
 obtain ⟨t, e, ht⟩ := get_of_lt (l := tags) (i := s.toNat) (by have := A.same; lia +abstractProof)
 exact ⟨t, e, A.tag t ht⟩
theorem Aut.goal {w rows tags} (A : Aut w rows tags) {s c : Int} (h : At rows s) (c0 : 0 ≤ c) (c1 : c < w) : At rows (goalOf rows s c) := by
 unfold goalOf
 split
 ·have := A.pos; exact ⟨by lia, by lia⟩
 ·obtain ⟨h1, h2⟩ := h
  obtain ⟨r, e, hl, hg⟩ := A.rowAt (s := s) (by lia) h2
  rw [getD_of e]
  obtain ⟨g, e2, hm⟩ := get_of_lt (l := r) (i := c.toNat) (by lia)
  rw [getD_of e2]; exact hg g hm
theorem WordOk.tail {w c u} (h : WordOk w (c :: u)) : WordOk w u := fun x q => h x (.tail _ q)
theorem Aut.run {w rows tags} (A : Aut w rows tags) : ∀ (u : List Int) {s : Int}, At rows s → WordOk w u → At rows (runOf rows s u)
 | [], _, h, _ => h
 | c :: u, s, h, hu => A.run u (A.goal h (hu c (.head _)).1 (hu c (.head _)).2) hu.tail
theorem runOf_append (rows : List (List Int)) : ∀ (u v : List Int) (s : Int), runOf rows s (u ++ v) = runOf rows (runOf rows s u) v
 | [], _, _ => rfl
 | c :: u, v, s => runOf_append rows u v _
theorem goalOf_dead (rows : List (List Int)) (c : Int) : goalOf rows (-1) c = -1 := if_pos rfl
theorem runOf_dead (rows : List (List Int)) : ∀ u, runOf rows (-1) u = -1
 | [] => rfl
 | c :: u => by show runOf rows (goalOf rows (-1) c) u = -1; rw [goalOf_dead]; exact runOf_dead rows u
theorem T_cons (rows tags : List (List Int)) (s c : Int) (u : List Int) : T rows tags s (c :: u) = T rows tags (goalOf rows s c) u := rfl
theorem T_append (rows tags : List (List Int)) (s : Int) (u v : List Int) : T rows tags s (u ++ v) = T rows tags (runOf rows s u) v := by unfold T; rw [runOf_append]
noncomputable def exts (w : Nat) (u : List Int) : List (List Int) := (List.range w).map fun c => u ++ [((c : Nat) : Int)]
noncomputable def level (w : Nat) : Nat → List (List Int)
 | 0 => [[]]
 | n + 1 => ((level w n).map (exts w)).flatten
noncomputable def allWords (w : Nat) : Nat → List (List Int)
 | 0 => [[]]
 | n + 1 => allWords w n ++ level w (n + 1)
theorem level_len {w : Nat} : ∀ {n : Nat} {u : List Int}, u ∈ level w n → u.length = n
 | 0, u, h => by rw [List.mem_singleton.mp h]; rfl
 | n + 1, u, h => by
  obtain ⟨l, hl, hu⟩ := List.mem_flatten.mp h
  obtain ⟨v, hv, rfl⟩ := List.mem_map.mp hl
  obtain ⟨c, _, rfl⟩ := List.mem_map.mp hu
  rw [List.length_append, level_len hv]; rfl
theorem all_len {w : Nat} : ∀ {n : Nat} {u : List Int}, u ∈ allWords w n → u.length ≤ n
 | 0, u, h => by rw [List.mem_singleton.mp h]; exact Nat.le_refl _
 | n + 1, u, h => by
  rcases List.mem_append.mp h with q | q
  ·exact Nat.le_succ_of_le (all_len q)
  ·exact Nat.le_of_eq (level_len q)
theorem filter_all (w : Nat) : ∀ n, (allWords w n).filter (fun u => u.length == n) = level w n
 | 0 => rfl
 | n + 1 => by
  show ((allWords w n) ++ level w (n + 1)).filter _ = _
  rw [List.filter_append]
  have h1 : (allWords w n).filter (fun u => u.length == n + 1) = [] := by
   rw [List.filter_eq_nil_iff]
   intro u hu
   have := all_len hu
   simp; lia +abstractProof
  have h2 : (level w (n + 1)).filter (fun u => u.length == n + 1) = level w (n + 1) := by
   rw [List.filter_eq_self]
   intro u hu
   rw [level_len hu]; simp
  rw [h1, h2]; rfl
theorem level_mem {w : Nat} : ∀ {n : Nat} {u : List Int}, u.length = n → WordOk w u → u ∈ level w n
 | 0, u, h, _ => by rw [List.length_eq_zero_iff.mp h]; exact List.mem_singleton.mpr rfl
 | n + 1, u, h, hu => by
  have hne : u ≠ [] := by intro e; rw [e] at h; cases h
  have e := List.dropLast_concat_getLast hne
  refine List.mem_flatten.mpr ⟨exts w u.dropLast, List.mem_map.mpr ⟨u.dropLast, level_mem (by simp [h]) (fun c q => hu c (by have z : c ∈ u.dropLast ++ [u.getLast hne] := List.mem_append_left _ q; rwa [e] at z)), rfl⟩, ?_⟩
  obtain ⟨c0, c1⟩ := hu _ (List.getLast_mem hne)
  refine List.mem_map.mpr ⟨(u.getLast hne).toNat, List.mem_range.mpr (by lia), ?_⟩
  rw [show (((u.getLast hne).toNat : Nat) : Int) = u.getLast hne by lia]; exact e
theorem all_mem {w : Nat} : ∀ {n : Nat} {u : List Int}, u.length ≤ n → WordOk w u → u ∈ allWords w n
 | 0, u, h, _ => by rw [List.length_eq_zero_iff.mp (Nat.le_zero.mp h)]; exact List.mem_singleton.mpr rfl
 | n + 1, u, h, hu => by
  by_cases q : u.length = n + 1
  ·exact List.mem_append_right _ (level_mem q hu)
  ·exact List.mem_append_left _ (all_mem (by lia) hu)
theorem level_ok {w : Nat} : ∀ {n : Nat} {u : List Int}, u ∈ level w n → WordOk w u
 | 0, u, h => by rw [List.mem_singleton.mp h]; intro c q; cases q
 | n + 1, u, h => by
  obtain ⟨l, hl, hu⟩ := List.mem_flatten.mp h
  obtain ⟨v, hv, rfl⟩ := List.mem_map.mp hl
  obtain ⟨c, hc, rfl⟩ := List.mem_map.mp hu
  intro x q
  rcases List.mem_append.mp q with q | q
  ·exact level_ok hv x q
  ·rw [List.mem_singleton.mp q]; have := List.mem_range.mp hc; lia +abstractProof
theorem all_ok {w : Nat} : ∀ {n : Nat} {u : List Int}, u ∈ allWords w n → WordOk w u
 | 0, u, h => by rw [List.mem_singleton.mp h]; intro c q; cases q
 | n + 1, u, h => (List.mem_append.mp h).elim all_ok level_ok
theorem level_count (w : Nat) : ∀ n, (level w n).length = w ^ n
 | 0 => rfl
 | n + 1 => by
  have : ∀ l : List (List Int), ((l.map (exts w)).flatten).length = l.length * w := fun l => by
   induction l with
   | nil => simp
   | cons u l ih => rw [List.map_cons, List.flatten_cons, List.length_append, ih]; simp [exts, Nat.add_mul]; lia
  show (((level w n).map (exts w)).flatten).length = _
  rw [this, level_count w n, Nat.pow_succ]
theorem all_count (w : Nat) (hw : w ≤ 2) : ∀ n, (allWords w n).length ≤ 2 ^ (n + 1)
 | 0 => by show 1 ≤ 2 ^ (0 + 1); decide
 | n + 1 => by
  show ((allWords w n) ++ level w (n + 1)).length ≤ _
  rw [List.length_append, level_count]
  have h1 := all_count w hw n
  have h2 : w ^ (n + 1) ≤ 2 ^ (n + 1) := Nat.pow_le_pow_left hw _
  rw [Nat.pow_succ 2 (n + 1)]; lia
end Mine
set_option tactic.hygienic false
namespace Mine
end Mine
set_option tactic.hygienic false
namespace Mine
theorem snoc_cases {α : Type} (l : List α) : l = [] ∨ ∃ l' a, l = l' ++ [a] := by
 by_cases h : l = []
 ·exact .inl h
 ·exact .inr ⟨l.dropLast, l.getLast h, (List.dropLast_concat_getLast h).symm⟩
inductive Reach (ls : List (List Int)) (seeds : List Int) : Int → Prop
 | base {s} : s ∈ seeds → Reach ls seeds s
 | step {k : Nat} {l g} : Reach ls seeds (k : Int) → ls[k]? = some l → g ∈ l → Reach ls seeds g
noncomputable def On (sn : List Bool) (g : Int) : Prop := ∃ k : Nat, g = (k : Int) ∧ sn[k]? = some true
structure SpI (ls : List (List Int)) (seeds : List Int) (sn : List Bool) (wt : List Int) (P j : Nat) : Prop where
 len : sn.length = ls.length
 hwt : ∀ x, x ∈ wt → On sn x
 sound : ∀ k : Nat, sn[k]? = some true → Reach ls seeds k
 hseeds : ∀ s, s ∈ seeds → On sn s
 closed : ∀ (k : Nat) l, sn[k]? = some true → ls[k]? = some l → (k : Int) ∈ wt ∨ (∀ g, g ∈ l → On sn g) ∨ (k = P ∧ ∀ g, g ∈ l.take j → On sn g)
theorem On.set {sn : List Bool} {g : Int} (h : On sn g) (k : Nat) : On (sn.set k true) g := by
 obtain ⟨i, e, h⟩ := h
 refine ⟨i, e, ?_⟩
 by_cases q : k = i
 ·subst q; rw [List.getElem?_set_self (gll h)]
 ·rw [List.getElem?_set_ne q]; exact h
theorem On.self {sn : List Bool} {k : Nat} (h : k < sn.length) : On (sn.set k true) k := ⟨k, rfl, List.getElem?_set_self h⟩
theorem set_true {sn : List Bool} {k i : Nat} (h : (sn.set k true)[i]? = some true) : i = k ∨ sn[i]? = some true := by
 by_cases q : k = i
 ·exact .inl q.symm
 ·rw [List.getElem?_set_ne q] at h; exact .inr h
variable {ls : List (List Int)} {seeds : List Int} {sn : List Bool} {wt : List Int} {P j : Nat}
theorem SpI.pop {p : Nat} (h : SpI ls seeds sn (wt ++ [(p : Int)]) ls.length 0) : SpI ls seeds sn wt p 0 := by
 refine ⟨h.len, fun x q => h.hwt x (List.mem_append_left _ q), h.sound, h.hseeds, fun k l e e' => ?_⟩
 rcases h.closed k l e e' with q | q | ⟨q, _⟩
 ·rcases List.mem_append.mp q with q | q
  ·exact .inl q
  ·have := List.mem_singleton.mp q
   exact .inr (.inr ⟨by lia, fun g z => by simp at z⟩)
 ·exact .inr (.inl q)
 ·exact absurd (gll e') (by lia)
theorem SpI.old {l : List Int} {g : Int} (el : ls[P]? = some l) (eg : l[j]? = some g) (on : On sn g) (h : SpI ls seeds sn wt P j) : SpI ls seeds sn wt P (j + 1) := by
 refine ⟨h.len, h.hwt, h.sound, h.hseeds, fun k l' e e' => ?_⟩
 rcases h.closed k l' e e' with q | q | ⟨rfl, q⟩
 ·exact .inl q
 ·exact .inr (.inl q)
 ·refine .inr (.inr ⟨rfl, fun x z => ?_⟩)
  rw [el] at e'; cases e'
  rw [List.take_add_one, eg] at z
  rcases List.mem_append.mp z with z | z
  ·exact q x z
  ·rw [show x = g by simpa using z]; exact on
theorem SpI.new {l : List Int} {g : Nat} (el : ls[P]? = some l) (eg : l[j]? = some (g : Int)) (hp : sn[P]? = some true) (hg : g < sn.length) (h : SpI ls seeds sn wt P j) : SpI ls seeds (sn.set g true) (wt ++ [(g : Int)]) P (j + 1) := by
 have cX : True := trivial
 revert ls seeds sn wt P j l g el eg hp hg h
 rintro ls seeds sn wt P j l g el eg hp hg h
 refine ⟨by rw [List.length_set]; exact h.len, fun x q => ?_, fun k e => ?_, fun s q => (h.hseeds s q).set g, fun k l' e e' => ?_⟩
 ·rcases List.mem_append.mp q with q | q
  ·exact (h.hwt x q).set g
  ·rw [List.mem_singleton.mp q]; exact On.self hg
 ·rcases set_true e with rfl | q
  ·exact .step (h.sound P hp) el (List.mem_of_getElem? eg)
  ·exact h.sound k q
 ·rcases set_true e with rfl | q
  ·exact .inl (List.mem_append_right _ (.head _))
  ·rcases h.closed k l' q e' with q | q | ⟨rfl, q⟩
   ·exact .inl (List.mem_append_left _ q)
   ·exact .inr (.inl fun x z => (q x z).set g)
   ·refine .inr (.inr ⟨rfl, fun x z => ?_⟩)
    rw [el] at e'; cases e'
    rw [List.take_add_one, eg] at z
    rcases List.mem_append.mp z with z | z
    ·exact (q x z).set g
    ·rw [show x = (g : Int) by simpa using z]; exact On.self hg
theorem SpI.up {l : List Int} (el : ls[P]? = some l) (h : SpI ls seeds sn wt P l.length) : SpI ls seeds sn wt ls.length 0 := by
 refine ⟨h.len, h.hwt, h.sound, h.hseeds, fun k l' e e' => ?_⟩
 rcases h.closed k l' e e' with q | q | ⟨rfl, q⟩
 ·exact .inl q
 ·exact .inr (.inl q)
 ·rw [el] at e'; cases e'
  rw [List.take_length] at q
  exact .inr (.inl q)
set_option tactic.hygienic true in
theorem SpI.done (h : SpI ls seeds sn [] ls.length 0) {x : Int} (r : Reach ls seeds x) : On sn x := by
 induction r with
 | base hs => exact h.hseeds _ hs
 | step _ e hg ih =>
  obtain ⟨k, ek, hk⟩ := ih
  rename_i k' l g _
  have : k' = k := by lia
  subst this
  rcases h.closed k' l hk e with q | q | ⟨rfl, _⟩
  ·cases q
  ·exact q _ hg
  ·exact absurd (gll e) (Nat.lt_irrefl _)
noncomputable def cf (sn : List Bool) : Nat := sn.countP fun b => !b
theorem cf_set : ∀ {sn : List Bool} {k : Nat}, sn[k]? = some false → cf (sn.set k true) + 1 = cf sn
 | [], _, e => by simp at e
 | b :: sn, 0, e => by simp at e; subst e; simp [cf, List.countP_cons]
 | b :: sn, k + 1, e => by
  have := cf_set (sn := sn) (k := k) (by simpa using e)
  unfold cf at this ⊢
  rw [List.set_cons_succ, List.countP_cons, List.countP_cons]; lia
theorem cf_le : ∀ sn : List Bool, cf sn ≤ sn.length := fun sn => List.countP_le_length
end Mine
set_option tactic.hygienic false
namespace Mine
noncomputable def lnk (rows : List (List Int)) : List (List Int) := rows.map fun r => r.filter fun g => !decide (g = -1)
noncomputable def TurnedM (ls bs : List (List Int)) : Prop := bs.length = ls.length ∧ ∀ (g : Nat) b, bs[g]? = some b → ∀ p, p ∈ b ↔ ∃ (k : Nat) (l : List Int), p = (k : Int) ∧ ls[k]? = some l ∧ (g : Int) ∈ l
noncomputable def Alive (w : Nat) (rows tags : List (List Int)) (x : Int) : Prop := ∃ u, WordOk w u ∧ T rows tags x u ≠ []
theorem T_nil (rows tags : List (List Int)) (s : Int) : T rows tags s [] = tagOf tags s := rfl
theorem T_dead (rows tags : List (List Int)) (u : List Int) : T rows tags (-1) u = [] := by unfold T; rw [runOf_dead]; rfl
theorem goalOf_at {rows : List (List Int)} {k : Nat} {r : List Int} {c : Nat} {g : Int} (e : rows[k]? = some r) (eg : r[c]? = some g) : goalOf rows k c = g := by
 unfold goalOf
 rw [if_neg (by lia +abstractProof), show ((k : Int)).toNat = k by lia +abstractProof, getD_of e, show ((c : Int)).toNat = c by lia +abstractProof, getD_of eg]
theorem lnk_get {rows : List (List Int)} {k : Nat} {l : List Int} (e : (lnk rows)[k]? = some l) : ∃ r, rows[k]? = some r ∧ l = r.filter fun g => !decide (g = -1) := by
 unfold lnk at e
 rw [List.getElem?_map] at e
 obtain ⟨r, er, rfl⟩ := Option.map_eq_some_iff.mp e
 exact ⟨r, er, rfl⟩
theorem Aut.alive {w rows tags} (A : Aut w rows tags) {bs : List (List Int)} {seeds : List Int} (hb : TurnedM (lnk rows) bs) (hs : ∀ k : Nat, (k : Int) ∈ seeds ↔ ∃ t, tags[k]? = some t ∧ t ≠ []) (hs2 : ∀ s, s ∈ seeds → 0 ≤ s) (x : Nat) (hx : x < rows.length) :
  Reach bs seeds x ↔ Alive w rows tags x := by
 have hlb : bs.length = rows.length := by rw [hb.1]; simp [lnk]
 constructor
 ·have : ∀ y : Int, Reach bs seeds y → Alive w rows tags y := by
   intro y r
   induction r with
   | @base s h =>
    have h0 := hs2 s h
    obtain ⟨t, et, hne⟩ := (hs s.toNat).mp (by rwa [show ((s.toNat : Nat) : Int) = s by lia +abstractProof])
    refine ⟨[], fun c q => (by cases q), ?_⟩
    rw [T_nil]
    unfold tagOf
    rw [if_neg (by lia +abstractProof), getD_of et]; exact hne
   | @step k l g h e hg ih =>
    obtain ⟨u, hu, hT⟩ := ih
    obtain ⟨k', l', rfl, e', hk⟩ := (hb.2 k l e g).mp hg
    obtain ⟨r, er, rfl⟩ := lnk_get e'
    have hm := (List.mem_filter.mp hk).1
    obtain ⟨c, hc, hc2⟩ := List.mem_iff_getElem.mp hm
    have hrw := A.row r (List.mem_of_getElem? er)
    refine ⟨(c : Int) :: u, fun x q => ?_, ?_⟩
    ·rcases List.mem_cons.mp q with rfl | q
     ·lia +abstractProof
     ·exact hu x q
    ·rw [T_cons, goalOf_at er (List.getElem?_eq_some_iff.mpr ⟨hc, hc2⟩)]; exact hT
  exact this x
 ·rintro ⟨u, hu, hT⟩
  induction u generalizing x with
  | nil =>
   rw [T_nil] at hT
   unfold tagOf at hT
   rw [if_neg (by lia +abstractProof)] at hT
   obtain ⟨t, et, _⟩ := A.tagAt (s := x) (by lia +abstractProof) (by lia +abstractProof)
   rw [getD_of et] at hT
   exact .base ((hs x).mpr ⟨t, by simpa using et, hT⟩)
  | cons c u ih =>
   rw [T_cons] at hT
   have hc := hu c (.head _)
   obtain ⟨r, er, hl, hg⟩ := A.rowAt (s := x) (by lia +abstractProof) (by lia +abstractProof)
   rw [show ((x : Int)).toNat = x by lia +abstractProof] at er
   obtain ⟨g, eg, hmg⟩ := get_of_lt (l := r) (i := c.toNat) (by lia +abstractProof)
   have e1 : goalOf rows x c = g := by
    have := goalOf_at er eg
    rwa [show ((c.toNat : Nat) : Int) = c by lia +abstractProof] at this
   rw [e1] at hT
   have hne : g ≠ -1 := fun q => hT (by rw [q, T_dead])
   have hr := hg g hmg
   have hi := ih g.toNat (by lia +abstractProof) hu.tail (by rwa [show ((g.toNat : Nat) : Int) = g by lia +abstractProof])
   obtain ⟨b, eb, _⟩ := get_of_lt (l := bs) (i := g.toNat) (by lia +abstractProof)
   refine .step hi eb ((hb.2 _ b eb x).mpr ⟨x, r.filter fun g => !decide (g = -1), rfl, ?_, ?_⟩)
   ·unfold lnk; rw [List.getElem?_map, er]; rfl
   ·rw [show ((g.toNat : Nat) : Int) = g by lia +abstractProof]
    exact List.mem_filter.mpr ⟨hmg, by simpa using hne⟩
theorem nodup_le : ∀ (n : Nat) {l : List Int}, l.Nodup → (∀ x, x ∈ l → 0 ≤ x ∧ x < n) → l.length ≤ n
 | 0, l, _, h => by
  cases l with
  | nil => exact Nat.le_refl _
  | cons a l => have := h a (.head _); lia
 | n + 1, l, nd, h => by
  by_cases hm : (n : Int) ∈ l
  ·have h1 := nodup_le n (l := l.erase (n : Int)) (nd.erase _) fun x q => by
    have := (nd.mem_erase_iff).mp q
    have := h x this.2
    lia
   rw [List.length_erase_of_mem hm] at h1
   lia
  ·have h1 := nodup_le n nd fun x q => by
    have := h x q
    have : x ≠ n := fun e => hm (e ▸ q)
    lia
   lia
end Mine
set_option tactic.hygienic false
namespace Mine
noncomputable def CellOk (sn : List Bool) (ord : List Int) (g x : Int) : Prop := (x = -1 ∧ (g = -1 ∨ sn[g.toNat]? = some false)) ∨ (0 ≤ g ∧ sn[g.toNat]? = some true ∧ ∃ m : Nat, x = (m : Int) ∧ ord[m]? = some g)
theorem CellOk.mono {sn ord g x} (h : CellOk sn ord g x) (l : List Int) : CellOk sn (ord ++ l) g x := h.imp id fun ⟨a, b, m, e, q⟩ => ⟨a, b, m, e, by rw [List.getElem?_append_left (gll q)]; exact q⟩
noncomputable def RowOk (sn : List Bool) (ord r row : List Int) (j : Nat) : Prop := row.length = j ∧ ∀ (c : Nat) x, row[c]? = some x → ∃ g, r[c]? = some g ∧ CellOk sn ord g x
theorem RowOk.mono {sn ord r row j} (h : RowOk sn ord r row j) (l : List Int) : RowOk sn (ord ++ l) r row j := ⟨h.1, fun c x e => let ⟨g, a, b⟩ := h.2 c x e; ⟨g, a, b.mono l⟩⟩
theorem RowOk.push {sn ord r row j g x} (h : RowOk sn ord r row j) (e : r[j]? = some g) (q : CellOk sn ord g x) : RowOk sn ord r (row ++ [x]) (j + 1) := by
 refine ⟨by simp [h.1], fun c y ec => ?_⟩
 by_cases hc : c < row.length
 ·rw [List.getElem?_append_left hc] at ec; exact h.2 c y ec
 ·have hc2 : c = row.length := by
   have := (gll ec)
   rw [List.length_append, List.length_singleton] at this; lia
  subst hc2
  rw [List.getElem?_concat_length] at ec
  cases ec
  exact ⟨g, by rw [h.1]; exact e, q⟩
structure NumI (rows : List (List Int)) (sn : List Bool) (ord : List Int) (rs : List (List Int)) : Prop where
 le : rs.length ≤ ord.length
 nd : ord.Nodup
 first : ord[0]? = some 0
 rng : ∀ x, x ∈ ord → 0 ≤ x ∧ x < rows.length
 row : ∀ (i : Nat) row, rs[i]? = some row → ∃ (o : Int) (r : List Int), ord[i]? = some o ∧ rows[o.toNat]? = some r ∧ RowOk sn ord r row r.length
 par : ∀ m : Nat, 0 < m → m < ord.length → ∃ (j c : Nat) (row : List Int), j < m ∧ rs[j]? = some row ∧ row[c]? = some (m : Int)
structure NumP (rows : List (List Int)) (sn : List Bool) (ord : List Int) (rs : List (List Int)) (r row : List Int) (j : Nat) : Prop where
 lt : rs.length < ord.length
 nd : ord.Nodup
 first : ord[0]? = some 0
 rng : ∀ x, x ∈ ord → 0 ≤ x ∧ x < rows.length
 rows_ : ∀ (i : Nat) row, rs[i]? = some row → ∃ (o : Int) (r : List Int), ord[i]? = some o ∧ rows[o.toNat]? = some r ∧ RowOk sn ord r row r.length
 now : ∃ o : Int, ord[rs.length]? = some o ∧ rows[o.toNat]? = some r
 cur : RowOk sn ord r row j
 par : ∀ m : Nat, 0 < m → m < ord.length → ∃ (j c : Nat) (row' : List Int), j < m ∧ (rs ++ [row])[j]? = some row' ∧ row'[c]? = some (m : Int)
variable {rows : List (List Int)} {sn : List Bool} {ord : List Int} {rs : List (List Int)} {r row : List Int} {j : Nat}
theorem NumI.start (h0 : 1 ≤ rows.length) : NumI rows sn [0] [] := ⟨by simp, by simp, rfl, fun x q => by have := List.mem_singleton.mp q; lia, fun i row e => by simp at e, fun m h1 h2 => by simp at h2; lia⟩
theorem NumI.open (h : NumI rows sn ord rs) {o : Int} (eo : ord[rs.length]? = some o) (er : rows[o.toNat]? = some r) : NumP rows sn ord rs r [] 0 where
 lt := (gll eo)
 nd := h.nd
 first := h.first
 rng := h.rng
 rows_ := h.row
 now := ⟨o, eo, er⟩
 cur := ⟨rfl, fun c x e => by simp at e⟩
 par := fun m h1 h2 => let ⟨j, c, row, a, b, e⟩ := h.par m h1 h2; ⟨j, c, row, a, by rw [List.getElem?_append_left (gll b)]; exact b, e⟩
theorem par_push {rs : List (List Int)} {row : List Int} {x : Int} {m : Nat} (h : ∃ (j c : Nat) (row' : List Int), j < m ∧ (rs ++ [row])[j]? = some row' ∧ row'[c]? = some (m : Int)) :
  ∃ (j c : Nat) (row' : List Int), j < m ∧ (rs ++ [row ++ [x]])[j]? = some row' ∧ row'[c]? = some (m : Int) := by
 have cX : True := trivial
 revert rs row x m h
 rintro rs row x m h
 obtain ⟨j, c, row', a, b, e⟩ := h
 by_cases hj : j < rs.length
 ·rw [List.getElem?_append_left hj] at b
  exact ⟨j, c, row', a, by rw [List.getElem?_append_left hj]; exact b, e⟩
 ·have hj2 : j = rs.length := by
   have := (gll b)
   rw [List.length_append, List.length_singleton] at this; lia +abstractProof
  subst hj2
  rw [List.getElem?_concat_length] at b
  cases b
  exact ⟨_, c, row ++ [x], a, List.getElem?_concat_length .., by rw [List.getElem?_append_left (gll e)]; exact e⟩
theorem NumP.old {g x : Int} (h : NumP rows sn ord rs r row j) (e : r[j]? = some g) (q : CellOk sn ord g x) : NumP rows sn ord rs r (row ++ [x]) (j + 1) :=
 ⟨h.lt, h.nd, h.first, h.rng, h.rows_, h.now, h.cur.push e q, fun m h1 h2 => par_push (h.par m h1 h2)⟩
theorem NumP.new {g : Int} (h : NumP rows sn ord rs r row j) (e : r[j]? = some g) (g0 : 0 ≤ g) (g1 : g < rows.length) (k : sn[g.toNat]? = some true) (hn : g ∉ ord) : NumP rows sn (ord ++ [g]) rs r (row ++ [(ord.length : Int)]) (j + 1) where
 lt := by rw [List.length_append]; have := h.lt; lia
 nd := by
  rw [List.nodup_append]
  exact ⟨h.nd, by simp, fun a ha b hb => by rw [List.mem_singleton.mp hb]; intro q; exact hn (q ▸ ha)⟩
 first := by
  rw [List.getElem?_append_left (by have := h.lt; lia)]; exact h.first
 rng := fun x q => (List.mem_append.mp q).elim (h.rng x) fun q => by rw [List.mem_singleton.mp q]; exact ⟨g0, g1⟩
 rows_ := fun i row e => let ⟨o, r, a, b, c⟩ := h.rows_ i row e; ⟨o, r, by rw [List.getElem?_append_left (gll a)]; exact a, b, c.mono _⟩
 now := let ⟨o, a, b⟩ := h.now; ⟨o, by rw [List.getElem?_append_left (gll a)]; exact a, b⟩
 cur := (h.cur.mono _).push e (.inr ⟨g0, k, ord.length, rfl, List.getElem?_concat_length ..⟩)
 par := fun m h1 h2 => by
  by_cases hm : m < ord.length
  ·exact par_push (h.par m h1 hm)
  ·rw [List.length_append, List.length_singleton] at h2
   have : m = ord.length := by lia
   subst this
   exact ⟨rs.length, row.length, row ++ [(ord.length : Int)], h.lt, List.getElem?_concat_length .., List.getElem?_concat_length ..⟩
theorem NumP.close (h : NumP rows sn ord rs r row r.length) : NumI rows sn ord (rs ++ [row]) where
 le := by rw [List.length_append]; exact h.lt
 nd := h.nd
 first := h.first
 rng := h.rng
 row := fun i row' e => by
  by_cases hi : i < rs.length
  ·rw [List.getElem?_append_left hi] at e; exact h.rows_ i row' e
  ·have hi2 : i = rs.length := by
    have := (gll e)
    rw [List.length_append, List.length_singleton] at this; lia +abstractProof
   subst hi2
   rw [List.getElem?_concat_length] at e
   cases e
   obtain ⟨o, a, b⟩ := h.now
   exact ⟨o, r, a, b, h.cur⟩
 par := h.par
end Mine
set_option tactic.hygienic false
namespace Mine
noncomputable def Canon (nb : List Int) : Prop := ∀ (j : Nat) b, nb[j]? = some b → 0 ≤ b ∧ ∀ b', 0 ≤ b' → b' < b → ∃ j' : Nat, j' < j ∧ nb[j']? = some b'
noncomputable def SameAs (nb marks : List Int) : Prop := nb.length = marks.length ∧ ∀ (i j : Nat) a b x y, nb[i]? = some a → nb[j]? = some b → marks[i]? = some x → marks[j]? = some y → (a = b ↔ x = y)
structure NbI (marks ks nb : List Int) (i : Nat) : Prop where
 len : nb.length = i
 nd : ks.Nodup
 le : ks.length ≤ i
 at_ : ∀ (j : Nat) b, nb[j]? = some b → ∃ m : Nat, b = (m : Int) ∧ ks[m]? = marks[j]?
 canon : Canon nb
 all : ∀ m : Nat, m < ks.length → ∃ j : Nat, nb[j]? = some (m : Int)
variable {marks ks nb : List Int} {i : Nat}
theorem get_snoc {α : Type} {l : List α} {a b : α} {j : Nat} (e : (l ++ [a])[j]? = some b) : l[j]? = some b ∨ (j = l.length ∧ b = a) := by
 by_cases h : j < l.length
 ·rw [List.getElem?_append_left h] at e; exact .inl e
 ·have : j = l.length := by
   have := (gll e)
   rw [List.length_append, List.length_singleton] at this; lia
  subst this
  rw [List.getElem?_concat_length] at e
  exact .inr ⟨rfl, (Option.some.inj e).symm⟩
theorem get_left {α : Type} {l l' : List α} {b : α} {j : Nat} (e : l[j]? = some b) : (l ++ l')[j]? = some b := by
 rw [List.getElem?_append_left (gll e)]; exact e
theorem nodup_inj {α : Type} {l : List α} (nd : l.Nodup) {i j : Nat} {x : α} (e1 : l[i]? = some x) (e2 : l[j]? = some x) : i = j := by
 obtain ⟨h1, h2⟩ := List.getElem?_eq_some_iff.mp e1
 obtain ⟨h3, h4⟩ := List.getElem?_eq_some_iff.mp e2
 have p := List.pairwise_iff_getElem.mp nd
 rcases Nat.lt_trichotomy i j with h | h | h
 ·exact absurd (h2.trans h4.symm) (p i j h1 h3 h)
 ·exact h
 ·exact absurd (h4.trans h2.symm) (p j i h3 h1 h)
theorem NbI.start : NbI marks [] [] 0 := ⟨rfl, List.nodup_nil, Nat.le_refl _, fun j b e => by simp at e, fun j b e => by simp at e, fun m h => by simp at h⟩
theorem NbI.old {x : Int} {m : Nat} (h : NbI marks ks nb i) (ex : marks[i]? = some x) (em : ks[m]? = some x) : NbI marks ks (nb ++ [(m : Int)]) (i + 1) where
 len := by simp [h.len]
 nd := h.nd
 le := Nat.le_succ_of_le h.le
 at_ := fun j b e => by
  rcases get_snoc e with e | ⟨rfl, rfl⟩
  ·exact h.at_ j b e
  ·exact ⟨m, rfl, by rw [em, h.len, ex]⟩
 canon := fun j b e => by
  rcases get_snoc e with e | ⟨rfl, rfl⟩
  ·exact ⟨(h.canon j b e).1, fun b' h1 h2 => let ⟨j', q1, q2⟩ := (h.canon j b e).2 b' h1 h2; ⟨j', q1, get_left q2⟩⟩
  ·refine ⟨by lia, fun b' h1 h2 => ?_⟩
   obtain ⟨j, ej⟩ := h.all b'.toNat (by have := (gll em); lia)
   exact ⟨j, (gll ej), by rw [get_left ej]; congr 1; lia⟩
 all := fun m' hm => let ⟨j, e⟩ := h.all m' hm; ⟨j, get_left e⟩
theorem NbI.new {x : Int} (h : NbI marks ks nb i) (ex : marks[i]? = some x) (hn : x ∉ ks) : NbI marks (ks ++ [x]) (nb ++ [(ks.length : Int)]) (i + 1) where
 len := by simp [h.len]
 nd := by
  rw [List.nodup_append]
  exact ⟨h.nd, by simp, fun a ha b hb => by rw [List.mem_singleton.mp hb]; intro q; exact hn (q ▸ ha)⟩
 le := by rw [List.length_append, List.length_singleton]; have := h.le; lia
 at_ := fun j b e => by
  rcases get_snoc e with e | ⟨rfl, rfl⟩
  ·obtain ⟨m, q1, q2⟩ := h.at_ j b e
   refine ⟨m, q1, ?_⟩
   have hj := (gll e)
   have hjm : j < marks.length := by
    have := (gll ex)
    have := h.len; lia
   rw [List.getElem?_eq_getElem hjm] at q2 ⊢
   exact get_left q2
  ·exact ⟨ks.length, rfl, by rw [List.getElem?_concat_length, h.len, ex]⟩
 canon := fun j b e => by
  rcases get_snoc e with e | ⟨rfl, rfl⟩
  ·exact ⟨(h.canon j b e).1, fun b' h1 h2 => let ⟨j', q1, q2⟩ := (h.canon j b e).2 b' h1 h2; ⟨j', q1, get_left q2⟩⟩
  ·refine ⟨by lia, fun b' h1 h2 => ?_⟩
   obtain ⟨j, ej⟩ := h.all b'.toNat (by lia)
   exact ⟨j, (gll ej), by rw [get_left ej]; congr 1; lia⟩
 all := fun m hm => by
  rw [List.length_append, List.length_singleton] at hm
  by_cases q : m < ks.length
  ·obtain ⟨j, e⟩ := h.all m q; exact ⟨j, get_left e⟩
  ·have : m = ks.length := by lia
   subst this
   exact ⟨nb.length, List.getElem?_concat_length ..⟩
theorem NbI.done (h : NbI marks ks nb marks.length) : Canon nb ∧ SameAs nb marks := by
 refine ⟨h.canon, h.len, fun i j a b x y e1 e2 e3 e4 => ?_⟩
 obtain ⟨m, rfl, q1⟩ := h.at_ i a e1
 obtain ⟨k, rfl, q2⟩ := h.at_ j b e2
 rw [e3] at q1
 rw [e4] at q2
 constructor
 ·intro z
  have : m = k := by lia +abstractProof
  subst this
  rw [q1] at q2; exact Option.some.inj q2
 ·rintro rfl
  have hm := List.getElem?_eq_some_iff.mp q1
  have hk := List.getElem?_eq_some_iff.mp q2
  obtain ⟨h1, h2⟩ := hm
  obtain ⟨h3, h4⟩ := hk
  have : m = k := nodup_inj h.nd q1 q2
  lia +abstractProof
structure FsI (bs fs : List Int) (i : Nat) : Prop where
 at_ : ∀ (b : Nat) f, fs[b]? = some f → 0 ≤ f ∧ f < (i : Int) ∧ bs[f.toNat]? = some (b : Int)
 le : ∀ (s : Nat) b, s < i → bs[s]? = some b → b < fs.length
theorem FsI.start {bs : List Int} : FsI bs [] 0 := ⟨fun b f e => by simp at e, fun s b h => by lia⟩
theorem FsI.new {bs fs : List Int} {i : Nat} (h : FsI bs fs i) (e : bs[i]? = some (fs.length : Int)) : FsI bs (fs ++ [(i : Int)]) (i + 1) where
 at_ := fun b f q => by
  rcases get_snoc q with q | ⟨rfl, rfl⟩
  ·have := h.at_ b f q; exact ⟨this.1, by lia +abstractProof, this.2.2⟩
  ·exact ⟨by lia +abstractProof, by lia +abstractProof, e⟩
 le := fun s b hs q => by
  rw [List.length_append, List.length_singleton]
  by_cases z : s < i
  ·have := h.le s b z q; lia +abstractProof
  ·have : s = i := by lia +abstractProof
   subst this
   rw [e] at q; cases q; lia +abstractProof
theorem FsI.old {bs fs : List Int} {i : Nat} {b : Int} (c : Canon bs) (h : FsI bs fs i) (e : bs[i]? = some b) (hn : b ≠ fs.length) : FsI bs fs (i + 1) where
 at_ := fun b f q => by have := h.at_ b f q; exact ⟨this.1, by lia, this.2.2⟩
 le := fun s b' hs q => by
  by_cases z : s < i
  ·exact h.le s b' z q
  ·have : s = i := by lia
   subst this
   rw [e] at q; cases q
   obtain ⟨c1, c2⟩ := c s b e
   by_cases hb : b = 0
   ·subst hb
    lia
   ·obtain ⟨j', q1, q2⟩ := c2 (b - 1) (by lia) (by lia)
    have := h.le j' _ q1 q2
    lia
end Mine
set_option tactic.hygienic false
namespace Mine
noncomputable def atI (l : List Int) (i : Int) : Int := l.getD i.toNat 0
theorem atI_get {l : List Int} {i : Int} (h0 : 0 ≤ i) (h1 : i < l.length) : l[i.toNat]? = some (atI l i) := by
 unfold atI
 rw [List.getD_eq_getElem?_getD, List.getElem?_eq_getElem (by lia)]; rfl
theorem atI_of {l : List Int} {i : Int} {x : Int} (h : l[i.toNat]? = some x) : atI l i = x := getD_of h
theorem atI_set {l : List Int} {i j v : Int} (h0 : 0 ≤ i) (h1 : i < l.length) (h2 : 0 ≤ j) : atI (l.set i.toNat v) j = if j = i then v else atI l j := by
 unfold atI
 rw [List.getD_eq_getElem?_getD, List.getD_eq_getElem?_getD]
 by_cases h : j = i
 ·subst h
  rw [if_pos rfl, List.getElem?_set_self (by lia)]; rfl
 ·rw [if_neg h, List.getElem?_set_ne (by lia)]
theorem atI_push {l : List Int} {j v : Int} (h2 : 0 ≤ j) (h3 : j ≤ l.length) : atI (l ++ [v]) j = if j = l.length then v else atI l j := by
 unfold atI
 rw [List.getD_eq_getElem?_getD, List.getD_eq_getElem?_getD]
 by_cases h : j = l.length
 ·rw [if_pos h, show j.toNat = l.length by lia, List.getElem?_concat_length]; rfl
 ·rw [if_neg h, List.getElem?_append_left (by lia)]
structure Pt where
 row : List Int
 places : List Int
 blocks : List Int
 begins : List Int
 ends : List Int
 marked : List Int
 touched : List Int
theorem nePt : Nonempty Pt := ⟨⟨[], [], [], [], [], [], []⟩⟩
namespace Pt
variable (p : Pt)
noncomputable abbrev R (i : Int) : Int := atI p.row i
noncomputable abbrev P (i : Int) : Int := atI p.places i
noncomputable abbrev B (i : Int) : Int := atI p.blocks i
noncomputable abbrev Bg (i : Int) : Int := atI p.begins i
noncomputable abbrev En (i : Int) : Int := atI p.ends i
noncomputable abbrev Mk (i : Int) : Int := atI p.marked i
noncomputable abbrev nb : Nat := p.begins.length
noncomputable def Mkd (s : Int) : Prop := p.P s < p.Bg (p.B s) + p.Mk (p.B s)
noncomputable def mark (s : Int) : Pt :=
 let b := p.B s
 let border := p.Bg b + p.Mk b
 let here := p.P s
 let other := p.R border
 { p with row := (p.row.set here.toNat other).set border.toNat s, places := (p.places.set other.toNat here).set s.toNat border, touched := if p.Mk b = 0 then p.touched ++ [b] else p.touched, marked := p.marked.set b.toNat (p.Mk b + 1) }
noncomputable def mem (b : Int) : List Int := (p.row.drop (p.Bg b).toNat).take ((p.En b).toNat - (p.Bg b).toNat)
end Pt
structure SV (n : Nat) (p : Pt) : Prop where
 n1 : 1 ≤ n
 lr : p.row.length = n
 lp : p.places.length = n
 lb : p.blocks.length = n
 le : p.ends.length = p.begins.length
 lm : p.marked.length = p.begins.length
 nb1 : 1 ≤ p.begins.length
 rp : ∀ i : Int, 0 ≤ i → i < n → 0 ≤ p.R i ∧ p.R i < n ∧ p.P (p.R i) = i
 pr : ∀ s : Int, 0 ≤ s → s < n → 0 ≤ p.P s ∧ p.P s < n ∧ p.R (p.P s) = s
 bl : ∀ s : Int, 0 ≤ s → s < n → 0 ≤ p.B s ∧ p.B s < p.nb
 iv : ∀ b : Int, 0 ≤ b → b < p.nb → 0 ≤ p.Bg b ∧ p.Bg b < p.En b ∧ p.En b ≤ n ∧ 0 ≤ p.Mk b ∧ p.Bg b + p.Mk b ≤ p.En b
 mem : ∀ s b : Int, 0 ≤ s → s < n → 0 ≤ b → b < p.nb → (p.B s = b ↔ p.Bg b ≤ p.P s ∧ p.P s < p.En b)
structure PV (n : Nat) (p : Pt) : Prop extends SV n p where
 tn : p.touched.Nodup
 tm : ∀ b : Int, b ∈ p.touched ↔ 0 ≤ b ∧ b < p.nb ∧ 0 < p.Mk b
variable {n : Nat} {p : Pt}
theorem SV.own (V : SV n p) {s : Int} (h0 : 0 ≤ s) (h1 : s < n) : p.Bg (p.B s) ≤ p.P s ∧ p.P s < p.En (p.B s) :=
 (V.mem s _ h0 h1 (V.bl s h0 h1).1 (V.bl s h0 h1).2).mp rfl
theorem SV.nb_le (V : SV n p) : p.nb ≤ n := by
 have h := nodup_le n (l := (List.range p.nb).map fun b : Nat => p.R (p.Bg b)) ?_ ?_
 ·simpa using h
 ·rw [List.Nodup, List.pairwise_map]
  refine List.Pairwise.imp_of_mem ?_ List.nodup_range
  intro a b ha hb hne e
  have ha := List.mem_range.mp ha
  have hb := List.mem_range.mp hb
  have ia := V.iv a (Int.natCast_nonneg _) (Int.ofNat_lt.mpr ha)
  have ib := V.iv b (Int.natCast_nonneg _) (Int.ofNat_lt.mpr hb)
  have ra := V.rp (p.Bg a) ia.1 (Int.lt_of_lt_of_le ia.2.1 ia.2.2.1)
  have rb := V.rp (p.Bg b) ib.1 (Int.lt_of_lt_of_le ib.2.1 ib.2.2.1)
  have ma := (V.mem (p.R (p.Bg a)) a ra.1 ra.2.1 (Int.natCast_nonneg _) (Int.ofNat_lt.mpr ha)).mpr (by rw [ra.2.2]; exact ⟨Int.le_refl _, ia.2.1⟩)
  have mb := (V.mem (p.R (p.Bg b)) b rb.1 rb.2.1 (Int.natCast_nonneg _) (Int.ofNat_lt.mpr hb)).mpr (by rw [rb.2.2]; exact ⟨Int.le_refl _, ib.2.1⟩)
  rw [e] at ma
  exact hne (Int.ofNat_inj.mp (ma.symm.trans mb))
 ·intro x q
  obtain ⟨b, hb, rfl⟩ := List.mem_map.mp q
  have hb := List.mem_range.mp hb
  have ib := V.iv b (Int.natCast_nonneg _) (Int.ofNat_lt.mpr hb)
  have rb := V.rp (p.Bg b) ib.1 (Int.lt_of_lt_of_le ib.2.1 ib.2.2.1)
  exact ⟨rb.1, rb.2.1⟩
theorem slice_nat {l : List Int} {a b : Nat} (s : Int) : s ∈ (l.drop a).take (b - a) ↔ ∃ i, a ≤ i ∧ i < b ∧ l[i]? = some s := by
 constructor
 ·intro q
  refine (List.mem_iff_getElem?.mp q).elim fun i e => ?_
  rw [List.getElem?_take] at e
  by_cases hi : i < b - a
  ·rw [if_pos hi, List.getElem?_drop] at e; exact ⟨a + i, Nat.le_add_right _ _, Nat.add_lt_of_lt_sub' hi, e⟩
  ·rw [if_neg hi] at e; cases e
 ·exact fun ⟨i, h1, h2, e⟩ => List.mem_iff_getElem?.mpr ⟨i - a, by rw [List.getElem?_take, if_pos (Nat.sub_lt_sub_right h1 h2), List.getElem?_drop, Nat.add_sub_cancel' h1, e]⟩
theorem SV.slice_iff (V : SV n p) {a b : Int} (h2 : b ≤ n) (s : Int) : s ∈ (p.row.drop a.toNat).take (b.toNat - a.toNat) ↔ 0 ≤ s ∧ s < n ∧ a ≤ p.P s ∧ p.P s < b := by
 rw [slice_nat]
 constructor
 ·rintro ⟨i, i0, i1, e⟩
  have y : (i : Int) < b := Int.lt_toNat.mp i1
  have r := V.rp i (Int.natCast_nonneg _) (Int.lt_of_lt_of_le y h2)
  rw [show p.R i = s from atI_of (by rw [Int.toNat_natCast]; exact e)] at r
  exact ⟨r.1, r.2.1, by rw [r.2.2]; exact Int.toNat_le.mp i0, by rw [r.2.2]; exact y⟩
 ·rintro ⟨s0, s1, q1, q2⟩
  have pr := V.pr s s0 s1
  refine ⟨(p.P s).toNat, Int.toNat_le.mpr (by rw [Int.toNat_of_nonneg pr.1]; exact q1), Int.lt_toNat.mpr (by rw [Int.toNat_of_nonneg pr.1]; exact q2), ?_⟩
  rw [atI_get pr.1 (by rw [V.lr]; exact pr.2.1)]; exact congrArg some pr.2.2
theorem SV.mem_iff (V : SV n p) {b : Int} (hb0 : 0 ≤ b) (hb1 : b < p.nb) (s : Int) : s ∈ p.mem b ↔ 0 ≤ s ∧ s < n ∧ p.B s = b :=
 (V.slice_iff (V.iv b hb0 hb1).2.2.1 s).trans ⟨fun q => ⟨q.1, q.2.1, (V.mem s b q.1 q.2.1 hb0 hb1).mpr q.2.2⟩, fun q => ⟨q.1, q.2.1, (V.mem s b q.1 q.2.1 hb0 hb1).mp q.2.2⟩⟩
theorem mark_old {s : Int} (h : p.P s < p.Bg (p.B s) + p.Mk (p.B s)) (x : Int) : p.Mkd x ↔ p.Mkd x ∨ x = s :=
 ⟨.inl, fun q => q.elim id fun e => e ▸ h⟩
theorem PV.mark' (V : PV n p) {s b border here other : Int} (h0 : 0 ≤ s) (h1 : s < n) (hbb : p.B s = b) (hbo : p.Bg b + p.Mk b = border) (hhe : p.P s = here) (hot : p.R border = other) (h : border ≤ here) :
  PV n (p.mark s) ∧ ∀ x : Int, 0 ≤ x → x < n → ((p.mark s).Mkd x ↔ p.Mkd x ∨ x = s) := by
 have cX : True := trivial
 revert n p V s b border here other h0 h1 hbb hbo hhe hot h
 rintro n p V s b border here other h0 h1 hbb hbo hhe hot h
 have hb : 0 ≤ b ∧ b < p.nb := by rw [← hbb]; exact V.bl s h0 h1
 have iv := V.iv _ hb.1 hb.2
 have own : p.Bg b ≤ here ∧ here < p.En b := by rw [← hhe]; exact (V.mem s b h0 h1 hb.1 hb.2).mp hbb
 have prs := V.pr s h0 h1
 have hh : 0 ≤ here ∧ here < n := by rw [← hhe]; exact ⟨prs.1, prs.2.1⟩
 have Rh : p.R here = s := by rw [← hhe]; exact prs.2.2
 have bB : p.Bg b ≤ border := by rw [← hbo]; exact Int.le_add_of_nonneg_right iv.2.2.2.1
 have bE : border < p.En b := Int.lt_of_le_of_lt h own.2
 have hbr : 0 ≤ border ∧ border < n := ⟨Int.le_trans iv.1 bB, Int.lt_of_lt_of_le bE iv.2.2.1⟩
 have rpb : 0 ≤ other ∧ other < n ∧ p.P other = border := by rw [← hot]; exact V.rp border hbr.1 hbr.2
 have R' : ∀ i : Int, 0 ≤ i → (p.mark s).R i = if i = border then s else if i = here then other else p.R i := fun i hi => by
  show atI ((p.row.set (p.P s).toNat (p.R (p.Bg (p.B s) + p.Mk (p.B s)))).set (p.Bg (p.B s) + p.Mk (p.B s)).toNat s) i = _
  rw [hbb, hhe, hbo, hot, atI_set hbr.1 (by rw [List.length_set, V.lr]; exact hbr.2) hi, atI_set hh.1 (by rw [V.lr]; exact hh.2) hi]
 have P' : ∀ i : Int, 0 ≤ i → (p.mark s).P i = if i = s then border else if i = other then here else p.P i := fun i hi => by
  show atI ((p.places.set (p.R (p.Bg (p.B s) + p.Mk (p.B s))).toNat (p.P s)).set s.toNat (p.Bg (p.B s) + p.Mk (p.B s))) i = _
  rw [hbb, hhe, hbo, hot, atI_set h0 (by rw [List.length_set, V.lp]; exact h1) hi, atI_set rpb.1 (by rw [V.lp]; exact rpb.2.1) hi]
 have M' : ∀ i : Int, 0 ≤ i → (p.mark s).Mk i = if i = b then p.Mk b + 1 else p.Mk i := fun i hi => by
  show atI (p.marked.set (p.B s).toNat (p.Mk (p.B s) + 1)) i = _
  rw [hbb, atI_set hb.1 (by rw [V.lm]; exact hb.2) hi]
 have Bo : p.B other = b := (V.mem other b rpb.1 rpb.2.1 hb.1 hb.2).mpr (by rw [rpb.2.2]; exact ⟨bB, bE⟩)
 have PB : ∀ x : Int, 0 ≤ x → x < n → ∀ b' : Int, 0 ≤ b' → b' < p.nb → (p.B x = b' ↔ p.Bg b' ≤ (p.mark s).P x ∧ (p.mark s).P x < p.En b') := fun x x0 x1 b' b0 b1 => by
  rw [P' x x0]
  by_cases e : x = s
  ·have mo := V.mem other b' rpb.1 rpb.2.1 b0 b1
   rw [rpb.2.2, Bo] at mo
   rw [if_pos e, e, hbb]; exact mo
  ·rw [if_neg e]
   by_cases e2 : x = other
   ·have ms := V.mem s b' h0 h1 b0 b1
    rw [hbb, hhe] at ms
    rw [if_pos e2, e2, Bo]; exact ms
   ·rw [if_neg e2]; exact V.mem x b' x0 x1 b0 b1
 refine ⟨⟨⟨V.n1, by show (List.set _ _ _).length = n; rw [List.length_set, List.length_set]; exact V.lr, by show (List.set _ _ _).length = n; rw [List.length_set, List.length_set]; exact V.lp, V.lb, V.le, by show (List.set _ _ _).length = _; rw [List.length_set]; exact V.lm, V.nb1, ?_, ?_, V.bl, ?_, ?_⟩, ?_, ?_⟩, ?_⟩
 ·rintro i i0 i1
  have r := V.rp i i0 i1
  rw [R' i i0]
  by_cases e : i = border
  ·rw [if_pos e]; exact ⟨h0, h1, by rw [P' s h0, if_pos rfl, e]⟩
  ·rw [if_neg e]
   by_cases e2 : i = here
   ·rw [if_pos e2]; exact ⟨rpb.1, rpb.2.1, by rw [P' other rpb.1, if_neg (fun z => e (by rw [e2, ← hhe, ← z, rpb.2.2])), if_pos rfl, e2]⟩
   ·rw [if_neg e2]; exact ⟨r.1, r.2.1, by rw [P' _ r.1, if_neg (fun z => e2 (by rw [← r.2.2, z, hhe])), if_neg (fun z => e (by rw [← r.2.2, z, rpb.2.2]))]; exact r.2.2⟩
 ·rintro x x0 x1
  have q := V.pr x x0 x1
  rw [P' x x0]
  by_cases e : x = s
  ·rw [if_pos e]; exact ⟨hbr.1, hbr.2, by rw [R' border hbr.1, if_pos rfl, e]⟩
  ·rw [if_neg e]
   by_cases e2 : x = other
   ·rw [if_pos e2]; exact ⟨hh.1, hh.2, by rw [R' here hh.1, if_neg (fun z => e (by rw [e2, ← hot, ← z, Rh])), if_pos rfl, e2]⟩
   ·rw [if_neg e2]; exact ⟨q.1, q.2.1, by rw [R' _ q.1, if_neg (fun z => e2 (by rw [← q.2.2, z, hot])), if_neg (fun z => e (by rw [← q.2.2, z, Rh]))]; exact q.2.2⟩
 ·rintro b' b0 b1
  have i' := V.iv b' b0 b1
  rw [M' b' b0]
  by_cases e : b' = b
  ·rw [if_pos e]
   exact ⟨i'.1, i'.2.1, i'.2.2.1, Int.add_nonneg iv.2.2.2.1 (by decide), by show p.Bg b' + (p.Mk b + 1) ≤ p.En b'; rw [e, ← Int.add_assoc, hbo]; exact Int.add_one_le_of_lt bE⟩
  ·rw [if_neg e]; exact i'
 ·rintro x b' x0 x1 b0 b1
  exact PB x x0 x1 b' b0 b1
 ·show (if p.Mk (p.B s) = 0 then p.touched ++ [p.B s] else p.touched).Nodup
  rw [hbb]
  by_cases e : p.Mk b = 0
  ·rw [if_pos e, List.nodup_append]
   refine ⟨V.tn, by simp, fun a ha c hc z => ?_⟩
   have t := ((V.tm a).mp ha).2.2
   rw [z, List.mem_singleton.mp hc, e] at t; exact Int.lt_irrefl _ t
  ·rw [if_neg e]; exact V.tn
 ·rintro b'
  show b' ∈ (if p.Mk (p.B s) = 0 then p.touched ++ [p.B s] else p.touched) ↔ 0 ≤ b' ∧ b' < p.nb ∧ 0 < (p.mark s).Mk b'
  rw [hbb]
  by_cases eb : b' = b
  ·rw [eb, M' b hb.1, if_pos rfl]
   refine ⟨fun za => ⟨hb.1, hb.2, Int.lt_add_one_iff.mpr iv.2.2.2.1⟩, fun za => ?_⟩
   by_cases e : p.Mk b = 0
   ·rw [if_pos e]; exact List.mem_append_right _ (.head _)
   ·rw [if_neg e]; exact (V.tm b).mpr ⟨hb.1, hb.2, Int.lt_iff_le_and_ne.mpr ⟨iv.2.2.2.1, Ne.symm e⟩⟩
  ·have k : b' ∈ (if p.Mk b = 0 then p.touched ++ [b] else p.touched) ↔ b' ∈ p.touched := by
    by_cases e : p.Mk b = 0
    ·rw [if_pos e, List.mem_append, List.mem_singleton]; exact ⟨fun q => q.elim id fun q => absurd q eb, .inl⟩
    ·rw [if_neg e]
   rw [k, V.tm b']
   exact ⟨fun q => ⟨q.1, q.2.1, by rw [M' b' q.1, if_neg eb]; exact q.2.2⟩, fun q => ⟨q.1, q.2.1, by have z := q.2.2; rw [M' b' q.1, if_neg eb] at z; exact z⟩⟩
 ·rintro x x0 x1
  have bx := V.bl x x0 x1
  show (p.mark s).P x < p.Bg (p.B x) + (p.mark s).Mk (p.B x) ↔ p.P x < p.Bg (p.B x) + p.Mk (p.B x) ∨ x = s
  rw [P' x x0, M' _ bx.1]
  by_cases e : x = s
  ·rw [if_pos e, e, hbb, if_pos rfl, ← Int.add_assoc, hbo]
   exact ⟨fun za => .inr rfl, fun za => Int.lt_add_one_iff.mpr (Int.le_refl _)⟩
  ·rw [if_neg e]
   by_cases e2 : x = other
   ·rw [if_pos e2, e2, Bo, if_pos rfl, rpb.2.2, ← Int.add_assoc, hbo]
    exact ⟨fun q => absurd (Int.le_antisymm (Int.lt_add_one_iff.mp q) h) fun z => e (by rw [e2, ← hot, ← z, Rh]), fun q => q.elim (fun q => absurd q (Int.lt_irrefl _)) fun q => absurd (e2.trans q) e⟩
   ·rw [if_neg e2]
    by_cases e3 : p.B x = b
    ·rw [if_pos e3, e3, ← Int.add_assoc, hbo]
     exact ⟨fun q => .inl (Int.lt_iff_le_and_ne.mpr ⟨Int.lt_add_one_iff.mp q, fun q => e2 (by rw [← (V.pr x x0 x1).2.2, q, hot])⟩), fun q => q.elim (fun q => Int.lt_add_one_iff.mpr (Int.le_of_lt q)) fun q => absurd q e⟩
    ·rw [if_neg e3]
     exact ⟨.inl, fun q => q.elim id fun q => absurd q e⟩
theorem PV.mark (V : PV n p) {s : Int} (h0 : 0 ≤ s) (h1 : s < n) (h : ¬ p.P s < p.Bg (p.B s) + p.Mk (p.B s)) :
  PV n (p.mark s) ∧ ∀ x : Int, 0 ≤ x → x < n → ((p.mark s).Mkd x ↔ p.Mkd x ∨ x = s) := PV.mark' V h0 h1 rfl rfl rfl rfl (Int.not_lt.mp h)
end Mine
set_option tactic.hygienic false
namespace Mine
structure SplI (n : Nat) (p0 : Pt) (tc : List Int) (p : Pt) : Prop where
 sv : SV n p
 row : p.row = p0.row
 places : p.places = p0.places
 touched : p.touched = p0.touched
 nble : p0.nb ≤ p.nb
 rest : ∀ b : Int, 0 ≤ b → b < p0.nb → b ∉ tc → p.Bg b = p0.Bg b ∧ p.En b = p0.En b ∧ p.Mk b = p0.Mk b ∧ ∀ x : Int, 0 ≤ x → x < n → (p.B x = b ↔ p0.B x = b)
 zero : ∀ b : Int, 0 ≤ b → b < p.nb → (b ∈ tc ∨ (p0.nb : Int) ≤ b) → p.Mk b = 0
 eq : ∀ x y : Int, 0 ≤ x → x < n → 0 ≤ y → y < n → (p.B x = p.B y ↔ p0.B x = p0.B y ∧ (p0.B x ∈ tc → (p0.Mkd x ↔ p0.Mkd y)))
 old : ∀ x : Int, 0 ≤ x → x < n → p.B x < p0.nb → p.B x = p0.B x
variable {n : Nat} {p0 p : Pt}
theorem SplI.start (V : PV n p0) : SplI n p0 [] p0 :=
 ⟨V.toSV, rfl, rfl, rfl, Nat.le_refl _, fun b za zb zc => ⟨rfl, rfl, rfl, fun za zb zc => Iff.rfl⟩, fun b h0 h1 h2 => h2.elim (fun q => by cases q) fun q => by lia, fun x y za zb zc zd => ⟨fun e => ⟨e, fun q => by cases q⟩, fun e => e.1⟩, fun x za zb zc => rfl⟩
theorem SplI.whole {tc : List Int} {b : Int} (V : PV n p0) (I : SplI n p0 tc p) (hb0 : 0 ≤ b) (hb1 : b < p0.nb) (hn : b ∉ tc) (hw : p.Bg b + p.Mk b = p.En b) : SplI n p0 (tc ++ [b]) { p with marked := p.marked.set b.toNat 0 } := by
 have cX : True := trivial
 revert n p0 p tc b V I hb0 hb1 hn hw
 rintro n p0 p tc b V I hb0 hb1 hn hw
 have lm := I.sv.lm
 have M' : ∀ i : Int, 0 ≤ i → atI (p.marked.set b.toNat 0) i = if i = b then 0 else p.Mk i := fun i hi => atI_set hb0 (by rw [lm]; exact Int.lt_of_lt_of_le hb1 (Int.ofNat_le.mpr I.nble)) hi
 have rb := I.rest b hb0 hb1 hn
 refine ⟨⟨I.sv.n1, I.sv.lr, I.sv.lp, I.sv.lb, I.sv.le, by show (List.set _ _ _).length = _; rw [List.length_set]; exact lm, I.sv.nb1, I.sv.rp, I.sv.pr, I.sv.bl, ?_, I.sv.mem⟩, I.row, I.places, I.touched, I.nble, ?_, ?_, ?_, I.old⟩
 ·rintro b' h0 h1
  have iv := I.sv.iv b' h0 h1
  show 0 ≤ p.Bg b' ∧ p.Bg b' < p.En b' ∧ p.En b' ≤ n ∧ 0 ≤ atI (p.marked.set b.toNat 0) b' ∧ p.Bg b' + atI (p.marked.set b.toNat 0) b' ≤ p.En b'
  rw [M' b' h0]
  by_cases e : b' = b
  ·rw [if_pos e]; exact ⟨iv.1, iv.2.1, iv.2.2.1, Int.le_refl _, by rw [Int.add_zero]; exact Int.le_of_lt iv.2.1⟩
  ·rw [if_neg e]; exact iv
 ·rintro b' h0 h1 h2
  have h3 : b' ∉ tc := fun q => h2 (List.mem_append_left _ q)
  have h4 : b' ≠ b := fun q => h2 (q ▸ List.mem_append_right _ (.head _))
  have r := I.rest b' h0 h1 h3
  refine ⟨r.1, r.2.1, ?_, r.2.2.2⟩
  show atI (p.marked.set b.toNat 0) b' = _
  rw [M' b' h0, if_neg h4]; exact r.2.2.1
 ·rintro b' h0 h1 h2
  show atI (p.marked.set b.toNat 0) b' = 0
  rw [M' b' h0]
  by_cases e : b' = b
  ·rw [if_pos e]
  ·rw [if_neg e]; exact I.zero b' h0 h1 (h2.imp (fun q => (List.mem_append.mp q).elim id fun q => absurd (List.mem_singleton.mp q) e) id)
 ·rintro x y x0 x1 y0 y1
  refine (I.eq x y x0 x1 y0 y1).trans ?_
  have all : ∀ z : Int, 0 ≤ z → z < n → p0.B z = b → p0.Mkd z := fun z z0 z1 e => by
   show p0.P z < p0.Bg (p0.B z) + p0.Mk (p0.B z)
   have o := V.own z0 z1
   rw [e] at o ⊢
   rw [rb.1, rb.2.1, rb.2.2.1] at hw
   rw [hw]; exact o.2
  constructor
  ·rintro ⟨e, q⟩
   refine ⟨e, fun m => ?_⟩
   rcases List.mem_append.mp m with m | m
   ·exact q m
   ·have m := List.mem_singleton.mp m
    exact ⟨fun za => all y y0 y1 (e ▸ m), fun za => all x x0 x1 m⟩
  ·rintro ⟨e, q⟩
   exact ⟨e, fun m => q (List.mem_append_left _ m)⟩
theorem ite_iff {X Y : Prop} [Decidable X] [Decidable Y] {u v : Int} (h : u ≠ v) : ((if X then u else v) = (if Y then u else v)) ↔ (X ↔ Y) := by
 by_cases x : X
 ·rw [if_pos x]
  by_cases y : Y
  ·rw [if_pos y]; exact ⟨fun za => ⟨fun za => y, fun za => x⟩, fun za => rfl⟩
  ·rw [if_neg y]; exact ⟨fun e => absurd e h, fun e => absurd (e.mp x) y⟩
 ·rw [if_neg x]
  by_cases y : Y
  ·rw [if_pos y]; exact ⟨fun e => absurd e.symm h, fun e => absurd (e.mpr y) x⟩
  ·rw [if_neg y]; exact ⟨fun za => ⟨fun q => absurd q x, fun q => absurd q y⟩, fun za => rfl⟩
theorem SplI.two {tc : List Int} {b nl nr ol or_ : Int} {q : Pt} (V : PV n p0) (I : SplI n p0 tc p) (hb0 : 0 ≤ b) (hb1 : b < p0.nb) (hn : b ∉ tc) (hmk : 0 < p.Mk b) (hw : p.Bg b + p.Mk b ≠ p.En b)
  (hc : (nl = p.Bg b ∧ nr = p.Bg b + p.Mk b ∧ ol = p.Bg b + p.Mk b ∧ or_ = p.En b) ∨ (nl = p.Bg b + p.Mk b ∧ nr = p.En b ∧ ol = p.Bg b ∧ or_ = p.Bg b + p.Mk b))
  (e1 : q.row = p.row) (e2 : q.places = p.places) (e3 : q.touched = p.touched) (l1 : q.begins.length = p.nb + 1) (l2 : q.ends.length = p.nb + 1) (l3 : q.marked.length = p.nb + 1) (l4 : q.blocks.length = n)
  (f1 : ∀ i : Int, 0 ≤ i → i ≤ p.nb → q.Bg i = if i = p.nb then nl else if i = b then ol else p.Bg i) (f2 : ∀ i : Int, 0 ≤ i → i ≤ p.nb → q.En i = if i = p.nb then nr else if i = b then or_ else p.En i)
  (f3 : ∀ i : Int, 0 ≤ i → i ≤ p.nb → q.Mk i = if i = p.nb then 0 else if i = b then 0 else p.Mk i) (f4 : ∀ x : Int, 0 ≤ x → x < n → q.B x = if nl ≤ p.P x ∧ p.P x < nr then (p.nb : Int) else p.B x) : SplI n p0 (tc ++ [b]) q := by
 have cX : True := trivial
 revert n p0 p tc b nl nr ol or_ q V I hb0 hb1 hn hmk hw hc e1 e2 e3 l1 l2 l3 l4 f1 f2 f3 f4
 rintro n p0 p tc b nl nr ol or_ q V I hb0 hb1 hn hmk hw hc e1 e2 e3 l1 l2 l3 l4 f1 f2 f3 f4
 have hnq : q.nb = p.nb + 1 := l1
 have nble : (p0.nb : Int) ≤ p.nb := Int.ofNat_le.mpr I.nble
 have bn : b < p.nb := Int.lt_of_lt_of_le hb1 nble
 have rb := I.rest b hb0 hb1 hn
 have ivb := I.sv.iv b hb0 bn
 have fP : ∀ x, q.P x = p.P x := fun x => by show atI q.places x = atI p.places x; rw [e2]
 have fR : ∀ x, q.R x = p.R x := fun x => by show atI q.row x = atI p.row x; rw [e1]
 have P0 : ∀ x, p.P x = p0.P x := fun x => by show atI p.places x = atI p0.places x; rw [I.places]
 have memb : ∀ x : Int, 0 ≤ x → x < n → (p.B x = b ↔ p.Bg b ≤ p.P x ∧ p.P x < p.En b) := fun x x0 x1 => I.sv.mem x b x0 x1 hb0 bn
 have vA : 0 ≤ p.Bg b ∧ p.Bg b < p.Bg b + p.Mk b ∧ p.Bg b + p.Mk b ≤ n := ⟨ivb.1, Int.lt_add_of_pos_right _ hmk, Int.le_trans ivb.2.2.2.2 ivb.2.2.1⟩
 have vC : 0 ≤ p.Bg b + p.Mk b ∧ p.Bg b + p.Mk b < p.En b ∧ p.En b ≤ n := ⟨Int.add_nonneg ivb.1 (Int.le_of_lt hmk), Int.lt_iff_le_and_ne.mpr ⟨ivb.2.2.2.2, hw⟩, ivb.2.2.1⟩
 have iv2 : (0 ≤ nl ∧ nl < nr ∧ nr ≤ n) ∧ (0 ≤ ol ∧ ol < or_ ∧ or_ ≤ n) := hc.elim (fun c => by rw [c.1, c.2.1, c.2.2.1, c.2.2.2]; exact ⟨vA, vC⟩) fun c => by rw [c.1, c.2.1, c.2.2.1, c.2.2.2]; exact ⟨vC, vA⟩
 have lo : (p.Bg b ≤ nl ∧ nr ≤ p.En b) ∧ p.Bg b ≤ ol ∧ or_ ≤ p.En b := hc.elim (fun c => by rw [c.1, c.2.1, c.2.2.1, c.2.2.2]; exact ⟨⟨Int.le_refl _, ivb.2.2.2.2⟩, Int.le_of_lt vA.2.1, Int.le_refl _⟩)
  fun c => by rw [c.1, c.2.1, c.2.2.1, c.2.2.2]; exact ⟨⟨Int.le_of_lt vA.2.1, Int.le_refl _⟩, Int.le_refl _, ivb.2.2.2.2⟩
 have cutv : ∀ v : Int, p.Bg b ≤ v → v < p.En b → ((nl ≤ v ∧ v < nr) ↔ ¬ (ol ≤ v ∧ v < or_)) := fun v v0 v1 => hc.elim
  (fun c => by rw [c.1, c.2.1, c.2.2.1, c.2.2.2]; exact ⟨fun q z => Int.not_lt.mpr z.1 q.2, fun q => ⟨v0, Int.not_le.mp fun z => q ⟨z, v1⟩⟩⟩)
  fun c => by rw [c.1, c.2.1, c.2.2.1, c.2.2.2]; exact ⟨fun q z => Int.not_lt.mpr q.1 z.2, fun q => ⟨Int.not_lt.mp fun z => q ⟨v0, z⟩, v1⟩⟩
 have side : (∀ v : Int, p.Bg b ≤ v → v < p.En b → ((nl ≤ v ∧ v < nr) ↔ v < p.Bg b + p.Mk b)) ∨ (∀ v : Int, p.Bg b ≤ v → v < p.En b → ((nl ≤ v ∧ v < nr) ↔ ¬ v < p.Bg b + p.Mk b)) := hc.imp
  (fun c v v0 v1 => by rw [c.1, c.2.1]; exact ⟨fun q => q.2, fun q => ⟨v0, q⟩⟩) fun c v v0 v1 => by rw [c.1, c.2.1]; exact ⟨fun q => Int.not_lt.mpr q.1, fun q => ⟨Int.not_lt.mp q, v1⟩⟩
 have inn : ∀ x : Int, 0 ≤ x → x < n → (nl ≤ p.P x ∧ p.P x < nr) → p.B x = b := fun x x0 x1 h => (memb x x0 x1).mpr ⟨Int.le_trans lo.1.1 h.1, Int.lt_of_lt_of_le h.2 lo.1.2⟩
 have up1 : (p.nb : Int) < ((p.nb + 1 : Nat) : Int) := Int.ofNat_lt.mpr (Nat.lt_succ_self _)
 refine ⟨⟨I.sv.n1, by rw [e1]; exact I.sv.lr, by rw [e2]; exact I.sv.lp, l4, by rw [l2, l1], by rw [l3, l1], by rw [l1]; exact Nat.le_add_left 1 _, ?_, ?_, ?_, ?_, ?_⟩, e1.trans I.row, e2.trans I.places, e3.trans I.touched, by rw [hnq]; exact Nat.le_succ_of_le I.nble, ?_, ?_, ?_, ?_⟩
 ·intro i i0 i1; rw [fR, fP]; exact I.sv.rp i i0 i1
 ·intro x x0 x1; rw [fP, fR]; exact I.sv.pr x x0 x1
 ·rintro x x0 x1
  have bx := I.sv.bl x x0 x1
  rw [f4 x x0 x1, hnq]
  by_cases h : nl ≤ p.P x ∧ p.P x < nr
  ·rw [if_pos h]; exact ⟨Int.natCast_nonneg _, up1⟩
  ·rw [if_neg h]; exact ⟨bx.1, Int.lt_trans bx.2 up1⟩
 ·rintro j j0 j1
  rw [hnq] at j1
  have j2 : j ≤ p.nb := Int.le_of_lt_add_one j1
  rw [f1 j j0 j2, f2 j j0 j2, f3 j j0 j2]
  by_cases q1 : j = p.nb
  ·rw [if_pos q1, if_pos q1, if_pos q1]; exact ⟨iv2.1.1, iv2.1.2.1, iv2.1.2.2, Int.le_refl _, by rw [Int.add_zero]; exact Int.le_of_lt iv2.1.2.1⟩
  ·rw [if_neg q1, if_neg q1, if_neg q1]
   by_cases q2 : j = b
   ·rw [if_pos q2, if_pos q2, if_pos q2]; exact ⟨iv2.2.1, iv2.2.2.1, iv2.2.2.2, Int.le_refl _, by rw [Int.add_zero]; exact Int.le_of_lt iv2.2.2.1⟩
   ·rw [if_neg q2, if_neg q2, if_neg q2]
    exact I.sv.iv j j0 (Int.lt_iff_le_and_ne.mpr ⟨j2, q1⟩)
 ·rintro x j x0 x1 j0 j1
  rw [hnq] at j1
  have j2 : j ≤ p.nb := Int.le_of_lt_add_one j1
  have bx := I.sv.bl x x0 x1
  rw [f1 j j0 j2, f2 j j0 j2, f4 x x0 x1, fP]
  by_cases q1 : j = p.nb
  ·rw [if_pos q1, if_pos q1]
   by_cases h : nl ≤ p.P x ∧ p.P x < nr
   ·rw [if_pos h]; exact ⟨fun za => h, fun za => q1.symm⟩
   ·rw [if_neg h]; exact ⟨fun e => absurd bx.2 (by rw [e, q1]; exact Int.lt_irrefl _), fun e => absurd e h⟩
  ·rw [if_neg q1, if_neg q1]
   have m := memb x x0 x1
   by_cases q2 : j = b
   ·rw [if_pos q2, if_pos q2]
    by_cases h : nl ≤ p.P x ∧ p.P x < nr
    ·rw [if_pos h]
     have y := m.mp (inn x x0 x1 h)
     exact ⟨fun e => absurd e.symm q1, fun e => absurd e ((cutv _ y.1 y.2).mp h)⟩
    ·rw [if_neg h, q2]
     exact ⟨fun e => Classical.byContradiction fun z => h ((cutv _ (m.mp e).1 (m.mp e).2).mpr z), fun e => m.mpr ⟨Int.le_trans lo.2.1 e.1, Int.lt_of_lt_of_le e.2 lo.2.2⟩⟩
   ·rw [if_neg q2, if_neg q2]
    have m := I.sv.mem x j x0 x1 j0 (Int.lt_iff_le_and_ne.mpr ⟨j2, q1⟩)
    by_cases h : nl ≤ p.P x ∧ p.P x < nr
    ·rw [if_pos h]
     exact ⟨fun e => absurd e.symm q1, fun e => absurd ((m.mpr e).symm.trans (inn x x0 x1 h)) q2⟩
    ·rw [if_neg h]; exact m
 ·rintro b' h0 h1 h2
  have h3 : b' ∉ tc := fun q => h2 (List.mem_append_left _ q)
  have h4 : b' ≠ b := fun q => h2 (q ▸ List.mem_append_right _ (.head _))
  have r := I.rest b' h0 h1 h3
  have k : b' < p.nb := Int.lt_of_lt_of_le h1 nble
  have kl := Int.le_of_lt k
  have kn : b' ≠ p.nb := Int.ne_of_lt k
  rw [f1 b' h0 kl, f2 b' h0 kl, f3 b' h0 kl, if_neg kn, if_neg h4, if_neg kn, if_neg h4, if_neg kn, if_neg h4]
  refine ⟨r.1, r.2.1, r.2.2.1, fun x x0 x1 => ?_⟩
  rw [f4 x x0 x1, ← r.2.2.2 x x0 x1]
  by_cases h : nl ≤ p.P x ∧ p.P x < nr
  ·rw [if_pos h]
   exact ⟨fun e => absurd e.symm kn, fun e => absurd (e.symm.trans (inn x x0 x1 h)) h4⟩
  ·rw [if_neg h]
 ·rintro b' h0 h1 h2
  rw [hnq] at h1
  have kl : b' ≤ p.nb := Int.le_of_lt_add_one h1
  rw [f3 b' h0 kl]
  by_cases q1 : b' = p.nb
  ·rw [if_pos q1]
  ·rw [if_neg q1]
   by_cases q2 : b' = b
   ·rw [if_pos q2]
   ·rw [if_neg q2]
    exact I.zero b' h0 (Int.lt_iff_le_and_ne.mpr ⟨kl, q1⟩) (h2.imp (fun q => (List.mem_append.mp q).elim id fun q => absurd (List.mem_singleton.mp q) q2) id)
 ·rintro x y x0 x1 y0 y1
  have bx := I.sv.bl x x0 x1
  have bY := I.sv.bl y y0 y1
  have E := I.eq x y x0 x1 y0 y1
  have mk : ∀ z : Int, 0 ≤ z → z < n → p0.B z = b → (p0.Mkd z ↔ p.P z < p.Bg b + p.Mk b) := fun z z0 z1 e => by
   show p0.P z < p0.Bg (p0.B z) + p0.Mk (p0.B z) ↔ _
   rw [e, ← P0, ← rb.1, ← rb.2.2.1]
  have b0 : ∀ z : Int, 0 ≤ z → z < n → (p.B z = b ↔ p0.B z = b) := rb.2.2.2
  rw [f4 x x0 x1, f4 y y0 y1]
  by_cases hx : p0.B x = b
  ·have hx' := (b0 x x0 x1).mpr hx
   have mx := (memb x x0 x1).mp hx'
   by_cases hy : p0.B y = b
   ·have hy' := (b0 y y0 y1).mpr hy
    have my := (memb y y0 y1).mp hy'
    rw [hx', hy', ite_iff (Int.ne_of_gt bn)]
    have S : ((nl ≤ p.P x ∧ p.P x < nr) ↔ (nl ≤ p.P y ∧ p.P y < nr)) ↔ (p0.Mkd x ↔ p0.Mkd y) := by
     rw [mk x x0 x1 hx, mk y y0 y1 hy]
     exact side.elim (fun s => by rw [s _ mx.1 mx.2, s _ my.1 my.2]) fun s => by rw [s _ mx.1 mx.2, s _ my.1 my.2]; exact Decidable.not_iff_not
    exact S.trans ⟨fun h => ⟨hx.trans hy.symm, fun za => h⟩, fun h => h.2 (by rw [hx]; exact List.mem_append_right _ (.head _))⟩
   ·have hy' : p.B y ≠ b := fun e => hy ((b0 y y0 y1).mp e)
    have ny : ¬ (nl ≤ p.P y ∧ p.P y < nr) := fun h => hy' (inn y y0 y1 h)
    rw [if_neg ny]
    refine ⟨fun e => ?_, fun e => absurd (e.1.symm.trans hx) hy⟩
    by_cases h : nl ≤ p.P x ∧ p.P x < nr
    ·rw [if_pos h] at e; exact absurd bY.2 (by rw [← e]; exact Int.lt_irrefl _)
    ·rw [if_neg h] at e; exact absurd (e.symm.trans hx') hy'
  ·have hx' : p.B x ≠ b := fun e => hx ((b0 x x0 x1).mp e)
   have nx : ¬ (nl ≤ p.P x ∧ p.P x < nr) := fun h => hx' (inn x x0 x1 h)
   rw [if_neg nx]
   have tcx : p0.B x ∈ tc ++ [b] ↔ p0.B x ∈ tc := by
    rw [List.mem_append, List.mem_singleton]; exact ⟨fun q => q.elim id fun q => absurd q hx, .inl⟩
   rw [tcx, ← E]
   by_cases h : nl ≤ p.P y ∧ p.P y < nr
   ·rw [if_pos h]
    have hy' := inn y y0 y1 h
    exact ⟨fun e => absurd bx.2 (by rw [e]; exact Int.lt_irrefl _), fun e => absurd (e.trans hy') hx'⟩
   ·rw [if_neg h]
 ·rintro x x0 x1 h
  rw [f4 x x0 x1] at h ⊢
  by_cases z : nl ≤ p.P x ∧ p.P x < nr
  ·rw [if_pos z] at h; exact absurd h (Int.not_lt.mpr nble)
  ·rw [if_neg z] at h ⊢
   exact I.old x x0 x1 h
theorem SplI.done (V : PV n p0) (I : SplI n p0 p0.touched p) : PV n { p with touched := [] } ∧ (∀ x : Int, 0 ≤ x → x < n → ¬ ({ p with touched := [] } : Pt).Mkd x) ∧
  (∀ x y : Int, 0 ≤ x → x < n → 0 ≤ y → y < n → (p.B x = p.B y ↔ p0.B x = p0.B y ∧ (p0.Mkd x ↔ p0.Mkd y))) := by
 have cX : True := trivial
 revert n p0 p V I
 rintro n p0 p V I
 have hnb : p.nb = p.begins.length := rfl
 have hnb0 : p0.nb = p0.begins.length := rfl
 have z : ∀ b : Int, 0 ≤ b → b < p.nb → p.Mk b = 0 := fun b h0 h1 => by
  by_cases h : b < p0.nb
  ·by_cases m : b ∈ p0.touched
   ·exact I.zero b h0 h1 (.inl m)
   ·rw [(I.rest b h0 h m).2.2.1]
    have := V.iv b h0 h
    by_cases k : 0 < p0.Mk b
    ·exact absurd ((V.tm b).mpr ⟨h0, h, k⟩) m
    ·lia
  ·exact I.zero b h0 h1 (.inr (by lia))
 refine ⟨⟨⟨I.sv.n1, I.sv.lr, I.sv.lp, I.sv.lb, I.sv.le, I.sv.lm, I.sv.nb1, I.sv.rp, I.sv.pr, I.sv.bl, I.sv.iv, I.sv.mem⟩, List.nodup_nil, fun b => ⟨(fun q => by cases q), fun ⟨h0, h1, h2⟩ => ?_⟩⟩, fun x x0 x1 => ?_, fun x y x0 x1 y0 y1 => (I.eq x y x0 x1 y0 y1).trans ?_⟩
 ·have := z b h0 h1
  have h2 : 0 < p.Mk b := h2
  lia
 ·show ¬ p.P x < p.Bg (p.B x) + p.Mk (p.B x)
  have b := I.sv.bl x x0 x1
  rw [z _ b.1 b.2]
  have o := I.sv.own x0 x1
  lia
 ·constructor
  ·rintro ⟨e, h⟩
   refine ⟨e, ?_⟩
   by_cases m : p0.B x ∈ p0.touched
   ·exact h m
   ·have no : ∀ w : Int, 0 ≤ w → w < n → p0.B w = p0.B x → ¬ p0.Mkd w := fun w w0 w1 e k => by
     have k : p0.P w < p0.Bg (p0.B w) + p0.Mk (p0.B w) := k
     have b := V.bl w w0 w1
     have o := V.own w0 w1
     exact m (e ▸ (V.tm _).mpr ⟨b.1, b.2, by lia⟩)
    exact ⟨fun k => absurd k (no x x0 x1 rfl), fun k => absurd k (no y y0 y1 e.symm)⟩
  ·rintro ⟨e, h⟩
   exact ⟨e, fun za => h⟩
end Mine
set_option tactic.hygienic false
namespace Mine
structure Full (w : Nat) (rows tags : List (List Int)) : Prop extends Aut w rows tags where
 goals : ∀ r, r ∈ rows → ∀ g, g ∈ r → 0 ≤ g
theorem Full.goal0 {w rows tags} (A : Full w rows tags) {s c : Int} (h0 : 0 ≤ s) (h1 : s < rows.length) (c0 : 0 ≤ c) (c1 : c < w) : 0 ≤ goalOf rows s c ∧ goalOf rows s c < rows.length := by
 obtain ⟨r, er, hl, hg⟩ := A.rowAt h0 h1
 obtain ⟨g, eg, hm⟩ := get_of_lt (l := r) (i := c.toNat) (by lia)
 have e : goalOf rows s c = g := by
  unfold goalOf
  rw [if_neg (by lia), getD_of er, getD_of eg]
 rw [e]
 exact ⟨A.goals r (List.mem_of_getElem? er) g hm, (hg g hm).2⟩
noncomputable def Diff (w : Nat) (rows tags : List (List Int)) (x y : Int) : Prop := ∃ u, WordOk w u ∧ T rows tags x u ≠ T rows tags y u
structure Hop (w : Nat) (rows tags : List (List Int)) (p : Pt) (wt : List (Int × Int)) : Prop where
 tag : ∀ x y : Int, 0 ≤ x → x < rows.length → 0 ≤ y → y < rows.length → p.B x = p.B y → tagOf tags x = tagOf tags y
 dist : ∀ x y : Int, 0 ≤ x → x < rows.length → 0 ≤ y → y < rows.length → p.B x ≠ p.B y → Diff w rows tags x y
 wok : ∀ q, q ∈ wt → 0 ≤ q.1 ∧ q.1 < p.nb ∧ 0 ≤ q.2 ∧ q.2 < w
 hop : ∀ x y c : Int, 0 ≤ x → x < rows.length → 0 ≤ y → y < rows.length → 0 ≤ c → c < w → p.B x = p.B y → p.B (goalOf rows x c) ≠ p.B (goalOf rows y c) → (p.B (goalOf rows x c), c) ∈ wt ∨ (p.B (goalOf rows y c), c) ∈ wt
variable {w : Nat} {rows tags : List (List Int)} {p p' : Pt} {wt wt' : List (Int × Int)}
theorem Hop.step {b c : Int} (A : Full w rows tags) (h : Hop w rows tags p (wt ++ [(b, c)])) (bl : ∀ x : Int, 0 ≤ x → x < rows.length → 0 ≤ p'.B x ∧ p'.B x < p'.nb) (nble : p.nb ≤ p'.nb)
  (eq : ∀ x y : Int, 0 ≤ x → x < rows.length → 0 ≤ y → y < rows.length → (p'.B x = p'.B y ↔ p.B x = p.B y ∧ (p.B (goalOf rows x c) = b ↔ p.B (goalOf rows y c) = b)))
  (old : ∀ x : Int, 0 ≤ x → x < rows.length → p'.B x < p.nb → p'.B x = p.B x)
  (hw1 : ∀ q, q ∈ wt → q ∈ wt') (hw2 : ∀ n c : Int, (p.nb : Int) ≤ n → n < p'.nb → 0 ≤ c → c < w → (n, c) ∈ wt') (hw3 : ∀ q, q ∈ wt' → q ∈ wt ∨ ((p.nb : Int) ≤ q.1 ∧ q.1 < p'.nb ∧ 0 ≤ q.2 ∧ q.2 < w)) : Hop w rows tags p' wt' where
 tag := fun x y x0 x1 y0 y1 e => h.tag x y x0 x1 y0 y1 ((eq x y x0 x1 y0 y1).mp e).1
 dist := fun x y x0 x1 y0 y1 e => by
  by_cases q : p.B x = p.B y
  ·have nm : ¬ (p.B (goalOf rows x c) = b ↔ p.B (goalOf rows y c) = b) := fun z => e ((eq x y x0 x1 y0 y1).mpr ⟨q, z⟩)
   have hc := h.wok (b, c) (List.mem_append_right _ (.head _))
   have gx := A.goal0 x0 x1 hc.2.2.1 hc.2.2.2
   have gy := A.goal0 y0 y1 hc.2.2.1 hc.2.2.2
   obtain ⟨u, hu, hT⟩ := h.dist _ _ gx.1 gx.2 gy.1 gy.2 fun z => nm (by rw [z])
   exact ⟨c :: u, fun z hz => by
    rcases List.mem_cons.mp hz with rfl | hz
    ·exact ⟨hc.2.2.1, hc.2.2.2⟩
    ·exact hu z hz, hT⟩
  ·exact h.dist x y x0 x1 y0 y1 q
 wok := fun q hq => by
  rcases hw3 q hq with z | z
  ·have := h.wok q (List.mem_append_left _ z)
   exact ⟨this.1, by lia, this.2.2⟩
  ·exact ⟨by lia, z.2.1, z.2.2⟩
 hop := fun x y c' x0 x1 y0 y1 c0 c1 e ne => by
  have E := (eq x y x0 x1 y0 y1).mp e
  have gx := A.goal0 x0 x1 c0 c1
  have gy := A.goal0 y0 y1 c0 c1
  have put : ∀ z : Int, 0 ≤ z → z < rows.length → ((p.B z, c') ∈ wt ∨ (p.nb : Int) ≤ p'.B z) → (p'.B z, c') ∈ wt' := fun z z0 z1 q => by
   by_cases k : p'.B z < p.nb
   ·rcases q with q | q
    ·rw [old z z0 z1 k]; exact hw1 _ q
    ·lia
   ·exact hw2 _ _ (by lia) (bl z z0 z1).2 c0 c1
  by_cases q : p.B (goalOf rows x c') = p.B (goalOf rows y c')
  ·by_cases k1 : p'.B (goalOf rows x c') < p.nb
   ·by_cases k2 : p'.B (goalOf rows y c') < p.nb
    ·exact absurd (by rw [old _ gx.1 gx.2 k1, old _ gy.1 gy.2 k2, q]) ne
    ·exact .inr (put _ gy.1 gy.2 (.inr (by lia)))
   ·exact .inl (put _ gx.1 gx.2 (.inr (by lia)))
  ·rcases h.hop x y c' x0 x1 y0 y1 c0 c1 E.1 q with m | m
   ·rcases List.mem_append.mp m with m | m
    ·exact .inl (put _ gx.1 gx.2 (.inl m))
    ·have m := List.mem_singleton.mp m
     injection m with m1 m2
     subst m2
     exact absurd (m1.trans (E.2.mp m1).symm) q
   ·rcases List.mem_append.mp m with m | m
    ·exact .inr (put _ gy.1 gy.2 (.inl m))
    ·have m := List.mem_singleton.mp m
     injection m with m1 m2
     subst m2
     exact absurd ((E.2.mpr m1).trans m1.symm) q
theorem Hop.done (A : Full w rows tags) (h : Hop w rows tags p []) (x y : Int) (x0 : 0 ≤ x) (x1 : x < rows.length) (y0 : 0 ≤ y) (y1 : y < rows.length) : p.B x = p.B y ↔ ∀ u, WordOk w u → T rows tags x u = T rows tags y u := by
 constructor
 ·intro e u
  induction u generalizing x y with
  | nil => intro _; exact h.tag x y x0 x1 y0 y1 e
  | cons c u ih =>
   intro hu
   have hc := hu c (.head _)
   have gx := A.goal0 x0 x1 hc.1 hc.2
   have gy := A.goal0 y0 y1 hc.1 hc.2
   rw [T_cons, T_cons]
   refine ih _ _ gx.1 gx.2 gy.1 gy.2 ?_ hu.tail
   by_cases q : p.B (goalOf rows x c) = p.B (goalOf rows y c)
   ·exact q
   ·rcases h.hop x y c x0 x1 y0 y1 hc.1 hc.2 e q with m | m <;> cases m
 ·intro a
  by_cases q : p.B x = p.B y
  ·exact q
  ·obtain ⟨u, hu, hT⟩ := h.dist x y x0 x1 y0 y1 q
   exact absurd (a u hu) hT
structure GrI (tags : List (List Int)) (ks : List (List Int)) (gs : List (List Int)) (i : Nat) : Prop where
 nd : ks.Nodup
 len : gs.length = ks.length
 le : ks.length ≤ i
 at_ : ∀ (m : Nat) t g, ks[m]? = some t → gs[m]? = some g → g.length ≤ i ∧ ∀ x : Int, x ∈ g ↔ 0 ≤ x ∧ x < i ∧ tags[x.toNat]? = some t
 all : ∀ (x : Nat) t, x < i → tags[x]? = some t → t ∈ ks
theorem GrI.start : GrI tags [] [] 0 := ⟨List.nodup_nil, rfl, Nat.le_refl _, fun m t g e => by simp at e, fun x t h => by lia⟩
theorem GrI.old {ks gs : List (List Int)} {i m : Nat} {t g : List Int} (h : GrI tags ks gs i) (et : tags[i]? = some t) (em : ks[m]? = some t) (eg : gs[m]? = some g) : GrI tags ks (gs.set m (g ++ [(i : Int)])) (i + 1) where
 nd := h.nd
 len := by rw [List.length_set]; exact h.len
 le := Nat.le_succ_of_le h.le
 at_ := fun m' t' g' e e' => by
  by_cases q : m = m'
  ·subst q
   rw [List.getElem?_set_self (gll eg)] at e'
   cases e'
   rw [em] at e; cases e
   have H := h.at_ m t g em eg
   refine ⟨by simp; lia +abstractProof, fun x => ?_⟩
   rw [List.mem_append, H.2 x, List.mem_singleton]
   constructor
   ·rintro (⟨a, b, c⟩ | rfl)
    ·exact ⟨a, by lia +abstractProof, c⟩
    ·exact ⟨by lia +abstractProof, by lia +abstractProof, by simpa using et⟩
   ·rintro ⟨a, b, c⟩
    by_cases z : x = i
    ·exact .inr z
    ·exact .inl ⟨a, by lia +abstractProof, c⟩
  ·rw [List.getElem?_set_ne q] at e'
   have H := h.at_ m' t' g' e e'
   refine ⟨by lia +abstractProof, fun x => ?_⟩
   rw [H.2 x]
   constructor
   ·rintro ⟨a, b, c⟩; exact ⟨a, by lia +abstractProof, c⟩
   ·rintro ⟨a, b, c⟩
    refine ⟨a, ?_, c⟩
    by_cases z : x = i
    ·subst z
     rw [Int.toNat_natCast, et] at c
     cases c
     exact absurd (nodup_inj h.nd em e) q
    ·lia +abstractProof
 all := fun x t' hx e => by
  by_cases z : x < i
  ·exact h.all x t' z e
  ·have : x = i := by lia +abstractProof
   subst this
   rw [et] at e; cases e
   exact List.mem_of_getElem? em
theorem GrI.new {ks gs : List (List Int)} {i : Nat} {t : List Int} (h : GrI tags ks gs i) (et : tags[i]? = some t) (hn : t ∉ ks) : GrI tags (ks ++ [t]) (gs ++ [[(i : Int)]]) (i + 1) where
 nd := by
  rw [List.nodup_append]
  exact ⟨h.nd, by simp, fun a ha b hb => by rw [List.mem_singleton.mp hb]; intro q; exact hn (q ▸ ha)⟩
 len := by simp [h.len]
 le := by rw [List.length_append, List.length_singleton]; have := h.le; lia +abstractProof
 at_ := fun m t' g' e e' => by
  rcases get_snoc e with e | ⟨rfl, rfl⟩
  ·have hm := (gll e)
   rw [List.getElem?_append_left (by rw [h.len]; exact hm)] at e'
   have H := h.at_ m t' g' e e'
   refine ⟨by lia +abstractProof, fun x => ?_⟩
   rw [H.2 x]
   constructor
   ·rintro ⟨a, b, c⟩; exact ⟨a, by lia +abstractProof, c⟩
   ·rintro ⟨a, b, c⟩
    refine ⟨a, ?_, c⟩
    by_cases z : x = i
    ·subst z
     rw [Int.toNat_natCast, et] at c
     cases c
     exact absurd (List.mem_of_getElem? e) hn
    ·lia +abstractProof
  ·rw [← h.len, List.getElem?_concat_length] at e'
   cases e'
   refine ⟨by simp, fun x => ?_⟩
   rw [List.mem_singleton]
   constructor
   ·rintro rfl; exact ⟨by lia +abstractProof, by lia +abstractProof, by simpa using et⟩
   ·rintro ⟨a, b, c⟩
    by_cases z : x = i
    ·exact z
    ·exact absurd (h.all x.toNat t' (by lia +abstractProof) c) hn
 all := fun x t' hx e => by
  by_cases z : x < i
  ·exact List.mem_append_left _ (h.all x t' z e)
  ·have : x = i := by lia +abstractProof
   subst this
   rw [et] at e; cases e
   exact List.mem_append_right _ (.head _)
end Mine
set_option tactic.hygienic false
namespace Mine
noncomputable def fillRow (n : Nat) (r : List Int) : List Int := r.map fun g => if g = -1 then (n : Int) else g
noncomputable def fillRows (rows : List (List Int)) : List (List Int) := rows.map (fillRow rows.length)
noncomputable def needDead (rows : List (List Int)) : Bool := (fillRows rows).any fun r => decide ((rows.length : Int) ∈ r)
noncomputable def cRows (w : Nat) (rows : List (List Int)) : List (List Int) := fillRows rows ++ if needDead rows = true then [List.replicate w (rows.length : Int)] else []
noncomputable def cTags (rows tags : List (List Int)) : List (List Int) := tags ++ if needDead rows = true then [[]] else []
variable {w : Nat} {rows tags : List (List Int)}
theorem cRows_len : (cRows w rows).length = rows.length + if needDead rows = true then 1 else 0 := by
 unfold cRows fillRows
 rw [List.length_append, List.length_map]
 split <;> rfl
theorem cRows_at {s : Nat} {r : List Int} (e : rows[s]? = some r) : (cRows w rows)[s]? = some (fillRow rows.length r) := by
 unfold cRows
 refine get_left ?_
 unfold fillRows
 rw [List.getElem?_map, e]; rfl
theorem cTags_at {s : Nat} {t : List Int} (e : tags[s]? = some t) : (cTags rows tags)[s]? = some t := get_left e
theorem fill_mem {r : List Int} {n : Nat} {g : Int} (h : g ∈ fillRow n r) : ∃ g', g' ∈ r ∧ g = if g' = -1 then (n : Int) else g' := by
 obtain ⟨g', h1, rfl⟩ := List.mem_map.mp h
 exact ⟨g', h1, rfl⟩
set_option tactic.hygienic true in
theorem Aut.full (A : Aut w rows tags) (hs : rows.length ≤ 99) : Full w (cRows w rows) (cTags rows tags) := by
 have cX : True := trivial
 revert w rows tags A hs
 rintro w rows tags A hs
 have hpos := A.pos
 have hl := cRows_len (w := w) (rows := rows)
 have key : ∀ r, r ∈ cRows w rows → r.length = w ∧ ∀ g, g ∈ r → 0 ≤ g ∧ g < (cRows w rows).length := by
  rintro r hr
  unfold cRows at hr
  rcases List.mem_append.mp hr with q | q
  ·obtain ⟨r0, h0, rfl⟩ := List.mem_map.mp q
   have h1 := A.row r0 h0
   refine ⟨by simp [fillRow, h1.1], fun g hg => ?_⟩
   obtain ⟨g', h2, e⟩ := fill_mem hg
   have h3 := h1.2 g' h2
   split at e
   ·have : needDead rows = true := List.any_eq_true.mpr ⟨_, q, by rw [e] at hg; simpa using hg⟩
    rw [this] at hl
    simp only [if_true] at hl
    lia
   ·lia
  ·split at q
   ·rename_i hd
    rw [hd] at hl
    simp only [if_true] at hl
    rw [List.mem_singleton.mp q]
    refine ⟨by simp, fun g hg => ?_⟩
    rw [List.eq_of_mem_replicate hg]
    lia
   ·cases q
 refine ⟨⟨?_, by lia, ?_, fun r hr => ⟨(key r hr).1, fun g hg => by have := (key r hr).2 g hg; lia⟩, A.width, ?_⟩, fun r hr g hg => ((key r hr).2 g hg).1⟩
 ·rw [hl]
  unfold cTags
  rw [List.length_append, A.same]
  split <;> rfl
 ·rw [hl]; split <;> lia
 ·rintro t ht
  unfold cTags at ht
  rcases List.mem_append.mp ht with q | q
  ·exact A.tag t q
  ·split at q
   ·rw [List.mem_singleton.mp q]; simp
   ·cases q
theorem cRows_goal (A : Aut w rows tags) {s c : Int} (h0 : 0 ≤ s) (h1 : s < rows.length) (c0 : 0 ≤ c) (c1 : c < w) : goalOf (cRows w rows) s c = if goalOf rows s c = -1 then (rows.length : Int) else goalOf rows s c := by
 obtain ⟨r, er, hl, hg⟩ := A.rowAt h0 h1
 obtain ⟨g, eg, hm⟩ := get_of_lt (l := r) (i := c.toNat) (by lia)
 have e1 : goalOf rows s c = g := by unfold goalOf; rw [if_neg (by lia), getD_of er, getD_of eg]
 have e2 : goalOf (cRows w rows) s c = if g = -1 then (rows.length : Int) else g := by
  unfold goalOf
  rw [if_neg (by lia), getD_of (cRows_at er)]
  exact getD_of (by unfold fillRow; rw [List.getElem?_map, eg]; rfl)
 rw [e1, e2]
theorem dead_T (A : Aut w rows tags) (hd : needDead rows = true) : ∀ u, WordOk w u → T (cRows w rows) (cTags rows tags) rows.length u = []
 | [], _ => by
  rw [T_nil]
  unfold tagOf
  rw [if_neg (by lia), Int.toNat_natCast]
  refine getD_of ?_
  unfold cTags
  rw [if_pos hd, ← A.same, List.getElem?_concat_length]
 | c :: u, hu => by
  have hc := hu c (.head _)
  rw [T_cons]
  have e : goalOf (cRows w rows) rows.length c = rows.length := by
   unfold goalOf
   rw [if_neg (by lia), Int.toNat_natCast]
   have : (cRows w rows)[rows.length]? = some (List.replicate w (rows.length : Int)) := by
    unfold cRows
    rw [if_pos hd, show rows.length = (fillRows rows).length by simp [fillRows], List.getElem?_concat_length]
   rw [getD_of this]
   refine getD_of ?_
   rw [List.getElem?_replicate, if_pos (by lia)]
  rw [e]
  exact dead_T A hd u hu.tail
set_option tactic.hygienic true in
theorem cRows_T (A : Aut w rows tags) : ∀ (u : List Int) (s : Int), 0 ≤ s → s < rows.length → WordOk w u → T (cRows w rows) (cTags rows tags) s u = T rows tags s u
 | [], s, h0, h1, _ => by
  obtain ⟨t, et, _⟩ := A.tagAt h0 h1
  rw [T_nil, T_nil]
  unfold tagOf
  rw [if_neg (by lia +abstractProof), if_neg (by lia +abstractProof), getD_of et, getD_of (cTags_at et)]
 | c :: u, s, h0, h1, hu => by
  have hc := hu c (.head _)
  have hg := A.goal (s := s) ⟨by lia +abstractProof, h1⟩ hc.1 hc.2
  rw [T_cons, T_cons, cRows_goal A h0 h1 hc.1 hc.2]
  split
  ·rename_i e
   rw [e, T_dead]
   refine dead_T A ?_ u hu.tail
   obtain ⟨r, er, hl, hgr⟩ := A.rowAt h0 h1
   obtain ⟨g, eg, hm⟩ := get_of_lt (l := r) (i := c.toNat) (by lia +abstractProof)
   have e1 : goalOf rows s c = g := by unfold goalOf; rw [if_neg (by lia +abstractProof), getD_of er, getD_of eg]
   refine List.any_eq_true.mpr ⟨fillRow rows.length r, List.mem_map.mpr ⟨r, List.mem_of_getElem? er, rfl⟩, ?_⟩
   rw [decide_eq_true_eq]
   exact List.mem_map.mpr ⟨g, hm, by rw [if_pos (e1.symm.trans e)]⟩
  ·rename_i e
   exact cRows_T A u _ (by have := hg.1; lia +abstractProof) hg.2 hu.tail
noncomputable def blkAt (bs : List Int) (g : Int) : Int := bs.getD g.toNat 0
noncomputable def jRows (rows : List (List Int)) (bs fs : List Int) : List (List Int) := fs.map fun f => (rows.getD f.toNat []).map (blkAt bs)
noncomputable def jTags (tags : List (List Int)) (fs : List Int) : List (List Int) := fs.map fun f => tags.getD f.toNat []
structure Joi (w : Nat) (rows tags : List (List Int)) (bs fs : List Int) : Prop where
 full : Full w rows tags
 canon : Canon bs
 len : bs.length = rows.length
 eq : ∀ (x y : Nat) a b, bs[x]? = some a → bs[y]? = some b → (a = b ↔ ∀ u, WordOk w u → T rows tags x u = T rows tags y u)
 fs : FsI bs fs rows.length
variable {bs fs : List Int}
theorem Joi.blk (J : Joi w rows tags bs fs) {s : Int} (h0 : 0 ≤ s) (h1 : s < rows.length) : bs[s.toNat]? = some (blkAt bs s) ∧ 0 ≤ blkAt bs s ∧ blkAt bs s < fs.length := by
 have hl := J.len
 obtain ⟨b, eb, _⟩ := get_of_lt (l := bs) (i := s.toNat) (by lia)
 have e : blkAt bs s = b := getD_of eb
 rw [e]
 exact ⟨eb, (J.canon _ b eb).1, J.fs.le s.toNat b (by lia) eb⟩
theorem Joi.zero (J : Joi w rows tags bs fs) : blkAt bs 0 = 0 := by
 have hp := J.full.pos
 have h := J.blk (s := 0) (by lia +abstractProof) (by lia +abstractProof)
 have c := (J.canon 0 _ h.1).2
 by_cases q : blkAt bs 0 = 0
 ·exact q
 ·obtain ⟨j, hj, _⟩ := c 0 (by lia +abstractProof) (by lia +abstractProof)
  lia +abstractProof
theorem Joi.first (J : Joi w rows tags bs fs) {b : Nat} (hb : b < fs.length) : ∃ f : Int, fs[b]? = some f ∧ 0 ≤ f ∧ f < rows.length ∧ blkAt bs f = b := by
 obtain ⟨f, ef, _⟩ := get_of_lt hb
 have h := J.fs.at_ b f ef
 exact ⟨f, ef, h.1, h.2.1, getD_of h.2.2⟩
theorem Joi.same (J : Joi w rows tags bs fs) {x y : Int} (x0 : 0 ≤ x) (x1 : x < rows.length) (y0 : 0 ≤ y) (y1 : y < rows.length) : blkAt bs x = blkAt bs y ↔ ∀ u, WordOk w u → T rows tags x u = T rows tags y u := by
 have hx := J.blk x0 x1
 have hy := J.blk y0 y1
 have := J.eq x.toNat y.toNat _ _ hx.1 hy.1
 rwa [show ((x.toNat : Nat) : Int) = x by lia, show ((y.toNat : Nat) : Int) = y by lia] at this
theorem Joi.row (J : Joi w rows tags bs fs) {b : Nat} {f : Int} (ef : fs[b]? = some f) : (jRows rows bs fs)[b]? = some ((rows.getD f.toNat []).map (blkAt bs)) := by
 unfold jRows; rw [List.getElem?_map, ef]; rfl
theorem Joi.aut (J : Joi w rows tags bs fs) : Aut w (jRows rows bs fs) (jTags tags fs) := by
 have A := J.full
 have hp := A.pos
 have h0 := J.blk (s := 0) (by lia +abstractProof) (by lia +abstractProof)
 have hfl : fs.length ≤ rows.length := by
  refine nodup_le rows.length (l := fs) ?_ fun x q => ?_
  ·rw [List.Nodup, List.pairwise_iff_getElem]
   intro i j hi hj hij e
   have a := J.fs.at_ i _ (List.getElem?_eq_getElem hi)
   have b := J.fs.at_ j _ (List.getElem?_eq_getElem hj)
   rw [e] at a
   have := a.2.2.symm.trans b.2.2
   injection this with this
   lia +abstractProof
  ·obtain ⟨b, eb⟩ := List.mem_iff_getElem?.mp q
   have := J.fs.at_ b x eb
   exact ⟨this.1, this.2.1⟩
 refine ⟨by simp [jRows, jTags], by simp [jRows]; lia +abstractProof, by simp [jRows]; have := A.small; lia +abstractProof, fun r hr => ?_, A.width, fun t ht => ?_⟩
 ·obtain ⟨f, hf, rfl⟩ := List.mem_map.mp hr
  obtain ⟨b, eb⟩ := List.mem_iff_getElem?.mp hf
  have h := J.fs.at_ b f eb
  obtain ⟨r, er, hl, hg⟩ := A.rowAt h.1 h.2.1
  rw [getD_of er]
  refine ⟨by simp [hl], fun g hgm => ?_⟩
  obtain ⟨g', hg', rfl⟩ := List.mem_map.mp hgm
  have := J.blk (A.goals r (List.mem_of_getElem? er) g' hg') (hg g' hg').2
  simp [jRows]; lia +abstractProof
 ·obtain ⟨f, hf, rfl⟩ := List.mem_map.mp ht
  obtain ⟨b, eb⟩ := List.mem_iff_getElem?.mp hf
  have h := J.fs.at_ b f eb
  obtain ⟨t, et, h5⟩ := A.tagAt h.1 h.2.1
  rw [getD_of et]; exact h5
theorem Joi.T (J : Joi w rows tags bs fs) : ∀ (u : List Int) (s : Int), 0 ≤ s → s < rows.length → WordOk w u → Mine.T (jRows rows bs fs) (jTags tags fs) (blkAt bs s) u = Mine.T rows tags s u := by
 intro u
 have A := J.full
 induction u with
 | nil =>
  intro s h0 h1 hu
  have hb := J.blk h0 h1
  obtain ⟨f, ef, f0, f1, fb⟩ := J.first (b := (blkAt bs s).toNat) (by lia +abstractProof)
  have e := (J.same f0 f1 h0 h1).mp (by rw [fb]; lia +abstractProof) [] hu
  rw [← e, T_nil, T_nil]
  unfold tagOf
  rw [if_neg (by lia +abstractProof), if_neg (by lia +abstractProof)]
  refine getD_of ?_
  unfold jTags
  rw [List.getElem?_map, ef]; rfl
 | cons c u ih =>
  intro s h0 h1 hu
  have hc := hu c (.head _)
  have hb := J.blk h0 h1
  obtain ⟨f, ef, f0, f1, fb⟩ := J.first (b := (blkAt bs s).toNat) (by lia +abstractProof)
  have e := (J.same f0 f1 h0 h1).mp (by rw [fb]; lia +abstractProof) (c :: u) hu
  have hg := A.goal0 f0 f1 hc.1 hc.2
  rw [← e, T_cons, T_cons, ← ih _ hg.1 hg.2 hu.tail]
  congr 1
  obtain ⟨r, er, hl, hgr⟩ := A.rowAt f0 f1
  obtain ⟨g, eg, hm⟩ := get_of_lt (l := r) (i := c.toNat) (by lia +abstractProof)
  have e1 : goalOf rows f c = g := by unfold goalOf; rw [if_neg (by lia +abstractProof), getD_of er, getD_of eg]
  rw [e1]
  unfold goalOf
  rw [if_neg (by lia +abstractProof), getD_of (J.row ef), getD_of er]
  exact getD_of (by rw [List.getElem?_map, eg]; rfl)
theorem Joi.diff (J : Joi w rows tags bs fs) {i j : Nat} (hi : i < fs.length) (hj : j < fs.length) (hne : i ≠ j) : Diff w (jRows rows bs fs) (jTags tags fs) i j := by
 have cX : True := trivial
 revert w rows tags bs fs J i j hi hj hne
 rintro w rows tags bs fs J i j hi hj hne
 obtain ⟨f, ef, f0, f1, fb⟩ := J.first hi
 obtain ⟨g, eg, g0, g1, gb⟩ := J.first hj
 have h : ¬ ∀ u, WordOk w u → Mine.T rows tags f u = Mine.T rows tags g u := fun q => by
  have := (J.same f0 f1 g0 g1).mpr q
  rw [fb, gb] at this; lia
 obtain ⟨u, hu⟩ := Classical.not_forall.mp h
 obtain ⟨hu, hT⟩ := Classical.not_imp.mp hu
 refine ⟨u, hu, ?_⟩
 rw [← fb, ← gb, J.T u f f0 f1 hu, J.T u g g0 g1 hu]
 exact hT
structure Trim (w : Nat) (rows tags : List (List Int)) (sn : List Bool) (ord : List Int) (rs : List (List Int)) : Prop where
 aut0 : Aut w rows tags
 snl : sn.length = rows.length
 sn_ : ∀ x : Nat, x < rows.length → (sn[x]? = some true ↔ Alive w rows tags x)
 num : NumI rows sn ord rs
 len : rs.length = ord.length
variable {sn : List Bool} {ord : List Int} {rs : List (List Int)}
noncomputable def oTags (tags : List (List Int)) (ord : List Int) : List (List Int) := ord.map fun o => tags.getD o.toNat []
theorem Trim.ordAt (t : Trim w rows tags sn ord rs) {i : Nat} (h : i < rs.length) : ∃ (o : Int) (r row : List Int), ord[i]? = some o ∧ 0 ≤ o ∧ o < rows.length ∧ rows[o.toNat]? = some r ∧ rs[i]? = some row ∧ RowOk sn ord r row r.length ∧ r.length = w := by
 have cX : True := trivial
 revert w rows tags sn ord rs t i h
 rintro w rows tags sn ord rs t i h
 obtain ⟨row, erow, _⟩ := get_of_lt h
 obtain ⟨o, r, eo, er, ok⟩ := t.num.row i row erow
 have ho := t.num.rng o (List.mem_of_getElem? eo)
 exact ⟨o, r, row, eo, ho.1, ho.2, er, erow, ok, (t.aut0.row r (List.mem_of_getElem? er)).1⟩
theorem Trim.cell (t : Trim w rows tags sn ord rs) {i : Nat} {o : Int} (h : i < rs.length) (eo : ord[i]? = some o) {c : Int} (c0 : 0 ≤ c) (c1 : c < w) : CellOk sn ord (goalOf rows o c) (goalOf rs i c) := by
 have cX : True := trivial
 revert w rows tags sn ord rs t i o h eo c c0 c1
 rintro w rows tags sn ord rs t i o h eo c c0 c1
 obtain ⟨o', r, row, eo', o0, o1, er, erow, ok, hr⟩ := t.ordAt h
 rw [eo] at eo'; cases eo'
 obtain ⟨x, ex, _⟩ := get_of_lt (l := row) (i := c.toNat) (by rw [ok.1]; lia +abstractProof)
 obtain ⟨g, eg, q⟩ := ok.2 c.toNat x ex
 have e1 : goalOf rows o c = g := by unfold goalOf; rw [if_neg (by lia +abstractProof), getD_of er, getD_of eg]
 have e2 : goalOf rs i c = x := by unfold goalOf; rw [if_neg (by lia +abstractProof), Int.toNat_natCast, getD_of erow, getD_of ex]
 rw [e1, e2]; exact q
theorem Trim.T (t : Trim w rows tags sn ord rs) : ∀ (u : List Int) (i : Nat) (o : Int), i < rs.length → ord[i]? = some o → WordOk w u → Mine.T rs (oTags tags ord) i u = Mine.T rows tags o u := by
 intro u
 induction u with
 | nil =>
  intro i o hi eo hu
  have ho := t.num.rng o (List.mem_of_getElem? eo)
  rw [T_nil, T_nil]
  unfold tagOf
  rw [if_neg (by lia), if_neg (by lia), Int.toNat_natCast]
  refine getD_of ?_
  unfold oTags
  rw [List.getElem?_map, eo]; rfl
 | cons c u ih =>
  intro i o hi eo hu
  have hc := hu c (.head _)
  have ho := t.num.rng o (List.mem_of_getElem? eo)
  have hg := t.aut0.goal (s := o) ⟨by lia, ho.2⟩ hc.1 hc.2
  rw [T_cons, T_cons]
  rcases t.cell hi eo hc.1 hc.2 with ⟨e, q⟩ | ⟨g0, k, m, e, em⟩
  ·rw [e, T_dead]
   rcases q with q | q
   ·rw [q, T_dead]
   ·by_cases z : goalOf rows o c = -1
    ·rw [z, T_dead]
    ·have hgn : (goalOf rows o c).toNat < rows.length := by have := hg.1; have := hg.2; lia
     have na : ¬ Alive w rows tags (goalOf rows o c) := fun a => by
      have := (t.sn_ _ hgn).mpr (by rwa [show (((goalOf rows o c).toNat : Nat) : Int) = goalOf rows o c by have := hg.1; lia])
      rw [q] at this; cases this
     by_cases y : Mine.T rows tags (goalOf rows o c) u = []
     ·exact y.symm
     ·exact absurd ⟨u, hu.tail, y⟩ na
  ·rw [e]
   have hm := (gll em)
   exact ih m _ (by rw [t.len]; exact hm) em hu.tail
theorem Trim.aut (t : Trim w rows tags sn ord rs) : Aut w rs (oTags tags ord) := by
 have A := t.aut0
 have hol := nodup_le rows.length t.num.nd t.num.rng
 have h0 := (gll t.num.first)
 have hl := t.len
 refine ⟨by simp [oTags, hl], by lia, by have := A.small; lia, fun row hrow => ?_, A.width, fun x hx => ?_⟩
 ·obtain ⟨i, ei⟩ := List.mem_iff_getElem?.mp hrow
  obtain ⟨o, r, row', eo, o0, o1, er, erow, ok, hr⟩ := t.ordAt (gll ei)
  rw [ei] at erow; cases erow
  refine ⟨by rw [ok.1]; exact hr, fun x hx => ?_⟩
  obtain ⟨c, ec⟩ := List.mem_iff_getElem?.mp hx
  obtain ⟨g, eg, q⟩ := ok.2 c x ec
  rcases q with ⟨rfl, _⟩ | ⟨_, _, m, rfl, em⟩
  ·lia
  ·have := (gll em)
   lia
 ·obtain ⟨o, ho, rfl⟩ := List.mem_map.mp hx
  have hr := t.num.rng o ho
  obtain ⟨tg, et, h5⟩ := A.tagAt hr.1 hr.2
  rw [getD_of et]; exact h5
theorem Trim.reach (t : Trim w rows tags sn ord rs) : ∀ (n i : Nat), i < n → i < rs.length → ∃ u, WordOk w u ∧ runOf rs 0 u = (i : Int)
 | 0, i, h, _ => by lia
 | n + 1, i, hn, hi => by
  by_cases h0 : i = 0
  ·subst h0
   exact ⟨[], fun c q => (by cases q), rfl⟩
  ·obtain ⟨j, c, row, hj, ej, ec⟩ := t.num.par i (by lia) (by rw [← t.len]; exact hi)
   obtain ⟨u, hu, hr⟩ := t.reach n j (by lia) (by lia)
   have hrow := t.aut.row row (List.mem_of_getElem? ej)
   have hc := (gll ec)
   refine ⟨u ++ [(c : Int)], fun x q => ?_, ?_⟩
   ·rcases List.mem_append.mp q with q | q
    ·exact hu x q
    ·rw [List.mem_singleton.mp q]; lia
   ·rw [runOf_append, hr]
    exact goalOf_at ej ec
structure Lean (w : Nat) (rows tags R S : List (List Int)) : Prop where
 aut : Aut w R S
 acc : ∀ u, WordOk w u → T R S 0 u = T rows tags 0 u
 diff : ∀ i j : Nat, i < R.length → j < R.length → i ≠ j → Diff w R S i j
 reach : ∀ i : Nat, i < R.length → ∃ u, WordOk w u ∧ runOf R 0 u = (i : Int)
 len : R.length ≤ rows.length + 1
theorem lean_of (A : Aut w rows tags) (hs : rows.length ≤ 99) (J : Joi w (cRows w rows) (cTags rows tags) bs fs) (t : Trim w (jRows (cRows w rows) bs fs) (jTags (cTags rows tags) fs) sn ord rs) : Lean w rows tags rs (oTags (jTags (cTags rows tags) fs) ord) := by
 have cX : True := trivial
 revert w rows tags bs fs sn ord rs A hs J t
 rintro w rows tags bs fs sn ord rs A hs J t
 have hp := A.pos
 have hcl := cRows_len (w := w) (rows := rows)
 have hol := nodup_le _ t.num.nd t.num.rng
 have hl := t.len
 have h0 := (gll t.num.first)
 have hjl : (jRows (cRows w rows) bs fs).length = fs.length := by simp [jRows]
 refine ⟨t.aut, fun u hu => ?_, fun i j hi hj hne => ?_, fun i hi => t.reach (i + 1) i (by lia) hi, ?_⟩
 ·rw [show (0 : Int) = ((0 : Nat) : Int) from rfl, t.T u 0 0 (by lia) t.num.first hu]
  have := J.T u 0 (by lia) (by split at hcl <;> lia) hu
  rw [J.zero] at this
  rw [this, cRows_T A u 0 (by lia) (by lia) hu]; rfl
 ·obtain ⟨o, _, _, eo, o0, o1, _⟩ := t.ordAt hi
  obtain ⟨o', _, _, eo', o0', o1', _⟩ := t.ordAt hj
  have hoo : o.toNat ≠ o'.toNat := fun e => by
   have : o = o' := by lia
   subst this
   exact hne (nodup_inj t.num.nd eo eo')
  obtain ⟨u, hu, hT⟩ := J.diff (i := o.toNat) (j := o'.toNat) (by lia) (by lia) hoo
  refine ⟨u, hu, ?_⟩
  rw [t.T u i o hi eo hu, t.T u j o' hj eo' hu]
  rwa [show ((o.toNat : Nat) : Int) = o by lia, show ((o'.toNat : Nat) : Int) = o' by lia] at hT
 ·have hfl : fs.length ≤ (cRows w rows).length := by
   have hJ := J.aut
   refine nodup_le _ (l := fs) ?_ fun x q => ?_
   ·rw [List.Nodup, List.pairwise_iff_getElem]
    rintro i j hi hj hij e
    have a := J.fs.at_ i _ (List.getElem?_eq_getElem hi)
    have b := J.fs.at_ j _ (List.getElem?_eq_getElem hj)
    rw [e] at a
    have := a.2.2.symm.trans b.2.2
    injection this with this
    lia
   ·obtain ⟨b, eb⟩ := List.mem_iff_getElem?.mp q
    have := J.fs.at_ b x eb
    exact ⟨this.1, this.2.1⟩
  split at hcl <;> lia
end Mine
set_option tactic.hygienic false
namespace Mine
section
open Classical
theorem countP_le' {α : Type} {p q : α → Bool} : ∀ {l : List α}, (∀ x, x ∈ l → p x = true → q x = true) → l.countP p ≤ l.countP q
 | [], _ => Nat.le_refl _
 | a :: l, h => by
  have ih := countP_le' (l := l) fun x hx => h x (.tail _ hx)
  have ha := h a (.head _)
  rw [List.countP_cons, List.countP_cons]
  by_cases q1 : p a = true
  ·rw [if_pos q1, if_pos (ha q1)]; lia
  ·rw [if_neg q1]; split <;> lia
set_option tactic.hygienic true in
theorem countP_same {α : Type} {p q : α → Bool} : ∀ {l : List α}, (∀ x, x ∈ l → p x = true → q x = true) → l.countP p = l.countP q → ∀ x, x ∈ l → q x = true → p x = true
 | [], _, _, x, hx, _ => by cases hx
 | a :: l, h, e, x, hx, hq => by
  have ih := countP_le' (l := l) (p := p) (q := q) fun x hx => h x (.tail _ hx)
  have ha := h a (.head _)
  rw [List.countP_cons, List.countP_cons] at e
  by_cases q1 : p a = true
  ·rw [if_pos q1, if_pos (ha q1)] at e
   rcases List.mem_cons.mp hx with rfl | hx
   ·exact q1
   ·exact countP_same (fun x hx => h x (.tail _ hx)) (by lia) x hx hq
  ·rw [if_neg q1] at e
   split at e
   ·lia
   ·rename_i q2
    rcases List.mem_cons.mp hx with rfl | hx
    ·exact absurd hq q2
    ·exact countP_same (fun x hx => h x (.tail _ hx)) (by lia) x hx hq
variable {w n : Nat} {F : Nat → List Int → List Int}
noncomputable def Eq' (w : Nat) (F : Nat → List Int → List Int) (k i j : Nat) : Prop := ∀ u, WordOk w u → u.length ≤ k → F i u = F j u
noncomputable def isF (w : Nat) (F : Nat → List Int → List Int) (k i : Nat) : Bool := decide (∀ j, j < i → ¬ Eq' w F k j i)
noncomputable def cnt (w n : Nat) (F : Nat → List Int → List Int) (k : Nat) : Nat := (List.range n).countP (isF w F k)
theorem Eq'.down {k i j : Nat} (h : Eq' w F (k + 1) i j) : Eq' w F k i j := fun u hu hl => h u hu (by lia +abstractProof)
theorem Eq'.symm {k i j : Nat} (h : Eq' w F k i j) : Eq' w F k j i := fun u hu hl => (h u hu hl).symm
theorem Eq'.trans {k i j l : Nat} (h : Eq' w F k i j) (h' : Eq' w F k j l) : Eq' w F k i l := fun u hu hl => (h u hu hl).trans (h' u hu hl)
theorem Eq'.rfl' {k i : Nat} : Eq' w F k i i := fun u hu hl => rfl
theorem isF_up {k i : Nat} (h : isF w F k i = true) : isF w F (k + 1) i = true := by
 unfold isF at h ⊢
 rw [decide_eq_true_eq] at h ⊢
 exact fun j hj e => h j hj e.down
theorem cnt_le (k : Nat) : cnt w n F k ≤ cnt w n F (k + 1) := countP_le' fun x za h => isF_up h
theorem cnt_n (k : Nat) : cnt w n F k ≤ n := by
 have := List.countP_le_length (l := List.range n) (p := isF w F k)
 rwa [List.length_range] at this
theorem stable {k : Nat} (e : cnt w n F k = cnt w n F (k + 1)) : ∀ i j, i < n → j < n → Eq' w F k i j → Eq' w F (k + 1) i j := by
 have cX : True := trivial
 revert w n F k e
 rintro w n F k e
 have same := countP_same (l := List.range n) (p := isF w F k) (q := isF w F (k + 1)) (fun x za h => isF_up h) e
 have rep : ∀ m i, i < m → i < n → ∃ r, r ≤ i ∧ isF w F k r = true ∧ Eq' w F (k + 1) r i := by
  rintro m
  induction m with
  | zero => intro i h; lia +abstractProof
  | succ m ih =>
   rintro i hm hi
   by_cases q : isF w F (k + 1) i = true
   ·exact ⟨i, Nat.le_refl _, same i (List.mem_range.mpr hi) q, Eq'.rfl'⟩
   ·have q : ¬ ∀ j, j < i → ¬ Eq' w F (k + 1) j i := fun z => q (decide_eq_true z)
    obtain ⟨j, hj⟩ := Classical.not_forall.mp q
    obtain ⟨hj, he⟩ := Classical.not_imp.mp hj
    have he := Classical.not_not.mp he
    obtain ⟨r, h1, h2, h3⟩ := ih j (by lia +abstractProof) (by lia +abstractProof)
    exact ⟨r, by lia +abstractProof, h2, h3.trans he⟩
 rintro i j hi hj h
 obtain ⟨r, r1, r2, r3⟩ := rep (i + 1) i (by lia +abstractProof) hi
 obtain ⟨s, s1, s2, s3⟩ := rep (j + 1) j (by lia +abstractProof) hj
 have hrs : Eq' w F k r s := r3.down.trans (h.trans s3.down.symm)
 have : r = s := by
  unfold isF at r2 s2
  rw [decide_eq_true_eq] at r2 s2
  rcases Nat.lt_trichotomy r s with q | q | q
  ·exact absurd hrs (s2 r q)
  ·exact q
  ·exact absurd hrs.symm (r2 s q)
 subst this
 exact r3.symm.trans s3
noncomputable def Closed (w n : Nat) (F : Nat → List Int → List Int) : Prop := ∀ i c, i < n → 0 ≤ c → c < (w : Int) → ∃ j, j < n ∧ ∀ u, F i (c :: u) = F j u
theorem stable_up (hc : Closed w n F) {k : Nat} (h : ∀ i j, i < n → j < n → Eq' w F k i j → Eq' w F (k + 1) i j) : ∀ i j, i < n → j < n → Eq' w F (k + 1) i j → Eq' w F (k + 2) i j := by
 intro i j hi hj e u hu hl
 cases u with
 | nil => exact e [] hu (by simp)
 | cons c u =>
  have cc := hu c (.head _)
  obtain ⟨i', hi', ei⟩ := hc i c hi cc.1 cc.2
  obtain ⟨j', hj', ej⟩ := hc j c hj cc.1 cc.2
  rw [ei, ej]
  refine h i' j' hi' hj' (fun v hv hvl => ?_) u hu.tail (by simpa using hl)
  rw [← ei, ← ej]
  exact e (c :: v) (fun x q => by
   rcases List.mem_cons.mp q with rfl | q
   ·exact cc
   ·exact hv x q) (by simp; lia)
theorem stable_all (hc : Closed w n F) {k : Nat} (h : ∀ i j, i < n → j < n → Eq' w F k i j → Eq' w F (k + 1) i j) {i j : Nat} (hi : i < n) (hj : j < n) (e : Eq' w F k i j) : ∀ u, WordOk w u → F i u = F j u := by
 have up : ∀ m, ∀ i j, i < n → j < n → Eq' w F (k + m) i j → Eq' w F (k + m + 1) i j := by
  intro m
  induction m with
  | zero => exact h
  | succ m ih => exact stable_up hc ih
 have all : ∀ m, Eq' w F (k + m) i j := by
  intro m
  induction m with
  | zero => exact e
  | succ m ih => exact up m i j hi hj ih
 intro u hu
 exact all u.length u hu (by lia)
theorem grows (k : Nat) (hn : ∀ k', k' < k → cnt w n F k' ≠ cnt w n F (k' + 1)) : cnt w n F 0 + k ≤ cnt w n F k := by
 induction k with
 | zero => exact Nat.le_refl _
 | succ k ih =>
  have h1 := ih fun k' hk => hn k' (by lia)
  have h2 := hn k (by lia)
  have h3 := cnt_le (w := w) (n := n) (F := F) k
  lia
theorem moore (hc : Closed w n F) {i j : Nat} (hi : i < n) (hj : j < n) (e : Eq' w F (n - cnt w n F 0) i j) : ∀ u, WordOk w u → F i u = F j u := by
 by_cases h : ∀ k', k' < n - cnt w n F 0 + 1 → cnt w n F k' ≠ cnt w n F (k' + 1)
 ·have := grows _ h
  have := cnt_n (w := w) (n := n) (F := F) (n - cnt w n F 0 + 1)
  lia
 ·obtain ⟨k, hk⟩ := Classical.not_forall.mp h
  obtain ⟨hk, he⟩ := Classical.not_imp.mp hk
  have he := Classical.not_not.mp he
  exact stable_all hc (stable he) hi hj fun u hu hl => e u hu (by lia)
set_option tactic.hygienic true in
theorem cnt_zero (l : List (List Int)) (hl : l.length = n) (h : ∀ i t, l[i]? = some t → F i [] = t) : cnt w n F 0 = (nubL [] l).length := by
 subst hl
 have E0 : ∀ i j, Eq' w F 0 i j ↔ F i [] = F j [] := fun i j => ⟨fun e => e [] (fun c q => by cases q) (Nat.le_refl _), fun e u hu hl => by
  have : u = [] := List.length_eq_zero_iff.mp (by lia)
  rw [this]; exact e⟩
 have key : ∀ m, m ≤ l.length → (List.range m).countP (isF w F 0) = (nubL [] (l.take m)).length := by
  intro m
  induction m with
  | zero => intro _; rfl
  | succ m ih =>
   intro hm
   obtain ⟨t, et, _⟩ := get_of_lt (l := l) (i := m) (by lia)
   rw [List.range_succ, List.countP_append, ih (by lia), List.take_add_one, et]
   show _ = (nubL [] (l.take m ++ [t])).length
   rw [nubL_snoc]
   have hf : isF w F 0 m = true ↔ ¬ t ∈ nubL [] (l.take m) := by
    unfold isF
    rw [decide_eq_true_eq, mem_nubL]
    simp only [List.not_mem_nil, false_or]
    constructor
    ·intro q hm
     obtain ⟨j, ej⟩ := List.mem_iff_getElem?.mp hm
     rw [List.getElem?_take] at ej
     split at ej
     ·rename_i hj
      exact q j hj ((E0 j m).mpr ((h j t ej).trans (h m t et).symm))
     ·cases ej
    ·intro q j hj e
     have e := (E0 j m).mp e
     rw [h m t et] at e
     obtain ⟨s, es, _⟩ := get_of_lt (l := l) (i := j) (by lia)
     rw [h j s es] at e
     subst e
     exact q (List.mem_iff_getElem?.mpr ⟨j, by rw [List.getElem?_take, if_pos hj]; exact es⟩)
   rw [List.countP_cons, List.countP_nil]
   by_cases q : isF w F 0 m = true
   ·rw [if_pos q, if_neg (hf.mp q)]; simp
   ·rw [if_neg q, if_pos (Classical.not_not.mp fun z => q (hf.mpr z))]
    rfl
 have := key l.length (Nat.le_refl _)
 rw [List.take_length] at this
 exact this
end
end Mine
set_option tactic.hygienic false
namespace Mine
noncomputable abbrev DF := List (List Int) × List (List Int)
noncomputable def allTags (ds : List DF) : List (List Int) := (ds.map (·.2)).flatten
noncomputable def deadRows (ds : List DF) : List (List Int) := (ds.map fun p => p.1.filter fun r => decide ((-1 : Int) ∈ r)).flatten
noncomputable def bTags (ds : List DF) : List (List Int) := allTags ds ++ if deadRows ds = [] then [] else [[]]
noncomputable def boundOf (ds : List DF) : Int := ((bTags ds).length : Int) - ((nubL [] (bTags ds)).length : Int)
noncomputable def nodes : List DF → List (DF × Int)
 | [] => []
 | p :: ds => (List.range p.2.length).map (fun s => (p, ((s : Nat) : Int))) ++ nodes ds
theorem nodes_mem {ds : List DF} {p : DF} (hp : p ∈ ds) {s : Int} (h0 : 0 ≤ s) (h1 : s < p.2.length) : (p, s) ∈ nodes ds := by
 induction ds with
 | nil => cases hp
 | cons q ds ih =>
  rcases List.mem_cons.mp hp with rfl | hp
  ·refine List.mem_append_left _ (List.mem_map.mpr ⟨s.toNat, List.mem_range.mpr (by lia), ?_⟩)
   rw [show ((s.toNat : Nat) : Int) = s by lia]
  ·exact List.mem_append_right _ (ih hp)
theorem nodes_of {ds : List DF} {q : DF × Int} (h : q ∈ nodes ds) : q.1 ∈ ds ∧ 0 ≤ q.2 ∧ q.2 < q.1.2.length := by
 induction ds with
 | nil => cases h
 | cons p ds ih =>
  rcases List.mem_append.mp h with h | h
  ·obtain ⟨s, hs, rfl⟩ := List.mem_map.mp h
   have := List.mem_range.mp hs
   exact ⟨.head _, by simp, by simpa using this⟩
  ·have := ih h; exact ⟨.tail _ this.1, this.2⟩
theorem range_tags (l : List (List Int)) : (List.range l.length).map (fun s => tagOf l ((s : Nat) : Int)) = l := by
 apply List.ext_getElem
 ·simp
 ·intro i h1 h2
  simp only [List.getElem_map, List.getElem_range]
  unfold tagOf
  rw [if_neg (by lia), Int.toNat_natCast]
  exact getD_of (List.getElem?_eq_getElem h2)
theorem nodes_tags : ∀ ds : List DF, (nodes ds).map (fun q => tagOf q.1.2 q.2) = allTags ds
 | [] => rfl
 | p :: ds => by
  show ((List.range p.2.length).map (fun s => (p, ((s : Nat) : Int))) ++ nodes ds).map _ = p.2 ++ allTags ds
  rw [List.map_append, nodes_tags ds, List.map_map]
  congr 1
  exact range_tags p.2
noncomputable def allNodes (ds : List DF) : List (DF × Int) := nodes ds ++ if deadRows ds = [] then [] else [(([], []), -1)]
theorem allNodes_tags (ds : List DF) : (allNodes ds).map (fun q => tagOf q.1.2 q.2) = bTags ds := by
 unfold allNodes bTags
 rw [List.map_append, nodes_tags]
 split <;> rfl
noncomputable def nodeF (ds : List DF) (i : Nat) (u : List Int) : List Int := match (allNodes ds)[i]? with
 | some q => T q.1.1 q.1.2 q.2 u
 | none => []
theorem nodeF_at {ds : List DF} {i : Nat} {q : DF × Int} (e : (allNodes ds)[i]? = some q) (u : List Int) : nodeF ds i u = T q.1.1 q.1.2 q.2 u := by
 unfold nodeF; rw [e]
theorem allNodes_len (ds : List DF) : (allNodes ds).length = (bTags ds).length := by rw [← allNodes_tags, List.length_map]
variable {w : Nat} {ds : List DF}
set_option tactic.hygienic true in
theorem nodes_closed (hA : ∀ p, p ∈ ds → Aut w p.1 p.2) : Closed w (bTags ds).length (nodeF ds) := by
 have cX : True := trivial
 revert w ds hA
 rintro w ds hA
 rintro i c hi c0 c1
 obtain ⟨q, eq, hq⟩ := get_of_lt (l := allNodes ds) (i := i) (by rw [allNodes_len]; exact hi)
 have fin : ∀ q', q' ∈ allNodes ds → (∀ u, T q.1.1 q.1.2 q.2 (c :: u) = T q'.1.1 q'.1.2 q'.2 u) → ∃ j, j < (bTags ds).length ∧ ∀ u, nodeF ds i (c :: u) = nodeF ds j u := fun q' hq' h => by
  obtain ⟨j, ej⟩ := List.mem_iff_getElem?.mp hq'
  refine ⟨j, by rw [← allNodes_len]; exact (gll ej), fun u => ?_⟩
  rw [nodeF_at eq, nodeF_at ej, h u]
 unfold allNodes at hq
 rcases List.mem_append.mp hq with hq | hq
 ·obtain ⟨hp, s0, s1⟩ := nodes_of hq
  obtain ⟨p, s⟩ := q
  replace s1 : s < p.2.length := s1
  replace s0 : 0 ≤ s := s0
  have A := hA p hp
  have hsame := A.same
  have g := A.goal (s := s) ⟨by lia, by lia⟩ c0 c1
  by_cases z : goalOf p.1 s c = -1
  ·have hd : deadRows ds ≠ [] := fun e => by
    obtain ⟨r, er, hl, hg⟩ := A.rowAt (s := s) s0 (by lia)
    obtain ⟨x, ex, hm⟩ := get_of_lt (l := r) (i := c.toNat) (by lia)
    have e1 : goalOf p.1 s c = x := by unfold goalOf; rw [if_neg (by lia), getD_of er, getD_of ex]
    have : r ∈ deadRows ds := List.mem_flatten.mpr ⟨_, List.mem_map.mpr ⟨p, hp, rfl⟩, List.mem_filter.mpr ⟨List.mem_of_getElem? er, by rw [decide_eq_true_eq, ← z, e1]; exact hm⟩⟩
    rw [e] at this; cases this
   refine fin (([], []), -1) ?_ fun u => ?_
   ·unfold allNodes; rw [if_neg hd]; exact List.mem_append_right _ (.head _)
   ·rw [T_cons, z, T_dead, T_dead]
  ·refine fin (p, goalOf p.1 s c) (List.mem_append_left _ (nodes_mem hp (by have := g.1; lia) (by rw [hsame]; exact g.2))) fun u => rfl
 ·split at hq
  ·cases hq
  ·rename_i hd
   rw [List.mem_singleton.mp hq] at fin
   refine fin (([], []), -1) ?_ fun u => ?_
   ·unfold allNodes; rw [if_neg hd]; exact List.mem_append_right _ (.head _)
   ·rw [T_dead, T_dead]
theorem bound_tells (hA : ∀ p, p ∈ ds → Aut w p.1 p.2) {p q : DF} (hp : p ∈ ds) (hq : q ∈ ds) {s t : Int} (s0 : 0 ≤ s) (s1 : s < p.1.length) (t0 : 0 ≤ t) (t1 : t < q.1.length)
  (h : ∀ u, WordOk w u → (u.length : Int) ≤ boundOf ds → T p.1 p.2 s u = T q.1 q.2 t u) : ∀ u, WordOk w u → T p.1 p.2 s u = T q.1 q.2 t u := by
 obtain ⟨i, ei⟩ := List.mem_iff_getElem?.mp (List.mem_append_left (if deadRows ds = [] then [] else [((([], []) : DF), (-1 : Int))]) (nodes_mem hp s0 (by rw [(hA p hp).same]; exact s1)))
 obtain ⟨j, ej⟩ := List.mem_iff_getElem?.mp (List.mem_append_left (if deadRows ds = [] then [] else [((([], []) : DF), (-1 : Int))]) (nodes_mem hq t0 (by rw [(hA q hq).same]; exact t1)))
 have ei : (allNodes ds)[i]? = some (p, s) := ei
 have ej : (allNodes ds)[j]? = some (q, t) := ej
 have hi := (gll ei)
 have hj := (gll ej)
 rw [allNodes_len] at hi hj
 have c0 := cnt_zero (w := w) (n := (bTags ds).length) (F := nodeF ds) (bTags ds) rfl fun k x e => by
  rw [← allNodes_tags, List.getElem?_map] at e
  obtain ⟨y, ey, rfl⟩ := Option.map_eq_some_iff.mp e
  rw [nodeF_at ey]; rfl
 have M := moore (nodes_closed hA) hi hj (fun u hu hl => by
  rw [nodeF_at ei, nodeF_at ej]
  refine h u hu ?_
  rw [c0] at hl
  unfold boundOf
  have := nubL_len (bTags ds) []
  simp at this
  lia +abstractProof)
 intro u hu
 have := M u hu
 rwa [nodeF_at ei, nodeF_at ej] at this
theorem boundOf_nonneg (ds : List DF) : 0 ≤ boundOf ds := by
 unfold boundOf
 have := nubL_len (bTags ds) []
 simp at this
 lia
theorem bTags_len (ds : List DF) : (bTags ds).length ≤ (allTags ds).length + 1 := by
 unfold bTags
 rw [List.length_append]
 split <;> simp
end Mine
set_option tactic.hygienic false
namespace Mine
theorem snoc_ind {α : Type} {P : List α → Prop} (h0 : P []) (h1 : ∀ l a, P l → P (l ++ [a])) : ∀ l, P l := by
 have : ∀ n (l : List α), l.length = n → P l := by
  intro n
  induction n with
  | zero => intro l h; rw [List.length_eq_zero_iff.mp h]; exact h0
  | succ n ih =>
   intro l h
   rcases snoc_cases l with rfl | ⟨l, a, rfl⟩
   ·cases h
   ·exact h1 l a (ih l (by simpa using h))
 exact fun l => this l.length l rfl
noncomputable def code (w : Nat) (u : List Int) : Int := u.foldl (fun a c => a * w + (c + 1)) 0
theorem code_snoc (w : Nat) (u : List Int) (c : Int) : code w (u ++ [c]) = code w u * w + (c + 1) := by unfold code; rw [List.foldl_append]; rfl
theorem WordOk.init {w : Nat} {u : List Int} {c : Int} (h : WordOk w (u ++ [c])) : WordOk w u ∧ 0 ≤ c ∧ c < w := ⟨fun x q => h x (List.mem_append_left _ q), h c (List.mem_append_right _ (.head _))⟩
theorem WordOk.push {w : Nat} {u : List Int} {c : Int} (h : WordOk w u) (h0 : 0 ≤ c) (h1 : c < w) : WordOk w (u ++ [c]) := fun x q => by
 rcases List.mem_append.mp q with q | q
 ·exact h x q
 ·rw [List.mem_singleton.mp q]; exact ⟨h0, h1⟩
theorem mul_mono {a b : Int} {w : Nat} (h : a ≤ b) : a * (w : Int) ≤ b * w := Int.mul_le_mul_of_nonneg_right h (by lia)
theorem code_nonneg {w : Nat} : ∀ u, WordOk w u → 0 ≤ code w u := by
 refine snoc_ind (fun za => by show (0 : Int) ≤ 0; lia) fun u c ih h => ?_
 have hc := h.init
 have := ih hc.1
 have m := mul_mono (w := w) this
 rw [code_snoc]
 lia
theorem code_inj {w : Nat} : ∀ u, WordOk w u → ∀ v, WordOk w v → code w u = code w v → u = v := by
 have cX : True := trivial
 revert w
 rintro w
 refine snoc_ind ?_ ?_
 ·rintro _ v hv e
  rcases snoc_cases v with rfl | ⟨v, c, rfl⟩
  ·rfl
  ·have hc := hv.init
   have h0 := code_nonneg v hc.1
   have m := mul_mono (w := w) h0
   rw [code_snoc] at e
   have : code w [] = 0 := rfl
   lia
 ·rintro u c ih hu v hv e
  have hc := hu.init
  rcases snoc_cases v with rfl | ⟨v, d, rfl⟩
  ·have h0 := code_nonneg u hc.1
   have m := mul_mono (w := w) h0
   rw [code_snoc] at e
   have : code w [] = 0 := rfl
   lia
  ·have hd := hv.init
   rw [code_snoc, code_snoc] at e
   have : code w u = code w v := by
    rcases Int.lt_trichotomy (code w u) (code w v) with q | q | q
    ·have m := mul_mono (w := w) (show code w u + 1 ≤ code w v by lia)
     rw [Int.add_mul] at m
     lia
    ·exact q
    ·have m := mul_mono (w := w) (show code w v + 1 ≤ code w u by lia)
     rw [Int.add_mul] at m
     lia
   have e1 := ih hc.1 v hd.1 this
   subst e1
   have : c = d := by lia
   rw [this]
theorem code_le_snoc {w : Nat} {u : List Int} {c : Int} (hw : 1 ≤ w) (hu : WordOk w u) (h0 : 0 ≤ c) : code w u ≤ code w (u ++ [c]) := by
 rw [code_snoc]
 have m := Int.mul_le_mul_of_nonneg_left (show (1 : Int) ≤ (w : Int) by lia +abstractProof) (code_nonneg u hu)
 lia +abstractProof
theorem exts_code (w : Nat) (u : List Int) : (exts w u).map (code w) = (List.range w).map fun c => code w u * w + (((c : Nat) : Int) + 1) := by
 unfold exts
 rw [List.map_map]
 exact List.map_congr_left fun c za => code_snoc w u c
theorem range_block (w b : Nat) : ∀ n, ((List.range n).map fun i => (List.range w).map fun c => ((b + i : Nat) : Int) * w + (((c : Nat) : Int) + 1)).flatten = (List.range (n * w)).map fun k => ((b : Nat) : Int) * w + 1 + ((k : Nat) : Int)
 | 0 => by simp
 | n + 1 => by
  rw [List.range_succ, List.map_append, List.flatten_append, range_block w b n, Nat.succ_mul, List.range_add, List.map_append]
  congr 1
  simp only [List.map_cons, List.map_nil, List.flatten_cons, List.flatten_nil, List.append_nil, List.map_map]
  refine List.map_congr_left fun c za => ?_
  show ((b + n : Nat) : Int) * w + ((c : Int) + 1) = (b : Int) * w + 1 + ((n * w + c : Nat) : Int)
  rw [Int.natCast_add, Int.natCast_add, Int.natCast_mul, Int.add_mul]
  lia
theorem words_code (w : Nat) : ∀ n, ∃ s : Nat, (level w n).map (code w) = (List.range (level w n).length).map (fun k => ((s + k : Nat) : Int)) ∧ (allWords w n).map (code w) = (List.range (s + (level w n).length)).map (fun k => ((k : Nat) : Int)) ∧ (allWords w n).length = s + (level w n).length ∧ s * w + 1 = s + (level w n).length
 | 0 => ⟨0, rfl, rfl, rfl, by simp [level]⟩
 | n + 1 => by
  obtain ⟨s, h1, h2, h3, h4⟩ := words_code w n
  have hl : (level w (n + 1)).map (code w) = (List.range ((level w n).length * w)).map fun k => ((s : Nat) : Int) * w + 1 + ((k : Nat) : Int) := by
   show ((level w n).map (exts w)).flatten.map (code w) = _
   rw [List.map_flatten, List.map_map]
   have : (level w n).map (List.map (code w) ∘ exts w) = ((level w n).map (code w)).map fun a => (List.range w).map fun c => a * w + (((c : Nat) : Int) + 1) := by
    rw [List.map_map]
    exact List.map_congr_left fun u za => exts_code w u
   rw [this, h1, List.map_map]
   exact range_block w s _
  have hlen : (level w (n + 1)).length = (level w n).length * w := by
   have := congrArg List.length hl
   simpa using this
  have h1' : (level w (n + 1)).map (code w) = (List.range (level w (n + 1)).length).map (fun k => ((s + (level w n).length + k : Nat) : Int)) := by
   rw [hl, hlen]
   refine List.map_congr_left fun k za => ?_
   have : ((s * w + 1 : Nat) : Int) = ((s + (level w n).length : Nat) : Int) := by rw [h4]
   rw [Int.natCast_add, Int.natCast_mul] at this
   lia
  refine ⟨s + (level w n).length, h1', ?_, ?_, ?_⟩
  ·show ((allWords w n) ++ level w (n + 1)).map (code w) = _
   have ra : List.range (s + (level w n).length + (level w (n + 1)).length) = List.range (s + (level w n).length) ++ (List.range (level w (n + 1)).length).map (s + (level w n).length + ·) := List.range_add ..
   rw [List.map_append, h2, h1', ra, List.map_append, List.map_map]
   rfl
  ·show ((allWords w n) ++ level w (n + 1)).length = _
   rw [List.length_append, h3]
  ·rw [hlen, Nat.add_mul]; lia
theorem word_at {w n i : Nat} {u : List Int} (e : (allWords w n)[i]? = some u) : code w u = (i : Int) := by
 obtain ⟨s, _, h2, h3, _⟩ := words_code w n
 have hi := (gll e)
 have := congrArg (fun l => l[i]?) h2
 simp only [List.getElem?_map, e] at this
 rw [List.getElem?_range (by lia +abstractProof)] at this
 simpa using this
theorem find_least {w n : Nat} {p : List Int → Bool} {u : List Int} (hu : WordOk w u) (hp : p u = true) (hl : ∀ v, WordOk w v → p v = true → code w u ≤ code w v) (hn : ∃ v, v.length ≤ n ∧ WordOk w v ∧ p v = true) : (allWords w n).find? p = some u := by
 have cX : True := trivial
 revert w n p u hu hp hl hn
 rintro w n p u hu hp hl hn
 obtain ⟨v, hv1, hv2, hv3⟩ := hn
 obtain ⟨j, ej⟩ := List.mem_iff_getElem?.mp (all_mem hv1 hv2)
 cases hf : (allWords w n).find? p with
 | none => exact absurd hv3 (by have := List.find?_eq_none.mp hf v (List.mem_of_getElem? ej); simpa using this)
 | some x =>
  obtain ⟨hx, i, hi, ei, hmin⟩ := List.find?_eq_some_iff_getElem.mp hf
  have hxo := all_ok (List.mem_of_find?_eq_some hf)
  have ci := word_at (List.getElem?_eq_some_iff.mpr ⟨hi, ei⟩)
  have cj := word_at ej
  have h1 := hl x hxo hx
  have hj := (gll ej)
  have c0 := code_nonneg u hu
  have huj := hl v hv2 hv3
  obtain ⟨y, ey, _⟩ := get_of_lt (l := allWords w n) (i := (code w u).toNat) (by lia)
  have cy := word_at ey
  have : y = u := code_inj y (all_ok (List.mem_of_getElem? ey)) u hu (by lia)
  subst this
  have : i ≤ (code w y).toNat := by
   by_cases q : (code w y).toNat < i
   ·have := hmin _ q
    obtain ⟨h3, h4⟩ := List.getElem?_eq_some_iff.mp ey
    rw [h4, hp] at this; cases this
   ·lia
  congr 1
  exact code_inj x hxo y hu (by lia)
theorem len_le_of_find {w n : Nat} {p : List Int → Bool} {u : List Int} (h : (allWords w n).find? p = some u) : u.length ≤ n := all_len (List.mem_of_find?_eq_some h)
structure Bfs (w : Nat) (r1 t1 r2 t2 : List (List Int)) (ps fr : List (Int × Int)) (ws : List (List Int)) (at_ c : Nat) : Prop where
 lf : fr.length = ps.length
 lw : ws.length = ps.length
 start : ps[0]? = some (0, 0) ∧ ws[0]? = some [] ∧ fr[0]? = some (-1, -1)
 ok : ∀ (i : Nat) p u, ps[i]? = some p → ws[i]? = some u → At r1 p.1 ∧ At r2 p.2 ∧ WordOk w u ∧ runOf r1 0 u = p.1 ∧ runOf r2 0 u = p.2
 back : ∀ (i : Nat) f u, 0 < i → fr[i]? = some f → ws[i]? = some u → ∃ (j : Nat) (v : List Int), f.1 = (j : Int) ∧ j < i ∧ ws[j]? = some v ∧ u = v ++ [f.2]
 nd : ps.Nodup
 sorted : ∀ (i j : Nat) u v, i < j → ws[i]? = some u → ws[j]? = some v → code w u < code w v
 same : ∀ (i : Nat) p, i < at_ → ps[i]? = some p → tagOf t1 p.1 = tagOf t2 p.2
 next : ∀ (i : Nat) p u, ps[i]? = some p → ws[i]? = some u → ∀ x : Int, 0 ≤ x → x < w → (i < at_ ∨ (i = at_ ∧ x < c)) → ∃ (k : Nat) (v : List Int), ps[k]? = some (goalOf r1 p.1 x, goalOf r2 p.2 x) ∧ ws[k]? = some v ∧ code w v ≤ code w (u ++ [x])
 top : ∀ (i : Nat) u v, ws[i]? = some u → ws[at_]? = some v → code w u < code w (v ++ [(c : Int)])
variable {w : Nat} {r1 t1 r2 t2 : List (List Int)} {ps fr : List (Int × Int)} {ws : List (List Int)} {at_ c : Nat}
theorem Bfs.init (h1 : 1 ≤ r1.length) (h2 : 1 ≤ r2.length) : Bfs w r1 t1 r2 t2 [(0, 0)] [(-1, -1)] [[]] 0 0 := by
 have one : ∀ {α : Type} {i : Nat} {a b : α}, [a][i]? = some b → i = 0 ∧ b = a := fun {α i a b} e => by
  cases i with
  | zero => exact ⟨rfl, by simpa using e.symm⟩
  | succ i => simp at e
 refine ⟨rfl, rfl, ⟨rfl, rfl, rfl⟩, ?_, ?_, by simp, ?_, ?_, ?_, ?_⟩
 ·intro i p u e1 e2
  obtain ⟨rfl, rfl⟩ := one e1
  obtain ⟨_, rfl⟩ := one e2
  exact ⟨⟨by lia, by lia⟩, ⟨by lia, by lia⟩, (fun c q => by cases q), rfl, rfl⟩
 ·intro i f u hi e1 e2
  obtain ⟨rfl, _⟩ := one e1
  lia
 ·intro i j u v hij e1 e2
  have := (one e1).1
  have := (one e2).1
  lia
 ·intro i p hi; lia
 ·intro i p u e1 e2 x x0 x1 h; lia
 ·intro i u v e1 e2
  obtain ⟨_, rfl⟩ := one e1
  obtain ⟨_, rfl⟩ := one e2
  rw [code_snoc]
  show (0 : Int) < 0 * w + (((0 : Nat) : Int) + 1)
  lia
theorem Bfs.old (B : Bfs w r1 t1 r2 t2 ps fr ws at_ c) {p : Int × Int} {u : List Int} (ep : ps[at_]? = some p) (eu : ws[at_]? = some u) (hm : (goalOf r1 p.1 c, goalOf r2 p.2 c) ∈ ps) : Bfs w r1 t1 r2 t2 ps fr ws at_ (c + 1) := by
 have cX : True := trivial
 revert w r1 t1 r2 t2 ps fr ws at_ c B p u ep eu hm
 rintro w r1 t1 r2 t2 ps fr ws at_ c B p u ep eu hm
 refine ⟨B.lf, B.lw, B.start, B.ok, B.back, B.nd, B.sorted, B.same, fun i q v e1 e2 x x0 x1 h => ?_, fun i v v' e1 e2 => ?_⟩
 ·by_cases z : i < at_ ∨ (i = at_ ∧ x < c)
  ·exact B.next i q v e1 e2 x x0 x1 z
  ·have hi : i = at_ := by lia
   have hx : x = c := by lia
   subst hi hx
   rw [ep] at e1; cases e1
   rw [eu] at e2; cases e2
   obtain ⟨k, ek⟩ := List.mem_iff_getElem?.mp hm
   obtain ⟨v, ev, _⟩ := get_of_lt (l := ws) (i := k) (by rw [B.lw]; exact (gll ek))
   exact ⟨k, v, ek, ev, Int.le_of_lt (B.top k v u ev eu)⟩
 ·have := B.top i v v' e1 e2
  rw [code_snoc] at this ⊢
  lia
theorem Bfs.new (B : Bfs w r1 t1 r2 t2 ps fr ws at_ c) (A1 : Aut w r1 t1) (A2 : Aut w r2 t2) {p : Int × Int} {u : List Int} (ep : ps[at_]? = some p) (eu : ws[at_]? = some u) (hc : (c : Int) < w) (hm : (goalOf r1 p.1 c, goalOf r2 p.2 c) ∉ ps) :
  Bfs w r1 t1 r2 t2 (ps ++ [(goalOf r1 p.1 c, goalOf r2 p.2 c)]) (fr ++ [((at_ : Int), (c : Int))]) (ws ++ [u ++ [(c : Int)]]) at_ (c + 1) := by
 have cX : True := trivial
 revert w r1 t1 r2 t2 ps fr ws at_ c B A1 A2 p u ep eu hc hm
 rintro w r1 t1 r2 t2 ps fr ws at_ c B A1 A2 p u ep eu hc hm
 have hat := (gll ep)
 have lw := B.lw
 have lf := B.lf
 have okp := B.ok at_ p u ep eu
 refine ⟨by simp [lf], by simp [lw], ⟨get_left B.start.1, get_left B.start.2.1, get_left B.start.2.2⟩, ?_, ?_, ?_, ?_, ?_, ?_, ?_⟩
 ·rintro i q v e1 e2
  rcases get_snoc e1 with e1 | ⟨hi, rfl⟩
  ·rcases get_snoc e2 with e2 | ⟨hj, rfl⟩
   ·exact B.ok i q v e1 e2
   ·have := (gll e1); lia
  ·rcases get_snoc e2 with e2 | ⟨hj, rfl⟩
   ·have := (gll e2); lia
   ·refine ⟨A1.goal okp.1 (by lia) hc, A2.goal okp.2.1 (by lia) hc, okp.2.2.1.push (by lia) hc, ?_, ?_⟩
    ·rw [runOf_append, okp.2.2.2.1]; rfl
    ·rw [runOf_append, okp.2.2.2.2]; rfl
 ·rintro i f v hi e1 e2
  rcases get_snoc e1 with e1 | ⟨hi2, rfl⟩
  ·rcases get_snoc e2 with e2 | ⟨hj, rfl⟩
   ·obtain ⟨j, y, a, b, c', d⟩ := B.back i f v hi e1 e2
    exact ⟨j, y, a, b, get_left c', d⟩
   ·have := (gll e1); lia
  ·rcases get_snoc e2 with e2 | ⟨hj, rfl⟩
   ·have := (gll e2); lia
   ·exact ⟨at_, u, rfl, by lia, get_left eu, rfl⟩
 ·rw [List.nodup_append]
  exact ⟨B.nd, by simp, fun a ha b hb => by rw [List.mem_singleton.mp hb]; intro q; exact hm (q ▸ ha)⟩
 ·rintro i j v v' hij e1 e2
  rcases get_snoc e2 with e2 | ⟨hj, rfl⟩
  ·rcases get_snoc e1 with e1 | ⟨hi, rfl⟩
   ·exact B.sorted i j v v' hij e1 e2
   ·have := (gll e2); lia
  ·rcases get_snoc e1 with e1 | ⟨hi, rfl⟩
   ·exact B.top i v u e1 eu
   ·lia
 ·rintro i q hi e1
  rcases get_snoc e1 with e1 | ⟨hi2, rfl⟩
  ·exact B.same i q hi e1
  ·lia
 ·rintro i q v e1 e2 x x0 x1 h
  rcases get_snoc e1 with e1 | ⟨hi2, rfl⟩
  ·rcases get_snoc e2 with e2 | ⟨hj, rfl⟩
   ·by_cases z : i < at_ ∨ (i = at_ ∧ x < c)
    ·obtain ⟨k, y, a, b, d⟩ := B.next i q v e1 e2 x x0 x1 z
     exact ⟨k, y, get_left a, get_left b, d⟩
    ·have hi : i = at_ := by lia
     have hx : x = c := by lia
     subst hi hx
     rw [ep] at e1; cases e1
     rw [eu] at e2; cases e2
     exact ⟨ps.length, _, List.getElem?_concat_length .., by rw [← lw]; exact List.getElem?_concat_length .., Int.le_refl _⟩
   ·have := (gll e1); lia
  ·lia
 ·rintro i v v' e1 e2
  have ev : v' = u := by
   rcases get_snoc e2 with e2 | ⟨hj, rfl⟩
   ·rw [eu] at e2; cases e2; rfl
   ·lia
  subst ev
  rcases get_snoc e1 with e1 | ⟨hi, rfl⟩
  ·have := B.top i v v' e1 eu
   rw [code_snoc] at this ⊢
   lia
  ·rw [code_snoc, code_snoc]; lia
theorem Bfs.up (B : Bfs w r1 t1 r2 t2 ps fr ws at_ w) {p : Int × Int} (ep : ps[at_]? = some p) (hs : tagOf t1 p.1 = tagOf t2 p.2) : Bfs w r1 t1 r2 t2 ps fr ws (at_ + 1) 0 := by
 have cX : True := trivial
 revert w r1 t1 r2 t2 ps fr ws at_ B p ep hs
 rintro w r1 t1 r2 t2 ps fr ws at_ B p ep hs
 obtain ⟨u, eu, _⟩ := get_of_lt (l := ws) (i := at_) (by rw [B.lw]; exact (gll ep))
 refine ⟨B.lf, B.lw, B.start, B.ok, B.back, B.nd, B.sorted, fun i q hi e => ?_, fun i q v e1 e2 x x0 x1 h => B.next i q v e1 e2 x x0 x1 (by lia), fun i v v' e1 e2 => ?_⟩
 ·by_cases z : i < at_
  ·exact B.same i q z e
  ·have : i = at_ := by lia
   subst this
   rw [ep] at e; cases e; exact hs
 ·have h1 := B.top i v u e1 eu
  have h2 := B.sorted at_ (at_ + 1) u v' (by lia) eu e2
  rw [code_snoc] at h1 ⊢
  have m := mul_mono (w := w) (show code w u + 1 ≤ code w v' by lia)
  rw [Int.add_mul] at m
  lia
theorem Bfs.claim (B : Bfs w r1 t1 r2 t2 ps fr ws at_ 0) (hw : 1 ≤ w) : ∀ v, WordOk w v → (∃ (q : Nat) (p : Int × Int) (y : List Int), ps[q]? = some p ∧ ws[q]? = some y ∧ p = (runOf r1 0 v, runOf r2 0 v) ∧ code w y ≤ code w v) ∨ (∃ y, ws[at_]? = some y ∧ code w y ≤ code w v) := by
 have cX : True := trivial
 revert w r1 t1 r2 t2 ps fr ws at_ B hw
 rintro w r1 t1 r2 t2 ps fr ws at_ B hw
 refine snoc_ind ?_ ?_
 ·rintro _
  exact .inl ⟨0, (0, 0), [], B.start.1, B.start.2.1, rfl, Int.le_refl _⟩
 ·rintro v c ih hv
  have hc := hv.init
  rcases ih hc.1 with ⟨q, p, y, e1, e2, rfl, h⟩ | ⟨y, e, h⟩
  ·by_cases z : q < at_
   ·obtain ⟨k, y', a, b, d⟩ := B.next q _ y e1 e2 c hc.2.1 hc.2.2 (.inl z)
    refine .inl ⟨k, _, y', a, b, ?_, Int.le_trans d ?_⟩
    ·rw [runOf_append, runOf_append]; rfl
    ·rw [code_snoc, code_snoc]
     have := mul_mono (w := w) h
     lia
   ·have hql := (gll e2)
    obtain ⟨y', ey', _⟩ := get_of_lt (l := ws) (i := at_) (by lia)
    refine .inr ⟨y', ey', Int.le_trans ?_ (Int.le_trans h (code_le_snoc hw hc.1 hc.2.1))⟩
    by_cases z2 : q = at_
    ·subst z2; rw [e2] at ey'; cases ey'; exact Int.le_refl _
    ·exact Int.le_of_lt (B.sorted at_ q y' y (by lia) ey' e2)
  ·exact .inr ⟨y, e, Int.le_trans h (code_le_snoc hw hc.1 hc.2.1)⟩
theorem Bfs.least (B : Bfs w r1 t1 r2 t2 ps fr ws at_ 0) (hw : 1 ≤ w) {y : List Int} (ey : ws[at_]? = some y) (u : List Int) (hu : WordOk w u) (hT : T r1 t1 0 u ≠ T r2 t2 0 u) : code w y ≤ code w u := by
 have cX : True := trivial
 revert w r1 t1 r2 t2 ps fr ws at_ B hw y ey u hu hT
 rintro w r1 t1 r2 t2 ps fr ws at_ B hw y ey u hu hT
 rcases B.claim hw u hu with ⟨q, p, y', e1, e2, rfl, h⟩ | ⟨y', e, h⟩
 ·by_cases z : q < at_
  ·exact absurd (B.same q _ z e1) hT
  ·by_cases z2 : q = at_
   ·subst z2; rw [ey] at e2; cases e2; exact h
   ·exact Int.le_trans (Int.le_of_lt (B.sorted at_ q y y' (by lia +abstractProof) ey e2)) h
 ·rw [ey] at e; cases e; exact h
theorem Bfs.none (B : Bfs w r1 t1 r2 t2 ps fr ws ps.length 0) (hw : 1 ≤ w) (u : List Int) (hu : WordOk w u) : T r1 t1 0 u = T r2 t2 0 u := by
 have cX : True := trivial
 revert w r1 t1 r2 t2 ps fr ws B hw u hu
 rintro w r1 t1 r2 t2 ps fr ws B hw u hu
 rcases B.claim hw u hu with ⟨q, p, y', e1, e2, rfl, h⟩ | ⟨y', e, h⟩
 ·exact B.same q _ (gll e1) e1
 ·have := (gll e)
  rw [B.lw] at this; lia
end Mine
set_option tactic.hygienic false
namespace Mine
noncomputable def kpr (a b : Int) : List Int := [if b < a then b else a, if b > a then b else a]
noncomputable def Dk (w : Nat) (rows tags : List (List Int)) (k : Nat) (l h : Int) : Prop := ∃ u, WordOk w u ∧ u.length ≤ k ∧ T rows tags l u ≠ T rows tags h u
noncomputable def Best (w : Nat) (rows tags : List (List Int)) (l h : Int) (u : List Int) : Prop := WordOk w u ∧ T rows tags l u ≠ T rows tags h u ∧ ∀ v, WordOk w v → T rows tags l v ≠ T rows tags h v → u.length ≤ v.length
theorem Dk.symm {w rows tags k l h} (d : Dk w rows tags k l h) : Dk w rows tags k h l := let ⟨u, a, b, c⟩ := d; ⟨u, a, b, fun e => c e.symm⟩
theorem Best.symm {w rows tags l h u} (d : Best w rows tags l h u) : Best w rows tags h l u := ⟨d.1, fun e => d.2.1 e.symm, fun v hv hT => d.2.2 v hv fun e => hT e.symm⟩
structure WaI (w : Nat) (rows tags : List (List Int)) (k : Nat) (ks ws : List (List Int)) (wt : List (Int × Int)) : Prop where
 len : ws.length = ks.length
 nd : ks.Nodup
 keys : ∀ key, key ∈ ks ↔ ∃ l h : Int, key = [l, h] ∧ 0 ≤ l ∧ l < h ∧ h < rows.length ∧ Dk w rows tags k l h
 word : ∀ (i : Nat) l h u, ks[i]? = some [l, h] → ws[i]? = some u → Best w rows tags l h u
 wnd : wt.Nodup
 wts : ∀ p : Int × Int, p ∈ wt ↔ 0 ≤ p.1 ∧ p.1 < p.2 ∧ p.2 < rows.length ∧ ¬ Dk w rows tags k p.1 p.2
variable {w : Nat} {rows tags : List (List Int)} {k : Nat} {ks ws : List (List Int)} {wt : List (Int × Int)}
theorem WaI.key (I : WaI w rows tags k ks ws wt) (A : Full w rows tags) {a b : Int} (a0 : 0 ≤ a) (a1 : a < rows.length) (b0 : 0 ≤ b) (b1 : b < rows.length) : kpr a b ∈ ks ↔ Dk w rows tags k a b := by
 have cX : True := trivial
 revert w rows tags k ks ws wt I A a b a0 a1 b0 b1
 rintro w rows tags k ks ws wt I A a b a0 a1 b0 b1
 rw [I.keys]
 constructor
 ·rintro ⟨l, h, e, l0, lh, h1, d⟩
  unfold kpr at e
  injection e with e1 e2
  injection e2 with e2 _
  by_cases q : b < a
  ·rw [if_pos q] at e1
   rw [if_neg (by lia)] at e2
   subst e1 e2; exact d.symm
  ·rw [if_neg q] at e1
   by_cases q2 : b > a
   ·rw [if_pos q2] at e2
    subst e1 e2; exact d
   ·rw [if_neg q2] at e2
    lia
 ·rintro d
  have hne : a ≠ b := fun e => by
   subst e
   obtain ⟨u, _, _, hT⟩ := d
   exact hT rfl
  unfold kpr
  by_cases q : b < a
  ·exact ⟨b, a, by rw [if_pos q, if_neg (by lia)], b0, q, a1, d.symm⟩
  ·exact ⟨a, b, by rw [if_neg q, if_pos (by lia)], a0, by lia, b1, d⟩
noncomputable def Way (w : Nat) (rows : List (List Int)) (ks : List (List Int)) (l h c : Int) : Prop := (c = -1 ∧ ∀ x : Int, 0 ≤ x → x < w → kpr (goalOf rows l x) (goalOf rows h x) ∉ ks) ∨ (0 ≤ c ∧ c < w ∧ kpr (goalOf rows l c) (goalOf rows h c) ∈ ks)
theorem WaI.no (I : WaI w rows tags k ks ws wt) (A : Full w rows tags) {p : Int × Int} (hp : p ∈ wt) (hw : ∀ x : Int, 0 ≤ x → x < w → kpr (goalOf rows p.1 x) (goalOf rows p.2 x) ∉ ks) : ¬ Dk w rows tags (k + 1) p.1 p.2 := by
 obtain ⟨l0, lh, h1, nd⟩ := (I.wts p).mp hp
 rintro ⟨u, hu, hl, hT⟩
 cases u with
 | nil => exact nd ⟨[], hu, by simp, hT⟩
 | cons c u =>
  have hc := hu c (.head _)
  have g1 := A.goal0 (s := p.1) l0 (by lia +abstractProof) hc.1 hc.2
  have g2 := A.goal0 (s := p.2) (by lia +abstractProof) h1 hc.1 hc.2
  exact hw c hc.1 hc.2 ((I.key A g1.1 g1.2 g2.1 g2.2).mpr ⟨u, hu.tail, by simpa using hl, hT⟩)
theorem WaI.yes (I : WaI w rows tags k ks ws wt) (A : Full w rows tags) {p : Int × Int} (hp : p ∈ wt) {c : Int} (c0 : 0 ≤ c) (c1 : c < w) {i : Nat} {u : List Int} (ei : ks[i]? = some (kpr (goalOf rows p.1 c) (goalOf rows p.2 c))) (eu : ws[i]? = some u) :
  Best w rows tags p.1 p.2 (c :: u) ∧ Dk w rows tags (k + 1) p.1 p.2 := by
 have cX : True := trivial
 revert w rows tags k ks ws wt I A p hp c c0 c1 i u ei eu
 rintro w rows tags k ks ws wt I A p hp c c0 c1 i u ei eu
 obtain ⟨l0, lh, h1, nd⟩ := (I.wts p).mp hp
 have g1 := A.goal0 (s := p.1) l0 (by lia) c0 c1
 have g2 := A.goal0 (s := p.2) (by lia) h1 c0 c1
 have B0 := I.word i _ _ u ei eu
 have B : Best w rows tags (goalOf rows p.1 c) (goalOf rows p.2 c) u := by
  by_cases q : goalOf rows p.2 c < goalOf rows p.1 c
  ·rw [if_pos q, if_neg (by lia)] at B0; exact B0.symm
  ·rw [if_neg q] at B0
   by_cases q2 : goalOf rows p.2 c > goalOf rows p.1 c
   ·rw [if_pos q2] at B0; exact B0
   ·rw [if_neg q2] at B0; exact absurd rfl B0.2.1
 obtain ⟨v, hv, hvl, hvT⟩ := (I.key A g1.1 g1.2 g2.1 g2.2).mp (List.mem_of_getElem? ei)
 have hul := B.2.2 v hv hvT
 have hok : WordOk w (c :: u) := fun x q => by
  rcases List.mem_cons.mp q with rfl | q
  ·exact ⟨c0, c1⟩
  ·exact B.1 x q
 refine ⟨⟨hok, B.2.1, fun y hy hyT => ?_⟩, ⟨c :: u, hok, by simp; lia, B.2.1⟩⟩
 have : ¬ y.length ≤ k := fun q => nd ⟨y, hy, q, hyT⟩
 simp only [List.length_cons]
 lia
structure Rnd (w : Nat) (rows tags : List (List Int)) (k : Nat) (wt : List (Int × Int)) (i : Nat) (fs : List ((Int × Int) × List Int)) (st : List (Int × Int)) : Prop where
 len : fs.length + st.length = i
 fin : ∀ q, q ∈ fs → q.1 ∈ wt.take i ∧ Best w rows tags q.1.1 q.1.2 q.2 ∧ Dk w rows tags (k + 1) q.1.1 q.1.2
 all : ∀ p, p ∈ wt.take i → Dk w rows tags (k + 1) p.1 p.2 → p ∈ fs.map (·.1)
 fnd : (fs.map (·.1)).Nodup
 stn : st.Nodup
 sti : ∀ p, p ∈ st ↔ p ∈ wt.take i ∧ ¬ Dk w rows tags (k + 1) p.1 p.2
variable {i : Nat} {fs : List ((Int × Int) × List Int)} {st : List (Int × Int)}
theorem Rnd.start : Rnd w rows tags k wt 0 [] [] := ⟨rfl, (fun q h => by cases h), (fun p h => by simp at h), by simp, by simp, fun p => ⟨(fun h => by cases h), fun h => by simp at h⟩⟩
theorem take_mem {p : Int × Int} (e : wt[i]? = some p) {x : Int × Int} : x ∈ wt.take (i + 1) ↔ x ∈ wt.take i ∨ x = p := by
 rw [List.take_add_one, e]; simp
theorem take_not {p : Int × Int} (nd : wt.Nodup) (e : wt[i]? = some p) : p ∉ wt.take i := fun q => by
 obtain ⟨j, hj⟩ := List.mem_iff_getElem?.mp q
 rw [List.getElem?_take] at hj
 split at hj
 ·have := nodup_inj nd hj e; lia
 ·cases hj
theorem Rnd.still {p : Int × Int} (R : Rnd w rows tags k wt i fs st) (nd : wt.Nodup) (e : wt[i]? = some p) (hn : ¬ Dk w rows tags (k + 1) p.1 p.2) : Rnd w rows tags k wt (i + 1) fs (st ++ [p]) where
 len := by have := R.len; simp; lia +abstractProof
 fin := fun q hq => let h := R.fin q hq; ⟨(take_mem e).mpr (.inl h.1), h.2⟩
 all := fun x hx hd => by
  rcases (take_mem e).mp hx with q | rfl
  ·exact R.all x q hd
  ·exact absurd hd hn
 fnd := R.fnd
 stn := by
  rw [List.nodup_append]
  exact ⟨R.stn, by simp, fun a ha b hb => by rw [List.mem_singleton.mp hb]; intro q; subst q; exact take_not nd e ((R.sti a).mp ha).1⟩
 sti := fun x => by
  rw [List.mem_append, R.sti, take_mem e, List.mem_singleton]
  constructor
  ·rintro (⟨a, b⟩ | rfl)
   ·exact ⟨.inl a, b⟩
   ·exact ⟨.inr rfl, hn⟩
  ·rintro ⟨a | a, b⟩
   ·exact .inl ⟨a, b⟩
   ·exact .inr a
theorem Rnd.found {p : Int × Int} {u : List Int} (R : Rnd w rows tags k wt i fs st) (nd : wt.Nodup) (e : wt[i]? = some p) (hb : Best w rows tags p.1 p.2 u) (hd : Dk w rows tags (k + 1) p.1 p.2) : Rnd w rows tags k wt (i + 1) (fs ++ [(p, u)]) st where
 len := by have := R.len; simp; lia
 fin := fun q hq => by
  rcases List.mem_append.mp hq with hq | hq
  ·have h := R.fin q hq; exact ⟨(take_mem e).mpr (.inl h.1), h.2⟩
  ·rw [List.mem_singleton.mp hq]; exact ⟨(take_mem e).mpr (.inr rfl), hb, hd⟩
 all := fun x hx hdx => by
  rw [List.map_append, List.mem_append]
  rcases (take_mem e).mp hx with q | rfl
  ·exact .inl (R.all x q hdx)
  ·exact .inr (.head _)
 fnd := by
  rw [List.map_append, List.nodup_append]
  refine ⟨R.fnd, by simp, fun a ha b hb => ?_⟩
  obtain ⟨q, hq, rfl⟩ := List.mem_map.mp ha
  rw [List.mem_singleton.mp hb]
  intro z
  have z : q.1 = p := z
  exact take_not nd e (z ▸ (R.fin q hq).1)
 stn := R.stn
 sti := fun x => by
  rw [R.sti, take_mem e]
  constructor
  ·rintro ⟨a, b⟩; exact ⟨.inl a, b⟩
  ·rintro ⟨a | rfl, b⟩
   ·exact ⟨a, b⟩
   ·exact absurd hd b
noncomputable def fk (q : (Int × Int) × List Int) : List Int := [q.1.1, q.1.2]
theorem WaI.round (I : WaI w rows tags k ks ws wt) (R : Rnd w rows tags k wt wt.length fs st) : WaI w rows tags (k + 1) (ks ++ fs.map fk) (ws ++ fs.map (·.2)) st ∧ st.length + fs.length = wt.length := by
 have cX : True := trivial
 revert w rows tags k ks ws wt fs st I R
 rintro w rows tags k ks ws wt fs st I R
 have fin := R.fin
 have all := R.all
 have sti := R.sti
 rw [List.take_length] at fin all sti
 have up : ∀ l h, Dk w rows tags k l h → Dk w rows tags (k + 1) l h := fun l h ⟨u, a, b, c⟩ => ⟨u, a, by lia +abstractProof, c⟩
 refine ⟨⟨by simp [I.len], ?_, ?_, ?_, R.stn, ?_⟩, by have := R.len; lia +abstractProof⟩
 ·rw [List.nodup_append]
  refine ⟨I.nd, ?_, ?_⟩
  ·have := R.fnd
   rw [List.Nodup, List.pairwise_map] at this ⊢
   refine this.imp fun {a b} h e => h ?_
   unfold fk at e
   injection e with e1 e2
   injection e2 with e2 _
   exact Prod.ext e1 e2
  ·rintro a ha b hb e
   subst e
   obtain ⟨q, hq, rfl⟩ := List.mem_map.mp hb
   obtain ⟨l, h, e, l0, lh, h1, d⟩ := (I.keys _).mp ha
   unfold fk at e
   injection e with e1 e2
   injection e2 with e2 _
   subst e1 e2
   exact ((I.wts q.1).mp (fin q hq).1).2.2.2 d
 ·rintro key
  rw [List.mem_append, I.keys]
  constructor
  ·rintro (⟨l, h, e, l0, lh, h1, d⟩ | hm)
   ·exact ⟨l, h, e, l0, lh, h1, up _ _ d⟩
   ·obtain ⟨q, hq, rfl⟩ := List.mem_map.mp hm
    have := fin q hq
    have hw := (I.wts q.1).mp this.1
    exact ⟨q.1.1, q.1.2, rfl, hw.1, hw.2.1, hw.2.2.1, this.2.2⟩
  ·rintro ⟨l, h, rfl, l0, lh, h1, d⟩
   by_cases dk : Dk w rows tags k l h
   ·exact .inl ⟨l, h, rfl, l0, lh, h1, dk⟩
   ·have hm := all (l, h) ((I.wts (l, h)).mpr ⟨l0, lh, h1, dk⟩) d
    obtain ⟨q, hq, e⟩ := List.mem_map.mp hm
    exact .inr (List.mem_map.mpr ⟨q, hq, by unfold fk; rw [e]⟩)
 ·rintro j l h u ej eu
  by_cases hj : j < ks.length
  ·rw [List.getElem?_append_left hj] at ej
   rw [List.getElem?_append_left (by rw [I.len]; exact hj)] at eu
   exact I.word j l h u ej eu
  ·rw [List.getElem?_append_right (by lia +abstractProof), List.getElem?_map] at ej
   rw [List.getElem?_append_right (by rw [I.len]; lia +abstractProof), List.getElem?_map, I.len] at eu
   obtain ⟨q, eq, e1⟩ := Option.map_eq_some_iff.mp ej
   rw [eq] at eu
   simp only [Option.map_some, Option.some.injEq] at eu
   subst eu
   unfold fk at e1
   injection e1 with e1 e2
   injection e2 with e2 _
   subst e1 e2
   exact (fin q (List.mem_of_getElem? eq)).2.1
 ·rintro p
  rw [sti, I.wts]
  constructor
  ·rintro ⟨⟨a, b, c, _⟩, e⟩; exact ⟨a, b, c, e⟩
  ·rintro ⟨a, b, c, e⟩; exact ⟨⟨a, b, c, fun d => e (up _ _ d)⟩, e⟩
theorem WaI.last (I : WaI w rows tags k ks ws wt) (A : Full w rows tags) (R : Rnd w rows tags k wt wt.length [] st) : ∀ l h : Int, 0 ≤ l → l < rows.length → 0 ≤ h → h < rows.length → Diff w rows tags l h → Dk w rows tags k l h := by
 have all := R.all
 rw [List.take_length] at all
 have one : ∀ l h : Int, 0 ≤ l → l < rows.length → 0 ≤ h → h < rows.length → Dk w rows tags (k + 1) l h → Dk w rows tags k l h := by
  have lt : ∀ l h : Int, 0 ≤ l → l < h → h < rows.length → Dk w rows tags (k + 1) l h → Dk w rows tags k l h := fun l h l0 lh h1 d => by
   by_cases dk : Dk w rows tags k l h
   ·exact dk
   ·have := all (l, h) ((I.wts (l, h)).mpr ⟨l0, lh, h1, dk⟩) d
    cases this
  intro l h l0 l1 h0 h1 d
  rcases Int.lt_trichotomy l h with q | q | q
  ·exact lt l h l0 q h1 d
  ·subst q
   obtain ⟨u, _, _, hT⟩ := d
   exact absurd rfl hT
  ·exact (lt h l h0 q l1 d.symm).symm
 have main : ∀ (u : List Int) (l h : Int), 0 ≤ l → l < rows.length → 0 ≤ h → h < rows.length → WordOk w u → T rows tags l u ≠ T rows tags h u → Dk w rows tags k l h := by
  intro u
  induction u with
  | nil => intro l h l0 l1 h0 h1 hu hT; exact ⟨[], hu, by simp, hT⟩
  | cons c u ih =>
   intro l h l0 l1 h0 h1 hu hT
   have hc := hu c (.head _)
   have g1 := A.goal0 l0 l1 hc.1 hc.2
   have g2 := A.goal0 h0 h1 hc.1 hc.2
   obtain ⟨v, hv, hvl, hvT⟩ := ih _ _ g1.1 g1.2 g2.1 g2.2 hu.tail hT
   refine one l h l0 l1 h0 h1 ⟨c :: v, fun x q => ?_, by simp; lia, hvT⟩
   rcases List.mem_cons.mp q with rfl | q
   ·exact hc
   ·exact hv x q
 intro l h l0 l1 h0 h1 ⟨u, hu, hT⟩
 exact main u l h l0 l1 h0 h1 hu hT
noncomputable def prs : Nat → List (Int × Int)
 | 0 => []
 | n + 1 => prs n ++ (List.range n).map fun l => (((l : Nat) : Int), ((n : Nat) : Int))
theorem prs_mem {n : Nat} {p : Int × Int} : p ∈ prs n ↔ 0 ≤ p.1 ∧ p.1 < p.2 ∧ p.2 < n := by
 induction n with
 | zero => simp [prs]; lia
 | succ n ih =>
  rw [prs, List.mem_append, ih, List.mem_map]
  constructor
  ·rintro (h | ⟨l, hl, rfl⟩)
   ·exact ⟨h.1, h.2.1, Int.lt_trans h.2.2 (Int.ofNat_lt.mpr (Nat.lt_succ_self _))⟩
   ·exact ⟨Int.natCast_nonneg _, Int.ofNat_lt.mpr (List.mem_range.mp hl), Int.ofNat_lt.mpr (Nat.lt_succ_self _)⟩
  ·rintro ⟨h0, h1, h2⟩
   by_cases q : p.2 < n
   ·exact .inl ⟨h0, h1, q⟩
   ·have e : p.2 = n := Int.le_antisymm (Int.le_of_lt_add_one h2) (Int.not_lt.mp q)
    exact .inr ⟨p.1.toNat, List.mem_range.mpr ((Int.toNat_lt h0).mpr (e ▸ h1)), Prod.ext (Int.toNat_of_nonneg h0) e.symm⟩
end Mine
namespace Mine
noncomputable def Lx (h l : Nat) (a b : Int) : Prop := 0 ≤ a ∧ a < b ∧ (b < h ∨ (b = h ∧ a < l))
theorem Lx.self {h l : Nat} : ¬ Lx h l l h := fun q => q.2.2.elim (fun z => Int.lt_irrefl _ z) fun z => Int.lt_irrefl _ z.2
theorem Lx.up {h : Nat} {a b : Int} : Lx h h a b ↔ Lx (h + 1) 0 a b := by
 refine ⟨fun ⟨x, y, z⟩ => ⟨x, y, .inl ?_⟩, fun ⟨x, y, z⟩ => ⟨x, y, ?_⟩⟩ <;> lia
theorem Lx.zero {h : Nat} {a b : Int} : Lx h 0 a b ↔ 0 ≤ a ∧ a < b ∧ b < h :=
 ⟨fun ⟨x, y, z⟩ => ⟨x, y, z.elim id fun z => by lia⟩, fun ⟨x, y, z⟩ => ⟨x, y, .inl z⟩⟩
theorem Lx.succ {h l : Nat} {a b : Int} (hl : l < h) : Lx h (l + 1) a b ↔ Lx h l a b ∨ (a = l ∧ b = h) := by
 constructor
 ·rintro ⟨x, y, z | ⟨z, u⟩⟩
  ·exact .inl ⟨x, y, .inl z⟩
  ·by_cases k : a = l
   ·exact .inr ⟨k, z⟩
   ·exact .inl ⟨x, y, .inr ⟨z, by lia⟩⟩
 ·rintro (⟨x, y, z⟩ | ⟨z, u⟩)
  ·exact ⟨x, y, z.imp id fun z => ⟨z.1, by lia⟩⟩
  ·rw [z, u]; exact ⟨Int.natCast_nonneg _, Int.ofNat_lt.mpr hl, .inr ⟨rfl, Int.ofNat_lt.mpr (Nat.lt_succ_self _)⟩⟩
structure Ph1 (tags : List (List Int)) (h l : Nat) (ks : List (List Int)) (wt : List (Int × Int)) : Prop where
 nd : ks.Nodup
 keys : ∀ key, key ∈ ks ↔ ∃ a b : Int, key = [a, b] ∧ Lx h l a b ∧ tagOf tags a ≠ tagOf tags b
 wnd : wt.Nodup
 wts : ∀ p : Int × Int, p ∈ wt ↔ Lx h l p.1 p.2 ∧ tagOf tags p.1 = tagOf tags p.2
 cnt : ks.length + wt.length ≤ 50 * h + l
variable {w : Nat} {rows tags : List (List Int)} {h l : Nat} {ks ws : List (List Int)} {wt : List (Int × Int)}
theorem Lx.none {a b : Int} : ¬ Lx 0 0 a b := fun ⟨x, y, z⟩ => by lia
theorem Ph1.start : Ph1 tags 0 0 [] [] := ⟨List.nodup_nil, fun key => ⟨(fun q => by cases q), fun ⟨a, b, za, q, zb⟩ => (Lx.none q).elim⟩, List.nodup_nil, fun p => ⟨(fun q => by cases q), fun q => (Lx.none q.1).elim⟩, Nat.zero_le _⟩
theorem Ph1.up (P : Ph1 tags h h ks wt) (hh : h ≤ 49) : Ph1 tags (h + 1) 0 ks wt :=
 ⟨P.nd, fun key => (P.keys key).trans ⟨fun ⟨a, b, e, q, t⟩ => ⟨a, b, e, Lx.up.mp q, t⟩, fun ⟨a, b, e, q, t⟩ => ⟨a, b, e, Lx.up.mpr q, t⟩⟩, P.wnd,
  fun p => (P.wts p).trans ⟨fun q => ⟨Lx.up.mp q.1, q.2⟩, fun q => ⟨Lx.up.mpr q.1, q.2⟩⟩, by have := P.cnt; lia⟩
theorem Ph1.tell (P : Ph1 tags h l ks wt) (hl : l < h) (ht : tagOf tags l ≠ tagOf tags h) : [(l : Int), (h : Int)] ∉ ks ∧ Ph1 tags h (l + 1) (ks ++ [[(l : Int), (h : Int)]]) wt := by
 have hn : [(l : Int), (h : Int)] ∉ ks := fun q => ((P.keys _).mp q).elim fun a q => q.elim fun b q => by
  obtain ⟨e, x, t⟩ := q
  cases e; exact Lx.self x
 refine ⟨hn, ⟨?_, fun key => ?_, P.wnd, fun p => (P.wts p).trans ⟨fun q => ⟨(Lx.succ hl).mpr (.inl q.1), q.2⟩, fun q => ((Lx.succ hl).mp q.1).elim (fun y => ⟨y, q.2⟩) fun z => absurd (by rw [← z.1, ← z.2]; exact q.2) ht⟩, by have := P.cnt; rw [List.length_append, List.length_singleton]; lia⟩⟩
 ·rw [List.nodup_append]
  exact ⟨P.nd, by simp, fun a ha b hb => by rw [List.mem_singleton.mp hb]; intro q; exact hn (q ▸ ha)⟩
 ·rw [List.mem_append, P.keys, List.mem_singleton]
  constructor
  ·rintro (⟨a, b, e, q, t⟩ | e)
   ·exact ⟨a, b, e, (Lx.succ hl).mpr (.inl q), t⟩
   ·exact ⟨l, h, e, (Lx.succ hl).mpr (.inr ⟨rfl, rfl⟩), ht⟩
  ·rintro ⟨a, b, e, q, t⟩
   exact ((Lx.succ hl).mp q).imp (fun q => ⟨a, b, e, q, t⟩) fun z => by rw [e, z.1, z.2]
theorem Ph1.same (P : Ph1 tags h l ks wt) (hl : l < h) (ht : tagOf tags l = tagOf tags h) : Ph1 tags h (l + 1) ks (wt ++ [((l : Int), (h : Int))]) := by
 have hn : ((l : Int), (h : Int)) ∉ wt := fun q => Lx.self ((P.wts _).mp q).1
 refine ⟨P.nd, fun key => (P.keys key).trans ⟨fun ⟨a, b, e, q, t⟩ => ⟨a, b, e, (Lx.succ hl).mpr (.inl q), t⟩, fun ⟨a, b, e, q, t⟩ => ⟨a, b, e, ((Lx.succ hl).mp q).elim id fun z => absurd (by rw [z.1, z.2]; exact ht) t, t⟩⟩, ?_, fun p => ?_, by have := P.cnt; rw [List.length_append, List.length_singleton]; lia⟩
 ·rw [List.nodup_append]
  exact ⟨P.wnd, by simp, fun a ha b hb => by rw [List.mem_singleton.mp hb]; intro q; exact hn (q ▸ ha)⟩
 ·rw [List.mem_append, P.wts, List.mem_singleton]
  constructor
  ·rintro (q | e)
   ·exact ⟨(Lx.succ hl).mpr (.inl q.1), q.2⟩
   ·rw [e]; exact ⟨(Lx.succ hl).mpr (.inr ⟨rfl, rfl⟩), ht⟩
  ·rintro ⟨q, t⟩
   exact ((Lx.succ hl).mp q).imp (fun q => ⟨q, t⟩) fun z => Prod.ext z.1 z.2
theorem Ph1.done (P : Ph1 tags rows.length 0 ks wt) : WaI w rows tags 0 ks (List.replicate ks.length []) wt := by
 have d0 : ∀ a b, Dk w rows tags 0 a b ↔ tagOf tags a ≠ tagOf tags b := fun a b => ⟨fun ⟨u, za, hl, hT⟩ => by
  have : u = [] := List.length_eq_zero_iff.mp (Nat.le_zero.mp hl)
  subst this; exact hT, fun t => ⟨[], (fun c q => by cases q), Nat.le_refl _, t⟩⟩
 refine ⟨by simp, P.nd, fun key => (P.keys key).trans ⟨fun ⟨a, b, e, q, t⟩ => ⟨a, b, e, (Lx.zero.mp q).1, (Lx.zero.mp q).2.1, (Lx.zero.mp q).2.2, (d0 a b).mpr t⟩, fun ⟨a, b, e, a0, ab, q, t⟩ => ⟨a, b, e, Lx.zero.mpr ⟨a0, ab, q⟩, (d0 a b).mp t⟩⟩, fun i a b u ei eu => ?_, P.wnd,
  fun p => (P.wts p).trans ⟨fun q => ⟨(Lx.zero.mp q.1).1, (Lx.zero.mp q.1).2.1, (Lx.zero.mp q.1).2.2, fun d => (d0 _ _).mp d q.2⟩, fun ⟨a0, ab, q, t⟩ => ⟨Lx.zero.mpr ⟨a0, ab, q⟩, Classical.not_not.mp fun z => t ((d0 _ _).mpr z)⟩⟩⟩
 rw [List.getElem?_replicate] at eu
 split at eu
 ·cases eu
  refine ((P.keys _).mp (List.mem_of_getElem? ei)).elim fun a' q => q.elim fun b' q => ?_
  obtain ⟨e, _, t⟩ := q
  cases e
  exact ⟨(fun c q => by cases q), t, fun v za zb => Nat.zero_le _⟩
 ·cases eu
noncomputable def pl (h l : Nat) : List (Int × Int) := prs h ++ (List.range l).map fun a => (((a : Nat) : Int), ((h : Nat) : Int))
theorem pl_zero {h : Nat} : pl h 0 = prs h := by simp [pl]
theorem pl_full {h : Nat} : pl h h = prs (h + 1) := rfl
theorem pl_succ {h l : Nat} : pl h (l + 1) = pl h l ++ [((l : Int), (h : Int))] := by unfold pl; rw [List.range_succ, List.map_append, List.append_assoc]; rfl
theorem pl_new {h l : Nat} : [(l : Int), (h : Int)] ∉ (pl h l).map fun p => [p.1, p.2] := fun q => by
 obtain ⟨p, hp, e⟩ := List.mem_map.mp q
 injection e with e1 e2
 injection e2 with e2 _
 unfold pl at hp
 rcases List.mem_append.mp hp with hp | hp
 ·have := prs_mem.mp hp; lia
 ·obtain ⟨a, ha, rfl⟩ := List.mem_map.mp hp
  have := List.mem_range.mp ha
  simp only at e1
  lia
theorem prs_len : ∀ n, (prs n).length ≤ n * n
 | 0 => by simp [prs]
 | n + 1 => by
  have := prs_len n
  rw [prs, List.length_append, List.length_map, List.length_range, Nat.add_mul, Nat.mul_add]
  lia
end Mine
set_option tactic.hygienic false
namespace Mine
structure UF (M : Nat) (hs : List Int) (cl : Int → Int) (rk : Int → Nat) (R : Nat) : Prop where
 len : hs.length = M
 rng : ∀ x : Int, 0 ≤ x → x < M → 0 ≤ atI hs x ∧ atI hs x < M ∧ 0 ≤ cl x ∧ cl x < M
 cls : ∀ x : Int, 0 ≤ x → x < M → cl (atI hs x) = cl x
 root : ∀ x : Int, 0 ≤ x → x < M → atI hs x = x → cl x = x
 le : ∀ x : Int, 0 ≤ x → x < M → rk x ≤ R
 up : ∀ x : Int, 0 ≤ x → x < M → atI hs x ≠ x → rk x < rk (atI hs x)
noncomputable def rc (hs : List Int) : Nat := (List.range hs.length).countP fun i : Nat => decide (atI hs (i : Int) = (i : Int))
variable {M : Nat} {hs : List Int} {cl : Int → Int} {rk : Int → Nat} {R : Nat}
theorem rc_set_le {i v : Int} (h0 : 0 ≤ i) (h1 : i < hs.length) (hv : v ≠ i) : rc (hs.set i.toNat v) ≤ rc hs := by
 unfold rc
 rw [List.length_set]
 refine countP_le' fun x hx h => ?_
 rw [decide_eq_true_eq] at h ⊢
 rw [atI_set h0 h1 (by lia)] at h
 split at h
 ·lia
 ·exact h
theorem rc_set_lt {i v : Int} (h0 : 0 ≤ i) (h1 : i < hs.length) (hv : v ≠ i) (hr : atI hs i = i) : rc (hs.set i.toNat v) < rc hs := by
 have le := rc_set_le h0 h1 hv
 by_cases e : rc (hs.set i.toNat v) = rc hs
 ·have key : ∀ x, x ∈ List.range hs.length → decide (atI (hs.set i.toNat v) (x : Int) = (x : Int)) = true → decide (atI hs (x : Int) = (x : Int)) = true := fun x hx h => by
   rw [decide_eq_true_eq] at h ⊢
   rw [atI_set h0 h1 (by lia)] at h
   split at h
   ·lia
   ·exact h
  have e' : (List.range hs.length).countP (fun x : Nat => decide (atI (hs.set i.toNat v) (x : Int) = (x : Int))) = (List.range hs.length).countP (fun x : Nat => decide (atI hs (x : Int) = (x : Int))) := by
   have := e
   unfold rc at this
   rwa [List.length_set] at this
  have := countP_same key e' i.toNat (List.mem_range.mpr (by lia)) (by rw [decide_eq_true_eq, show ((i.toNat : Nat) : Int) = i by lia]; exact hr)
  rw [decide_eq_true_eq, show ((i.toNat : Nat) : Int) = i by lia, atI_set h0 h1 h0, if_pos rfl] at this
  exact absurd this hv
 ·lia
set_option tactic.hygienic true in
theorem UF.halve (U : UF M hs cl rk R) {x : Int} (h0 : 0 ≤ x) (h1 : x < M) (hn : atI hs x ≠ x) : UF M (hs.set x.toNat (atI hs (atI hs x))) cl rk R ∧ rc (hs.set x.toNat (atI hs (atI hs x))) ≤ rc hs ∧ rk x < rk (atI hs (atI hs x)) := by
 have cX : True := trivial
 revert M hs cl rk R U x h0 h1 hn
 rintro M hs cl rk R U x h0 h1 hn
 have l := U.len
 have r1 := U.rng x h0 h1
 have r2 := U.rng _ r1.1 r1.2.1
 have u1 := U.up x h0 h1 hn
 have u2 : rk (atI hs x) ≤ rk (atI hs (atI hs x)) := by
  by_cases q : atI hs (atI hs x) = atI hs x
  ·rw [q]; exact Nat.le_refl _
  ·exact Nat.le_of_lt (U.up _ r1.1 r1.2.1 q)
 have ne : atI hs (atI hs x) ≠ x := fun e => by rw [e] at u2; lia +abstractProof
 have g : ∀ y : Int, 0 ≤ y → atI (hs.set x.toNat (atI hs (atI hs x))) y = if y = x then atI hs (atI hs x) else atI hs y := fun y hy => atI_set h0 (by lia +abstractProof) hy
 refine ⟨⟨by simp [l], fun y y0 y1 => ?_, fun y y0 y1 => ?_, fun y y0 y1 e => ?_, U.le, fun y y0 y1 e => ?_⟩, rc_set_le h0 (by lia +abstractProof) ne, by lia +abstractProof⟩
 ·rw [g y y0]
  have := U.rng y y0 y1
  split
  ·exact ⟨r2.1, r2.2.1, this.2.2⟩
  ·exact this
 ·rw [g y y0]
  split
  ·rename_i q; subst q
   rw [U.cls _ r1.1 r1.2.1, U.cls y y0 y1]
  ·exact U.cls y y0 y1
 ·rw [g y y0] at e
  split at e
  ·rename_i q; subst q; exact absurd e ne
  ·exact U.root y y0 y1 e
 ·rw [g y y0] at e ⊢
  split
  ·rename_i q; subst q; lia +abstractProof
  ·rename_i q
   rw [if_neg q] at e
   exact U.up y y0 y1 e
theorem UF.link (U : UF M hs cl rk R) {a b : Int} (a0 : 0 ≤ a) (a1 : a < M) (b0 : 0 ≤ b) (b1 : b < M) (ha : atI hs a = a) (hb : atI hs b = b) (hne : a ≠ b) :
  UF M (hs.set b.toNat a) (fun x => if cl x = b then a else cl x) (fun x => if cl x = a then rk x + R + 1 else rk x) (R + R + 1) ∧ rc (hs.set b.toNat a) < rc hs := by
 have cX : True := trivial
 revert M hs cl rk R U a b a0 a1 b0 b1 ha hb hne
 rintro M hs cl rk R U a b a0 a1 b0 b1 ha hb hne
 have l := U.len
 have ca := U.root a a0 a1 ha
 have cb := U.root b b0 b1 hb
 have g : ∀ y : Int, 0 ≤ y → atI (hs.set b.toNat a) y = if y = b then a else atI hs y := fun y hy => atI_set b0 (by lia) hy
 refine ⟨⟨by simp [l], fun y y0 y1 => ?_, fun y y0 y1 => ?_, fun y y0 y1 e => ?_, fun y y0 y1 => ?_, fun y y0 y1 e => ?_⟩, rc_set_lt b0 (by lia) hne hb⟩
 ·have := U.rng y y0 y1
  rw [g y y0]
  refine ⟨?_, ?_, ?_, ?_⟩ <;> ((try dsimp only); split <;> lia)
 ·rw [g y y0]
  have cy := U.cls y y0 y1
  (try dsimp only)
  by_cases q : y = b
  ·subst q
   rw [if_pos rfl, ca, if_neg hne, cb, if_pos rfl]
  ·rw [if_neg q, cy]
 ·rw [g y y0] at e
  (try dsimp only)
  by_cases q : y = b
  ·subst q; rw [if_pos rfl] at e; exact absurd e hne
  ·rw [if_neg q] at e
   have := U.root y y0 y1 e
   rw [this, if_neg q]
 ·have := U.le y y0 y1
  (try dsimp only)
  split <;> lia
 ·rw [g y y0] at e ⊢
  have cy := U.cls y y0 y1
  (try dsimp only)
  by_cases q : y = b
  ·subst q
   rw [if_pos rfl, ca, if_pos rfl, cb, if_neg (Ne.symm hne)]
   have := U.le y y0 y1
   lia
  ·rw [if_neg q] at e ⊢
   have := U.up y y0 y1 e
   rw [cy]
   split <;> lia
noncomputable def plc (s lead : Int) : Int := if s = -1 then 0 else 1 + lead + s
noncomputable def ptg (n1 : Nat) (t1 t2 : List (List Int)) (p : Int) : List Int := if p = 0 then [] else if p ≤ n1 then tagOf t1 (p - 1) else tagOf t2 (p - 1 - n1)
noncomputable def pgo (n1 : Nat) (r1 r2 : List (List Int)) (p c : Int) : Int := if p = 0 then 0 else if p ≤ n1 then plc (goalOf r1 (p - 1) c) 0 else plc (goalOf r2 (p - 1 - n1) c) n1
structure Resp (M n1 : Nat) (cl : Int → Int) (wt : List (Int × Int)) (f : Int → Int) : Prop where
 cls : ∀ a b : Int, 0 ≤ a → a < M → 0 ≤ b → b < M → cl a = cl b → f a = f b
 wts : ∀ q, q ∈ wt → f (plc q.1 0) = f (plc q.2 n1)
structure Kin (w : Nat) (r1 t1 r2 t2 : List (List Int)) (M : Nat) (cl : Int → Int) (wt : List (Int × Int)) : Prop where
 ok : ∀ q, q ∈ wt → ∃ u, WordOk w u ∧ runOf r1 0 u = q.1 ∧ runOf r2 0 u = q.2
 bis : ∀ x y : Int, 0 ≤ x → x < M → 0 ≤ y → y < M → cl x = cl y → ptg r1.length t1 t2 x = ptg r1.length t1 t2 y ∧ ∀ c : Int, 0 ≤ c → c < w → ∀ f, Resp M r1.length cl wt f → f (pgo r1.length r1 r2 x c) = f (pgo r1.length r1 r2 y c)
 root : ∀ f, Resp M r1.length cl wt f → f (plc 0 0) = f (plc 0 r1.length)
variable {w : Nat} {r1 t1 r2 t2 : List (List Int)} {wt : List (Int × Int)}
theorem plc1 {l : Int} (h : At r1 l) : 0 ≤ plc l 0 ∧ plc l 0 ≤ r1.length ∧ ptg r1.length t1 t2 (plc l 0) = tagOf t1 l ∧ ∀ c, pgo r1.length r1 r2 (plc l 0) c = plc (goalOf r1 l c) 0 := by
 have cX : True := trivial
 revert r1 t1 r2 t2 l h
 rintro r1 t1 r2 t2 l h
 obtain ⟨h0, h1⟩ := h
 unfold plc
 by_cases q : l = -1
 ·rw [if_pos q]
  refine ⟨by lia +abstractProof, by lia +abstractProof, ?_, fun c => ?_⟩
  ·unfold ptg tagOf; rw [if_pos rfl, if_pos q]
  ·unfold pgo; rw [if_pos rfl, q, goalOf_dead, if_pos rfl]
 ·rw [if_neg q]
  refine ⟨by lia +abstractProof, by lia +abstractProof, ?_, fun c => ?_⟩
  ·unfold ptg; rw [if_neg (by lia +abstractProof), if_pos (by lia +abstractProof)]; congr 1; lia +abstractProof
  ·unfold pgo
   rw [if_neg (by lia +abstractProof), if_pos (by lia +abstractProof), show 1 + 0 + l - 1 = l by lia +abstractProof]; rfl
theorem plc2 {r : Int} (h : At r2 r) : 0 ≤ plc r r1.length ∧ plc r r1.length < r1.length + r2.length + 1 ∧ ptg r1.length t1 t2 (plc r r1.length) = tagOf t2 r ∧ ∀ c, pgo r1.length r1 r2 (plc r r1.length) c = plc (goalOf r2 r c) r1.length := by
 have cX : True := trivial
 revert r1 t1 r2 t2 r h
 rintro r1 t1 r2 t2 r h
 obtain ⟨h0, h1⟩ := h
 unfold plc
 by_cases q : r = -1
 ·rw [if_pos q]
  refine ⟨by lia, by lia, ?_, fun c => ?_⟩
  ·unfold ptg tagOf; rw [if_pos rfl, if_pos q]
  ·unfold pgo; rw [if_pos rfl, q, goalOf_dead, if_pos rfl]
 ·rw [if_neg q]
  refine ⟨by lia, by lia, ?_, fun c => ?_⟩
  ·unfold ptg; rw [if_neg (by lia), if_neg (by lia)]; congr 1; lia
  ·unfold pgo
   rw [if_neg (by lia), if_neg (by lia), show 1 + (r1.length : Int) + r - 1 - r1.length = r by lia]; rfl
theorem Kin.start (h1 : 1 ≤ r1.length) (h2 : 1 ≤ r2.length) (hc : ∀ x : Int, 0 ≤ x → x < M → cl x = x) : Kin w r1 t1 r2 t2 M cl [(0, 0)] where
 ok := fun q hq => by rw [List.mem_singleton.mp hq]; exact ⟨[], (fun c z => by cases z), rfl, rfl⟩
 bis := fun x y x0 x1 y0 y1 e => by
  rw [hc x x0 x1, hc y y0 y1] at e
  subst e
  exact ⟨rfl, fun za zb zc zd ze => rfl⟩
 root := fun f hf => hf.wts (0, 0) (.head _)
theorem Kin.skip {q : Int × Int} (K : Kin w r1 t1 r2 t2 M cl (wt ++ [q])) (hM : M = r1.length + r2.length + 1) (a1 : At r1 q.1) (a2 : At r2 q.2) (e : cl (plc q.1 0) = cl (plc q.2 r1.length)) : Kin w r1 t1 r2 t2 M cl wt := by
 have cX : True := trivial
 revert M cl w r1 t1 r2 t2 wt q K hM a1 a2 e
 rintro M cl w r1 t1 r2 t2 wt q K hM a1 a2 e
 have p1 := plc1 (t1 := t1) (t2 := t2) (r2 := r2) a1
 have p2 := plc2 (t1 := t1) (t2 := t2) (r1 := r1) a2
 have up : ∀ f, Resp M r1.length cl wt f → Resp M r1.length cl (wt ++ [q]) f := fun f hf => ⟨hf.cls, fun z hz => by
  rcases List.mem_append.mp hz with hz | hz
  ·exact hf.wts z hz
  ·rw [List.mem_singleton.mp hz]
   exact hf.cls _ _ p1.1 (by lia +abstractProof) p2.1 (by lia +abstractProof) e⟩
 exact ⟨fun z hz => K.ok z (List.mem_append_left _ hz), fun x y x0 x1 y0 y1 e => ⟨(K.bis x y x0 x1 y0 y1 e).1, fun c c0 c1 f hf => (K.bis x y x0 x1 y0 y1 e).2 c c0 c1 f (up f hf)⟩, fun f hf => K.root f (up f hf)⟩
theorem Kin.join {q : Int × Int} {cl' : Int → Int} {wt' : List (Int × Int)} (K : Kin w r1 t1 r2 t2 M cl (wt ++ [q])) (hM : M = r1.length + r2.length + 1) (A1 : Aut w r1 t1) (A2 : Aut w r2 t2) (a1 : At r1 q.1) (a2 : At r2 q.2) (ht : tagOf t1 q.1 = tagOf t2 q.2)
  (hcl : ∀ x y : Int, 0 ≤ x → x < M → 0 ≤ y → y < M → (cl' x = cl' y ↔ cl x = cl y ∨ (cl x = cl (plc q.1 0) ∧ cl y = cl (plc q.2 r1.length)) ∨ (cl x = cl (plc q.2 r1.length) ∧ cl y = cl (plc q.1 0))))
  (hw1 : ∀ z, z ∈ wt → z ∈ wt') (hw2 : ∀ c : Int, 0 ≤ c → c < w → (goalOf r1 q.1 c, goalOf r2 q.2 c) ∈ wt') (hw3 : ∀ z, z ∈ wt' → z ∈ wt ∨ ∃ c : Int, 0 ≤ c ∧ c < w ∧ z = (goalOf r1 q.1 c, goalOf r2 q.2 c)) : Kin w r1 t1 r2 t2 M cl' wt' := by
 have cX : True := trivial
 revert M cl w r1 t1 r2 t2 wt q cl' wt' K hM A1 A2 a1 a2 ht hcl hw1 hw2 hw3
 rintro M cl w r1 t1 r2 t2 wt q cl' wt' K hM A1 A2 a1 a2 ht hcl hw1 hw2 hw3
 have p1 := plc1 (t1 := t1) (t2 := t2) (r2 := r2) a1
 have p2 := plc2 (t1 := t1) (t2 := t2) (r1 := r1) a2
 have pm1 : plc q.1 0 < M := by lia
 have pm2 : plc q.2 r1.length < M := by lia
 have hpq : cl' (plc q.1 0) = cl' (plc q.2 r1.length) := (hcl _ _ p1.1 pm1 p2.1 pm2).mpr (.inr (.inl ⟨rfl, rfl⟩))
 have up : ∀ f, Resp M r1.length cl' wt' f → Resp M r1.length cl (wt ++ [q]) f := fun f hf => ⟨fun a b a0 a1 b0 b1 e => hf.cls a b a0 a1 b0 b1 ((hcl a b a0 a1 b0 b1).mpr (.inl e)), fun z hz => by
  rcases List.mem_append.mp hz with hz | hz
  ·exact hf.wts z (hw1 z hz)
  ·rw [List.mem_singleton.mp hz]
   exact hf.cls _ _ p1.1 pm1 p2.1 pm2 hpq⟩
 have gpq : ∀ c : Int, 0 ≤ c → c < w → ∀ f, Resp M r1.length cl' wt' f → f (pgo r1.length r1 r2 (plc q.1 0) c) = f (pgo r1.length r1 r2 (plc q.2 r1.length) c) := fun c c0 c1 f hf => by
  rw [p1.2.2.2 c, p2.2.2.2 c]
  exact hf.wts _ (hw2 c c0 c1)
 have tpq : ptg r1.length t1 t2 (plc q.1 0) = ptg r1.length t1 t2 (plc q.2 r1.length) := by rw [p1.2.2.1, p2.2.2.1, ht]
 refine ⟨fun z hz => ?_, fun x y x0 x1 y0 y1 e => ?_, fun f hf => K.root f (up f hf)⟩
 ·rcases hw3 z hz with h | ⟨c, c0, c1, rfl⟩
  ·exact K.ok z (List.mem_append_left _ h)
  ·obtain ⟨u, hu, e1, e2⟩ := K.ok q (List.mem_append_right _ (.head _))
   exact ⟨u ++ [c], hu.push c0 c1, by rw [runOf_append, e1]; rfl, by rw [runOf_append, e2]; rfl⟩
 ·rcases (hcl x y x0 x1 y0 y1).mp e with e | ⟨e1, e2⟩ | ⟨e1, e2⟩
  ·have := K.bis x y x0 x1 y0 y1 e
   exact ⟨this.1, fun c c0 c1 f hf => this.2 c c0 c1 f (up f hf)⟩
  ·have b1 := K.bis x _ x0 x1 p1.1 pm1 e1
   have b2 := K.bis y _ y0 y1 p2.1 pm2 e2
   exact ⟨b1.1.trans (tpq.trans b2.1.symm), fun c c0 c1 f hf => (b1.2 c c0 c1 f (up f hf)).trans ((gpq c c0 c1 f hf).trans (b2.2 c c0 c1 f (up f hf)).symm)⟩
  ·have b1 := K.bis x _ x0 x1 p2.1 pm2 e1
   have b2 := K.bis y _ y0 y1 p1.1 pm1 e2
   exact ⟨b1.1.trans (tpq.symm.trans b2.1.symm), fun c c0 c1 f hf => (b1.2 c c0 c1 f (up f hf)).trans ((gpq c c0 c1 f hf).symm.trans (b2.2 c c0 c1 f (up f hf)).symm)⟩
theorem Kin.done (K : Kin w r1 t1 r2 t2 M cl []) (hM : M = r1.length + r2.length + 1) (A1 : Aut w r1 t1) (A2 : Aut w r2 t2) (u : List Int) (hu : WordOk w u) : T r1 t1 0 u = T r2 t2 0 u := by
 have cX : True := trivial
 revert M cl w r1 t1 r2 t2 K hM A1 A2 u hu
 rintro M cl w r1 t1 r2 t2 K hM A1 A2 u hu
 have hr : Resp M r1.length cl [] cl := ⟨fun a b za zb zc zd e => e, fun q hq => by cases hq⟩
 have main : ∀ (u : List Int) (l r : Int), At r1 l → At r2 r → WordOk w u → cl (plc l 0) = cl (plc r r1.length) → T r1 t1 l u = T r2 t2 r u := by
  rintro u
  induction u with
  | nil =>
   rintro l r a1 a2 _ e
   have p1 := plc1 (t1 := t1) (t2 := t2) (r2 := r2) a1
   have p2 := plc2 (t1 := t1) (t2 := t2) (r1 := r1) a2
   have := (K.bis _ _ p1.1 (by lia +abstractProof) p2.1 (by lia +abstractProof) e).1
   rw [p1.2.2.1, p2.2.2.1] at this
   exact this
  | cons c u ih =>
   rintro l r a1 a2 hu e
   have hc := hu c (.head _)
   have p1 := plc1 (t1 := t1) (t2 := t2) (r2 := r2) a1
   have p2 := plc2 (t1 := t1) (t2 := t2) (r1 := r1) a2
   have := (K.bis _ _ p1.1 (by lia +abstractProof) p2.1 (by lia +abstractProof) e).2 c hc.1 hc.2 cl hr
   rw [p1.2.2.2, p2.2.2.2] at this
   exact ih _ _ (A1.goal a1 hc.1 hc.2) (A2.goal a2 hc.1 hc.2) hu.tail this
 have h1 := A1.pos
 have h2 := A2.pos
 exact main u 0 0 ⟨by lia +abstractProof, by lia +abstractProof⟩ ⟨by lia +abstractProof, by lia +abstractProof⟩ hu (K.root cl hr)
end Mine
set_option tactic.hygienic false
namespace Mine
theorem allWords_pre (w n : Nat) : ∀ m, ∃ l, allWords w (n + m) = allWords w n ++ l
 | 0 => ⟨[], by simp⟩
 | m + 1 => by
  obtain ⟨l, h⟩ := allWords_pre w n m
  refine ⟨l ++ level w (n + m + 1), ?_⟩
  show allWords w (n + m) ++ level w (n + m + 1) = _
  rw [h, List.append_assoc]
theorem find_short {w n : Nat} {p : List Int → Bool} {u v : List Int} (h : (allWords w n).find? p = some u) (hv : WordOk w v) (hp : p v = true) : u.length ≤ v.length := by
 by_cases q : v.length ≤ n
 ·obtain ⟨l, e⟩ := allWords_pre w v.length (n - v.length)
  rw [show v.length + (n - v.length) = n by lia] at e
  rw [e, List.find?_append] at h
  cases hf : (allWords w v.length).find? p with
  | none => exact absurd hp (by have := List.find?_eq_none.mp hf v (all_mem (Nat.le_refl _) hv); simpa using this)
  | some x =>
   rw [hf] at h
   simp only [Option.some_or, Option.some.injEq] at h
   subst h
   exact len_le_of_find hf
 ·have := len_le_of_find h
  lia
noncomputable def chainRows (w n : Nat) : List (List Int) := (List.range n).map fun i : Nat => List.replicate w (if (n : Int) - 1 < (i : Int) + 1 then (n : Int) - 1 else (i : Int) + 1)
noncomputable def chainTags (n : Nat) : List (List Int) := List.replicate (n - 1) [] ++ [[0]]
variable {w n : Nat}
theorem chain_goal {s c : Int} (h0 : 0 ≤ s) (h1 : s < n) (c0 : 0 ≤ c) (c1 : c < w) : goalOf (chainRows w n) s c = if (n : Int) - 1 < s + 1 then (n : Int) - 1 else s + 1 := by
 unfold goalOf chainRows
 rw [if_neg (by lia)]
 have : ((List.range n).map fun i : Nat => List.replicate w (if (n : Int) - 1 < (i : Int) + 1 then (n : Int) - 1 else (i : Int) + 1))[s.toNat]? = some (List.replicate w (if (n : Int) - 1 < s + 1 then (n : Int) - 1 else s + 1)) := by
  rw [List.getElem?_map, List.getElem?_range (by lia)]
  simp only [Option.map_some]
  rw [show ((s.toNat : Nat) : Int) = s by lia]
 rw [getD_of this]
 refine getD_of ?_
 rw [List.getElem?_replicate, if_pos (by lia)]
theorem chain_run : ∀ (u : List Int) (s : Int), 0 ≤ s → s < n → WordOk w u → runOf (chainRows w n) s u = if (n : Int) - 1 < s + u.length then (n : Int) - 1 else s + u.length
 | [], s, h0, h1, _ => by
  show s = _
  simp only [List.length_nil]
  split <;> lia
 | c :: u, s, h0, h1, hu => by
  have hc := hu c (.head _)
  show runOf (chainRows w n) (goalOf (chainRows w n) s c) u = _
  rw [chain_goal h0 h1 hc.1 hc.2]
  rw [chain_run u _ (by split <;> lia) (by split <;> lia) hu.tail]
  simp only [List.length_cons]
  split <;> split <;> split <;> lia
theorem chain_T (hn : 2 ≤ n) (u : List Int) (hu : WordOk w u) : T (chainRows w n) (chainTags n) 0 u = if n - 1 ≤ u.length then [0] else [] := by
 have cX : True := trivial
 revert w n hn u hu
 rintro w n hn u hu
 unfold T
 rw [chain_run u 0 (by lia) (by lia) hu]
 unfold tagOf chainTags
 by_cases q : n - 1 ≤ u.length
 ·rw [if_pos q]
  have e : (if (n : Int) - 1 < 0 + u.length then (n : Int) - 1 else 0 + u.length) = ((n - 1 : Nat) : Int) := by split <;> lia
  rw [e, if_neg (by lia), Int.toNat_natCast]
  refine getD_of ?_
  rw [List.getElem?_append_right (by simp)]
  simp
 ·rw [if_neg q]
  have e : (if (n : Int) - 1 < 0 + u.length then (n : Int) - 1 else 0 + u.length) = ((u.length : Nat) : Int) := by split <;> lia
  rw [e, if_neg (by lia), Int.toNat_natCast]
  refine getD_of ?_
  rw [List.getElem?_append_left (by simp; lia), List.getElem?_replicate, if_pos (by lia)]
theorem chain_bound (hn : 2 ≤ n) : boundOf [(chainRows w n, chainTags n)] = (n : Int) - 2 := by
 have cX : True := trivial
 revert w n hn
 rintro w n hn
 have hd : deadRows [(chainRows w n, chainTags n)] = [] := by
  unfold deadRows
  simp only [List.map_cons, List.map_nil, List.flatten_cons, List.flatten_nil, List.append_nil]
  rw [List.filter_eq_nil_iff]
  rintro r hr
  obtain ⟨i, hi, rfl⟩ := List.mem_map.mp hr
  have := List.mem_range.mp hi
  rw [decide_eq_true_eq]
  rintro q
  have := List.eq_of_mem_replicate q
  split at this <;> lia
 have hb : bTags [(chainRows w n, chainTags n)] = chainTags n := by
  unfold bTags allTags
  rw [if_pos hd]; simp
 unfold boundOf
 rw [hb]
 have hl : (chainTags n).length = n := by simp [chainTags]; lia
 have hnub : (nubL [] (chainTags n)).length = 2 := by
  unfold chainTags
  obtain ⟨m, rfl⟩ : ∃ m, n = m + 2 := ⟨n - 2, by lia⟩
  rw [nubL_snoc]
  have : nubL [] (List.replicate (m + 2 - 1) ([] : List Int)) = [[]] := by
   show nubL [] (List.replicate (m + 1) ([] : List Int)) = [[]]
   rw [List.replicate_succ]
   show nubL [[]] (List.replicate m ([] : List Int)) = [[]]
   have : ∀ k, nubL [[]] (List.replicate k ([] : List Int)) = [[]] := fun k => by
    induction k with
    | zero => rfl
    | succ k ih => rw [List.replicate_succ]; exact ih
   exact this m
  rw [this]; rfl
 rw [hl, hnub]; rfl
theorem chain_best' {k : Nat} {R S : List (List Int)} (hw : 1 ≤ w) (L : Lean w (chainRows w (k + 2)) (chainTags (k + 2)) R S) :
  (∀ i j : Nat, i < R.length → j < R.length → i ≠ j → ∀ u, Best w R S i j u → u.length ≤ k) ∧ ∃ s : Nat, 0 < s ∧ s < R.length ∧ ∀ u, Best w R S (0 : Nat) s u → u.length = k := by
 have cX : True := trivial
 revert w k R S hw L
 rintro w k R S hw L
 have A := L.aut
 have hp := A.pos
 have TR : ∀ (i : Nat) (y : List Int), WordOk w y → runOf R 0 y = (i : Int) → ∀ v, WordOk w v → T R S i v = if k + 1 ≤ y.length + v.length then [0] else [] := fun i y hy hr v hv => by
  have h := L.acc (y ++ v) (fun x q => (List.mem_append.mp q).elim (hy x) (hv x))
  rw [T_append, hr] at h
  have c := chain_T (w := w) (n := k + 2) (Nat.le_add_left 2 k) (y ++ v) (fun x q => (List.mem_append.mp q).elim (hy x) (hv x))
  rw [List.length_append] at c
  exact h.trans c
 have rep : ∀ k, WordOk w (List.replicate k (0 : Int)) := fun k x q => by
  rw [List.eq_of_mem_replicate q]; exact ⟨Int.le_refl _, Int.ofNat_lt.mpr hw⟩
 constructor
 ·have lt : ∀ (i j : Nat) (a b : List Int), WordOk w a → WordOk w b → runOf R 0 a = (i : Int) → runOf R 0 b = (j : Int) → i < R.length → j < R.length → a.length < b.length → Diff w R S i j → ∃ v, WordOk w v ∧ v.length ≤ k ∧ T R S i v ≠ T R S j v := fun i j a b ha hb ra rb hi hj hab hd => by
   have an : a.length < k + 1 := by
    by_cases q : a.length < k + 1
    ·exact q
    ·obtain ⟨v, hv, hT⟩ := hd
     rw [TR i a ha ra v hv, TR j b hb rb v hv, if_pos (by lia), if_pos (by lia)] at hT
     exact absurd rfl hT
   refine ⟨List.replicate (k + 1 - b.length) 0, rep _, by simp; lia, ?_⟩
   rw [TR i a ha ra _ (rep _), TR j b hb rb _ (rep _), List.length_replicate, if_neg (by lia), if_pos (by lia)]
   simp
  rintro i j hi hj hne u hu
  obtain ⟨a, ha, ra⟩ := L.reach i hi
  obtain ⟨b, hb, rb⟩ := L.reach j hj
  have hd : Diff w R S i j := ⟨u, hu.1, hu.2.1⟩
  rcases Nat.lt_trichotomy a.length b.length with q | q | q
  ·obtain ⟨v, hv, hvl, hvT⟩ := lt i j a b ha hb ra rb hi hj q hd
   exact Nat.le_trans (hu.2.2 v hv hvT) hvl
  ·exact absurd (by rw [TR i a ha ra u hu.1, TR j b hb rb u hu.1, q]) hu.2.1
  ·obtain ⟨v, hv, hvl, hvT⟩ := lt j i b a hb ha rb ra hj hi q ⟨u, hu.1, fun e => hu.2.1 e.symm⟩
   exact Nat.le_trans (hu.2.2 v hv fun e => hvT e.symm) hvl
 ·have h0 : WordOk w [(0 : Int)] := fun x q => by rw [List.mem_singleton.mp q]; lia
  have hg := A.run [(0 : Int)] (s := 0) ⟨by lia, by lia⟩ h0
  have hs0 : runOf R 0 [(0 : Int)] ≠ -1 := fun e => by
   have h := L.acc ([0] ++ List.replicate (k) 0) (fun x q => (List.mem_append.mp q).elim (h0 x) (rep _ x))
   rw [T_append, e, T_dead, show T (chainRows w (k + 2)) (chainTags (k + 2)) 0 ([0] ++ List.replicate k 0) = if k + 1 ≤ ([0] ++ List.replicate k (0 : Int)).length then [0] else [] from chain_T (Nat.le_add_left 2 k) _ (fun x q => (List.mem_append.mp q).elim (h0 x) (rep _ x)), if_pos (by simp)] at h
   cases h
  have e : runOf R 0 [(0 : Int)] = (((runOf R 0 [(0 : Int)]).toNat : Nat) : Int) := by have := hg.1; lia
  have T0 := TR 0 [] (fun c q => by cases q) rfl
  have Ts := TR (runOf R 0 [(0 : Int)]).toNat [0] h0 e
  have hne : (runOf R 0 [(0 : Int)]).toNat ≠ 0 := fun q => by
   have a := T0 (List.replicate (k) 0) (rep _)
   have b := Ts (List.replicate (k) 0) (rep _)
   rw [q] at b
   rw [a, if_neg (by simp), if_pos (by simp; lia)] at b
   cases b
  refine ⟨(runOf R 0 [(0 : Int)]).toNat, by lia, by have := hg.2; have := hg.1; lia, fun u hu => ?_⟩
  have a := hu.2.1
  rw [T0 u hu.1, Ts u hu.1] at a
  simp only [List.length_nil, List.length_cons, Nat.zero_add] at a
  split at a <;> split at a
  ·exact absurd rfl a
  ·lia
  ·lia
  ·exact absurd rfl a
theorem chain_best {R S : List (List Int)} (hw : 1 ≤ w) (hn : 2 ≤ n) (L : Lean w (chainRows w n) (chainTags n) R S) :
  (∀ i j : Nat, i < R.length → j < R.length → i ≠ j → ∀ u, Best w R S i j u → u.length ≤ n - 2) ∧ ∃ s : Nat, 0 < s ∧ s < R.length ∧ ∀ u, Best w R S (0 : Nat) s u → u.length = n - 2 := by
 obtain ⟨k, rfl⟩ := Nat.exists_eq_add_of_le' hn
 exact chain_best' hw L
end Mine
section
open PySem PySem.W PyProof.Rows
namespace Mine
structure Wx where
 prog : Program
 w : World
 h : Heap
 mg : Str → Option Value
 mb : Str → Option Value
noncomputable def Wx.W (X : Wx) : Wd := ⟨X.prog, X.w, ⟨X.h, Hk.K X.w.params, X.mg, X.mb⟩⟩
theorem neWx : Nonempty Wx := let ⟨w⟩ := neWorld; ⟨⟨default, w, default, default, default⟩⟩
theorem FnOk.of {W : Wd} {fa : Addr} {fd : FuncData} {body : List Stmt} {c : Value} {od : Option Addr} {sl : Array (Option Value)} (h : W.K.lookup fa = some ⟨c, od, .func fd, sl⟩) (code : codeIn W.K fd.code fd.qualname = true)
 (hbody : fd.body = .stmts body) (clo : fd.closure = []) (glob : fd.globals = mainGlobals) (blt : fd.builtins = builtinsNs) (co : fd.scope.isCoroutine = false) (gen : fd.scope.isGenerator = false) (kind : fd.scope.kind = .function)
 (names : (fd.scope.names.all fun y => y.2 != .free) = true) (nodup : ((cellsFrom 0 fd.scope.names []).map (·.1)).Nodup) : FnOk W fa fd body := ⟨⟨_, h, rfl⟩, code, hbody, clo, glob, blt, co, gen, kind, names, nodup⟩
theorem E_globI {W : Wd} {sc : Scope} {d : Nat} {m : Loc} {H : List AObj} {x : Str} {pos i t Q} (hk : sc.names.lookup x = some .globalImplicit) (hv : nsIn W.K mainGlobals x = some (some (.int i t))) (h : Q (.int i) H) (hd : (x == ("__debug__" : Str)) = false := by decide +kernel) : Ev W sc d (.Name x pos) m H Q := fun env A Φ μ s F => by
 refine wpAny_mono (E_glob (Q := fun a H' => a = .raw (.int i t) ∧ H' = H) hk hv ⟨rfl, rfl⟩ hd env A Φ μ s F) (fun v s' ⟨b, m', H', μ', K, I, L, r, e, eb, eh⟩ => ?_) fun _ _ x => x
 subst e eb eh
 exact ⟨.int i, m', H', μ', K, I, L, ⟨t, r⟩, rfl, h⟩
section
variable {X : Wx} {sc : Scope} {d : Nat} {m : Loc} {H : List AObj} {Q : V → List AObj → Prop} {args : List Expr} {px pos : Pos}
theorem K_DEAD (h : Q (.int (-1)) H) (hk : sc.names.lookup ("DEAD" : Str) = some .globalImplicit := by left) : Ev X.W sc d (.Name "DEAD" px) m H Q := E_globI (i := -1) (t := 274) hk (by kernel_rfl) h
theorem K_spread (hk : sc.names.lookup ("spread" : Str) = some .globalImplicit) (h : Evs X.W sc d pos args m H fun as H2 => Cl X.W d (.ref 68) as H2 Q) (hp : ∀ env, (backTo pos (starEach args env)).any (·.1) = false := by intro _; rfl) : Ev X.W sc d (.Call (.Name "spread" px) args [] pos) m H Q :=
 E_call (E_glob (v := .ref 68) hk (by kernel_rfl) ⟨_, rfl, Kept.fn (by kernel_rfl), h⟩) hp
theorem K_turned (hk : sc.names.lookup ("turned" : Str) = some .globalImplicit) (h : Evs X.W sc d pos args m H fun as H2 => Cl X.W d (.ref 73) as H2 Q) (hp : ∀ env, (backTo pos (starEach args env)).any (·.1) = false := by intro _; rfl) : Ev X.W sc d (.Call (.Name "turned" px) args [] pos) m H Q :=
 E_call (E_glob (v := .ref 73) hk (by kernel_rfl) ⟨_, rfl, Kept.fn (by kernel_rfl), h⟩) hp
theorem K_run (hk : sc.names.lookup ("run" : Str) = some .globalImplicit) (h : Evs X.W sc d pos args m H fun as H2 => Cl X.W d (.ref 135) as H2 Q) (hp : ∀ env, (backTo pos (starEach args env)).any (·.1) = false := by intro _; rfl) : Ev X.W sc d (.Call (.Name "run" px) args [] pos) m H Q :=
 E_call (E_glob (v := .ref 135) hk (by kernel_rfl) ⟨_, rfl, Kept.fn (by kernel_rfl), h⟩) hp
theorem K_accepts (hk : sc.names.lookup ("accepts" : Str) = some .globalImplicit) (h : Evs X.W sc d pos args m H fun as H2 => Cl X.W d (.ref 142) as H2 Q) (hp : ∀ env, (backTo pos (starEach args env)).any (·.1) = false := by intro _; rfl) : Ev X.W sc d (.Call (.Name "accepts" px) args [] pos) m H Q :=
 E_call (E_glob (v := .ref 142) hk (by kernel_rfl) ⟨_, rfl, Kept.fn (by kernel_rfl), h⟩) hp
theorem K_alive (hk : sc.names.lookup ("alive" : Str) = some .globalImplicit) (h : Evs X.W sc d pos args m H fun as H2 => Cl X.W d (.ref 147) as H2 Q) (hp : ∀ env, (backTo pos (starEach args env)).any (·.1) = false := by intro _; rfl) : Ev X.W sc d (.Call (.Name "alive" px) args [] pos) m H Q :=
 E_call (E_glob (v := .ref 147) hk (by kernel_rfl) ⟨_, rfl, Kept.fn (by kernel_rfl), h⟩) hp
theorem K_numbered_dfa (hk : sc.names.lookup ("numbered_dfa" : Str) = some .globalImplicit) (h : Evs X.W sc d pos args m H fun as H2 => Cl X.W d (.ref 152) as H2 Q) (hp : ∀ env, (backTo pos (starEach args env)).any (·.1) = false := by intro _; rfl) : Ev X.W sc d (.Call (.Name "numbered_dfa" px) args [] pos) m H Q :=
 E_call (E_glob (v := .ref 152) hk (by kernel_rfl) ⟨_, rfl, Kept.fn (by kernel_rfl), h⟩) hp
theorem K_trimmed (hk : sc.names.lookup ("trimmed" : Str) = some .globalImplicit) (h : Evs X.W sc d pos args m H fun as H2 => Cl X.W d (.ref 159) as H2 Q) (hp : ∀ env, (backTo pos (starEach args env)).any (·.1) = false := by intro _; rfl) : Ev X.W sc d (.Call (.Name "trimmed" px) args [] pos) m H Q :=
 E_call (E_glob (v := .ref 159) hk (by kernel_rfl) ⟨_, rfl, Kept.fn (by kernel_rfl), h⟩) hp
theorem K_completed (hk : sc.names.lookup ("completed" : Str) = some .globalImplicit) (h : Evs X.W sc d pos args m H fun as H2 => Cl X.W d (.ref 164) as H2 Q) (hp : ∀ env, (backTo pos (starEach args env)).any (·.1) = false := by intro _; rfl) : Ev X.W sc d (.Call (.Name "completed" px) args [] pos) m H Q :=
 E_call (E_glob (v := .ref 164) hk (by kernel_rfl) ⟨_, rfl, Kept.fn (by kernel_rfl), h⟩) hp
theorem K_numbered_minimal (hk : sc.names.lookup ("numbered_minimal" : Str) = some .globalImplicit) (h : Evs X.W sc d pos args m H fun as H2 => Cl X.W d (.ref 227) as H2 Q) (hp : ∀ env, (backTo pos (starEach args env)).any (·.1) = false := by intro _; rfl) : Ev X.W sc d (.Call (.Name "numbered_minimal" px) args [] pos) m H Q :=
 E_call (E_glob (v := .ref 227) hk (by kernel_rfl) ⟨_, rfl, Kept.fn (by kernel_rfl), h⟩) hp
theorem K_ways_back (hk : sc.names.lookup ("ways_back" : Str) = some .globalImplicit) (h : Evs X.W sc d pos args m H fun as H2 => Cl X.W d (.ref 232) as H2 Q) (hp : ∀ env, (backTo pos (starEach args env)).any (·.1) = false := by intro _; rfl) : Ev X.W sc d (.Call (.Name "ways_back" px) args [] pos) m H Q :=
 E_call (E_glob (v := .ref 232) hk (by kernel_rfl) ⟨_, rfl, Kept.fn (by kernel_rfl), h⟩) hp
theorem K_refine (hk : sc.names.lookup ("refine" : Str) = some .globalImplicit) (h : Evs X.W sc d pos args m H fun as H2 => Cl X.W d (.ref 239) as H2 Q) (hp : ∀ env, (backTo pos (starEach args env)).any (·.1) = false := by intro _; rfl) : Ev X.W sc d (.Call (.Name "refine" px) args [] pos) m H Q :=
 E_call (E_glob (v := .ref 239) hk (by kernel_rfl) ⟨_, rfl, Kept.fn (by kernel_rfl), h⟩) hp
theorem K_joined (hk : sc.names.lookup ("joined" : Str) = some .globalImplicit) (h : Evs X.W sc d pos args m H fun as H2 => Cl X.W d (.ref 244) as H2 Q) (hp : ∀ env, (backTo pos (starEach args env)).any (·.1) = false := by intro _; rfl) : Ev X.W sc d (.Call (.Name "joined" px) args [] pos) m H Q :=
 E_call (E_glob (v := .ref 244) hk (by kernel_rfl) ⟨_, rfl, Kept.fn (by kernel_rfl), h⟩) hp
theorem K_least (hk : sc.names.lookup ("least" : Str) = some .globalImplicit) (h : Evs X.W sc d pos args m H fun as H2 => Cl X.W d (.ref 251) as H2 Q) (hp : ∀ env, (backTo pos (starEach args env)).any (·.1) = false := by intro _; rfl) : Ev X.W sc d (.Call (.Name "least" px) args [] pos) m H Q :=
 E_call (E_glob (v := .ref 251) hk (by kernel_rfl) ⟨_, rfl, Kept.fn (by kernel_rfl), h⟩) hp
theorem K_goal_of (hk : sc.names.lookup ("goal_of" : Str) = some .globalImplicit) (h : Evs X.W sc d pos args m H fun as H2 => Cl X.W d (.ref 293) as H2 Q) (hp : ∀ env, (backTo pos (starEach args env)).any (·.1) = false := by intro _; rfl) : Ev X.W sc d (.Call (.Name "goal_of" px) args [] pos) m H Q :=
 E_call (E_glob (v := .ref 293) hk (by kernel_rfl) ⟨_, rfl, Kept.fn (by kernel_rfl), h⟩) hp
theorem K_tags_at (hk : sc.names.lookup ("tags_at" : Str) = some .globalImplicit) (h : Evs X.W sc d pos args m H fun as H2 => Cl X.W d (.ref 300) as H2 Q) (hp : ∀ env, (backTo pos (starEach args env)).any (·.1) = false := by intro _; rfl) : Ev X.W sc d (.Call (.Name "tags_at" px) args [] pos) m H Q :=
 E_call (E_glob (v := .ref 300) hk (by kernel_rfl) ⟨_, rfl, Kept.fn (by kernel_rfl), h⟩) hp
theorem K_place_of (hk : sc.names.lookup ("place_of" : Str) = some .globalImplicit) (h : Evs X.W sc d pos args m H fun as H2 => Cl X.W d (.ref 307) as H2 Q) (hp : ∀ env, (backTo pos (starEach args env)).any (·.1) = false := by intro _; rfl) : Ev X.W sc d (.Call (.Name "place_of" px) args [] pos) m H Q :=
 E_call (E_glob (v := .ref 307) hk (by kernel_rfl) ⟨_, rfl, Kept.fn (by kernel_rfl), h⟩) hp
theorem K_check_counts (hk : sc.names.lookup ("check_counts" : Str) = some .globalImplicit) (h : Evs X.W sc d pos args m H fun as H2 => Cl X.W d (.ref 314) as H2 Q) (hp : ∀ env, (backTo pos (starEach args env)).any (·.1) = false := by intro _; rfl) : Ev X.W sc d (.Call (.Name "check_counts" px) args [] pos) m H Q :=
 E_call (E_glob (v := .ref 314) hk (by kernel_rfl) ⟨_, rfl, Kept.fn (by kernel_rfl), h⟩) hp
theorem K_same (hk : sc.names.lookup ("same" : Str) = some .globalImplicit) (h : Evs X.W sc d pos args m H fun as H2 => Cl X.W d (.ref 321) as H2 Q) (hp : ∀ env, (backTo pos (starEach args env)).any (·.1) = false := by intro _; rfl) : Ev X.W sc d (.Call (.Name "same" px) args [] pos) m H Q :=
 E_call (E_glob (v := .ref 321) hk (by kernel_rfl) ⟨_, rfl, Kept.fn (by kernel_rfl), h⟩) hp
theorem K_first_word (hk : sc.names.lookup ("first_word" : Str) = some .globalImplicit) (h : Evs X.W sc d pos args m H fun as H2 => Cl X.W d (.ref 328) as H2 Q) (hp : ∀ env, (backTo pos (starEach args env)).any (·.1) = false := by intro _; rfl) : Ev X.W sc d (.Call (.Name "first_word" px) args [] pos) m H Q :=
 E_call (E_glob (v := .ref 328) hk (by kernel_rfl) ⟨_, rfl, Kept.fn (by kernel_rfl), h⟩) hp
theorem K_difference (hk : sc.names.lookup ("difference" : Str) = some .globalImplicit) (h : Evs X.W sc d pos args m H fun as H2 => Cl X.W d (.ref 335) as H2 Q) (hp : ∀ env, (backTo pos (starEach args env)).any (·.1) = false := by intro _; rfl) : Ev X.W sc d (.Call (.Name "difference" px) args [] pos) m H Q :=
 E_call (E_glob (v := .ref 335) hk (by kernel_rfl) ⟨_, rfl, Kept.fn (by kernel_rfl), h⟩) hp
theorem K_pair_key (hk : sc.names.lookup ("pair_key" : Str) = some .globalImplicit) (h : Evs X.W sc d pos args m H fun as H2 => Cl X.W d (.ref 342) as H2 Q) (hp : ∀ env, (backTo pos (starEach args env)).any (·.1) = false := by intro _; rfl) : Ev X.W sc d (.Call (.Name "pair_key" px) args [] pos) m H Q :=
 E_call (E_glob (v := .ref 342) hk (by kernel_rfl) ⟨_, rfl, Kept.fn (by kernel_rfl), h⟩) hp
theorem K_way_apart (hk : sc.names.lookup ("way_apart" : Str) = some .globalImplicit) (h : Evs X.W sc d pos args m H fun as H2 => Cl X.W d (.ref 349) as H2 Q) (hp : ∀ env, (backTo pos (starEach args env)).any (·.1) = false := by intro _; rfl) : Ev X.W sc d (.Call (.Name "way_apart" px) args [] pos) m H Q :=
 E_call (E_glob (v := .ref 349) hk (by kernel_rfl) ⟨_, rfl, Kept.fn (by kernel_rfl), h⟩) hp
theorem K_words_apart (hk : sc.names.lookup ("words_apart" : Str) = some .globalImplicit) (h : Evs X.W sc d pos args m H fun as H2 => Cl X.W d (.ref 356) as H2 Q) (hp : ∀ env, (backTo pos (starEach args env)).any (·.1) = false := by intro _; rfl) : Ev X.W sc d (.Call (.Name "words_apart" px) args [] pos) m H Q :=
 E_call (E_glob (v := .ref 356) hk (by kernel_rfl) ⟨_, rfl, Kept.fn (by kernel_rfl), h⟩) hp
theorem K__law_pen (hk : sc.names.lookup ("_law_pen" : Str) = some .globalImplicit) (h : Evs X.W sc d pos args m H fun as H2 => Cl X.W d (.ref 363) as H2 Q) (hp : ∀ env, (backTo pos (starEach args env)).any (·.1) = false := by intro _; rfl) : Ev X.W sc d (.Call (.Name "_law_pen" px) args [] pos) m H Q :=
 E_call (E_glob (v := .ref 363) hk (by kernel_rfl) ⟨_, rfl, Kept.fn (by kernel_rfl), h⟩) hp
theorem K__law_draw (hk : sc.names.lookup ("_law_draw" : Str) = some .globalImplicit) (h : Evs X.W sc d pos args m H fun as H2 => Cl X.W d (.ref 370) as H2 Q) (hp : ∀ env, (backTo pos (starEach args env)).any (·.1) = false := by intro _; rfl) : Ev X.W sc d (.Call (.Name "_law_draw" px) args [] pos) m H Q :=
 E_call (E_glob (v := .ref 370) hk (by kernel_rfl) ⟨_, rfl, Kept.fn (by kernel_rfl), h⟩) hp
theorem K__law_automaton (hk : sc.names.lookup ("_law_automaton" : Str) = some .globalImplicit) (h : Evs X.W sc d pos args m H fun as H2 => Cl X.W d (.ref 375) as H2 Q) (hp : ∀ env, (backTo pos (starEach args env)).any (·.1) = false := by intro _; rfl) : Ev X.W sc d (.Call (.Name "_law_automaton" px) args [] pos) m H Q :=
 E_call (E_glob (v := .ref 375) hk (by kernel_rfl) ⟨_, rfl, Kept.fn (by kernel_rfl), h⟩) hp
theorem K__law_bound (hk : sc.names.lookup ("_law_bound" : Str) = some .globalImplicit) (h : Evs X.W sc d pos args m H fun as H2 => Cl X.W d (.ref 380) as H2 Q) (hp : ∀ env, (backTo pos (starEach args env)).any (·.1) = false := by intro _; rfl) : Ev X.W sc d (.Call (.Name "_law_bound" px) args [] pos) m H Q :=
 E_call (E_glob (v := .ref 380) hk (by kernel_rfl) ⟨_, rfl, Kept.fn (by kernel_rfl), h⟩) hp
theorem K__law_tags (hk : sc.names.lookup ("_law_tags" : Str) = some .globalImplicit) (h : Evs X.W sc d pos args m H fun as H2 => Cl X.W d (.ref 387) as H2 Q) (hp : ∀ env, (backTo pos (starEach args env)).any (·.1) = false := by intro _; rfl) : Ev X.W sc d (.Call (.Name "_law_tags" px) args [] pos) m H Q :=
 E_call (E_glob (v := .ref 387) hk (by kernel_rfl) ⟨_, rfl, Kept.fn (by kernel_rfl), h⟩) hp
theorem K__law_words (hk : sc.names.lookup ("_law_words" : Str) = some .globalImplicit) (h : Evs X.W sc d pos args m H fun as H2 => Cl X.W d (.ref 392) as H2 Q) (hp : ∀ env, (backTo pos (starEach args env)).any (·.1) = false := by intro _; rfl) : Ev X.W sc d (.Call (.Name "_law_words" px) args [] pos) m H Q :=
 E_call (E_glob (v := .ref 392) hk (by kernel_rfl) ⟨_, rfl, Kept.fn (by kernel_rfl), h⟩) hp
theorem K__law_first (hk : sc.names.lookup ("_law_first" : Str) = some .globalImplicit) (h : Evs X.W sc d pos args m H fun as H2 => Cl X.W d (.ref 399) as H2 Q) (hp : ∀ env, (backTo pos (starEach args env)).any (·.1) = false := by intro _; rfl) : Ev X.W sc d (.Call (.Name "_law_first" px) args [] pos) m H Q :=
 E_call (E_glob (v := .ref 399) hk (by kernel_rfl) ⟨_, rfl, Kept.fn (by kernel_rfl), h⟩) hp
theorem K_Dfa (hk : sc.names.lookup ("Dfa" : Str) = some .globalImplicit) (h : Evs X.W sc d pos args m H fun as H2 => Cl X.W d (.ref 123) as H2 Q) (hp : ∀ env, (backTo pos (starEach args env)).any (·.1) = false := by intro _; rfl) : Ev X.W sc d (.Call (.Name "Dfa" px) args [] pos) m H Q :=
 E_call (E_glob (v := .ref 123) hk (by kernel_rfl) ⟨_, rfl, Kept.fn (by kernel_rfl), h⟩) hp
theorem K_Partition (hk : sc.names.lookup ("Partition" : Str) = some .globalImplicit) (h : Evs X.W sc d pos args m H fun as H2 => Cl X.W d (.ref 216) as H2 Q) (hp : ∀ env, (backTo pos (starEach args env)).any (·.1) = false := by intro _; rfl) : Ev X.W sc d (.Call (.Name "Partition" px) args [] pos) m H Q :=
 E_call (E_glob (v := .ref 216) hk (by kernel_rfl) ⟨_, rfl, Kept.fn (by kernel_rfl), h⟩) hp
theorem K_Merger (hk : sc.names.lookup ("Merger" : Str) = some .globalImplicit) (h : Evs X.W sc d pos args m H fun as H2 => Cl X.W d (.ref 282) as H2 Q) (hp : ∀ env, (backTo pos (starEach args env)).any (·.1) = false := by intro _; rfl) : Ev X.W sc d (.Call (.Name "Merger" px) args [] pos) m H Q :=
 E_call (E_glob (v := .ref 282) hk (by kernel_rfl) ⟨_, rfl, Kept.fn (by kernel_rfl), h⟩) hp
theorem K_len (hk : sc.names.lookup ("len" : Str) = some .globalImplicit) (h : Evs X.W sc d pos args m H fun as H2 => Cl X.W d (.builtin "len") as H2 Q) (hp : ∀ env, (backTo pos (starEach args env)).any (·.1) = false := by intro _; rfl) : Ev X.W sc d (.Call (.Name "len" px) args [] pos) m H Q :=
 E_call (E_blt (v := .builtin "len") hk (by kernel_rfl) (by kernel_rfl) (by decide) ⟨_, rfl, Kept.blt, h⟩) hp
theorem K_min (hk : sc.names.lookup ("min" : Str) = some .globalImplicit) (h : Evs X.W sc d pos args m H fun as H2 => Cl X.W d (.builtin "min") as H2 Q) (hp : ∀ env, (backTo pos (starEach args env)).any (·.1) = false := by intro _; rfl) : Ev X.W sc d (.Call (.Name "min" px) args [] pos) m H Q :=
 E_call (E_blt (v := .builtin "min") hk (by kernel_rfl) (by kernel_rfl) (by decide) ⟨_, rfl, Kept.blt, h⟩) hp
theorem K_max (hk : sc.names.lookup ("max" : Str) = some .globalImplicit) (h : Evs X.W sc d pos args m H fun as H2 => Cl X.W d (.builtin "max") as H2 Q) (hp : ∀ env, (backTo pos (starEach args env)).any (·.1) = false := by intro _; rfl) : Ev X.W sc d (.Call (.Name "max" px) args [] pos) m H Q :=
 E_call (E_blt (v := .builtin "max") hk (by kernel_rfl) (by kernel_rfl) (by decide) ⟨_, rfl, Kept.blt, h⟩) hp
theorem K_abs (hk : sc.names.lookup ("abs" : Str) = some .globalImplicit) (h : Evs X.W sc d pos args m H fun as H2 => Cl X.W d (.builtin "abs") as H2 Q) (hp : ∀ env, (backTo pos (starEach args env)).any (·.1) = false := by intro _; rfl) : Ev X.W sc d (.Call (.Name "abs" px) args [] pos) m H Q :=
 E_call (E_blt (v := .builtin "abs") hk (by kernel_rfl) (by kernel_rfl) (by decide) ⟨_, rfl, Kept.blt, h⟩) hp
theorem K_any (hk : sc.names.lookup ("any" : Str) = some .globalImplicit) (h : Evs X.W sc d pos args m H fun as H2 => Cl X.W d (.builtin "any") as H2 Q) (hp : ∀ env, (backTo pos (starEach args env)).any (·.1) = false := by intro _; rfl) : Ev X.W sc d (.Call (.Name "any" px) args [] pos) m H Q :=
 E_call (E_blt (v := .builtin "any") hk (by kernel_rfl) (by kernel_rfl) (by decide) ⟨_, rfl, Kept.blt, h⟩) hp
theorem K_sorted (hk : sc.names.lookup ("sorted" : Str) = some .globalImplicit) (h : Evs X.W sc d pos args m H fun as H2 => Cl X.W d (.builtin "sorted") as H2 Q) (hp : ∀ env, (backTo pos (starEach args env)).any (·.1) = false := by intro _; rfl) : Ev X.W sc d (.Call (.Name "sorted" px) args [] pos) m H Q :=
 E_call (E_blt (v := .builtin "sorted") hk (by kernel_rfl) (by kernel_rfl) (by decide) ⟨_, rfl, Kept.blt, h⟩) hp
theorem K_range (hk : sc.names.lookup ("range" : Str) = some .globalImplicit) (h : Evs X.W sc d pos args m H fun as H2 => Cl X.W d (.type "range") as H2 Q) (hp : ∀ env, (backTo pos (starEach args env)).any (·.1) = false := by intro _; rfl) : Ev X.W sc d (.Call (.Name "range" px) args [] pos) m H Q :=
 E_call (E_blt (v := .type "range") hk (by kernel_rfl) (by kernel_rfl) (by decide) ⟨_, rfl, Kept.typ, h⟩) hp
theorem K_list (hk : sc.names.lookup ("list" : Str) = some .globalImplicit) (h : Evs X.W sc d pos args m H fun as H2 => Cl X.W d (.type "list") as H2 Q) (hp : ∀ env, (backTo pos (starEach args env)).any (·.1) = false := by intro _; rfl) : Ev X.W sc d (.Call (.Name "list" px) args [] pos) m H Q :=
 E_call (E_blt (v := .type "list") hk (by kernel_rfl) (by kernel_rfl) (by decide) ⟨_, rfl, Kept.typ, h⟩) hp
theorem K_int (hk : sc.names.lookup ("int" : Str) = some .globalImplicit) (h : Evs X.W sc d pos args m H fun as H2 => Cl X.W d (.type "int") as H2 Q) (hp : ∀ env, (backTo pos (starEach args env)).any (·.1) = false := by intro _; rfl) : Ev X.W sc d (.Call (.Name "int" px) args [] pos) m H Q :=
 E_call (E_blt (v := .type "int") hk (by kernel_rfl) (by kernel_rfl) (by decide) ⟨_, rfl, Kept.typ, h⟩) hp
theorem K_dict (hk : sc.names.lookup ("dict" : Str) = some .globalImplicit) (h : Evs X.W sc d pos args m H fun as H2 => Cl X.W d (.type "dict") as H2 Q) (hp : ∀ env, (backTo pos (starEach args env)).any (·.1) = false := by intro _; rfl) : Ev X.W sc d (.Call (.Name "dict" px) args [] pos) m H Q :=
 E_call (E_blt (v := .type "dict") hk (by kernel_rfl) (by kernel_rfl) (by decide) ⟨_, rfl, Kept.typ, h⟩) hp
theorem mo_class_count : methOk X.W.K 123 "class_count" 94 = true := by kernel_rfl
theorem O_class_count {a0 a1 : V} : MethOf X.W (.obj 123 ["rows", "tags"] [a0, a1]) H "class_count" (.ref 94) := M_obj mo_class_count (by rfl)
theorem Kf_class_count : Kept X.W (.ref 94) := Kept.fn (by kernel_rfl)
theorem mo_state_count : methOk X.W.K 123 "state_count" 101 = true := by kernel_rfl
theorem O_state_count {a0 a1 : V} : MethOf X.W (.obj 123 ["rows", "tags"] [a0, a1]) H "state_count" (.ref 101) := M_obj mo_state_count (by rfl)
theorem Kf_state_count : Kept X.W (.ref 101) := Kept.fn (by kernel_rfl)
theorem mo_step : methOk X.W.K 123 "step" 108 = true := by kernel_rfl
theorem O_step {a0 a1 : V} : MethOf X.W (.obj 123 ["rows", "tags"] [a0, a1]) H "step" (.ref 108) := M_obj mo_step (by rfl)
theorem Kf_step : Kept X.W (.ref 108) := Kept.fn (by kernel_rfl)
theorem mo_links : methOk X.W.K 123 "links" 113 = true := by kernel_rfl
theorem O_links {a0 a1 : V} : MethOf X.W (.obj 123 ["rows", "tags"] [a0, a1]) H "links" (.ref 113) := M_obj mo_links (by rfl)
theorem Kf_links : Kept X.W (.ref 113) := Kept.fn (by kernel_rfl)
theorem ao_123_rows : attrOk X.W.K 123 "rows" = true := by kernel_rfl
theorem F_123_rows {a0 a1 : V} (h : Q a0 H) (hr : ∀ w, a0 ≠ .raw w := by intro w h; cases h) : Ga X.W d (.obj 123 ["rows", "tags"] [a0, a1]) "rows" H Q := Ga_obj ao_123_rows (by rfl) hr h
theorem ao_123_tags : attrOk X.W.K 123 "tags" = true := by kernel_rfl
theorem F_123_tags {a0 a1 : V} (h : Q a1 H) (hr : ∀ w, a1 ≠ .raw w := by intro w h; cases h) : Ga X.W d (.obj 123 ["rows", "tags"] [a0, a1]) "tags" H Q := Ga_obj ao_123_tags (by rfl) hr h
theorem so_123_rows : storeOk X.W.K 123 "rows" = true := by kernel_rfl
theorem so_123_tags : storeOk X.W.K 123 "tags" = true := by kernel_rfl
theorem mo_block_count : methOk X.W.K 216 "block_count" 185 = true := by kernel_rfl
theorem M_block_count {k : Nat} {a0 a1 a2 a3 a4 a5 a6 : V} (hk : H[k]? = some (.inst 216 ["row", "places", "blocks", "begins", "ends", "marked", "touched"] [a0, a1, a2, a3, a4, a5, a6])) : MethOf X.W (.ref k) H "block_count" (.ref 185) := M_inst hk mo_block_count (by rfl)
theorem Kf_block_count : Kept X.W (.ref 185) := Kept.fn (by kernel_rfl)
theorem mo_size : methOk X.W.K 216 "size" 192 = true := by kernel_rfl
theorem M_size {k : Nat} {a0 a1 a2 a3 a4 a5 a6 : V} (hk : H[k]? = some (.inst 216 ["row", "places", "blocks", "begins", "ends", "marked", "touched"] [a0, a1, a2, a3, a4, a5, a6])) : MethOf X.W (.ref k) H "size" (.ref 192) := M_inst hk mo_size (by rfl)
theorem Kf_size : Kept X.W (.ref 192) := Kept.fn (by kernel_rfl)
theorem mo_members : methOk X.W.K 216 "members" 199 = true := by kernel_rfl
theorem M_members {k : Nat} {a0 a1 a2 a3 a4 a5 a6 : V} (hk : H[k]? = some (.inst 216 ["row", "places", "blocks", "begins", "ends", "marked", "touched"] [a0, a1, a2, a3, a4, a5, a6])) : MethOf X.W (.ref k) H "members" (.ref 199) := M_inst hk mo_members (by rfl)
theorem Kf_members : Kept X.W (.ref 199) := Kept.fn (by kernel_rfl)
theorem mo_mark : methOk X.W.K 216 "mark" 206 = true := by kernel_rfl
theorem M_mark {k : Nat} {a0 a1 a2 a3 a4 a5 a6 : V} (hk : H[k]? = some (.inst 216 ["row", "places", "blocks", "begins", "ends", "marked", "touched"] [a0, a1, a2, a3, a4, a5, a6])) : MethOf X.W (.ref k) H "mark" (.ref 206) := M_inst hk mo_mark (by rfl)
theorem Kf_mark : Kept X.W (.ref 206) := Kept.fn (by kernel_rfl)
theorem mo_split : methOk X.W.K 216 "split" 213 = true := by kernel_rfl
theorem M_split {k : Nat} {a0 a1 a2 a3 a4 a5 a6 : V} (hk : H[k]? = some (.inst 216 ["row", "places", "blocks", "begins", "ends", "marked", "touched"] [a0, a1, a2, a3, a4, a5, a6])) : MethOf X.W (.ref k) H "split" (.ref 213) := M_inst hk mo_split (by rfl)
theorem Kf_split : Kept X.W (.ref 213) := Kept.fn (by kernel_rfl)
theorem ao_216_row : attrOk X.W.K 216 "row" = true := by kernel_rfl
theorem A_216_row {k : Nat} {a0 a1 a2 a3 a4 a5 a6 : V} (hk : H[k]? = some (.inst 216 ["row", "places", "blocks", "begins", "ends", "marked", "touched"] [a0, a1, a2, a3, a4, a5, a6])) (hr : ∀ w, a0 ≠ .raw w) (h : Q a0 H) : Ga X.W d (.ref k) "row" H Q := Ga_inst hk ao_216_row (by rfl) hr h
theorem ao_216_places : attrOk X.W.K 216 "places" = true := by kernel_rfl
theorem A_216_places {k : Nat} {a0 a1 a2 a3 a4 a5 a6 : V} (hk : H[k]? = some (.inst 216 ["row", "places", "blocks", "begins", "ends", "marked", "touched"] [a0, a1, a2, a3, a4, a5, a6])) (hr : ∀ w, a1 ≠ .raw w) (h : Q a1 H) : Ga X.W d (.ref k) "places" H Q := Ga_inst hk ao_216_places (by rfl) hr h
theorem ao_216_blocks : attrOk X.W.K 216 "blocks" = true := by kernel_rfl
theorem A_216_blocks {k : Nat} {a0 a1 a2 a3 a4 a5 a6 : V} (hk : H[k]? = some (.inst 216 ["row", "places", "blocks", "begins", "ends", "marked", "touched"] [a0, a1, a2, a3, a4, a5, a6])) (hr : ∀ w, a2 ≠ .raw w) (h : Q a2 H) : Ga X.W d (.ref k) "blocks" H Q := Ga_inst hk ao_216_blocks (by rfl) hr h
theorem ao_216_begins : attrOk X.W.K 216 "begins" = true := by kernel_rfl
theorem A_216_begins {k : Nat} {a0 a1 a2 a3 a4 a5 a6 : V} (hk : H[k]? = some (.inst 216 ["row", "places", "blocks", "begins", "ends", "marked", "touched"] [a0, a1, a2, a3, a4, a5, a6])) (hr : ∀ w, a3 ≠ .raw w) (h : Q a3 H) : Ga X.W d (.ref k) "begins" H Q := Ga_inst hk ao_216_begins (by rfl) hr h
theorem ao_216_ends : attrOk X.W.K 216 "ends" = true := by kernel_rfl
theorem A_216_ends {k : Nat} {a0 a1 a2 a3 a4 a5 a6 : V} (hk : H[k]? = some (.inst 216 ["row", "places", "blocks", "begins", "ends", "marked", "touched"] [a0, a1, a2, a3, a4, a5, a6])) (hr : ∀ w, a4 ≠ .raw w) (h : Q a4 H) : Ga X.W d (.ref k) "ends" H Q := Ga_inst hk ao_216_ends (by rfl) hr h
theorem ao_216_marked : attrOk X.W.K 216 "marked" = true := by kernel_rfl
theorem A_216_marked {k : Nat} {a0 a1 a2 a3 a4 a5 a6 : V} (hk : H[k]? = some (.inst 216 ["row", "places", "blocks", "begins", "ends", "marked", "touched"] [a0, a1, a2, a3, a4, a5, a6])) (hr : ∀ w, a5 ≠ .raw w) (h : Q a5 H) : Ga X.W d (.ref k) "marked" H Q := Ga_inst hk ao_216_marked (by rfl) hr h
theorem ao_216_touched : attrOk X.W.K 216 "touched" = true := by kernel_rfl
theorem A_216_touched {k : Nat} {a0 a1 a2 a3 a4 a5 a6 : V} (hk : H[k]? = some (.inst 216 ["row", "places", "blocks", "begins", "ends", "marked", "touched"] [a0, a1, a2, a3, a4, a5, a6])) (hr : ∀ w, a6 ≠ .raw w) (h : Q a6 H) : Ga X.W d (.ref k) "touched" H Q := Ga_inst hk ao_216_touched (by rfl) hr h
theorem so_216_row : storeOk X.W.K 216 "row" = true := by kernel_rfl
theorem so_216_places : storeOk X.W.K 216 "places" = true := by kernel_rfl
theorem so_216_blocks : storeOk X.W.K 216 "blocks" = true := by kernel_rfl
theorem so_216_begins : storeOk X.W.K 216 "begins" = true := by kernel_rfl
theorem so_216_ends : storeOk X.W.K 216 "ends" = true := by kernel_rfl
theorem so_216_marked : storeOk X.W.K 216 "marked" = true := by kernel_rfl
theorem so_216_touched : storeOk X.W.K 216 "touched" = true := by kernel_rfl
theorem mo_head : methOk X.W.K 282 "head" 272 = true := by kernel_rfl
theorem M_head {k : Nat} {a0 a1 : V} (hk : H[k]? = some (.inst 282 ["heads", "sizes"] [a0, a1])) : MethOf X.W (.ref k) H "head" (.ref 272) := M_inst hk mo_head (by rfl)
theorem Kf_head : Kept X.W (.ref 272) := Kept.fn (by kernel_rfl)
theorem mo_join : methOk X.W.K 282 "join" 279 = true := by kernel_rfl
theorem M_join {k : Nat} {a0 a1 : V} (hk : H[k]? = some (.inst 282 ["heads", "sizes"] [a0, a1])) : MethOf X.W (.ref k) H "join" (.ref 279) := M_inst hk mo_join (by rfl)
theorem Kf_join : Kept X.W (.ref 279) := Kept.fn (by kernel_rfl)
theorem ao_282_heads : attrOk X.W.K 282 "heads" = true := by kernel_rfl
theorem A_282_heads {k : Nat} {a0 a1 : V} (hk : H[k]? = some (.inst 282 ["heads", "sizes"] [a0, a1])) (hr : ∀ w, a0 ≠ .raw w) (h : Q a0 H) : Ga X.W d (.ref k) "heads" H Q := Ga_inst hk ao_282_heads (by rfl) hr h
theorem ao_282_sizes : attrOk X.W.K 282 "sizes" = true := by kernel_rfl
theorem A_282_sizes {k : Nat} {a0 a1 : V} (hk : H[k]? = some (.inst 282 ["heads", "sizes"] [a0, a1])) (hr : ∀ w, a1 ≠ .raw w) (h : Q a1 H) : Ga X.W d (.ref k) "sizes" H Q := Ga_inst hk ao_282_sizes (by rfl) hr h
theorem so_282_heads : storeOk X.W.K 282 "heads" = true := by kernel_rfl
theorem so_282_sizes : storeOk X.W.K 282 "sizes" = true := by kernel_rfl
end
theorem at_get {H0 l : List AObj} {i : Nat} {o : AObj} (h : l[i]? = some o) : (H0 ++ l)[H0.length + i]? = some o := by rw [List.getElem?_append_right (Nat.le_add_right _ _), Nat.add_sub_cancel_left]; exact h
theorem at_get0 {H0 l : List AObj} {o : AObj} : (H0 ++ o :: l)[H0.length]? = some o := by simp
theorem at_set {H0 l : List AObj} {i : Nat} {o : AObj} : (H0 ++ l).set (H0.length + i) o = H0 ++ l.set i o := by rw [List.set_append_right _ _ (Nat.le_add_right _ _), Nat.add_sub_cancel_left]
theorem at_set0 {H0 l : List AObj} {o x : AObj} : (H0 ++ x :: l).set H0.length o = H0 ++ o :: l := by rw [List.set_append_right _ _ (Nat.le_refl _), Nat.sub_self]; rfl
end Mine
namespace Mine
noncomputable def vrow (r : List Int) : V := .lst (r.map V.int)
noncomputable def vtag (t : List Int) : V := .tup (t.map V.int)
noncomputable def vdfa (rows tags : List (List Int)) : V := .obj 123 ["rows", "tags"] [.lst (rows.map vrow), .lst (tags.map vtag)]
theorem isTup {W : Wd} {sc : Scope} {d : Nat} {m : Loc} {H : List AObj} {ts : List Expr} {k : Nat} {tpos : Pos} {value : Expr} {pos : Pos} {Q : AF → Loc → List AObj → Prop} (h : Sx W sc d (.Assign [.Tuple ts k tpos] value pos) m H Q) : Sx W sc d (.Assign [.Tuple ts k tpos] value pos) m H Q := h
theorem Cps_of {W : Wd} {sc scope : Scope} {d : Nat} {m : Loc} {H : List AObj} {elt : Expr} {g : Comprehension} {gs : List Comprehension} {Q : List AObj → List V → Prop} (h : Ev W sc d g.iter m H fun src H1 => CpLp W (relabS sc scope) d (CpIn W (relabS sc scope) d elt gs) g src (compLoc sc scope m) H1 [] Q) : Cps W sc d elt g gs scope m H Q := h
theorem G_true {A B : Prop} (h : A) : if true = true then A else B := h
theorem G_false {A B : Prop} (h : B) : if false = true then A else B := h
theorem F_dfa_rows {X : Wx} {d : Nat} {H : List AObj} {rows tags : List (List Int)} {Q : V → List AObj → Prop} (h : Q (.lst (rows.map vrow)) H) : Ga X.W d (vdfa rows tags) "rows" H Q := F_123_rows h
theorem F_dfa_tags {X : Wx} {d : Nat} {H : List AObj} {rows tags : List (List Int)} {Q : V → List AObj → Prop} (h : Q (.lst (tags.map vtag)) H) : Ga X.W d (vdfa rows tags) "tags" H Q := F_123_tags h
theorem G_nfalse {A B : Prop} (h : A) : if (!false) = true then A else B := h
theorem len0 {P : List Value → Prop} (h : P []) : ∀ vs : List Value, vs.length = 0 → P vs := by
 intro vs e
 cases vs with
 | nil => exact h
 | cons _ _ => cases e
theorem lenS {n : Nat} {P : List Value → Prop} (h : ∀ a, ∀ vs : List Value, vs.length = n → P (a :: vs)) : ∀ vs : List Value, vs.length = n + 1 → P vs := by
 intro vs e
 cases vs with
 | nil => cases e
 | cons a vs => exact h a vs (Nat.succ.inj e)
theorem Ss.abs {W : Wd} {sc : Scope} {d : Nat} {m : Loc} {H : List AObj} {st : List Stmt} {Q : AF → Loc → List AObj → Prop} (h : ∀ R : AF → Loc → List AObj → Prop, (∀ f m H, Q f m H → R f m H) → Ss W sc d st m H R) : Ss W sc d st m H Q := h Q fun _ _ _ q => q
theorem toR {R Q : AF → Loc → List AObj → Prop} {f : AF} {m : Loc} {H : List AObj} (h : ∀ f m H, Q f m H → R f m H) (q : Q f m H) : R f m H := h _ _ _ q
noncomputable def Has (m : Loc) (ks : List Str) (vs : List V) : Prop := ∀ (i : Nat) x a, ks[i]? = some x → vs[i]? = some a → m x = some a
theorem Has.nil {m : Loc} : Has m [] [] := fun i x a e => by cases e
theorem Has.cons {m : Loc} {x : Str} {a : V} {ks : List Str} {vs : List V} (h : m x = some a) (t : Has m ks vs) : Has m (x :: ks) (a :: vs)
 | 0, y, b, e, e' => by cases e; cases e'; exact h
 | i + 1, y, b, e, e' => t i y b e e'
theorem Has.put {m : Loc} {x : Str} {a : V} {ks : List Str} {vs : List V} (ne : (ks.all fun y => !(y == x)) = true) (h : Has m ks vs) : Has (m.put x a) ks vs := fun i y b e e' => by
 have := List.all_eq_true.mp ne y (List.mem_of_getElem? e)
 simp only [Bool.not_eq_true'] at this
 exact Loc.put_ne this (h i y b e e')
theorem Has.g0 {m : Loc} {x : Str} {a : V} {ks : List Str} {vs : List V} (h : Has m (x :: ks) (a :: vs)) : m x = some a := h 0 _ _ rfl rfl
theorem Has.g1 {m : Loc} {x : Str} {a : V} {p0 : Str} {q0 : V} {ks : List Str} {vs : List V} (h : Has m (p0 :: x :: ks) (q0 :: a :: vs)) : m x = some a := h 1 _ _ rfl rfl
theorem Has.g2 {m : Loc} {x : Str} {a : V} {p0 p1 : Str} {q0 q1 : V} {ks : List Str} {vs : List V} (h : Has m (p0 :: p1 :: x :: ks) (q0 :: q1 :: a :: vs)) : m x = some a := h 2 _ _ rfl rfl
theorem Has.g3 {m : Loc} {x : Str} {a : V} {p0 p1 p2 : Str} {q0 q1 q2 : V} {ks : List Str} {vs : List V} (h : Has m (p0 :: p1 :: p2 :: x :: ks) (q0 :: q1 :: q2 :: a :: vs)) : m x = some a := h 3 _ _ rfl rfl
theorem Has.g4 {m : Loc} {x : Str} {a : V} {p0 p1 p2 p3 : Str} {q0 q1 q2 q3 : V} {ks : List Str} {vs : List V} (h : Has m (p0 :: p1 :: p2 :: p3 :: x :: ks) (q0 :: q1 :: q2 :: q3 :: a :: vs)) : m x = some a := h 4 _ _ rfl rfl
theorem Has.g5 {m : Loc} {x : Str} {a : V} {p0 p1 p2 p3 p4 : Str} {q0 q1 q2 q3 q4 : V} {ks : List Str} {vs : List V} (h : Has m (p0 :: p1 :: p2 :: p3 :: p4 :: x :: ks) (q0 :: q1 :: q2 :: q3 :: q4 :: a :: vs)) : m x = some a := h 5 _ _ rfl rfl
local macro_rules | `(tactic| left) => `(tactic| first | ((fail_if_success (fail_if_success decide +kernel)); kernel_rfl) | decide +kernel)
local macro_rules | `(tactic| bv_omega) => do
 let r ← alts ("Has.g5 Has.g4 Has.g3 Has.g2 Has.g1 Has.g0".splitOn " ") (← `(tactic| fail)) fun i => `(tactic| exact $i (by assumption))
 `(tactic| ((repeat first | refine Loc.put_ne (by left) ?_ | refine compLoc_free (by left) ?_); first | exact Loc.put_eq | assumption | with_reducible ($r:tactic)))
local macro_rules | `(tactic| sizeOf_list_dec) => do
 let f (i : Lean.Ident) : Lean.MacroM (Lean.TSyntax `tactic) := `(tactic| with_reducible refine $i ?_)
 let r ← alts ("CpIfs_one CpIfs_nil CpIn_cons CpIn_nil Cps_of P_neg Es_nil Es_cons S_nil S_cons".splitOn " ") (← `(tactic| first | ((with_reducible refine isTup ?_); refine S_setTup ?_) | with_reducible refine toR (by assumption) ?_)) f
 altsG f ["ite", "G_ntrue G_nfalse G_false G_true", "Ga", "F_dfa_tags F_dfa_rows F_123_tags F_123_rows", "Tr", "Tr_none Tr_int Tr_bool", "Pr2", "P_neI P_eqI P_ge P_gt P_le P_lt P_sub P_add", "Tvs", "T_or0 T_and0 T_or T_and", "Tv", "T_val T_bo T_not T_cmp", "Ev", "E_tup E_if E_un K_DEAD E_free E_cell E_none E_bool E_cmp E_bin E_sub E_attr E_int E_local", "Sx", "S_cont S_ret0 S_setAttr S_setSub S_ret S_expr S_if S_set"] r
local macro_rules | `(tactic| ac_rfl) => `(tactic| repeat sizeOf_list_dec)
set_option tactic.hygienic false
theorem map_get {α : Type} {l : List α} {f : α → V} {i : Nat} {a : α} (h : l[i]? = some a) : (l.map f)[i]? = some (f a) := by rw [List.getElem?_map, h]; rfl
section
variable {X : Wx} {d : Nat} {H : List AObj} {w : Nat} {rows tags : List (List Int)}
theorem C_class_count {Q} (hd : d < 100) (A : Aut w rows tags) (h : Q (.int w) H) : Cl X.W d (.ref 94) [vdfa rows tags] H Q := by
 have cX : True := trivial
 revert X d H w rows tags Q hd A h
 rintro X d H w rows tags Q hd A h
 refine C_fn (ps := ["self"]) hd (FnOk.of rfl (by kernel_rfl) rfl rfl rfl rfl rfl rfl rfl (by rfl) (by decide)) (lenS fun x0 => len0 rfl) (by decide) (by left) ?_
 rintro hin
 simp only [argLoc]
 ac_rfl
 refine K_len (by left) ?_
 ac_rfl
 obtain ⟨r, e, hl, _⟩ := A.rowAt (s := 0) (by lia) (by have := A.pos; lia)
 refine G_lst (by lia) (by lia) (map_get e) ?_
 ac_rfl
 refine C_len AsList.lst (by have := A.width; simp; lia) ?_
 exact Ret.keep (by simpa [hl] using h)
theorem C_state_count {Q} (hd : d < 100) (A : Aut w rows tags) (h : Q (.int rows.length) H) : Cl X.W d (.ref 101) [vdfa rows tags] H Q := by
 have cX : True := trivial
 revert X d H w rows tags Q hd A h
 rintro X d H w rows tags Q hd A h
 refine C_fn (ps := ["self"]) hd (FnOk.of rfl (by kernel_rfl) rfl rfl rfl rfl rfl rfl rfl (by rfl) (by decide)) (lenS fun x0 => len0 rfl) (by decide) (by left) ?_
 rintro hin
 simp only [argLoc]
 ac_rfl
 refine K_len (by left) ?_
 ac_rfl
 refine C_len AsList.lst (by have := A.small; simp; lia) ?_
 exact Ret.keep (by simpa using h)
set_option tactic.hygienic true in
theorem C_goal_of {s c : Int} {Q} (hd : d < 100) (A : Aut w rows tags) (hs : At rows s) (c0 : 0 ≤ c) (c1 : c < w) (h : Q (.int (goalOf rows s c)) H) : Cl X.W d (.ref 293) [vdfa rows tags, .int s, .int c] H Q := by
 have cX : True := trivial
 revert X d H w rows tags s c Q hd A hs c0 c1 h
 rintro X d H w rows tags s c Q hd A hs c0 c1 h
 refine C_fn (ps := ["dfa", "state", "number"]) hd (FnOk.of rfl (by kernel_rfl) rfl rfl rfl rfl rfl rfl rfl (by rfl) (by decide)) (lenS fun x0 => lenS fun x1 => lenS fun x2 => len0 rfl) (by decide) (by left) ?_
 rintro hin
 simp only [argLoc]
 ac_rfl
 split
 ·rename_i e
  ac_rfl
  refine Ret.keep ?_
  unfold goalOf at h; rw [if_pos (by simpa using e)] at h; exact h
 ·rename_i e
  have e : s ≠ -1 := by simpa using e
  obtain ⟨h1, h2⟩ := hs
  obtain ⟨r, er, hl, _⟩ := A.rowAt (s := s) (by lia) h2
  obtain ⟨g, eg, _⟩ := get_of_lt (l := r) (i := c.toNat) (by lia)
  unfold goalOf at h; rw [if_neg e, getD_of er, getD_of eg] at h
  ac_rfl
  have := A.small
  refine G_lst (by lia) (by lia) (map_get er) ?_
  ac_rfl
  refine G_lst (by lia) (by have := A.width; lia) (map_get eg) ?_
  exact Ret.keep h
set_option tactic.hygienic true in
theorem C_tags_at {s : Int} {Q} (hd : d < 100) (A : Aut w rows tags) (hs : At rows s) (h : Q (vtag (tagOf tags s)) H) : Cl X.W d (.ref 300) [vdfa rows tags, .int s] H Q := by
 have cX : True := trivial
 revert X d H w rows tags s Q hd A hs h
 rintro X d H w rows tags s Q hd A hs h
 refine C_fn (ps := ["dfa", "state"]) hd (FnOk.of rfl (by kernel_rfl) rfl rfl rfl rfl rfl rfl rfl (by rfl) (by decide)) (lenS fun x0 => lenS fun x1 => len0 rfl) (by decide) (by left) ?_
 rintro hin
 simp only [argLoc]
 ac_rfl
 split
 ·rename_i e
  ac_rfl
  refine ⟨by simp, Ret.keep ?_⟩
  unfold tagOf at h; rw [if_pos (by simpa using e)] at h; exact h
 ·rename_i e
  have e : s ≠ -1 := by simpa using e
  obtain ⟨h1, h2⟩ := hs
  obtain ⟨t, et, _⟩ := A.tagAt (s := s) (by lia) h2
  unfold tagOf at h; rw [if_neg e, getD_of et] at h
  ac_rfl
  have := A.small
  refine G_lst (by lia) (by lia) (map_get et) ?_
  exact Ret.keep h
set_option tactic.hygienic true in
theorem C_place_of {s l : Int} {Q} (hd : d < 100) (h : Q (.int (if s = -1 then 0 else 1 + l + s)) H) : Cl X.W d (.ref 307) [.int s, .int l] H Q := by
 have cX : True := trivial
 revert X d H s l Q hd h
 rintro X d H s l Q hd h
 refine C_fn (ps := ["state", "lead"]) hd (FnOk.of rfl (by kernel_rfl) rfl rfl rfl rfl rfl rfl rfl (by rfl) (by decide)) (lenS fun x0 => lenS fun x1 => len0 rfl) (by decide) (by left) ?_
 rintro hin
 simp only [argLoc]
 ac_rfl
 split
 ·rename_i e
  rw [if_pos (by simpa using e)] at h
  ac_rfl
  exact Ret.keep h
 ·rename_i e
  rw [if_neg (by simpa using e)] at h
  ac_rfl
  exact Ret.keep h
theorem C_pair_key {a b : Int} {Q} (hd : d < 100) (h : Q (.tup [.int (if b < a then b else a), .int (if b > a then b else a)]) H) : Cl X.W d (.ref 342) [.int a, .int b] H Q := by
 have cX : True := trivial
 revert X d H a b Q hd h
 rintro X d H a b Q hd h
 refine C_fn (ps := ["one", "other"]) hd (FnOk.of rfl (by kernel_rfl) rfl rfl rfl rfl rfl rfl rfl (by rfl) (by decide)) (lenS fun x0 => lenS fun x1 => len0 rfl) (by decide) (by left) ?_
 rintro hin
 simp only [argLoc]
 ac_rfl
 refine K_min (by left) ?_
 ac_rfl
 refine C_min ?_
 ac_rfl
 refine K_max (by left) ?_
 ac_rfl
 refine C_max ?_
 ac_rfl
 exact ⟨by simp, Ret.keep h⟩
theorem C_check_counts {rows2 tags2 : List (List Int)} {Q} (hd : d < 99) (A : Aut w rows tags) (A2 : Aut w rows2 tags2) (h : Q .none H) : Cl X.W d (.ref 314) [vdfa rows tags, vdfa rows2 tags2] H Q := by
 have cX : True := trivial
 revert X d H w rows tags rows2 tags2 Q hd A A2 h
 rintro X d H w rows tags rows2 tags2 Q hd A A2 h
 have hd' := hd
 replace hd : d < 100 := by lia
 refine C_fn (ps := ["one", "other"]) hd (FnOk.of rfl (by kernel_rfl) rfl rfl rfl rfl rfl rfl rfl (by rfl) (by decide)) (lenS fun x0 => lenS fun x1 => len0 rfl) (by decide) (by left) ?_
 rintro hin
 simp only [argLoc]
 ac_rfl
 refine E_meth ?_
 ac_rfl
 refine ⟨_, O_class_count, Kf_class_count, ?_⟩
 ac_rfl
 refine C_class_count (by lia) A ?_
 refine E_meth ?_
 ac_rfl
 refine ⟨_, O_class_count, Kf_class_count, ?_⟩
 ac_rfl
 refine C_class_count (by lia) A2 ?_
 ac_rfl
 rw [if_neg (by simp)]
 ac_rfl
 exact Ret.none h
end
set_option tactic.hygienic false
section
variable {X : Wx} {d : Nat} {H : List AObj} {w : Nat} {rows tags : List (List Int)}
theorem bits_le (x : Int) : Builtin.Int.intBits x ≤ x.natAbs + 1 := by
 unfold Builtin.Int.intBits
 split
 ·lia
 ·exact Nat.succ_le_succ (Nat.log2_le_self _)
theorem set_get {H : List AObj} {k : Nat} {o x : AObj} (h : H[k]? = some o) : (H.set k x)[k]? = some x := by
 rw [List.getElem?_set_self (gll h)]
theorem C_draw {k : Nat} {N C many : Int} {Q : V → List AObj → Prop} (hd : d < 100) (hk : H[k]? = some (.list [.int N, .int C])) (h0 : 0 ≤ N) (h1 : 0 ≤ C) (h2 : C ≤ 10000) (h3 : 1 ≤ many) (h4 : many ≤ 1000)
  (h : ∀ x N' C', 0 ≤ x → x < many → 0 ≤ N' → 0 ≤ C' → C' ≤ C + 1 → Q (.int x) (H.set k (.list [.int N', .int C']))) : Cl X.W d (.ref 370) [.ref k, .int many] H Q := by
 have cX : True := trivial
 revert X d H k N C many Q hd hk h0 h1 h2 h3 h4 h
 rintro X d H k N C many Q hd hk h0 h1 h2 h3 h4 h
 refine C_fn (ps := ["pen", "many"]) hd (FnOk.of rfl (by kernel_rfl) rfl rfl rfl rfl rfl rfl rfl (by rfl) (by decide)) (lenS fun x0 => lenS fun x1 => len0 rfl) (by decide) (by left) ?_
 rintro hin
 simp only [argLoc]
 have tail : ∀ (H' : List AObj) (N' C' : Int) (b : Bool), H'[k]? = some (.list [.int N', .int C']) → 0 ≤ N' → 0 ≤ C' → C' ≤ C + 1 → (∀ x, H'.set k x = H.set k x) → ∀ {sts : List Stmt}, True := fun za zb zc zd ze zf zg zh zi zj => trivial
 ac_rfl
 refine G_list (i := 0) hk (by lia) (by lia) rfl ?_
 ac_rfl
 split
 ·ac_rfl
  refine G_list (i := 1) hk (by lia) (by lia) rfl ?_
  ac_rfl
  refine U_list (i := 1) hk (by lia) (by simp) (by simp) ?_
  have hk1 := set_get (x := .list ([V.int N, V.int C].set (Int.toNat 1) (V.int (C + 1)))) hk
  ac_rfl
  refine G_list (i := 0) hk1 (by lia) (by lia) rfl ?_
  ac_rfl
  refine G_list (i := 1) hk1 (by lia) (by lia) rfl ?_
  ac_rfl
  refine P_pow (by lia) (by have := bits_le (C + 1); lia) ?_
  ac_rfl
  refine P_mul (.of_left (by decide)) ?_
  ac_rfl
  refine U_list (i := 0) hk1 (by lia) (by simp) (by simp) ?_
  rw [List.set_set]
  have hk2 := set_get (x := .list (([V.int N, V.int C].set (Int.toNat 1) (V.int (C + 1))).set (Int.toNat 0) (V.int (N + 104729 + 7919 * (C + 1) ^ (Int.toNat 5))))) hk
  ac_rfl
  refine G_list (i := 0) hk2 (by lia) (by lia) rfl ?_
  ac_rfl
  refine P_mod (by lia) ?_
  ac_rfl
  refine G_list (i := 0) hk2 (by lia) (by lia) rfl ?_
  ac_rfl
  refine P_div (by lia) (PyProof.noPylong_small (by lia)) ?_
  ac_rfl
  refine U_list (i := 0) hk2 (by lia) (by simp) (by simp) ?_
  rw [List.set_set]
  ac_rfl
  refine Ret.keep ?_
  have e : 0 ≤ N + 104729 + 7919 * (C + 1) ^ (Int.toNat 5) := by
   have : 0 ≤ (C + 1) ^ (Int.toNat 5) := Int.pow_nonneg (by lia)
   lia
  exact h _ _ (C + 1) (Int.fmod_nonneg_of_pos _ (by lia)) (Int.fmod_lt_of_pos _ (by lia)) (Int.fdiv_nonneg e (by lia)) (by lia) (by lia)
 ·ac_rfl
  refine G_list (i := 0) hk (by lia) (by lia) rfl ?_
  ac_rfl
  refine P_mod (by lia) ?_
  ac_rfl
  refine G_list (i := 0) hk (by lia) (by lia) rfl ?_
  ac_rfl
  refine P_div (by lia) (PyProof.noPylong_small (by lia)) ?_
  ac_rfl
  refine U_list (i := 0) hk (by lia) (by simp) (by simp) ?_
  ac_rfl
  refine Ret.keep ?_
  exact h _ _ C (Int.fmod_nonneg_of_pos _ (by lia)) (Int.fmod_lt_of_pos _ (by lia)) (Int.fdiv_nonneg h0 (by lia)) (by lia) (by lia)
end
set_option tactic.hygienic false
section
variable {X : Wx} {d : Nat} {H : List AObj} {w : Nat} {rows tags : List (List Int)}
theorem int_of_map {l : List Int} {i : Nat} {a : V} (e : (l.map V.int)[i]? = some a) : ∃ c, a = .int c ∧ l[i]? = some c := by
 rw [List.getElem?_map] at e
 cases h : l[i]? with
 | none => rw [h] at e; cases e
 | some c => rw [h] at e; cases e; exact ⟨c, rfl, rfl⟩
theorem map_take' {l : List Int} {n : Nat} : (l.map V.int).take n = (l.take n).map V.int := by rw [List.map_take]
theorem C_pen {ns : List Int} {Q : V → List AObj → Prop} (hd : d < 100) (hl : ns.length ≤ 2 ^ 20 + 8) (h : ∀ N, 0 ≤ N → Q (.ref H.length) (H ++ [.list [.int N, .int 0]])) : Cl X.W d (.ref 363) [.lst (ns.map V.int)] H Q := by
 have cX : True := trivial
 revert X d H ns Q hd hl h
 rintro X d H ns Q hd hl h
 refine C_fn (ps := ["script"]) hd (FnOk.of rfl (by kernel_rfl) rfl rfl rfl rfl rfl rfl rfl (by rfl) (by decide)) (lenS fun x0 => len0 rfl) (by decide) (by left) ?_
 rintro hin
 simp only [argLoc]
 ac_rfl
 refine S_forL ?_
 refine E_sliceTo true ?_
 ac_rfl
 refine ⟨_, _, AsList.lst, rfl, by lia, by simpa using hl, ?_⟩
 show ∃ xs, _
 rw [map_take']
 refine ⟨_, rfl, fun i m H' => H' = H ∧ ∃ N : Int, 0 ≤ N ∧ m ("number" : Str) = some (.int N), ⟨rfl, 1, by lia, (by bv_omega)⟩, ?_, ?_⟩
 ·rintro m H' ⟨rfl, N, hN, hm⟩
  ac_rfl
  refine E_lstM ?_
  ac_rfl
  exact ⟨by simp, Ret.keep (h N hN)⟩
 ·rintro i a m H' e ⟨rfl, N, hN, hm⟩
  obtain ⟨c, rfl, _⟩ := int_of_map e
  refine A_name (by left) ?_
  refine Ss.abs ?_
  rintro R hR
  ac_rfl
  refine P_mul (.of_right (by decide)) ?_
  ac_rfl
  refine K_abs (by left) ?_
  ac_rfl
  refine K_int (by left) ?_
  ac_rfl
  refine C_int ?_
  ac_rfl
  refine C_abs ?_
  refine P_mul (.of_left (by decide)) ?_
  ac_rfl
  have hp : 0 ≤ N * 1000003 + 2 * (if c < 0 then -c else c) := by split <;> lia
  split
  ·ac_rfl
   refine ⟨rfl, _, ?_, (by bv_omega)⟩
   lia
  ·ac_rfl
   refine ⟨rfl, _, ?_, (by bv_omega)⟩
   lia
theorem fp1 {a : V} : fputN [] "rows" = [("rows" : Str)] ∧ fputV [] [] "rows" a = [a] := ⟨rfl, rfl⟩
theorem fp2 {a b : V} : fputN ["rows"] "tags" = [("rows" : Str), "tags"] ∧ fputV ["rows"] [a] "tags" b = [a, b] := ⟨by kernel_rfl, by kernel_rfl⟩
theorem C_Dfa {a b : V} {Q} (hd : d < 100) (h : Q (.ref H.length) (H ++ [.inst 123 ["rows", "tags"] [a, b]])) : Cl X.W d (.ref 123) [a, b] H Q := by
 have cX : True := trivial
 revert X d H a b Q hd h
 rintro X d H a b Q hd h
 refine C_class (fI := 87) (ps := ["self", "rows", "tags"]) hd (by kernel_rfl) (by kernel_rfl) (by kernel_rfl) (FnOk.of rfl (by kernel_rfl) rfl rfl rfl rfl rfl rfl rfl (by rfl) (by decide)) (lenS fun x0 => lenS fun x1 => lenS fun x2 => len0 rfl) (by decide) (by left) ?_
 rintro hin
 simp only [argLoc]
 ac_rfl
 refine ⟨_, _, _, _, rfl, at_get0, so_123_rows, by simp, rfl, ?_⟩
 rw [at_set0, (fp1 (a := a)).1, (fp1 (a := a)).2]
 ac_rfl
 refine ⟨_, _, _, _, rfl, at_get0, so_123_tags, by simp, rfl, ?_⟩
 rw [at_set0, (fp2 (a := a) (b := b)).1, (fp2 (a := a) (b := b)).2]
 ac_rfl
 exact Ret.none ⟨rfl, h⟩
theorem Ret.dropL {H0 H1 l : List AObj} {Q : V → List AObj → Prop} {a b : V} {m : Loc} (hlen : H1.length = H0.length) (hin : ∀ (k : Nat) (o : AObj), H1[k]? = some o → o.within H0.length = true) (hr : Rsv H0.length (H1 ++ l) a b) (hw : b.within H0.length = true) (q : Q b H1) : Ret H0 Q (.ret a) m (H1 ++ l) :=
 ⟨a, rfl, .inr ⟨b, H0.length, hr, hw, Nat.le_refl _, by rw [List.take_left' hlen]; exact hin, by rw [List.take_left' hlen]; exact q⟩⟩
theorem within_set {H : List AObj} {n k : Nat} {o : AObj} (hin : ∀ (k : Nat) (o : AObj), H[k]? = some o → o.within n = true) (ho : o.within n = true) : ∀ (j : Nat) (x : AObj), (H.set k o)[j]? = some x → x.within n = true := by
 intro j x e
 by_cases h : k = j
 ·subst h
  by_cases hl : k < H.length
  ·rw [List.getElem?_set_self hl] at e; cases e; exact ho
  ·rw [List.getElem?_eq_none (by simp; lia)] at e; cases e
 ·rw [List.getElem?_set_ne h] at e; exact hin j x e
theorem flat1 {α : Type} (a : α) : ∀ n, (List.replicate n [a]).flatten = List.replicate n a
 | 0 => rfl
 | n + 1 => by rw [List.replicate_succ, List.flatten_cons, flat1 a n]; rfl
theorem withins_all {n : Nat} : ∀ {xs : List V}, (∀ x, x ∈ xs → x.within n = true) → withins n xs = true
 | [], _ => rfl
 | x :: xs, h => by
  show (x.within n && withins n xs) = true
  rw [h x (.head _), withins_all fun y q => h y (.tail _ q)]; rfl
theorem within_vrow (n : Nat) (r : List Int) : (vrow r).within n = true := withins_all fun x q => by obtain ⟨i, _, rfl⟩ := List.mem_map.mp q; rfl
theorem within_vtag (n : Nat) (r : List Int) : (vtag r).within n = true := withins_all fun x q => by obtain ⟨i, _, rfl⟩ := List.mem_map.mp q; rfl
theorem within_rows (n : Nat) (rows : List (List Int)) : (V.lst (rows.map vrow)).within n = true := withins_all fun x q => by obtain ⟨i, _, rfl⟩ := List.mem_map.mp q; exact within_vrow n i
theorem within_tags (n : Nat) (rows : List (List Int)) : (V.lst (rows.map vtag)).within n = true := withins_all fun x q => by obtain ⟨i, _, rfl⟩ := List.mem_map.mp q; exact within_vtag n i
theorem within_dfa (n : Nat) (rows tags : List (List Int)) : (vdfa rows tags).within n = true := by
 show ((V.lst (rows.map vrow)).within n && ((V.lst (tags.map vtag)).within n && true)) = true
 rw [within_rows, within_tags]; rfl
end
set_option tactic.hygienic false
section
variable {X : Wx} {d : Nat} {H : List AObj} {w : Nat} {rows tags : List (List Int)}
theorem C_automaton {k : Nat} {N C : Int} {Q : V → List AObj → Prop} (hd : d < 90) (hk : H[k]? = some (.list [.int N, .int C])) (hN : 0 ≤ N) (hC : 0 ≤ C) (hC2 : C ≤ 1000) (hw : 1 ≤ w ∧ w ≤ 2)
  (h : ∀ rows tags N' C', Aut w rows tags → rows.length ≤ 3 → 0 ≤ N' → 0 ≤ C' → C' ≤ C + 100 → Q (vdfa rows tags) (H.set k (.list [.int N', .int C']))) : Cl X.W d (.ref 375) [.ref k, .int (w : Nat)] H Q := by
 have cX : True := trivial
 revert X d H w k N C Q hd hk hN hC hC2 hw h
 rintro X d H w k N C Q hd hk hN hC hC2 hw h
 have hd' := hd
 replace hd : d < 100 := by lia
 refine C_fn (ps := ["pen", "width"]) hd (FnOk.of rfl (by kernel_rfl) rfl rfl rfl rfl rfl rfl rfl (by rfl) (by decide)) (lenS fun x0 => lenS fun x1 => len0 rfl) (by decide) (by left) ?_
 rintro hin
 simp only [argLoc]
 ac_rfl
 refine K__law_draw (by left) ?_
 ac_rfl
 refine C_draw (by lia) hk hN hC (by lia) (by lia) (by lia) ?_
 rintro x N1 C1 x0 x1 n0 c0 c1
 have hk1 := set_get (x := .list [.int N1, .int C1]) hk
 ac_rfl
 refine K__law_draw (by left) ?_
 ac_rfl
 refine C_draw (by lia) hk1 n0 c0 (by lia) (by lia) (by lia) ?_
 rintro y N2 C2 y0 y1 n20 c20 c21
 rw [List.set_set]
 have hk2 := set_get (x := .list [.int N2, .int C2]) hk
 have fin : ∀ (rows tags : List (List Int)) (N3 C3 : Int) (m : Loc), Aut w rows tags → rows.length ≤ 3 → 0 ≤ N3 → 0 ≤ C3 → C3 ≤ C + 100 →
   Ret H Q (.ret (.ref (H.set k (.list [.int N3, .int C3])).length)) m (H.set k (.list [.int N3, .int C3]) ++ [.inst 123 ["rows", "tags"] [.lst (rows.map vrow), .lst (tags.map vtag)]]) := fun rows tags N3 C3 m a1 a2 a3 a4 a5 =>
  Ret.dropL (b := vdfa rows tags) (by simp) (within_set hin rfl) (Rsv.inst (by simp) at_get0 (Rsvs.refl ..)) (within_dfa _ _ _) (h rows tags N3 C3 a1 a2 a3 a4 a5)
 ac_rfl
 split
 ·ac_rfl
  refine S_setComp true ?_ (by left)
  refine K_range (by left) ?_
  ac_rfl
  refine C_range ?_
  refine Cp_mapR (fun i : Nat => vrow (List.replicate w (if 1 + x - 1 < (i : Int) + 1 then 1 + x - 1 else (i : Int) + 1))) (by left) (compLoc_none (by left)) (by lia) (by simp; lia) ?_ fun i hi => ?_
  ·simp only [cpOut, if_true, List.nil_append]
   have e1 : (List.range (1 + x).toNat).map (fun i : Nat => vrow (List.replicate w (if 1 + x - 1 < (i : Int) + 1 then 1 + x - 1 else (i : Int) + 1))) =
     ((List.range (1 + x).toNat).map fun i : Nat => List.replicate w (if 1 + x - 1 < (i : Int) + 1 then 1 + x - 1 else (i : Int) + 1)).map vrow := by rw [List.map_map]; rfl
   rw [e1]
   ac_rfl
   refine K_Dfa (by left) ?_
   ac_rfl
   refine E_lstF ?_
   ac_rfl
   refine ⟨by simp, ?_⟩
   ac_rfl
   refine ⟨by simp, ?_⟩
   ac_rfl
   refine P_mulL true AsList.lst (by lia) (by simp; lia) (by lia) ?_
   simp only [cpOut, if_true]
   refine E_lstF ?_
   ac_rfl
   refine ⟨by simp, ?_⟩
   ac_rfl
   refine ⟨by simp, ?_⟩
   refine P_addL true AsList.lst AsList.lst (by simp [flat1]; lia) ?_
   simp only [cpOut, if_true]
   ac_rfl
   have e2 : (List.replicate (1 + x - 1).toNat [V.tup []]).flatten ++ [V.tup [V.int 0]] = (List.replicate (1 + x - 1).toNat [] ++ [[(0 : Int)]]).map vtag := by rw [flat1]; simp [vtag]
   rw [e2]
   refine C_Dfa (by lia) ?_
   refine fin _ _ N2 C2 _ ⟨by simp; lia, by simp; lia, by simp; lia, fun r hr => ?_, hw, fun t ht => ?_⟩ (by simp; lia) n20 c20 (by lia)
   ·obtain ⟨i, hi, rfl⟩ := List.mem_map.mp hr
    have hi := List.mem_range.mp hi
    refine ⟨by simp, fun g hg => ?_⟩
    have := List.eq_of_mem_replicate hg
    subst this
    simp
    split <;> lia
   ·rcases List.mem_append.mp ht with q | q
    ·rw [List.eq_of_mem_replicate q]; simp
    ·rw [List.mem_singleton.mp q]; simp
  ·ac_rfl
   refine E_lstF ?_
   ac_rfl
   refine K_min (by left) ?_
   ac_rfl
   refine C_min ?_
   ac_rfl
   refine ⟨by simp, ?_⟩
   ac_rfl
   refine P_mulL true AsList.lst (by lia) (by simp; lia) (by lia) ?_
   simp only [cpOut, if_true]
   refine ⟨?_, trivial⟩
   rw [flat1]
   simp [vrow, List.map_replicate]
 ·ac_rfl
  refine S_setComp true ?_ (by left)
  refine K_range (by left) ?_
  ac_rfl
  refine C_range ?_
  refine CpLp.rng (CpIn.mono _ _) (fun i H' ys => ∃ N' C', H' = H.set k (.list [.int N', .int C']) ∧ 0 ≤ N' ∧ 0 ≤ C' ∧ C' ≤ C2 + ((i * 2 : Nat) : Int) ∧ ∃ rs : List (List Int), ys = rs.map vrow ∧ rs.length = i ∧ ∀ r, r ∈ rs → r.length = w ∧ ∀ g, g ∈ r → -1 ≤ g ∧ g < 1 + x) (by left) (compLoc_none (by left)) (by lia) (by lia)
   ⟨N2, C2, rfl, n20, c20, by lia, [], rfl, rfl, fun za q => nomatch q⟩ ?_ ?_
  ·rintro H' ys ⟨N3, C3, rfl, n3, c3, c33, rs, rfl, hrl, hr⟩
   simp only [cpOut, if_true]
   ac_rfl
   refine K_Dfa (by left) ?_
   ac_rfl
   refine E_comp true ?_
   refine K_range (by left) ?_
   ac_rfl
   refine C_range ?_
   refine CpLp.rng (CpIn.mono _ _) (fun i H' ys => ∃ N' C', H' = H.set k (.list [.int N', .int C']) ∧ 0 ≤ N' ∧ 0 ≤ C' ∧ C' ≤ C3 + (i : Int) ∧ ∃ ts : List (List Int), ys = ts.map vtag ∧ ts.length = i ∧ ∀ t, t ∈ ts → t.length ≤ 5) (by left) (compLoc_none (by left)) (by lia) (by lia)
    ⟨N3, C3, rfl, n3, c3, by lia, [], rfl, rfl, fun za q => nomatch q⟩ ?_ ?_
   ·rintro H' ys ⟨N4, C4, rfl, n4, c4, c44, ts, rfl, htl, ht⟩
    simp only [cpOut, if_true]
    ac_rfl
    refine C_Dfa (by lia) ?_
    refine fin _ _ N4 C4 _ ⟨by lia, by lia, by lia, fun r q => ?_, hw, ht⟩ (by lia) n4 c4 (by lia)
    have := hr r q
    refine ⟨this.1, fun g hg => ?_⟩
    have := this.2 g hg
    lia
   ·rintro i H' ys hi ⟨N4, C4, rfl, n4, c4, c44, ts, rfl, htl, ht⟩
    have hk4 := set_get (x := .list [.int N4, .int C4]) hk
    simp only [CpIfs_n, CpIfs_o, CpIn_n, if_true]
    ac_rfl
    refine ⟨by simp, ?_⟩
    ac_rfl
    refine ⟨by simp, ?_⟩
    ac_rfl
    refine ⟨by simp, ?_⟩
    ac_rfl
    refine ⟨by simp, ?_⟩
    ac_rfl
    refine K__law_draw (by left) ?_
    ac_rfl
    refine C_draw (by lia) hk4 n4 c4 (by lia) (by lia) (by lia) ?_
    rintro z N5 C5 z0 z1 n5 c5 c55
    rw [List.set_set]
    have hz : z = 0 ∨ z = 1 ∨ z = 2 := by lia
    have gt : ∀ t : List Int, [V.tup [], V.tup [V.int 0], V.tup [V.int 1]][z.toNat]? = some (vtag t) → t.length ≤ 5 → Gi X.W (d + 1) (.tup [V.tup [], V.tup [V.int 0], V.tup [V.int 1]]) (.int z) (H.set k (.list [.int N5, .int C5])) fun a H1 => (ts.map vtag).length ≤ 1000000 ∧
      ∃ N' C', H1 = H.set k (.list [.int N', .int C']) ∧ 0 ≤ N' ∧ 0 ≤ C' ∧ C' ≤ C3 + ((i + 1 : Nat) : Int) ∧ ∃ ts' : List (List Int), ts.map vtag ++ [a] = ts'.map vtag ∧ ts'.length = i + 1 ∧ ∀ t, t ∈ ts' → t.length ≤ 5 := fun t e ht5 => by
     refine G_tup z0 (by lia) e ⟨by simp; lia, N5, C5, rfl, n5, c5, by lia, ts ++ [t], by simp, by simp [htl], fun u q => ?_⟩
     rcases List.mem_append.mp q with q | q
     ·exact ht u q
     ·rw [List.mem_singleton.mp q]; exact ht5
    rcases hz with rfl | rfl | rfl
    ·exact gt [] rfl (by simp)
    ·exact gt [0] rfl (by simp)
    ·exact gt [1] rfl (by simp)
  ·rintro i H' ys hi ⟨N3, C3, rfl, n3, c3, c33, rs, rfl, hrl, hr⟩
   simp only [CpIfs_n, CpIfs_o, CpIn_n, if_true]
   refine E_comp true ?_
   refine K_range (by left) ?_
   ac_rfl
   refine C_range ?_
   refine CpLp.rng (CpIn.mono _ _) (fun j H' ys => ∃ N' C', H' = H.set k (.list [.int N', .int C']) ∧ 0 ≤ N' ∧ 0 ≤ C' ∧ C' ≤ C3 + (j : Int) ∧ ∃ r : List Int, ys = r.map V.int ∧ r.length = j ∧ ∀ g, g ∈ r → -1 ≤ g ∧ g < 1 + x) (by left) (compLoc_none (by left)) (by lia) (by lia)
    ⟨N3, C3, rfl, n3, c3, by lia, [], rfl, rfl, fun za q => nomatch q⟩ ?_ ?_
   ·rintro H' ys ⟨N4, C4, rfl, n4, c4, c44, r, rfl, hl, hg⟩
    simp only [cpOut, if_true]
    refine ⟨by simp; lia, N4, C4, rfl, n4, c4, by lia, rs ++ [r], by simp [vrow], by simp [hrl], fun u q => ?_⟩
    rcases List.mem_append.mp q with q | q
    ·exact hr u q
    ·rw [List.mem_singleton.mp q]; exact ⟨by lia, hg⟩
   ·rintro j H' ys hj ⟨N4, C4, rfl, n4, c4, c44, r, rfl, hl, hg⟩
    have hk4 := set_get (x := .list [.int N4, .int C4]) hk
    simp only [CpIfs_n, CpIfs_o, CpIn_n, if_true]
    ac_rfl
    refine K__law_draw (by left) ?_
    ac_rfl
    refine C_draw (by lia) hk4 n4 c4 (by lia) (by lia) (by lia) ?_
    rintro z N5 C5 z0 z1 n5 c5 c55
    rw [List.set_set]
    ac_rfl
    refine ⟨by simp; lia, N5, C5, rfl, n5, c5, by lia, r ++ [z - 1], by simp, by simp [hl], fun u q => ?_⟩
    rcases List.mem_append.mp q with q | q
    ·exact hg u q
    ·rw [List.mem_singleton.mp q]; lia
end
set_option tactic.hygienic false
section
variable {X : Wx} {d : Nat} {H : List AObj} {w : Nat} {rows tags : List (List Int)}
theorem runOf_take {rows : List (List Int)} {s c : Int} {u : List Int} {i : Nat} (e : u[i]? = some c) : runOf rows s (u.take (i + 1)) = goalOf rows (runOf rows s (u.take i)) c := by
 rw [List.take_add_one, e, runOf_append]; rfl
theorem Aut.runTake {w rows tags} (A : Aut w rows tags) {s : Int} {u : List Int} (hs : At rows s) (hu : WordOk w u) (i : Nat) : At rows (runOf rows s (u.take i)) := A.run _ hs fun c q => hu c (List.mem_of_mem_take q)
set_option tactic.hygienic true in
theorem C_law_tags {s : Int} {u : List Int} {Q} (hd : d < 100) (A : Aut w rows tags) (hs : At rows s) (hu : WordOk w u) (h : Q (vtag (T rows tags s u)) H) : Cl X.W d (.ref 387) [vdfa rows tags, .int s, vrow u] H Q := by
 have cX : True := trivial
 revert X d H w rows tags s u Q hd A hs hu h
 rintro X d H w rows tags s u Q hd A hs hu h
 refine C_fn (ps := ["dfa", "state", "word"]) hd (FnOk.of rfl (by kernel_rfl) rfl rfl rfl rfl rfl rfl rfl (by rfl) (by decide)) (lenS fun x0 => lenS fun x1 => lenS fun x2 => len0 rfl) (by decide) (by left) ?_
 rintro hin
 simp only [argLoc]
 ac_rfl
 refine S_forL ?_
 ac_rfl
 refine ⟨_, rfl, fun i m H' => H' = H ∧ m ("dfa" : Str) = some (vdfa rows tags) ∧ m ("state" : Str) = some (.int (runOf rows s (u.take i))), ⟨rfl, (by bv_omega), (by bv_omega)⟩, ?_, ?_⟩
 ·rintro m H' ⟨rfl, h1, h2⟩
  rw [List.length_map, List.take_length] at h2
  have ha := A.run u hs hu
  unfold T tagOf at h
  ac_rfl
  split
  ·rename_i e
   have e : 0 ≤ runOf rows s u := by simpa using e
   rw [if_neg (by lia)] at h
   obtain ⟨t, et, _⟩ := A.tagAt e ha.2
   rw [getD_of et] at h
   ac_rfl
   have := A.small
   have := ha.2
   refine G_lst (by lia) (by lia) (map_get et) ?_
   exact Ret.keep h
  ·rename_i e
   have e : ¬ 0 ≤ runOf rows s u := by simpa using e
   rw [if_pos (by have := ha.1; lia)] at h
   ac_rfl
   exact ⟨by simp, Ret.keep h⟩
 ·rintro i a m H' e ⟨rfl, h1, h2⟩
  obtain ⟨c, rfl, ec⟩ := int_of_map e
  have hc := hu c (List.mem_of_getElem? ec)
  have ha := A.runTake hs hu i
  refine A_name (by left) ?_
  refine Ss.abs ?_
  rintro R hR
  ac_rfl
  have hg := runOf_take (rows := rows) (s := s) ec
  split
  ·rename_i e0
   have e0 : 0 ≤ runOf rows s (u.take i) := by simpa using e0
   obtain ⟨r, er, hl, _⟩ := A.rowAt e0 ha.2
   obtain ⟨g, eg, _⟩ := get_of_lt (l := r) (i := c.toNat) (by lia)
   unfold goalOf at hg
   rw [if_neg (by lia), getD_of er, getD_of eg] at hg
   ac_rfl
   have := A.small
   have := ha.2
   refine G_lst (by lia) (by lia) (map_get er) ?_
   ac_rfl
   refine G_lst (by lia) (by have := A.width; lia) (map_get eg) ?_
   ac_rfl
   exact ⟨rfl, (by bv_omega), by rw [hg]; exact Loc.put_eq⟩
  ·rename_i e0
   have e0 : ¬ 0 ≤ runOf rows s (u.take i) := by simpa using e0
   unfold goalOf at hg
   rw [if_pos (by have := ha.1; lia)] at hg
   ac_rfl
   exact ⟨rfl, (by bv_omega), by rw [hg]; exact Loc.put_eq⟩
set_option tactic.hygienic true in
theorem C_step {s c : Int} {Q} (hd : d < 100) (A : Aut w rows tags) (hs : At rows s) (c0 : 0 ≤ c) (c1 : c < w) (h : Q (.int (goalOf rows s c)) H) : Cl X.W d (.ref 108) [vdfa rows tags, .int s, .int c] H Q := by
 have cX : True := trivial
 revert X d H w rows tags s c Q hd A hs c0 c1 h
 rintro X d H w rows tags s c Q hd A hs c0 c1 h
 refine C_fn (ps := ["self", "state", "number"]) hd (FnOk.of rfl (by kernel_rfl) rfl rfl rfl rfl rfl rfl rfl (by rfl) (by decide)) (lenS fun x0 => lenS fun x1 => lenS fun x2 => len0 rfl) (by decide) (by left) ?_
 rintro hin
 simp only [argLoc]
 unfold goalOf at h
 ac_rfl
 split
 ·rename_i e
  rw [if_pos (by simpa using e)] at h
  simp only [e, if_true]
  ac_rfl
  exact Ret.keep h
 ·rename_i e
  have e1 : s ≠ -1 := by simpa using e
  rw [if_neg e1] at h
  obtain ⟨h1, h2⟩ := hs
  obtain ⟨r, er, hl, _⟩ := A.rowAt (s := s) (by lia) h2
  obtain ⟨g, eg, _⟩ := get_of_lt (l := r) (i := c.toNat) (by lia)
  rw [getD_of er, getD_of eg] at h
  have := A.small
  have := A.width
  ac_rfl
  rw [if_neg (by simp; lia)]
  ac_rfl
  refine K_len (by left) ?_
  ac_rfl
  refine G_lst (by lia) (by lia) (map_get er) ?_
  ac_rfl
  refine C_len AsList.lst (by simp; lia) ?_
  ac_rfl
  rw [if_neg (by simp; lia)]
  ac_rfl
  refine G_lst (by lia) (by lia) (map_get er) ?_
  ac_rfl
  refine G_lst (by lia) (by lia) (map_get eg) ?_
  exact Ret.keep h
set_option tactic.hygienic true in
theorem C_words {most : Nat} {Q} (hd : d < 100) (hw : 1 ≤ w ∧ w ≤ 2) (hm : most ≤ 10) (h : Q (.lst ((allWords w most).map vrow)) H) : Cl X.W d (.ref 392) [.int (w : Nat), .int (most : Nat)] H Q := by
 have cX : True := trivial
 revert X d H w most Q hd hw hm h
 rintro X d H w most Q hd hw hm h
 refine C_fn (ps := ["width", "most"]) hd (FnOk.of rfl (by kernel_rfl) rfl rfl rfl rfl rfl rfl rfl (by rfl) (by decide)) (lenS fun x0 => lenS fun x1 => len0 rfl) (by decide) (by left) ?_
 rintro hin
 simp only [argLoc]
 ac_rfl
 refine E_lstF ?_
 ac_rfl
 refine E_lstF ?_
 ac_rfl
 refine ⟨by simp, ?_⟩
 ac_rfl
 refine ⟨by simp, ?_⟩
 ac_rfl
 refine S_forR ?_
 refine K_range (by left) ?_
 ac_rfl
 refine C_range ?_
 refine ⟨_, rfl, by lia, by lia, fun i m H' => H' = H ∧ i ≤ most ∧ m ("width" : Str) = some (.int (w : Nat)) ∧ m ("found" : Str) = some (.lst ((allWords w i).map vrow)), ⟨rfl, by lia, (by bv_omega), (by bv_omega)⟩, ?_, ?_⟩
 ·rintro m H' ⟨rfl, _, h1, h2⟩
  ac_rfl
  exact Ret.keep h
 ·rintro i m H' hi ⟨rfl, hi', h1, h2⟩
  have cnt := all_count w hw.2 i
  have p11 : 2 ^ (i + 1) ≤ 2 ^ 11 := Nat.pow_le_pow_right (by decide) (by lia)
  have lc : (level w i).length ≤ 2 ^ 11 := by
   rw [level_count]
   exact Nat.le_trans (Nat.pow_le_pow_left hw.2 i) (Nat.pow_le_pow_right (by decide) (by lia))
  refine A_name (by left) ?_
  refine Ss.abs ?_
  rintro R hR
  ac_rfl
  refine E_comp true ?_
  ac_rfl
  refine CpLp.lst (CpIn.mono _ _) (fun j G zs => G = H' ∧ zs = ((((allWords w i).take j).filter fun u => u.length == i).map (exts w)).flatten.map vrow) (by left) (compLoc_none (by left)) ⟨rfl, rfl⟩ ?_ ?_
  ·rintro H' zs ⟨rfl, rfl⟩
   simp only [cpOut, if_true]
   rw [List.length_map, List.take_length, filter_all]
   refine P_addL true AsList.lst AsList.lst ?_ ?_
   ·have := level_count w (i + 1)
    have : w ^ (i + 1) ≤ 2 ^ 11 := Nat.le_trans (Nat.pow_le_pow_left hw.2 _) (Nat.pow_le_pow_right (by decide) (by lia))
    rw [List.length_map, List.length_map]
    show (allWords w i).length + (level w (i + 1)).length ≤ _
    lia
   ·simp only [cpOut, if_true]
    ac_rfl
    refine ⟨rfl, by lia, (by bv_omega), ?_⟩
    rw [← List.map_append]
    exact Loc.put_eq
  ·rintro j a H' zs e ⟨rfl, rfl⟩
   obtain ⟨u, rfl, eu⟩ : ∃ u, a = vrow u ∧ (allWords w i)[j]? = some u := by
    rw [List.getElem?_map] at e
    cases q : (allWords w i)[j]? with
    | none => rw [q] at e; cases e
    | some u => rw [q] at e; cases e; exact ⟨u, rfl, rfl⟩
   have ul := all_len (List.mem_of_getElem? eu)
   simp only [CpIfs_n, CpIfs_o]
   ac_rfl
   refine K_len (by left) ?_
   ac_rfl
   refine C_len AsList.lst (by simp; lia) ?_
   ac_rfl
   have tk : (allWords w i).take (j + 1) = (allWords w i).take j ++ [u] := by rw [List.take_add_one, eu]; rfl
   rw [List.length_map]
   split
   ·rename_i e0
    have e0 : u.length = i := by
     have : (u.length : Int) = i := by simpa using e0
     lia
    show Ev _ _ _ _ _ _ _
    refine K_range (by left) ?_
    ac_rfl
    refine C_range ?_
    refine CpLp.rng (CpIn.mono _ _) (fun c H'' ys => H'' = H' ∧ ys = ((((allWords w i).take j).filter fun u => u.length == i).map (exts w)).flatten.map vrow ++ (List.range c).map fun c => vrow (u ++ [((c : Nat) : Int)])) (by left)
     (Loc.put_ne (by left) (compLoc_none (by left))) (by lia) (by lia) ⟨rfl, by simp⟩ ?_ ?_
    ·rintro H'' ys ⟨rfl, rfl⟩
     refine ⟨rfl, ?_⟩
     rw [tk, List.filter_append, List.map_append, List.flatten_append, List.map_append]
     congr 1
     rw [show ([u].filter fun u => u.length == i) = [u] by simp [e0]]
     simp [exts]
    ·rintro c H'' ys hc ⟨rfl, rfl⟩
     simp only [CpIfs_n, CpIfs_o, CpIn_n, if_true]
     ac_rfl
     refine E_lstF ?_
     ac_rfl
     refine ⟨by simp, ?_⟩
     refine P_addL true AsList.lst AsList.lst (by simp; lia) ?_
     simp only [cpOut, if_true]
     refine ⟨?_, trivial, ?_⟩
     ·rw [List.length_append, List.length_map, List.length_map, List.length_range]
      have : ((((allWords w i).take j).filter fun u => u.length == i).map (exts w)).flatten.length ≤ 2 ^ 12 := by
       have gen : ∀ l : List (List Int), ((l.map (exts w)).flatten).length = l.length * w := fun l => by
        induction l with
        | nil => simp
        | cons u l ih => rw [List.map_cons, List.flatten_cons, List.length_append, ih]; simp [exts, Nat.add_mul]; lia
       rw [gen]
       have h1 : (((allWords w i).take j).filter fun u => u.length == i).length ≤ 2 ^ 11 := by
        refine Nat.le_trans (List.length_filter_le _ _) ?_
        rw [List.length_take]; lia
       exact Nat.le_trans (Nat.mul_le_mul h1 hw.2) (by decide)
      lia
     ·rw [List.range_succ, List.map_append, List.append_assoc]
      simp [vrow]
   ·rename_i e0
    refine ⟨rfl, ?_⟩
    rw [tk, List.filter_append]
    rw [show ([u].filter fun u => u.length == i) = [] by
     have : ¬ u.length = i := fun q => e0 (by simp [q])
     simp [this]]
    rw [List.append_nil]
end
set_option tactic.hygienic false
section
variable {X : Wx} {d : Nat} {H : List AObj} {w : Nat} {rows tags : List (List Int)}
noncomputable def tells (one tone two ttwo : List (List Int)) (s t : Int) (u : List Int) : Bool := decide (T one tone s u ≠ T two ttwo t u)
noncomputable def wordV : Option (List Int) → V
 | none => .none
 | some u => vrow u
theorem plain_ints (n : Nat) (l : List Int) : plainVs (n + 1) (l.map V.int) = true := by
 induction l with
 | nil => rfl
 | cons a l ih => rw [List.map_cons, plainVs_cons]; exact ⟨rfl, ih⟩
theorem plain_vtag (t : List Int) : plainV 8 (vtag t) = true := by show plainV 8 (.tup _) = true; rw [plainV_tup]; exact plain_ints _ _
theorem plain_vrow (t : List Int) : plainV 8 (vrow t) = true := by show plainV 8 (.lst _) = true; rw [plainV_lst]; exact plain_ints _ _
theorem ints_inj {a b : List Int} (h : a.map V.int = b.map V.int) : a = b := by
 induction a generalizing b with
 | nil => cases b with
  | nil => rfl
  | cons _ _ => cases h
 | cons x a ih => cases b with
  | nil => cases h
  | cons y b =>
   rw [List.map_cons, List.map_cons] at h
   injection h with h1 h2
   injection h1 with h1
   rw [h1, ih h2]
theorem vtag_inj {a b : List Int} (h : vtag a = vtag b) : a = b := ints_inj (by injection h)
theorem vrow_inj {a b : List Int} (h : vrow a = vrow b) : a = b := ints_inj (by injection h)
set_option tactic.hygienic true in
theorem C_law_first {rows2 tags2 : List (List Int)} {s t : Int} {most : Nat} {Q} (hd : d < 99) (A : Aut w rows tags) (A2 : Aut w rows2 tags2) (hs : At rows s) (ht : At rows2 t) (hm : most ≤ 10)
  (h : Q (wordV ((allWords w most).find? (tells rows tags rows2 tags2 s t))) H) : Cl X.W d (.ref 399) [vdfa rows tags, vdfa rows2 tags2, .int s, .int t, .int (w : Nat), .int (most : Nat)] H Q := by
 have cX : True := trivial
 revert X d H w rows tags rows2 tags2 s t most Q hd A A2 hs ht hm h
 rintro X d H w rows tags rows2 tags2 s t most Q hd A A2 hs ht hm h
 have hd' := hd
 replace hd : d < 100 := by lia
 refine C_fn (ps := ["one", "two", "state", "other", "width", "most"]) hd (FnOk.of rfl (by kernel_rfl) rfl rfl rfl rfl rfl rfl rfl (by rfl) (by decide)) (lenS fun x0 => lenS fun x1 => lenS fun x2 => lenS fun x3 => lenS fun x4 => lenS fun x5 => len0 rfl) (by decide) (by left) ?_
 rintro hin
 simp only [argLoc]
 ac_rfl
 refine S_forL ?_
 refine K__law_words (by left) ?_
 ac_rfl
 refine C_words (by lia) A.width hm ?_
 refine ⟨_, rfl, fun i m H' => H' = H ∧ m ("one" : Str) = some (vdfa rows tags) ∧ m ("two" : Str) = some (vdfa rows2 tags2) ∧ m ("state" : Str) = some (.int s) ∧ m ("other" : Str) = some (.int t) ∧ ∀ u, u ∈ (allWords w most).take i → tells rows tags rows2 tags2 s t u = false, ⟨rfl, (by bv_omega), (by bv_omega), (by bv_omega), (by bv_omega), fun za q => by simp at q⟩, ?_, ?_⟩
 ·rintro m H' ⟨rfl, _, _, _, _, hf⟩
  rw [List.length_map, List.take_length] at hf
  have e : (allWords w most).find? (tells rows tags rows2 tags2 s t) = none := List.find?_eq_none.mpr fun u q => by simp [hf u q]
  rw [e] at h
  ac_rfl
  exact Ret.keep h
 ·rintro i a m H' e ⟨rfl, h1, h2, h3, h4, hf⟩
  rw [List.getElem?_map] at e
  obtain ⟨u, eu, rfl⟩ := Option.map_eq_some_iff.mp e
  have hu := all_ok (List.mem_of_getElem? eu)
  refine A_name (by left) ?_
  refine Ss.abs ?_
  rintro R hR
  ac_rfl
  refine K__law_tags (by left) ?_
  ac_rfl
  refine C_law_tags (by lia) A hs hu ?_
  refine K__law_tags (by left) ?_
  ac_rfl
  refine C_law_tags (by lia) A2 ht hu ?_
  refine P_ne (plain_vtag _) (plain_vtag _) ?_
  rintro b hb
  ac_rfl
  split
  ·rename_i hbt
   subst hbt
   have hne : T rows tags s u ≠ T rows2 tags2 t u := fun q => (hb.mp rfl) (by rw [q])
   have e : (allWords w most).find? (tells rows tags rows2 tags2 s t) = some u := by
    rw [List.find?_eq_some_iff_getElem]
    have hi := (List.getElem?_eq_some_iff.mp eu)
    obtain ⟨hi1, hi2⟩ := hi
    refine ⟨by simp [tells, hne], i, hi1, hi2, fun j hj => ?_⟩
    have := hf ((allWords w most)[j]) (by
     rw [List.mem_iff_getElem]
     exact ⟨j, by rw [List.length_take]; lia, by simp⟩)
    simp [this]
   rw [e] at h
   ac_rfl
   exact Ret.keep h
  ·rename_i hbf
   have hbf : b = false := by simpa using hbf
   subst hbf
   have heq : T rows tags s u = T rows2 tags2 t u := by
    have : ¬ vtag (T rows tags s u) ≠ vtag (T rows2 tags2 t u) := fun q => by simpa using hb.mpr q
    exact vtag_inj (Classical.not_not.mp this)
   ac_rfl
   refine ⟨rfl, (by bv_omega), (by bv_omega), (by bv_omega), (by bv_omega), fun v q => ?_⟩
   rw [List.take_add_one, eu] at q
   rcases List.mem_append.mp q with q | q
   ·exact hf v q
   ·rw [List.mem_singleton.mp q]; simp [tells, heq]
end
set_option tactic.hygienic false
section
variable {X : Wx} {d : Nat} {H : List AObj} {w : Nat} {rows tags : List (List Int)}
@[reducible] noncomputable def vdf (p : DF) : V := vdfa p.1 p.2
theorem flat_snoc {α : Type} {ds : List DF} {f : DF → List α} {i : Nat} {p : DF} (e : ds[i]? = some p) : ((ds.take (i + 1)).map f).flatten = ((ds.take i).map f).flatten ++ f p := by
 rw [take_snoc e, List.flatten_append]; simp
theorem flat_le {α : Type} {f : DF → List α} {n : Nat} : ∀ {ds : List DF}, (∀ p, p ∈ ds → (f p).length ≤ n) → ((ds.map f).flatten).length ≤ ds.length * n
 | [], _ => by simp
 | p :: ds, h => by
  rw [List.map_cons, List.flatten_cons, List.length_append, List.length_cons]
  have h1 := h p (.head _)
  have h2 := flat_le (ds := ds) fun q hq => h q (.tail _ hq)
  rw [Nat.add_mul]; lia
theorem plain_vrows (n : Nat) (l : List (List Int)) : plainVs (n + 2) (l.map vrow) = true := by
 induction l with
 | nil => rfl
 | cons a l ih => rw [List.map_cons, plainVs_cons]; exact ⟨by show plainV (n + 2) (.lst _) = true; rw [plainV_lst]; exact plain_ints _ _, ih⟩
set_option tactic.hygienic true in
theorem C_law_bound {ds : List DF} {Q} (hd : d < 100) (hn : ds.length ≤ 10) (hsz : ∀ p, p ∈ ds → p.1.length ≤ 100 ∧ p.2.length ≤ 100 ∧ ∀ r, r ∈ p.1 → r.length ≤ 2) (h : Q (.int (boundOf ds)) H) : Cl X.W d (.ref 380) [.lst (ds.map vdf)] H Q := by
 have cX : True := trivial
 revert X d H ds Q hd hn hsz h
 rintro X d H ds Q hd hn hsz h
 refine C_fn (ps := ["many"]) hd (FnOk.of rfl (by kernel_rfl) rfl rfl rfl rfl rfl rfl rfl (by rfl) (by decide)) (lenS fun x0 => len0 rfl) (by decide) (by left) ?_
 rintro hin
 simp only [argLoc]
 have le1 : ∀ i, (((ds.take i).map (·.2)).flatten).length ≤ 1000 := fun i => by
  have h1 := flat_le (f := (·.2)) (n := 100) (ds := ds.take i) fun p q => (hsz p (List.mem_of_mem_take q)).2.1
  rw [List.length_take] at h1
  have : min i ds.length * 100 ≤ 10 * 100 := Nat.mul_le_mul_right _ (by lia)
  lia
 have le2 : ∀ i, (((ds.take i).map fun p => p.1.filter fun r => decide ((-1 : Int) ∈ r)).flatten).length ≤ 1000 := fun i => by
  have h1 := flat_le (f := fun p => p.1.filter fun r => decide ((-1 : Int) ∈ r)) (n := 100) (ds := ds.take i) fun p q => Nat.le_trans (List.length_filter_le _ _) (hsz p (List.mem_of_mem_take q)).1
  rw [List.length_take] at h1
  have : min i ds.length * 100 ≤ 10 * 100 := Nat.mul_le_mul_right _ (by lia)
  lia
 have le3 : (allTags ds).length ≤ 1000 := by have := le1 ds.length; rwa [List.take_length] at this
 ac_rfl
 refine S_setComp false ?_ (by left)
 ac_rfl
 refine CpLp.lst (CpIn.mono _ _) (fun i H' zs => H' = H ∧ zs = (((ds.take i).map (·.2)).flatten).map vtag) (by left) (by first | exact compLoc_none (by left) | exact Loc.put_ne (by left) (compLoc_none (by left)) | exact Loc.put_ne (by left) (Loc.put_ne (by left) (compLoc_none (by left)))) ⟨rfl, rfl⟩ ?_ ?_
 ·rintro H' zs ⟨rfl, rfl⟩
  simp only [cpOut, Bool.false_eq_true, if_false]
  rw [List.length_map, List.take_length]
  refine S_mid (fun m Hx => ∃ ts : List (List Int), ts.length ≤ 2000 ∧ (ts.length : Int) - ((nubL [] ts).length : Int) = boundOf ds ∧ m ("tags" : Str) = some (.ref H'.length) ∧ Hx = H' ++ [.list (ts.map vtag)]) ?_ ?_
  ·ac_rfl
   refine E_comp true ?_
   ac_rfl
   refine CpLp.lst (CpIn.mono _ _) (fun i H'' zs => H'' = H' ++ [.list ((allTags ds).map vtag)] ∧ zs = (((ds.take i).map fun p => p.1.filter fun r => decide ((-1 : Int) ∈ r)).flatten).map vrow) (by left) (by first | exact compLoc_none (by left) | exact Loc.put_ne (by left) (compLoc_none (by left)) | exact Loc.put_ne (by left) (Loc.put_ne (by left) (compLoc_none (by left)))) ⟨rfl, rfl⟩ ?_ ?_
   ·rintro H'' zs ⟨rfl, rfl⟩
    simp only [cpOut, if_true]
    rw [List.length_map, List.take_length]
    refine E_lstF ?_
    ac_rfl
    refine ⟨by simp, ?_⟩
    refine P_ne (by rw [plainV_lst]; exact plain_vrows _ _) (by rfl) ?_
    rintro b hb
    ac_rfl
    split
    ·rename_i hbt
     subst hbt
     have hne : deadRows ds ≠ [] := fun q => (hb.mp rfl) (by rw [show (((ds.map fun p => p.1.filter fun r => decide ((-1 : Int) ∈ r)).flatten).map vrow) = (deadRows ds).map vrow from rfl, q]; rfl)
     ac_rfl
     refine E_meth ?_
     ac_rfl
     refine ⟨_, M_append at_get0, Kept.blt, ?_⟩
     ac_rfl
     refine ⟨by simp, ?_⟩
     ac_rfl
     refine C_append at_get0 (by simp; lia) ?_
     ac_rfl
     rw [at_set0]
     refine ⟨rfl, bTags ds, ?_, rfl, (by bv_omega), ?_⟩
     ·unfold bTags; rw [if_neg hne]; simp; lia
     ·unfold bTags; rw [if_neg hne]; simp [vtag]
    ·rename_i hbf
     have hbf : b = false := by simpa using hbf
     subst hbf
     have heq : deadRows ds = [] := by
      cases q : deadRows ds with
      | nil => rfl
      | cons r l =>
       have := hb.mpr (by rw [show (((ds.map fun p => p.1.filter fun r => decide ((-1 : Int) ∈ r)).flatten).map vrow) = (deadRows ds).map vrow from rfl, q]; intro z; cases z)
       cases this
     ac_rfl
     refine ⟨rfl, bTags ds, ?_, rfl, (by bv_omega), ?_⟩
     ·unfold bTags; rw [if_pos heq]; simp; lia
     ·unfold bTags; rw [if_pos heq]; simp
   ·rintro i a H'' zs e ⟨rfl, rfl⟩
    rw [List.getElem?_map] at e
    obtain ⟨p, ep, rfl⟩ := Option.map_eq_some_iff.mp e
    simp only [CpIfs_n, CpIfs_o, if_true]
    show Ev _ _ _ _ _ _ _
    ac_rfl
    refine CpLp.lst (CpIn.mono _ _) (fun j G ys => G = H' ++ [.list ((allTags ds).map vtag)] ∧ ys = ((((ds.take i).map fun p => p.1.filter fun r => decide ((-1 : Int) ∈ r)).flatten) ++ (p.1.take j).filter fun r => decide ((-1 : Int) ∈ r)).map vrow) (by left) (by first | exact compLoc_none (by left) | exact Loc.put_ne (by left) (compLoc_none (by left)) | exact Loc.put_ne (by left) (Loc.put_ne (by left) (compLoc_none (by left)))) ⟨rfl, by simp⟩ ?_ ?_
    ·rintro G ys ⟨rfl, rfl⟩
     refine ⟨rfl, ?_⟩
     rw [List.length_map, List.take_length, flat_snoc ep]
    ·rintro j a G ys e2 ⟨rfl, rfl⟩
     rw [List.getElem?_map] at e2
     obtain ⟨r, er, rfl⟩ := Option.map_eq_some_iff.mp e2
     have tk : (p.1.take (j + 1)).filter (fun r => decide ((-1 : Int) ∈ r)) = (p.1.take j).filter (fun r => decide ((-1 : Int) ∈ r)) ++ [r].filter (fun r => decide ((-1 : Int) ∈ r)) := by rw [List.take_add_one, er]; simp
     simp only [CpIfs_n, CpIfs_o]
     ac_rfl
     refine P_inLst (plain_ints _ _) (by rfl) ?_
     rintro b hb
     ac_rfl
     split
     ·rename_i hbt
      subst hbt
      have hm : (-1 : Int) ∈ r := by
       obtain ⟨x, hx, q⟩ := List.mem_map.mp (hb.mp rfl)
       injection q with q; rw [← q]; exact hx
      simp only [CpIn_n]
      ac_rfl
      refine ⟨?_, rfl, ?_⟩
      ·have := le2 (i + 1)
       rw [flat_snoc ep, List.length_append] at this
       have h3 : ((p.1.take j).filter fun r => decide ((-1 : Int) ∈ r)).length ≤ 100 := Nat.le_trans (List.length_filter_le _ _) (by rw [List.length_take]; have := (hsz p (List.mem_of_getElem? ep)).1; lia)
       rw [List.length_map, List.length_append]; lia
      ·rw [tk, List.filter_cons, decide_eq_true hm]; simp
     ·rename_i hbf
      have hbf : b = false := by simpa using hbf
      subst hbf
      have hm : ¬ (-1 : Int) ∈ r := fun q => by simpa using hb.mpr (List.mem_map.mpr ⟨_, q, rfl⟩)
      refine ⟨rfl, ?_⟩
      rw [tk, List.filter_cons, decide_eq_false hm]; simp
  ·rintro m Hx ⟨ts, hl, hb, hm, rfl⟩
   have hk : (H' ++ [AObj.list (ts.map vtag)])[H'.length]? = some (.list (ts.map vtag)) := at_get0
   ac_rfl
   refine K_len (by left) ?_
   ac_rfl
   refine C_len (AsList.ref hk) (by simp; lia) ?_
   refine K_len (by left) ?_
   ac_rfl
   refine K_dict (by left) ?_
   ac_rfl
   refine E_comp true ?_
   ac_rfl
   refine Cp_mapS (ys := ts.map vtag) (fun v => .tup [v, .bool true]) (AsList.ref hk) (by left) (by first | exact compLoc_none (by left) | exact Loc.put_ne (by left) (compLoc_none (by left)) | exact Loc.put_ne (by left) (Loc.put_ne (by left) (compLoc_none (by left)))) (by simp; lia) ?_ fun b hb => ?_
   ·simp only [cpOut, if_true, List.nil_append]
    ac_rfl
    refine C_dictPairs (ts := ts) (.inl (by rw [List.map_map]; rfl)) (by lia) ?_
    rintro xs
    ac_rfl
    refine C_lenT (by have := nubL_len ts []; simp at this; lia) ?_
    ac_rfl
    rw [List.length_map, hb]
    exact Ret.drop hin (.same _) rfl h
   ·ac_rfl
    exact ⟨by simp, rfl, rfl⟩
 ·rintro i a H' zs e ⟨rfl, rfl⟩
  rw [List.getElem?_map] at e
  obtain ⟨p, ep, rfl⟩ := Option.map_eq_some_iff.mp e
  simp only [CpIfs_n, CpIfs_o, if_true]
  show Ev _ _ _ _ _ _ _
  ac_rfl
  refine CpLp.lst (CpIn.mono _ _) (fun j G ys => G = H' ∧ ys = ((((ds.take i).map (·.2)).flatten) ++ p.2.take j).map vtag) (by left) (by first | exact compLoc_none (by left) | exact Loc.put_ne (by left) (compLoc_none (by left)) | exact Loc.put_ne (by left) (Loc.put_ne (by left) (compLoc_none (by left)))) ⟨rfl, by simp⟩ ?_ ?_
  ·rintro G ys ⟨rfl, rfl⟩
   refine ⟨rfl, ?_⟩
   rw [List.length_map, List.take_length, flat_snoc ep]
  ·rintro j a G ys e2 ⟨rfl, rfl⟩
   rw [List.getElem?_map] at e2
   obtain ⟨t, et, rfl⟩ := Option.map_eq_some_iff.mp e2
   simp only [CpIfs_n, CpIfs_o, CpIn_n, if_true]
   ac_rfl
   refine ⟨?_, rfl, ?_⟩
   ·have := le1 i
    have := (hsz p (List.mem_of_getElem? ep)).2.1
    rw [List.length_map, List.length_append, List.length_take]; lia
   ·rw [List.take_add_one, et]; simp
end
set_option tactic.hygienic false
section
variable {X : Wx} {d : Nat} {H : List AObj} {w : Nat} {rows tags : List (List Int)}
theorem C_run {u : List Int} {Q} (hd : d < 99) (A : Aut w rows tags) (hu : WordOk w u) (h : Q (.int (runOf rows 0 u)) H) : Cl X.W d (.ref 135) [vdfa rows tags, vrow u] H Q := by
 have cX : True := trivial
 revert X d H w rows tags u Q hd A hu h
 rintro X d H w rows tags u Q hd A hu h
 have hd' := hd
 replace hd : d < 100 := by lia
 have h0 : At rows 0 := ⟨by lia, by have := A.pos; lia⟩
 refine C_fnD (ps := ["dfa", "numbers", "state"]) (ds := [.int 0]) (dvs := [.int 0 343]) hd (FnOk.of rfl (by kernel_rfl) rfl rfl rfl rfl rfl rfl rfl (by rfl) (by decide)) (by intro vs s h K; match vs, h with | [x0, x1], _ => exact kp_binds K (fun S => by kernel_rfl)) (fun c => ⟨_, _, rfl, ⟨_, rfl⟩, rfl⟩) (by decide) (by left) ?_
 rintro hin
 simp only [argLoc, List.append, List.cons_append, List.nil_append]
 ac_rfl
 refine S_forL ?_
 ac_rfl
 refine ⟨_, rfl, fun i m H' => H' = H ∧ m ("dfa" : Str) = some (vdfa rows tags) ∧ m ("state" : Str) = some (.int (runOf rows 0 (u.take i))), ⟨rfl, (by bv_omega), (by bv_omega)⟩, ?_, ?_⟩
 ·rintro m H' ⟨rfl, h1, h2⟩
  rw [List.length_map, List.take_length] at h2
  ac_rfl
  exact Ret.keep h
 ·rintro i a m H' e ⟨rfl, h1, h2⟩
  obtain ⟨c, rfl, ec⟩ := int_of_map e
  have hc := hu c (List.mem_of_getElem? ec)
  have ha := A.runTake h0 hu i
  refine A_name (by left) ?_
  refine Ss.abs ?_
  rintro R hR
  ac_rfl
  refine E_meth ?_
  ac_rfl
  refine ⟨_, O_step, Kf_step, ?_⟩
  ac_rfl
  refine C_step (by lia) A ha hc.1 hc.2 ?_
  ac_rfl
  exact ⟨rfl, (by bv_omega), by rw [runOf_take ec]; exact Loc.put_eq⟩
set_option tactic.hygienic true in
theorem C_accepts {u : List Int} {Q} (hd : d < 98) (A : Aut w rows tags) (hu : WordOk w u) (h : Q (vtag (T rows tags 0 u)) H) : Cl X.W d (.ref 142) [vdfa rows tags, vrow u] H Q := by
 have cX : True := trivial
 revert X d H w rows tags u Q hd A hu h
 rintro X d H w rows tags u Q hd A hu h
 have hd' := hd
 replace hd : d < 100 := by lia
 have h0 : At rows 0 := ⟨by lia, by have := A.pos; lia⟩
 have ha := A.run u h0 hu
 refine C_fn (ps := ["dfa", "numbers"]) hd (FnOk.of rfl (by kernel_rfl) rfl rfl rfl rfl rfl rfl rfl (by rfl) (by decide)) (lenS fun x0 => lenS fun x1 => len0 rfl) (by decide) (by left) ?_
 rintro hin
 simp only [argLoc]
 unfold T tagOf at h
 ac_rfl
 refine K_run (by left) ?_
 ac_rfl
 refine C_run (by lia) A hu ?_
 ac_rfl
 split
 ·rename_i e
  have e : runOf rows 0 u = -1 := by simpa using e
  rw [if_pos e] at h
  ac_rfl
  exact ⟨by simp, Ret.keep h⟩
 ·rename_i e
  have e : runOf rows 0 u ≠ -1 := by simpa using e
  rw [if_neg e] at h
  obtain ⟨h1, h2⟩ := ha
  obtain ⟨t, et, _⟩ := A.tagAt (s := runOf rows 0 u) (by lia) h2
  rw [getD_of et] at h
  have := A.small
  ac_rfl
  refine G_lst (by lia) (by lia) (map_get et) ?_
  exact Ret.keep h
noncomputable def linksOf (rows : List (List Int)) : List (List Int) := rows.map fun r => r.filter fun g => !decide (g = -1)
theorem C_links {Q} (hd : d < 100) (A : Aut w rows tags) (h : Q (.lst ((linksOf rows).map vrow)) H) : Cl X.W d (.ref 113) [vdfa rows tags] H Q := by
 have cX : True := trivial
 revert X d H w rows tags Q hd A h
 rintro X d H w rows tags Q hd A h
 refine C_fn (ps := ["self"]) hd (FnOk.of rfl (by kernel_rfl) rfl rfl rfl rfl rfl rfl rfl (by rfl) (by decide)) (lenS fun x0 => len0 rfl) (by decide) (by left) ?_
 rintro hin
 simp only [argLoc]
 have := A.small
 have e1 : (rows.map vrow).map (fun v => match v with | .lst xs => V.lst (xs.filter fun x => match x with | .int g => !decide (g = -1) | _ => false) | v => v) = (linksOf rows).map vrow := by
  unfold linksOf
  rw [List.map_map, List.map_map]
  refine List.map_congr_left ?_
  rintro r _
  show V.lst _ = V.lst _
  rw [List.filter_map]
  rfl
 ac_rfl
 refine E_comp true ?_
 ac_rfl
 refine Cp_mapS (ys := rows.map vrow) (fun v => match v with | .lst xs => V.lst (xs.filter fun x => match x with | .int g => !decide (g = -1) | _ => false) | v => v) AsList.lst (by left) (by first | exact compLoc_none (by left) | exact Loc.put_ne (by left) (compLoc_none (by left)) | exact Loc.put_ne (by left) (Loc.put_ne (by left) (compLoc_none (by left)))) (by simp; lia) ?_ fun b hb => ?_
 ·simp only [cpOut, if_true, List.nil_append]
  rw [e1]
  exact Ret.keep h
 ·obtain ⟨r, hr, rfl⟩ := List.mem_map.mp hb
  have hl := (A.row r hr).1
  have := A.width
  refine E_comp true ?_
  ac_rfl
  refine Cp_filter (fun x => match x with | .int g => !decide (g = -1) | _ => false) (by left) (by left) (by first | exact compLoc_none (by left) | exact Loc.put_ne (by left) (compLoc_none (by left)) | exact Loc.put_ne (by left) (Loc.put_ne (by left) (compLoc_none (by left)))) (by simp; lia) ?_ fun b hb => ?_
  ·simp only [cpOut, if_true, List.nil_append]
   exact ⟨rfl, trivial⟩
  ·obtain ⟨g, _, rfl⟩ := List.mem_map.mp hb
   ac_rfl
   exact ⟨rfl, rfl⟩
end
set_option tactic.hygienic false
section
variable {X : Wx} {d : Nat} {H : List AObj} {w : Nat} {rows tags : List (List Int)}
theorem Rsvs.of_get {n : Nat} {H : List AObj} : ∀ {xs ys : List V}, xs.length = ys.length → (∀ (i : Nat) x y, xs[i]? = some x → ys[i]? = some y → Rsv n H x y) → Rsvs n H xs ys
 | [], [], _, _ => .nil
 | x :: xs, y :: ys, hl, h => .cons (h 0 x y rfl rfl) (Rsvs.of_get (by simpa using hl) fun i a b e1 e2 => h (i + 1) a b (by simpa using e1) (by simpa using e2))
 | [], _ :: _, hl, _ => by simp at hl
 | _ :: _, [], hl, _ => by simp at hl
noncomputable def arr (bs : List (List Int)) : List AObj := bs.map fun b => AObj.list (b.map V.int)
noncomputable def refs (k n : Nat) : List V := (List.range n).map fun i => V.ref (k + i)
theorem refs_get {k n i : Nat} (h : i < n) : (refs k n)[i]? = some (V.ref (k + i)) := by unfold refs; rw [List.getElem?_map, List.getElem?_range h]; rfl
theorem refs_len {k n : Nat} : (refs k n).length = n := by simp [refs]
theorem arr_len {bs} : (arr bs).length = bs.length := by simp [arr]
theorem arr_get {H0 l : List AObj} {bs : List (List Int)} {i : Nat} {b : List Int} (e : bs[i]? = some b) : (H0 ++ arr bs ++ l)[H0.length + i]? = some (.list (b.map V.int)) := by
 have hi := (gll e)
 rw [List.append_assoc, List.getElem?_append_right (Nat.le_add_right _ _), Nat.add_sub_cancel_left, List.getElem?_append_left (by rw [arr_len]; exact hi)]
 unfold arr; rw [List.getElem?_map, e]; rfl
theorem arr_last {H0 : List AObj} {bs : List (List Int)} {x : AObj} {l : List AObj} : (H0 ++ arr bs ++ x :: l)[H0.length + bs.length]? = some x := by
 rw [List.getElem?_append_right (by rw [List.length_append, arr_len]; exact Nat.le_refl _), List.length_append, arr_len, Nat.sub_self]; rfl
theorem arr_set {H0 l : List AObj} {bs : List (List Int)} {i : Nat} {b : List Int} (hi : i < bs.length) : (H0 ++ arr bs ++ l).set (H0.length + i) (.list (b.map V.int)) = H0 ++ arr (bs.set i b) ++ l := by
 rw [List.append_assoc, List.set_append_right _ _ (Nat.le_add_right _ _), Nat.add_sub_cancel_left, List.set_append_left _ _ (by rw [arr_len]; exact hi), List.append_assoc]
 unfold arr; rw [List.map_set]
theorem rsv_arr {H0 l : List AObj} {bs : List (List Int)} : Rsv H0.length (H0 ++ arr bs ++ .list (refs H0.length bs.length) :: l) (.ref (H0.length + bs.length)) (.lst (bs.map vrow)) := by
 refine .list (Nat.le_add_right _ _) arr_last (Rsvs.of_get (by simp [refs_len]) fun i x y e1 e2 => ?_)
 rw [List.getElem?_map] at e2
 obtain ⟨b, eb, rfl⟩ := Option.map_eq_some_iff.mp e2
 have hi := (gll eb)
 rw [refs_get hi] at e1
 cases e1
 exact .list (Nat.le_add_right _ _) (arr_get eb) (Rsvs.refl ..)
noncomputable def LinkOk (n : Nat) (ls : List (List Int)) : Prop := ls.length = n ∧ ∀ l, l ∈ ls → l.length ≤ 2 ∧ ∀ g, g ∈ l → 0 ≤ g ∧ g < n
noncomputable def TurnI (ls : List (List Int)) (i j : Nat) (bs : List (List Int)) : Prop :=
 bs.length = ls.length ∧ ∀ (g : Nat) b, bs[g]? = some b → b.length ≤ 2 * i + j ∧ ∀ p, p ∈ b ↔ ∃ (k : Nat) (l : List Int), p = (k : Int) ∧ ls[k]? = some l ∧ ((k < i ∧ (g : Int) ∈ l) ∨ (k = i ∧ (g : Int) ∈ l.take j))
noncomputable def Turned (ls bs : List (List Int)) : Prop := bs.length = ls.length ∧ ∀ (g : Nat) b, bs[g]? = some b → b.length ≤ 2 * ls.length ∧ ∀ p, p ∈ b ↔ ∃ (k : Nat) (l : List Int), p = (k : Int) ∧ ls[k]? = some l ∧ (g : Int) ∈ l
theorem TurnI.up {ls : List (List Int)} {i : Nat} {l : List Int} {bs} (e : ls[i]? = some l) (hl : l.length ≤ 2) (h : TurnI ls i l.length bs) : TurnI ls (i + 1) 0 bs := by
 refine ⟨h.1, fun g b eb => ⟨by have := (h.2 g b eb).1; lia, fun p => ((h.2 g b eb).2 p).trans ⟨?_, ?_⟩⟩⟩
 ·rintro ⟨k, l', rfl, e', q⟩
  refine ⟨k, l', rfl, e', .inl ?_⟩
  rcases q with ⟨q1, q2⟩ | ⟨q1, q2⟩
  ·exact ⟨by lia, q2⟩
  ·exact ⟨by lia, List.mem_of_mem_take q2⟩
 ·rintro ⟨k, l', rfl, e', q⟩
  refine ⟨k, l', rfl, e', ?_⟩
  rcases q with ⟨q1, q2⟩ | ⟨q1, q2⟩
  ·by_cases hk : k < i
   ·exact .inl ⟨hk, q2⟩
   ·have : k = i := by lia
    subst this
    rw [e] at e'; cases e'
    exact .inr ⟨rfl, by rw [List.take_length]; exact q2⟩
  ·simp at q2
theorem TurnI.step {ls : List (List Int)} {i j : Nat} {l : List Int} {bs} {g : Nat} {b : List Int} (e : ls[i]? = some l) (eg : l[j]? = some (g : Int)) (eb : bs[g]? = some b) (h : TurnI ls i j bs) : TurnI ls i (j + 1) (bs.set g (b ++ [(i : Int)])) := by
 have tk : l.take (j + 1) = l.take j ++ [(g : Int)] := by rw [List.take_add_one, eg]; rfl
 refine ⟨by rw [List.length_set]; exact h.1, fun g' b' eb' => ?_⟩
 by_cases hg : g = g'
 ·subst hg
  rw [List.getElem?_set_self (gll eb)] at eb'
  cases eb'
  refine ⟨by have := (h.2 g b eb).1; simp; lia, fun p => ?_⟩
  rw [List.mem_append, (h.2 g b eb).2 p]
  constructor
  ·rintro (⟨k, l', rfl, e', q⟩ | q)
   ·refine ⟨k, l', rfl, e', q.imp id fun q => ⟨q.1, ?_⟩⟩
    obtain ⟨rfl, q2⟩ := q
    rw [e] at e'; cases e'
    rw [tk]; exact List.mem_append_left _ q2
   ·rw [List.mem_singleton.mp q]
    exact ⟨i, l, rfl, e, .inr ⟨rfl, by rw [tk]; simp⟩⟩
  ·rintro ⟨k, l', rfl, e', q⟩
   rcases q with q | ⟨rfl, q⟩
   ·exact .inl ⟨k, l', rfl, e', .inl q⟩
   ·exact .inr (by simp)
 ·rw [List.getElem?_set_ne hg] at eb'
  refine ⟨by have := (h.2 g' b' eb').1; lia, fun p => ((h.2 g' b' eb').2 p).trans ⟨?_, ?_⟩⟩
  ·rintro ⟨k, l', rfl, e', q⟩
   refine ⟨k, l', rfl, e', q.imp id fun q => ⟨q.1, ?_⟩⟩
   obtain ⟨rfl, q2⟩ := q
   rw [e] at e'; cases e'
   rw [tk]; exact List.mem_append_left _ q2
  ·rintro ⟨k, l', rfl, e', q⟩
   refine ⟨k, l', rfl, e', q.imp id fun q => ⟨q.1, ?_⟩⟩
   obtain ⟨rfl, q2⟩ := q
   rw [e] at e'; cases e'
   rw [tk] at q2
   rcases List.mem_append.mp q2 with q2 | q2
   ·exact q2
   ·have := List.mem_singleton.mp q2
    exact absurd (by lia) hg
theorem C_turned {n : Nat} {ls : List (List Int)} {Q} (hd : d < 100) (hn : n ≤ 1000) (ok : LinkOk n ls) (h : ∀ bs, Turned ls bs → Q (.lst (bs.map vrow)) H) : Cl X.W d (.ref 73) [.lst (ls.map vrow)] H Q := by
 have cX : True := trivial
 revert X d H n ls Q hd hn ok h
 rintro X d H n ls Q hd hn ok h
 refine C_fn (ps := ["links"]) hd (FnOk.of rfl (by kernel_rfl) rfl rfl rfl rfl rfl rfl rfl (by rfl) (by decide)) (lenS fun x0 => len0 rfl) (by decide) (by left) ?_
 rintro hin
 simp only [argLoc]
 obtain ⟨hln, hlk⟩ := ok
 ac_rfl
 refine S_setComp false ?_ (by left)
 ac_rfl
 refine CpLp.lst (CpIn.mono _ _) (fun i H' zs => H' = H ++ arr (List.replicate i []) ∧ zs = refs H.length i) (by left) (by first | exact compLoc_none (by left) | exact Loc.put_ne (by left) (compLoc_none (by left)) | exact Loc.put_ne (by left) (Loc.put_ne (by left) (compLoc_none (by left)))) ⟨by simp [arr], rfl⟩ ?_ ?_
 ·rintro H' zs ⟨rfl, rfl⟩
  simp only [cpOut, Bool.false_eq_true, if_false]
  rw [List.length_map]
  have hlast : ∀ {bs : List (List Int)} {l}, bs.length = ls.length → (H ++ arr bs ++ AObj.list (refs H.length ls.length) :: l)[H.length + ls.length]? = some (.list (refs H.length ls.length)) := fun e => by rw [← e]; exact arr_last
  rw [show (H ++ arr (List.replicate ls.length [])).length = H.length + ls.length by rw [List.length_append, arr_len, List.length_replicate]]
  ac_rfl
  refine S_forR ?_
  refine K_range (by left) ?_
  ac_rfl
  refine K_len (by left) ?_
  ac_rfl
  refine C_len AsList.lst (by simp; lia) ?_
  ac_rfl
  refine C_range ?_
  refine ⟨_, rfl, by lia, by simp; lia, fun i m H' => m ("links" : Str) = some (.lst (ls.map vrow)) ∧ m ("back" : Str) = some (.ref (H.length + ls.length)) ∧ ∃ bs, TurnI ls i 0 bs ∧ H' = H ++ arr bs ++ [.list (refs H.length ls.length)], ⟨(by bv_omega), (by bv_omega), List.replicate ls.length [], ⟨by simp, fun g b eb => ?_⟩, rfl⟩, ?_, ?_⟩
  ·rw [List.getElem?_replicate] at eb
   split at eb
   ·cases eb
    refine ⟨by simp, fun p => ⟨(fun q => nomatch q), ?_⟩⟩
    rintro ⟨k, l, _, _, q | q⟩
    ·lia
    ·simp at q
   ·cases eb
  ·rintro m H' ⟨h1, h2, bs, hI, rfl⟩
   rw [List.length_map] at hI
   have hb := hI.1
   ac_rfl
   rw [← hb, List.append_assoc]
   refine Ret.drop hin (b := .lst (bs.map vrow)) ?_ ?_ (h bs ⟨hI.1, fun g b eb => ⟨by have := (hI.2 g b eb).1; simp at this; lia, fun p => ((hI.2 g b eb).2 p).trans ⟨?_, ?_⟩⟩⟩)
   ·rw [← List.append_assoc]; exact rsv_arr
   ·exact within_rows _ _
   ·rintro ⟨k, l, rfl, e, q⟩
    exact ⟨k, l, rfl, e, q.elim (·.2) fun q => List.mem_of_mem_take q.2⟩
   ·rintro ⟨k, l, rfl, e, q⟩
    exact ⟨k, l, rfl, e, .inl ⟨by have := (gll e); simpa using this, q⟩⟩
  ·rintro i m H' hi ⟨h1, h2, bs, hI, rfl⟩
   have hi' : i < ls.length := by simpa using hi
   obtain ⟨l, el, hml⟩ := get_of_lt (l := ls) (i := i) hi'
   have hll := hlk l hml
   refine A_name (by left) ?_
   refine Ss.abs ?_
   rintro R hR
   ac_rfl
   refine S_forL ?_
   ac_rfl
   refine G_lst (by lia) (by lia) (map_get (by simpa using el)) ?_
   refine ⟨_, rfl, fun j m H' => m ("links" : Str) = some (.lst (ls.map vrow)) ∧ m ("back" : Str) = some (.ref (H.length + ls.length)) ∧ m ("place" : Str) = some (.int (i : Nat)) ∧ ∃ bs, TurnI ls i j bs ∧ H' = H ++ arr bs ++ [.list (refs H.length ls.length)], ⟨(by bv_omega), (by bv_omega), (by bv_omega), bs, hI, rfl⟩, ?_, ?_⟩
   ·rintro m H' ⟨h1, h2, _, bs, hI, rfl⟩
    rw [List.length_map] at hI
    ac_rfl
    exact ⟨h1, h2, bs, hI.up el hll.1, rfl⟩
   ·rintro j a m H' e ⟨h1, h2, h3, bs, hI, rfl⟩
    obtain ⟨c, rfl, ec⟩ := int_of_map e
    obtain ⟨c0, c1⟩ := hll.2 c (List.mem_of_getElem? ec)
    have hb := hI.1
    obtain ⟨b, eb, _⟩ := get_of_lt (l := bs) (i := c.toNat) (by lia)
    have hbl := (hI.2 _ b eb).1
    have hj := (gll ec)
    refine A_name (by left) ?_
    refine Ss.abs ?_
    rintro R hR
    ac_rfl
    refine E_meth ?_
    ac_rfl
    refine G_list (hlast hb) c0 (by lia) (refs_get (by lia)) ?_
    refine ⟨_, M_append (arr_get eb), Kept.blt, ?_⟩
    ac_rfl
    refine C_append (arr_get eb) (by simp; lia) ?_
    ac_rfl
    refine ⟨(by bv_omega), (by bv_omega), (by bv_omega), bs.set c.toNat (b ++ [(i : Int)]), hI.step el (by rw [ec]; congr 1; lia) eb, ?_⟩
    rw [show List.map V.int b ++ [V.int (i : Int)] = (b ++ [(i : Int)]).map V.int by simp]
    exact arr_set (by lia)
 ·rintro i a H' zs e ⟨rfl, rfl⟩
  simp only [CpIfs_n, CpIfs_o, CpIn_n, if_true]
  ac_rfl
  refine E_lstM ?_
  ac_rfl
  refine ⟨by simp, ?_, ?_, ?_⟩
  ·have := (gll e)
   simp at this
   rw [refs_len]; lia
  ·rw [List.replicate_succ']
   simp [arr]
  ·rw [List.length_append, arr_len, List.length_replicate]
   unfold refs
   rw [List.range_succ, List.map_append]; rfl
end
set_option tactic.hygienic false
section
variable {X : Wx} {d : Nat} {H : List AObj} {w : Nat} {rows tags : List (List Int)}
noncomputable def bl (sn : List Bool) : AObj := .list (sn.map V.bool)
noncomputable def il (l : List Int) : AObj := .list (l.map V.int)
theorem two0 {H : List AObj} {a b : AObj} : (H ++ [a, b])[H.length]? = some a := by simp
theorem two1 {H : List AObj} {a b : AObj} : (H ++ [a, b])[H.length + 1]? = some b := by simp
theorem two_set0 {H : List AObj} {a b c : AObj} : (H ++ [a, b]).set H.length c = H ++ [c, b] := by simp
theorem two_set1 {H : List AObj} {a b c : AObj} : (H ++ [a, b]).set (H.length + 1) c = H ++ [a, c] := by
 rw [List.set_append_right _ _ (Nat.le_add_right _ _), Nat.add_sub_cancel_left]; rfl
theorem map_bool_set {sn : List Bool} {k : Nat} {b : Bool} : (sn.map V.bool).set k (.bool b) = (sn.set k b).map V.bool := by rw [List.map_set]
theorem C_spread {ls : List (List Int)} {seeds : List Int} {n : Nat} {Q} (hd : d < 100) (hn : ls.length = n) (hn2 : n ≤ 1000) (hl : ∀ l, l ∈ ls → l.length ≤ 1000 ∧ ∀ g, g ∈ l → 0 ≤ g ∧ g < n) (hs : ∀ s, s ∈ seeds → 0 ≤ s ∧ s < n) (hsl : seeds.length ≤ 1000)
  (h : ∀ sn : List Bool, sn.length = n → (∀ x : Nat, x < n → (sn[x]? = some true ↔ Reach ls seeds x)) → Q (.lst (sn.map V.bool)) H) : Cl X.W d (.ref 68) [.lst (ls.map vrow), .lst (seeds.map V.int)] H Q := by
 have cX : True := trivial
 revert X d H ls seeds n Q hd hn hn2 hl hs hsl h
 rintro X d H ls seeds n Q hd hn hn2 hl hs hsl h
 refine C_fn (ps := ["links", "seeds"]) hd (FnOk.of rfl (by kernel_rfl) rfl rfl rfl rfl rfl rfl rfl (by rfl) (by decide)) (lenS fun x0 => lenS fun x1 => len0 rfl) (by decide) (by left) ?_
 rintro hin
 simp only [argLoc]
 ac_rfl
 refine E_lstF ?_
 ac_rfl
 refine ⟨by simp, ?_⟩
 refine K_len (by left) ?_
 ac_rfl
 refine C_len AsList.lst (by simp; lia) ?_
 refine P_mulL false AsList.lst (by lia) (by simp; lia) (by simp; lia) ?_
 simp only [cpOut, Bool.false_eq_true, if_false]
 rw [flat1, List.length_map, hn, Int.toNat_natCast, show List.replicate n (V.bool false) = (List.replicate n false).map V.bool by rw [List.map_replicate]]
 ac_rfl
 refine S_forL ?_
 ac_rfl
 refine ⟨_, rfl, fun i m H' => m ("links" : Str) = some (.lst (ls.map vrow)) ∧ m ("seeds" : Str) = some (.lst (seeds.map V.int)) ∧ m ("seen" : Str) = some (.ref H.length) ∧ ∃ sn : List Bool, sn.length = n ∧ (∀ k : Nat, sn[k]? = some true → (k : Int) ∈ seeds) ∧ (∀ s, s ∈ seeds.take i → On sn s) ∧ H' = H ++ [bl sn],
  ⟨(by bv_omega), (by bv_omega), (by bv_omega), List.replicate n false, by simp, (fun k e => by rw [List.getElem?_replicate] at e; split at e <;> cases e), (fun s q => by simp at q), rfl⟩, ?_, ?_⟩
 ·rintro m H' ⟨h1, h2, h3, sn, s1, s2, s3, rfl⟩
  rw [List.length_map, List.take_length] at s3
  ac_rfl
  refine K_list (by left) ?_
  ac_rfl
  refine C_listOf false AsList.lst (by simp; lia) ?_
  simp only [cpOut, Bool.false_eq_true, if_false]
  rw [List.length_append, List.append_assoc]
  ac_rfl
  refine S_while (2 * cf sn + seeds.length) (fun N m H' => m ("links" : Str) = some (.lst (ls.map vrow)) ∧ m ("seen" : Str) = some (.ref H.length) ∧ m ("waiting" : Str) = some (.ref (H.length + 1)) ∧ ∃ (sn : List Bool) (wt : List Int), SpI ls seeds sn wt ls.length 0 ∧ 2 * cf sn + wt.length = N ∧ N ≤ 5000 ∧ H' = H ++ [bl sn, il wt])
   ⟨(by bv_omega), (by bv_omega), (by bv_omega), sn, seeds, ⟨by lia, s3, fun k e => .base (s2 k e), s3, fun k l e za => .inl (s2 k e)⟩, rfl, by have := cf_le sn; lia, rfl⟩ ?_
  rintro N m H' ⟨h1, h2, h3, sn, wt, I, hN, hN2, rfl⟩
  ac_rfl
  refine Tr_list (AsList.ref two1) (by simp; lia) ?_
  rcases snoc_cases wt with rfl | ⟨wt, p, rfl⟩
  ·simp only [List.map_nil, List.isEmpty_nil, Bool.not_true, Bool.false_eq_true, if_false]
   ac_rfl
   refine Ret.drop hin (b := .lst (sn.map V.bool)) ?_ ?_ (h sn (by rw [I.len, hn]) fun x hx => ⟨fun e => I.sound x e, fun r => ?_⟩)
   ·exact .list (Nat.le_refl _) two0 (Rsvs.refl ..)
   ·exact withins_all fun x q => by obtain ⟨i, _, rfl⟩ := List.mem_map.mp q; rfl
   ·obtain ⟨k, e, q⟩ := I.done r
    rw [show x = k by lia]; exact q
  ·have hp := I.hwt p (List.mem_append_right _ (.head _))
   obtain ⟨p, rfl, hp⟩ := hp
   have hpn : p < ls.length := by rw [← I.len]; exact (gll hp)
   obtain ⟨l, el, hml⟩ := get_of_lt hpn
   have hll := hl l hml
   rw [show (!(List.map V.int (wt ++ [(p : Int)])).isEmpty) = true by simp]
   simp only [if_true]
   ac_rfl
   refine E_meth ?_
   ac_rfl
   refine ⟨_, M_pop two1, Kept.blt, ?_⟩
   ac_rfl
   rw [List.length_append, List.length_singleton] at hN
   refine C_pop (xs := wt.map V.int) (a := .int (p : Nat)) (by rw [two1]; simp [il]) (by simp; lia) ?_
   rw [two_set1]
   ac_rfl
   refine S_forL ?_
   ac_rfl
   refine G_lst (by lia) (by lia) (map_get (by simpa using el)) ?_
   refine ⟨_, rfl, fun j m H' => m ("links" : Str) = some (.lst (ls.map vrow)) ∧ m ("seen" : Str) = some (.ref H.length) ∧ m ("waiting" : Str) = some (.ref (H.length + 1)) ∧ ∃ (sn : List Bool) (wt : List Int), SpI ls seeds sn wt p j ∧ sn[p]? = some true ∧ 2 * cf sn + wt.length < N ∧ H' = H ++ [bl sn, il wt],
    ⟨(by bv_omega), (by bv_omega), (by bv_omega), sn, wt, I.pop, hp, by lia, rfl⟩, ?_, ?_⟩
   ·rintro m H' ⟨h1, h2, h3, sn, wt, I, hp, hN, rfl⟩
    rw [List.length_map] at I
    ac_rfl
    exact ⟨_, hN, h1, h2, h3, sn, wt, I.up el, rfl, by lia, rfl⟩
   ·rintro j a m H' e ⟨h1, h2, h3, sn, wt, I, hp, hN, rfl⟩
    obtain ⟨c, rfl, ec⟩ := int_of_map e
    obtain ⟨c0, c1⟩ := hll.2 c (List.mem_of_getElem? ec)
    have hlen := I.len
    obtain ⟨b, eb, _⟩ := get_of_lt (l := sn) (i := c.toNat) (by lia)
    refine A_name (by left) ?_
    refine Ss.abs ?_
    rintro R hR
    ac_rfl
    refine G_list two0 c0 (by lia) (by rw [List.getElem?_map, eb]; rfl) ?_
    ac_rfl
    cases b with
    | true =>
     simp only [Bool.not_true, Bool.false_eq_true, if_false]
     ac_rfl
     exact ⟨(by bv_omega), (by bv_omega), (by bv_omega), sn, wt, I.old el ec ⟨c.toNat, by lia, eb⟩, hp, hN, rfl⟩
    | false =>
     simp only [Bool.not_false, if_true]
     have hcf := cf_set eb
     have hp' : (sn.set c.toNat true)[p]? = some true := by
      by_cases q : c.toNat = p
      ·rw [q, List.getElem?_set_self (by lia)]
      ·rw [List.getElem?_set_ne q]; exact hp
     ac_rfl
     refine U_list two0 c0 (by simp; lia) (by simp; lia) ?_
     rw [two_set0, map_bool_set]
     ac_rfl
     refine E_meth ?_
     ac_rfl
     refine ⟨_, M_append two1, Kept.blt, ?_⟩
     ac_rfl
     refine C_append two1 (by simp; lia) ?_
     rw [two_set1]
     ac_rfl
     refine ⟨(by bv_omega), (by bv_omega), (by bv_omega), sn.set c.toNat true, wt ++ [c], ?_, hp', by simp; lia, by simp [bl, il]⟩
     have := I.new (g := c.toNat) el (by rw [ec]; congr 1; lia) hp (by lia)
     rwa [show ((c.toNat : Nat) : Int) = c by lia] at this
 ·rintro i a m H' e ⟨h1, h2, h3, sn, s1, s2, s3, rfl⟩
  obtain ⟨c, rfl, ec⟩ := int_of_map e
  obtain ⟨c0, c1⟩ := hs c (List.mem_of_getElem? ec)
  refine A_name (by left) ?_
  refine Ss.abs ?_
  rintro R hR
  ac_rfl
  refine U_list at_get0 c0 (by simp; lia) (by simp; lia) ?_
  rw [at_set0, map_bool_set]
  ac_rfl
  refine ⟨(by bv_omega), (by bv_omega), (by bv_omega), sn.set c.toNat true, by simp [s1], fun k e => ?_, fun s q => ?_, rfl⟩
  ·rcases set_true e with rfl | q
   ·rw [show ((c.toNat : Nat) : Int) = c by lia]; exact List.mem_of_getElem? ec
   ·exact s2 k q
  ·rw [List.take_add_one, ec] at q
   rcases List.mem_append.mp q with q | q
   ·exact (s3 s q).set _
   ·rw [show s = ((c.toNat : Nat) : Int) by simp at q; lia]; exact On.self (by lia)
end
set_option tactic.hygienic false
section
variable {X : Wx} {d : Nat} {H : List AObj} {w : Nat} {rows tags : List (List Int)}
theorem C_alive {Q} (hd : d < 98) (A : Aut w rows tags) (h : ∀ sn : List Bool, sn.length = rows.length → (∀ x : Nat, x < rows.length → (sn[x]? = some true ↔ Alive w rows tags x)) → Q (.lst (sn.map V.bool)) H) : Cl X.W d (.ref 147) [vdfa rows tags] H Q := by
 have cX : True := trivial
 revert X d H w rows tags Q hd A h
 rintro X d H w rows tags Q hd A h
 have hd' := hd
 replace hd : d < 100 := by lia
 refine C_fn (ps := ["dfa"]) hd (FnOk.of rfl (by kernel_rfl) rfl rfl rfl rfl rfl rfl rfl (by rfl) (by decide)) (lenS fun x0 => len0 rfl) (by decide) (by left) ?_
 rintro hin
 simp only [argLoc]
 have hsm := A.small
 ac_rfl
 refine S_setComp true ?_ (by left)
 refine K_range (by left) ?_
 ac_rfl
 refine E_meth ?_
 ac_rfl
 refine ⟨_, O_state_count, Kf_state_count, ?_⟩
 ac_rfl
 refine C_state_count (by lia) A ?_
 ac_rfl
 refine C_range ?_
 refine CpLp.rng (CpIn.mono _ _) (fun i H' zs => H' = H ∧ ∃ ss : List Int, zs = ss.map V.int ∧ ss.length ≤ i ∧ (∀ s, s ∈ ss → 0 ≤ s ∧ s < i) ∧ ∀ k : Nat, k < i → ((k : Int) ∈ ss ↔ ∃ t, tags[k]? = some t ∧ t ≠ [])) (by left) (by first | exact compLoc_none (by left) | exact Loc.put_ne (by left) (compLoc_none (by left)) | exact Loc.put_ne (by left) (Loc.put_ne (by left) (compLoc_none (by left)))) (by lia) (by lia)
  ⟨rfl, [], rfl, by simp, (fun s q => by simp at q), (fun k hk => by lia)⟩ ?_ ?_
 ·rintro H' zs ⟨rfl, ss, rfl, hl, hb, hm⟩
  simp only [cpOut, if_true]
  rw [Int.toNat_natCast] at hl hb hm
  ac_rfl
  refine K_spread (by left) ?_
  ac_rfl
  refine K_turned (by left) ?_
  ac_rfl
  refine E_meth ?_
  ac_rfl
  refine ⟨_, O_links, Kf_links, ?_⟩
  ac_rfl
  refine C_links (by lia) A ?_
  ac_rfl
  refine C_turned (n := rows.length) (by lia) (by lia) ⟨by simp [linksOf], fun l hl => ?_⟩ fun bs hbs => ?_
  ·unfold linksOf at hl
   obtain ⟨r, hr, rfl⟩ := List.mem_map.mp hl
   obtain ⟨e1, e2⟩ := A.row r hr
   refine ⟨Nat.le_trans (List.length_filter_le _ _) (by have := A.width; lia), fun g hg => ?_⟩
   obtain ⟨g1, g2⟩ := List.mem_filter.mp hg
   have := e2 g g1
   have : g ≠ -1 := by simpa using g2
   lia
  ·have hbl : bs.length = rows.length := by rw [hbs.1]; simp [linksOf]
   have hll : (linksOf rows).length = rows.length := by simp [linksOf]
   ac_rfl
   refine C_spread (n := rows.length) (by lia) hbl (by lia) (fun b hb => ?_) hb (by lia) fun sn s1 s2 => ?_
   ·obtain ⟨g, hg⟩ := List.mem_iff_getElem?.mp hb
    obtain ⟨q1, q2⟩ := hbs.2 g b hg
    refine ⟨by lia, fun p hp => ?_⟩
    obtain ⟨k, l, rfl, e, _⟩ := (q2 p).mp hp
    have := (gll e)
    lia
   ·refine Ret.keep (h sn s1 fun x hx => (s2 x hx).trans (A.alive (bs := bs) ⟨hbs.1, fun g b e => (hbs.2 g b e).2⟩ (fun k => ?_) (fun s q => (hb s q).1) x hx))
    by_cases hk : k < rows.length
    ·exact hm k hk
    ·constructor
     ·intro q; have := hb _ q; lia
     ·rintro ⟨t, e, _⟩; have := (gll e); have := A.same; lia
 ·rintro i H' zs hi ⟨rfl, ss, rfl, hl, hb, hm⟩
  obtain ⟨t, et, ht5⟩ := A.tagAt (s := i) (by lia) hi
  rw [Int.toNat_natCast] at et
  simp only [CpIfs_n, CpIfs_o]
  ac_rfl
  refine G_lst (by lia) (by lia) (map_get (by simpa using et)) ?_
  refine Tr_tup (by simp; lia) ?_
  have hgo : ∀ ss', (ss' = ss ++ [(i : Int)] ∧ t ≠ [] ∨ ss' = ss ∧ t = []) → ss'.length ≤ i + 1 ∧ (∀ s, s ∈ ss' → 0 ≤ s ∧ s < ((i + 1 : Nat) : Int)) ∧ ∀ k : Nat, k < i + 1 → ((k : Int) ∈ ss' ↔ ∃ t, tags[k]? = some t ∧ t ≠ []) := by
   rintro ss' (⟨rfl, hne⟩ | ⟨rfl, rfl⟩)
   ·refine ⟨by simp; lia, fun s q => ?_, fun k hk => ?_⟩
    ·rcases List.mem_append.mp q with q | q
     ·have := hb s q; lia
     ·have := List.mem_singleton.mp q; lia
    ·by_cases hk2 : k = i
     ·subst hk2
      exact ⟨fun za => ⟨t, et, hne⟩, fun za => List.mem_append_right _ (.head _)⟩
     ·rw [List.mem_append, List.mem_singleton]
      rw [← hm k (by lia)]
      exact ⟨fun q => q.elim id fun q => absurd q (by lia), .inl⟩
   ·refine ⟨by lia, fun s q => by have := hb s q; lia, fun k hk => ?_⟩
    by_cases hk2 : k = i
    ·subst hk2
     constructor
     ·intro q; have := hb _ q; lia
     ·rintro ⟨t, e, hne⟩; rw [et] at e; cases e; exact absurd rfl hne
    ·exact hm k (by lia)
  cases t with
  | nil =>
   simp only [List.map_nil, List.isEmpty_nil, Bool.not_true, Bool.false_eq_true, if_false]
   refine ⟨trivial, ss, rfl, ?_⟩
   exact hgo ss (.inr ⟨rfl, rfl⟩)
  | cons a t =>
   simp only [List.map_cons, List.isEmpty_cons, Bool.not_false, if_true, CpIn_n]
   ac_rfl
   refine ⟨by simp; lia, rfl, ss ++ [(i : Int)], by simp, ?_⟩
   exact hgo _ (.inl ⟨rfl, by simp⟩)
end
set_option tactic.hygienic false
section
variable {X : Wx} {d : Nat} {H : List AObj} {w : Nat} {rows tags : List (List Int)}
theorem X_mid {W : Wd} {sc : Scope} {m : Loc} {st : Stmt} {Q : AF → Loc → List AObj → Prop} (P : Loc → List AObj → Prop) (h1 : Sx W sc d st m H fun f m1 H1 => f = .next ∧ P m1 H1) (h2 : ∀ m1 H1, P m1 H1 → Q .next m1 H1) : Sx W sc d st m H Q :=
 h1.mono fun f m1 H1 ⟨e, p⟩ => by subst e; exact h2 m1 H1 p
noncomputable def idx (n : Nat) : List V := (List.range n).map fun i => V.int (i : Nat)
theorem idx_get {n i : Nat} (h : i < n) : (idx n)[i]? = some (V.int (i : Nat)) := by unfold idx; rw [List.getElem?_map, List.getElem?_range h]; rfl
theorem idx_succ {n : Nat} : idx (n + 1) = idx n ++ [V.int (n : Nat)] := by unfold idx; rw [List.range_succ, List.map_append]; rfl
theorem refs_succ {k n : Nat} : refs k (n + 1) = refs k n ++ [V.ref (k + n)] := by unfold refs; rw [List.range_succ, List.map_append]; rfl
theorem s3_row {H : List AObj} {x y z : AObj} {rs : List (List Int)} {i : Nat} {row : List Int} (e : rs[i]? = some row) : (H ++ x :: y :: z :: arr rs)[H.length + 3 + i]? = some (il row) := by
 rw [show H.length + 3 + i = H.length + (i + 3) by lia]
 refine at_get ?_
 show (arr rs)[i]? = _
 unfold arr; rw [List.getElem?_map, e]; rfl
theorem s3_push {H : List AObj} {x y z : AObj} {rs : List (List Int)} {row : List Int} : (H ++ x :: y :: z :: arr rs) ++ [AObj.list (row.map V.int)] = H ++ x :: y :: z :: arr (rs ++ [row]) := by
 simp [arr]
theorem s3_setrow {H : List AObj} {x y z : AObj} {rs : List (List Int)} {row row' : List Int} : (H ++ x :: y :: z :: arr (rs ++ [row])).set (H.length + 3 + rs.length) (il row') = H ++ x :: y :: z :: arr (rs ++ [row']) := by
 rw [show H.length + 3 + rs.length = H.length + (rs.length + 3) by lia, at_set]
 show H ++ x :: y :: z :: (arr (rs ++ [row])).set rs.length _ = _
 congr 3
 unfold arr
 rw [List.map_append, List.set_append_right _ _ (by simp)]
 simp [il]
set_option tactic.hygienic true in
theorem C_numbered {sn : List Bool} {Q} (hd : d < 98) (A : Aut w rows tags) (hsn : sn.length = rows.length) (h : ∀ ord rs, NumI rows sn ord rs → rs.length = ord.length → Q (vdfa rs (ord.map fun o => tags.getD o.toNat [])) H) : Cl X.W d (.ref 152) [vdfa rows tags, .int 0, .lst (sn.map V.bool)] H Q := by
 have cX : True := trivial
 revert X d H w rows tags sn Q hd A hsn h
 rintro X d H w rows tags sn Q hd A hsn h
 have hd' := hd
 replace hd : d < 100 := by lia
 refine C_fn (ps := ["dfa", "first", "kept"]) hd (FnOk.of rfl (by kernel_rfl) rfl rfl rfl rfl rfl rfl rfl (by rfl) (by decide)) (lenS fun x0 => lenS fun x1 => lenS fun x2 => len0 rfl) (by decide) (by left) ?_
 rintro hin
 simp only [argLoc]
 have hsm := A.small
 ac_rfl
 refine E_lstM ?_
 ac_rfl
 refine ⟨by simp, ?_⟩
 ac_rfl
 refine E_dictI1 ?_
 ac_rfl
 refine ⟨_, rfl, ?_⟩
 ac_rfl
 refine E_lstM ?_
 ac_rfl
 refine ⟨by simp, ?_⟩
 ac_rfl
 have e0 : H ++ [AObj.list [V.int 0]] ++ [AObj.dictI [0] [V.int 0]] ++ [AObj.list []] = H ++ il [0] :: .dictI [0] (idx 1) :: .list (refs (H.length + 3) 0) :: arr [] := by simp [il, idx, refs, arr]
 rw [e0, show (H ++ [AObj.list [V.int 0]]).length = H.length + 1 by simp, show (H ++ [AObj.list [V.int 0]] ++ [AObj.dictI [0] [V.int 0]]).length = H.length + 2 by simp]
 refine X_mid (fun m Hx => m ("dfa" : Str) = some (vdfa rows tags) ∧ m ("order" : Str) = some (.ref H.length) ∧ m ("rows" : Str) = some (.ref (H.length + 2)) ∧ ∃ ord rs, NumI rows sn ord rs ∧ rs.length = ord.length ∧ Hx = H ++ il ord :: .dictI ord (idx ord.length) :: .list (refs (H.length + 3) rs.length) :: arr rs) ?_ ?_
 ·refine S_while rows.length (fun N m Hx => m ("dfa" : Str) = some (vdfa rows tags) ∧ m ("kept" : Str) = some (.lst (sn.map V.bool)) ∧ m ("order" : Str) = some (.ref H.length) ∧ m ("places" : Str) = some (.ref (H.length + 1)) ∧ m ("rows" : Str) = some (.ref (H.length + 2)) ∧
    ∃ ord rs, NumI rows sn ord rs ∧ N + rs.length = rows.length ∧ Hx = H ++ il ord :: .dictI ord (idx ord.length) :: .list (refs (H.length + 3) rs.length) :: arr rs) ⟨(by bv_omega), (by bv_omega), (by bv_omega), (by bv_omega), (by bv_omega), [0], [], NumI.start A.pos, rfl, rfl⟩ ?_
  rintro N m Hx ⟨h1, h2, h3, h4, h5, ord, rs, I, hN, rfl⟩
  have hol := nodup_le rows.length I.nd I.rng
  ac_rfl
  refine K_len (by left) ?_
  ac_rfl
  refine C_len (AsList.ref (at_get (i := 2) rfl)) (by rw [refs_len]; lia) ?_
  refine K_len (by left) ?_
  ac_rfl
  refine C_len (AsList.ref (at_get (i := 0) rfl)) (by simp; lia) ?_
  ac_rfl
  rw [refs_len, List.length_map]
  split
  ·rename_i hlt
   have hlt : rs.length < ord.length := by simpa using hlt
   obtain ⟨o, eo, hmo⟩ := get_of_lt hlt
   obtain ⟨o0, o1⟩ := I.rng o hmo
   obtain ⟨r, er, hrl, hrg⟩ := A.rowAt o0 o1
   ac_rfl
   refine E_lstM ?_
   ac_rfl
   refine ⟨by simp, ?_⟩
   rw [show [AObj.list ([] : List V)] = [AObj.list (([] : List Int).map V.int)] from rfl, s3_push]
   rw [show (H ++ il ord :: .dictI ord (idx ord.length) :: .list (refs (H.length + 3) rs.length) :: arr rs).length = H.length + 3 + rs.length by simp [arr_len]; lia]
   ac_rfl
   refine S_forL ?_
   ac_rfl
   refine K_len (by left) ?_
   ac_rfl
   refine C_len (AsList.ref (at_get (i := 2) rfl)) (by rw [refs_len]; lia) ?_
   rw [refs_len]
   refine G_list (at_get (i := 0) rfl) (by lia) (by lia) (a := .int o) (by rw [List.getElem?_map, Int.toNat_natCast, eo]; rfl) ?_
   refine G_lst o0 (by lia) (map_get er) ?_
   refine ⟨_, rfl, fun j m Hx => m ("dfa" : Str) = some (vdfa rows tags) ∧ m ("kept" : Str) = some (.lst (sn.map V.bool)) ∧ m ("order" : Str) = some (.ref H.length) ∧ m ("places" : Str) = some (.ref (H.length + 1)) ∧ m ("rows" : Str) = some (.ref (H.length + 2)) ∧ m ("row" : Str) = some (.ref (H.length + 3 + rs.length)) ∧
    ∃ ord row, NumP rows sn ord rs r row j ∧ Hx = H ++ il ord :: .dictI ord (idx ord.length) :: .list (refs (H.length + 3) rs.length) :: arr (rs ++ [row]), ⟨(by bv_omega), (by bv_omega), (by bv_omega), (by bv_omega), (by bv_omega), (by bv_omega), ord, [], I.open eo er, rfl⟩, ?_, ?_⟩
   ·rintro m Hx ⟨h1, h2, h3, h4, h5, h6, ord, row, P, rfl⟩
    rw [List.length_map] at P
    ac_rfl
    refine E_meth ?_
    ac_rfl
    refine ⟨_, M_append (at_get (i := 2) rfl), Kept.blt, ?_⟩
    ac_rfl
    refine C_append (at_get (i := 2) rfl) (by rw [refs_len]; lia) ?_
    rw [at_set]
    ac_rfl
    refine ⟨N - 1, by lia, h1, h2, h3, h4, h5, ord, rs ++ [row], P.close, by simp; lia, ?_⟩
    rw [List.length_append, List.length_singleton, refs_succ]; rfl
   ·rintro j a m Hx e ⟨h1, h2, h3, h4, h5, h6, ord, row, P, rfl⟩
    obtain ⟨g, rfl, eg⟩ := int_of_map e
    have hg := hrg g (List.mem_of_getElem? eg)
    have hol := nodup_le rows.length P.nd P.rng
    have hj := (gll eg)
    have hrowl := P.cur.1
    have hw := A.width
    have hkr : ∀ ord' , (H ++ il ord' :: .dictI ord' (idx ord'.length) :: .list (refs (H.length + 3) rs.length) :: arr (rs ++ [row]))[H.length + 3 + rs.length]? = some (il row) := fun za => s3_row (List.getElem?_concat_length ..)
    refine A_name (by left) ?_
    refine Ss.abs ?_
    rintro R hR
    ac_rfl
    split
    ·rename_i hg1
     have hg1 : g = -1 := by simpa using hg1
     ac_rfl
     refine E_meth ?_
     ac_rfl
     refine ⟨_, M_append (hkr ord), Kept.blt, ?_⟩
     ac_rfl
     refine C_append (hkr ord) (by simp; lia) ?_
     ac_rfl
     refine ⟨(by bv_omega), (by bv_omega), (by bv_omega), (by bv_omega), (by bv_omega), (by bv_omega), ord, row ++ [-1], P.old eg (.inl ⟨rfl, .inl hg1⟩), ?_⟩
     rw [show row.map V.int ++ [V.int (-1)] = (row ++ [-1]).map V.int by simp]
     exact s3_setrow
    ·rename_i hg1
     have hg1 : g ≠ -1 := by simpa using hg1
     obtain ⟨b, eb, _⟩ := get_of_lt (l := sn) (i := g.toNat) (by lia)
     ac_rfl
     refine G_lst (by lia) (by lia) (by rw [List.getElem?_map, eb]; rfl) ?_
     ac_rfl
     cases b with
     | false =>
      simp only [Bool.not_false, if_true]
      ac_rfl
      refine E_meth ?_
      ac_rfl
      refine ⟨_, M_append (hkr ord), Kept.blt, ?_⟩
      ac_rfl
      refine C_append (hkr ord) (by simp; lia) ?_
      ac_rfl
      refine ⟨(by bv_omega), (by bv_omega), (by bv_omega), (by bv_omega), (by bv_omega), (by bv_omega), ord, row ++ [-1], P.old eg (.inl ⟨rfl, .inr eb⟩), ?_⟩
      rw [show row.map V.int ++ [V.int (-1)] = (row ++ [-1]).map V.int by simp]
      exact s3_setrow
     | true =>
      simp only [Bool.not_true, Bool.false_eq_true, if_false]
      refine T_or0 ?_
      refine S_nil ?_
      refine S_mid (fun m' Hx => m' ("dfa" : Str) = some (vdfa rows tags) ∧ m' ("kept" : Str) = some (.lst (sn.map V.bool)) ∧ m' ("order" : Str) = some (.ref H.length) ∧ m' ("places" : Str) = some (.ref (H.length + 1)) ∧ m' ("rows" : Str) = some (.ref (H.length + 2)) ∧ m' ("row" : Str) = some (.ref (H.length + 3 + rs.length)) ∧ m' ("goal" : Str) = some (.int g) ∧
       ∃ (ord' : List Int) (k : Nat), ord'.length ≤ rows.length ∧ ord'[k]? = some g ∧ NumP rows sn ord' rs r (row ++ [(k : Int)]) (j + 1) ∧ Hx = H ++ il ord' :: .dictI ord' (idx ord'.length) :: .list (refs (H.length + 3) rs.length) :: arr (rs ++ [row])) ?_ ?_
      ·ac_rfl
       refine P_notInI (at_get (i := 1) rfl) ?_
       ac_rfl
       split
       ·rename_i hn
        have hn : g ∉ ord := by simpa using hn
        have PN := P.new eg (by lia) hg.2 eb hn
        have := nodup_le rows.length PN.nd PN.rng
        ac_rfl
        refine K_len (by left) ?_
        ac_rfl
        refine C_len (AsList.ref (at_get (i := 0) rfl)) (by simp; lia) ?_
        ac_rfl
        refine U_dictI (at_get (i := 1) rfl) hn (by lia) ?_
        rw [at_set]
        simp only [List.set]
        ac_rfl
        refine E_meth ?_
        ac_rfl
        refine ⟨_, M_append (at_get (i := 0) rfl), Kept.blt, ?_⟩
        ac_rfl
        refine C_append (at_get (i := 0) rfl) (by simp; lia) ?_
        rw [at_set0]
        ac_rfl
        refine ⟨rfl, (by bv_omega), (by bv_omega), (by bv_omega), (by bv_omega), (by bv_omega), (by bv_omega), (by bv_omega), ord ++ [g], ord.length, this, List.getElem?_concat_length .., PN, ?_⟩
        rw [List.length_append, List.length_singleton, idx_succ, List.length_map]
        show H ++ AObj.list (ord.map V.int ++ [V.int g]) :: _ = H ++ AObj.list ((ord ++ [g]).map V.int) :: _
        rw [List.map_append]; rfl
       ·rename_i hn
        have hn : g ∈ ord := by simpa using hn
        obtain ⟨k, hk⟩ := List.mem_iff_getElem?.mp hn
        ac_rfl
        exact ⟨rfl, (by bv_omega), (by bv_omega), (by bv_omega), (by bv_omega), (by bv_omega), (by bv_omega), (by bv_omega), ord, k, hol, hk, P.old eg (.inr ⟨by lia, eb, k, rfl, hk⟩), rfl⟩
      ·rintro m' Hx ⟨h1, h2, h3, h4, h5, h6, h7, ord', k, hl', hk, P', rfl⟩
       have hkl := (gll hk)
       ac_rfl
       refine E_meth ?_
       ac_rfl
       refine ⟨_, M_append (hkr ord'), Kept.blt, ?_⟩
       ac_rfl
       refine G_dictI (at_get (i := 1) rfl) hk (idx_get hkl) ?_
       ac_rfl
       refine C_append (hkr ord') (by simp; lia) ?_
       ac_rfl
       refine ⟨(by bv_omega), (by bv_omega), (by bv_omega), (by bv_omega), (by bv_omega), (by bv_omega), ord', row ++ [(k : Int)], P', ?_⟩
       rw [show row.map V.int ++ [V.int (k : Int)] = (row ++ [(k : Int)]).map V.int by simp]
       exact s3_setrow
  ·rename_i hge
   have hge : ¬ rs.length < ord.length := by simpa using hge
   exact ⟨rfl, h1, h3, h5, ord, rs, I, by have := I.le; lia, rfl⟩
 ·rintro m Hx ⟨h1, h3, h5, ord, rs, I, hl, rfl⟩
  have hol := nodup_le rows.length I.nd I.rng
  ac_rfl
  refine K_Dfa (by left) ?_
  ac_rfl
  refine E_comp true ?_
  ac_rfl
  refine Cp_mapS (ys := ord.map V.int) (fun v => match v with | .int o => vtag (tags.getD o.toNat []) | v => v) (AsList.ref (at_get (i := 0) rfl)) (by left) (by first | exact compLoc_none (by left) | exact Loc.put_ne (by left) (compLoc_none (by left)) | exact Loc.put_ne (by left) (Loc.put_ne (by left) (compLoc_none (by left)))) (by simp; lia) ?_ fun b hb => ?_
  ·simp only [cpOut, if_true, List.nil_append]
   ac_rfl
   refine C_Dfa (by lia) ?_
   rw [List.append_assoc]
   refine Ret.drop hin (b := vdfa rs (ord.map fun o => tags.getD o.toNat [])) ?_ (within_dfa _ _ _) (h ord rs I hl)
   rw [← List.append_assoc]
   have g1 : ((H ++ il ord :: AObj.dictI ord (idx ord.length) :: AObj.list (refs (H.length + 3) rs.length) :: arr rs) ++ [AObj.inst 123 ["rows", "tags"] [V.ref (H.length + 2), V.lst ((ord.map V.int).map fun v => match v with | .int o => vtag (tags.getD o.toNat []) | v => v)]])[(H ++ il ord :: AObj.dictI ord (idx ord.length) :: AObj.list (refs (H.length + 3) rs.length) :: arr rs).length]? = some (AObj.inst 123 ["rows", "tags"] [V.ref (H.length + 2), V.lst ((ord.map V.int).map fun v => match v with | .int o => vtag (tags.getD o.toNat []) | v => v)]) := List.getElem?_concat_length ..
   have up : ∀ (k : Nat) (o : AObj), (H ++ il ord :: AObj.dictI ord (idx ord.length) :: AObj.list (refs (H.length + 3) rs.length) :: arr rs)[k]? = some o → ((H ++ il ord :: AObj.dictI ord (idx ord.length) :: AObj.list (refs (H.length + 3) rs.length) :: arr rs) ++ [AObj.inst 123 ["rows", "tags"] [V.ref (H.length + 2), V.lst ((ord.map V.int).map fun v => match v with | .int o => vtag (tags.getD o.toNat []) | v => v)]])[k]? = some o := fun k o e => by
    rw [List.getElem?_append_left (gll e)]; exact e
   refine .inst (by simp) g1 (.cons (.list (by lia) (up _ _ (at_get (i := 2) rfl)) (Rsvs.of_get (by simp [refs_len]) fun i x y e1 e2 => ?_)) ?_)
   ·rw [List.getElem?_map] at e2
    obtain ⟨row, er, rfl⟩ := Option.map_eq_some_iff.mp e2
    rw [refs_get (gll er)] at e1
    cases e1
    exact .list (by lia) (up _ _ (s3_row er)) (Rsvs.refl ..)
   ·rw [List.map_map, show ((fun v => match v with | V.int o => vtag (tags.getD o.toNat []) | v => v) ∘ V.int) = fun o => vtag (tags.getD o.toNat []) from rfl, show (ord.map fun o => vtag (tags.getD o.toNat [])) = (ord.map fun o => tags.getD o.toNat []).map vtag by rw [List.map_map]; rfl]
    exact Rsvs.refl ..
  ·obtain ⟨o, ho, rfl⟩ := List.mem_map.mp hb
   obtain ⟨o0, o1⟩ := I.rng o ho
   obtain ⟨t, et, _⟩ := A.tagAt o0 o1
   ac_rfl
   refine G_lst o0 (by lia) (map_get et) ?_
   exact ⟨by show vtag t = vtag (tags.getD o.toNat []); rw [getD_of et], rfl⟩
theorem C_trimmed {Q} (hd : d < 90) (A : Aut w rows tags) (h : ∀ sn ord rs, sn.length = rows.length → (∀ x : Nat, x < rows.length → (sn[x]? = some true ↔ Alive w rows tags x)) → NumI rows sn ord rs → rs.length = ord.length → Q (vdfa rs (ord.map fun o => tags.getD o.toNat [])) H) : Cl X.W d (.ref 159) [vdfa rows tags] H Q := by
 have cX : True := trivial
 revert X d H w rows tags Q hd A h
 rintro X d H w rows tags Q hd A h
 have hd' := hd
 replace hd : d < 100 := by lia
 refine C_fn (ps := ["dfa"]) hd (FnOk.of rfl (by kernel_rfl) rfl rfl rfl rfl rfl rfl rfl (by rfl) (by decide)) (lenS fun x0 => len0 rfl) (by decide) (by left) ?_
 rintro hin
 simp only [argLoc]
 ac_rfl
 refine K_numbered_dfa (by left) ?_
 ac_rfl
 refine K_alive (by left) ?_
 ac_rfl
 refine C_alive (by lia) A ?_
 rintro sn s1 s2
 ac_rfl
 refine C_numbered (by lia) A s1 ?_
 rintro ord rs I hl
 exact Ret.keep (h sn ord rs s1 s2 I hl)
end
set_option tactic.hygienic false
section
variable {X : Wx} {d : Nat} {H : List AObj} {w : Nat} {rows tags : List (List Int)}
theorem rsv_dfa {H l : List AObj} {rows tags : List (List Int)} {a b : Nat} (ea : (H ++ l)[H.length + a]? = some (.list (rows.map vrow))) (eb : (H ++ l)[H.length + b]? = some (.list (tags.map vtag))) {k : Nat} (ek : (H ++ l)[H.length + k]? = some (.inst 123 ["rows", "tags"] [V.ref (H.length + a), V.ref (H.length + b)])) :
  Rsv H.length (H ++ l) (.ref (H.length + k)) (vdfa rows tags) :=
 .inst (Nat.le_add_right _ _) ek (.cons (.list (Nat.le_add_right _ _) ea (Rsvs.refl ..)) (.cons (.list (Nat.le_add_right _ _) eb (Rsvs.refl ..)) .nil))
set_option tactic.hygienic true in
theorem C_completed {Q} (hd : d < 95) (A : Aut w rows tags) (h : Q (vdfa (cRows w rows) (cTags rows tags)) H) : Cl X.W d (.ref 164) [vdfa rows tags] H Q := by
 have cX : True := trivial
 revert X d H w rows tags Q hd A h
 rintro X d H w rows tags Q hd A h
 have hd' := hd
 replace hd : d < 100 := by lia
 refine C_fn (ps := ["dfa"]) hd (FnOk.of rfl (by kernel_rfl) rfl rfl rfl rfl rfl rfl rfl (by rfl) (by decide)) (lenS fun x0 => len0 rfl) (by decide) (by left) ?_
 rintro hin
 simp only [argLoc]
 have hsm := A.small
 have hsame := A.same
 have hw := A.width
 ac_rfl
 refine E_meth ?_
 ac_rfl
 refine ⟨_, O_state_count, Kf_state_count, ?_⟩
 ac_rfl
 refine C_state_count (by lia) A ?_
 ac_rfl
 refine S_setComp false ?_ (by left)
 ac_rfl
 refine Cp_mapS (ys := rows.map vrow) (fun v => match v with | .lst xs => V.lst (xs.map fun x => match x with | .int g => .int (if g = -1 then (rows.length : Int) else g) | x => x) | v => v) AsList.lst (by left) (by first | exact compLoc_none (by left) | exact Loc.put_ne (by left) (compLoc_none (by left)) | exact Loc.put_ne (by left) (Loc.put_ne (by left) (compLoc_none (by left)))) (by simp; lia) ?_ fun b hb => ?_
 ·simp only [cpOut, Bool.false_eq_true, if_false, List.nil_append]
  have e1 : (rows.map vrow).map (fun v => match v with | .lst xs => V.lst (xs.map fun x => match x with | .int g => .int (if g = -1 then (rows.length : Int) else g) | x => x) | v => v) = (fillRows rows).map vrow := by
   unfold fillRows fillRow
   rw [List.map_map, List.map_map]
   refine List.map_congr_left ?_
   rintro r _
   show V.lst _ = V.lst _
   rw [List.map_map, List.map_map]; rfl
  rw [e1]
  have hfl : (fillRows rows).length = rows.length := by simp [fillRows]
  ac_rfl
  refine K_list (by left) ?_
  ac_rfl
  refine C_listOf false AsList.lst (by simp; lia) ?_
  simp only [cpOut, Bool.false_eq_true, if_false]
  rw [List.length_append, List.append_assoc, List.length_singleton, List.singleton_append]
  refine S_mid (fun m Hx => m ("rows" : Str) = some (.ref H.length) ∧ m ("tags" : Str) = some (.ref (H.length + 1)) ∧ Hx = H ++ [.list ((cRows w rows).map vrow), .list ((cTags rows tags).map vtag)]) ?_ ?_
  ·ac_rfl
   refine K_any (by left) ?_
   ac_rfl
   refine E_comp true ?_
   ac_rfl
   refine Cp_mapS (ys := (fillRows rows).map vrow) (fun v => match v with | .lst xs => .bool (xs.any fun x => match x with | .int g => decide ((rows.length : Int) = g) | _ => false) | v => v) (AsList.ref two0) (by left) (by first | exact compLoc_none (by left) | exact Loc.put_ne (by left) (compLoc_none (by left)) | exact Loc.put_ne (by left) (Loc.put_ne (by left) (compLoc_none (by left)))) (by simp; lia) ?_ fun b hb => ?_
   ·simp only [cpOut, if_true, List.nil_append]
    have e2 : ((fillRows rows).map vrow).map (fun v => match v with | .lst xs => V.bool (xs.any fun x => match x with | .int g => decide ((rows.length : Int) = g) | _ => false) | v => v) = ((fillRows rows).map fun r => decide ((rows.length : Int) ∈ r)).map V.bool := by
     rw [List.map_map, List.map_map]
     refine List.map_congr_left ?_
     rintro r _
     show V.bool _ = V.bool _
     congr 1
     rw [List.any_map]
     have : ∀ l : List Int, l.any ((fun x => match x with | V.int g => decide ((rows.length : Int) = g) | _ => false) ∘ V.int) = decide ((rows.length : Int) ∈ l) := fun l => by
      induction l with
      | nil => rfl
      | cons a l ih => rw [List.any_cons, ih]; simp [Function.comp]
     exact this r
    rw [e2]
    ac_rfl
    refine C_any (bs := (fillRows rows).map fun r => decide ((rows.length : Int) ∈ r)) AsList.lst ?_
    ac_rfl
    rw [show (((fillRows rows).map fun r => decide ((rows.length : Int) ∈ r)).any id) = needDead rows by unfold needDead; rw [List.any_map]; rfl]
    split
    ·rename_i hnd
     ac_rfl
     refine E_meth ?_
     ac_rfl
     refine ⟨_, M_append two0, Kept.blt, ?_⟩
     ac_rfl
     refine E_lstF ?_
     ac_rfl
     refine ⟨by simp, ?_⟩
     refine E_meth ?_
     ac_rfl
     refine ⟨_, O_class_count, Kf_class_count, ?_⟩
     ac_rfl
     refine C_class_count (by lia) A ?_
     refine P_mulL true AsList.lst (by lia) (by simp; lia) (by lia) ?_
     simp only [cpOut, if_true]
     ac_rfl
     refine C_append two0 (by simp; lia) ?_
     rw [two_set0]
     ac_rfl
     refine E_meth ?_
     ac_rfl
     refine ⟨_, M_append two1, Kept.blt, ?_⟩
     ac_rfl
     refine ⟨by simp, ?_⟩
     ac_rfl
     refine C_append two1 (by simp; lia) ?_
     rw [two_set1]
     ac_rfl
     refine ⟨rfl, (by bv_omega), (by bv_omega), ?_⟩
     unfold cRows cTags
     rw [if_pos hnd, if_pos hnd, flat1]
     simp [vrow, vtag]
    ·rename_i hnd
     ac_rfl
     refine ⟨rfl, (by bv_omega), (by bv_omega), ?_⟩
     unfold cRows cTags
     rw [if_neg hnd, if_neg hnd]
     simp
   ·obtain ⟨r, hr, rfl⟩ := List.mem_map.mp hb
    ac_rfl
    refine P_inLst (plain_ints _ _) (by rfl) ?_
    rintro b hb
    refine ⟨?_, rfl⟩
    show V.bool b = V.bool _
    congr 1
    rw [Bool.eq_iff_iff, hb, List.any_eq_true]
    constructor
    ·rintro q
     obtain ⟨g, hg, e⟩ := List.mem_map.mp q
     injection e with e
     exact ⟨_, List.mem_map.mpr ⟨g, hg, rfl⟩, by simp [e]⟩
    ·rintro ⟨x, hx, e⟩
     obtain ⟨g, hg, rfl⟩ := List.mem_map.mp hx
     have : (rows.length : Int) = g := by simpa using e
     rw [this]; exact hx
  ·rintro m Hx ⟨h1, h2, rfl⟩
   ac_rfl
   refine K_Dfa (by left) ?_
   ac_rfl
   refine C_Dfa (by lia) ?_
   rw [List.append_assoc, show (H ++ [AObj.list ((cRows w rows).map vrow), AObj.list ((cTags rows tags).map vtag)]).length = H.length + 2 by simp]
   exact Ret.drop hin (b := vdfa (cRows w rows) (cTags rows tags)) (rsv_dfa (a := 0) (b := 1) (at_get rfl) (at_get rfl) (at_get rfl)) (within_dfa _ _ _) h
 ·obtain ⟨r, hr, rfl⟩ := List.mem_map.mp hb
  have hrl := (A.row r hr).1
  refine E_comp true ?_
  ac_rfl
  refine Cp_mapS (ys := r.map V.int) (fun x => match x with | .int g => .int (if g = -1 then (rows.length : Int) else g) | x => x) AsList.lst (by left) (by first | exact compLoc_none (by left) | exact Loc.put_ne (by left) (compLoc_none (by left)) | exact Loc.put_ne (by left) (Loc.put_ne (by left) (compLoc_none (by left)))) (by simp; lia) ?_ fun b hb => ?_
  ·simp only [cpOut, if_true, List.nil_append]
   exact ⟨rfl, trivial⟩
  ·obtain ⟨g, _, rfl⟩ := List.mem_map.mp hb
   ac_rfl
   split
   ·rename_i e
    have e : g = -1 := by simpa using e
    ac_rfl
    exact ⟨by show _ = V.int _; rw [if_pos e], rfl⟩
   ·rename_i e
    have e : g ≠ -1 := by simpa using e
    ac_rfl
    exact ⟨by show _ = V.int _; rw [if_neg e], rfl⟩
end
set_option tactic.hygienic false
section
variable {X : Wx} {d : Nat} {H : List AObj} {w : Nat} {rows tags : List (List Int)}
set_option tactic.hygienic true in
theorem C_numbered_minimal {k : Nat} {marks : List Int} {Q} (hd : d < 98) (hk : H[k]? = some (il marks)) (hl : marks.length ≤ 1000) (h : ∀ nb, Canon nb → SameAs nb marks → Q (.lst (nb.map V.int)) H) : Cl X.W d (.ref 227) [.ref k] H Q := by
 have cX : True := trivial
 revert X d H k marks Q hd hk hl h
 rintro X d H k marks Q hd hk hl h
 have hd' := hd
 replace hd : d < 100 := by lia
 have hkl := (gll hk)
 refine C_fn (ps := ["marks"]) hd (FnOk.of rfl (by kernel_rfl) rfl rfl rfl rfl rfl rfl rfl (by rfl) (by decide)) (lenS fun x0 => len0 rfl) (by decide) (by left) ?_
 rintro hin
 simp only [argLoc]
 ac_rfl
 refine E_dictI0 ?_
 ac_rfl
 refine E_lstM ?_
 ac_rfl
 refine ⟨by simp, ?_⟩
 ac_rfl
 rw [List.length_append, List.append_assoc, List.length_singleton, List.singleton_append]
 refine S_forK ?_
 ac_rfl
 refine ⟨k, marks.map V.int, rfl, fun i m Hx => m ("known" : Str) = some (.ref H.length) ∧ m ("numbers" : Str) = some (.ref (H.length + 1)) ∧ ∃ ks nb, NbI marks ks nb i ∧ Hx = H ++ [.dictI ks (idx ks.length), il nb], ⟨(by bv_omega), (by bv_omega), [], [], NbI.start, rfl⟩, ?_, ?_, ?_⟩
 ·rintro i m Hx ⟨_, _, ks, nb, I, rfl⟩
  exact get_left hk
 ·rintro m Hx ⟨h1, h2, ks, nb, I, rfl⟩
  rw [List.length_map] at I
  have D := I.done
  ac_rfl
  refine Ret.drop hin (b := .lst (nb.map V.int)) (.list (by lia) two1 (Rsvs.refl ..)) ?_ (h nb D.1 D.2)
  exact within_vrow _ _
 ·rintro i a m Hx e ⟨h1, h2, ks, nb, I, rfl⟩
  obtain ⟨x, rfl, ex⟩ := int_of_map e
  have hi := (gll ex)
  have hle := I.le
  have hlen := I.len
  refine A_name (by left) ?_
  refine Ss.abs ?_
  rintro R hR
  refine S_mid (fun m' Hx => m' ("known" : Str) = some (.ref H.length) ∧ m' ("numbers" : Str) = some (.ref (H.length + 1)) ∧ m' ("mark" : Str) = some (.int x) ∧ ∃ (ks : List Int) (n : Nat), ks[n]? = some x ∧ NbI marks ks (nb ++ [(n : Int)]) (i + 1) ∧ Hx = H ++ [.dictI ks (idx ks.length), il nb]) ?_ ?_
  ·ac_rfl
   refine P_notInI two0 ?_
   ac_rfl
   split
   ·rename_i hn
    have hn : x ∉ ks := by simpa using hn
    ac_rfl
    refine K_len (by left) ?_
    ac_rfl
    refine C_lenI two0 (by lia) ?_
    ac_rfl
    refine U_dictI two0 hn (by lia) ?_
    rw [two_set0]
    ac_rfl
    refine ⟨rfl, (by bv_omega), (by bv_omega), (by bv_omega), ks ++ [x], ks.length, List.getElem?_concat_length .., I.new ex hn, ?_⟩
    rw [List.length_append, List.length_singleton, idx_succ]
   ·rename_i hn
    have hn : x ∈ ks := by simpa using hn
    obtain ⟨n, en⟩ := List.mem_iff_getElem?.mp hn
    ac_rfl
    exact ⟨rfl, (by bv_omega), (by bv_omega), (by bv_omega), ks, n, en, I.old ex en, rfl⟩
  ·rintro m' Hx ⟨h1, h2, h3, ks, n, en, I', rfl⟩
   ac_rfl
   refine E_meth ?_
   ac_rfl
   refine ⟨_, M_append two1, Kept.blt, ?_⟩
   ac_rfl
   refine G_dictI two0 en (idx_get (gll en)) ?_
   ac_rfl
   refine C_append two1 (by simp; lia) ?_
   rw [two_set1]
   ac_rfl
   exact ⟨(by bv_omega), (by bv_omega), ks, _, I', by simp [il]⟩
set_option tactic.hygienic true in
theorem C_joined {bs : List Int} {Q} (hd : d < 98) (A : Aut w rows tags) (hf : ∀ r, r ∈ rows → ∀ g, g ∈ r → 0 ≤ g) (hb : bs.length = rows.length) (c : Canon bs)
  (h : ∀ fs, FsI bs fs rows.length → Q (vdfa (fs.map fun f => (rows.getD f.toNat []).map (blkAt bs)) (fs.map fun f => tags.getD f.toNat [])) H) : Cl X.W d (.ref 244) [vdfa rows tags, .lst (bs.map V.int)] H Q := by
 have cX : True := trivial
 revert X d H w rows tags bs Q hd A hf hb c h
 rintro X d H w rows tags bs Q hd A hf hb c h
 have hd' := hd
 replace hd : d < 100 := by lia
 have hsm := A.small
 have hw := A.width
 refine C_fn (ps := ["dfa", "blocks"]) hd (FnOk.of rfl (by kernel_rfl) rfl rfl rfl rfl rfl rfl rfl (by rfl) (by decide)) (lenS fun x0 => lenS fun x1 => len0 rfl) (by decide) (by left) ?_
 rintro hin
 simp only [argLoc]
 ac_rfl
 refine E_lstM ?_
 ac_rfl
 refine ⟨by simp, ?_⟩
 refine S_mid (fun m Hx => m ("dfa" : Str) = some (vdfa rows tags) ∧ m ("blocks" : Str) = some (.lst (bs.map V.int)) ∧ m ("firsts" : Str) = some (.ref H.length) ∧ ∃ fs, FsI bs fs rows.length ∧ fs.length ≤ rows.length ∧ Hx = H ++ [il fs]) ?_ ?_
 ·refine S_forR ?_
  refine K_range (by left) ?_
  ac_rfl
  refine K_len (by left) ?_
  ac_rfl
  refine C_len AsList.lst (by simp; lia) ?_
  ac_rfl
  refine C_range ?_
  refine ⟨_, rfl, by lia, by simp; lia, fun i m Hx => m ("dfa" : Str) = some (vdfa rows tags) ∧ m ("blocks" : Str) = some (.lst (bs.map V.int)) ∧ m ("firsts" : Str) = some (.ref H.length) ∧ ∃ fs, FsI bs fs i ∧ fs.length ≤ i ∧ Hx = H ++ [il fs], ⟨(by bv_omega), (by bv_omega), (by bv_omega), [], FsI.start, by simp, rfl⟩, ?_, ?_⟩
  ·rintro m Hx ⟨h1, h2, h3, fs, I, hl, rfl⟩
   rw [List.length_map, Int.toNat_natCast, hb] at I hl
   exact ⟨rfl, h1, h2, h3, fs, I, hl, rfl⟩
  ·rintro i m Hx hi ⟨h1, h2, h3, fs, I, hl, rfl⟩
   have hi' : i < bs.length := by simpa using hi
   obtain ⟨b, eb, _⟩ := get_of_lt hi'
   refine A_name (by left) ?_
   refine Ss.abs ?_
   rintro R hR
   ac_rfl
   refine G_lst (by lia) (by lia) (a := .int b) (by rw [List.getElem?_map, Int.toNat_natCast, eb]; rfl) ?_
   refine K_len (by left) ?_
   ac_rfl
   refine C_len (AsList.ref at_get0) (by simp; lia) ?_
   ac_rfl
   rw [List.length_map]
   split
   ·rename_i e
    have e : b = fs.length := by simpa using e
    ac_rfl
    refine E_meth ?_
    ac_rfl
    refine ⟨_, M_append at_get0, Kept.blt, ?_⟩
    ac_rfl
    refine C_append at_get0 (by simp; lia) ?_
    rw [at_set0]
    ac_rfl
    exact ⟨(by bv_omega), (by bv_omega), (by bv_omega), fs ++ [(i : Int)], I.new (e ▸ eb), by simp; lia, by simp [il]⟩
   ·rename_i e
    have e : b ≠ fs.length := by simpa using e
    ac_rfl
    exact ⟨(by bv_omega), (by bv_omega), (by bv_omega), fs, FsI.old c I eb e, by lia, rfl⟩
 ·rintro m Hx ⟨h1, h2, h3, fs, I, hl, rfl⟩
  have hfr : ∀ f, f ∈ fs → 0 ≤ f ∧ f < (rows.length : Int) := fun f q => by
   obtain ⟨b, eb⟩ := List.mem_iff_getElem?.mp q
   have := I.at_ b f eb
   exact ⟨this.1, this.2.1⟩
  ac_rfl
  refine E_lstM ?_
  ac_rfl
  refine ⟨by simp, ?_⟩
  ac_rfl
  rw [List.length_append, List.append_assoc, List.length_singleton, List.singleton_append]
  refine S_forK ?_
  ac_rfl
  refine ⟨H.length, fs.map V.int, rfl, fun i m Hx => m ("dfa" : Str) = some (vdfa rows tags) ∧ m ("blocks" : Str) = some (.lst (bs.map V.int)) ∧ m ("firsts" : Str) = some (.ref H.length) ∧ m ("rows" : Str) = some (.ref (H.length + 1)) ∧ Hx = H ++ [il fs, .list (((fs.take i).map fun f => (rows.getD f.toNat []).map (blkAt bs)).map vrow)], ⟨(by bv_omega), (by bv_omega), (by bv_omega), (by bv_omega), rfl⟩, ?_, ?_, ?_⟩
  ·rintro i m Hx ⟨_, _, _, _, rfl⟩
   exact two0
  ·rintro m Hx ⟨h1, h2, h3, h4, rfl⟩
   rw [List.length_map, List.take_length]
   ac_rfl
   refine K_Dfa (by left) ?_
   ac_rfl
   refine E_comp true ?_
   ac_rfl
   refine Cp_mapS (ys := fs.map V.int) (fun v => match v with | .int o => vtag (tags.getD o.toNat []) | v => v) (AsList.ref two0) (by left) (by first | exact compLoc_none (by left) | exact Loc.put_ne (by left) (compLoc_none (by left)) | exact Loc.put_ne (by left) (Loc.put_ne (by left) (compLoc_none (by left)))) (by simp; lia) ?_ fun b hb => ?_
   ·simp only [cpOut, if_true, List.nil_append]
    ac_rfl
    refine C_Dfa (by lia) ?_
    rw [List.append_assoc, show (H ++ [il fs, AObj.list ((fs.map fun f => (rows.getD f.toNat []).map (blkAt bs)).map vrow)]).length = H.length + 2 by simp]
    refine Ret.drop hin (b := vdfa (fs.map fun f => (rows.getD f.toNat []).map (blkAt bs)) (fs.map fun f => tags.getD f.toNat [])) ?_ (within_dfa _ _ _) (h fs I)
    refine .inst (by lia) (at_get rfl) (.cons (.list (by lia) (at_get rfl) (Rsvs.refl ..)) ?_)
    have e9 : (fs.map V.int).map (fun v => match v with | V.int o => vtag (tags.getD o.toNat []) | v => v) = (fs.map fun o => tags.getD o.toNat []).map vtag := by rw [List.map_map, List.map_map]; rfl
    rw [e9]
    exact Rsvs.refl ..
   ·obtain ⟨o, ho, rfl⟩ := List.mem_map.mp hb
    obtain ⟨o0, o1⟩ := hfr o ho
    obtain ⟨t, et, _⟩ := A.tagAt o0 o1
    ac_rfl
    refine G_lst o0 (by lia) (map_get et) ?_
    exact ⟨by show vtag t = vtag (tags.getD o.toNat []); rw [getD_of et], rfl⟩
  ·rintro i a m Hx e ⟨h1, h2, h3, h4, rfl⟩
   obtain ⟨f, rfl, ef⟩ := int_of_map e
   obtain ⟨f0, f1⟩ := hfr f (List.mem_of_getElem? ef)
   obtain ⟨r, er, hrl, hrg⟩ := A.rowAt f0 f1
   have hi := (gll ef)
   have hmr := List.mem_of_getElem? er
   refine A_name (by left) ?_
   refine Ss.abs ?_
   rintro R hR
   ac_rfl
   refine E_meth ?_
   ac_rfl
   refine ⟨_, M_append two1, Kept.blt, ?_⟩
   ac_rfl
   refine E_comp true ?_
   ac_rfl
   refine G_lst f0 (by lia) (map_get er) ?_
   refine Cp_mapS (ys := r.map V.int) (fun v => match v with | .int g => .int (blkAt bs g) | v => v) AsList.lst (by left) (by first | exact compLoc_none (by left) | exact Loc.put_ne (by left) (compLoc_none (by left)) | exact Loc.put_ne (by left) (Loc.put_ne (by left) (compLoc_none (by left)))) (by simp; lia) ?_ fun b hb => ?_
   ·simp only [cpOut, if_true, List.nil_append]
    ac_rfl
    refine C_append two1 (by simp; lia) ?_
    rw [two_set1]
    ac_rfl
    refine ⟨(by bv_omega), (by bv_omega), (by bv_omega), (by bv_omega), ?_⟩
    rw [List.take_add_one, ef]
    simp [er, vrow]
   ·obtain ⟨g, hg, rfl⟩ := List.mem_map.mp hb
    have g0 := hf r hmr g hg
    have g1 := hrg g hg
    obtain ⟨b, eb, _⟩ := get_of_lt (l := bs) (i := g.toNat) (by lia)
    ac_rfl
    refine G_lst g0 (by lia) (a := .int b) (by rw [List.getElem?_map, eb]; rfl) ?_
    exact ⟨by show V.int b = V.int (blkAt bs g); unfold blkAt; rw [getD_of eb], rfl⟩
end
set_option tactic.hygienic false
section
variable {X : Wx} {d : Nat} {H H' : List AObj} {w : Nat} {rows tags : List (List Int)}
noncomputable abbrev pnames : List Str := ["row", "places", "blocks", "begins", "ends", "marked", "touched"]
structure PtAt (H : List AObj) (k t : Nat) (p : Pt) : Prop where
 inst : H[k]? = some (.inst 216 pnames [V.ref (k + 1), V.ref (k + 2), V.ref (k + 3), V.ref (k + 4), V.ref (k + 5), V.ref (k + 6), V.ref t])
 row : H[k + 1]? = some (il p.row)
 places : H[k + 2]? = some (il p.places)
 blocks : H[k + 3]? = some (il p.blocks)
 begins : H[k + 4]? = some (il p.begins)
 ends : H[k + 5]? = some (il p.ends)
 marked : H[k + 6]? = some (il p.marked)
 touched : H[t]? = some (il p.touched)
 lt : k + 6 < t
noncomputable def Fr (k t : Nat) (H H' : List AObj) : Prop := H.length ≤ H'.length ∧ ∀ j : Nat, j < H.length → (j < k ∨ k + 6 < j) → j ≠ t → H'[j]? = H[j]?
theorem Fr.refl (k t : Nat) (H : List AObj) : Fr k t H H := ⟨Nat.le_refl _, fun za zb zc zd => rfl⟩
theorem Fr.trans {k t : Nat} {H H' H'' : List AObj} (a : Fr k t H H') (b : Fr k t H' H'') : Fr k t H H'' := ⟨Nat.le_trans a.1 b.1, fun j h1 h2 h3 => (b.2 j (Nat.lt_of_lt_of_le h1 a.1) h2 h3).trans (a.2 j h1 h2 h3)⟩
theorem Fr.get {k t : Nat} {H H' : List AObj} (a : Fr k t H H') {j : Nat} {o : AObj} (e : H[j]? = some o) (h2 : j < k ∨ k + 6 < j) (h3 : j ≠ t) : H'[j]? = some o := (a.2 j (gll e) h2 h3).trans e
theorem Fr.set {k t i : Nat} {H : List AObj} {o : AObj} (hi : (k ≤ i ∧ i ≤ k + 6) ∨ i = t) : Fr k t H (H.set i o) := ⟨by rw [List.length_set]; exact Nat.le_refl _, fun j za h2 h3 => by rw [List.getElem?_set_ne (by lia)]⟩
theorem il_set {l : List Int} {i : Nat} {v : Int} : (l.map V.int).set i (V.int v) = (l.set i v).map V.int := by rw [List.map_set]
theorem il_push {l : List Int} {v : Int} : l.map V.int ++ [V.int v] = (l ++ [v]).map V.int := by rw [List.map_append]; rfl
theorem seti {H : List AObj} {i j : Nat} {o x : AObj} (h : i ≠ j) (e : H[j]? = some o) : (H.set i x)[j]? = some o := by rw [List.getElem?_set_ne h]; exact e
theorem setj {H : List AObj} {i : Nat} {o x : AObj} (e : H[i]? = some o) : (H.set i x)[i]? = some x := by rw [List.getElem?_set_self (gll e)]
section
variable {k t : Nat} {p : Pt} (h : PtAt H k t p) (l : List Int)
include h
theorem PtAt.sRow : PtAt (H.set (k + 1) (il l)) k t { p with row := l } := ⟨seti (by lia) h.inst, setj h.row, seti (by lia) h.places, seti (by lia) h.blocks, seti (by lia) h.begins, seti (by lia) h.ends, seti (by lia) h.marked, seti (by have := h.lt; lia) h.touched, h.lt⟩
theorem PtAt.sPlaces : PtAt (H.set (k + 2) (il l)) k t { p with places := l } := ⟨seti (by lia) h.inst, seti (by lia) h.row, setj h.places, seti (by lia) h.blocks, seti (by lia) h.begins, seti (by lia) h.ends, seti (by lia) h.marked, seti (by have := h.lt; lia) h.touched, h.lt⟩
theorem PtAt.sBlocks : PtAt (H.set (k + 3) (il l)) k t { p with blocks := l } := ⟨seti (by lia) h.inst, seti (by lia) h.row, seti (by lia) h.places, setj h.blocks, seti (by lia) h.begins, seti (by lia) h.ends, seti (by lia) h.marked, seti (by have := h.lt; lia) h.touched, h.lt⟩
theorem PtAt.sBegins : PtAt (H.set (k + 4) (il l)) k t { p with begins := l } := ⟨seti (by lia) h.inst, seti (by lia) h.row, seti (by lia) h.places, seti (by lia) h.blocks, setj h.begins, seti (by lia) h.ends, seti (by lia) h.marked, seti (by have := h.lt; lia) h.touched, h.lt⟩
theorem PtAt.sEnds : PtAt (H.set (k + 5) (il l)) k t { p with ends := l } := ⟨seti (by lia) h.inst, seti (by lia) h.row, seti (by lia) h.places, seti (by lia) h.blocks, seti (by lia) h.begins, setj h.ends, seti (by lia) h.marked, seti (by have := h.lt; lia) h.touched, h.lt⟩
theorem PtAt.sMarked : PtAt (H.set (k + 6) (il l)) k t { p with marked := l } := ⟨seti (by lia) h.inst, seti (by lia) h.row, seti (by lia) h.places, seti (by lia) h.blocks, seti (by lia) h.begins, seti (by lia) h.ends, setj h.marked, seti (by have := h.lt; lia) h.touched, h.lt⟩
theorem PtAt.sTouched : PtAt (H.set t (il l)) k t { p with touched := l } := by
 have := h.lt
 exact ⟨seti (by lia) h.inst, seti (by lia) h.row, seti (by lia) h.places, seti (by lia) h.blocks, seti (by lia) h.begins, seti (by lia) h.ends, seti (by lia) h.marked, setj h.touched, h.lt⟩
theorem PtAt.sub {j : Nat} {x : AObj} (hj : k + 6 < j) (ne : j ≠ t) : PtAt (H.set j x) k t p := by
 have := h.lt
 exact ⟨seti (by lia) h.inst, seti (by lia) h.row, seti (by lia) h.places, seti (by lia) h.blocks, seti (by lia) h.begins, seti (by lia) h.ends, seti (by lia) h.marked, seti ne h.touched, h.lt⟩
theorem PtAt.add (l : List AObj) : PtAt (H ++ l) k t p := ⟨get_left h.inst, get_left h.row, get_left h.places, get_left h.blocks, get_left h.begins, get_left h.ends, get_left h.marked, get_left h.touched, h.lt⟩
end
theorem gI {l : List Int} {i : Int} (h0 : 0 ≤ i) (h1 : i < l.length) : (l.map V.int)[i.toNat]? = some (V.int (atI l i)) := by rw [List.getElem?_map, atI_get h0 h1]; rfl
theorem C_block_count {k t : Nat} {p : Pt} {Q} (hd : d < 100) (h : PtAt H k t p) (hl : p.nb ≤ 1000) (q : Q (.int p.nb) H) : Cl X.W d (.ref 185) [.ref k] H Q := by
 have cX : True := trivial
 revert X d H k t p Q hd h hl q
 rintro X d H k t p Q hd h hl q
 refine C_fn (ps := ["self"]) hd (FnOk.of rfl (by kernel_rfl) rfl rfl rfl rfl rfl rfl rfl (by rfl) (by decide)) (lenS fun x0 => len0 rfl) (by decide) (by left) ?_
 rintro hin
 simp only [argLoc]
 ac_rfl
 refine K_len (by left) ?_
 ac_rfl
 refine A_216_begins h.inst (by intro w h; cases h) ?_
 ac_rfl
 refine C_len (AsList.ref h.begins) (by simp; exact Nat.le_trans hl (by decide)) ?_
 exact Ret.keep (by simpa using q)
theorem C_size {k t n : Nat} {p : Pt} {b : Int} {Q} (hd : d < 100) (h : PtAt H k t p) (V : SV n p) (hn : n ≤ 1000) (b0 : 0 ≤ b) (b1 : b < p.nb) (q : Q (.int (p.En b - p.Bg b)) H) : Cl X.W d (.ref 192) [.ref k, .int b] H Q := by
 have cX : True := trivial
 revert X d H k t n p b Q hd h V hn b0 b1 q
 rintro X d H k t n p b Q hd h V hn b0 b1 q
 have hnb := V.nb_le
 have le := V.le
 refine C_fn (ps := ["self", "block"]) hd (FnOk.of rfl (by kernel_rfl) rfl rfl rfl rfl rfl rfl rfl (by rfl) (by decide)) (lenS fun x0 => lenS fun x1 => len0 rfl) (by decide) (by left) ?_
 rintro hin
 simp only [argLoc]
 ac_rfl
 refine A_216_ends h.inst (by intro w h; cases h) ?_
 ac_rfl
 refine G_list h.ends b0 (by lia) (a := .int (p.En b)) (gI b0 (by rw [le]; exact b1)) ?_
 ac_rfl
 refine A_216_begins h.inst (by intro w h; cases h) ?_
 ac_rfl
 refine G_list h.begins b0 (by lia) (a := .int (p.Bg b)) (gI b0 b1) ?_
 ac_rfl
 exact Ret.keep q
theorem C_members {k t n : Nat} {p : Pt} {b : Int} {Q} (hd : d < 100) (h : PtAt H k t p) (hn : n ≤ 1000) (lr : p.row.length = n) (le : p.ends.length = p.begins.length) (hnb : p.nb ≤ 1000) (b0 : 0 ≤ b) (b1 : b < p.nb) (i0 : 0 ≤ p.Bg b) (i1 : p.Bg b ≤ p.En b) (i2 : p.En b ≤ n) (q : Q (.lst ((p.mem b).map V.int)) H) : Cl X.W d (.ref 199) [.ref k, .int b] H Q := by
 have cX : True := trivial
 revert X d H k t n p b Q hd h hn lr le hnb b0 b1 i0 i1 i2 q
 rintro X d H k t n p b Q hd h hn lr le hnb b0 b1 i0 i1 i2 q
 refine C_fn (ps := ["self", "block"]) hd (FnOk.of rfl (by kernel_rfl) rfl rfl rfl rfl rfl rfl rfl (by rfl) (by decide)) (lenS fun x0 => lenS fun x1 => len0 rfl) (by decide) (by left) ?_
 rintro hin
 simp only [argLoc]
 ac_rfl
 refine E_sliceA true ?_
 ac_rfl
 refine A_216_row h.inst (by intro w h; cases h) ?_
 ac_rfl
 refine A_216_begins h.inst (by intro w h; cases h) ?_
 ac_rfl
 refine G_list h.begins b0 (by lia) (a := .int (p.Bg b)) (gI b0 b1) ?_
 ac_rfl
 refine A_216_ends h.inst (by intro w h; cases h) ?_
 ac_rfl
 refine G_list h.ends b0 (by lia) (a := .int (p.En b)) (gI b0 (by rw [le]; exact b1)) ?_
 refine ⟨_, _, _, AsList.ref h.row, rfl, rfl, i0, i1, by simp; lia, by simp; lia, ?_⟩
 simp only [cpOut, if_true]
 refine Ret.keep ?_
 rw [show (((p.row.map V.int).drop (p.Bg b).toNat).take ((p.En b).toNat - (p.Bg b).toNat)) = (p.mem b).map V.int by unfold Pt.mem; rw [List.map_take, List.map_drop]]
 exact q
set_option tactic.hygienic true in
theorem C_mark {k t n : Nat} {p : Pt} {s : Int} {Q : V → List AObj → Prop} (hd : d < 100) (h : PtAt H k t p) (pv : PV n p) (hn : n ≤ 1000) (s0 : 0 ≤ s) (s1 : s < n)
  (q : ∀ H' p', PtAt H' k t p' → PV n p' → (∀ x : Int, 0 ≤ x → x < n → (p'.Mkd x ↔ p.Mkd x ∨ x = s)) → p'.blocks = p.blocks → p'.begins = p.begins → Fr k t H H' → Q .none H') : Cl X.W d (.ref 206) [.ref k, .int s] H Q := by
 have cX : True := trivial
 revert X d H k t n p s Q hd h pv hn s0 s1 q
 rintro X d H k t n p s Q hd h pv hn s0 s1 q
 have hnb := pv.nb_le
 have hnb' : p.nb = p.begins.length := rfl
 have lr := pv.lr
 have lp := pv.lp
 have lb := pv.lb
 have lm := pv.lm
 have hb := pv.bl s s0 s1
 have iv := pv.iv _ hb.1 hb.2
 have own := pv.own s0 s1
 have prs := pv.pr s s0 s1
 refine C_fn (ps := ["self", "state"]) hd (FnOk.of rfl (by kernel_rfl) rfl rfl rfl rfl rfl rfl rfl (by rfl) (by decide)) (lenS fun x0 => lenS fun x1 => len0 rfl) (by decide) (by left) ?_
 rintro hin
 simp only [argLoc]
 ac_rfl
 refine A_216_blocks h.inst (by intro w h; cases h) ?_
 ac_rfl
 refine G_list h.blocks s0 (by lia) (a := .int (p.B s)) (gI s0 (by lia)) ?_
 ac_rfl
 refine A_216_begins h.inst (by intro w h; cases h) ?_
 ac_rfl
 refine G_list h.begins hb.1 (by lia) (a := .int (p.Bg (p.B s))) (gI hb.1 (by lia)) ?_
 ac_rfl
 refine A_216_marked h.inst (by intro w h; cases h) ?_
 ac_rfl
 refine G_list h.marked hb.1 (by lia) (a := .int (p.Mk (p.B s))) (gI hb.1 (by lia)) ?_
 ac_rfl
 refine A_216_places h.inst (by intro w h; cases h) ?_
 ac_rfl
 refine G_list h.places s0 (by lia) (a := .int (p.P s)) (gI s0 (by lia)) ?_
 ac_rfl
 split
 ·rename_i e
  have e : p.P s < p.Bg (p.B s) + p.Mk (p.B s) := by simpa using e
  ac_rfl
  exact Ret.keep (q _ p h pv (fun x za zb => mark_old e x) rfl rfl (Fr.refl ..))
 ·rename_i e
  have e : ¬ p.P s < p.Bg (p.B s) + p.Mk (p.B s) := by simpa using e
  have VM := pv.mark s0 s1 e
  have rb := pv.rp (p.Bg (p.B s) + p.Mk (p.B s)) (by lia) (by lia)
  ac_rfl
  refine A_216_row h.inst (by intro w h; cases h) ?_
  ac_rfl
  refine G_list h.row (by lia) (by lia) (a := .int (p.R (p.Bg (p.B s) + p.Mk (p.B s)))) (gI (by lia) (by lia)) ?_
  ac_rfl
  refine A_216_row h.inst (by intro w h; cases h) ?_
  ac_rfl
  refine U_list h.row prs.1 (by simp; lia) (by simp; lia) ?_
  rw [il_set]
  have h1 := h.sRow (p.row.set (p.P s).toNat (p.R (p.Bg (p.B s) + p.Mk (p.B s))))
  ac_rfl
  refine A_216_places h1.inst (by intro w h; cases h) ?_
  ac_rfl
  refine U_list h1.places rb.1 (by simp; lia) (by simp; lia) ?_
  rw [il_set]
  have h2 := h1.sPlaces (p.places.set (p.R (p.Bg (p.B s) + p.Mk (p.B s))).toNat (p.P s))
  ac_rfl
  refine A_216_row h2.inst (by intro w h; cases h) ?_
  ac_rfl
  refine U_list h2.row (by lia) (by simp; lia) (by simp; lia) ?_
  rw [il_set]
  have h3 := h2.sRow ((p.row.set (p.P s).toNat (p.R (p.Bg (p.B s) + p.Mk (p.B s)))).set (p.Bg (p.B s) + p.Mk (p.B s)).toNat s)
  ac_rfl
  refine A_216_places h3.inst (by intro w h; cases h) ?_
  ac_rfl
  refine U_list h3.places s0 (by simp; lia) (by simp; lia) ?_
  rw [il_set]
  have h4 := h3.sPlaces ((p.places.set (p.R (p.Bg (p.B s) + p.Mk (p.B s))).toNat (p.P s)).set s.toNat (p.Bg (p.B s) + p.Mk (p.B s)))
  refine S_mid (fun m Hx => m ("self" : Str) = some (.ref k) ∧ m ("block" : Str) = some (.int (p.B s)) ∧ PtAt Hx k t { p with row := (p.mark s).row, places := (p.mark s).places, touched := (p.mark s).touched } ∧ Fr k t H Hx) ?_ ?_
  ·ac_rfl
   refine A_216_marked h4.inst (by intro w h; cases h) ?_
   ac_rfl
   refine G_list h4.marked hb.1 (by lia) (a := .int (p.Mk (p.B s))) (gI hb.1 (by show p.B s < p.marked.length; lia)) ?_
   ac_rfl
   have frm : Fr k t H ((((H.set (k + 1) (il (p.row.set (p.P s).toNat (p.R (p.Bg (p.B s) + p.Mk (p.B s)))))).set (k + 2) (il (p.places.set (p.R (p.Bg (p.B s) + p.Mk (p.B s))).toNat (p.P s)))).set (k + 1) (il ((p.row.set (p.P s).toNat (p.R (p.Bg (p.B s) + p.Mk (p.B s)))).set (p.Bg (p.B s) + p.Mk (p.B s)).toNat s))).set (k + 2) (il ((p.places.set (p.R (p.Bg (p.B s) + p.Mk (p.B s))).toNat (p.P s)).set s.toNat (p.Bg (p.B s) + p.Mk (p.B s))))) :=
    (((Fr.set (by lia)).trans (Fr.set (by lia))).trans (Fr.set (by lia))).trans (Fr.set (by lia))
   split
   ·rename_i z
    have z : p.Mk (p.B s) = 0 := by simpa using z
    ac_rfl
    refine E_meth ?_
    ac_rfl
    refine A_216_touched h4.inst (by intro w h; cases h) ?_
    refine ⟨_, M_append h4.touched, Kept.blt, ?_⟩
    ac_rfl
    have tl := nodup_le p.nb pv.tn fun x hx => let t := (pv.tm x).mp hx; ⟨t.1, t.2.1⟩
    refine C_append h4.touched (by simp; lia) ?_
    rw [show List.map V.int ({ p with row := (p.row.set (p.P s).toNat (p.R (p.Bg (p.B s) + p.Mk (p.B s)))).set (p.Bg (p.B s) + p.Mk (p.B s)).toNat s, places := (p.places.set (p.R (p.Bg (p.B s) + p.Mk (p.B s))).toNat (p.P s)).set s.toNat (p.Bg (p.B s) + p.Mk (p.B s)) } : Pt).touched ++ [V.int (p.B s)] = (p.touched ++ [p.B s]).map V.int from il_push]
    have h5 := h4.sTouched (p.touched ++ [p.B s])
    ac_rfl
    refine ⟨rfl, (by bv_omega), (by bv_omega), ?_, frm.trans (Fr.set (by lia))⟩
    rw [show (p.mark s).touched = p.touched ++ [p.B s] from if_pos z]
    exact h5
   ·rename_i z
    have z : p.Mk (p.B s) ≠ 0 := by simpa using z
    ac_rfl
    refine ⟨rfl, (by bv_omega), (by bv_omega), ?_, frm⟩
    rw [show (p.mark s).touched = p.touched from if_neg z]
    exact h4
  ·rintro m Hx ⟨m1, m2, h5, fr⟩
   ac_rfl
   refine A_216_marked h5.inst (by intro w h; cases h) ?_
   ac_rfl
   refine G_list h5.marked hb.1 (by lia) (a := .int (p.Mk (p.B s))) (gI hb.1 (by show p.B s < p.marked.length; lia)) ?_
   ac_rfl
   refine A_216_marked h5.inst (by intro w h; cases h) ?_
   ac_rfl
   refine U_list h5.marked hb.1 (by show _ < (List.map _ p.marked).length; simp; lia) (by show (List.map _ p.marked).length ≤ _; simp; lia) ?_
   rw [il_set]
   have h6 := h5.sMarked (p.marked.set (p.B s).toNat (p.Mk (p.B s) + 1))
   ac_rfl
   exact Ret.none (q _ (p.mark s) h6 VM.1 VM.2 rfl rfl (fr.trans (Fr.set (by lia))))
end
set_option tactic.hygienic false
section
variable {X : Wx} {d : Nat} {H H' : List AObj} {w : Nat} {rows tags : List (List Int)}
noncomputable def rg (n : Nat) : List Int := (List.range n).map fun i => ((i : Nat) : Int)
noncomputable def pt0 (n : Nat) : Pt := ⟨rg n, rg n, List.replicate n 0, [0], [(n : Int)], [0], []⟩
theorem rg_at {n : Nat} {i : Int} (h0 : 0 ≤ i) (h1 : i < n) : atI (rg n) i = i := by
 refine atI_of ?_
 unfold rg
 rw [List.getElem?_map, List.getElem?_range (by lia)]
 show some (((i.toNat : Nat) : Int)) = some i
 congr 1; lia
theorem rep_at {n : Nat} {i : Int} (h0 : 0 ≤ i) (h1 : i < n) : atI (List.replicate n 0) i = 0 := by
 refine atI_of ?_
 rw [List.getElem?_replicate, if_pos (by lia)]
theorem pt0_ok {n : Nat} (hn : 1 ≤ n) : PV n (pt0 n) ∧ (∀ x : Int, 0 ≤ x → x < n → ¬ (pt0 n).Mkd x) ∧ (∀ x : Int, 0 ≤ x → x < n → (pt0 n).B x = 0) ∧ (pt0 n).nb = 1 := by
 have l : (rg n).length = n := by simp [rg]
 have b1 : ∀ b : Int, 0 ≤ b → b < (pt0 n).nb → b = 0 := fun b h0 h1 => by
  have : (pt0 n).nb = 1 := rfl
  lia
 refine ⟨⟨⟨hn, l, l, by simp [pt0], rfl, rfl, Nat.le_refl _, ?_, ?_, ?_, ?_, ?_⟩, List.nodup_nil, ?_⟩, ?_, ?_, rfl⟩
 ·intro i h0 h1
  show 0 ≤ atI (rg n) i ∧ atI (rg n) i < n ∧ atI (rg n) (atI (rg n) i) = i
  rw [rg_at h0 h1, rg_at h0 h1]; exact ⟨h0, h1, rfl⟩
 ·intro i h0 h1
  show 0 ≤ atI (rg n) i ∧ atI (rg n) i < n ∧ atI (rg n) (atI (rg n) i) = i
  rw [rg_at h0 h1, rg_at h0 h1]; exact ⟨h0, h1, rfl⟩
 ·intro s h0 h1
  show 0 ≤ atI (List.replicate n 0) s ∧ atI (List.replicate n 0) s < 1
  rw [rep_at h0 h1]; lia
 ·intro b h0 h1
  rw [b1 b h0 h1]
  show (0 : Int) ≤ 0 ∧ (0 : Int) < (n : Int) ∧ (n : Int) ≤ n ∧ (0 : Int) ≤ 0 ∧ (0 : Int) + 0 ≤ n
  lia
 ·intro s b s0 s1 h0 h1
  rw [b1 b h0 h1]
  show atI (List.replicate n 0) s = 0 ↔ (0 : Int) ≤ atI (rg n) s ∧ atI (rg n) s < n
  rw [rep_at s0 s1, rg_at s0 s1]
  exact ⟨fun za => ⟨s0, s1⟩, fun za => rfl⟩
 ·intro b
  constructor
  ·intro q; cases q
  ·rintro ⟨h0, h1, h2⟩
   rw [b1 b h0 h1] at h2
   exact absurd h2 (by show ¬ (0 : Int) < 0; decide)
 ·intro x h0 h1 q
  have q : atI (rg n) x < atI [0] (atI (List.replicate n 0) x) + atI [0] (atI (List.replicate n 0) x) := q
  rw [rg_at h0 h1, rep_at h0 h1] at q
  have : atI [0] 0 = 0 := rfl
  lia
 ·intro x h0 h1; exact rep_at h0 h1
theorem C_Partition {n : Nat} {Q : V → List AObj → Prop} (hd : d < 100) (hn : n ≤ 1000) (h : ∀ H', H'.length = H.length + 8 → PtAt H' H.length (H.length + 7) (pt0 n) → (∀ j : Nat, j < H.length → H'[j]? = H[j]?) → Q (.ref H.length) H') : Cl X.W d (.ref 216) [.int (n : Nat)] H Q := by
 have cX : True := trivial
 revert X d H n Q hd hn h
 rintro X d H n Q hd hn h
 refine C_class (fI := 178) (ps := ["self", "count"]) hd (by kernel_rfl) (by kernel_rfl) (by kernel_rfl) (FnOk.of rfl (by kernel_rfl) rfl rfl rfl rfl rfl rfl rfl (by rfl) (by decide)) (lenS fun x0 => lenS fun x1 => len0 rfl) (by decide) (by left) ?_
 rintro hin
 simp only [argLoc]
 ac_rfl
 refine K_list (by left) ?_
 ac_rfl
 refine K_range (by left) ?_
 ac_rfl
 refine C_range ?_
 ac_rfl
 refine C_listRng false (by lia) (by lia) ?_
 simp only [cpOut, Bool.false_eq_true, if_false]
 ac_rfl
 rw [List.append_assoc, List.singleton_append]
 refine ⟨_, _, _, _, rfl, at_get0, so_216_row, by simp, rfl, ?_⟩
 rw [at_set0, show fputN [] "row" = [("row" : Str)] by kernel_rfl, show ∀ a : V, fputV [] [] "row" a = [a] from fun a => rfl]
 ac_rfl
 refine K_list (by left) ?_
 ac_rfl
 refine K_range (by left) ?_
 ac_rfl
 refine C_range ?_
 ac_rfl
 refine C_listRng false (by lia) (by lia) ?_
 simp only [cpOut, Bool.false_eq_true, if_false]
 ac_rfl
 rw [List.append_assoc, List.cons_append, List.singleton_append]
 refine ⟨_, _, _, _, rfl, at_get0, so_216_places, by simp, rfl, ?_⟩
 rw [at_set0, show fputN ["row"] "places" = [("row" : Str), "places"] by kernel_rfl, show ∀ a b : V, fputV ["row"] [a] "places" b = [a, b] by intro a b; kernel_rfl]
 ac_rfl
 refine E_lstF ?_
 ac_rfl
 refine ⟨by simp, ?_⟩
 ac_rfl
 refine P_mulL false AsList.lst (by lia) (by simp; lia) (by lia) ?_
 simp only [cpOut, Bool.false_eq_true, if_false]
 rw [flat1]
 ac_rfl
 simp only [List.append_assoc, List.cons_append, List.nil_append]
 refine ⟨_, _, _, _, rfl, at_get0, so_216_blocks, by simp, rfl, ?_⟩
 rw [at_set0, show fputN ["row", "places"] "blocks" = [("row" : Str), "places", "blocks"] by kernel_rfl, show ∀ a0 a1 b : V, fputV ["row", "places"] [a0, a1] "blocks" b = [a0, a1, b] by intro a0 a1 b; kernel_rfl]
 ac_rfl
 refine E_lstM ?_
 ac_rfl
 refine ⟨by simp, ?_⟩
 ac_rfl
 ac_rfl
 simp only [List.append_assoc, List.cons_append, List.nil_append]
 refine ⟨_, _, _, _, rfl, at_get0, so_216_begins, by simp, rfl, ?_⟩
 rw [at_set0, show fputN ["row", "places", "blocks"] "begins" = [("row" : Str), "places", "blocks", "begins"] by kernel_rfl, show ∀ a0 a1 a2 b : V, fputV ["row", "places", "blocks"] [a0, a1, a2] "begins" b = [a0, a1, a2, b] by intro a0 a1 a2 b; kernel_rfl]
 ac_rfl
 refine E_lstM ?_
 ac_rfl
 refine ⟨by simp, ?_⟩
 ac_rfl
 ac_rfl
 simp only [List.append_assoc, List.cons_append, List.nil_append]
 refine ⟨_, _, _, _, rfl, at_get0, so_216_ends, by simp, rfl, ?_⟩
 rw [at_set0, show fputN ["row", "places", "blocks", "begins"] "ends" = [("row" : Str), "places", "blocks", "begins", "ends"] by kernel_rfl, show ∀ a0 a1 a2 a3 b : V, fputV ["row", "places", "blocks", "begins"] [a0, a1, a2, a3] "ends" b = [a0, a1, a2, a3, b] by intro a0 a1 a2 a3 b; kernel_rfl]
 ac_rfl
 refine E_lstM ?_
 ac_rfl
 refine ⟨by simp, ?_⟩
 ac_rfl
 ac_rfl
 simp only [List.append_assoc, List.cons_append, List.nil_append]
 refine ⟨_, _, _, _, rfl, at_get0, so_216_marked, by simp, rfl, ?_⟩
 rw [at_set0, show fputN ["row", "places", "blocks", "begins", "ends"] "marked" = [("row" : Str), "places", "blocks", "begins", "ends", "marked"] by kernel_rfl, show ∀ a0 a1 a2 a3 a4 b : V, fputV ["row", "places", "blocks", "begins", "ends"] [a0, a1, a2, a3, a4] "marked" b = [a0, a1, a2, a3, a4, b] by intro a0 a1 a2 a3 a4 b; kernel_rfl]
 ac_rfl
 refine E_lstM ?_
 ac_rfl
 refine ⟨by simp, ?_⟩
 ac_rfl
 ac_rfl
 simp only [List.append_assoc, List.cons_append, List.nil_append]
 refine ⟨_, _, _, _, rfl, at_get0, so_216_touched, by simp, rfl, ?_⟩
 rw [at_set0, show fputN ["row", "places", "blocks", "begins", "ends", "marked"] "touched" = [("row" : Str), "places", "blocks", "begins", "ends", "marked", "touched"] by kernel_rfl, show ∀ a0 a1 a2 a3 a4 a5 b : V, fputV ["row", "places", "blocks", "begins", "ends", "marked"] [a0, a1, a2, a3, a4, a5] "touched" b = [a0, a1, a2, a3, a4, a5, b] by intro a0 a1 a2 a3 a4 a5 b; kernel_rfl]
 ac_rfl
 simp only [List.length_append, List.length_cons, List.length_nil, Nat.zero_add, Nat.reduceAdd]
 refine Ret.none ⟨rfl, h _ (by simp) ⟨at_get0, at_get (i := 1) ?_, at_get (i := 2) ?_, at_get (i := 3) ?_, at_get (i := 4) ?_, at_get (i := 5) ?_, at_get (i := 6) ?_, at_get (i := 7) ?_, by lia⟩ fun j hj => by rw [List.getElem?_append_left hj]⟩
 all_goals simp [il, pt0, rg]
end
set_option tactic.hygienic false
section
variable {X : Wx} {d : Nat} {H H' : List AObj} {w : Nat} {rows tags : List (List Int)}
noncomputable def news (a b : Nat) : List Int := (List.range (b - a)).map fun i => ((a + i : Nat) : Int)
theorem news_self {a : Nat} : news a a = [] := by simp [news]
theorem news_succ {a b : Nat} (h : a ≤ b) : news a (b + 1) = news a b ++ [(b : Int)] := by
 unfold news
 rw [show b + 1 - a = (b - a) + 1 by lia, List.range_succ, List.map_append]
 simp; lia
theorem news_mem {a b : Nat} {x : Int} : x ∈ news a b ↔ (a : Int) ≤ x ∧ x < b := by
 unfold news
 rw [List.mem_map]
 constructor
 ·rintro ⟨i, hi, rfl⟩
  have := List.mem_range.mp hi
  lia
 ·rintro ⟨h1, h2⟩
  exact ⟨x.toNat - a, List.mem_range.mpr (by lia), by lia⟩
theorem news_len {a b : Nat} : (news a b).length = b - a := by simp [news]
set_option tactic.hygienic true in
theorem C_split {k t n : Nat} {p : Pt} {Q : V → List AObj → Prop} (hd : d < 90) (h : PtAt H k t p) (pv : PV n p) (hn : n ≤ 900)
  (q : ∀ H' t' p' (r : Nat), PtAt H' k t' p' → PV n p' → (∀ x : Int, 0 ≤ x → x < n → ¬ p'.Mkd x) → (∀ x y : Int, 0 ≤ x → x < n → 0 ≤ y → y < n → (p'.B x = p'.B y ↔ p.B x = p.B y ∧ (p.Mkd x ↔ p.Mkd y))) →
   (∀ x : Int, 0 ≤ x → x < n → p'.B x < p.nb → p'.B x = p.B x) → p.nb ≤ p'.nb → H'[r]? = some (il (news p.nb p'.nb)) → H.length ≤ r → H.length ≤ t' → r ≠ t' → Fr k t H H' → Q (.ref r) H') : Cl X.W d (.ref 213) [.ref k] H Q := by
 have cX : True := trivial
 revert X d H k t n p Q hd h pv hn q
 rintro X d H k t n p Q hd h pv hn q
 have hd' := hd
 replace hd : d < 100 := by lia
 have htl := (gll h.touched)
 have hlt := h.lt
 refine C_fn (ps := ["self"]) hd (FnOk.of rfl (by kernel_rfl) rfl rfl rfl rfl rfl rfl rfl (by rfl) (by decide)) (lenS fun x0 => len0 rfl) (by decide) (by left) ?_
 rintro hin
 simp only [argLoc]
 ac_rfl
 refine E_lstM ?_
 ac_rfl
 refine ⟨by simp, ?_⟩
 refine S_mid (fun m Hx => m ("self" : Str) = some (.ref k) ∧ m ("new_blocks" : Str) = some (.ref H.length) ∧ ∃ p', SplI n p p.touched p' ∧ PtAt Hx k t p' ∧ Hx[H.length]? = some (il (news p.nb p'.nb)) ∧ Hx.length = H.length + 1 ∧ Fr k t H Hx) ?_ ?_
 ·refine S_forK ?_
  ac_rfl
  refine A_216_touched (h.add _).inst (by intro w h; cases h) ?_
  refine ⟨t, p.touched.map V.int, rfl, fun i m Hx => m ("self" : Str) = some (.ref k) ∧ m ("new_blocks" : Str) = some (.ref H.length) ∧ ∃ p', SplI n p (p.touched.take i) p' ∧ PtAt Hx k t p' ∧ Hx[H.length]? = some (il (news p.nb p'.nb)) ∧ Hx.length = H.length + 1 ∧ Fr k t H Hx,
   ⟨(by bv_omega), (by bv_omega), p, SplI.start pv, h.add _, by rw [news_self]; exact at_get0, by simp, by simp, fun j hj za zb => by rw [List.getElem?_append_left hj]⟩, ?_, ?_, ?_⟩
  ·rintro i m Hx ⟨_, _, p', I, pa, _, _, _⟩
   have := pa.touched
   rw [I.touched] at this; exact this
  ·rintro m Hx ⟨m1, m2, p', I, pa, g, hl, fr⟩
   rw [List.length_map, List.take_length] at I
   exact ⟨rfl, m1, m2, p', I, pa, g, hl, fr⟩
  ·rintro i a m Hx e ⟨m1, m2, p', I, pa, g, hl, fr⟩
   obtain ⟨b, rfl, eb⟩ := int_of_map e
   have htk : p.touched.take (i + 1) = p.touched.take i ++ [b] := by rw [List.take_add_one, eb]; rfl
   have tb := (pv.tm b).mp (List.mem_of_getElem? eb)
   obtain ⟨b0, b1, bm⟩ := tb
   have bn : b ∉ p.touched.take i := fun q => by
    obtain ⟨j, hj⟩ := List.mem_iff_getElem?.mp q
    rw [List.getElem?_take] at hj
    split at hj
    ·have := nodup_inj pv.tn hj eb; lia
    ·cases hj
   have rb := I.rest b b0 b1 bn
   have nble := I.nble
   have b1' : b < p'.nb := by lia
   have iv := I.sv.iv b b0 b1'
   have hnb := I.sv.nb_le
   have hnbe : p'.nb = p'.begins.length := rfl
   have le := I.sv.le
   have lm := I.sv.lm
   have lb := I.sv.lb
   have lr := I.sv.lr
   have bm' : 0 < p'.Mk b := by rw [rb.2.2.1]; exact bm
   refine A_name (by left) ?_
   refine Ss.abs ?_
   rintro R hR
   ac_rfl
   refine A_216_begins pa.inst (by intro w h; cases h) ?_
   ac_rfl
   refine G_list pa.begins b0 (by lia) (a := .int (p'.Bg b)) (gI b0 (by lia)) ?_
   ac_rfl
   refine A_216_marked pa.inst (by intro w h; cases h) ?_
   ac_rfl
   refine G_list pa.marked b0 (by lia) (a := .int (p'.Mk b)) (gI b0 (by lia)) ?_
   ac_rfl
   refine A_216_marked pa.inst (by intro w h; cases h) ?_
   ac_rfl
   refine U_list pa.marked b0 (by simp; lia) (by simp; lia) ?_
   rw [il_set]
   have pa1 := pa.sMarked (p'.marked.set b.toNat 0)
   ac_rfl
   refine A_216_ends pa1.inst (by intro w h; cases h) ?_
   ac_rfl
   refine G_list pa1.ends b0 (by lia) (a := .int (p'.En b)) (gI b0 (by show b < p'.ends.length; lia)) ?_
   ac_rfl
   split
   ·rename_i z
    have z : p'.Bg b + p'.Mk b = p'.En b := by simpa using z
    ac_rfl
    exact ⟨(by bv_omega), (by bv_omega), _, (by rw [htk]; exact I.whole pv b0 b1 bn z), pa1, seti (by lia) g, by rw [List.length_set]; exact hl, fr.trans (Fr.set (by lia))⟩
   ·rename_i z
    have z : p'.Bg b + p'.Mk b ≠ p'.En b := by simpa using z
    ac_rfl
    refine K_len (by left) ?_
    ac_rfl
    refine A_216_begins pa1.inst (by intro w h; cases h) ?_
    ac_rfl
    refine C_len (AsList.ref pa1.begins) (by show (List.map _ p'.begins).length ≤ _; simp; lia) ?_
    rw [show ((List.map V.int ({ p' with marked := p'.marked.set b.toNat 0 } : Pt).begins).length : Int) = (p'.nb : Int) by simp]
    have M0 : ∀ j : Int, 0 ≤ j → atI (p'.marked.set b.toNat 0) j = if j = b then 0 else p'.Mk j := fun j hj => atI_set b0 (by lia) hj
    have fr1 : Fr k t H (Hx.set (k + 6) (il (p'.marked.set b.toNat 0))) := fr.trans (Fr.set (by lia))
    refine S_mid (fun m Hy => m ("self" : Str) = some (.ref k) ∧ m ("new_blocks" : Str) = some (.ref H.length) ∧ m ("new" : Str) = some (.int p'.nb) ∧ ∃ (bg en : List Int) (nl nr ol or_ : Int),
     ((nl = p'.Bg b ∧ nr = p'.Bg b + p'.Mk b ∧ ol = p'.Bg b + p'.Mk b ∧ or_ = p'.En b) ∨ (nl = p'.Bg b + p'.Mk b ∧ nr = p'.En b ∧ ol = p'.Bg b ∧ or_ = p'.Bg b + p'.Mk b)) ∧ bg.length = p'.nb + 1 ∧ en.length = p'.nb + 1 ∧
     (∀ j : Int, 0 ≤ j → j ≤ p'.nb → atI bg j = if j = p'.nb then nl else if j = b then ol else p'.Bg j) ∧ (∀ j : Int, 0 ≤ j → j ≤ p'.nb → atI en j = if j = p'.nb then nr else if j = b then or_ else p'.En j) ∧
     PtAt Hy k t { p' with marked := p'.marked.set b.toNat 0, begins := bg, ends := en } ∧ Hy[H.length]? = some (il (news p.nb p'.nb)) ∧ Hy.length = H.length + 1 ∧ Fr k t H Hy) ?_ ?_
    ·ac_rfl
     refine A_216_begins pa1.inst (by intro w h; cases h) ?_
     ac_rfl
     refine G_list pa1.begins b0 (by lia) (a := .int (p'.Bg b)) (gI b0 (by show b < p'.begins.length; lia)) ?_
     ac_rfl
     refine A_216_ends pa1.inst (by intro w h; cases h) ?_
     ac_rfl
     refine G_list pa1.ends b0 (by lia) (a := .int (p'.En b)) (gI b0 (by show b < p'.ends.length; lia)) ?_
     ac_rfl
     split
     ·ac_rfl
      refine E_meth ?_
      ac_rfl
      refine A_216_begins pa1.inst (by intro w h; cases h) ?_
      refine ⟨_, M_append pa1.begins, Kept.blt, ?_⟩
      ac_rfl
      refine A_216_begins pa1.inst (by intro w h; cases h) ?_
      ac_rfl
      refine G_list pa1.begins b0 (by lia) (a := .int (p'.Bg b)) (gI b0 (by show b < p'.begins.length; lia)) ?_
      ac_rfl
      refine C_append pa1.begins (by show (List.map _ p'.begins).length ≤ _; simp; lia) ?_
      rw [il_push]
      have pa2 := pa1.sBegins (p'.begins ++ [p'.Bg b])
      ac_rfl
      refine E_meth ?_
      ac_rfl
      refine A_216_ends pa2.inst (by intro w h; cases h) ?_
      refine ⟨_, M_append pa2.ends, Kept.blt, ?_⟩
      ac_rfl
      refine C_append pa2.ends (by show (List.map _ p'.ends).length ≤ _; simp; lia) ?_
      rw [il_push]
      have pa3 := pa2.sEnds (p'.ends ++ [p'.Bg b + p'.Mk b])
      ac_rfl
      refine A_216_begins pa3.inst (by intro w h; cases h) ?_
      ac_rfl
      refine U_list pa3.begins b0 (by show _ < (List.map _ (p'.begins ++ [p'.Bg b])).length; simp; lia) (by show (List.map _ (p'.begins ++ [p'.Bg b])).length ≤ _; simp; lia) ?_
      rw [il_set]
      have pa4 := pa3.sBegins ((p'.begins ++ [p'.Bg b]).set b.toNat (p'.Bg b + p'.Mk b))
      ac_rfl
      refine ⟨rfl, (by bv_omega), (by bv_omega), (by bv_omega), _, _, _, _, _, _, .inl ⟨rfl, rfl, rfl, rfl⟩, by first | (simp; done) | (simp; lia), by first | (simp; done) | (simp; lia), fun j j0 j1 => ?_, fun j j0 j1 => ?_, pa4, seti (by lia) (seti (by lia) (seti (by lia) (seti (by lia) g))), by simp [hl], ((fr1.trans (Fr.set (by lia))).trans (Fr.set (by lia))).trans (Fr.set (by lia))⟩
      ·rw [atI_set b0 (by simp; lia) j0, atI_push j0 (by lia)]
       by_cases q1 : j = b
       ·rw [if_pos q1, if_neg (by lia), if_pos q1]
       ·rw [if_neg q1, if_neg q1]
      ·rw [atI_push j0 (by lia), le]
       by_cases q1 : j = p'.nb
       ·rw [if_pos q1, if_pos (by lia)]
       ·rw [if_neg q1, if_neg (by lia)]
        by_cases q2 : j = b
        ·rw [if_pos q2, q2]
        ·rw [if_neg q2]
     ·ac_rfl
      refine E_meth ?_
      ac_rfl
      refine A_216_begins pa1.inst (by intro w h; cases h) ?_
      refine ⟨_, M_append pa1.begins, Kept.blt, ?_⟩
      ac_rfl
      refine C_append pa1.begins (by show (List.map _ p'.begins).length ≤ _; simp; lia) ?_
      rw [il_push]
      have pa2 := pa1.sBegins (p'.begins ++ [p'.Bg b + p'.Mk b])
      ac_rfl
      refine E_meth ?_
      ac_rfl
      refine A_216_ends pa2.inst (by intro w h; cases h) ?_
      refine ⟨_, M_append pa2.ends, Kept.blt, ?_⟩
      ac_rfl
      refine A_216_ends pa2.inst (by intro w h; cases h) ?_
      ac_rfl
      refine G_list pa2.ends b0 (by lia) (a := .int (p'.En b)) (gI b0 (by show b < p'.ends.length; lia)) ?_
      ac_rfl
      refine C_append pa2.ends (by show (List.map _ p'.ends).length ≤ _; simp; lia) ?_
      rw [il_push]
      have pa3 := pa2.sEnds (p'.ends ++ [p'.En b])
      ac_rfl
      refine A_216_ends pa3.inst (by intro w h; cases h) ?_
      ac_rfl
      refine U_list pa3.ends b0 (by show _ < (List.map _ (p'.ends ++ [p'.En b])).length; simp; lia) (by show (List.map _ (p'.ends ++ [p'.En b])).length ≤ _; simp; lia) ?_
      rw [il_set]
      have pa4 := pa3.sEnds ((p'.ends ++ [p'.En b]).set b.toNat (p'.Bg b + p'.Mk b))
      ac_rfl
      refine ⟨rfl, (by bv_omega), (by bv_omega), (by bv_omega), _, _, _, _, _, _, .inr ⟨rfl, rfl, rfl, rfl⟩, by first | (simp; done) | (simp; lia), by first | (simp; done) | (simp; lia), fun j j0 j1 => ?_, fun j j0 j1 => ?_, pa4, seti (by lia) (seti (by lia) (seti (by lia) (seti (by lia) g))), by simp [hl], ((fr1.trans (Fr.set (by lia))).trans (Fr.set (by lia))).trans (Fr.set (by lia))⟩
      ·rw [atI_push j0 (by lia)]
       by_cases q1 : j = p'.nb
       ·rw [if_pos q1, if_pos (by lia)]
       ·rw [if_neg q1, if_neg (by lia)]
        by_cases q2 : j = b
        ·rw [if_pos q2, q2]
        ·rw [if_neg q2]
      ·rw [atI_set b0 (by simp; lia) j0, atI_push j0 (by lia), le]
       by_cases q1 : j = b
       ·rw [if_pos q1, if_neg (by lia), if_pos q1]
       ·rw [if_neg q1, if_neg q1]
    ·rintro m Hy ⟨m1, m2, m3, bg, en, nl, nr, ol, or_, hc, lbg, len, f1, f2, pb, g, hl, fr⟩
     have e1 := f1 p'.nb (by lia) (by lia)
     have e2 := f2 p'.nb (by lia) (by lia)
     rw [if_pos rfl] at e1 e2
     ac_rfl
     refine E_meth ?_
     ac_rfl
     refine A_216_marked pb.inst (by intro w h; cases h) ?_
     refine ⟨_, M_append pb.marked, Kept.blt, ?_⟩
     ac_rfl
     refine C_append pb.marked (by show (List.map _ (p'.marked.set b.toNat 0)).length ≤ _; simp; lia) ?_
     rw [il_push]
     have pc := pb.sMarked (p'.marked.set b.toNat 0 ++ [0])
     have hsl : ∀ s : Int, s ∈ (p'.row.drop nl.toNat).take (nr.toNat - nl.toNat) ↔ 0 ≤ s ∧ s < n ∧ nl ≤ p'.P s ∧ p'.P s < nr := fun s => I.sv.slice_iff (by lia) s
     ac_rfl
     refine S_forL ?_
     refine E_meth ?_
     ac_rfl
     refine ⟨_, M_members pc.inst, Kf_members, ?_⟩
     ac_rfl
     refine C_members (n := n) (by lia) pc (by lia) lr (by show en.length = bg.length; lia) (by show bg.length ≤ 1000; lia) (by lia) (by show (p'.nb : Int) < bg.length; lia) (by show 0 ≤ atI bg p'.nb; lia) (by show atI bg p'.nb ≤ atI en p'.nb; lia) (by show atI en p'.nb ≤ n; lia) ?_
     rw [show (({ p' with marked := p'.marked.set b.toNat 0 ++ [0], begins := bg, ends := en } : Pt).mem p'.nb) = (p'.row.drop nl.toNat).take (nr.toNat - nl.toNat) by
      show (p'.row.drop (atI bg p'.nb).toNat).take ((atI en p'.nb).toNat - (atI bg p'.nb).toNat) = _
      rw [e1, e2]]
     generalize (p'.row.drop nl.toNat).take (nr.toNat - nl.toNat) = ms at *
     refine ⟨_, rfl, fun j m Hz => m ("self" : Str) = some (.ref k) ∧ m ("new_blocks" : Str) = some (.ref H.length) ∧ m ("new" : Str) = some (.int p'.nb) ∧ ∃ bl : List Int, bl.length = n ∧ (∀ x : Int, 0 ≤ x → x < n → atI bl x = if x ∈ ms.take j then (p'.nb : Int) else p'.B x) ∧
      PtAt Hz k t { p' with marked := p'.marked.set b.toNat 0 ++ [0], begins := bg, ends := en, blocks := bl } ∧ Hz[H.length]? = some (il (news p.nb p'.nb)) ∧ Hz.length = H.length + 1 ∧ Fr k t H Hz,
      ⟨(by bv_omega), (by bv_omega), (by bv_omega), p'.blocks, lb, (fun x za zb => by simp), pc, seti (by lia) g, by simp [hl], fr.trans (Fr.set (by lia))⟩, ?_, ?_⟩
     ·rintro m Hz ⟨m1, m2, m3, bl, lbl, fb, pd, g, hl, fr⟩
      rw [List.length_map, List.take_length] at fb
      ac_rfl
      refine E_meth ?_
      ac_rfl
      refine ⟨_, M_append g, Kept.blt, ?_⟩
      ac_rfl
      refine C_append g (by rw [List.length_map, news_len]; lia) ?_
      rw [il_push, ← news_succ (by lia)]
      have pe := pd.sub (j := H.length) (x := il (news p.nb (p'.nb + 1))) (by lia) (by lia)
      ac_rfl
      refine ⟨(by bv_omega), (by bv_omega), _, ?_, pe, ?_, by rw [List.length_set]; exact hl, ⟨by rw [List.length_set]; exact fr.1, fun j h1 h2 h3 => ?_⟩⟩
      ·rw [htk]
       refine I.two (nl := nl) (nr := nr) (ol := ol) (or_ := or_) pv b0 b1 bn bm' z hc rfl rfl rfl lbg len (by show (_ ++ [_] : List Int).length = _; simp; lia) lbl f1 f2 (fun j j0 j1 => ?_) (fun x x0 x1 => ?_)
       ·show atI (p'.marked.set b.toNat 0 ++ [0]) j = _
        rw [atI_push j0 (by rw [List.length_set]; lia), M0 j j0, List.length_set, lm]
       ·show atI bl x = _
        rw [fb x x0 x1]
        by_cases q1 : x ∈ ms
        ·rw [if_pos q1, if_pos ((hsl x).mp q1).2.2]
        ·rw [if_neg q1, if_neg fun q2 => q1 ((hsl x).mpr ⟨x0, x1, q2⟩)]
      ·rw [show ({ p' with marked := p'.marked.set b.toNat 0 ++ [0], begins := bg, ends := en, blocks := bl } : Pt).nb = p'.nb + 1 from lbg]
       exact setj g
      ·rw [List.getElem?_set_ne (by lia)]; exact fr.2 j h1 h2 h3
     ·rintro j a m Hz e ⟨m1, m2, m3, bl, lbl, fb, pd, g, hl, fr⟩
      obtain ⟨s, rfl, es⟩ := int_of_map e
      have hs := (hsl s).mp (List.mem_of_getElem? es)
      refine A_name (by left) ?_
      refine Ss.abs ?_
      rintro R hR
      ac_rfl
      refine A_216_blocks pd.inst (by intro w h; cases h) ?_
      ac_rfl
      refine U_list pd.blocks hs.1 (by show _ < (List.map _ bl).length; simp; lia) (by show (List.map _ bl).length ≤ _; simp; lia) ?_
      rw [il_set]
      have pe := pd.sBlocks (bl.set s.toNat p'.nb)
      ac_rfl
      refine ⟨(by bv_omega), (by bv_omega), (by bv_omega), bl.set s.toNat p'.nb, by simp [lbl], fun x x0 x1 => ?_, pe, seti (by lia) g, by simp [hl], fr.trans (Fr.set (by lia))⟩
      rw [atI_set hs.1 (by lia) x0, List.take_add_one, es, fb x x0 x1]
      by_cases q1 : x = s
      ·rw [if_pos q1, if_pos (by rw [q1]; simp)]
      ·rw [if_neg q1]
       have : x ∈ ms.take j ++ (some s).toList ↔ x ∈ ms.take j := by simp [q1]
       simp only [this]
 ·rintro m Hx ⟨m1, m2, p', I, pa, g, hl, fr⟩
  ac_rfl
  refine E_lstM ?_
  ac_rfl
  refine ⟨by simp, ?_⟩
  ac_rfl
  have D := SplI.done pv I
  refine ⟨k, _, _, _, rfl, (pa.add _).inst, so_216_touched, by simp, rfl, ?_⟩
  rw [show fputN pnames "touched" = pnames by kernel_rfl, show ∀ a1 a2 a3 a4 a5 a6 a7 b : V, fputV pnames [a1, a2, a3, a4, a5, a6, a7] "touched" b = [a1, a2, a3, a4, a5, a6, b] by intro a1 a2 a3 a4 a5 a6 a7 b; kernel_rfl]
  have pb := pa.add [.list []]
  ac_rfl
  refine Ret.keep (q _ Hx.length { p' with touched := [] } H.length ⟨setj pb.inst, seti (by lia) pb.row, seti (by lia) pb.places, seti (by lia) pb.blocks, seti (by lia) pb.begins, seti (by lia) pb.ends, seti (by lia) pb.marked, seti (by lia) (List.getElem?_concat_length ..), by lia⟩ D.1 D.2.1 D.2.2 I.old I.nble
   (seti (by lia) (get_left g)) (Nat.le_refl _) (by lia) (by lia) (fr.trans ⟨by rw [List.length_set]; simp, fun j h1 h2 h3 => ?_⟩))
  rw [List.getElem?_set_ne (by lia), List.getElem?_append_left h1]
end
set_option tactic.hygienic false
section
variable {X : Wx} {d : Nat} {H H' : List AObj} {w : Nat} {rows tags : List (List Int)}
noncomputable def lv (l : List (List Int)) : V := .lst (l.map vrow)
noncomputable def SrcOn (rows : List (List Int)) (c j : Nat) (bs : List (List Int)) : Prop := bs.length = rows.length ∧ ∀ (g : Nat) b, bs[g]? = some b → b.length ≤ j ∧ ∀ p : Int, p ∈ b ↔ 0 ≤ p ∧ p < j ∧ goalOf rows p c = g
noncomputable def BackOk (w : Nat) (rows : List (List Int)) (bk : List (List (List Int))) : Prop := bk.length = w ∧ ∀ (c : Nat) l, bk[c]? = some l → SrcOn rows c rows.length l
set_option tactic.hygienic true in
theorem C_ways_back {Q} (hd : d < 98) (A : Aut w rows tags) (hf : ∀ r, r ∈ rows → ∀ g, g ∈ r → 0 ≤ g) (h : ∀ bk, BackOk w rows bk → Q (.lst (bk.map lv)) H) : Cl X.W d (.ref 232) [vdfa rows tags] H Q := by
 have cX : True := trivial
 revert X d H w rows tags Q hd A hf h
 rintro X d H w rows tags Q hd A hf h
 have hd' := hd
 replace hd : d < 100 := by lia
 have hsm := A.small
 have hw := A.width
 refine C_fn (ps := ["dfa"]) hd (FnOk.of rfl (by kernel_rfl) rfl rfl rfl rfl rfl rfl rfl (by rfl) (by decide)) (lenS fun x0 => len0 rfl) (by decide) (by left) ?_
 rintro hin
 simp only [argLoc]
 ac_rfl
 refine E_meth ?_
 ac_rfl
 refine ⟨_, O_state_count, Kf_state_count, ?_⟩
 ac_rfl
 refine C_state_count (by lia) A ?_
 ac_rfl
 refine E_lstM ?_
 ac_rfl
 refine ⟨by simp, ?_⟩
 ac_rfl
 refine S_forR ?_
 refine K_range (by left) ?_
 ac_rfl
 refine E_meth ?_
 ac_rfl
 refine ⟨_, O_class_count, Kf_class_count, ?_⟩
 ac_rfl
 refine C_class_count (by lia) A ?_
 ac_rfl
 refine C_range ?_
 refine ⟨_, rfl, by lia, by lia, fun i m Hx => m ("dfa" : Str) = some (vdfa rows tags) ∧ m ("count" : Str) = some (.int rows.length) ∧ m ("back" : Str) = some (.ref H.length) ∧ ∃ (bk : List (List (List Int))) (dd : List AObj), bk.length = i ∧ (∀ (c : Nat) l, bk[c]? = some l → SrcOn rows c rows.length l) ∧ Hx = H ++ .list (bk.map lv) :: dd,
  ⟨(by bv_omega), (by bv_omega), (by bv_omega), [], [], rfl, (fun c l e => by simp at e), rfl⟩, ?_, ?_⟩
 ·rintro m Hx ⟨m1, m2, m3, bk, dd, hl, hb, rfl⟩
  ac_rfl
  refine Ret.drop hin (b := .lst (bk.map lv)) (.list (Nat.le_refl _) at_get0 (Rsvs.refl ..)) ?_ (h bk ⟨by simpa using hl, hb⟩)
  exact withins_all fun x q => by obtain ⟨l, _, rfl⟩ := List.mem_map.mp q; exact within_rows _ l
 ·rintro i m Hx hi ⟨m1, m2, m3, bk, dd, hl, hb, rfl⟩
  generalize hH0 : H ++ AObj.list (bk.map lv) :: dd = H0
  refine A_name (by left) ?_
  refine Ss.abs ?_
  rintro R hR
  ac_rfl
  refine S_setComp false ?_ (by left)
  refine K_range (by left) ?_
  ac_rfl
  refine C_range ?_
  refine CpLp.rng (CpIn.mono _ _) (fun j Hy zs => Hy = H0 ++ arr (List.replicate j []) ∧ zs = refs H0.length j) (by left) (by first | exact compLoc_none (by left) | exact Loc.put_ne (by left) (compLoc_none (by left)) | exact Loc.put_ne (by left) (Loc.put_ne (by left) (compLoc_none (by left)))) (by lia) (by lia) ⟨by simp [arr], rfl⟩ ?_ ?_
  ·rintro Hy zs ⟨rfl, rfl⟩
   simp only [cpOut, Bool.false_eq_true, if_false]
   rw [Int.toNat_natCast, show (H0 ++ arr (List.replicate rows.length [])).length = H0.length + rows.length by rw [List.length_append, arr_len, List.length_replicate]]
   have hlast : ∀ {bs : List (List Int)} {l}, bs.length = rows.length → (H0 ++ arr bs ++ AObj.list (refs H0.length rows.length) :: l)[H0.length + rows.length]? = some (.list (refs H0.length rows.length)) := fun e => by rw [← e]; exact arr_last
   ac_rfl
   refine S_forR ?_
   refine K_range (by left) ?_
   ac_rfl
   refine C_range ?_
   refine ⟨_, rfl, by lia, by lia, fun j m Hy => m ("dfa" : Str) = some (vdfa rows tags) ∧ m ("count" : Str) = some (.int rows.length) ∧ m ("back" : Str) = some (.ref H.length) ∧ m ("number" : Str) = some (.int (i : Nat)) ∧ m ("sources" : Str) = some (.ref (H0.length + rows.length)) ∧ ∃ bs, SrcOn rows i j bs ∧ Hy = H0 ++ arr bs ++ [.list (refs H0.length rows.length)],
    ⟨(by bv_omega), (by bv_omega), (by bv_omega), (by bv_omega), (by bv_omega), List.replicate rows.length [], ⟨by simp, fun g b e => ?_⟩, rfl⟩, ?_, ?_⟩
   ·rw [List.getElem?_replicate] at e
    split at e
    ·cases e
     exact ⟨by simp, fun p => ⟨(fun q => by cases q), fun q => by lia⟩⟩
    ·cases e
   ·rintro m Hy ⟨m1, m2, m3, m4, m5, bs, hs, rfl⟩
    rw [Int.toNat_natCast] at hs
    have hsl := hs.1
    refine S_kill H0.length (m.put ("sources" : Str) (lv bs)) ?_ ?_
    ·have hkill : kill H0.length (H0 ++ arr bs ++ [AObj.list (refs H0.length rows.length)]) = H ++ AObj.list (bk.map lv) :: (dd ++ List.replicate (rows.length + 1) .dead) := by
      unfold kill
      rw [List.append_assoc, List.take_left', ← hH0]
      ·simp [arr_len, hsl]; lia
      ·rfl
     rw [hkill]
     ac_rfl
     refine E_meth ?_
     ac_rfl
     refine ⟨_, M_append at_get0, Kept.blt, ?_⟩
     ac_rfl
     refine C_append at_get0 (by simp; lia) ?_
     rw [at_set0]
     ac_rfl
     refine ⟨(by bv_omega), (by bv_omega), (by bv_omega), bk ++ [bs], _, by simp [hl], fun c l e => ?_, by simp; rfl⟩
     rcases get_snoc e with e | ⟨rfl, rfl⟩
     ·exact hb c l e
     ·rw [hl]; exact hs
    ·rintro x b e
     unfold Loc.put at e
     split at e
     ·rename_i hx
      subst hx
      cases e
      exact ⟨_, m5, by rw [← hsl]; exact rsv_arr⟩
     ·exact ⟨b, e, .same _⟩
   ·rintro j m Hy hj ⟨m1, m2, m3, m4, m5, bs, hs, rfl⟩
    obtain ⟨r, er, hrl, hrg⟩ := A.rowAt (s := (j : Nat)) (by lia) hj
    obtain ⟨g, eg, hmg⟩ := get_of_lt (l := r) (i := i) (by lia)
    have g0 := hf r (List.mem_of_getElem? er) g hmg
    have g1 := hrg g hmg
    have hgo : goalOf rows (j : Nat) (i : Nat) = g := goalOf_at (by simpa using er) eg
    have hsl := hs.1
    obtain ⟨b, eb, _⟩ := get_of_lt (l := bs) (i := g.toNat) (by lia)
    have hbl := (hs.2 _ b eb).1
    refine A_name (by left) ?_
    refine Ss.abs ?_
    rintro R hR
    ac_rfl
    refine G_lst (by lia) (by lia) (map_get er) ?_
    ac_rfl
    refine G_lst (by lia) (by lia) (a := .int g) (by rw [List.getElem?_map, Int.toNat_natCast, eg]; rfl) ?_
    ac_rfl
    rw [if_neg (by simp; lia)]
    ac_rfl
    refine E_meth ?_
    ac_rfl
    refine G_list (hlast hsl) g0 (by lia) (refs_get (by lia)) ?_
    refine ⟨_, M_append (arr_get eb), Kept.blt, ?_⟩
    ac_rfl
    refine C_append (arr_get eb) (by simp; lia) ?_
    ac_rfl
    refine ⟨(by bv_omega), (by bv_omega), (by bv_omega), (by bv_omega), (by bv_omega), bs.set g.toNat (b ++ [(j : Int)]), ⟨by simp [hsl], fun g' b' e => ?_⟩, ?_⟩
    ·by_cases hg : g.toNat = g'
     ·subst hg
      rw [List.getElem?_set_self (by lia)] at e
      cases e
      refine ⟨by simp; lia, fun p => ?_⟩
      rw [List.mem_append, (hs.2 _ b eb).2 p, List.mem_singleton]
      constructor
      ·rintro (⟨q1, q2, q3⟩ | rfl)
       ·exact ⟨q1, by lia, q3⟩
       ·exact ⟨by lia, by lia, by rw [hgo]; lia⟩
      ·rintro ⟨q1, q2, q3⟩
       by_cases hp : p = j
       ·exact .inr hp
       ·exact .inl ⟨q1, by lia, q3⟩
     ·rw [List.getElem?_set_ne hg] at e
      refine ⟨by have := (hs.2 _ b' e).1; lia, fun p => ?_⟩
      rw [(hs.2 _ b' e).2 p]
      constructor
      ·rintro ⟨q1, q2, q3⟩; exact ⟨q1, by lia, q3⟩
      ·rintro ⟨q1, q2, q3⟩
       refine ⟨q1, ?_, q3⟩
       by_cases hp : p = j
       ·rw [hp, hgo] at q3; lia
       ·lia
    ·rw [il_push]
     exact arr_set (by lia)
  ·rintro j Hy zs hj ⟨rfl, rfl⟩
   simp only [CpIfs_n, CpIfs_o, CpIn_n, if_true]
   ac_rfl
   refine E_lstM ?_
   ac_rfl
   refine ⟨by simp, ?_, ?_, ?_⟩
   ·rw [refs_len]; lia
   ·rw [List.replicate_succ']
    simp [arr]
   ·rw [List.length_append, arr_len, List.length_replicate]
    unfold refs
    rw [List.range_succ, List.map_append]; rfl
end
set_option tactic.hygienic false
section
variable {X : Wx} {d : Nat} {H H' : List AObj} {w : Nat} {rows tags : List (List Int)}
theorem Ret.cut {H0 H' : List AObj} {Q : V → List AObj → Prop} {b : V} {m : Loc} (hin : ∀ (k : Nat) (o : AObj), H0[k]? = some o → o.within H0.length = true) (hl : H0.length ≤ H'.length) (hf : ∀ j : Nat, j < H0.length → H'[j]? = H0[j]?) (hw : b.within H0.length = true) (q : Q b H0) : Ret H0 Q (.ret b) m H' := by
 have e : H'.take H0.length = H0 := by
  apply List.ext_getElem?
  intro j
  by_cases hj : j < H0.length
  ·rw [List.getElem?_take, if_pos hj]; exact hf j hj
  ·rw [List.getElem?_eq_none (by rw [List.length_take]; lia), List.getElem?_eq_none (by lia)]
 exact ⟨b, rfl, .inr ⟨b, H0.length, .same b, hw, Nat.le_refl _, by rw [e]; exact hin, by rw [e]; exact q⟩⟩
noncomputable def Lo (H H' : List AObj) : Prop := H.length ≤ H'.length ∧ ∀ j : Nat, j < H.length → H'[j]? = H[j]?
theorem Lo.fr {H H1 H2 : List AObj} {t : Nat} (a : Lo H H1) (b : Fr H.length t H1 H2) (ht : H.length + 6 < t) : Lo H H2 := ⟨Nat.le_trans a.1 b.1, fun j hj => (b.2 j (Nat.lt_of_lt_of_le hj a.1) (.inl hj) (by lia)).trans (a.2 j hj)⟩
theorem Lo.add {H H1 l : List AObj} (a : Lo H H1) : Lo H (H1 ++ l) := ⟨by rw [List.length_append]; have := a.1; lia, fun j hj => by rw [List.getElem?_append_left (Nat.lt_of_lt_of_le hj a.1)]; exact a.2 j hj⟩
theorem Lo.set {H H1 : List AObj} {i : Nat} {o : AObj} (a : Lo H H1) (hi : H.length ≤ i) : Lo H (H1.set i o) := ⟨by rw [List.length_set]; exact a.1, fun j hj => by rw [List.getElem?_set_ne (by lia)]; exact a.2 j hj⟩
theorem d1_get {H : List AObj} {x : AObj} {gs : List (List Int)} {i : Nat} {g : List Int} (e : gs[i]? = some g) : (H ++ x :: arr gs)[H.length + 1 + i]? = some (il g) := by
 rw [show H.length + 1 + i = H.length + (i + 1) by lia]
 refine at_get ?_
 show (arr gs)[i]? = _
 unfold arr; rw [List.getElem?_map, e]; rfl
theorem d1_set {H : List AObj} {x : AObj} {gs : List (List Int)} {i : Nat} {g : List Int} : (H ++ x :: arr gs).set (H.length + 1 + i) (il g) = H ++ x :: arr (gs.set i g) := by
 rw [show H.length + 1 + i = H.length + (i + 1) by lia, at_set]
 show H ++ x :: (arr gs).set i _ = _
 congr 2
 unfold arr il; rw [List.map_set]
theorem d1_len {H : List AObj} {x : AObj} {gs : List (List Int)} : (H ++ x :: arr gs).length = H.length + 1 + gs.length := by simp [arr_len]; lia
set_option tactic.hygienic true in
theorem C_refine {Q} (hd : d < 80) (A : Full w rows tags) (h : ∀ nb, Canon nb → nb.length = rows.length → (∀ (x y : Nat) a b, nb[x]? = some a → nb[y]? = some b → (a = b ↔ ∀ u, WordOk w u → T rows tags x u = T rows tags y u)) → Q (.lst (nb.map V.int)) H) : Cl X.W d (.ref 239) [vdfa rows tags] H Q := by
 have cX : True := trivial
 revert X d H w rows tags Q hd A h
 rintro X d H w rows tags Q hd A h
 have hd' := hd
 replace hd : d < 100 := by lia
 have A0 := A.toAut
 have hsm := A0.small
 have hpos := A0.pos
 have hsame := A0.same
 have hw := A0.width
 refine C_fn (ps := ["dfa"]) hd (FnOk.of rfl (by kernel_rfl) rfl rfl rfl rfl rfl rfl rfl (by rfl) (by decide)) (lenS fun x0 => len0 rfl) (by decide) (by left) ?_
 rintro hin
 simp only [argLoc]
 ac_rfl
 refine K_ways_back (by left) ?_
 ac_rfl
 refine C_ways_back (by lia) A0 A.goals ?_
 rintro bk hbk
 ac_rfl
 refine K_Partition (by left) ?_
 ac_rfl
 refine E_meth ?_
 ac_rfl
 refine ⟨_, O_state_count, Kf_state_count, ?_⟩
 ac_rfl
 refine C_state_count (by lia) A0 ?_
 ac_rfl
 refine C_Partition (by lia) (by lia) ?_
 rintro Hp hpl pa0 hplo
 have pk := pt0_ok (n := rows.length) (by lia)
 have lo0 : Lo H Hp := ⟨by lia, hplo⟩
 ac_rfl
 refine E_dictT0 ?_
 refine S_mid (fun m Hx => Has m ["dfa", "back", "parts", "groups"] [(vdfa rows tags), (.lst (bk.map lv)), (.ref H.length), (.ref Hp.length)] ∧ ∃ ks gs, GrI tags ks gs rows.length ∧ Hx = Hp ++ .dictT ks (refs (Hp.length + 1) ks.length) :: arr gs) ?_ ?_
 ·refine S_forR ?_
  refine K_range (by left) ?_
  ac_rfl
  refine E_meth ?_
  ac_rfl
  refine ⟨_, O_state_count, Kf_state_count, ?_⟩
  ac_rfl
  refine C_state_count (by lia) A0 ?_
  ac_rfl
  refine C_range ?_
  refine ⟨_, rfl, by lia, by lia, fun i m Hx => Has m ["dfa", "back", "parts", "groups"] [(vdfa rows tags), (.lst (bk.map lv)), (.ref H.length), (.ref Hp.length)] ∧ ∃ ks gs, GrI tags ks gs i ∧ Hx = Hp ++ .dictT ks (refs (Hp.length + 1) ks.length) :: arr gs,
   ⟨(by first | ((repeat refine Has.put (by left) ?_); assumption) | ((repeat refine Has.cons (by bv_omega) ?_); exact Has.nil)), [], [], GrI.start, by simp [refs, arr]⟩, ?_, ?_⟩
  ·rintro m Hx ⟨mH, ks, gs, I, rfl⟩
   rw [Int.toNat_natCast] at I
   exact ⟨rfl, (by first | ((repeat refine Has.put (by left) ?_); assumption) | ((repeat refine Has.cons (by bv_omega) ?_); exact Has.nil)), ks, gs, I, rfl⟩
  ·rintro i m Hx hi ⟨mH, ks, gs, I, rfl⟩
   obtain ⟨tg, et, _⟩ := A0.tagAt (s := (i : Nat)) (by lia) hi
   have et' : tags[i]? = some tg := by simpa using et
   have hle := I.le
   have hlen := I.len
   refine A_name (by left) ?_
   refine Ss.abs ?_
   rintro R hR
   ac_rfl
   refine G_lst (by lia) (by lia) (map_get et) ?_
   refine S_mid (fun m Hx => Has m ["dfa", "back", "parts", "groups", "state", "tags"] [(vdfa rows tags), (.lst (bk.map lv)), (.ref H.length), (.ref Hp.length), (.int (i : Nat)), (vtag tg)] ∧
    ∃ (ks gs : List (List Int)) (j : Nat) (g : List Int), ks.length ≤ i + 1 ∧ gs.length = ks.length ∧ ks[j]? = some tg ∧ gs[j]? = some g ∧ g.length ≤ i ∧ GrI tags ks (gs.set j (g ++ [(i : Int)])) (i + 1) ∧ Hx = Hp ++ .dictT ks (refs (Hp.length + 1) ks.length) :: arr gs) ?_ ?_
   ·ac_rfl
    refine P_notInT at_get0 ?_
    ac_rfl
    split
    ·rename_i hn
     have hn : tg ∉ ks := by simpa using hn
     ac_rfl
     refine E_lstM ?_
     ac_rfl
     refine ⟨by simp, ?_⟩
     rw [d1_len]
     ac_rfl
     refine U_dictT (get_left at_get0) hn (by lia) ?_
     ac_rfl
     refine ⟨rfl, (by first | ((repeat refine Has.put (by left) ?_); assumption) | ((repeat refine Has.cons (by bv_omega) ?_); exact Has.nil)), ks ++ [tg], gs ++ [[]], ks.length, [], by simp; lia, by simp [hlen], List.getElem?_concat_length .., by rw [← hlen]; exact List.getElem?_concat_length .., by simp, ?_, ?_⟩
     ·have N := I.new et' hn
      rw [← hlen, List.set_append_right _ _ (Nat.le_refl _), Nat.sub_self]
      exact N
     ·rw [List.append_assoc, List.cons_append, at_set0, List.length_append, List.length_singleton, refs_succ, hlen]
      simp [arr]
    ·rename_i hn
     have hn : tg ∈ ks := by simpa using hn
     obtain ⟨j, ej⟩ := List.mem_iff_getElem?.mp hn
     have hj := (gll ej)
     obtain ⟨g, eg, _⟩ := get_of_lt (l := gs) (i := j) (by lia)
     ac_rfl
     exact ⟨rfl, (by first | ((repeat refine Has.put (by left) ?_); assumption) | ((repeat refine Has.cons (by bv_omega) ?_); exact Has.nil)), ks, gs, j, g, by lia, hlen, ej, eg, (I.at_ j tg g ej eg).1, I.old et' ej eg, rfl⟩
   ·rintro m Hx ⟨mH, ks, gs, j, g, hk, hlen, ej, eg, hgl, I', rfl⟩
    have hj := (gll ej)
    ac_rfl
    refine E_meth ?_
    ac_rfl
    refine G_dictT at_get0 ej (refs_get hj) ?_
    refine ⟨_, M_append (d1_get eg), Kept.blt, ?_⟩
    ac_rfl
    refine C_append (d1_get eg) (by simp; lia) ?_
    rw [il_push]
    ac_rfl
    exact ⟨(by first | ((repeat refine Has.put (by left) ?_); assumption) | ((repeat refine Has.cons (by bv_omega) ?_); exact Has.nil)), ks, _, I', d1_set⟩
 ·rintro m Hx ⟨mH, ks, gs, I, rfl⟩
  have hlen := I.len
  have hle := I.le
  refine S_kill Hp.length (m.put ("groups" : Str) (.dct ks (gs.map vrow))) ?_ ?_
  rotate_left
  ·rintro x b e
   unfold Loc.put at e
   split at e
   ·rename_i hx
    subst hx
    cases e
    refine ⟨_, mH.g3, .dictT (Nat.le_refl _) at_get0 (Rsvs.of_get (by simp [refs_len, hlen]) fun i x y e1 e2 => ?_)⟩
    rw [List.getElem?_map] at e2
    obtain ⟨g, eg, rfl⟩ := Option.map_eq_some_iff.mp e2
    rw [refs_get (by have := (gll eg); lia)] at e1
    cases e1
    exact .list (by lia) (d1_get eg) (Rsvs.refl ..)
   ·exact ⟨b, e, .same _⟩
  have hkill : kill Hp.length (Hp ++ AObj.dictT ks (refs (Hp.length + 1) ks.length) :: arr gs) = Hp ++ List.replicate (gs.length + 1) .dead := by
   unfold kill
   rw [List.take_left' rfl]
   simp [arr_len]
  rw [hkill]
  refine S_mid (fun m Hx => Has m ["dfa", "back", "parts"] [(vdfa rows tags), (.lst (bk.map lv)), (.ref H.length)] ∧ ∃ p t, PtAt Hx H.length t p ∧ PV rows.length p ∧ (∀ x : Int, 0 ≤ x → x < rows.length → ¬ p.Mkd x) ∧ (∀ x y : Int, 0 ≤ x → x < rows.length → 0 ≤ y → y < rows.length → (p.B x = p.B y ↔ tagOf tags x = tagOf tags y)) ∧ Lo H Hx) ?_ ?_
  ·ac_rfl
   refine S_forV ?_
   refine E_meth ?_
   ac_rfl
   refine ⟨_, M_values, Kept.blt, ?_⟩
   ac_rfl
   refine C_values ?_
   refine ⟨_, rfl, fun i m Hx => Has m ["dfa", "back", "parts"] [(vdfa rows tags), (.lst (bk.map lv)), (.ref H.length)] ∧ ∃ p t, PtAt Hx H.length t p ∧ PV rows.length p ∧ (∀ x : Int, 0 ≤ x → x < rows.length → ¬ p.Mkd x) ∧ (∀ x y : Int, 0 ≤ x → x < rows.length → 0 ≤ y → y < rows.length → (p.B x = p.B y ↔ ∀ t, t ∈ ks.take i → (tags[x.toNat]? = some t ↔ tags[y.toNat]? = some t))) ∧ Lo H Hx,
    ⟨(by first | ((repeat refine Has.put (by left) ?_); assumption) | ((repeat refine Has.cons (by bv_omega) ?_); exact Has.nil)), pt0 rows.length, H.length + 7, pa0.add _, pk.1, pk.2.1, fun x y x0 x1 y0 y1 => ⟨fun za t q => by simp at q, fun za => by rw [pk.2.2.1 x x0 x1, pk.2.2.1 y y0 y1]⟩, lo0.add⟩, ?_, ?_⟩
   ·rintro m Hx ⟨mH, p, t, pa, pv, nm, eq, lo⟩
    rw [List.length_map, hlen, List.take_length] at eq
    refine ⟨rfl, (by first | ((repeat refine Has.put (by left) ?_); assumption) | ((repeat refine Has.cons (by bv_omega) ?_); exact Has.nil)), p, t, pa, pv, nm, fun x y x0 x1 y0 y1 => (eq x y x0 x1 y0 y1).trans ?_, lo⟩
    obtain ⟨tx, ex, _⟩ := A0.tagAt x0 x1
    obtain ⟨ty, ey, _⟩ := A0.tagAt y0 y1
    unfold tagOf
    rw [if_neg (by lia), if_neg (by lia), getD_of ex, getD_of ey, ex, ey]
    constructor
    ·rintro a
     have := (a tx (I.all x.toNat tx (by lia) ex)).mp rfl
     exact (Option.some.inj this).symm
    ·rintro rfl t _; exact Iff.rfl
   ·rintro i a m Hx e ⟨mH, p, t, pa, pv, nm, eq, lo⟩
    rw [List.getElem?_map] at e
    obtain ⟨g, eg, rfl⟩ := Option.map_eq_some_iff.mp e
    have hi := (gll eg)
    obtain ⟨tg, etg, _⟩ := get_of_lt (l := ks) (i := i) (by lia)
    have hg := I.at_ i tg g etg eg
    refine A_name (by left) ?_
    refine Ss.abs ?_
    rintro R hR
    ac_rfl
    refine S_forL ?_
    ac_rfl
    refine ⟨_, rfl, fun j m Hx => Has m ["dfa", "back", "parts"] [(vdfa rows tags), (.lst (bk.map lv)), (.ref H.length)] ∧ ∃ p', PtAt Hx H.length t p' ∧ PV rows.length p' ∧ (∀ x : Int, 0 ≤ x → x < rows.length → (p'.Mkd x ↔ x ∈ g.take j)) ∧ p'.blocks = p.blocks ∧ Lo H Hx,
     ⟨(by first | ((repeat refine Has.put (by left) ?_); assumption) | ((repeat refine Has.cons (by bv_omega) ?_); exact Has.nil)), p, pa, pv, fun x x0 x1 => ⟨fun q => absurd q (nm x x0 x1), fun q => by simp at q⟩, rfl, lo⟩, ?_, ?_⟩
    ·rintro m Hx ⟨mH, p', pa, pv, mk, hbl, lo⟩
     rw [List.length_map, List.take_length] at mk
     have hB : ∀ x, p'.B x = p.B x := fun x => by show atI p'.blocks x = atI p.blocks x; rw [hbl]
     ac_rfl
     refine E_meth ?_
     ac_rfl
     refine ⟨_, M_split pa.inst, Kf_split, ?_⟩
     ac_rfl
     refine C_split (by lia) pa pv (by lia) ?_
     rintro H' t' p2 r pa2 pv2 nm2 eq2 old2 nble hr hr2 ht2 hne fr
     ac_rfl
     refine ⟨(by first | ((repeat refine Has.put (by left) ?_); assumption) | ((repeat refine Has.cons (by bv_omega) ?_); exact Has.nil)), p2, t', pa2, pv2, nm2, fun x y x0 x1 y0 y1 => (eq2 x y x0 x1 y0 y1).trans ?_, lo.fr fr pa.lt⟩
     rw [hB, hB, eq x y x0 x1 y0 y1, mk x x0 x1, mk y y0 y1, hg.2 x, hg.2 y, List.take_add_one, etg]
     constructor
     ·rintro ⟨a, b⟩ t q
      rcases List.mem_append.mp q with q | q
      ·exact a t q
      ·have : t = tg := by simpa using q
       subst this
       exact ⟨fun z => (b.mp ⟨x0, by lia, z⟩).2.2, fun z => (b.mpr ⟨y0, by lia, z⟩).2.2⟩
     ·rintro a
      refine ⟨fun t q => a t (List.mem_append_left _ q), ?_⟩
      have := a tg (List.mem_append_right _ (by simp))
      exact ⟨fun z => ⟨y0, by lia, this.mp z.2.2⟩, fun z => ⟨x0, by lia, this.mpr z.2.2⟩⟩
    ·rintro j a m Hx e ⟨mH, p', pa, pv, mk, hbl, lo⟩
     obtain ⟨s, rfl, es⟩ := int_of_map e
     have hs := (hg.2 s).mp (List.mem_of_getElem? es)
     refine A_name (by left) ?_
     refine Ss.abs ?_
     rintro R hR
     ac_rfl
     refine E_meth ?_
     ac_rfl
     refine ⟨_, M_mark pa.inst, Kf_mark, ?_⟩
     ac_rfl
     refine C_mark (by lia) pa pv (by lia) hs.1 (by lia) ?_
     rintro H' p2 pa2 pv2 mk2 b2 _ fr
     ac_rfl
     refine ⟨(by first | ((repeat refine Has.put (by left) ?_); assumption) | ((repeat refine Has.cons (by bv_omega) ?_); exact Has.nil)), p2, pa2, pv2, fun x x0 x1 => ?_, b2.trans hbl, lo.fr fr pa.lt⟩
     rw [mk2 x x0 x1, mk x x0 x1, List.take_add_one, es]
     simp
  ·rintro m Hx ⟨mH, p, t, pa, pv, nm, eq, lo⟩
   have hnb := pv.nb_le
   have hnb1 := pv.nb1
   ac_rfl
   refine S_forR ?_
   refine K_range (by left) ?_
   ac_rfl
   refine E_meth ?_
   ac_rfl
   refine ⟨_, M_block_count pa.inst, Kf_block_count, ?_⟩
   ac_rfl
   refine C_block_count (by lia) pa (by lia) ?_
   ac_rfl
   refine C_range ?_
   refine ⟨_, rfl, by lia, by lia, fun i m Hy => Hy = Hx ∧ Has m ["dfa", "back", "parts"] [(vdfa rows tags), (.lst (bk.map lv)), (.ref H.length)] ∧ ∃ wd : Int, 0 ≤ wd ∧ wd < p.nb ∧ m ("widest" : Str) = some (.int wd),
    ⟨rfl, (by first | ((repeat refine Has.put (by left) ?_); assumption) | ((repeat refine Has.cons (by bv_omega) ?_); exact Has.nil)), 0, by lia, by show (0 : Int) < (p.begins.length : Nat); lia, (by bv_omega)⟩, ?_, ?_⟩
   rotate_left
   ·rintro i m Hy hi ⟨rfl, mH, wd, w0, w1, m4⟩
    refine A_name (by left) ?_
    refine Ss.abs ?_
    rintro R hR
    ac_rfl
    refine E_meth ?_
    ac_rfl
    refine ⟨_, M_size pa.inst, Kf_size, ?_⟩
    ac_rfl
    refine C_size (by lia) pa pv.toSV (by lia) (by lia) hi ?_
    refine E_meth ?_
    ac_rfl
    refine ⟨_, M_size pa.inst, Kf_size, ?_⟩
    ac_rfl
    refine C_size (by lia) pa pv.toSV (by lia) w0 w1 ?_
    ac_rfl
    split
    ·ac_rfl
     exact ⟨rfl, (by first | ((repeat refine Has.put (by left) ?_); assumption) | ((repeat refine Has.cons (by bv_omega) ?_); exact Has.nil)), (i : Int), by lia, hi, (by bv_omega)⟩
    ·ac_rfl
     exact ⟨rfl, (by first | ((repeat refine Has.put (by left) ?_); assumption) | ((repeat refine Has.cons (by bv_omega) ?_); exact Has.nil)), wd, w0, w1, (by bv_omega)⟩
   ·rintro m Hy ⟨rfl, mH, wd, w0, w1, m4⟩
    have htl := (gll pa.touched)
    have hlt := pa.lt
    ac_rfl
    refine E_lstM ?_
    ac_rfl
    refine ⟨by simp, ?_⟩
    generalize hwq : Hy.length = wq at *
    have wqk : H.length + 6 < wq := by lia
    have wqt : wq ≠ t := by lia
    have pa1 : PtAt (Hy ++ [AObj.list []]) H.length t p := pa.add _
    have lo1 : Lo H (Hy ++ [AObj.list []]) := lo.add
    have g1 : (Hy ++ [AObj.list []])[wq]? = some (.list (([] : List (Int × Int)).map pairV)) := by rw [← hwq]; exact List.getElem?_concat_length ..
    generalize Hy ++ [AObj.list []] = Hz at *
    refine S_mid (fun m Hw => Has m ["dfa", "back", "parts", "waiting"] [(vdfa rows tags), (.lst (bk.map lv)), (.ref H.length), (.ref wq)] ∧ ∃ wt : List (Int × Int), Hop w rows tags p wt ∧ wt.length ≤ 2 * p.nb ∧ PtAt Hw H.length t p ∧ Lo H Hw ∧ Hw[wq]? = some (.list (wt.map pairV))) ?_ ?_
    ·ac_rfl
     refine S_forR ?_
     refine K_range (by left) ?_
     ac_rfl
     refine E_meth ?_
     ac_rfl
     refine ⟨_, M_block_count pa1.inst, Kf_block_count, ?_⟩
     ac_rfl
     refine C_block_count (by lia) pa1 (by lia) ?_
     ac_rfl
     refine C_range ?_
     refine ⟨_, rfl, by lia, by lia, fun i m Hw => Has m ["dfa", "back", "parts", "waiting", "widest"] [(vdfa rows tags), (.lst (bk.map lv)), (.ref H.length), (.ref wq), (.int wd)] ∧
      ∃ wt : List (Int × Int), (∀ b c : Int, 0 ≤ b → b < i → b ≠ wd → 0 ≤ c → c < w → (b, c) ∈ wt) ∧ (∀ q, q ∈ wt → 0 ≤ q.1 ∧ q.1 < i ∧ 0 ≤ q.2 ∧ q.2 < w) ∧ wt.length ≤ 2 * i ∧ PtAt Hw H.length t p ∧ Lo H Hw ∧ Hw[wq]? = some (.list (wt.map pairV)),
      ⟨(by first | ((repeat refine Has.put (by left) ?_); assumption) | ((repeat refine Has.cons (by bv_omega) ?_); exact Has.nil)), [], (fun b c b0 b1 => by lia), (fun q hq => by cases hq), by simp, pa1, lo1, g1⟩, ?_, ?_⟩
     ·rintro m Hw ⟨mH, wt, c1, c2, c3, pa2, lo2, g2⟩
      rw [Int.toNat_natCast] at c1 c2 c3
      refine ⟨rfl, (by first | ((repeat refine Has.put (by left) ?_); assumption) | ((repeat refine Has.cons (by bv_omega) ?_); exact Has.nil)), wt, ⟨fun x y x0 x1 y0 y1 e => (eq x y x0 x1 y0 y1).mp e, fun x y x0 x1 y0 y1 ne => ⟨[], (fun c hc => by cases hc), fun z => ne ((eq x y x0 x1 y0 y1).mpr z)⟩, c2, fun x y c x0 x1 y0 y1 c0 cc e ne => ?_⟩, c3, pa2, lo2, g2⟩
      have gx := A.goal0 x0 x1 c0 cc
      have gy := A.goal0 y0 y1 c0 cc
      have bx := pv.bl _ gx.1 gx.2
      have bY := pv.bl _ gy.1 gy.2
      by_cases z : p.B (goalOf rows x c) = wd
      ·exact .inr (c1 _ _ bY.1 bY.2 (fun z2 => ne (z.trans z2.symm)) c0 cc)
      ·exact .inl (c1 _ _ bx.1 bx.2 z c0 cc)
     ·rintro i m Hw hi ⟨mH, wt, c1, c2, c3, pa2, lo2, g2⟩
      refine A_name (by left) ?_
      refine Ss.abs ?_
      rintro R hR
      ac_rfl
      split
      ·rename_i ne
       have ne : (i : Int) ≠ wd := by simpa using ne
       ac_rfl
       refine S_forR ?_
       refine K_range (by left) ?_
       ac_rfl
       refine E_meth ?_
       ac_rfl
       refine ⟨_, O_class_count, Kf_class_count, ?_⟩
       ac_rfl
       refine C_class_count (by lia) A0 ?_
       ac_rfl
       refine C_range ?_
       refine ⟨_, rfl, by lia, by lia, fun j m Hw => Has m ["dfa", "back", "parts", "waiting", "widest", "block"] [(vdfa rows tags), (.lst (bk.map lv)), (.ref H.length), (.ref wq), (.int wd), (.int (i : Nat))] ∧
        ∃ wt : List (Int × Int), (∀ b c : Int, 0 ≤ b → b < i → b ≠ wd → 0 ≤ c → c < w → (b, c) ∈ wt) ∧ (∀ c : Int, 0 ≤ c → c < j → ((i : Int), c) ∈ wt) ∧ (∀ q, q ∈ wt → 0 ≤ q.1 ∧ q.1 < ((i + 1 : Nat) : Int) ∧ 0 ≤ q.2 ∧ q.2 < w) ∧ wt.length ≤ 2 * i + j ∧ PtAt Hw H.length t p ∧ Lo H Hw ∧ Hw[wq]? = some (.list (wt.map pairV)),
        ⟨(by first | ((repeat refine Has.put (by left) ?_); assumption) | ((repeat refine Has.cons (by bv_omega) ?_); exact Has.nil)), wt, c1, (fun c c0 c1 => by lia), (fun q hq => by have := c2 q hq; exact ⟨this.1, by lia, this.2.2⟩), by lia, pa2, lo2, g2⟩, ?_, ?_⟩
       ·rintro m Hw ⟨mH, wt, c1, c2, c3, c4, pa2, lo2, g2⟩
        rw [Int.toNat_natCast] at c2 c4
        ac_rfl
        refine ⟨(by first | ((repeat refine Has.put (by left) ?_); assumption) | ((repeat refine Has.cons (by bv_omega) ?_); exact Has.nil)), wt, fun b c b0 b1 bn c0 cc => ?_, c3, by lia, pa2, lo2, g2⟩
        by_cases z : b = i
        ·rw [z]; exact c2 c c0 cc
        ·exact c1 b c b0 (by lia) bn c0 cc
       ·rintro j m Hw hj ⟨mH, wt, c1, c2, c3, c4, pa2, lo2, g2⟩
        refine A_name (by left) ?_
        refine Ss.abs ?_
        rintro R hR
        ac_rfl
        refine E_meth ?_
        ac_rfl
        refine ⟨_, M_append g2, Kept.blt, ?_⟩
        ac_rfl
        refine ⟨by simp, ?_⟩
        ac_rfl
        refine C_append g2 (by simp; lia) ?_
        ac_rfl
        refine ⟨(by first | ((repeat refine Has.put (by left) ?_); assumption) | ((repeat refine Has.cons (by bv_omega) ?_); exact Has.nil)), wt ++ [((i : Int), (j : Int))], fun b c b0 b1 bn c0 cc => List.mem_append_left _ (c1 b c b0 b1 bn c0 cc), fun c c0 cc => ?_, fun q hq => ?_, by simp; lia, pa2.sub wqk wqt, lo2.set (by lia), by rw [setj g2]; simp [pairV]⟩
        ·by_cases z : c = j
         ·rw [z]; simp
         ·exact List.mem_append_left _ (c2 c c0 (by lia))
        ·rcases List.mem_append.mp hq with hq | hq
         ·exact c3 q hq
         ·rw [List.mem_singleton.mp hq]; exact ⟨by lia, by lia, by lia, hj⟩
      ·rename_i ne
       have ne : (i : Int) = wd := by simpa using ne
       ac_rfl
       refine ⟨(by first | ((repeat refine Has.put (by left) ?_); assumption) | ((repeat refine Has.cons (by bv_omega) ?_); exact Has.nil)), wt, fun b c b0 b1 bn c0 cc => c1 b c b0 (by lia) bn c0 cc, fun q hq => ?_, by lia, pa2, lo2, g2⟩
       have := c2 q hq
       exact ⟨this.1, by lia, this.2.2⟩
    ·rintro m Hw ⟨mH, wt, hop, hwl, pa2, lo2, g2⟩
     ac_rfl
     refine S_while (2 * (rows.length - p.nb) + wt.length) (fun N m Hw => Has m ["dfa", "back", "parts", "waiting"] [(vdfa rows tags), (.lst (bk.map lv)), (.ref H.length), (.ref wq)] ∧
       ∃ (p : Pt) (t : Nat) (wt : List (Int × Int)), Hop w rows tags p wt ∧ PV rows.length p ∧ (∀ x : Int, 0 ≤ x → x < rows.length → ¬ p.Mkd x) ∧ 2 * (rows.length - p.nb) + wt.length = N ∧ N ≤ 1000 ∧ PtAt Hw H.length t p ∧ t ≠ wq ∧ Lo H Hw ∧ Hw[wq]? = some (.list (wt.map pairV)))
      ⟨(by first | ((repeat refine Has.put (by left) ?_); assumption) | ((repeat refine Has.cons (by bv_omega) ?_); exact Has.nil)), p, t, wt, hop, pv, nm, rfl, by lia, pa2, by lia, lo2, g2⟩ ?_
     clear hop hwl pa2 lo2 g2 pa1 lo1 g1 pa lo nm eq hlt htl wqt hnb hnb1 pv mH
     rintro N m Hw ⟨mH, p, t, wt, hop, pv, nm, hN, hN2, pa, htw, lo, g⟩
     have hnb := pv.nb_le
     ac_rfl
     refine Tr_list (AsList.ref g) (by simp; lia) ?_
     rcases snoc_cases wt with rfl | ⟨wt, ⟨b, c⟩, rfl⟩
     ·simp only [List.map_nil, List.isEmpty_nil, Bool.not_true, Bool.false_eq_true, if_false]
      ac_rfl
      refine K_numbered_minimal (by left) ?_
      ac_rfl
      refine A_216_blocks pa.inst (by intro w h; cases h) ?_
      ac_rfl
      have lb := pv.lb
      refine C_numbered_minimal (by lia) pa.blocks (by lia) ?_
      rintro nb cn sm
      refine Ret.cut hin lo.1 lo.2 (within_vrow _ _) (h nb cn (by rw [sm.1, lb]) fun x y a b ea eb => ?_)
      have hx := (gll ea)
      have hy := (gll eb)
      have hsl := sm.1
      rw [sm.2 x y a b (p.B x) (p.B y) ea eb (by have := atI_get (l := p.blocks) (i := (x : Nat)) (by lia) (by lia); rwa [Int.toNat_natCast] at this) (by have := atI_get (l := p.blocks) (i := (y : Nat)) (by lia) (by lia); rwa [Int.toNat_natCast] at this)]
      exact hop.done A x y (by lia) (by lia) (by lia) (by lia)
     ·have hbc := hop.wok (b, c) (List.mem_append_right _ (.head _))
      obtain ⟨b0, b1, c0, c1⟩ := hbc
      rw [List.length_append, List.length_singleton] at hN
      rw [show (!(List.map pairV (wt ++ [(b, c)])).isEmpty) = true by simp]
      simp only [if_true]
      ac_rfl
      refine E_meth ?_
      ac_rfl
      refine ⟨_, M_pop g, Kept.blt, ?_⟩
      ac_rfl
      refine C_pop (xs := wt.map pairV) (a := pairV (b, c)) (by rw [g]; simp) (by simp; lia) ?_
      have pa1 := pa.sub (j := wq) (x := .list (wt.map pairV)) wqk (Ne.symm htw)
      have g1 : (Hw.set wq (.list (wt.map pairV)))[wq]? = some (.list (wt.map pairV)) := setj g
      have lo1 : Lo H (Hw.set wq (.list (wt.map pairV))) := lo.set (by lia)
      generalize Hw.set wq (.list (wt.map pairV)) = Hv at *
      refine A_tup (by left) (by rfl) ?_
      simp only [putAll_c, putAll_n]
      have iv := pv.iv b b0 b1
      have hmem := fun s => pv.mem_iff b0 b1 s
      refine S_mid (fun m Hv => Has m ["dfa", "back", "parts", "waiting"] [(vdfa rows tags), (.lst (bk.map lv)), (.ref H.length), (.ref wq)] ∧ ∃ p', PtAt Hv H.length t p' ∧ PV rows.length p' ∧ (∀ x : Int, 0 ≤ x → x < rows.length → (p'.Mkd x ↔ p.B (goalOf rows x c) = b)) ∧ p'.blocks = p.blocks ∧ p'.begins = p.begins ∧ Lo H Hv ∧ Hv[wq]? = some (.list (wt.map pairV))) ?_ ?_
      ·ac_rfl
       refine S_forL ?_
       refine E_meth ?_
       ac_rfl
       refine ⟨_, M_members pa1.inst, Kf_members, ?_⟩
       ac_rfl
       refine C_members (n := rows.length) (by lia) pa1 (by lia) pv.lr pv.le (by lia) b0 b1 iv.1 (by lia) iv.2.2.1 ?_
       generalize p.mem b = ms at *
       refine ⟨_, rfl, fun i m Hv => Has m ["dfa", "back", "parts", "waiting", "number"] [(vdfa rows tags), (.lst (bk.map lv)), (.ref H.length), (.ref wq), (.int c)] ∧ ∃ p', PtAt Hv H.length t p' ∧ PV rows.length p' ∧ (∀ x : Int, 0 ≤ x → x < rows.length → (p'.Mkd x ↔ goalOf rows x c ∈ ms.take i)) ∧ p'.blocks = p.blocks ∧ p'.begins = p.begins ∧ Lo H Hv ∧ Hv[wq]? = some (.list (wt.map pairV)),
        ⟨(by first | ((repeat refine Has.put (by left) ?_); assumption) | ((repeat refine Has.cons (by bv_omega) ?_); exact Has.nil)), p, pa1, pv, (fun x x0 x1 => ⟨fun q => absurd q (nm x x0 x1), fun q => by simp at q⟩), rfl, rfl, lo1, g1⟩, ?_, ?_⟩
       ·rintro m Hv ⟨mH, p', pa, pv', mk, hb1, hb2, lo, g⟩
        rw [List.length_map, List.take_length] at mk
        refine ⟨rfl, (by first | ((repeat refine Has.put (by left) ?_); assumption) | ((repeat refine Has.cons (by bv_omega) ?_); exact Has.nil)), p', pa, pv', fun x x0 x1 => ?_, hb1, hb2, lo, g⟩
        have gx := A.goal0 x0 x1 c0 c1
        rw [mk x x0 x1, hmem]
        exact ⟨fun q => q.2.2, fun q => ⟨gx.1, gx.2, q⟩⟩
       ·rintro i a m Hv e ⟨mH, p', pa, pv', mk, hb1, hb2, lo, g⟩
        obtain ⟨go, rfl, ego⟩ := int_of_map e
        have hgo := (hmem go).mp (List.mem_of_getElem? ego)
        obtain ⟨l, el, _⟩ := get_of_lt (l := bk) (i := c.toNat) (by rw [hbk.1]; lia)
        have hl := hbk.2 _ l el
        obtain ⟨sr, esr, _⟩ := get_of_lt (l := l) (i := go.toNat) (by rw [hl.1]; lia)
        have hsr := hl.2 _ sr esr
        rw [show ((c.toNat : Nat) : Int) = c by lia, show ((go.toNat : Nat) : Int) = go by lia] at hsr
        refine A_name (by left) ?_
        refine Ss.abs ?_
        rintro R hR
        ac_rfl
        refine S_forL ?_
        ac_rfl
        refine G_lst c0 (by lia) (map_get el) ?_
        ac_rfl
        refine G_lst hgo.1 (by lia) (map_get esr) ?_
        refine ⟨_, rfl, fun j m Hv => Has m ["dfa", "back", "parts", "waiting", "number"] [(vdfa rows tags), (.lst (bk.map lv)), (.ref H.length), (.ref wq), (.int c)] ∧ ∃ p', PtAt Hv H.length t p' ∧ PV rows.length p' ∧ (∀ x : Int, 0 ≤ x → x < rows.length → (p'.Mkd x ↔ goalOf rows x c ∈ ms.take i ∨ x ∈ sr.take j)) ∧ p'.blocks = p.blocks ∧ p'.begins = p.begins ∧ Lo H Hv ∧ Hv[wq]? = some (.list (wt.map pairV)),
         ⟨(by first | ((repeat refine Has.put (by left) ?_); assumption) | ((repeat refine Has.cons (by bv_omega) ?_); exact Has.nil)), p', pa, pv', (fun x x0 x1 => by rw [mk x x0 x1]; simp), hb1, hb2, lo, g⟩, ?_, ?_⟩
        ·rintro m Hv ⟨mH, p', pa, pv', mk, hb1, hb2, lo, g⟩
         rw [List.length_map, List.take_length] at mk
         ac_rfl
         refine ⟨(by first | ((repeat refine Has.put (by left) ?_); assumption) | ((repeat refine Has.cons (by bv_omega) ?_); exact Has.nil)), p', pa, pv', fun x x0 x1 => ?_, hb1, hb2, lo, g⟩
         rw [mk x x0 x1, hsr.2 x, List.take_add_one, ego, List.mem_append]
         simp only [Option.toList, List.mem_singleton]
         exact ⟨fun q => q.imp id fun q => q.2.2, fun q => q.imp id fun q => ⟨x0, x1, q⟩⟩
        ·rintro j a m Hv e ⟨mH, p', pa, pv', mk, hb1, hb2, lo, g⟩
         obtain ⟨s, rfl, es⟩ := int_of_map e
         have hs := (hsr.2 s).mp (List.mem_of_getElem? es)
         refine A_name (by left) ?_
         refine Ss.abs ?_
         rintro R hR
         ac_rfl
         refine E_meth ?_
         ac_rfl
         refine ⟨_, M_mark pa.inst, Kf_mark, ?_⟩
         ac_rfl
         refine C_mark (by lia) pa pv' (by lia) hs.1 hs.2.1 ?_
         rintro H' p2 pa2 pv2 mk2 b2 b3 fr
         ac_rfl
         refine ⟨(by first | ((repeat refine Has.put (by left) ?_); assumption) | ((repeat refine Has.cons (by bv_omega) ?_); exact Has.nil)), p2, pa2, pv2, fun x x0 x1 => ?_, b2.trans hb1, b3.trans hb2, lo.fr fr pa.lt, fr.get g (.inr wqk) (Ne.symm htw)⟩
         rw [mk2 x x0 x1, mk x x0 x1, List.take_add_one, es, List.mem_append]
         simp only [Option.toList, List.mem_singleton]
         exact or_assoc
      ·rintro m Hv ⟨mH, p', pa, pv', mk, hb1, hb2, lo, g⟩
       have hB : ∀ x, p'.B x = p.B x := fun x => by show atI p'.blocks x = atI p.blocks x; rw [hb1]
       have hnbp : p'.nb = p.nb := by show p'.begins.length = _; rw [hb2]
       ac_rfl
       refine S_forK ?_
       refine E_meth ?_
       ac_rfl
       refine ⟨_, M_split pa.inst, Kf_split, ?_⟩
       ac_rfl
       refine C_split (by lia) pa pv' (by lia) ?_
       rintro H' t' p2 r pa2 pv2 nm2 eq2 old2 nble hr hr2 ht2 hne fr
       have hnb2 := pv2.nb_le
       have g' := fr.get g (.inr wqk) (Ne.symm htw)
       have hwl := (gll g)
       refine ⟨r, (news p'.nb p2.nb).map V.int, rfl, fun i m Hv => Has m ["dfa", "back", "parts", "waiting"] [(vdfa rows tags), (.lst (bk.map lv)), (.ref H.length), (.ref wq)] ∧ PtAt Hv H.length t' p2 ∧ Lo H Hv ∧ Hv[r]? = some (il (news p'.nb p2.nb)) ∧
        ∃ wt' : List (Int × Int), (∀ q, q ∈ wt → q ∈ wt') ∧ (∀ n c : Int, n ∈ (news p'.nb p2.nb).take i → 0 ≤ c → c < w → (n, c) ∈ wt') ∧ (∀ q, q ∈ wt' → q ∈ wt ∨ (q.1 ∈ news p'.nb p2.nb ∧ 0 ≤ q.2 ∧ q.2 < w)) ∧ wt'.length ≤ wt.length + 2 * i ∧ Hv[wq]? = some (.list (wt'.map pairV)),
        ⟨(by first | ((repeat refine Has.put (by left) ?_); assumption) | ((repeat refine Has.cons (by bv_omega) ?_); exact Has.nil)), pa2, lo.fr fr pa.lt, hr, wt, (fun q hq => hq), (fun n c hq => by simp at hq), (fun q hq => .inl hq), by lia, g'⟩, ?_, ?_, ?_⟩
       ·rintro i m Hv ⟨_, _, _, hr, _⟩; exact hr
       ·rintro m Hv ⟨mH, pa2, lo, hr, wt', w1, w2, w3, w4, g⟩
        rw [List.length_map, List.take_length] at w2
        rw [List.length_map, news_len] at w4
        ac_rfl
        refine ⟨2 * (rows.length - p2.nb) + wt'.length, by lia, (by first | ((repeat refine Has.put (by left) ?_); assumption) | ((repeat refine Has.cons (by bv_omega) ?_); exact Has.nil)), p2, t', wt', ?_, pv2, nm2, rfl, by lia, pa2, by lia, lo, g⟩
        rw [hnbp] at nble w2 w3 old2
        refine hop.step A pv2.bl nble (fun x y x0 x1 y0 y1 => ?_) (fun x x0 x1 q => (old2 x x0 x1 q).trans (hB x)) w1 (fun n c n0 n1 c0 c1 => w2 n c (news_mem.mpr ⟨n0, n1⟩) c0 c1) (fun q hq => (w3 q hq).imp id fun z => ⟨(news_mem.mp z.1).1, (news_mem.mp z.1).2, z.2⟩)
        rw [eq2 x y x0 x1 y0 y1, hB, hB, mk x x0 x1, mk y y0 y1]
       ·rintro i a m Hv e ⟨mH, pa2, lo, hr, wt', w1, w2, w3, w4, g⟩
        obtain ⟨nn, rfl, enn⟩ := int_of_map e
        have hi := (gll enn)
        rw [news_len] at hi
        refine A_name (by left) ?_
        refine Ss.abs ?_
        rintro R hR
        ac_rfl
        refine S_forR ?_
        refine K_range (by left) ?_
        ac_rfl
        refine E_meth ?_
        ac_rfl
        refine ⟨_, O_class_count, Kf_class_count, ?_⟩
        ac_rfl
        refine C_class_count (by lia) A0 ?_
        ac_rfl
        refine C_range ?_
        refine ⟨_, rfl, by lia, by lia, fun j m Hv => Has m ["dfa", "back", "parts", "waiting", "new"] [(vdfa rows tags), (.lst (bk.map lv)), (.ref H.length), (.ref wq), (.int nn)] ∧ PtAt Hv H.length t' p2 ∧ Lo H Hv ∧ Hv[r]? = some (il (news p'.nb p2.nb)) ∧
         ∃ wt' : List (Int × Int), (∀ q, q ∈ wt → q ∈ wt') ∧ (∀ n c : Int, n ∈ (news p'.nb p2.nb).take i → 0 ≤ c → c < w → (n, c) ∈ wt') ∧ (∀ c : Int, 0 ≤ c → c < j → (nn, c) ∈ wt') ∧ (∀ q, q ∈ wt' → q ∈ wt ∨ (q.1 ∈ news p'.nb p2.nb ∧ 0 ≤ q.2 ∧ q.2 < w)) ∧ wt'.length ≤ wt.length + 2 * i + j ∧ Hv[wq]? = some (.list (wt'.map pairV)),
         ⟨(by first | ((repeat refine Has.put (by left) ?_); assumption) | ((repeat refine Has.cons (by bv_omega) ?_); exact Has.nil)), pa2, lo, hr, wt', w1, w2, (fun c c0 c1 => by lia), w3, by lia, g⟩, ?_, ?_⟩
        ·rintro m Hv ⟨mH, pa2, lo, hr, wt', w1, w2, w2', w3, w4, g⟩
         rw [Int.toNat_natCast] at w2' w4
         ac_rfl
         refine ⟨(by first | ((repeat refine Has.put (by left) ?_); assumption) | ((repeat refine Has.cons (by bv_omega) ?_); exact Has.nil)), pa2, lo, hr, wt', w1, fun n c hn c0 c1 => ?_, w3, by lia, g⟩
         rw [List.take_add_one, enn, List.mem_append] at hn
         rcases hn with hn | hn
         ·exact w2 n c hn c0 c1
         ·rw [show n = nn by simpa using hn]; exact w2' c c0 c1
        ·rintro j m Hv hj ⟨mH, pa2, lo, hr, wt', w1, w2, w2', w3, w4, g⟩
         refine A_name (by left) ?_
         refine Ss.abs ?_
         rintro R hR
         ac_rfl
         refine E_meth ?_
         ac_rfl
         refine ⟨_, M_append g, Kept.blt, ?_⟩
         ac_rfl
         refine ⟨by simp, ?_⟩
         ac_rfl
         refine C_append g (by simp; lia) ?_
         ac_rfl
         refine ⟨(by first | ((repeat refine Has.put (by left) ?_); assumption) | ((repeat refine Has.cons (by bv_omega) ?_); exact Has.nil)), pa2.sub wqk (by lia), lo.set (by lia), seti (by lia) hr, wt' ++ [(nn, (j : Int))], fun q hq => List.mem_append_left _ (w1 q hq), fun n c hn c0 c1 => List.mem_append_left _ (w2 n c hn c0 c1), fun c c0 c1 => ?_, fun q hq => ?_, by simp; lia, by rw [setj g]; simp [pairV]⟩
         ·by_cases z : c = j
          ·rw [z]; simp
          ·exact List.mem_append_left _ (w2' c c0 (by lia))
         ·rcases List.mem_append.mp hq with hq | hq
          ·exact w3 q hq
          ·rw [List.mem_singleton.mp hq]
           exact .inr ⟨List.mem_of_getElem? enn, by lia, hj⟩
end
set_option tactic.hygienic false
section
variable {X : Wx} {d : Nat} {H H' : List AObj} {w : Nat} {rows tags : List (List Int)}
theorem C_least {Q} (hd : d < 70) (A : Aut w rows tags) (hs : rows.length ≤ 90) (h : ∀ R S, Lean w rows tags R S → Q (vdfa R S) H) : Cl X.W d (.ref 251) [vdfa rows tags] H Q := by
 have cX : True := trivial
 revert X d H w rows tags Q hd A hs h
 rintro X d H w rows tags Q hd A hs h
 have hd' := hd
 replace hd : d < 100 := by lia
 have F := A.full (by lia)
 refine C_fn (ps := ["dfa"]) hd (FnOk.of rfl (by kernel_rfl) rfl rfl rfl rfl rfl rfl rfl (by rfl) (by decide)) (lenS fun x0 => len0 rfl) (by decide) (by left) ?_
 rintro hin
 simp only [argLoc]
 ac_rfl
 refine K_completed (by left) ?_
 ac_rfl
 refine C_completed (by lia) A ?_
 ac_rfl
 refine K_trimmed (by left) ?_
 ac_rfl
 refine K_joined (by left) ?_
 ac_rfl
 refine K_refine (by left) ?_
 ac_rfl
 refine C_refine (by lia) F ?_
 rintro nb cn ln eq
 ac_rfl
 refine C_joined (by lia) F.toAut F.goals ln cn ?_
 rintro fs hfs
 have J : Joi w (cRows w rows) (cTags rows tags) nb fs := ⟨F, cn, ln, eq, hfs⟩
 ac_rfl
 refine C_trimmed (by lia) J.aut ?_
 rintro sn ord rs s1 s2 I hl
 exact Ret.keep (h rs _ (lean_of A (by lia) J ⟨J.aut, s1, s2, I, hl⟩))
end
set_option tactic.hygienic false
section
variable {X : Wx} {d : Nat} {H H' : List AObj} {w : Nat} {r1 t1 r2 t2 : List (List Int)}
noncomputable def FirstW (w : Nat) (r1 t1 r2 t2 : List (List Int)) : Option (List Int) → Prop
 | none => ∀ u, WordOk w u → T r1 t1 0 u = T r2 t2 0 u
 | some u => WordOk w u ∧ T r1 t1 0 u ≠ T r2 t2 0 u ∧ ∀ v, WordOk w v → T r1 t1 0 v ≠ T r2 t2 0 v → code w u ≤ code w v
noncomputable def kf (W : Int) (p : Int × Int) : Int := (p.1 + 1) * W + p.2 + 1
theorem kf_inj {W : Int} {p q : Int × Int} (hp : -1 ≤ p.2 ∧ p.2 + 1 < W) (hq : -1 ≤ q.2 ∧ q.2 + 1 < W) (e : kf W p = kf W q) : p = q := by
 unfold kf at e
 have : p.1 = q.1 := by
  rcases Int.lt_trichotomy p.1 q.1 with h | h | h
  ·have m := Int.mul_le_mul_of_nonneg_right (show p.1 + 1 + 1 ≤ q.1 + 1 by lia) (show 0 ≤ W by lia)
   rw [Int.add_mul (p.1 + 1)] at m
   lia
  ·exact h
  ·have m := Int.mul_le_mul_of_nonneg_right (show q.1 + 1 + 1 ≤ p.1 + 1 by lia) (show 0 ≤ W by lia)
   rw [Int.add_mul (q.1 + 1)] at m
   lia
 have : p.2 = q.2 := by rw [this] at e; lia
 exact Prod.ext (by assumption) (by assumption)
noncomputable def St (H : List AObj) (W : Int) (ps fr : List (Int × Int)) : List AObj := H ++ [.list (ps.map pairV), .list (fr.map pairV), .dictI (ps.map (kf W)) (idx ps.length)]
theorem St1 {H W ps fr l} : (St H W ps fr ++ l)[H.length + 1]? = some (.list (fr.map pairV)) := by unfold St; rw [List.append_assoc]; exact at_get rfl
theorem St_len {H W ps fr} : (St H W ps fr).length = H.length + 3 := by simp [St]
theorem Bfs.count {ps fr ws at_ c} (B : Bfs w r1 t1 r2 t2 ps fr ws at_ c) (h1 : r1.length ≤ 50) (h2 : r2.length ≤ 50) : ps.length ≤ 2700 ∧ (∀ p, p ∈ ps → -1 ≤ p.2 ∧ p.2 + 1 < (r2.length : Int) + 1) := by
 have rg : ∀ p, p ∈ ps → -1 ≤ p.1 ∧ p.1 < r1.length ∧ -1 ≤ p.2 ∧ p.2 < r2.length := fun p hp => by
  obtain ⟨i, ei⟩ := List.mem_iff_getElem?.mp hp
  obtain ⟨u, eu, _⟩ := get_of_lt (l := ws) (i := i) (by rw [B.lw]; exact (gll ei))
  have := B.ok i p u ei eu
  exact ⟨this.1.1, this.1.2, this.2.1.1, this.2.1.2⟩
 have h := nodup_le 2700 (l := ps.map (kf ((r2.length : Int) + 1))) ?_ ?_
 ·exact ⟨by simpa using h, fun p hp => by have := rg p hp; lia⟩
 ·rw [List.Nodup, List.pairwise_map]
  refine List.Pairwise.imp_of_mem ?_ B.nd
  intro a b ha hb hne e
  have := rg a ha
  have := rg b hb
  exact hne (kf_inj (by lia) (by lia) e)
 ·intro x hx
  obtain ⟨p, hp, rfl⟩ := List.mem_map.mp hx
  have := rg p hp
  unfold kf
  have m1 := Int.mul_le_mul_of_nonneg_right (show 0 ≤ p.1 + 1 by lia) (show 0 ≤ (r2.length : Int) + 1 by lia)
  have m2 := Int.mul_le_mul_of_nonneg_right (show p.1 + 1 ≤ 50 by lia) (show 0 ≤ (r2.length : Int) + 1 by lia)
  lia
set_option tactic.hygienic true in
theorem C_first_word {Q} (hd : d < 80) (A1 : Aut w r1 t1) (A2 : Aut w r2 t2) (h1 : r1.length ≤ 50) (h2 : r2.length ≤ 50) (h : ∀ r, FirstW w r1 t1 r2 t2 r → Q (wordV r) H) : Cl X.W d (.ref 328) [vdfa r1 t1, vdfa r2 t2, .bool false] H Q := by
 have cX : True := trivial
 revert X d H w r1 t1 r2 t2 Q hd A1 A2 h1 h2 h
 rintro X d H w r1 t1 r2 t2 Q hd A1 A2 h1 h2 h
 have hd' := hd
 replace hd : d < 100 := by lia
 have hw := A1.width
 have p1 := A1.pos
 have p2 := A2.pos
 refine C_fn (ps := ["one", "other", "is_within"]) hd (FnOk.of rfl (by kernel_rfl) rfl rfl rfl rfl rfl rfl rfl (by rfl) (by decide)) (lenS fun x0 => lenS fun x1 => lenS fun x2 => len0 rfl) (by decide) (by left) ?_
 rintro hin
 simp only [argLoc]
 ac_rfl
 refine K_check_counts (by left) ?_
 ac_rfl
 refine C_check_counts (by lia) A1 A2 ?_
 ac_rfl
 refine E_meth ?_
 ac_rfl
 refine ⟨_, O_state_count, Kf_state_count, ?_⟩
 ac_rfl
 refine C_state_count (by lia) A2 ?_
 ac_rfl
 refine E_lstM ?_
 ac_rfl
 refine ⟨by simp, ?_⟩
 ac_rfl
 refine ⟨by simp, ?_⟩
 ac_rfl
 refine E_lstM ?_
 ac_rfl
 refine ⟨by simp, ?_⟩
 ac_rfl
 refine ⟨by simp, ?_⟩
 ac_rfl
 refine E_dictI1 ?_
 ac_rfl
 refine ⟨_, rfl, ?_⟩
 ac_rfl
 generalize hW : (r2.length : Int) + 1 = W
 have e0 : H ++ [AObj.list [V.tup [V.int 0, V.int 0]]] ++ [AObj.list [V.tup [V.int (-1), V.int (-1)]]] ++ [AObj.dictI [W + 1] [V.int 0]] = St H W [(0, 0)] [(-1, -1)] := by
  unfold St kf
  simp [pairV, idx]
 rw [e0, show (H ++ [AObj.list [V.tup [V.int 0, V.int 0]]]).length = H.length + 1 by simp, show (H ++ [AObj.list [V.tup [V.int 0, V.int 0]]] ++ [AObj.list [V.tup [V.int (-1), V.int (-1)]]]).length = H.length + 2 by simp]
 refine S_while 2700 (fun N m Hx => m ("one" : Str) = some (vdfa r1 t1) ∧ m ("other" : Str) = some (vdfa r2 t2) ∧ m ("is_within" : Str) = some (.bool false) ∧ m ("width" : Str) = some (.int W) ∧ m ("pairs" : Str) = some (.ref H.length) ∧ m ("froms" : Str) = some (.ref (H.length + 1)) ∧ m ("known" : Str) = some (.ref (H.length + 2)) ∧
   ∃ (ps fr : List (Int × Int)) (ws : List (List Int)) (a : Nat), Bfs w r1 t1 r2 t2 ps fr ws a 0 ∧ a ≤ ps.length ∧ N + a = 2700 ∧ m ("at" : Str) = some (.int a) ∧ Hx = St H W ps fr)
  ⟨(by bv_omega), (by bv_omega), (by bv_omega), (by bv_omega), (by bv_omega), (by bv_omega), (by bv_omega), _, _, _, 0, Bfs.init p1 p2, by simp, rfl, (by bv_omega), rfl⟩ ?_
 rintro N m Hx ⟨m1, m2, m3, m4, m5, m6, m7, ps, fr, ws, a, B, hal, hN, m8, rfl⟩
 have cnt := B.count h1 h2
 rw [hW] at cnt
 have l1 := B.lf
 have l2 := B.lw
 have s0 : ∀ {ps fr : List (Int × Int)}, (St H W ps fr)[H.length]? = some (.list (ps.map pairV)) := by unfold St; simp
 have s1 : ∀ {ps fr : List (Int × Int)}, (St H W ps fr)[H.length + 1]? = some (.list (fr.map pairV)) := fun {ps fr} => at_get rfl
 have s2 : ∀ {ps fr : List (Int × Int)}, (St H W ps fr)[H.length + 2]? = some (.dictI (ps.map (kf W)) (idx ps.length)) := fun {ps fr} => at_get rfl
 ac_rfl
 refine K_len (by left) ?_
 ac_rfl
 refine C_len (AsList.ref s0) (by simp; lia) ?_
 ac_rfl
 rw [List.length_map]
 split
 rotate_left
 ·rename_i hge
  have hge : ¬ a < ps.length := by simpa using hge
  have : a = ps.length := by lia
  subst this
  ac_rfl
  exact Ret.cut hin (by rw [St_len]; lia) (fun j hj => by unfold St; rw [List.getElem?_append_left hj]) rfl (h none fun u hu => B.none hw.1 u hu)
 ·rename_i hlt
  have hlt : a < ps.length := by simpa using hlt
  obtain ⟨⟨l, r⟩, ep, _⟩ := get_of_lt hlt
  obtain ⟨u, eu, _⟩ := get_of_lt (l := ws) (i := a) (by lia)
  have ok := B.ok a (l, r) u ep eu
  obtain ⟨okl, okr, oku, rl, rr⟩ := ok
  replace okl : At r1 l := okl
  replace okr : At r2 r := okr
  ac_rfl
  refine G_list s0 (by lia) (by lia) (a := pairV (l, r)) (by rw [List.getElem?_map, Int.toNat_natCast, ep]; rfl) ?_
  refine A_tup (by left) (by rfl) ?_
  simp only [putAll_c, putAll_n]
  ac_rfl
  refine K_tags_at (by left) ?_
  ac_rfl
  refine C_tags_at (by lia) A1 okl ?_
  ac_rfl
  refine K_tags_at (by left) ?_
  ac_rfl
  refine C_tags_at (by lia) A2 okr ?_
  ac_rfl
  refine P_ne (plain_vtag _) (plain_vtag _) ?_
  rintro b hb
  ac_rfl
  cases b with
  | true =>
   simp only [if_true]
   have hne : tagOf t1 l ≠ tagOf t2 r := fun e => (hb.mp rfl) (by rw [e])
   have hT : T r1 t1 0 u ≠ T r2 t2 0 u := by unfold T; rw [rl, rr]; exact hne
   ac_rfl
   refine E_lstM ?_
   ac_rfl
   refine ⟨by simp, ?_⟩
   rw [St_len]
   ac_rfl
   refine S_while a (fun N m Hx => m ("froms" : Str) = some (.ref (H.length + 1)) ∧ m ("word" : Str) = some (.ref (H.length + 3)) ∧ ∃ (v wd : List Int), ws[N]? = some v ∧ v ++ wd.reverse = u ∧ wd.length ≤ u.length ∧ wd.length + N ≤ a ∧ m ("at" : Str) = some (.int N) ∧ Hx = St H W ps fr ++ [il wd]) ⟨(by bv_omega), (by bv_omega), u, [], eu, by simp, by simp, by simp, (by bv_omega), rfl⟩ ?_
   clear m1 m2 m3 m4 m5 m6 m7 m8
   rintro N m Hx ⟨m1, m2, v, wd, ev, hvw, hwl, hwn, m3, rfl⟩
   obtain ⟨f, ef, _⟩ := get_of_lt (l := fr) (i := N) (by have := (gll ev); lia)
   have s3 : ∀ {wd}, (St H W ps fr ++ [il wd])[H.length + 3]? = some (il wd) := fun {wd} => by rw [← St_len (H := H) (W := W) (ps := ps) (fr := fr)]; exact List.getElem?_concat_length ..
   ac_rfl
   refine G_list St1 (by lia) (by lia) (a := pairV f) (by rw [List.getElem?_map, Int.toNat_natCast, ef]; rfl) ?_
   ac_rfl
   refine G_tup (xs := [.int f.1, .int f.2]) (by lia) (by lia) (a := .int f.1) rfl ?_
   ac_rfl
   by_cases hN0 : N = 0
   ·subst hN0
    rw [B.start.2.2] at ef; cases ef
    rw [B.start.2.1] at ev; cases ev
    simp only [List.nil_append] at hvw
    rw [if_neg (by decide)]
    ac_rfl
    refine E_meth ?_
    ac_rfl
    refine ⟨_, M_reverse s3, Kept.blt, ?_⟩
    ac_rfl
    refine C_reverse s3 (by simp; lia) ?_
    ac_rfl
    rw [← List.map_reverse, hvw]
    have hlast : ∀ x, (St H W ps fr ++ [il wd]).set (H.length + 3) x = H ++ [.list (ps.map pairV), .list (fr.map pairV), .dictI (ps.map (kf W)) (idx ps.length), x] := fun x => by
     unfold St
     rw [List.append_assoc, at_set]; rfl
    rw [hlast]
    refine Ret.drop hin (b := vrow u) (.list (by lia) (at_get rfl) (Rsvs.refl ..)) (within_vrow _ _) (h (some u) ⟨oku, hT, fun v hv hTv => B.least hw.1 eu v hv hTv⟩)
   ·obtain ⟨j, y, ej, hjN, ey, e⟩ := B.back N f v (by lia) ef ev
    rw [if_pos (by rw [ej]; simp)]
    ac_rfl
    refine E_meth ?_
    ac_rfl
    refine ⟨_, M_append s3, Kept.blt, ?_⟩
    ac_rfl
    refine G_list St1 (by lia) (by lia) (a := pairV f) (by rw [List.getElem?_map, Int.toNat_natCast, ef]; rfl) ?_
    ac_rfl
    refine G_tup (xs := [.int f.1, .int f.2]) (by lia) (by lia) (a := .int f.2) rfl ?_
    ac_rfl
    refine C_append s3 (by simp; lia) ?_
    rw [il_push]
    have hset : (St H W ps fr ++ [il wd]).set (H.length + 3) (.list ((wd ++ [f.2]).map V.int)) = St H W ps fr ++ [il (wd ++ [f.2])] := by
     rw [← St_len (H := H) (W := W) (ps := ps) (fr := fr), List.set_append_right _ _ (Nat.le_refl _), Nat.sub_self]; rfl
    rw [hset]
    ac_rfl
    refine G_list St1 (by lia) (by lia) (a := pairV f) (by rw [List.getElem?_map, Int.toNat_natCast, ef]; rfl) ?_
    ac_rfl
    refine G_tup (xs := [.int f.1, .int f.2]) (by lia) (by lia) (a := .int f.1) rfl ?_
    ac_rfl
    have hul : wd.length + 1 ≤ u.length := by
     have := congrArg List.length hvw
     rw [e] at this
     simp at this; lia
    exact ⟨j, hjN, (by bv_omega), (by bv_omega), y, wd ++ [f.2], ey, by rw [← hvw, e]; simp, by simpa using hul, by simp; lia, by rw [ej]; exact Loc.put_eq, rfl⟩
  | false =>
   have heq : tagOf t1 l = tagOf t2 r := by
    have : ¬ vtag (tagOf t1 l) ≠ vtag (tagOf t2 r) := fun q => by simpa using hb.mpr q
    exact vtag_inj (Classical.not_not.mp this)
   simp only [Bool.false_eq_true, if_false]
   ac_rfl
   refine S_forR ?_
   refine K_range (by left) ?_
   ac_rfl
   refine E_meth ?_
   ac_rfl
   refine ⟨_, O_class_count, Kf_class_count, ?_⟩
   ac_rfl
   refine C_class_count (by lia) A1 ?_
   ac_rfl
   refine C_range ?_
   refine ⟨_, rfl, by lia, by lia, fun c m Hx => m ("one" : Str) = some (vdfa r1 t1) ∧ m ("other" : Str) = some (vdfa r2 t2) ∧ m ("is_within" : Str) = some (.bool false) ∧ m ("width" : Str) = some (.int W) ∧ m ("pairs" : Str) = some (.ref H.length) ∧ m ("froms" : Str) = some (.ref (H.length + 1)) ∧ m ("known" : Str) = some (.ref (H.length + 2)) ∧
     m ("at" : Str) = some (.int a) ∧ m ("left" : Str) = some (.int l) ∧ m ("right" : Str) = some (.int r) ∧ ∃ (ps fr : List (Int × Int)) (ws : List (List Int)), Bfs w r1 t1 r2 t2 ps fr ws a c ∧ ps[a]? = some (l, r) ∧ ws[a]? = some u ∧ Hx = St H W ps fr, ⟨(by bv_omega), (by bv_omega), (by bv_omega), (by bv_omega), (by bv_omega), (by bv_omega), (by bv_omega), (by bv_omega), (by bv_omega), (by bv_omega), ps, fr, ws, B, ep, eu, rfl⟩, ?_, ?_⟩
   ·rintro m Hx ⟨m1, m2, m3, m4, m5, m6, m7, m8, m9, m10, ps, fr, ws, B, ep, eu, rfl⟩
    rw [Int.toNat_natCast] at B
    have := (gll ep)
    ac_rfl
    exact ⟨N - 1, by have := (B.count h1 h2).1; lia, (by bv_omega), (by bv_omega), (by bv_omega), (by bv_omega), (by bv_omega), (by bv_omega), (by bv_omega), ps, fr, ws, a + 1, B.up ep heq, by lia, by have := (B.count h1 h2).1; lia, (by bv_omega), rfl⟩
   ·rintro c m Hx hc ⟨m1, m2, m3, m4, m5, m6, m7, m8, m9, m10, ps, fr, ws, B, ep, eu, rfl⟩
    have cnt := B.count h1 h2
    rw [hW] at cnt
    have l1 := B.lf
    have g1 := A1.goal okl (c := (c : Nat)) (by lia) hc
    have g2 := A2.goal okr (c := (c : Nat)) (by lia) hc
    refine A_name (by left) ?_
    refine Ss.abs ?_
    rintro R hR
    ac_rfl
    refine K_goal_of (by left) ?_
    ac_rfl
    refine C_goal_of (by lia) A1 okl (by lia) hc ?_
    ac_rfl
    refine K_goal_of (by left) ?_
    ac_rfl
    refine C_goal_of (by lia) A2 okr (by lia) hc ?_
    ac_rfl
    refine P_mul (.of_right (by have := bits_le W; lia)) ?_
    ac_rfl
    have hk : (goalOf r1 l c + 1) * W + goalOf r2 r c + 1 = kf W (goalOf r1 l c, goalOf r2 r c) := rfl
    rw [hk]
    have hmem : kf W (goalOf r1 l c, goalOf r2 r c) ∈ ps.map (kf W) ↔ (goalOf r1 l c, goalOf r2 r c) ∈ ps := by
     constructor
     ·rintro q
      obtain ⟨p, hp, e⟩ := List.mem_map.mp q
      have := cnt.2 p hp
      have : p = (goalOf r1 l c, goalOf r2 r c) := kf_inj (by lia) (by have := g2.1; have := g2.2; show -1 ≤ goalOf r2 r c ∧ goalOf r2 r c + 1 < W; lia) e
      rw [← this]; exact hp
     ·intro q; exact List.mem_map.mpr ⟨_, q, rfl⟩
    refine P_notInI s2 ?_
    ac_rfl
    split
    ·rename_i hn
     have hn : (goalOf r1 l c, goalOf r2 r c) ∉ ps := fun q => by simpa using (show ¬ _ from by simpa using hn) (hmem.mpr q)
     have BN := B.new A1 A2 ep eu hc hn
     ac_rfl
     refine K_len (by left) ?_
     ac_rfl
     refine C_len (AsList.ref s0) (by simp; lia) ?_
     rw [List.length_map]
     ac_rfl
     refine U_dictI s2 (fun q => hn (hmem.mp q)) (by simp; lia) ?_
     have hs2 : (St H W ps fr).set (H.length + 2) (.dictI (ps.map (kf W) ++ [kf W (goalOf r1 l c, goalOf r2 r c)]) (idx ps.length ++ [V.int ps.length])) = H ++ [.list (ps.map pairV), .list (fr.map pairV), .dictI (ps.map (kf W) ++ [kf W (goalOf r1 l c, goalOf r2 r c)]) (idx ps.length ++ [V.int ps.length])] := at_set
     rw [hs2]
     ac_rfl
     refine E_meth ?_
     ac_rfl
     refine ⟨_, M_append (at_get (i := 0) rfl), Kept.blt, ?_⟩
     ac_rfl
     refine ⟨by simp, ?_⟩
     ac_rfl
     refine C_append (at_get (i := 0) rfl) (by simp; lia) ?_
     rw [at_set0]
     ac_rfl
     refine E_meth ?_
     ac_rfl
     refine ⟨_, M_append (at_get (i := 1) rfl), Kept.blt, ?_⟩
     ac_rfl
     refine ⟨by simp, ?_⟩
     ac_rfl
     refine C_append (at_get (i := 1) rfl) (by simp; lia) ?_
     rw [at_set]
     ac_rfl
     refine ⟨(by bv_omega), (by bv_omega), (by bv_omega), (by bv_omega), (by bv_omega), (by bv_omega), (by bv_omega), (by bv_omega), (by bv_omega), (by bv_omega), _, _, _, BN, get_left ep, get_left eu, ?_⟩
     unfold St
     rw [List.length_append, List.length_singleton, idx_succ, List.map_append, List.map_append, List.map_append]
     rfl
    ·rename_i hn
     have hn : (goalOf r1 l c, goalOf r2 r c) ∈ ps := hmem.mp (by simpa using hn)
     ac_rfl
     exact ⟨(by bv_omega), (by bv_omega), (by bv_omega), (by bv_omega), (by bv_omega), (by bv_omega), (by bv_omega), (by bv_omega), (by bv_omega), (by bv_omega), ps, fr, ws, B.old ep eu hn, ep, eu, rfl⟩
theorem C_difference {Q} (hd : d < 70) (A1 : Aut w r1 t1) (A2 : Aut w r2 t2) (h1 : r1.length ≤ 50) (h2 : r2.length ≤ 50) (h : ∀ r, FirstW w r1 t1 r2 t2 r → Q (wordV r) H) : Cl X.W d (.ref 335) [vdfa r1 t1, vdfa r2 t2] H Q := by
 have cX : True := trivial
 revert X d H w r1 t1 r2 t2 Q hd A1 A2 h1 h2 h
 rintro X d H w r1 t1 r2 t2 Q hd A1 A2 h1 h2 h
 have hd' := hd
 replace hd : d < 100 := by lia
 refine C_fn (ps := ["one", "other"]) hd (FnOk.of rfl (by kernel_rfl) rfl rfl rfl rfl rfl rfl rfl (by rfl) (by decide)) (lenS fun x0 => lenS fun x1 => len0 rfl) (by decide) (by left) ?_
 rintro hin
 simp only [argLoc]
 ac_rfl
 refine K_first_word (by left) ?_
 ac_rfl
 refine C_first_word (by lia) A1 A2 h1 h2 ?_
 rintro r hr
 exact Ret.keep (h r hr)
end
set_option tactic.hygienic false
section
variable {X : Wx} {d : Nat} {H H' : List AObj} {w : Nat} {rows tags : List (List Int)}
theorem Ret.cutR {H0 H' : List AObj} {Q : V → List AObj → Prop} {a b : V} {m : Loc} (hin : ∀ (k : Nat) (o : AObj), H0[k]? = some o → o.within H0.length = true) (lo : Lo H0 H') (hr : Rsv H0.length H' a b) (hw : b.within H0.length = true) (q : Q b H0) : Ret H0 Q (.ret a) m H' := by
 have e : H'.take H0.length = H0 := by
  apply List.ext_getElem?
  intro j
  by_cases hj : j < H0.length
  ·rw [List.getElem?_take, if_pos hj]; exact lo.2 j hj
  ·rw [List.getElem?_eq_none (by rw [List.length_take]; lia), List.getElem?_eq_none (by lia)]
 exact ⟨a, rfl, .inr ⟨b, H0.length, hr, hw, Nat.le_refl _, by rw [e]; exact hin, by rw [e]; exact q⟩⟩
set_option tactic.hygienic true in
theorem C_way_apart {q : Nat} {ks : List (List Int)} {xs : List V} {l h : Int} {Q} (hd : d < 90) (A : Full w rows tags) (hq : H[q]? = some (.dictT ks xs)) (l0 : 0 ≤ l) (l1 : l < rows.length) (h0 : 0 ≤ h) (h1 : h < rows.length) (k : ∀ c, Way w rows ks l h c → Q (.int c) H) :
  Cl X.W d (.ref 349) [vdfa rows tags, .ref q, .int l, .int h] H Q := by
 have cX : True := trivial
 revert X d H w rows tags q ks xs l h Q hd A hq l0 l1 h0 h1 k
 rintro X d H w rows tags q ks xs l h Q hd A hq l0 l1 h0 h1 k
 have hd' := hd
 replace hd : d < 100 := by lia
 have A0 := A.toAut
 have hw := A0.width
 have hsm := A0.small
 refine C_fn (ps := ["dfa", "words", "low", "high"]) hd (FnOk.of rfl (by kernel_rfl) rfl rfl rfl rfl rfl rfl rfl (by rfl) (by decide)) (lenS fun x0 => lenS fun x1 => lenS fun x2 => lenS fun x3 => len0 rfl) (by decide) (by left) ?_
 rintro hin
 simp only [argLoc]
 ac_rfl
 refine S_forR ?_
 refine K_range (by left) ?_
 ac_rfl
 refine E_meth ?_
 ac_rfl
 refine ⟨_, O_class_count, Kf_class_count, ?_⟩
 ac_rfl
 refine C_class_count (by lia) A0 ?_
 ac_rfl
 refine C_range ?_
 refine ⟨_, rfl, by lia, by lia, fun c m Hx => Hx = H ∧ Has m ["dfa", "words", "low", "high"] [(vdfa rows tags), (.ref q), (.int l), (.int h)] ∧ ∀ x : Int, 0 ≤ x → x < c → kpr (goalOf rows l x) (goalOf rows h x) ∉ ks, ⟨rfl, (by first | ((repeat refine Has.put (by left) ?_); assumption) | ((repeat refine Has.cons (by bv_omega) ?_); exact Has.nil)), fun x x0 x1 => by lia⟩, ?_, ?_⟩
 ·rintro m Hx ⟨rfl, _, hn⟩
  ac_rfl
  exact Ret.keep (k (-1) (.inl ⟨rfl, fun x x0 x1 => hn x x0 (by rw [Int.toNat_natCast]; exact x1)⟩))
 ·rintro c m Hx hc ⟨rfl, mH, hn⟩
  obtain ⟨r1, er1, hl1, hg1⟩ := A0.rowAt l0 l1
  obtain ⟨g1, eg1, _⟩ := get_of_lt (l := r1) (i := c) (by lia)
  obtain ⟨r2, er2, hl2, hg2⟩ := A0.rowAt h0 h1
  obtain ⟨g2, eg2, _⟩ := get_of_lt (l := r2) (i := c) (by lia)
  have e1 : goalOf rows l (c : Nat) = g1 := by unfold goalOf; rw [if_neg (by lia), getD_of er1, Int.toNat_natCast, getD_of eg1]
  have e2 : goalOf rows h (c : Nat) = g2 := by unfold goalOf; rw [if_neg (by lia), getD_of er2, Int.toNat_natCast, getD_of eg2]
  refine A_name (by left) ?_
  refine Ss.abs ?_
  rintro R hR
  ac_rfl
  refine K_pair_key (by left) ?_
  ac_rfl
  refine G_lst l0 (by lia) (map_get er1) ?_
  ac_rfl
  refine G_lst (by lia) (by lia) (a := .int g1) (by rw [List.getElem?_map, Int.toNat_natCast, eg1]; rfl) ?_
  ac_rfl
  refine G_lst h0 (by lia) (map_get er2) ?_
  ac_rfl
  refine G_lst (by lia) (by lia) (a := .int g2) (by rw [List.getElem?_map, Int.toNat_natCast, eg2]; rfl) ?_
  ac_rfl
  refine C_pair_key (by lia) ?_
  ac_rfl
  refine P_inT (i := kpr g1 g2) hq ?_
  ac_rfl
  split
  ·rename_i hm
   have hm : kpr g1 g2 ∈ ks := by simpa using hm
   ac_rfl
   exact Ret.keep (k _ (.inr ⟨by lia, hc, by rw [e1, e2]; exact hm⟩))
  ·rename_i hm
   have hm : kpr g1 g2 ∉ ks := by simpa using hm
   ac_rfl
   refine ⟨rfl, (by first | ((repeat refine Has.put (by left) ?_); assumption) | ((repeat refine Has.cons (by bv_omega) ?_); exact Has.nil)), fun x x0 x1 => ?_⟩
   by_cases z : x = c
   ·rw [z, e1, e2]; exact hm
   ·exact hn x x0 (by lia)
noncomputable def fv (q : (Int × Int) × List Int) : V := .tup [.int q.1.1, .int q.1.2, vrow q.2]
set_option tactic.hygienic true in
theorem C_words_apart {Q} (hd : d < 70) (A0 : Aut w rows tags) (hn : rows.length ≤ 40) (hdf : ∀ i j : Nat, i < rows.length → j < rows.length → i ≠ j → Diff w rows tags i j)
  (h : ∀ us : List (List Int), us.length = (prs rows.length).length → (∀ (i : Nat) p u, (prs rows.length)[i]? = some p → us[i]? = some u → Best w rows tags p.1 p.2 u) → Q (.dct ((prs rows.length).map fun p => [p.1, p.2]) (us.map vrow)) H) : Cl X.W d (.ref 356) [vdfa rows tags] H Q := by
 have cX : True := trivial
 revert X d H w rows tags Q hd A0 hn hdf h
 rintro X d H w rows tags Q hd A0 hn hdf h
 have hd' := hd
 replace hd : d < 100 := by lia
 have F := A0.full (by lia)
 have FA := F.toAut
 have hfl := cRows_len (w := w) (rows := rows)
 have hN : (cRows w rows).length ≤ 41 := by split at hfl <;> lia
 have hN2 : rows.length ≤ (cRows w rows).length := by lia
 refine C_fn (ps := ["dfa"]) hd (FnOk.of rfl (by kernel_rfl) rfl rfl rfl rfl rfl rfl rfl (by rfl) (by decide)) (lenS fun x0 => len0 rfl) (by decide) (by left) ?_
 rintro hin
 simp only [argLoc]
 ac_rfl
 refine K_completed (by left) ?_
 ac_rfl
 refine C_completed (by lia) A0 ?_
 ac_rfl
 refine E_dictT0 ?_
 ac_rfl
 refine E_lstM ?_
 ac_rfl
 refine ⟨by simp, ?_⟩
 ac_rfl
 have e0 : H ++ [AObj.dictT [] []] ++ [AObj.list []] = H ++ [AObj.dictT [] ((List.replicate ([] : List (List Int)).length ([] : List Int)).map vrow), AObj.list (([] : List (Int × Int)).map pairV)] := by simp
 rw [e0, show (H ++ [AObj.dictT [] []]).length = H.length + 1 by simp]
 have hCw : ∀ s : Int, 0 ≤ s → s < (cRows w rows).length → ∃ t, (cTags rows tags)[s.toNat]? = some t ∧ tagOf (cTags rows tags) s = t := fun s s0 s1 => by
  obtain ⟨t, et, _⟩ := FA.tagAt s0 s1
  exact ⟨t, et, by unfold tagOf; rw [if_neg (by lia), getD_of et]⟩
 refine X_mid (fun m Hx => Has m ["dfa", "whole", "words", "waiting"] [(vdfa rows tags), (vdfa (cRows w rows) (cTags rows tags)), (.ref H.length), (.ref (H.length + 1))] ∧ ∃ ks wt, Ph1 (cTags rows tags) (cRows w rows).length 0 ks wt ∧ Hx = H ++ [.dictT ks ((List.replicate ks.length ([] : List Int)).map vrow), .list (wt.map pairV)]) ?_ ?_
 ·refine S_forR ?_
  refine K_range (by left) ?_
  ac_rfl
  refine E_meth ?_
  ac_rfl
  refine ⟨_, O_state_count, Kf_state_count, ?_⟩
  ac_rfl
  refine C_state_count (by lia) FA ?_
  ac_rfl
  refine C_range ?_
  refine ⟨_, rfl, by lia, by lia, fun hh m Hx => Has m ["dfa", "whole", "words", "waiting"] [(vdfa rows tags), (vdfa (cRows w rows) (cTags rows tags)), (.ref H.length), (.ref (H.length + 1))] ∧ ∃ ks wt, Ph1 (cTags rows tags) hh 0 ks wt ∧ Hx = H ++ [.dictT ks ((List.replicate ks.length ([] : List Int)).map vrow), .list (wt.map pairV)],
   ⟨(by first | ((repeat refine Has.put (by left) ?_); assumption) | ((repeat refine Has.cons (by bv_omega) ?_); exact Has.nil)), [], [], Ph1.start, rfl⟩, ?_, ?_⟩
  ·rintro m Hx ⟨mH, ks, wt, P, rfl⟩
   rw [Int.toNat_natCast] at P
   exact ⟨rfl, (by first | ((repeat refine Has.put (by left) ?_); assumption) | ((repeat refine Has.cons (by bv_omega) ?_); exact Has.nil)), ks, wt, P, rfl⟩
  ·rintro hh m Hx hhi ⟨mH, ks, wt, P, rfl⟩
   refine A_name (by left) ?_
   refine Ss.abs ?_
   rintro R hR
   ac_rfl
   refine S_forR ?_
   refine K_range (by left) ?_
   ac_rfl
   refine C_range ?_
   refine ⟨_, rfl, by lia, by lia, fun ll m Hx => Has m ["dfa", "whole", "words", "waiting", "high"] [(vdfa rows tags), (vdfa (cRows w rows) (cTags rows tags)), (.ref H.length), (.ref (H.length + 1)), (.int (hh : Nat))] ∧ ∃ ks wt, Ph1 (cTags rows tags) hh ll ks wt ∧ Hx = H ++ [.dictT ks ((List.replicate ks.length ([] : List Int)).map vrow), .list (wt.map pairV)],
    ⟨(by first | ((repeat refine Has.put (by left) ?_); assumption) | ((repeat refine Has.cons (by bv_omega) ?_); exact Has.nil)), ks, wt, P, rfl⟩, ?_, ?_⟩
   ·rintro m Hx ⟨mH, ks, wt, P, rfl⟩
    rw [Int.toNat_natCast] at P
    ac_rfl
    exact ⟨(by first | ((repeat refine Has.put (by left) ?_); assumption) | ((repeat refine Has.cons (by bv_omega) ?_); exact Has.nil)), ks, wt, P.up (by lia), rfl⟩
   ·rintro ll m Hx hli ⟨mH, ks, wt, P, rfl⟩
    have cnt := P.cnt
    obtain ⟨ta, eta, ea⟩ := hCw (ll : Nat) (by lia) (by lia)
    obtain ⟨tb, etb, eb⟩ := hCw (hh : Nat) (by lia) (by lia)
    refine A_name (by left) ?_
    refine Ss.abs ?_
    rintro R hR
    ac_rfl
    refine G_lst (by lia) (by lia) (map_get eta) ?_
    ac_rfl
    refine G_lst (by lia) (by lia) (map_get etb) ?_
    refine P_ne (plain_vtag _) (plain_vtag _) ?_
    rintro b hb
    ac_rfl
    cases b with
    | true =>
     simp only [if_true]
     have hne : tagOf (cTags rows tags) (ll : Nat) ≠ tagOf (cTags rows tags) (hh : Nat) := fun e => (hb.mp rfl) (by rw [← ea, ← eb, e])
     have PT := P.tell (by lia) hne
     ac_rfl
     refine E_lstF ?_
     ac_rfl
     refine ⟨by simp, ?_⟩
     ac_rfl
     refine ⟨by simp, ?_⟩
     refine U_dictT (i := [(ll : Int), (hh : Int)]) two0 PT.1 (by lia) ?_
     rw [two_set0]
     ac_rfl
     refine ⟨(by first | ((repeat refine Has.put (by left) ?_); assumption) | ((repeat refine Has.cons (by bv_omega) ?_); exact Has.nil)), _, wt, PT.2, ?_⟩
     rw [List.length_append, List.length_singleton, List.replicate_succ', List.map_append]; rfl
    | false =>
     simp only [Bool.false_eq_true, if_false]
     have heq : tagOf (cTags rows tags) (ll : Nat) = tagOf (cTags rows tags) (hh : Nat) := by
      have : ¬ vtag ta ≠ vtag tb := fun q => by simpa using hb.mpr q
      rw [ea, eb]; exact vtag_inj (Classical.not_not.mp this)
     ac_rfl
     refine E_meth ?_
     ac_rfl
     refine ⟨_, M_append two1, Kept.blt, ?_⟩
     ac_rfl
     refine ⟨by simp, ?_⟩
     ac_rfl
     refine C_append two1 (by simp; lia) ?_
     rw [two_set1]
     ac_rfl
     exact ⟨(by first | ((repeat refine Has.put (by left) ?_); assumption) | ((repeat refine Has.cons (by bv_omega) ?_); exact Has.nil)), ks, _, P.same (by lia) heq, by simp [pairV]⟩
 ·rintro m Hx ⟨mH, ks, wt, P, rfl⟩
  have P0 := P.done (w := w) (rows := cRows w rows)
  have pcnt := P.cnt
  ac_rfl
  refine X_mid (fun m Hx => Has m ["dfa", "words"] [(vdfa rows tags), (.ref H.length)] ∧ ∃ (k : Nat) (ks ws : List (List Int)) (wt : List (Int × Int)), WaI w (cRows w rows) (cTags rows tags) k ks ws wt ∧ Hx[H.length]? = some (.dictT ks (ws.map vrow)) ∧ Lo H Hx ∧ ∀ l h : Int, 0 ≤ l → l < (cRows w rows).length → 0 ≤ h → h < (cRows w rows).length → Diff w (cRows w rows) (cTags rows tags) l h → Dk w (cRows w rows) (cTags rows tags) k l h) ?_ ?_
  ·refine S_while (wt.length + 1) (fun N m Hx => Has m ["dfa", "whole", "words"] [(vdfa rows tags), (vdfa (cRows w rows) (cTags rows tags)), (.ref H.length)] ∧ ∃ (k q : Nat) (ks ws : List (List Int)) (wt : List (Int × Int)) (b : Bool), WaI w (cRows w rows) (cTags rows tags) k ks ws wt ∧ Hx[H.length]? = some (.dictT ks (ws.map vrow)) ∧ Lo H Hx ∧ m ("waiting" : Str) = some (.ref q) ∧ H.length < q ∧ Hx[q]? = some (.list (wt.map pairV)) ∧ m ("is_growing" : Str) = some (.bool b) ∧ ks.length + wt.length ≤ 2100 ∧ (b = true → k + wt.length ≤ 2100) ∧
     N = (if b = true then wt.length + 1 else 0) ∧ (b = false → ∀ l h : Int, 0 ≤ l → l < (cRows w rows).length → 0 ≤ h → h < (cRows w rows).length → Diff w (cRows w rows) (cTags rows tags) l h → Dk w (cRows w rows) (cTags rows tags) k l h))
    ⟨(by first | ((repeat refine Has.put (by left) ?_); assumption) | ((repeat refine Has.cons (by bv_omega) ?_); exact Has.nil)), 0, H.length + 1, ks, _, wt, true, P0, two0, ⟨by simp, fun j hj => by rw [List.getElem?_append_left hj]⟩, (by bv_omega), by lia, two1, (by bv_omega), by lia, (fun za => by lia), rfl, (fun q => by cases q)⟩ ?_
   clear P P0 pcnt mH
   rintro N m Hx ⟨mH, k, q, ks, ws, wt, b, I, g, lo, m4, hq, gq, m5, hc, hkb, hN, hst⟩
   ac_rfl
   cases b with
   | false =>
    simp only [Bool.false_eq_true, if_false]
    exact ⟨trivial, (by first | ((repeat refine Has.put (by left) ?_); assumption) | ((repeat refine Has.cons (by bv_omega) ?_); exact Has.nil)), k, ks, ws, wt, I, g, lo, hst rfl⟩
   | true =>
    simp only [if_true] at hN ⊢
    have hql := (gll gq)
    ac_rfl
    refine E_lstM ?_
    ac_rfl
    refine ⟨by simp, ?_⟩
    ac_rfl
    refine E_lstM ?_
    ac_rfl
    refine ⟨by simp, ?_⟩
    ac_rfl
    rw [List.length_append, List.append_assoc, List.length_singleton, List.singleton_append]
    generalize hL : Hx.length = L at *
    have g1 : (Hx ++ [AObj.list [], AObj.list []])[H.length]? = some (.dictT ks (ws.map vrow)) := get_left g
    have gq1 : (Hx ++ [AObj.list [], AObj.list []])[q]? = some (.list (wt.map pairV)) := get_left gq
    have lo1 : Lo H (Hx ++ [AObj.list [], AObj.list []]) := lo.add
    have gf1 : (Hx ++ [AObj.list [], AObj.list []])[L]? = some (.list (([] : List ((Int × Int) × List Int)).map fv)) := by rw [← hL]; exact two0
    have gs1 : (Hx ++ [AObj.list [], AObj.list []])[L + 1]? = some (.list (([] : List (Int × Int)).map pairV)) := by rw [← hL]; exact two1
    generalize Hx ++ [AObj.list [], AObj.list []] = Hy at *
    refine X_mid (fun m Hz => Has m ["dfa", "whole", "words", "found", "still"] [(vdfa rows tags), (vdfa (cRows w rows) (cTags rows tags)), (.ref H.length), (.ref L), (.ref (L + 1))] ∧ ∃ fs st, Rnd w (cRows w rows) (cTags rows tags) k wt wt.length fs st ∧ Lo H Hz ∧ Hz[H.length]? = some (.dictT ks (ws.map vrow)) ∧ Hz[L]? = some (.list (fs.map fv)) ∧ Hz[L + 1]? = some (.list (st.map pairV))) ?_ ?_
    ·refine S_forK ?_
     ac_rfl
     refine ⟨q, wt.map pairV, rfl, fun i m Hz => Has m ["dfa", "whole", "words", "found", "still"] [(vdfa rows tags), (vdfa (cRows w rows) (cTags rows tags)), (.ref H.length), (.ref L), (.ref (L + 1))] ∧ ∃ fs st, Rnd w (cRows w rows) (cTags rows tags) k wt i fs st ∧ Lo H Hz ∧ Hz[H.length]? = some (.dictT ks (ws.map vrow)) ∧ Hz[q]? = some (.list (wt.map pairV)) ∧ Hz[L]? = some (.list (fs.map fv)) ∧ Hz[L + 1]? = some (.list (st.map pairV)),
      ⟨(by first | ((repeat refine Has.put (by left) ?_); assumption) | ((repeat refine Has.cons (by bv_omega) ?_); exact Has.nil)), [], [], Rnd.start, lo1, g1, gq1, gf1, gs1⟩, ?_, ?_, ?_⟩
     ·rintro i m Hz ⟨_, fs, st, R, lo, g, gq, gf, gs⟩; exact gq
     ·rintro m Hz ⟨mH, fs, st, R, lo, g, gq, gf, gs⟩
      rw [List.length_map] at R
      exact ⟨rfl, (by first | ((repeat refine Has.put (by left) ?_); assumption) | ((repeat refine Has.cons (by bv_omega) ?_); exact Has.nil)), fs, st, R, lo, g, gf, gs⟩
     ·rintro i a m Hz e ⟨mH, fs, st, R, lo, g, gq, gf, gs⟩
      rw [List.getElem?_map] at e
      obtain ⟨⟨l, h⟩, ep, rfl⟩ := Option.map_eq_some_iff.mp e
      have hp := List.mem_of_getElem? ep
      obtain ⟨l0, lh, h1, ndk⟩ := (I.wts _).mp hp
      replace l0 : 0 ≤ l := l0
      replace lh : l < h := lh
      replace h1 : h < (cRows w rows).length := h1
      have rl := R.len
      have hi := (gll ep)
      refine A_tup (by left) (by rfl) ?_
      simp only [putAll_c, putAll_n]
      ac_rfl
      refine K_way_apart (by left) ?_
      ac_rfl
      refine C_way_apart (by lia) F g l0 (by lia) (by lia) h1 ?_
      rintro c hc
      ac_rfl
      rcases hc with ⟨rfl, hno⟩ | ⟨c0, c1, hkey⟩
      ·rw [if_pos (by decide)]
       ac_rfl
       refine E_meth ?_
       ac_rfl
       refine ⟨_, M_append gs, Kept.blt, ?_⟩
       ac_rfl
       refine ⟨by simp, ?_⟩
       ac_rfl
       refine C_append gs (by simp; lia) ?_
       ac_rfl
       exact ⟨(by first | ((repeat refine Has.put (by left) ?_); assumption) | ((repeat refine Has.cons (by bv_omega) ?_); exact Has.nil)), fs, st ++ [(l, h)], R.still I.wnd ep (I.no F hp hno), lo.set (by have := lo.1; lia), seti (by lia) g, seti (by lia) gq, seti (by lia) gf, by rw [setj gs]; simp [pairV]⟩
      ·rw [if_neg (by simp; lia)]
       obtain ⟨j, ej⟩ := List.mem_iff_getElem?.mp hkey
       have hj := (gll ej)
       obtain ⟨u, eu, _⟩ := get_of_lt (l := ws) (i := j) (by rw [I.len]; exact hj)
       have Y := I.yes F hp c0 c1 ej eu
       obtain ⟨ra, era, hla, _⟩ := FA.rowAt (s := l) l0 (by lia)
       obtain ⟨ga, ega, _⟩ := get_of_lt (l := ra) (i := c.toNat) (by lia)
       obtain ⟨rb, erb, hlb, _⟩ := FA.rowAt (s := h) (by lia) h1
       obtain ⟨gb, egb, _⟩ := get_of_lt (l := rb) (i := c.toNat) (by lia)
       have ea : goalOf (cRows w rows) l c = ga := by unfold goalOf; rw [if_neg (by lia), getD_of era, getD_of ega]
       have eb : goalOf (cRows w rows) h c = gb := by unfold goalOf; rw [if_neg (by lia), getD_of erb, getD_of egb]
       rw [ea, eb] at ej
       have hw := A0.width
       ac_rfl
       refine K_pair_key (by left) ?_
       ac_rfl
       refine G_lst l0 (by lia) (map_get era) ?_
       ac_rfl
       refine G_lst c0 (by lia) (a := .int ga) (by rw [List.getElem?_map, ega]; rfl) ?_
       ac_rfl
       refine G_lst (by lia) (by lia) (map_get erb) ?_
       ac_rfl
       refine G_lst c0 (by lia) (a := .int gb) (by rw [List.getElem?_map, egb]; rfl) ?_
       ac_rfl
       refine C_pair_key (by lia) ?_
       ac_rfl
       refine E_meth ?_
       ac_rfl
       refine ⟨_, M_append gf, Kept.blt, ?_⟩
       ac_rfl
       refine E_lstF ?_
       ac_rfl
       refine ⟨by simp, ?_⟩
       ac_rfl
       refine G_dictT (i := kpr ga gb) g ej (by rw [List.getElem?_map, eu]; rfl) ?_
       refine P_addL true AsList.lst AsList.lst ?_ ?_
       ·obtain ⟨v, hv, hvl, hvT⟩ := Y.2
        have := Y.1.2.2 v hv hvT
        have := hkb rfl
        simp at *
        lia
       simp only [cpOut, if_true]
       ac_rfl
       refine ⟨by simp, ?_⟩
       ac_rfl
       refine C_append gf (by simp; lia) ?_
       ac_rfl
       exact ⟨(by first | ((repeat refine Has.put (by left) ?_); assumption) | ((repeat refine Has.cons (by bv_omega) ?_); exact Has.nil)), fs ++ [((l, h), c :: u)], st, R.found I.wnd ep Y.1 Y.2, lo.set (by have := lo.1; lia), seti (by lia) g, seti (by lia) gq, by rw [setj gf]; simp [fv, vrow], seti (by lia) gs⟩
    ·rintro m Hz ⟨mH, fs, st, R, lo, g, gf, gs⟩
     have RD := I.round R
     have rl := R.len
     have hHl := lo.1
     ac_rfl
     refine X_mid (fun m Hz => Has m ["dfa", "whole", "words", "found", "still"] [(vdfa rows tags), (vdfa (cRows w rows) (cTags rows tags)), (.ref H.length), (.ref L), (.ref (L + 1))] ∧ Lo H Hz ∧ Hz[H.length]? = some (.dictT (ks ++ fs.map fk) ((ws ++ fs.map (·.2)).map vrow)) ∧ Hz[L]? = some (.list (fs.map fv)) ∧ Hz[L + 1]? = some (.list (st.map pairV))) ?_ ?_
     ·refine S_forK ?_
      ac_rfl
      refine ⟨L, fs.map fv, rfl, fun j m Hz => Has m ["dfa", "whole", "words", "found", "still"] [(vdfa rows tags), (vdfa (cRows w rows) (cTags rows tags)), (.ref H.length), (.ref L), (.ref (L + 1))] ∧ Lo H Hz ∧ Hz[H.length]? = some (.dictT (ks ++ (fs.take j).map fk) ((ws ++ (fs.take j).map (·.2)).map vrow)) ∧ Hz[L]? = some (.list (fs.map fv)) ∧ Hz[L + 1]? = some (.list (st.map pairV)),
       ⟨(by first | ((repeat refine Has.put (by left) ?_); assumption) | ((repeat refine Has.cons (by bv_omega) ?_); exact Has.nil)), lo, by simpa using g, gf, gs⟩, ?_, ?_, ?_⟩
      ·rintro j m Hz ⟨_, _, _, gf, _⟩; exact gf
      ·rintro m Hz ⟨mH, lo, g, gf, gs⟩
       rw [List.length_map, List.take_length] at g
       exact ⟨rfl, (by first | ((repeat refine Has.put (by left) ?_); assumption) | ((repeat refine Has.cons (by bv_omega) ?_); exact Has.nil)), lo, g, gf, gs⟩
      ·rintro j a m Hz e ⟨mH, lo, g, gf, gs⟩
       rw [List.getElem?_map] at e
       obtain ⟨⟨⟨l, h⟩, u⟩, ep, rfl⟩ := Option.map_eq_some_iff.mp e
       have hj := (gll ep)
       have hnew : [l, h] ∉ ks ++ (fs.take j).map fk := fun q => by
        obtain ⟨x, ex⟩ := List.mem_iff_getElem?.mp q
        have hx := (gll ex)
        rw [List.length_append, List.length_map, List.length_take] at hx
        have e1 : (ks ++ fs.map fk)[x]? = some [l, h] := by
         have : (ks ++ (fs.take j).map fk) ++ (fs.drop j).map fk = ks ++ fs.map fk := by rw [List.append_assoc, ← List.map_append, List.take_append_drop]
         rw [← this]; exact get_left ex
        have e2 : (ks ++ fs.map fk)[ks.length + j]? = some [l, h] := by
         rw [List.getElem?_append_right (Nat.le_add_right _ _), Nat.add_sub_cancel_left, List.getElem?_map, ep]; rfl
        have := nodup_inj RD.1.nd e1 e2
        lia
       refine A_tup (by left) (by rfl) ?_
       simp only [putAll_c, putAll_n]
       ac_rfl
       refine ⟨by simp, ?_⟩
       refine U_dictT (i := [l, h]) g hnew (by simp; lia) ?_
       ac_rfl
       refine ⟨(by first | ((repeat refine Has.put (by left) ?_); assumption) | ((repeat refine Has.cons (by bv_omega) ?_); exact Has.nil)), lo.set (Nat.le_refl _), ?_, seti (by lia) gf, seti (by lia) gs⟩
       rw [setj g, List.take_add_one, ep]
       simp [fk]
     ·clear g gf gs lo
      rintro m Hz ⟨mH, lo, g, gf, gs⟩
      ac_rfl
      refine K_len (by left) ?_
      ac_rfl
      refine C_len (AsList.ref gf) (by simp; lia) ?_
      ac_rfl
      rw [List.length_map]
      refine ⟨if decide ((fs.length : Int) > 0) = true then st.length + 1 else 0, ?_, (by first | ((repeat refine Has.put (by left) ?_); assumption) | ((repeat refine Has.cons (by bv_omega) ?_); exact Has.nil)), k + 1, L + 1, _, _, st, decide ((fs.length : Int) > 0), RD.1, g, lo, (by bv_omega), by lia, gs, (by bv_omega), ?_, ?_, rfl, ?_⟩
      ·have := RD.2
       split
       ·rename_i q
        have q : 0 < fs.length := by simpa using q
        lia
       ·lia
      ·have := RD.2
       simp; lia
      ·rintro q
       have q : 0 < fs.length := by simpa using q
       have := RD.2
       have := hkb rfl
       lia
      ·rintro q
       have q : fs = [] := by
        have : ¬ 0 < fs.length := by simpa using q
        exact List.length_eq_zero_iff.mp (by lia)
       subst q
       rintro l h l0 l1 h0 h1 dd
       obtain ⟨v, a, b, c⟩ := I.last F R l h l0 l1 h0 h1 dd
       exact ⟨v, a, by lia, c⟩
  ·clear P P0 pcnt mH
   rintro m Hx ⟨mH, k, ks, ws, wt, I, g, lo, st⟩
   have hHl := lo.1
   have hall : ∀ a b : Nat, a < b → b < rows.length → ∃ (j : Nat) (u : List Int), ks[j]? = some [(a : Int), (b : Int)] ∧ ws[j]? = some u ∧ Best w rows tags a b u := fun a b hab hb => by
    obtain ⟨u, hu, hT⟩ := hdf a b (by lia) hb (by lia)
    have tr : ∀ (s : Nat) v, s < rows.length → WordOk w v → T (cRows w rows) (cTags rows tags) s v = T rows tags s v := fun s v hs hv => cRows_T A0 v s (by lia) (by lia) hv
    have D := st a b (by lia) (by lia) (by lia) (by lia) ⟨u, hu, by rw [tr a u (by lia) hu, tr b u hb hu]; exact hT⟩
    have hm := (I.keys [(a : Int), (b : Int)]).mpr ⟨a, b, rfl, by lia, by lia, by lia, D⟩
    obtain ⟨j, ej⟩ := List.mem_iff_getElem?.mp hm
    obtain ⟨v, ev, _⟩ := get_of_lt (l := ws) (i := j) (by rw [I.len]; exact (gll ej))
    have B := I.word j _ _ v ej ev
    refine ⟨j, v, ej, ev, B.1, ?_, fun y hy hyT => B.2.2 y hy (by rw [tr a y (by lia) hy, tr b y hb hy]; exact hyT)⟩
    have := B.2.1
    rwa [tr a v (by lia) B.1, tr b v hb B.1] at this
   ac_rfl
   refine E_dictT0 ?_
   generalize hL : Hx.length = L at *
   have g1 : (Hx ++ [AObj.dictT [] []])[H.length]? = some (.dictT ks (ws.map vrow)) := get_left g
   have lo1 : Lo H (Hx ++ [AObj.dictT [] []]) := lo.add
   have gt1 : (Hx ++ [AObj.dictT [] []])[L]? = some (.dictT ((prs 0).map fun p => [p.1, p.2]) (([] : List (List Int)).map vrow)) := by rw [← hL]; exact List.getElem?_concat_length ..
   generalize Hx ++ [AObj.dictT [] []] = Hy at *
   have hLH : H.length ≠ L := by
    have := (gll g)
    lia
   ac_rfl
   refine S_forR ?_
   refine K_range (by left) ?_
   ac_rfl
   refine E_meth ?_
   ac_rfl
   refine ⟨_, O_state_count, Kf_state_count, ?_⟩
   ac_rfl
   refine C_state_count (by lia) A0 ?_
   ac_rfl
   refine C_range ?_
   refine ⟨_, rfl, by lia, by lia, fun hh m Hy => Has m ["words", "told_apart"] [(.ref H.length), (.ref L)] ∧ Hy[H.length]? = some (.dictT ks (ws.map vrow)) ∧ Lo H Hy ∧ ∃ us : List (List Int), us.length = (prs hh).length ∧ (∀ (i : Nat) p u, (prs hh)[i]? = some p → us[i]? = some u → Best w rows tags p.1 p.2 u) ∧ Hy[L]? = some (.dictT ((prs hh).map fun p => [p.1, p.2]) (us.map vrow)),
    ⟨(by first | ((repeat refine Has.put (by left) ?_); assumption) | ((repeat refine Has.cons (by bv_omega) ?_); exact Has.nil)), g1, lo1, [], rfl, (fun i p u e => by simp [prs] at e), gt1⟩, ?_, ?_⟩
   ·rintro m Hy ⟨mH, g, lo, us, u1, u2, gt⟩
    rw [Int.toNat_natCast] at u1 u2 gt
    ac_rfl
    refine Ret.cutR hin lo (.dictT (by lia) gt (Rsvs.refl ..)) ?_ (h us u1 u2)
    exact withins_all fun x q => by obtain ⟨i, _, rfl⟩ := List.mem_map.mp q; exact within_vrow _ i
   ·rintro hh m Hy hhi ⟨mH, g, lo, us, u1, u2, gt⟩
    refine A_name (by left) ?_
    refine Ss.abs ?_
    rintro R hR
    ac_rfl
    refine S_forR ?_
    refine K_range (by left) ?_
    ac_rfl
    refine C_range ?_
    refine ⟨_, rfl, by lia, by lia, fun ll m Hy => Has m ["words", "told_apart", "high"] [(.ref H.length), (.ref L), (.int (hh : Nat))] ∧ Hy[H.length]? = some (.dictT ks (ws.map vrow)) ∧ Lo H Hy ∧ ∃ us : List (List Int), us.length = (pl hh ll).length ∧ (∀ (i : Nat) p u, (pl hh ll)[i]? = some p → us[i]? = some u → Best w rows tags p.1 p.2 u) ∧ Hy[L]? = some (.dictT ((pl hh ll).map fun p => [p.1, p.2]) (us.map vrow)),
     ⟨(by first | ((repeat refine Has.put (by left) ?_); assumption) | ((repeat refine Has.cons (by bv_omega) ?_); exact Has.nil)), g, lo, us, by rw [pl_zero]; exact u1, by rw [pl_zero]; exact u2, by rw [pl_zero]; exact gt⟩, ?_, ?_⟩
    ·rintro m Hy ⟨mH, g, lo, us, u1, u2, gt⟩
     rw [Int.toNat_natCast, pl_full] at u1 u2 gt
     ac_rfl
     exact ⟨(by first | ((repeat refine Has.put (by left) ?_); assumption) | ((repeat refine Has.cons (by bv_omega) ?_); exact Has.nil)), g, lo, us, u1, u2, gt⟩
    ·rintro ll m Hy hli ⟨mH, g, lo, us, u1, u2, gt⟩
     obtain ⟨j, u, ej, eu, B⟩ := hall ll hh (by lia) (by lia)
     have hpl : (pl hh ll).length ≤ 10000 := by
      have := prs_len hh
      have h2 : hh * hh ≤ 50 * 50 := Nat.mul_le_mul (by lia) (by lia)
      unfold pl
      rw [List.length_append, List.length_map, List.length_range]; lia
     refine A_name (by left) ?_
     refine Ss.abs ?_
     rintro R hR
     ac_rfl
     refine ⟨by simp, ?_⟩
     ac_rfl
     refine P_inT (i := [(ll : Int), (hh : Int)]) g ?_
     ac_rfl
     rw [if_pos (by simpa using List.mem_of_getElem? ej)]
     ac_rfl
     refine ⟨by simp, ?_⟩
     refine G_dictT (i := [(ll : Int), (hh : Int)]) g ej (by rw [List.getElem?_map, eu]; rfl) ?_
     ac_rfl
     refine ⟨by simp, ?_⟩
     refine U_dictT (i := [(ll : Int), (hh : Int)]) gt pl_new (by simp; lia) ?_
     ac_rfl
     refine ⟨(by first | ((repeat refine Has.put (by left) ?_); assumption) | ((repeat refine Has.cons (by bv_omega) ?_); exact Has.nil)), seti (Ne.symm hLH) g, lo.set (by lia), us ++ [u], by rw [pl_succ]; simp [u1], fun i p v ep ev => ?_, by rw [setj gt, pl_succ]; simp⟩
     rw [pl_succ] at ep
     rcases get_snoc ep with ep | ⟨hi, rfl⟩
     ·rcases get_snoc ev with ev | ⟨hj2, rfl⟩
      ·exact u2 i p v ep ev
      ·have := (gll ep); lia
     ·rcases get_snoc ev with ev | ⟨hj2, rfl⟩
      ·have := (gll ev); lia
      ·exact B
end
set_option tactic.hygienic false
section
variable {X : Wx} {d : Nat} {H H' : List AObj} {w : Nat} {r1 t1 r2 t2 : List (List Int)}
noncomputable abbrev minst (k : Nat) : AObj := .inst 282 ["heads", "sizes"] [V.ref (k + 1), V.ref (k + 2)]
structure MgAt (H : List AObj) (k : Nat) (hs sz : List Int) : Prop where
 inst : H[k]? = some (minst k)
 heads : H[k + 1]? = some (il hs)
 sizes : H[k + 2]? = some (il sz)
theorem MgAt.sH {H k hs sz} (h : MgAt H k hs sz) (l : List Int) : MgAt (H.set (k + 1) (il l)) k l sz := ⟨seti (by lia) h.inst, setj h.heads, seti (by lia) h.sizes⟩
theorem C_Merger {n : Nat} {Q : V → List AObj → Prop} (hd : d < 100) (hn : n ≤ 1000) (h : Q (.ref H.length) (H ++ [minst H.length, il (rg n), il (List.replicate n 1)])) : Cl X.W d (.ref 282) [.int (n : Nat)] H Q := by
 have cX : True := trivial
 revert X d H n Q hd hn h
 rintro X d H n Q hd hn h
 refine C_class (fI := 265) (ps := ["self", "count"]) hd (by kernel_rfl) (by kernel_rfl) (by kernel_rfl) (FnOk.of rfl (by kernel_rfl) rfl rfl rfl rfl rfl rfl rfl (by rfl) (by decide)) (lenS fun x0 => lenS fun x1 => len0 rfl) (by decide) (by left) ?_
 rintro hin
 simp only [argLoc]
 ac_rfl
 refine K_list (by left) ?_
 ac_rfl
 refine K_range (by left) ?_
 ac_rfl
 refine C_range ?_
 ac_rfl
 refine C_listRng false (by lia) (by lia) ?_
 simp only [cpOut, Bool.false_eq_true, if_false]
 ac_rfl
 rw [List.append_assoc, List.singleton_append]
 refine ⟨_, _, _, _, rfl, at_get0, so_282_heads, by simp, rfl, ?_⟩
 rw [at_set0, show fputN [] "heads" = [("heads" : Str)] by kernel_rfl, show ∀ a : V, fputV [] [] "heads" a = [a] from fun a => rfl]
 ac_rfl
 refine E_lstF ?_
 ac_rfl
 refine ⟨by simp, ?_⟩
 ac_rfl
 refine P_mulL false AsList.lst (by lia) (by simp; lia) (by lia) ?_
 simp only [cpOut, Bool.false_eq_true, if_false]
 rw [flat1]
 ac_rfl
 rw [List.append_assoc, List.cons_append, List.singleton_append]
 refine ⟨_, _, _, _, rfl, at_get0, so_282_sizes, by simp, rfl, ?_⟩
 rw [at_set0, show fputN ["heads"] "sizes" = [("heads" : Str), "sizes"] by kernel_rfl, show ∀ a b : V, fputV ["heads"] [a] "sizes" b = [a, b] by intro a b; kernel_rfl]
 ac_rfl
 refine Ret.none ⟨rfl, ?_⟩
 have e : H ++ [AObj.inst 282 ["heads", "sizes"] [V.ref (H ++ [AObj.inst 282 [] []]).length, V.ref (H ++ [AObj.inst 282 ["heads"] [V.ref (H ++ [AObj.inst 282 [] []]).length], AObj.list ((List.range (n : Int).toNat).map fun i => V.int (i : Nat))]).length], AObj.list ((List.range (n : Int).toNat).map fun i => V.int (i : Nat)), AObj.list (List.replicate (n : Int).toNat (V.int 1))] = H ++ [minst H.length, il (rg n), il (List.replicate n 1)] := by
  simp [minst, il, rg]
 rw [← e] at h
 exact h
set_option tactic.hygienic true in
theorem C_head {k M R : Nat} {hs sz : List Int} {cl : Int → Int} {rk : Int → Nat} {x : Int} {Q : V → List AObj → Prop} (hd : d < 100) (g : MgAt H k hs sz) (U : UF M hs cl rk R) (hM : M ≤ 1000) (x0 : 0 ≤ x) (x1 : x < M)
  (q : ∀ hs', UF M hs' cl rk R → rc hs' ≤ rc hs → atI hs' (cl x) = cl x → (∀ z : Int, 0 ≤ z → z < M → atI hs z = z → atI hs' z = z) → Q (.int (cl x)) (H.set (k + 1) (il hs'))) : Cl X.W d (.ref 272) [.ref k, .int x] H Q := by
 have cX : True := trivial
 revert X d H k M R hs sz cl rk x Q hd g U hM x0 x1 q
 rintro X d H k M R hs sz cl rk x Q hd g U hM x0 x1 q
 have hset : H.set (k + 1) (il hs) = H := by
  apply List.ext_getElem?
  rintro j
  by_cases hj : k + 1 = j
  ·subst hj; rw [setj g.heads]; exact g.heads.symm
  ·rw [List.getElem?_set_ne hj]
 refine C_fn (ps := ["self", "number"]) hd (FnOk.of rfl (by kernel_rfl) rfl rfl rfl rfl rfl rfl rfl (by rfl) (by decide)) (lenS fun x0 => lenS fun x1 => len0 rfl) (by decide) (by left) ?_
 rintro hin
 simp only [argLoc]
 ac_rfl
 refine S_while (R - rk x) (fun N m Hx => m ("self" : Str) = some (.ref k) ∧ ∃ (y : Int) (hs' : List Int), m ("number" : Str) = some (.int y) ∧ 0 ≤ y ∧ y < M ∧ cl y = cl x ∧ UF M hs' cl rk R ∧ rc hs' ≤ rc hs ∧ (∀ z : Int, 0 ≤ z → z < M → atI hs z = z → atI hs' z = z) ∧ N = R - rk y ∧ Hx = H.set (k + 1) (il hs'))
  ⟨(by bv_omega), x, hs, (by bv_omega), x0, x1, rfl, U, Nat.le_refl _, fun za zb zc e => e, rfl, hset.symm⟩ ?_
 rintro N m Hx ⟨m1, y, hs', m2, y0, y1, hy, U', hr, hz, hN, rfl⟩
 have g' := g.sH hs'
 have l := U'.len
 have r1 := U'.rng y y0 y1
 have r2 := U'.rng _ r1.1 r1.2.1
 ac_rfl
 refine A_282_heads g'.inst (by intro w h; cases h) ?_
 ac_rfl
 refine G_list g'.heads y0 (by lia) (gI y0 (by lia)) ?_
 ac_rfl
 split
 ·rename_i ne
  have ne : atI hs' y ≠ y := by simpa using ne
  have HV := U'.halve y0 y1 ne
  ac_rfl
  refine A_282_heads g'.inst (by intro w h; cases h) ?_
  ac_rfl
  refine A_282_heads g'.inst (by intro w h; cases h) ?_
  ac_rfl
  refine G_list g'.heads y0 (by lia) (gI y0 (by lia)) ?_
  refine G_list g'.heads r1.1 (by lia) (gI r1.1 (by lia)) ?_
  ac_rfl
  refine A_282_heads g'.inst (by intro w h; cases h) ?_
  ac_rfl
  refine U_list g'.heads y0 (by simp; lia) (by simp; lia) ?_
  rw [il_set]
  have g2 := g'.sH (hs'.set y.toNat (atI hs' (atI hs' y)))
  have ss : (H.set (k + 1) (il hs')).set (k + 1) (AObj.list ((hs'.set y.toNat (atI hs' (atI hs' y))).map V.int)) = H.set (k + 1) (il (hs'.set y.toNat (atI hs' (atI hs' y)))) := by rw [List.set_set]; rfl
  rw [ss]
  have g2 : MgAt (H.set (k + 1) (il (hs'.set y.toNat (atI hs' (atI hs' y))))) k (hs'.set y.toNat (atI hs' (atI hs' y))) sz := by rw [← ss]; exact g2
  ac_rfl
  refine A_282_heads g2.inst (by intro w h; cases h) ?_
  ac_rfl
  refine G_list g2.heads y0 (by lia) (gI y0 (by simp; lia)) ?_
  rw [atI_set y0 (by lia) y0, if_pos rfl]
  ac_rfl
  have hle := HV.1.le _ r2.1 r2.2.1
  refine ⟨R - rk (atI hs' (atI hs' y)), by lia, (by bv_omega), _, _, (by bv_omega), r2.1, r2.2.1, ?_, HV.1, Nat.le_trans HV.2.1 hr, fun z z0 z1 e => ?_, rfl, rfl⟩
  ·rw [U'.cls _ r1.1 r1.2.1, U'.cls y y0 y1, hy]
  ·have := hz z z0 z1 e
   rw [atI_set y0 (by lia) z0, if_neg fun q => by subst q; exact ne this]
   exact this
 ·rename_i ne
  have e : atI hs' y = y := by simpa using ne
  have hcy := U'.root y y0 y1 e
  have hyx : y = cl x := hcy.symm.trans hy
  ac_rfl
  refine Ret.keep ?_
  rw [hyx]
  exact q hs' U' hr (by rw [← hyx]; exact e) hz
set_option tactic.hygienic true in
theorem C_join {k M R : Nat} {hs sz : List Int} {cl : Int → Int} {rk : Int → Nat} {x y : Int} {Q : V → List AObj → Prop} (hd : d < 90) (g : MgAt H k hs sz) (U : UF M hs cl rk R) (hs_ : sz.length = M) (hM : M ≤ 1000) (x0 : 0 ≤ x) (x1 : x < M) (y0 : 0 ≤ y) (y1 : y < M)
  (q1 : cl x = cl y → ∀ hs', UF M hs' cl rk R → rc hs' ≤ rc hs → Q (.bool false) (H.set (k + 1) (il hs')))
  (q2 : cl x ≠ cl y → ∀ hs' sz' cl' rk' R', UF M hs' cl' rk' R' → rc hs' < rc hs → sz'.length = M → (∀ a b : Int, cl' a = cl' b ↔ cl a = cl b ∨ (cl a = cl x ∧ cl b = cl y) ∨ (cl a = cl y ∧ cl b = cl x)) → Q (.bool true) ((H.set (k + 1) (il hs')).set (k + 2) (il sz'))) : Cl X.W d (.ref 279) [.ref k, .int x, .int y] H Q := by
 have cX : True := trivial
 revert X d H k M R hs sz cl rk x y Q hd g U hs_ hM x0 x1 y0 y1 q1 q2
 rintro X d H k M R hs sz cl rk x y Q hd g U hs_ hM x0 x1 y0 y1 q1 q2
 have hd' := hd
 replace hd : d < 100 := by lia
 have rx := U.rng x x0 x1
 have ry := U.rng y y0 y1
 refine C_fn (ps := ["self", "one", "other"]) hd (FnOk.of rfl (by kernel_rfl) rfl rfl rfl rfl rfl rfl rfl (by rfl) (by decide)) (lenS fun x0 => lenS fun x1 => lenS fun x2 => len0 rfl) (by decide) (by left) ?_
 rintro hin
 simp only [argLoc]
 ac_rfl
 refine E_meth ?_
 ac_rfl
 refine ⟨_, M_head g.inst, Kf_head, ?_⟩
 ac_rfl
 refine C_head (by lia) g U hM x0 x1 ?_
 rintro h1 U1 c1 e1 z1
 have g1 := g.sH h1
 ac_rfl
 refine E_meth ?_
 ac_rfl
 refine ⟨_, M_head g1.inst, Kf_head, ?_⟩
 ac_rfl
 refine C_head (by lia) g1 U1 hM y0 y1 ?_
 rintro h2 U2 c2 e2 z2
 have ss : ∀ z, (H.set (k + 1) (il h1)).set (k + 1) z = H.set (k + 1) z := fun z => List.set_set ..
 rw [ss]
 have g2 := g.sH h2
 have l2 := U2.len
 ac_rfl
 split
 ·rename_i e
  have e : cl x = cl y := by simpa using e
  ac_rfl
  exact Ret.keep (q1 e h2 U2 (by lia))
 ·rename_i e
  have e : cl x ≠ cl y := by simpa using e
  have ex : atI h2 (cl x) = cl x := z2 _ rx.2.2.1 rx.2.2.2 e1
  refine S_nil ?_
  refine S_mid (fun m Hx => Hx = H.set (k + 1) (il h2) ∧ m ("self" : Str) = some (.ref k) ∧ ∃ a b : Int, ((a = cl x ∧ b = cl y) ∨ (a = cl y ∧ b = cl x)) ∧ m ("high" : Str) = some (.int a) ∧ m ("low" : Str) = some (.int b)) ?_ ?_
  ·ac_rfl
   refine A_282_sizes g2.inst (by intro w h; cases h) ?_
   ac_rfl
   refine G_list g2.sizes rx.2.2.1 (by lia) (gI rx.2.2.1 (by lia)) ?_
   ac_rfl
   refine A_282_sizes g2.inst (by intro w h; cases h) ?_
   ac_rfl
   refine G_list g2.sizes ry.2.2.1 (by lia) (gI ry.2.2.1 (by lia)) ?_
   ac_rfl
   split
   ·refine S_cons ?_
    refine S_swap (p3 := ⟨0, 0, 0, 0⟩) (p4 := ⟨0, 0, 0, 0⟩) (a := .int (cl y)) (b := .int (cl x)) ?_ (by left) (by left) (by intro env E; unfold swappedStores Env.blockKind Env.kindOf; rw [E.scope]; rfl)
    ac_rfl
    refine ⟨by simp, rfl, ?_⟩
    ac_rfl
    exact ⟨rfl, rfl, (by bv_omega), cl y, cl x, .inr ⟨rfl, rfl⟩, (by bv_omega), (by bv_omega)⟩
   ·ac_rfl
    exact ⟨rfl, rfl, (by bv_omega), cl x, cl y, .inl ⟨rfl, rfl⟩, (by bv_omega), (by bv_omega)⟩
  ·rintro m Hx ⟨rfl, m1, a, b, hab, m2, m3⟩
   have a0 : 0 ≤ a ∧ a < M ∧ atI h2 a = a := by rcases hab with ⟨rfl, rfl⟩ | ⟨rfl, rfl⟩ <;> exact ⟨by lia, by lia, by assumption⟩
   have b0 : 0 ≤ b ∧ b < M ∧ atI h2 b = b := by rcases hab with ⟨rfl, rfl⟩ | ⟨rfl, rfl⟩ <;> exact ⟨by lia, by lia, by assumption⟩
   have hne : a ≠ b := by rcases hab with ⟨rfl, rfl⟩ | ⟨rfl, rfl⟩ <;> lia
   have LK := U2.link a0.1 a0.2.1 b0.1 b0.2.1 a0.2.2 b0.2.2 hne
   ac_rfl
   refine A_282_heads g2.inst (by intro w h; cases h) ?_
   ac_rfl
   refine U_list g2.heads b0.1 (by simp; lia) (by simp; lia) ?_
   rw [il_set]
   have ss2 : (H.set (k + 1) (il h2)).set (k + 1) (AObj.list ((h2.set b.toNat a).map V.int)) = H.set (k + 1) (il (h2.set b.toNat a)) := by rw [List.set_set]; rfl
   rw [ss2]
   have g3 := g.sH (h2.set b.toNat a)
   ac_rfl
   refine A_282_sizes g3.inst (by intro w h; cases h) ?_
   ac_rfl
   refine G_list g3.sizes a0.1 (by lia) (gI a0.1 (by lia)) ?_
   ac_rfl
   refine A_282_sizes g3.inst (by intro w h; cases h) ?_
   ac_rfl
   refine G_list g3.sizes b0.1 (by lia) (gI b0.1 (by lia)) ?_
   ac_rfl
   refine A_282_sizes g3.inst (by intro w h; cases h) ?_
   ac_rfl
   refine U_list g3.sizes a0.1 (by simp; lia) (by simp; lia) ?_
   rw [il_set]
   ac_rfl
   refine Ret.keep (q2 e _ _ _ _ _ LK.1 (by have := LK.2; lia) (by simp [hs_]) fun p r => ?_)
   try dsimp only
   rcases hab with ⟨rfl, rfl⟩ | ⟨rfl, rfl⟩
   ·split <;> split <;> lia
   ·split <;> split <;> lia
theorem C_same {Q} (hd : d < 70) (A1 : Aut w r1 t1) (A2 : Aut w r2 t2) (h1 : r1.length ≤ 50) (h2 : r2.length ≤ 50) (h : ∀ b : Bool, (b = true ↔ ∀ u, WordOk w u → T r1 t1 0 u = T r2 t2 0 u) → Q (.bool b) H) : Cl X.W d (.ref 321) [vdfa r1 t1, vdfa r2 t2] H Q := by
 have cX : True := trivial
 revert X d H w r1 t1 r2 t2 Q hd A1 A2 h1 h2 h
 rintro X d H w r1 t1 r2 t2 Q hd A1 A2 h1 h2 h
 have hd' := hd
 replace hd : d < 100 := by lia
 have hw := A1.width
 have p1 := A1.pos
 have p2 := A2.pos
 refine C_fn (ps := ["one", "other"]) hd (FnOk.of rfl (by kernel_rfl) rfl rfl rfl rfl rfl rfl rfl (by rfl) (by decide)) (lenS fun x0 => lenS fun x1 => len0 rfl) (by decide) (by left) ?_
 rintro hin
 simp only [argLoc]
 ac_rfl
 refine K_check_counts (by left) ?_
 ac_rfl
 refine C_check_counts (by lia) A1 A2 ?_
 ac_rfl
 refine E_meth ?_
 ac_rfl
 refine ⟨_, O_state_count, Kf_state_count, ?_⟩
 ac_rfl
 refine C_state_count (by lia) A1 ?_
 ac_rfl
 refine K_Merger (by left) ?_
 ac_rfl
 refine E_meth ?_
 ac_rfl
 refine ⟨_, O_state_count, Kf_state_count, ?_⟩
 ac_rfl
 refine C_state_count (by lia) A2 ?_
 ac_rfl
 rw [show (r1.length : Int) + r2.length + 1 = ((r1.length + r2.length + 1 : Nat) : Int) by lia]
 generalize hM : r1.length + r2.length + 1 = M
 refine C_Merger (by lia) (by lia) ?_
 ac_rfl
 refine E_lstM ?_
 ac_rfl
 refine ⟨by simp, ?_⟩
 ac_rfl
 refine ⟨by simp, ?_⟩
 rw [List.append_assoc, List.cons_append, List.cons_append, List.cons_append, List.nil_append, show (H ++ [minst H.length, il (rg M), il (List.replicate M 1)]).length = H.length + 3 by simp]
 have hid : ∀ x : Int, 0 ≤ x → x < M → id x = x := fun za zb zc => rfl
 have U0 : UF M (rg M) id (fun za => 0) 0 := ⟨by simp [rg], fun x x0 x1 => by rw [rg_at x0 x1]; exact ⟨x0, x1, x0, x1⟩, fun x x0 x1 => by rw [rg_at x0 x1], fun x x0 x1 za => rfl, fun x x0 x1 => Nat.le_refl _, fun x x0 x1 e => absurd (rg_at x0 x1) e⟩
 ac_rfl
 refine S_while (3 * rc (rg M) + 1) (fun N m Hx => m ("one" : Str) = some (vdfa r1 t1) ∧ m ("other" : Str) = some (vdfa r2 t2) ∧ m ("first" : Str) = some (.int r1.length) ∧ m ("kins" : Str) = some (.ref H.length) ∧ m ("waiting" : Str) = some (.ref (H.length + 3)) ∧
   ∃ (hs sz : List Int) (cl : Int → Int) (rk : Int → Nat) (R : Nat) (wt : List (Int × Int)), UF M hs cl rk R ∧ sz.length = M ∧ Kin w r1 t1 r2 t2 M cl wt ∧ 3 * rc hs + wt.length ≤ N ∧ N ≤ 3 * rc (rg M) + 1 ∧ Hx = H ++ [minst H.length, il hs, il sz, .list (wt.map pairV)])
  ⟨(by bv_omega), (by bv_omega), (by bv_omega), (by bv_omega), (by bv_omega), rg M, List.replicate M 1, id, (fun za => 0), 0, [(0, 0)], U0, by simp, Kin.start p1 p2 hid, by simp, Nat.le_refl _, by simp [pairV]⟩ ?_
 rintro N m Hx ⟨m1, m2, m3, m4, m5, hs, sz, cl, rk, R, wt, U, hsz, K, hN, hN2, rfl⟩
 have hrc : rc (rg M) ≤ 150 := by
  have := List.countP_le_length (l := List.range (rg M).length) (p := fun i : Nat => decide (atI (rg M) (i : Int) = (i : Int)))
  unfold rc
  rw [List.length_range] at this
  have l : (rg M).length = M := by simp [rg]
  lia
 have lowr : ∀ (l : List AObj) (j : Nat), j < H.length → (H ++ l)[j]? = H[j]? := fun l j hj => by rw [List.getElem?_append_left hj]
 ac_rfl
 refine Tr_list (AsList.ref (at_get (i := 3) rfl)) (by simp; lia) ?_
 rcases snoc_cases wt with rfl | ⟨wt, ⟨l, r⟩, rfl⟩
 ·simp only [List.map_nil, List.isEmpty_nil, Bool.not_true, Bool.false_eq_true, if_false]
  ac_rfl
  exact Ret.cut hin (by simp) (lowr _) rfl (h true ⟨fun za u hu => K.done hM.symm A1 A2 u hu, fun za => rfl⟩)
 ·rw [List.length_append, List.length_singleton] at hN
  have ok : At r1 l ∧ At r2 r := by
   obtain ⟨u, hu, e1, e2⟩ := K.ok (l, r) (List.mem_append_right _ (.head _))
   have e1 : runOf r1 0 u = l := e1
   have e2 : runOf r2 0 u = r := e2
   exact ⟨e1 ▸ A1.run u ⟨by lia, by lia⟩ hu, e2 ▸ A2.run u ⟨by lia, by lia⟩ hu⟩
  have q1 := plc1 (t1 := t1) (t2 := t2) (r2 := r2) ok.1
  have q2 := plc2 (t1 := t1) (t2 := t2) (r1 := r1) ok.2
  rw [show (!(List.map pairV (wt ++ [(l, r)])).isEmpty) = true by simp]
  simp only [if_true]
  ac_rfl
  refine E_meth ?_
  ac_rfl
  refine ⟨_, M_pop (at_get (i := 3) rfl), Kept.blt, ?_⟩
  ac_rfl
  refine C_pop (xs := wt.map pairV) (a := pairV (l, r)) ((at_get (i := 3) rfl).trans (by simp)) (by simp; lia) ?_
  rw [at_set]
  simp only [List.set]
  refine A_tup (by left) (by rfl) ?_
  simp only [putAll_c, putAll_n]
  have g : MgAt (H ++ [minst H.length, il hs, il sz, .list (wt.map pairV)]) H.length hs sz := ⟨at_get0, at_get (i := 1) rfl, at_get (i := 2) rfl⟩
  ac_rfl
  refine E_meth ?_
  ac_rfl
  refine ⟨_, M_join g.inst, Kf_join, ?_⟩
  ac_rfl
  refine K_place_of (by left) ?_
  ac_rfl
  refine C_place_of (by lia) ?_
  ac_rfl
  refine K_place_of (by left) ?_
  ac_rfl
  refine C_place_of (by lia) ?_
  ac_rfl
  rw [show (if l = -1 then (0 : Int) else 1 + 0 + l) = plc l 0 from rfl, show (if r = -1 then (0 : Int) else 1 + (r1.length : Int) + r) = plc r r1.length from rfl]
  refine C_join (by lia) g U hsz (by lia) q1.1 (by lia) q2.1 (by lia) (fun e hs' U' hrl => ?_) (fun e hs' sz' cl' rk' R' U' hrl hsz' hcl => ?_)
  ·rw [at_set]
   simp only [List.set]
   ac_rfl
   exact ⟨3 * rc hs' + wt.length, by lia, (by bv_omega), (by bv_omega), (by bv_omega), (by bv_omega), (by bv_omega), hs', sz, cl, rk, R, wt, U', hsz, K.skip hM.symm ok.1 ok.2 e, Nat.le_refl _, by lia, rfl⟩
  ·rw [at_set, at_set]
   simp only [List.set]
   ac_rfl
   refine K_tags_at (by left) ?_
   ac_rfl
   refine C_tags_at (by lia) A1 ok.1 ?_
   refine K_tags_at (by left) ?_
   ac_rfl
   refine C_tags_at (by lia) A2 ok.2 ?_
   refine P_ne (plain_vtag _) (plain_vtag _) ?_
   rintro b hb
   ac_rfl
   cases b with
   | true =>
    simp only [if_true]
    have hne : tagOf t1 l ≠ tagOf t2 r := fun z => (hb.mp rfl) (by rw [z])
    ac_rfl
    refine Ret.cut hin (by simp) (lowr _) rfl (h false ⟨(fun z => by cases z), fun z => ?_⟩)
    obtain ⟨u, hu, e1, e2⟩ := K.ok (l, r) (List.mem_append_right _ (.head _))
    have := z u hu
    unfold T at this
    rw [e1, e2] at this
    exact absurd this hne
   | false =>
    simp only [Bool.false_eq_true, if_false]
    have heq : tagOf t1 l = tagOf t2 r := by
     have : ¬ vtag (tagOf t1 l) ≠ vtag (tagOf t2 r) := fun q => by simpa using hb.mpr q
     exact vtag_inj (Classical.not_not.mp this)
    ac_rfl
    refine S_forR ?_
    refine K_range (by left) ?_
    ac_rfl
    refine E_meth ?_
    ac_rfl
    refine ⟨_, O_class_count, Kf_class_count, ?_⟩
    ac_rfl
    refine C_class_count (by lia) A1 ?_
    ac_rfl
    refine C_range ?_
    refine ⟨_, rfl, by lia, by lia, fun c m Hx => m ("one" : Str) = some (vdfa r1 t1) ∧ m ("other" : Str) = some (vdfa r2 t2) ∧ m ("first" : Str) = some (.int r1.length) ∧ m ("kins" : Str) = some (.ref H.length) ∧ m ("waiting" : Str) = some (.ref (H.length + 3)) ∧ m ("left" : Str) = some (.int l) ∧ m ("right" : Str) = some (.int r) ∧
      ∃ wt' : List (Int × Int), (∀ z, z ∈ wt → z ∈ wt') ∧ (∀ x : Int, 0 ≤ x → x < c → (goalOf r1 l x, goalOf r2 r x) ∈ wt') ∧ (∀ z, z ∈ wt' → z ∈ wt ∨ ∃ x : Int, 0 ≤ x ∧ x < w ∧ z = (goalOf r1 l x, goalOf r2 r x)) ∧ wt'.length = wt.length + c ∧ Hx = H ++ [minst H.length, il hs', il sz', .list (wt'.map pairV)],
     ⟨(by bv_omega), (by bv_omega), (by bv_omega), (by bv_omega), (by bv_omega), (by bv_omega), (by bv_omega), wt, (fun z hz => hz), (fun x x0 x1 => by lia), (fun z hz => .inl hz), by lia, rfl⟩, ?_, ?_⟩
    ·rintro m Hx ⟨m1, m2, m3, m4, m5, m6, m7, wt', w1, w2, w3, w4, rfl⟩
     rw [Int.toNat_natCast] at w2 w4
     ac_rfl
     exact ⟨3 * rc hs' + wt'.length, by lia, m1, m2, m3, m4, m5, hs', sz', cl', rk', R', wt', U', hsz', K.join hM.symm A1 A2 ok.1 ok.2 heq (fun x y za zb zc zd => hcl x y) w1 w2 w3, Nat.le_refl _, by lia, rfl⟩
    ·rintro c m Hx hc ⟨m1, m2, m3, m4, m5, m6, m7, wt', w1, w2, w3, w4, rfl⟩
     refine A_name (by left) ?_
     refine Ss.abs ?_
     rintro R hR
     ac_rfl
     refine E_meth ?_
     ac_rfl
     refine ⟨_, M_append (at_get (i := 3) rfl), Kept.blt, ?_⟩
     ac_rfl
     refine K_goal_of (by left) ?_
     ac_rfl
     refine C_goal_of (by lia) A1 ok.1 (by lia) hc ?_
     ac_rfl
     refine K_goal_of (by left) ?_
     ac_rfl
     refine C_goal_of (by lia) A2 ok.2 (by lia) hc ?_
     ac_rfl
     refine ⟨by simp, ?_⟩
     ac_rfl
     refine C_append (at_get (i := 3) rfl) (by simp; lia) ?_
     rw [at_set]
     simp only [List.set]
     ac_rfl
     refine ⟨(by bv_omega), (by bv_omega), (by bv_omega), (by bv_omega), (by bv_omega), (by bv_omega), (by bv_omega), wt' ++ [(goalOf r1 l c, goalOf r2 r c)], fun z hz => List.mem_append_left _ (w1 z hz), fun x x0 x1 => ?_, fun z hz => ?_, by simp; lia, by simp [pairV]⟩
     ·by_cases q : x = c
      ·rw [q]; simp
      ·exact List.mem_append_left _ (w2 x x0 (by lia))
     ·rcases List.mem_append.mp hz with hz | hz
      ·exact w3 z hz
      ·exact .inr ⟨c, by lia, hc, List.mem_singleton.mp hz⟩
end
set_option tactic.hygienic false
section
variable {X : Wx} {d : Nat} {H H' : List AObj} {w : Nat}
theorem plain_wordV (r : Option (List Int)) : plainV 8 (wordV r) = true := by
 cases r with
 | none => rfl
 | some u => exact plain_vrow u
theorem plain_vtags (n : Nat) (l : List (List Int)) : plainVs (n + 2) (l.map vtag) = true := by
 induction l with
 | nil => rfl
 | cons a l ih => rw [List.map_cons, plainVs_cons]; exact ⟨by show plainV (n + 2) (.tup _) = true; rw [plainV_tup]; exact plain_ints _ _, ih⟩
theorem plain_all {n : Nat} : ∀ {l : List V}, (∀ v, v ∈ l → plainV (n + 1) v = true) → plainVs (n + 1) l = true
 | [], _ => rfl
 | a :: l, h => by rw [plainVs_cons]; exact ⟨h a (.head _), plain_all fun v q => h v (.tail _ q)⟩
theorem plain_pairV (p : Int × Int) : plainV 7 (pairV p) = true := by show plainV 7 (.tup _) = true; rw [plainV_tup]; exact plain_ints 5 [p.1, p.2]
theorem plain_sortP (ps : List (Int × Int)) : plainV 8 (.lst (sortP ps)) = true := by
 rw [plainV_lst]
 have hp : ∀ v, v ∈ ps.map pairV → plainV 7 v = true := fun v q => by
  obtain ⟨p, _, rfl⟩ := List.mem_map.mp q
  exact plain_pairV p
 refine plain_all fun v q => ?_
 unfold sortP at q
 split at q
 ·exact hp v q
 ·obtain ⟨i, _, rfl⟩ := List.mem_map.mp q
  rw [List.getD_eq_getElem?_getD]
  cases e : (ps.map pairV)[i]? with
  | none => rfl
  | some v => exact hp v (List.mem_of_getElem? e)
theorem map_inj' {α β : Type} {f : α → β} (hf : ∀ x y, f x = f y → x = y) : ∀ {a b : List α}, a.map f = b.map f → a = b
 | [], [], _ => rfl
 | [], _ :: _, h => by cases h
 | _ :: _, [], h => by cases h
 | x :: a, y :: b, h => by
  rw [List.map_cons, List.map_cons] at h
  injection h with h1 h2
  rw [hf x y h1, map_inj' hf h2]
set_option tactic.hygienic true in
theorem C_law {ns : List Int} {Q : V → List AObj → Prop} (hd : d < 10) (hl : ns.length ≤ 63) (h : ∀ H', Q (.bool true) H') : Cl X.W d (.ref 404) [.lst (ns.map V.int)] H Q := by
 have cX : True := trivial
 revert X d H ns Q hd hl h
 rintro X d H ns Q hd hl h
 have hd' := hd
 replace hd : d < 100 := by lia
 refine C_fn (ps := ["script"]) hd (FnOk.of rfl (by kernel_rfl) rfl rfl rfl rfl rfl rfl rfl (by rfl) (by decide)) (lenS fun x0 => len0 rfl) (by decide) (by left) ?_
 rintro hin
 simp only [argLoc]
 ac_rfl
 refine K__law_pen (by left) ?_
 ac_rfl
 refine C_pen (by lia) (by lia) ?_
 rintro N0 hN0
 have hk0 : (H ++ [AObj.list [V.int N0, V.int 0]])[H.length]? = some (.list [.int N0, .int 0]) := at_get0
 generalize H ++ [AObj.list [V.int N0, V.int 0]] = H0 at *
 ac_rfl
 refine K__law_draw (by left) ?_
 ac_rfl
 refine C_draw (by lia) hk0 hN0 (by lia) (by lia) (by lia) (by lia) ?_
 rintro x N1 C1 x0 x1 n1 c1 c1'
 have hk1 := set_get (x := .list [.int N1, .int C1]) hk0
 generalize H0.set H.length (.list [.int N1, .int C1]) = H1 at *
 ac_rfl
 refine S_setTup ?_ (hw := by intro env E; unfold swappedStores Env.blockKind Env.kindOf; rw [E.scope]; rfl)
 obtain ⟨w, hwx, hw⟩ : ∃ w : Nat, 1 + x = (w : Int) ∧ 1 ≤ w ∧ w ≤ 2 := ⟨(1 + x).toNat, by lia, by lia, by lia⟩
 rw [hwx]
 ac_rfl
 refine K__law_automaton (by left) ?_
 ac_rfl
 refine C_automaton (by lia) hk1 n1 c1 (by lia) hw ?_
 rintro r1 t1 N2 C2 A1 l1 n2 c2 c2'
 have hk2 := set_get (x := .list [.int N2, .int C2]) hk1
 generalize H1.set H.length (.list [.int N2, .int C2]) = H2 at *
 ac_rfl
 refine K__law_automaton (by left) ?_
 ac_rfl
 refine C_automaton (by lia) hk2 n2 c2 (by lia) hw ?_
 rintro r2 t2 N3 C3 A2 l2 n3 c3 c3'
 generalize H2.set H.length (.list [.int N3, .int C3]) = H3 at *
 ac_rfl
 refine ⟨by simp, ?_⟩
 refine A_tup (by left) (by rfl) ?_
 simp only [putAll_c, putAll_n]
 have p1 := A1.pos
 have p2 := A2.pos
 have s1 := A1.same
 have s2 := A2.same
 have hA : ∀ p : DF, p ∈ [((r1, t1) : DF), (r2, t2)] → Aut w p.1 p.2 := fun p hp => by
  rcases List.mem_cons.mp hp with rfl | hp
  ·exact A1
  ·rw [List.mem_singleton.mp hp]; exact A2
 have bsz : ∀ (ds : List DF), (∀ p, p ∈ ds → Aut w p.1 p.2 ∧ p.1.length ≤ 4) → ∀ p, p ∈ ds → p.1.length ≤ 100 ∧ p.2.length ≤ 100 ∧ ∀ r, r ∈ p.1 → r.length ≤ 2 := fun ds hd p hp => by
  have := hd p hp
  have hs := this.1.same
  exact ⟨by lia, by lia, fun r hr => by have := (this.1.row r hr).1; lia⟩
 ac_rfl
 refine K__law_bound (by left) ?_
 ac_rfl
 refine E_lstF ?_
 ac_rfl
 refine ⟨by simp, ?_⟩
 ac_rfl
 refine C_law_bound (ds := [(r1, t1), (r2, t2)]) (by lia) (by simp) (bsz _ fun p hp => ⟨hA p hp, by
  rcases List.mem_cons.mp hp with rfl | hp
  ·show r1.length ≤ 4; lia
  ·rw [List.mem_singleton.mp hp]; show r2.length ≤ 4; lia⟩) ?_
 obtain ⟨bd, hbd⟩ : ∃ bd : Nat, boundOf [(r1, t1), (r2, t2)] = (bd : Int) := ⟨(boundOf [(r1, t1), (r2, t2)]).toNat, by have := boundOf_nonneg [(r1, t1), (r2, t2)]; lia⟩
 have hbd10 : bd ≤ 10 := by
  have := bTags_len [(r1, t1), (r2, t2)]
  unfold boundOf at hbd
  have e : (allTags [(r1, t1), (r2, t2)]).length = t1.length + t2.length := by simp [allTags]
  lia
 rw [hbd]
 ac_rfl
 refine K_difference (by left) ?_
 ac_rfl
 refine C_difference (by lia) A1 A2 (by lia) (by lia) ?_
 rintro r hr
 have tells_iff : ∀ u, tells r1 t1 r2 t2 0 0 u = true ↔ T r1 t1 0 u ≠ T r2 t2 0 u := fun u => by unfold tells; rw [decide_eq_true_eq]
 have hfind : (allWords w bd).find? (tells r1 t1 r2 t2 0 0) = r := by
  cases r with
  | none => exact List.find?_eq_none.mpr fun u hu => by rw [tells_iff]; exact fun z => z (hr u (all_ok hu))
  | some u =>
   refine find_least hr.1 ((tells_iff u).mpr hr.2.1) (fun v hv hT => hr.2.2 v hv ((tells_iff v).mp hT)) ?_
   by_cases z : ∃ v, v.length ≤ bd ∧ WordOk w v ∧ tells r1 t1 r2 t2 0 0 v = true
   ·exact z
   ·have := bound_tells (ds := [(r1, t1), (r2, t2)]) hA (p := (r1, t1)) (q := (r2, t2)) (by simp) (by simp) (s := 0) (t := 0) (by lia) (by show (0 : Int) < r1.length; lia) (by lia) (by show (0 : Int) < r2.length; lia) (fun v hv hvl => by
     by_cases y : T r1 t1 0 v = T r2 t2 0 v
     ·exact y
     ·exact absurd ⟨v, by rw [hbd] at hvl; lia, hv, (tells_iff v).mpr y⟩ z) u hr.1
    exact absurd this hr.2.1
 ac_rfl
 refine K__law_first (by left) ?_
 ac_rfl
 refine C_law_first (by lia) A1 A2 ⟨by lia, by lia⟩ ⟨by lia, by lia⟩ hbd10 ?_
 rw [hfind]
 refine P_ne (plain_wordV r) (plain_wordV r) ?_
 rintro b hb
 have hbf : b = false := by
  cases b with
  | false => rfl
  | true => exact absurd rfl (hb.mp rfl)
 subst hbf
 ac_rfl
 refine K_same (by left) ?_
 ac_rfl
 refine C_same (by lia) A1 A2 (by lia) (by lia) ?_
 rintro b hb2
 ac_rfl
 refine P_is (by cases r <;> (intro w h; cases h)) ?_
 have hbr : b = (wordV r).isNone := by
  cases r with
  | none => exact hb2.mpr hr
  | some u =>
   cases b with
   | false => rfl
   | true => exact absurd (hb2.mp rfl u hr.1) hr.2.1
 refine P_neB ?_
 rw [hbr, show ((wordV r).isNone != (wordV r).isNone) = false by cases (wordV r).isNone <;> rfl]
 refine Tr_bool ?_
 refine T_or0 ?_
 refine S_nil ?_
 refine S_mid (fun m Hx => Hx = H3 ∧ m ("width" : Str) = some (.int w) ∧ m ("one" : Str) = some (vdfa r1 t1)) ?_ ?_
 ·ac_rfl
  refine P_isnot (by cases r <;> (intro w h; cases h)) ?_
  ac_rfl
  cases r with
  | none =>
   show Ss _ _ _ [] _ _ _
   ac_rfl
   exact ⟨rfl, rfl, (by bv_omega), (by bv_omega)⟩
  | some u =>
   have hul := len_le_of_find hfind
   show Tvs _ _ _ _ _ _ _ _
   ac_rfl
   refine K_len (by left) ?_
   ac_rfl
   refine C_len AsList.lst (by simp; lia) ?_
   ac_rfl
   rw [List.length_map, show decide ((u.length : Int) > (bd : Int)) = false by simp; lia]
   ac_rfl
   refine K_accepts (by left) ?_
   ac_rfl
   refine C_accepts (by lia) A1 hr.1 ?_
   refine K_accepts (by left) ?_
   ac_rfl
   refine C_accepts (by lia) A2 hr.1 ?_
   refine P_eq (plain_vtag _) (plain_vtag _) ?_
   rintro b hb3
   have hbf : b = false := by
    cases b with
    | false => rfl
    | true => exact absurd (vtag_inj (hb3.mp rfl)) hr.2.1
   subst hbf
   ac_rfl
   exact ⟨rfl, rfl, (by bv_omega), (by bv_omega)⟩
 ·rintro m Hx ⟨rfl, m1, m2⟩
  ac_rfl
  refine K_least (by left) ?_
  ac_rfl
  refine C_least (by lia) A1 (by lia) ?_
  rintro R S L
  have LA := L.aut
  have Lp := LA.pos
  have Ls := LA.same
  have Ll := L.len
  ac_rfl
  refine K_words_apart (by left) ?_
  ac_rfl
  refine C_words_apart (by lia) LA (by lia) L.diff ?_
  rintro us ul ub
  ac_rfl
  refine S_setComp true ?_ (by left)
  refine K_range (by left) ?_
  ac_rfl
  refine K_len (by left) ?_
  ac_rfl
  refine C_len AsList.lst (by simp; lia) ?_
  ac_rfl
  refine C_range ?_
  rw [List.length_map]
  refine CpLp.rng (CpIn.mono _ _) (fun hh Hy zs => Hy = Hx ∧ zs = (prs hh).map pairV) (by left) (by first | exact compLoc_none (by left) | exact Loc.put_ne (by left) (compLoc_none (by left)) | exact Loc.put_ne (by left) (Loc.put_ne (by left) (compLoc_none (by left)))) (by lia) (by lia) ⟨rfl, rfl⟩ ?_ ?_
  rotate_left
  ·rintro hh Hy zs hhi ⟨rfl, rfl⟩
   simp only [CpIfs_n, CpIfs_o, if_true]
   show Ev _ _ _ _ _ _ _
   refine K_range (by left) ?_
   ac_rfl
   refine C_range ?_
   refine CpLp.rng (CpIn.mono _ _) (fun ll Hz ys => Hz = Hy ∧ ys = (pl hh ll).map pairV) (by left) (by first | exact compLoc_none (by left) | exact Loc.put_ne (by left) (compLoc_none (by left)) | exact Loc.put_ne (by left) (Loc.put_ne (by left) (compLoc_none (by left)))) (by lia) (by lia) ⟨rfl, by rw [pl_zero]⟩ ?_ ?_
   ·rintro Hz ys ⟨rfl, rfl⟩
    rw [Int.toNat_natCast, pl_full]
    exact ⟨rfl, rfl⟩
   ·rintro ll Hz ys hli ⟨rfl, rfl⟩
    simp only [CpIfs_n, CpIfs_o, CpIn_n, if_true]
    ac_rfl
    refine ⟨by simp, ?_, rfl, by rw [pl_succ, List.map_append]; rfl⟩
    have := prs_len hh
    have h2 : hh * hh ≤ 4 * 4 := Nat.mul_le_mul (by lia) (by lia)
    rw [List.length_map]
    unfold pl
    rw [List.length_append, List.length_map, List.length_range]; lia
  ·rintro Hy zs ⟨rfl, rfl⟩
   simp only [cpOut, if_true]
   rw [Int.toNat_natCast]
   generalize hn : R.length = n at *
   have hpl : (prs n).length < 7 := by
    have : n = 1 ∨ n = 2 ∨ n = 3 ∨ n = 4 := by lia
    rcases this with rfl | rfl | rfl | rfl <;> decide
   ac_rfl
   refine K_sorted (by left) ?_
   ac_rfl
   refine C_sorted (ps := prs n) (.inr ⟨_, rfl⟩) hpl ?_
   refine K_sorted (by left) ?_
   ac_rfl
   refine C_sorted (ps := prs n) (.inl AsList.lst) hpl ?_
   refine P_ne (plain_sortP _) (plain_sortP _) ?_
   rintro b hb
   have hbf : b = false := by
    cases b with
    | false => rfl
    | true => exact absurd rfl (hb.mp rfl)
   subst hbf
   ac_rfl
   have LR : ∀ p, p ∈ [((R, S) : DF)] → Aut w p.1 p.2 ∧ p.1.length ≤ 4 := fun p hp => by rw [List.mem_singleton.mp hp]; exact ⟨LA, by show R.length ≤ 4; lia⟩
   refine X_mid (fun m' Hx => Hx = Hy ∧ m' ("one" : Str) = some (vdfa r1 t1) ∧ m' ("width" : Str) = some (.int w) ∧ m' ("known" : Str) = some (.dct ((prs n).map fun p => [p.1, p.2]) (us.map vrow))) ?_ ?_
   ·refine S_forL ?_
    ac_rfl
    refine ⟨_, rfl, fun i m' Hx => Hx = Hy ∧ m' ("lean" : Str) = some (vdfa R S) ∧ m' ("one" : Str) = some (vdfa r1 t1) ∧ m' ("width" : Str) = some (.int w) ∧ m' ("known" : Str) = some (.dct ((prs n).map fun p => [p.1, p.2]) (us.map vrow)), ⟨rfl, (by bv_omega), (by bv_omega), (by bv_omega), (by bv_omega)⟩, ?_, ?_⟩
    ·rintro m' Hx ⟨rfl, k1, k2, k3, k4⟩
     exact ⟨rfl, rfl, k2, k3, k4⟩
    ·rintro i a m' Hx e ⟨rfl, k1, k2, k3, k4⟩
     rw [List.getElem?_map] at e
     obtain ⟨p, ep, rfl⟩ := Option.map_eq_some_iff.mp e
     have hp := prs_mem.mp (List.mem_of_getElem? ep)
     have hi := (gll ep)
     obtain ⟨u, eu, _⟩ := get_of_lt (l := us) (i := i) (by lia)
     have B := ub i p u ep eu
     refine A_tup (by left) (by rfl) ?_
     simp only [putAll_c, putAll_n]
     ac_rfl
     refine K__law_first (by left) ?_
     ac_rfl
     refine K__law_bound (by left) ?_
     ac_rfl
     refine E_lstF ?_
     ac_rfl
     refine ⟨by simp, ?_⟩
     ac_rfl
     refine C_law_bound (ds := [(R, S)]) (by lia) (by simp) (bsz _ LR) ?_
     obtain ⟨b2, hb2⟩ : ∃ b2 : Nat, boundOf [(R, S)] = (b2 : Int) := ⟨(boundOf [(R, S)]).toNat, by have := boundOf_nonneg [(R, S)]; lia⟩
     have hb210 : b2 ≤ 10 := by
      have := bTags_len [(R, S)]
      unfold boundOf at hb2
      have e : (allTags [(R, S)]).length = S.length := by simp [allTags]
      lia
     rw [hb2]
     ac_rfl
     refine C_law_first (by lia) LA LA ⟨by lia, by lia⟩ ⟨by lia, by lia⟩ hb210 ?_
     have tl : ∀ v, tells R S R S p.1 p.2 v = true ↔ T R S p.1 v ≠ T R S p.2 v := fun v => by unfold tells; rw [decide_eq_true_eq]
     cases hf : (allWords w b2).find? (tells R S R S p.1 p.2) with
     | none =>
      refine absurd (bound_tells (ds := [(R, S)]) (fun q hq => (LR q hq).1) (p := (R, S)) (q := (R, S)) (by simp) (by simp) (s := p.1) (t := p.2) (by lia) (by show p.1 < R.length; lia) (by lia) (by show p.2 < R.length; lia) (fun v hv hvl => ?_) u B.1) B.2.1
      have := List.find?_eq_none.mp hf v (all_mem (by rw [hb2] at hvl; lia) hv)
      rw [tl] at this
      exact Classical.not_not.mp this
     | some v =>
      have hvw := all_ok (List.mem_of_find?_eq_some hf)
      have hvl : v.length = u.length := Nat.le_antisymm (find_short hf B.1 ((tl u).mpr B.2.1)) (B.2.2 v hvw ((tl v).mp (List.find?_some hf)))
      have hvb := len_le_of_find hf
      ac_rfl
      refine P_is (by intro w h; cases h) ?_
      rw [show (wordV (some v)).isNone = false from rfl]
      ac_rfl
      refine K_len (by left) ?_
      ac_rfl
      refine ⟨by simp, ?_⟩
      refine G_dct (i := [p.1, p.2]) (by rw [List.getElem?_map, ep]; rfl) (by rw [List.getElem?_map, eu]; rfl) ?_
      ac_rfl
      refine C_len AsList.lst (by simp; lia) ?_
      refine K_len (by left) ?_
      ac_rfl
      refine C_len AsList.lst (by simp; lia) ?_
      ac_rfl
      rw [List.length_map, List.length_map, hvl, show (!decide ((u.length : Int) = (u.length : Int))) = false by simp]
      ac_rfl
      refine K__law_tags (by left) ?_
      ac_rfl
      refine ⟨by simp, ?_⟩
      refine G_dct (i := [p.1, p.2]) (by rw [List.getElem?_map, ep]; rfl) (by rw [List.getElem?_map, eu]; rfl) ?_
      ac_rfl
      refine C_law_tags (by lia) LA ⟨by lia, by lia⟩ B.1 ?_
      refine K__law_tags (by left) ?_
      ac_rfl
      refine ⟨by simp, ?_⟩
      refine G_dct (i := [p.1, p.2]) (by rw [List.getElem?_map, ep]; rfl) (by rw [List.getElem?_map, eu]; rfl) ?_
      ac_rfl
      refine C_law_tags (by lia) LA ⟨by lia, by lia⟩ B.1 ?_
      refine P_eq (plain_vtag _) (plain_vtag _) ?_
      rintro b hb
      have hbf : b = false := by
       cases b with
       | false => rfl
       | true => exact absurd (vtag_inj (hb.mp rfl)) B.2.1
      subst hbf
      ac_rfl
      exact ⟨rfl, (by bv_omega), (by bv_omega), (by bv_omega), (by bv_omega)⟩
   ·rintro m' Hx ⟨rfl, k1, k2, k3⟩
    ac_rfl
    refine E_comp true ?_
    refine K_range (by left) ?_
    ac_rfl
    refine K_len (by left) ?_
    ac_rfl
    refine C_len AsList.lst (by simp; lia) ?_
    ac_rfl
    refine C_range ?_
    rw [List.length_map]
    refine Cp_mapR (fun i : Nat => vrow (List.replicate w (if (r1.length : Int) - 1 < (i : Int) + 1 then (r1.length : Int) - 1 else (i : Int) + 1))) (by left) (by first | exact compLoc_none (by left) | exact Loc.put_ne (by left) (compLoc_none (by left)) | exact Loc.put_ne (by left) (Loc.put_ne (by left) (compLoc_none (by left)))) (by lia) (by simp; lia) ?_ fun i hi => ?_
    rotate_left
    ·ac_rfl
     refine E_lstF ?_
     ac_rfl
     refine K_min (by left) ?_
     ac_rfl
     refine K_len (by left) ?_
     ac_rfl
     refine C_len AsList.lst (by simp; lia) ?_
     ac_rfl
     rw [List.length_map]
     refine C_min ?_
     ac_rfl
     refine ⟨by simp, ?_⟩
     ac_rfl
     refine P_mulL true AsList.lst (by lia) (by simp; lia) (by lia) ?_
     simp only [cpOut, if_true]
     refine ⟨?_, trivial⟩
     rw [flat1]
     simp [vrow, List.map_replicate]
    ·simp only [cpOut, if_true, List.nil_append]
     have e1 : (List.range (r1.length : Int).toNat).map (fun i : Nat => vrow (List.replicate w (if (r1.length : Int) - 1 < (i : Int) + 1 then (r1.length : Int) - 1 else (i : Int) + 1))) = (chainRows w r1.length).map vrow := by
      unfold chainRows; rw [List.map_map, Int.toNat_natCast]; rfl
     rw [e1]
     refine P_eq (by rw [plainV_lst]; exact plain_vrows _ _) (by rw [plainV_lst]; exact plain_vrows _ _) ?_
     rintro b hb
     ac_rfl
     cases b with
     | false =>
      ac_rfl
      exact Ret.keep (h _)
     | true =>
      have hc1 : r1 = chainRows w r1.length := map_inj' (fun x y => vrow_inj) (by have := hb.mp rfl; injection this)
      ac_rfl
      refine E_lstF ?_
      ac_rfl
      refine ⟨by simp, ?_⟩
      ac_rfl
      refine ⟨by simp, ?_⟩
      ac_rfl
      refine K_len (by left) ?_
      ac_rfl
      refine C_len AsList.lst (by simp; lia) ?_
      ac_rfl
      rw [List.length_map]
      refine P_mulL true AsList.lst (by lia) (by simp; lia) (by lia) ?_
      simp only [cpOut, if_true]
      refine E_lstF ?_
      ac_rfl
      refine ⟨by simp, ?_⟩
      ac_rfl
      refine ⟨by simp, ?_⟩
      refine P_addL true AsList.lst AsList.lst (by simp [flat1]; lia) ?_
      simp only [cpOut, if_true]
      have e2 : (List.replicate ((r1.length : Int) - 1).toNat [V.tup []]).flatten ++ [V.tup [V.int 0]] = (chainTags r1.length).map vtag := by
       rw [flat1]; unfold chainTags; rw [show ((r1.length : Int) - 1).toNat = r1.length - 1 by lia]; simp [vtag]
      rw [e2]
      refine P_eq (by rw [plainV_lst]; exact plain_vtags _ _) (by rw [plainV_lst]; exact plain_vtags _ _) ?_
      rintro b hb4
      ac_rfl
      cases b with
      | false =>
       ac_rfl
       exact Ret.keep (h _)
      | true =>
       have hc2 : t1 = chainTags r1.length := map_inj' (fun x y => vtag_inj) (by have := hb4.mp rfl; injection this)
       ac_rfl
       refine K_len (by left) ?_
       ac_rfl
       refine C_len AsList.lst (by simp; lia) ?_
       ac_rfl
       rw [List.length_map]
       split
       ·rename_i hgt
        have hgt : 2 ≤ r1.length := by
         have : (r1.length : Int) > 1 := by simpa using hgt
         lia
        have hB : boundOf [(r1, t1)] = (r1.length : Int) - 2 := by have := chain_bound (w := w) hgt; rwa [← hc1, ← hc2] at this
        obtain ⟨cb1, s, cs0, cs1, cb2⟩ := chain_best hw.1 hgt (show Lean w (chainRows w r1.length) (chainTags r1.length) R S by rw [← hc1, ← hc2]; exact L)
        have hul : ∀ u, u ∈ us → u.length ≤ r1.length - 2 := fun u hu => by
         obtain ⟨i, ei⟩ := List.mem_iff_getElem?.mp hu
         obtain ⟨p, ep, hpm⟩ := get_of_lt (l := prs n) (i := i) (by rw [← ul]; exact (gll ei))
         have hp := prs_mem.mp hpm
         refine cb1 p.1.toNat p.2.toNat (by lia) (by lia) (by lia) u ?_
         rw [show ((p.1.toNat : Nat) : Int) = p.1 by lia, show ((p.2.toNat : Nat) : Int) = p.2 by lia]
         exact ub i p u ep ei
        have hex : ((r1.length : Int) - 2) ∈ us.map fun u : List Int => (u.length : Int) := by
         obtain ⟨i, ei⟩ := List.mem_iff_getElem?.mp (prs_mem (n := n) (p := ((0 : Int), (s : Int))).mpr ⟨Int.le_refl 0, by show (0 : Int) < s; lia, by show (s : Int) < n; lia⟩)
         have hi := (gll ei)
         obtain ⟨u, eu, hum⟩ := get_of_lt (l := us) (i := i) (by lia)
         have := cb2 u (ub i _ u ei eu)
         exact List.mem_map.mpr ⟨u, hum, by lia⟩
        ac_rfl
        refine E_cmp3 ?_
        refine K_max (by left) ?_
        ac_rfl
        refine E_comp true ?_
        ac_rfl
        refine CpLp.dct (CpIn.mono _ _) (fun i H' zs => H' = Hx ∧ zs = ((us.take i).map fun u : List Int => (u.length : Int)).map V.int) (by left) (by first | exact compLoc_none (by left) | exact Loc.put_ne (by left) (compLoc_none (by left)) | exact Loc.put_ne (by left) (Loc.put_ne (by left) (compLoc_none (by left)))) ⟨rfl, rfl⟩ ?_ ?_
        ·rintro H' zs ⟨rfl, rfl⟩
         simp only [cpOut, if_true]
         rw [List.length_map, ← ul, List.take_length]
         ac_rfl
         refine C_maxL AsList.lst (by intro q; rw [q] at hex; cases hex) ?_
         rintro M hM hMx
         have hMe : M = (r1.length : Int) - 2 := by
          have a := hMx _ hex
          obtain ⟨u, hu, rfl⟩ := List.mem_map.mp hM
          have := hul u hu
          lia
         rw [hMe]
         refine K__law_bound (by left) ?_
         ac_rfl
         refine E_lstF ?_
         ac_rfl
         refine ⟨by simp, ?_⟩
         ac_rfl
         refine C_law_bound (ds := [(r1, t1)]) (by lia) (by simp) (bsz _ fun p hp => by rw [List.mem_singleton.mp hp]; exact ⟨A1, by show r1.length ≤ 4; lia⟩) ?_
         rw [hB]
         ac_rfl
         rw [show decide ((r1.length : Int) - 2 = (r1.length : Int) - 2) = true by simp]
         ac_rfl
         refine K_len (by left) ?_
         ac_rfl
         refine C_len AsList.lst (by simp; lia) ?_
         ac_rfl
         rw [List.length_map, show decide ((r1.length : Int) - 2 = (r1.length : Int) - 2) = true by simp]
         exact Ret.keep (h _)
        ·rintro i k H' zs ek ⟨rfl, rfl⟩
         rw [List.getElem?_map] at ek
         obtain ⟨p, ep, rfl⟩ := Option.map_eq_some_iff.mp ek
         have hi := (gll ep)
         obtain ⟨u, eu, hum⟩ := get_of_lt (l := us) (i := i) (by lia)
         have hu1 := hul u hum
         simp only [CpIfs_n, CpIfs_o, CpIn_n, if_true]
         ac_rfl
         refine K_len (by left) ?_
         ac_rfl
         refine G_dct (i := [p.1, p.2]) (by rw [List.getElem?_map, ep]; rfl) (by rw [List.getElem?_map, eu]; rfl) ?_
         ac_rfl
         refine C_len AsList.lst (by simp; lia) ?_
         refine ⟨by simp; lia, rfl, ?_⟩
         rw [take_snoc eu, List.map_append, List.length_map]; rfl
       ·ac_rfl
        exact Ret.keep (h _)
end
end Mine
set_option maxHeartbeats 8000000
set_option tactic.hygienic true
namespace Mine
theorem intsV_of {vs : List Value} {ns : List Int} (h : IntsAre vs ns) : IntsV ns vs := by
 induction h with
 | nil => exact .nil
 | cons n t r ih => exact .cons ⟨t, rfl⟩ ih
theorem call_end (hlaw : ∀ (X : Wx) (ns : List Int), ns.length ≤ 63 → Cl X.W 0 (.ref 404) [.lst (ns.map V.int)] [] fun a H => a = .bool true)
  {p : Program} {w : World} {s : Shared} {mg mb : Str → Option Value} (KX : (Hk.K w.params).In s.heap) (g : s.heap.Ns mainGlobals mg) (b : s.heap.Ns builtinsNs mb) (bl : ∀ x : Str, x ≠ "__name__" → mb x = bootBuiltins x)
  (nl : s.heap.NoLimit) (two : ∃ o, s.heap.get? cStatics = some o) {fa a : Addr} (hmg : mg (Str.ofString "law") = some (.ref fa)) {vs : List Value} {ns : List Int} (hI : IntsAre vs ns) {n : Nat}
  (hL : s.heap.get? a = some { cls := .type "list", data := .seq vs.toArray n }) (hl : ns.length ≤ 63) {Q : Value → Shared → Prop} {E : Value → Shared → Prop}
  (k : ∀ s' : Shared, s'.gens = s.gens → s'.os = s.os → (∀ b o, s.heap.get? b = some o → s'.heap.get? b = some o) → Q (.bool true) s') : wpAny (model p w) callerA (call (.ref fa) [.ref a]) Q E s := by
 have e : fa = 404 := by
  have h := mg_of (n := Str.ofString "law") (v := .ref 404) KX g (by kernel_rfl)
  rw [hmg] at h
  exact Value.ref.inj (Option.some.inj h)
 subst e
 have nolive : ∀ b, ¬ Live [] [] b := fun b ⟨k, o, p, e, _⟩ => by simp at e
 refine wpAny_mono (hlaw ⟨p, w, s.heap, mg, mb⟩ ns hl callerA [] [] s [.ref a] ⟨rfl, by decide, by decide, by decide⟩ ⟨rfl, fun _ _ e => e, fun k o p e => by simp at e, fun k j o o' p q _ e => by simp at e, fun b q => (nolive b q).elim, fun b q => by simp at q, fun b q => (nolive b q).elim, two, ⟨KX, g, b, bl, nl⟩⟩ ?_) ?_ ?_
 ·refine ⟨_, [], rfl, ⟨a, vs, rfl, ⟨n, hL⟩, fun q => q.elim (nolive a) (by simp), (intsV_of hI).vr⟩, rfl⟩
 ·rintro v s' ⟨b, H', μ', K, I, r, rfl⟩
  rw [show v = .bool true from r]
  exact k s' K.gens K.os fun b o e => K.keep b o e (nolive b) (by simp)
 ·intro e s' h; exact h.elim
theorem end_of (hlaw : ∀ (X : Wx) (ns : List Int), ns.length ≤ 63 → Cl X.W 0 (.ref 404) [.lst (ns.map V.int)] [] fun a H => a = .bool true) : PySem.Challenge.rw_pq0557_01.Holds := by
 refine Hk.top ?_
 intro w s₀ s₁ mg mb G Y fa o pm cd doc dV kV ho hd hcd hD hmg hg args vals as hpre hlay hrd hwl hlo
 have KX := kIn_of Y
 refine Classical.byContradiction fun no => ?_
 wrow_args hpre hlay hrd hwl hlo
 clear hd hD hcd
 replace hmg : mg (Str.ofString "law") = some (.ref fa) := hmg
 rename_i ns _ _ _ _ _ _ _ la vs _ hL ra w1 _ hI _ hc _
 obtain ⟨mc, ⟨oS, _, _, hS, _⟩, _⟩ := G.T.nodigits
 obtain ⟨lo, hlo, lc, ln, ld⟩ := hL
 have ho' : ∃ n, s₁.heap.get? la = some { cls := .type "list", data := .seq vs.toArray n } := by
  generalize hz : ofPy (PyData.list (List.map PyData.int ns)) = z at w1
  cases w1 with
  | list h1 h2 =>
   rw [hlo] at h1; cases h1
   simp only at ld
   cases ld
   exact ⟨_, hlo⟩
  | _ => cases hz
 obtain ⟨n, hL⟩ := ho'
 refine no ?_
 refine call_end hlaw KX G.T.g G.T.b G.T.builtins G.T.nolimit ⟨_, hS⟩ hmg hI hL (by omega) fun s' hgn hos hk => ?_
 refine ⟨.inl ⟨.bool true, .bool true, [], rfl, fun _ => rfl, .bool true, ?_, fun _ => ⟨.nil, fun _ h => nomatch h⟩⟩, .of_keep hk, hos, .of_eq (hgn.trans hg)⟩
 wrow_post
end Mine
theorem PySem.Challenge.cw_pq0557_01_holds : PySem.Challenge.rw_pq0557_01.Holds := by
 exact Mine.end_of fun X ns hl => Mine.C_law (by omega) hl fun _ => rfl
end
